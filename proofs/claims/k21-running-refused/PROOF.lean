import PyProof.Rows.All
import HandS.ForMost
import HandS.Exc
import HandS.ExcCtx
import HandS.HotCalls
import HandS.Lambda
import HandS.EndTab
import HandS.TryOnly
import HandS.ExcOwn
import HandS.WordsExc
import HandS.IsInst
import HandS.Deep
import HandS.TupAny
import HandS.TupMul
import HandS.TupLe
import HandS.Zip
import HandS.Style
import HandS.Wide
import HandS.HeadHook1
import HandS.HeadHook2
import KE.KDictKeyed
import HandS.SortRule
import KE.GoesEnum
import HandS.SetFor
import HandS.Ends
import HandS.HeadEnd
import HandS.Conv
import PyProof.DictDisplay
import HandS.Hot
import PyProof.Rows.SumAny
import HandS.ExcIs
import HandS.HeadWalk
import KE.GoesMore
import KE.KDictZip
import KE.KDictDisplayH
import KE.KDictPairs
import HandS.DictComp
import KE.SortData
import KE.KDictCopyH
import KE.KDictSum
import KE.KTupSum
import KE.DataMinMax
import PyProof.Rows.CallKwBuiltin
import KE.GoesRaise
import HandS.Text
import HandS.FStr
import KE.DataMinKey
import KE.DataFind
import HandS.Strs
import Wide.All
import OpenK.AllK
import Wide.FinOn
import KE.KStateDown
import HandS.Base
import HandS.Call
import HandS.More
import HandS.Words
import HandS.Defaults
import HandS.Head0
import HandS.Head1
import HandS.Head2
import PySem.Challenge.RW_hearsong_k21_running_refused
set_option Elab.async false
set_option linter.all false
set_option maxRecDepth 100000
set_option maxHeartbeats 1000000
namespace DL
open PySem PySem.Spec PyProof.Rows L2
abbrev St := L2.St
/-- the text's frame and the world -/
structure KW where
  k : PySem.W.Frag
  w : World
instance : Coe KW PySem.W.Frag := ⟨KW.k⟩
abbrev _root_.L2.Cx.kw (X : Cx) : KW := ⟨X.K, X.w⟩
mutual
def nkey : PyData → Option NestedKey
  | .none => some .none
  | .bool b => some (.num (if b = true then 1 else 0))
  | .int i => some (.num i)
  | .str x => some (.text x)
  | .tuple ds => (nkeys ds).map .tup
  | .list _ => none
  | .dict _ => none
def nkeys : List PyData → Option (List NestedKey)
  | [] => some []
  | d :: ds => (nkey d).bind fun k => (nkeys ds).map fun ks => k :: ks
end
/-- at a stands an exact dict of the entries xs: key, the key's address, value -/
def XOk (w : World) (a : Addr) (xs : List (NestedKey × Addr × L2.V)) (ep : Nat) (h : Heap) : Prop := xs.length ≤ sizeLine ∧ (a == sysModules) = false ∧ (xs.map (·.1)).Nodup ∧ ∃ (us : List (NestedKey × Addr × Value)) (o : Obj) (es : Array DictEntry),
  Paired (fun (x : NestedKey × Addr × L2.V) (u : NestedKey × Addr × Value) => x.1 = u.1 ∧ x.2.1 = u.2.1 ∧ RelV x.2.2 u.2.2) xs us ∧ h.get? a = some o ∧ o.ExactDict ∧ o.data = .dict es ep ∧ es.toList = us.map fun u => ⟨u.1.hash w, .ref u.2.1, u.2.2⟩
def dX (w : World) (a : Addr) (xs : List (NestedKey × Addr × L2.V)) (ep : Nat) : HO := .ext (XOk w a xs ep)
theorem rd_same {H H' : Hp} (e : Same H H') {a : Addr} {u : HO} (h : L2.Rd H a u) : L2.Rd H' a u := h.elim (fun h => .inl (e _ _ h)) fun ⟨o, h⟩ => .inr ⟨o, e _ _ h⟩
def keyD : Key → PyData
  | .inl i => .int i
  | .inr x => .str x
mutual
inductive Rep (K : KW) (H : Hp) : V → PyData → Prop
  | non : Rep K H .non .none
  | bl (b : Bool) : Rep K H (.bl b) (.bool b)
  | int (i : Int) : Rep K H (.int i) (.int i)
  | str (x : Str) : Rep K H (.str x) (.str x)
  | lst {a : Addr} {xs : List V} {ds : List PyData} : H a = some (.lst xs) → RepL K H xs ds → Rep K H (.ref a) (.list ds)
  | tup {a : Addr} {xs : List V} {ds : List PyData} : H a = some (.tup xs) → RepL K H xs ds → Rep K H (.ref a) (.tuple ds)
  | dk {a : Addr} {kvs : List (Key × V)} {ps : List (PyData × PyData)} : L2.Rd H a (.dK kvs) → RepK K H kvs ps → ps ≠ [] → Rep K H (.ref a) (.dict ps)
  | dt {a : Addr} {xs : List (NestedKey × Addr × V)} {ep : Nat} {ps : List (PyData × PyData)} : H a = some (dX K.w a xs ep) → RepT K H xs ps → Rep K H (.ref a) (.dict ps)
inductive RepL (K : KW) (H : Hp) : List V → List PyData → Prop
  | nil : RepL K H [] []
  | cons {v : V} {vs : List V} {d : PyData} {ds : List PyData} : Rep K H v d → RepL K H vs ds → RepL K H (v :: vs) (d :: ds)
inductive RepK (K : KW) (H : Hp) : List (Key × V) → List (PyData × PyData) → Prop
  | nil : RepK K H [] []
  | cons {k : Key} {v : V} {kvs : List (Key × V)} {d : PyData} {ps : List (PyData × PyData)} : Rep K H v d → RepK K H kvs ps → RepK K H ((k, v) :: kvs) ((keyD k, d) :: ps)
inductive RepT (K : KW) (H : Hp) : List (NestedKey × Addr × V) → List (PyData × PyData) → Prop
  | nil : RepT K H [] []
  | cons {k : NestedKey} {b : Addr} {v : V} {xs : List (NestedKey × Addr × V)} {dk d : PyData} {ps : List (PyData × PyData)} : Rep K H (.ref b) dk → nkey dk = some k → k.depth ≤ 8 → Rep K H v d → RepT K H xs ps → RepT K H ((k, b, v) :: xs) ((dk, d) :: ps)
end
theorem sqt {K : PySem.W.Frag} {V H : Hp} {a : Addr} {xs : List L2.V} (e : Same V H) (h : V a = some (.tup xs)) : SqT K H a xs := .inl (.inl (e _ _ h))
mutual
theorem Rep.mono {K : KW} {H H' : Hp} (e : Same H H') : ∀ {v : V} {d : PyData}, Rep K H v d → Rep K H' v d
  | _, _, .non => .non
  | _, _, .bl b => .bl b
  | _, _, .int i => .int i
  | _, _, .str x => .str x
  | _, _, .lst h r => .lst (e _ _ h) (RepL.mono e r)
  | _, _, .tup h r => .tup (e _ _ h) (RepL.mono e r)
  | _, _, .dk h r n => .dk (rd_same e h) (RepK.mono e r) n
  | _, _, .dt h r => .dt (e _ _ h) (RepT.mono e r)
theorem RepL.mono {K : KW} {H H' : Hp} (e : Same H H') : ∀ {vs : List V} {ds : List PyData}, RepL K H vs ds → RepL K H' vs ds
  | _, _, .nil => .nil
  | _, _, .cons r t => .cons (Rep.mono e r) (RepL.mono e t)
theorem RepK.mono {K : KW} {H H' : Hp} (e : Same H H') : ∀ {vs : List (Key × V)} {ds : List (PyData × PyData)}, RepK K H vs ds → RepK K H' vs ds
  | _, _, .nil => .nil
  | _, _, .cons r t => .cons (Rep.mono e r) (RepK.mono e t)
theorem RepT.mono {K : KW} {H H' : Hp} (e : Same H H') : ∀ {vs : List (NestedKey × Addr × V)} {ds : List (PyData × PyData)}, RepT K H vs ds → RepT K H' vs ds
  | _, _, .nil => .nil
  | _, _, .cons q n z r t => .cons (Rep.mono e q) n z (Rep.mono e r) (RepT.mono e t)
end
theorem RepL.length {K : KW} {H : Hp} : ∀ {vs : List V} {ds : List PyData}, RepL K H vs ds → vs.length = ds.length
  | _, _, .nil => rfl
  | _, _, .cons _ t => by simp [RepL.length t]
theorem RepL.get {K : KW} {H : Hp} : ∀ {vs : List V} {ds : List PyData} (i : Nat) {d : PyData}, RepL K H vs ds → ds[i]? = some d → ∃ v, vs[i]? = some v ∧ Rep K H v d
  | _, _, _, _, .nil, h => by simp at h
  | _, _, 0, _, .cons r t, h => by simp at h; subst h; exact ⟨_, rfl, r⟩
  | _, _, i + 1, _, .cons r t, h => by
    obtain ⟨v, h1, h2⟩ := RepL.get i t (by simpa using h)
    exact ⟨v, by simpa using h1, h2⟩
theorem RepL.append {K : KW} {H : Hp} : ∀ {vs us : List V} {ds es : List PyData}, RepL K H vs ds → RepL K H us es → RepL K H (vs ++ us) (ds ++ es)
  | _, _, _, _, .nil, h => h
  | _, _, _, _, .cons r t, h => .cons r (RepL.append t h)
theorem RepL.drop {K : KW} {H : Hp} : ∀ (n : Nat) {vs : List V} {ds : List PyData}, RepL K H vs ds → RepL K H (vs.drop n) (ds.drop n)
  | 0, _, _, h => h
  | _ + 1, _, _, .nil => .nil
  | n + 1, _, _, .cons _ t => RepL.drop n t
theorem RepL.take {K : KW} {H : Hp} : ∀ (n : Nat) {vs : List V} {ds : List PyData}, RepL K H vs ds → RepL K H (vs.take n) (ds.take n)
  | 0, _, _, _ => .nil
  | _ + 1, _, _, .nil => .nil
  | n + 1, _, _, .cons r t => .cons r (RepL.take n t)
theorem RepL.set {K : KW} {H : Hp} {v : V} {d : PyData} (r : Rep K H v d) : ∀ (i : Nat) {vs : List V} {ds : List PyData}, RepL K H vs ds → RepL K H (vs.set i v) (ds.set i d)
  | _, _, _, .nil => .nil
  | 0, _, _, .cons _ t => .cons r t
  | i + 1, _, _, .cons q t => .cons q (RepL.set r i t)
theorem RepL.rep {K : KW} {H : Hp} {vs : List V} {ds : List PyData} (h : RepL K H vs ds) : ∀ n : Nat, RepL K H (List.replicate n vs).flatten (List.replicate n ds).flatten
  | 0 => .nil
  | n + 1 => by
    rw [List.replicate_succ, List.replicate_succ]
    exact h.append (h.rep n)
mutual
def imm : PyData → Bool
  | .none => true
  | .bool _ => true
  | .int _ => true
  | .str _ => true
  | .tuple ds => immL ds
  | .list _ => false
  | .dict _ => false
def immL : List PyData → Bool
  | [] => true
  | d :: ds => imm d && immL ds
end
/-- every tuple of H stands in H' -/
def SameT (H H' : Hp) : Prop := (∀ b xs, H b = some (.tup xs) → H' b = some (.tup xs)) ∧ ∀ b o xs, H b = some (.frz o (.tup xs)) → H' b = some (.frz o (.tup xs))
mutual
theorem Rep.imm {K : KW} {H H' : Hp} (e : SameT H H') : ∀ {v : V} {d : PyData}, Rep K H v d → imm d = true → Rep K H' v d
  | _, _, .non, _ => .non
  | _, _, .bl b, _ => .bl b
  | _, _, .int i, _ => .int i
  | _, _, .str x, _ => .str x
  | _, _, .lst h r, q => by simp [DL.imm] at q
  | _, _, .tup h r, q => .tup (e.1 _ _ h) (RepL.imm e r (by simpa [DL.imm] using q))
  | _, _, .dk h r _, q => by simp [DL.imm] at q
  | _, _, .dt h r, q => by simp [DL.imm] at q
theorem RepL.imm {K : KW} {H H' : Hp} (e : SameT H H') : ∀ {vs : List V} {ds : List PyData}, RepL K H vs ds → immL ds = true → RepL K H' vs ds
  | _, _, .nil, _ => .nil
  | _, _, .cons r t, q => by
    have q' := Bool.and_eq_true_iff.mp q
    exact .cons (Rep.imm e r q'.1) (RepL.imm e t q'.2)
end
mutual
theorem Rep.dp {K : KW} {H : Hp} : ∀ {v : V} {d : PyData}, Rep K H v d → d.canLay0 = true → Dp K H v d
  | _, _, .non, _ => .non
  | _, _, .bl b, _ => .bl b
  | _, _, .int i, _ => .int i
  | _, _, .str x, _ => .str x
  | _, _, .lst h r, q => .lst (.inl (.inl h)) (RepL.dp r (by simpa [PyData.canLay0] using q))
  | _, _, .tup h r, q => .tup (.inl (.inl h)) (RepL.dp r (by simpa [PyData.canLay0] using q))
  | _, _, .dk h r _, q => by simp [PyData.canLay0] at q
  | _, _, .dt h r, q => by simp [PyData.canLay0] at q
theorem RepL.dp {K : KW} {H : Hp} : ∀ {vs : List V} {ds : List PyData}, RepL K H vs ds → PyData.canLayAll0 ds = true → DpAll K H vs ds
  | _, _, .nil, _ => .nil
  | _, _, .cons r t, q => by
    have q' := Bool.and_eq_true_iff.mp q
    exact .cons (Rep.dp r q'.1) (RepL.dp t q'.2)
end
/-- defs that make lambdas -/
def lamNames : List Str := ["law", "_law_names_refused", "_law_rows_refused", "silent_from", "all_soonest", "found_leading", "parting"]
/-- a def's code object and its table -/
def tabOf (K : PySem.W.Frag) (x : Str) : Option (Addr × Addr) := match K.lookup (He.ga K x) with
  | some ⟨_, _, .func fd, _⟩ => (match fd.code with
    | .ref c => (match K.lookup c with
      | some ⟨_, _, .fields vs, _⟩ => (match (vs[11]? : Option Value) with
        | some (Value.ref p) => some (c, p)
        | _ => none)
      | _ => none)
    | _ => none)
  | _ => none
def tabs (K : PySem.W.Frag) : List (Addr × Str) := lamNames.filterMap fun x => (tabOf K x).map fun q => (q.2, x ++ ".<locals>.<lambda>")
abbrev nT (o : HO) : Prop := ∀ ps, o ≠ .tbl ps
/-- no table, no code object -/
structure Plain (o : HO) : Prop where
  t : nT o
  c : ∀ c q, o ≠ LamX.CodeO c q
theorem plain_lst {xs : List V} : Plain (.lst xs) := ⟨fun _ z => (by cases z), fun _ _ z => (by unfold LamX.CodeO at z; cases z)⟩
theorem plain_dK {xs : List (Key × V)} : Plain (.dK xs) := ⟨fun _ z => (by cases z), fun _ _ z => (by unfold LamX.CodeO at z; cases z)⟩
theorem plain_frz {o : Obj} {u : HO} : Plain (.frz o u) := ⟨fun _ z => (by cases z), fun _ _ z => (by unfold LamX.CodeO at z; cases z)⟩
theorem plain_dX {w : World} {a : Addr} {xs : List (NestedKey × Addr × V)} {ep : Nat} : Plain (dX w a xs ep) := by
  refine ⟨fun _ z => (by unfold dX at z; cases z), fun c q z => ?_⟩
  unfold LamX.CodeO dX at z
  have e := HO.ext.inj z
  have e2 := congrFun e { objs := Array.replicate (c + 1) { cls := .none, data := .fields #[.none, .str q 0] } }
  have k : XOk w a xs ep { objs := Array.replicate (c + 1) { cls := .none, data := .fields #[.none, .str q 0] } } := by
    rw [e2]
    refine ⟨{ cls := .none, data := .fields #[.none, .str q 0] }, #[.none, .str q 0], 0, ?_, rfl, rfl⟩
    simp [Heap.get?]
  obtain ⟨_, _, _, us, o, es, _, ho, _, hd, _⟩ := k
  unfold Heap.get? at ho
  simp only [Array.getElem?_replicate] at ho
  split at ho
  · cases ho
  · split at ho
    · cases ho; cases hd
    · cases ho
theorem tabs_upd {T : List (Addr × Str)} {H : Hp} {p : Addr} {o : HO} (h : ∀ x, H p = some x → Plain x) (t : LamX.Tabs T H) : LamX.Tabs T (upd H p o) := fun q hq => by
  obtain ⟨ps, h1, h2, h3⟩ := t q hq
  refine ⟨ps, ?_, h2, fun pos cv hc => ?_⟩
  · rw [upd_ne (fun z => (h _ (by rw [← z]; exact h1)).t _ rfl)]; exact h1
  · obtain ⟨c, e1, e2⟩ := h3 pos cv hc
    refine ⟨c, e1, ?_⟩
    rw [upd_ne (fun z => (h _ (by rw [← z]; exact e2)).c _ _ rfl)]; exact e2
/-- the tables, each with the name of its code objects -/
class TabCtx where
  T : List (Addr × Str)
variable [TabCtx]
abbrev TBS : List (Addr × Str) := TabCtx.T
def TabV (H V : Hp) : Prop := LamX.Tabs TBS H ∧ ∀ p ∈ TBS, V p.1 = none
structure Ext (H V H' V' : Hp) : Prop where
  h : LamX.ExtN H H'
  v : Same V V'
  s : Same V' H'
  f : ∀ b, V b = none → H b ≠ none → V' b = none
  th : ∀ b, H b ≠ none → H' b ≠ none
  t : LamX.Tabs TBS H → LamX.Tabs TBS H'
theorem Same.th {H H' : Hp} (e : Same H H') (b : Addr) (h : H b ≠ none) : H' b ≠ none := by
  cases q : H b with
  | none => exact absurd q h
  | some o => rw [e b o q]; exact fun z => nomatch z
theorem Ext.of {H V H' V' : Hp} (h : Same H H') (v : Same V V') (s : Same V' H') (f : ∀ b, V b = none → H b ≠ none → V' b = none) : Ext H V H' V' :=
  ⟨LamX.ExtN.of h, v, s, f, Same.th h, fun t => t.ext h⟩
theorem Ext.refl {H V : Hp} (s : Same V H) : Ext H V H V := .of (Same.refl _) (Same.refl _) s fun _ h _ => h
theorem Ext.trans {H V H1 V1 H2 V2 : Hp} (a : Ext H V H1 V1) (b : Ext H1 V1 H2 V2) : Ext H V H2 V2 :=
  ⟨a.h.trans b.h, a.v.trans b.v, b.s, (fun c h1 h2 => b.f c (a.f c h1 h2) (a.th c h2)), (fun c h => b.th c (a.th c h)), fun t => b.t (a.t t)⟩
theorem Ext.free {H V H' V' : Hp} (x : Ext H V H' V') {b : Addr} (h : H' b = none) : H b = none := by
  cases e : H b with
  | none => rfl
  | some o => exact absurd h (x.th b (by rw [e]; exact fun z => nomatch z))
theorem same_new {H : Hp} {p : Addr} {o : HO} (h : H p = none) : Same H (upd H p o) := fun b x e => by
  rw [upd_ne (ne_of_none e h)]
  exact e
theorem Ext.new {H V : Hp} {p : Addr} {o : HO} (s : Same V H) (h : H p = none) : Ext H V (upd H p o) (upd V p o) := by
  have hv : V p = none := s.free h
  refine .of (same_new h) (same_new hv) (fun b x e => ?_) (fun b h1 h2 => ?_)
  · by_cases q : b = p
    · subst q; rw [upd_same] at e ⊢; exact e
    · rw [upd_ne q] at e ⊢; exact s b x e
  · rw [upd_ne (fun q => h2 (by rw [q]; exact h))]; exact h1
/-- a new cell that is not seen -/
theorem Ext.hid {H V : Hp} {p : Addr} {o : HO} (s : Same V H) (h : H p = none) : Ext H V (upd H p o) V :=
  .of (same_new h) (Same.refl _) (s.trans (same_new h)) fun _ h1 _ => h1
inductive R (α : Type) where
  | ok (a : α)
  | exc (c : Str)
  | bad
def R.bind {α β : Type} (r : R α) (k : α → R β) : R β := match r with
  | .ok a => k a
  | .exc c => .exc c
  | .bad => .bad
instance : Monad R where
  pure := R.ok
  bind := R.bind
/-- a running song: what it was made of, choir and standing now, what was sung, its deeds, what undo needs -/
structure Ob where
  first : PyData
  crew : PyData
  stand : PyData
  sung : List PyData
  deeds : List PyData
  past : List PyData
/-- a slot: nothing, data that may be shared, a list or a dict that this slot alone knows, a running song -/
inductive Sl where
  | no
  | sh (d : PyData)
  | ow (d : PyData)
  | ob (o : Ob)
abbrev Rho := List Sl
def M (α : Type) : Type := Rho → R (α × Rho)
def M.pure {α : Type} (a : α) : M α := fun ρ => .ok (a, ρ)
def M.bind {α β : Type} (f : M α) (k : α → M β) : M β := fun ρ => match f ρ with
  | .ok (a, ρ') => k a ρ'
  | .exc c => .exc c
  | .bad => .bad
instance : Monad M where
  pure := M.pure
  bind := M.bind
/-- an answer, the slots as they are -/
def M.lift {α : Type} (r : R α) : M α := fun ρ => match r with
  | .ok a => .ok (a, ρ)
  | .exc c => .exc c
  | .bad => .bad
def M.opt {α : Type} (r : Option α) : M α := fun ρ => match r with
  | some a => .ok (a, ρ)
  | none => .bad
/-- what is wanted of exceptions; the frame's entry: all of the heap, what is seen; the slot 0's own address, where it is lent -/
structure Fr where
  H0 : Hp
  V0 : Hp
  lent : Option Addr
  W : Value → St → Hp → Prop
  /-- the slot that is lent -/
  ls : Nat
  /-- the running songs that slots may hold -/
  obs : Addr → Prop
theorem ne_ls {i l : Nat} (h : Nat.beq i l = false) : i ≠ l := fun z => by subst z; rw [Nat.beq_refl] at h; cases h
theorem nm_ls {l : Nat} {vs : List Nat} (h : vs.contains l = false) : l ∉ vs := fun z => by
  have := List.contains_iff_mem.mpr z
  rw [h] at this; cases this
def OwnAt (K : KW) (V H : Hp) (a : Addr) : PyData → Prop
  | .list ds => ∃ vs, H a = some (.lst vs) ∧ RepL K V vs ds
  | .dict ps => (∃ kvs, H a = some (.dK kvs) ∧ RepK K V kvs ps ∧ ps ≠ []) ∨ ∃ xs ep, H a = some (dX K.w a xs ep) ∧ RepT K V xs ps
  | _ => False
theorem OwnAt.there {K : KW} {V H : Hp} {a : Addr} {d : PyData} (h : OwnAt K V H a d) : ∃ o, H a = some o ∧ (∀ xs, o ≠ .tup xs) ∧ (∀ u xs, o ≠ .frz u (.tup xs)) ∧ Plain o := by
  cases d with
  | list ds => obtain ⟨vs, e, _⟩ := h; exact ⟨_, e, (fun _ z => nomatch z), (fun _ _ z => nomatch z), plain_lst⟩
  | dict ps =>
    rcases h with ⟨kvs, e, _⟩ | ⟨kvs, ep, e, _⟩
    · exact ⟨_, e, (fun _ z => nomatch z), (fun _ _ z => nomatch z), plain_dK⟩
    · exact ⟨_, e, (fun _ z => nomatch z), (fun _ _ z => nomatch z), plain_dX⟩
  | _ => exact h.elim
theorem OwnAt.plain {K : KW} {V H : Hp} {a : Addr} {d : PyData} (h : OwnAt K V H a d) : ∀ x, H a = some x → Plain x := fun x e => by
  obtain ⟨o, ho, _, _, p⟩ := h.there
  rw [e] at ho; cases ho; exact p
theorem OwnAt.mono {K : KW} {V H V' H' : Hp} {a : Addr} {d : PyData} (h : OwnAt K V H a d) (v : Same V V') (k : ∀ o, H a = some o → nT o → H' a = some o) : OwnAt K V' H' a d := by
  cases d with
  | list ds => obtain ⟨vs, e, r⟩ := h; exact ⟨vs, k _ e plain_lst.t, r.mono v⟩
  | dict ps =>
    rcases h with ⟨kvs, e, r, n⟩ | ⟨kvs, ep, e, r⟩
    · exact .inl ⟨kvs, k _ e plain_dK.t, r.mono v, n⟩
    · exact .inr ⟨kvs, ep, k _ e plain_dX.t, r.mono v⟩
  | _ => exact h.elim
/-- an own thing that is let go of is data like others -/
theorem OwnAt.rep {K : KW} {V H : Hp} {a : Addr} {d : PyData} (h : OwnAt K V H a d) (v : Same V H) : Rep K H (.ref a) d := by
  cases d with
  | list ds => obtain ⟨vs, e, r⟩ := h; exact .lst e (r.mono v)
  | dict ps =>
    rcases h with ⟨kvs, e, r, n⟩ | ⟨kvs, ep, e, r⟩
    · exact .dk (.inl e) (r.mono v) n
    · exact .dt e (r.mono v)
  | _ => exact h.elim
/-- the lists of a running song are its own -/
def obF : List Str := ["sung", "deeds", "past"]
/-- an object's own cells -/
def Foot (H : Hp) (a b : Addr) : Prop := b = a ∨ ∃ C dx fs, H a = some (.ins C dx fs) ∧ (b = dx ∨ ∃ f ∈ obF, fs.lookup f = some (.ref b))
/-- a running song at a: its cells are not seen -/
structure ObAt (K : KW) (V H : Hp) (a : Addr) (o : Ob) : Prop where
  ins : ∃ dx ls ld lp v1 v2 v3 xs ys zs fs, H a = some (.ins (He.ga K.k "Running") dx fs) ∧ H dx = some (.own a) ∧ (fs.lookup ("first" : Str) = some v1 ∧ fs.lookup ("crew" : Str) = some v2 ∧ fs.lookup ("stand" : Str) = some v3 ∧ fs.lookup ("sung" : Str) = some (.ref ls) ∧ fs.lookup ("deeds" : Str) = some (.ref ld) ∧ fs.lookup ("past" : Str) = some (.ref lp)) ∧
    (∀ f, f ∉ (["first", "crew", "stand", "sung", "deeds", "past"] : List Str) → fs.lookup f = none) ∧ fs.length ≤ 20 ∧ (H ls = some (.lst xs) ∧ H ld = some (.lst ys) ∧ H lp = some (.lst zs)) ∧ (ls ≠ ld ∧ ls ≠ lp ∧ ld ≠ lp) ∧
    (Rep K V v1 o.first ∧ Rep K V v2 o.crew ∧ Rep K V v3 o.stand) ∧ RepL K V xs o.sung ∧ RepL K V ys o.deeds ∧ RepL K V zs o.past
  hid : ∀ b, Foot H a b → V b = none
/-- what slots hold of running songs -/
structure ObE (K : KW) (F : Fr) (σ : St) (ρ : Rho) : Prop where
  at_ : ∀ (i : Nat) (o : Ob), ρ[i]? = some (.ob o) → ∃ a, σ[i]? = some (some (.ref a)) ∧ F.obs a ∧ ObAt K F.V0 F.H0 a o
  dis : ∀ (i j : Nat) (a : Addr) (o p : Ob), ρ[i]? = some (.ob o) → ρ[j]? = some (.ob p) → σ[i]? = some (some (.ref a)) → σ[j]? = some (some (.ref a)) → i = j
theorem ObE.sub {K : KW} {F : Fr} {σ σ' : St} {ρ ρ' : Rho} (E : ObE K F σ ρ) (h : ∀ (i : Nat) (o : Ob), ρ'[i]? = some (.ob o) → ρ[i]? = some (.ob o) ∧ σ'[i]? = σ[i]?) : ObE K F σ' ρ' := by
  refine ⟨fun i o e => ?_, fun i j a o p e1 e2 e3 e4 => ?_⟩
  · obtain ⟨h1, h2⟩ := h i o e
    rw [h2]; exact E.at_ i o h1
  · obtain ⟨h1, h2⟩ := h i o e1
    obtain ⟨h3, h4⟩ := h j p e2
    rw [h2] at e3
    rw [h4] at e4
    exact E.dis i j a o p h1 h3 e3 e4
theorem ObE.non {K : KW} {F : Fr} {σ : St} {ρ : Rho} (h : ∀ (i : Nat) (o : Ob), ρ[i]? ≠ some (.ob o)) : ObE K F σ ρ := ⟨fun i o e => absurd e (h i o), fun i _ _ o _ e => absurd e (h i o)⟩
/-- a slot is given what is no running song -/
theorem ObE.set {K : KW} {F : Fr} {σ : St} {ρ : Rho} (E : ObE K F σ ρ) {i : Nat} {x : Option L2.V} {s : Sl} (hs : ∀ o, s ≠ .ob o) : ObE K F (σ.set i x) (ρ.set i s) := E.sub fun j o e => by
  by_cases h : i = j
  · subst h
    by_cases hi : i < ρ.length
    · rw [List.getElem?_set_self hi] at e
      exact absurd (Option.some.inj e) (hs o)
    · rw [List.getElem?_eq_none (by simpa using hi)] at e; cases e
  · rw [List.getElem?_set_ne h] at e ⊢
    exact ⟨e, rfl⟩
theorem ObE.setR {K : KW} {F : Fr} {σ : St} {ρ : Rho} (E : ObE K F σ ρ) {i : Nat} {s : Sl} (hs : ∀ o, s ≠ .ob o) : ObE K F σ (ρ.set i s) := E.sub fun j o e => by
  by_cases h : i = j
  · subst h
    by_cases hi : i < ρ.length
    · rw [List.getElem?_set_self hi] at e
      exact absurd (Option.some.inj e) (hs o)
    · rw [List.getElem?_eq_none (by simpa using hi)] at e; cases e
  · rw [List.getElem?_set_ne h] at e
    exact ⟨e, rfl⟩
structure EnvR (K : KW) (F : Fr) (H V : Hp) (σ : St) (ρ : Rho) : Prop where
  len : σ.length = ρ.length
  ext : Ext F.H0 F.V0 H V
  sh : ∀ (i : Nat) (d : PyData), ρ[i]? = some (.sh d) → ∃ v, σ[i]? = some (some v) ∧ Rep K V v d
  ow : ∀ (i : Nat) (d : PyData), ρ[i]? = some (.ow d) → ∃ a, σ[i]? = some (some (.ref a)) ∧ V a = none ∧ F.H0 a = none ∧ OwnAt K V H a d
  dis : ∀ (i j : Nat) (a : Addr) (d e : PyData), ρ[i]? = some (.ow d) → ρ[j]? = some (.ow e) → σ[i]? = some (some (.ref a)) → σ[j]? = some (some (.ref a)) → i = j
  lent : ∀ a, F.lent = some a → σ[F.ls]? = some (some (.ref a))
  tab : TabV F.H0 F.V0
  ob : ObE K F σ ρ
theorem EnvR.tabs {K : KW} {F : Fr} {H V : Hp} {σ : St} {ρ : Rho} (E : EnvR K F H V σ ρ) : TabV H V := ⟨E.ext.t E.tab.1, fun p hp => E.ext.f p.1 (E.tab.2 p hp) (by
  obtain ⟨ps, h, _⟩ := E.tab.1 p hp
  rw [h]; exact fun z => nomatch z)⟩
def IsOwn (σ : St) (ρ : Rho) (b : Addr) : Prop := ∃ (i : Nat) (d : PyData), ρ[i]? = some (.ow d) ∧ σ[i]? = some (some (.ref b))
/-- what an expression does -/
structure Stp (K : KW) (F : Fr) (σ : St) (ρ ρ' : Rho) (H V H' V' : Hp) : Prop where
  env : EnvR K F H' V' σ ρ'
  v : Same V V'
  keep : ∀ b o, H b = some o → nT o → ¬ IsOwn σ ρ b → H' b = some o
  own : ∀ b, IsOwn σ ρ' b → IsOwn σ ρ b
  shs : ∀ (i : Nat) (d : PyData), ρ'[i]? = some (.sh d) → ρ[i]? = some (.sh d)
  f : ∀ b, V b = none → H b ≠ none → V' b = none
  th : ∀ b, H b ≠ none → H' b ≠ none
section
variable {K : KW} {F : Fr} {σ : St} {ρ ρ1 ρ2 : Rho} {H V H1 V1 H2 V2 : Hp}
theorem Stp.trans (a : Stp K F σ ρ ρ1 H V H1 V1) (b : Stp K F σ ρ1 ρ2 H1 V1 H2 V2) : Stp K F σ ρ ρ2 H V H2 V2 :=
  ⟨b.env, a.v.trans b.v, fun c o e nt n => b.keep c o (a.keep c o e nt n) nt fun q => n (a.own c q), (fun c q => a.own c (b.own c q)), (fun i d q => a.shs i d (b.shs i d q)), (fun c h1 h2 => b.f c (a.f c h1 h2) (a.th c h2)), fun c h => b.th c (a.th c h)⟩
theorem EnvR.grow (E : EnvR K F H V σ ρ) (e : Ext H V H1 V1) : EnvR K F H1 V1 σ ρ := by
  refine ⟨E.len, E.ext.trans e, fun i d h => ?_, fun i d h => ?_, E.dis, E.lent, E.tab, E.ob⟩
  · obtain ⟨v, h1, h2⟩ := E.sh i d h
    exact ⟨v, h1, h2.mono e.v⟩
  · obtain ⟨a, h1, h2, h3, h4⟩ := E.ow i d h
    obtain ⟨o, ho, _⟩ := h4.there
    exact ⟨a, h1, e.f a h2 (by rw [ho]; exact fun q => nomatch q), h3, h4.mono e.v fun o q n => e.h _ _ q n⟩
theorem EnvR.step (E : EnvR K F H V σ ρ) (e : Ext H V H1 V1) : Stp K F σ ρ ρ H V H1 V1 := ⟨E.grow e, e.v, (fun b o q n _ => e.h b o q n), (fun _ q => q), (fun _ _ q => q), e.f, e.th⟩
theorem EnvR.refl (E : EnvR K F H V σ ρ) : Stp K F σ ρ ρ H V H V := ⟨E, Same.refl _, (fun _ _ q _ _ => q), (fun _ q => q), (fun _ _ q => q), (fun _ h _ => h), fun _ h => h⟩
theorem EnvR.sub (E : EnvR K F H V σ ρ) : Same V H := E.ext.s
/-- what is wanted behind an expression -/
def Goal {α β : Type} (K : KW) (F : Fr) (σ : St) (ρ : Rho) (H V : Hp) (rep : Hp → β → α → Prop) (r : R (α × Rho)) (Q : β → Hp → Prop) : Prop := match r with
  | .ok (a, ρ') => ∀ b H' V', Stp K F σ ρ ρ' H V H' V' → rep V' b a → Q b H'
  | .exc c => ∀ H' V', Ext F.H0 F.V0 H' V' → F.W (.ref (He.ga K c)) σ H'
  | .bad => False
theorem Goal.after {α β : Type} {rep : Hp → β → α → Prop} {r : R (α × Rho)} {Q : β → Hp → Prop} (st : Stp K F σ ρ ρ1 H V H1 V1) (g : Goal K F σ ρ H V rep r Q) : Goal K F σ ρ1 H1 V1 rep r Q := by
  cases r with
  | ok p => exact fun b H' V' s => g b H' V' (st.trans s)
  | exc c => exact g
  | bad => exact g
theorem Goal.bind {α β α' β' : Type} {rep1 : Hp → β → α → Prop} {rep2 : Hp → β' → α' → Prop} {f : M α} {k : α → M α'} {Q : β' → Hp → Prop} {Q1 : β → Hp → Prop}
    (g : Goal K F σ ρ H V rep2 (M.bind f k ρ) Q)
    (h : ∀ b a H' V' ρ', Stp K F σ ρ ρ' H V H' V' → rep1 V' b a → Goal K F σ ρ' H' V' rep2 (k a ρ') Q → Q1 b H') : Goal K F σ ρ H V rep1 (f ρ) Q1 := by
  unfold M.bind at g
  cases e : f ρ with
  | ok p =>
    obtain ⟨a, ρ'⟩ := p
    rw [e] at g
    exact fun b H' V' st r => h b a H' V' ρ' st r (Goal.after st g)
  | exc c => rw [e] at g; exact g
  | bad => rw [e] at g; exact g
end
section
variable (K : KW) (F : Fr)
def tM (f : M PyData) : TE := fun σ H Q => ∃ V ρ, EnvR K F H V σ ρ ∧ Goal K F σ ρ H V (Rep K) (f ρ) Q
def tMA (f : M (List PyData)) : TA := fun σ H Q => ∃ V ρ, EnvR K F H V σ ρ ∧ Goal K F σ ρ H V (RepL K) (f ρ) Q
def tMT (f : M Bool) : TT := fun σ H Q => ∃ V ρ, EnvR K F H V σ ρ ∧ Goal K F σ ρ H V (fun _ b a => b = a) (f ρ) Q
end
def PM (X : Cx) (F : Fr) (e : Expr) (f : M PyData) : Prop := PE X e (tM X.kw F f)
def PMA (X : Cx) (F : Fr) (es : List Expr) (f : M (List PyData)) : Prop := PA X es (tMA X.kw F f)
def PMT (X : Cx) (F : Fr) (e : Expr) (f : M Bool) : Prop := PT X e (tMT X.kw F f)
def PMW (X : Cx) (F : Fr) (e : Expr) (f : M Bool) : Prop := PW X e (tMT X.kw F f)
theorem PE.imp {X : Cx} {e : Expr} {t u : TE} (h : PE X e t) (i : ∀ σ H Q, u σ H Q → t σ H Q) : PE X e u := ⟨fun pins s σ H Q I q => h.run pins s σ H Q I (i σ H Q q)⟩
theorem PT.imp {X : Cx} {e : Expr} {t u : TT} (h : PT X e t) (i : ∀ σ H Q, u σ H Q → t σ H Q) : PT X e u := ⟨fun pins s σ H Q I q => h.run pins s σ H Q I (i σ H Q q)⟩
theorem PW.imp {X : Cx} {e : Expr} {t u : TT} (h : PW X e t) (i : ∀ σ H Q, u σ H Q → t σ H Q) : PW X e u := ⟨fun wh pins s σ H Q I q => h.run wh pins s σ H Q I (i σ H Q q)⟩
theorem PA.imp {X : Cx} {e : List Expr} {t u : TA} (h : PA X e t) (i : ∀ σ H Q, u σ H Q → t σ H Q) : PA X e u := ⟨fun pos pins s σ H Q I q => h.run pos pins s σ H Q I (i σ H Q q)⟩
theorem PS.imp {X : Cx} {e : Stmt} {t u : TS} (h : PS X e t) (i : ∀ D σ H, u D σ H → t D σ H) : PS X e u := ⟨fun pins s σ H D I q => h.run pins s σ H D I (i D σ H q)⟩
theorem PSs.imp {X : Cx} {e : List Stmt} {t u : TS} (h : PSs X e t) (i : ∀ D σ H, u D σ H → t D σ H) : PSs X e u := ⟨fun pins s σ H D I q => h.run pins s σ H D I (i D σ H q)⟩
end DL
set_option Elab.async false
set_option linter.all false
set_option maxRecDepth 100000
set_option maxHeartbeats 1000000
namespace DL
open PySem PySem.Spec PyProof.Rows L2
variable [TabCtx]
def LIM : Nat := 1000000
theorem lim_le : LIM ≤ sizeLine := by rw [sizeLine_eq]; decide
theorem lim_lt : LIM < sizeLine := by rw [sizeLine_eq]; decide
def vN (i : Nat) : M PyData := fun ρ => match ρ[i]? with
  | some (.sh d) => .ok (d, ρ)
  | _ => .bad
def cD (d : PyData) : M PyData := M.pure d
def op1 (g : PyData → Option PyData) (a : M PyData) : M PyData := M.bind a fun x => M.opt (g x)
def op2 (g : PyData → PyData → Option PyData) (a b : M PyData) : M PyData := M.bind a fun x => M.bind b fun y => M.opt (g x y)
def aN : M (List PyData) := M.pure []
def aC (a : M PyData) (r : M (List PyData)) : M (List PyData) := M.bind a fun x => M.bind r fun xs => M.pure (x :: xs)
def opA (g : List PyData → Option PyData) (a : M (List PyData)) : M PyData := M.bind a fun ds => M.opt (g ds)
def callM (m : List PyData → R PyData) (a : M (List PyData)) : M PyData := M.bind a fun ds => M.lift (m ds)
def gTupD (ds : List PyData) : Option PyData := if ds.length ≤ LIM then some (.tuple ds) else none
def gLstD (ds : List PyData) : Option PyData := if ds.length ≤ LIM then some (.list ds) else none
def asB : PyData → Option Bool
  | .bool b => some b
  | _ => none
def tst (a : M PyData) : M Bool := M.bind a fun x => M.opt (asB x)
def andT (a b : M Bool) : M Bool := M.bind a fun x => if x = true then b else M.pure false
def orT (a b : M Bool) : M Bool := M.bind a fun x => if x = true then M.pure true else b
def notT (a : M Bool) : M Bool := M.bind a fun x => M.pure (!x)
def andV (a b : M PyData) : M PyData := M.bind a fun x => M.bind (M.opt (asB x)) fun c => if c = true then b else M.pure (.bool false)
def orV (a b : M PyData) : M PyData := M.bind a fun x => M.bind (M.opt (asB x)) fun c => if c = true then M.pure (.bool true) else b
def notV (a : M PyData) : M PyData := op1 (fun x => (asB x).map fun b => .bool (!b)) a
def ifV (t : M Bool) (a b : M PyData) : M PyData := M.bind t fun c => if c = true then a else b
def chain (g g' : PyData → PyData → Option PyData) (a b c : M PyData) : M PyData := M.bind a fun x => M.bind b fun y => M.bind (M.opt ((g x y).bind asB)) fun k => if k = true then M.bind c fun z => M.opt (g' y z) else M.pure (.bool false)
def OpD (K : KW) (r : R2) (g : PyData → PyData → Option PyData) : Prop := ∀ (x y : V) (dx dy z : PyData) (H V : Hp) (Q : VK), Same V H → Rep K V x dx → Rep K V y dy → g dx dy = some z →
  (∀ v H' V', Ext H V H' V' → Rep K V' v z → Q v H') → r x y H Q
def UnD (K : KW) (r : V → Hp → VK → Prop) (g : PyData → Option PyData) : Prop := ∀ (x : V) (dx z : PyData) (H V : Hp) (Q : VK), Same V H → Rep K V x dx → g dx = some z →
  (∀ v H' V', Ext H V H' V' → Rep K V' v z → Q v H') → r x H Q
def CallD (K : KW) (r : List V → Hp → VK → Prop) (g : List PyData → Option PyData) : Prop := ∀ (xs : List V) (ds : List PyData) (z : PyData) (H V : Hp) (Q : VK), Same V H → RepL K V xs ds → g ds = some z →
  (∀ v H' V', Ext H V H' V' → Rep K V' v z → Q v H') → r xs H Q
section
variable {K : KW} {F : Fr} {σ : St} {ρ : Rho} {H V : Hp} {Q : VK}
theorem Goal.opt {α β : Type} {rep : Hp → β → α → Prop} {Q : β → Hp → Prop} {o : Option α} (E : EnvR K F H V σ ρ) (g : Goal K F σ ρ H V rep (M.opt o ρ) Q) : ∃ z, o = some z ∧ ∀ v H' V', Ext H V H' V' → rep V' v z → Q v H' := by
  cases o with
  | none => exact False.elim g
  | some z => exact ⟨z, rfl, fun v H' V' e r => g v H' V' (E.step e) r⟩
theorem Goal.pure {α β : Type} {rep : Hp → β → α → Prop} {Q : β → Hp → Prop} {a : α} (E : EnvR K F H V σ ρ) (g : Goal K F σ ρ H V rep (M.pure a ρ) Q) : ∀ v H' V', Ext H V H' V' → rep V' v a → Q v H' :=
  fun v H' V' e r => g v H' V' (E.step e) r
theorem Goal.pure0 {α β : Type} {rep : Hp → β → α → Prop} {Q : β → Hp → Prop} {a : α} {v : β} (E : EnvR K F H V σ ρ) (g : Goal K F σ ρ H V rep (M.pure a ρ) Q) (r : rep V v a) : Q v H :=
  Goal.pure E g v H V (Ext.refl E.sub) r
end
section
variable {X : Cx} {F : Fr} {e a b c : Expr} {es : List Expr} {pos : Pos} {fa fb fc : M PyData} {fs : M (List PyData)} {ft fu : M Bool}
theorem pm_var (i : Nat) {x : Str} (hN : X.N[i]? = some x := by rfl) (hv : Vis X.env.scope x := by first | exact Or.inl rfl | exact Or.inr (Or.inl rfl) | exact Or.inr (Or.inr rfl)) (hd : (x == ("__debug__" : Str)) = false := by decide)
    (hcd : (x == ("__classdict__" : Str)) = false := by decide) : PM X F (.Name x pos) (vN i) := by
  refine PE.imp (pe_var hN hv hd hcd) fun σ H Q ⟨V, ρ, E, g⟩ => ?_
  unfold vN at g
  cases e : ρ[i]? with
  | none => rw [e] at g; exact False.elim g
  | some s =>
    rw [e] at g
    cases s with
    | sh d =>
      obtain ⟨v, h1, h2⟩ := E.sh i d e
      exact ⟨v, h1, g v H V E.refl h2⟩
    | no => exact False.elim g
    | ob _ => exact False.elim g
    | ow d => exact False.elim g
theorem pm_const {d : PyData} {v : V} (h : PE X e (tC v)) (r : ∀ V, Rep X.kw V v d) : PM X F e (cD d) := PE.imp h fun σ H Q ⟨V, ρ, E, g⟩ => Goal.pure0 E g (r V)
theorem pm_int {i j} : PM X F (.Constant (.int i) j pos) (cD (.int i)) := pm_const pe_int fun _ => .int i
theorem pm_bl {i j} : PM X F (.Constant (.bool i) j pos) (cD (.bool i)) := pm_const pe_bl fun _ => .bl i
theorem pm_non {j} : PM X F (.Constant .none j pos) (cD .none) := pm_const pe_non fun _ => .non
theorem pm_str {i j} : PM X F (.Constant (.str i) j pos) (cD (.str i)) := pm_const pe_str fun _ => .str i
theorem pm_gint {x : Str} {i : Int} (hm : ∃ t, X.mg x = some (.int i t)) (hg : Gl X x := by rfl) (hd : (x == ("__debug__" : Str)) = false := by decide) : PM X F (.Name x pos) (cD (.int i)) := by
  obtain ⟨t, hm⟩ := hm
  exact pm_const (v := .int i) (pe_glob hg hm ⟨t, rfl⟩ hd) fun _ => .int i
theorem pm_gstr {x z : Str} (hm : ∃ t, X.mg x = some (.str z t)) (hg : Gl X x := by rfl) (hd : (x == ("__debug__" : Str)) = false := by decide) : PM X F (.Name x pos) (cD (.str z)) := by
  obtain ⟨t, hm⟩ := hm
  exact pm_const (v := .str z) (pe_glob hg hm ⟨t, rfl⟩ hd) fun _ => .str z
theorem tOp_of {K : KW} {r : R2} {g : PyData → PyData → Option PyData} (od : OpD K r g) {σ : St} {H : Hp} {Q : VK} (h : tM K F (op2 g fa fb) σ H Q) : tOp r (tM K F fa) (tM K F fb) σ H Q := by
  obtain ⟨V, ρ, E, g0⟩ := h
  refine ⟨V, ρ, E, Goal.bind g0 fun x dx H1 V1 ρ1 st1 r1 g1 => ⟨V1, ρ1, st1.env, Goal.bind g1 fun y dy H2 V2 ρ2 st2 r2 g2 => ?_⟩⟩
  obtain ⟨z, ez, q⟩ := Goal.opt st2.env g2
  exact od x y dx dy z H2 V2 Q st2.env.sub (r1.mono st2.v) r2 ez q
theorem pm_op {op : Operator} {r : R2} {g : PyData → PyData → Option PyData} (ho : OpR X (binaryOp op) r) (od : OpD X.kw r g) (ha : PM X F a fa) (hb : PM X F b fb) : PM X F (.BinOp a op b pos) (op2 g fa fb) :=
  PE.imp (pe_op ho ha hb) fun _ _ _ h => tOp_of od h
theorem pm_cmp {op : CmpOp} {r : R2} {g : PyData → PyData → Option PyData} (ho : OpR X (compareOp op) r) (od : OpD X.kw r g) (ha : PM X F a fa) (hb : PM X F b fb) (hm : behindInMarks op b = false := by first | exact nomark _ | rfl) : PM X F (.Compare a [op] [b] pos) (op2 g fa fb) :=
  PE.imp (pe_cmpR ho ha hb hm) fun _ _ _ h => tOp_of od h
theorem pm_ix {r : R2} {g : PyData → PyData → Option PyData} (hr : IxR X r) (od : OpD X.kw r g) (ha : PM X F a fa) (hb : PM X F b fb) (hs : PlainIx b := by exact fun _ _ => rfl) : PM X F (.Subscript a b pos) (op2 g fa fb) :=
  PE.imp (pe_ix hr ha hb hs) fun _ _ _ h => tOp_of od h
theorem pm_un {op : UnaryOp} {r : V → Hp → VK → Prop} {g : PyData → Option PyData} (ho : UnR X (unaryOp op) r) (od : UnD X.kw r g) (ha : PM X F a fa) : PM X F (.UnaryOp op a pos) (op1 g fa) := by
  refine PE.imp (pe_un ho ha) fun σ H Q ⟨V, ρ, E, g0⟩ => ⟨V, ρ, E, Goal.bind g0 fun x dx H1 V1 ρ1 st1 r1 g1 => ?_⟩
  obtain ⟨z, ez, q⟩ := Goal.opt st1.env g1
  exact od x dx z H1 V1 Q st1.env.sub r1 ez q
theorem pma_nil : PMA X F [] aN := PA.imp pa_nil fun σ H Q ⟨V, ρ, E, g⟩ => Goal.pure0 E g .nil
theorem pma_cons (ha : PM X F e fa) (hr : PMA X F es fs) (hs : starEach (e :: es) X.env = (false, eval e X.env) :: starEach es X.env := by rfl) : PMA X F (e :: es) (aC fa fs) := by
  refine PA.imp (pa_cons ha hr hs) fun σ H Q ⟨V, ρ, E, g0⟩ => ⟨V, ρ, E, Goal.bind g0 fun x dx H1 V1 ρ1 st1 r1 g1 => ⟨V1, ρ1, st1.env, Goal.bind g1 fun y dy H2 V2 ρ2 st2 r2 g2 => ?_⟩⟩
  exact Goal.pure0 st2.env g2 (.cons (r1.mono st2.v) r2)
theorem pm_tup {x1} (h : PMA X F es fs) : PM X F (.Tuple es x1 pos) (opA gTupD fs) := by
  refine PE.imp (pe_tup h) fun σ H Q ⟨V, ρ, E, g0⟩ => ⟨V, ρ, E, Goal.bind g0 fun xs ds H1 V1 ρ1 st1 r1 g1 => ?_⟩
  obtain ⟨z, ez, q⟩ := Goal.opt st1.env g1
  unfold gTupD at ez
  split at ez
  · rename_i hl
    cases ez
    exact ⟨by rw [r1.length]; exact Nat.le_trans hl lim_le, fun p hp => q _ _ _ (Ext.new st1.env.sub hp) (.tup upd_same (r1.mono (same_new (st1.env.sub.free hp))))⟩
  · cases ez
theorem pm_lst (h : PMA X F es fs) : PM X F (.List es pos) (opA gLstD fs) := by
  refine PE.imp (pe_lst h) fun σ H Q ⟨V, ρ, E, g0⟩ => ⟨V, ρ, E, Goal.bind g0 fun xs ds H1 V1 ρ1 st1 r1 g1 => ?_⟩
  obtain ⟨z, ez, q⟩ := Goal.opt st1.env g1
  unfold gLstD at ez
  split at ez
  · rename_i hl
    cases ez
    exact ⟨by rw [r1.length]; exact Nat.le_trans hl lim_le, fun p hp => q _ _ _ (Ext.new st1.env.sub hp) (.lst upd_same (r1.mono (same_new (st1.env.sub.free hp))))⟩
  · cases ez
theorem tCB_of {K : KW} {r : List V → Hp → VK → Prop} {g : List PyData → Option PyData} (od : CallD K r g) {σ : St} {H : Hp} {Q : VK} (h : tM K F (opA g fs) σ H Q) : tCB r (tMA K F fs) σ H Q := by
  obtain ⟨V, ρ, E, g0⟩ := h
  refine ⟨V, ρ, E, Goal.bind g0 fun x dx H1 V1 ρ1 st1 r1 g1 => ?_⟩
  obtain ⟨z, ez, q⟩ := Goal.opt st1.env g1
  exact od x dx z H1 V1 Q st1.env.sub r1 ez q
theorem pm_callB {id : String} {x : Str} {p : Pos} {r : List V → Hp → VK → Prop} {g : List PyData → Option PyData} (hc : CallR X (.builtin id) r) (od : CallD X.kw r g) (hm : X.mg x = none) (ha : PMA X F (e :: es) fs) (hv : bootBuiltins x = some (.builtin id) := by decide +kernel) (hg : Gl X x := by rfl)
    (hn : x ≠ "__name__" := by decide) (hdb : (x == ("__debug__" : Str)) = false := by decide)
    (he : starEach (e :: es) X.env = (false, eval e X.env) :: starEach es X.env := by rfl) (hpl : (backTo pos (starEach es X.env)).any (·.1) = false := by rfl) : PM X F (.Call (.Name x p) (e :: es) [] pos) (opA g fs) :=
  PE.imp (pe_callB hc hg hm hv ha hn hdb he hpl) fun _ _ _ h => tCB_of od h
theorem pm_callTy {T : String} {x : Str} {p : Pos} {r : List V → Hp → VK → Prop} {g : List PyData → Option PyData} (hc : CallR X (.type T) r) (od : CallD X.kw r g) (hm : X.mg x = none) (ha : PMA X F (e :: es) fs) (hv : bootBuiltins x = some (.type T) := by decide +kernel) (hg : Gl X x := by rfl)
    (hn : x ≠ "__name__" := by decide) (hdb : (x == ("__debug__" : Str)) = false := by decide)
    (he : starEach (e :: es) X.env = (false, eval e X.env) :: starEach es X.env := by rfl) (hpl : (backTo pos (starEach es X.env)).any (·.1) = false := by rfl) : PM X F (.Call (.Name x p) (e :: es) [] pos) (opA g fs) :=
  PE.imp (pe_callTy hc hg hm hv ha hn hdb he hpl) fun _ _ _ h => tCB_of od h
theorem pmt_val (h : PM X F e fa) (he : ∀ whole, isTrue e X.env whole = (do let v ← whole; standAt e.pos; holding [v] (truthy v)) := by intro _; rfl) : PMT X F e (tst fa) := by
  refine PT.imp (pt_val h he) fun σ H Q ⟨V, ρ, E, g0⟩ => ⟨V, ρ, E, Goal.bind g0 fun x dx H1 V1 ρ1 st1 r1 g1 => ?_⟩
  obtain ⟨z, ez, q⟩ := Goal.opt st1.env g1
  cases r1 with
  | bl b => cases ez; exact ⟨_, rfl, q _ _ _ (Ext.refl st1.env.sub) rfl⟩
  | _ => cases ez
theorem pmt_cmp {op : CmpOp} {r : R2} {g : PyData → PyData → Option PyData} (ho : OpR X (compareOp op) r) (od : OpD X.kw r g) (ha : PM X F a fa) (hb : PM X F b fb) (hm : behindInMarks op b = false := by first | exact nomark _ | rfl) : PMT X F (.Compare a [op] [b] pos) (tst (op2 g fa fb)) := by
  refine PT.imp (pt_cmpR ho ha hb hm) fun σ H Q h => ?_
  have h2 : tM X.kw F (op2 g fa fb) σ H fun x H' => ∃ k, x = .bl k ∧ Q k H' := by
    obtain ⟨V, ρ, E, g0⟩ := h
    refine ⟨V, ρ, E, Goal.bind g0 fun x dx H1 V1 ρ1 st1 r1 g1 => ?_⟩
    obtain ⟨z, ez, q⟩ := Goal.opt st1.env g1
    cases r1 with
    | bl b => cases ez; exact ⟨_, rfl, q _ _ _ (Ext.refl st1.env.sub) rfl⟩
    | _ => cases ez
  exact tOp_of od h2
theorem pmw_and1 (ha : PMT X F a ft) : PMW X F (.BoolOp .And [a] pos) ft := pw_and1 ha
theorem pmw_or1 (ha : PMT X F a ft) : PMW X F (.BoolOp .Or [a] pos) ft := pw_or1 ha
theorem pmw_and {rest : List Expr} (ha : PMT X F a ft) (hb : PMW X F (.BoolOp .And (b :: rest) pos) fu) : PMW X F (.BoolOp .And (a :: b :: rest) pos) (andT ft fu) := by
  refine PW.imp (pw_and ha hb) fun σ H Q ⟨V, ρ, E, g0⟩ => ⟨V, ρ, E, Goal.bind g0 fun x dx H1 V1 ρ1 st1 r1 g1 => ?_⟩
  subst r1
  cases x with
  | true => exact ⟨V1, ρ1, st1.env, g1⟩
  | false => exact Goal.pure0 st1.env g1 rfl
theorem pmw_or {rest : List Expr} (ha : PMT X F a ft) (hb : PMW X F (.BoolOp .Or (b :: rest) pos) fu) : PMW X F (.BoolOp .Or (a :: b :: rest) pos) (orT ft fu) := by
  refine PW.imp (pw_or ha hb) fun σ H Q ⟨V, ρ, E, g0⟩ => ⟨V, ρ, E, Goal.bind g0 fun x dx H1 V1 ρ1 st1 r1 g1 => ?_⟩
  subst r1
  cases x with
  | true => exact Goal.pure0 st1.env g1 rfl
  | false => exact ⟨V1, ρ1, st1.env, g1⟩
theorem pmt_w (h : PMW X F e ft) : PMT X F e ft := PW.pt h
theorem pmt_not (ha : PMT X F a ft) : PMT X F (.UnaryOp .Not a pos) (notT ft) := by
  refine PT.imp (pt_not ha) fun σ H Q ⟨V, ρ, E, g0⟩ => ⟨V, ρ, E, Goal.bind g0 fun x dx H1 V1 ρ1 st1 r1 g1 => ?_⟩
  subst r1
  exact Goal.pure0 st1.env g1 rfl
theorem pm_one {op} (h : PM X F a fa) : PM X F (.BoolOp op [a] pos) fa := pe_one h
theorem pm_and {rest : List Expr} (ha : PM X F a fa) (hb : PM X F (.BoolOp .And (b :: rest) pos) fb) : PM X F (.BoolOp .And (a :: b :: rest) pos) (andV fa fb) := by
  refine PE.imp (pe_and ha hb) fun σ H Q ⟨V, ρ, E, g0⟩ => ⟨V, ρ, E, Goal.bind g0 fun x dx H1 V1 ρ1 st1 r1 g1 => ?_⟩
  cases r1 with
  | bl b =>
    refine ⟨b, rfl, ?_⟩
    cases b with
    | true => exact ⟨V1, ρ1, st1.env, g1⟩
    | false => exact Goal.pure0 st1.env g1 (.bl false)
  | _ => exact False.elim g1
theorem pm_not (ha : PM X F a fa) : PM X F (.UnaryOp .Not a pos) (notV fa) := by
  refine PE.imp (pe_not ha) fun σ H Q ⟨V, ρ, E, g0⟩ => ⟨V, ρ, E, Goal.bind g0 fun x dx H1 V1 ρ1 st1 r1 g1 => ?_⟩
  obtain ⟨z, ez, q⟩ := Goal.opt st1.env g1
  cases r1 with
  | bl b => cases ez; exact ⟨b, rfl, q _ _ _ (Ext.refl st1.env.sub) (.bl _)⟩
  | _ => cases ez
theorem pm_if (hc : PMT X F c ft) (ha : PM X F a fa) (hb : PM X F b fb) : PM X F (.IfExp c a b pos) (ifV ft fa fb) := by
  refine PE.imp (pe_ifExp hc ha hb) fun σ H Q ⟨V, ρ, E, g0⟩ => ⟨V, ρ, E, Goal.bind g0 fun x dx H1 V1 ρ1 st1 r1 g1 => ?_⟩
  subst r1
  cases x with
  | true => exact ⟨V1, ρ1, st1.env, g1⟩
  | false => exact ⟨V1, ρ1, st1.env, g1⟩
theorem tChain_of {K : KW} {r r' : R2} {g g' : PyData → PyData → Option PyData} (od : OpD K r g) (od' : OpD K r' g') {σ : St} {H : Hp} {Q : VK} (h : tM K F (chain g g' fa fb fc) σ H Q) : tChain r r' (tM K F fa) (tM K F fb) (tM K F fc) σ H Q := by
  obtain ⟨V, ρ, E, g0⟩ := h
  refine ⟨V, ρ, E, Goal.bind g0 fun x dx H1 V1 ρ1 st1 r1 g1 => ⟨V1, ρ1, st1.env, Goal.bind g1 fun y dy H2 V2 ρ2 st2 r2 g2 => ?_⟩⟩
  cases e : g dx dy with
  | none =>
    unfold M.bind M.opt at g2
    rw [e] at g2
    exact False.elim g2
  | some w =>
    unfold M.bind at g2
    rw [e] at g2
    cases w with
    | bool k =>
      refine od x y dx dy (.bool k) H2 V2 _ st2.env.sub (r1.mono st2.v) r2 e fun v H3 V3 ex rv => ?_
      have E3 := st2.env.step ex
      have g3 : Goal K F σ ρ2 H2 V2 (Rep K) ((if k = true then M.bind fc fun z => M.opt (g' dy z) else M.pure (.bool false)) ρ2) Q := g2
      cases rv
      refine ⟨k, rfl, ?_⟩
      have g4 := Goal.after E3 g3
      cases k with
      | false => exact Goal.pure0 E3.env g4 (.bl false)
      | true =>
        rw [if_pos rfl]
        refine ⟨V3, ρ2, E3.env, Goal.bind g4 fun z dz H4 V4 ρ4 st4 r4 g5 => ?_⟩
        obtain ⟨z', ez, q⟩ := Goal.opt st4.env g5
        exact od' y z dy dz z' H4 V4 Q st4.env.sub ((r2.mono ex.v).mono st4.v) r4 ez q
    | _ => exact False.elim g2
theorem pm_chain {op op' : CmpOp} {r r' : R2} {g g' : PyData → PyData → Option PyData} (ho : OpR X (compareOp op) r) (od : OpD X.kw r g) (ho' : OpR X (compareOp op') r') (od' : OpD X.kw r' g') (ha : PM X F a fa) (hb : PM X F b fb) (hc : PM X F c fc)
    (hm : lastMarks [op, op'] [b, c] = false := by with_unfolding_all rfl) : PM X F (.Compare a [op, op'] [b, c] pos) (chain g g' fa fb fc) := PE.imp (pe_chain ho ho' ha hb hc hm) fun _ _ _ h => tChain_of od od' h
theorem pmt_chain {op op' : CmpOp} {r r' : R2} {g g' : PyData → PyData → Option PyData} (ho : OpR X (compareOp op) r) (od : OpD X.kw r g) (ho' : OpR X (compareOp op') r') (od' : OpD X.kw r' g') (ha : PM X F a fa) (hb : PM X F b fb) (hc : PM X F c fc)
    (hm : lastMarks [op, op'] [b, c] = false := by with_unfolding_all rfl) : PMT X F (.Compare a [op, op'] [b, c] pos) (tst (chain g g' fa fb fc)) := by
  refine PT.imp (pt_chain ho ho' ha hb hc hm) fun σ H Q h => ?_
  have h2 : tM X.kw F (chain g g' fa fb fc) σ H fun x H' => ∃ k, x = .bl k ∧ Q k H' := by
    obtain ⟨V, ρ, E, g0⟩ := h
    refine ⟨V, ρ, E, Goal.bind g0 fun x dx H1 V1 ρ1 st1 r1 g1 => ?_⟩
    obtain ⟨z, ez, q⟩ := Goal.opt st1.env g1
    cases r1 with
    | bl b => cases ez; exact ⟨_, rfl, q _ _ _ (Ext.refl st1.env.sub) rfl⟩
    | _ => cases ez
  exact tChain_of od od' h2
end
end DL
set_option Elab.async false
set_option linter.all false
set_option maxRecDepth 100000
set_option maxHeartbeats 1000000
namespace DL
open PySem PySem.Spec PyProof.Rows L2
variable [TabCtx]
theorem ite_some {c : Prop} [Decidable c] {a z : PyData} (h : (if c then some a else none) = some z) : c ∧ a = z := by
  by_cases hc : c
  · rw [if_pos hc] at h; exact ⟨hc, Option.some.inj h⟩
  · rw [if_neg hc] at h; cases h
section
variable {K : KW} {H V : Hp}
theorem new_tup {xs : List L2.V} {ds : List PyData} {p : Addr} (s : Same V H) (hp : H p = none) (r : RepL K V xs ds) : Rep K (upd V p (.tup xs)) (.ref p) (.tuple ds) := .tup upd_same (r.mono (same_new (s.free hp)))
theorem new_lst {xs : List L2.V} {ds : List PyData} {p : Addr} (s : Same V H) (hp : H p = none) (r : RepL K V xs ds) : Rep K (upd V p (.lst xs)) (.ref p) (.list ds) := .lst upd_same (r.mono (same_new (s.free hp)))
end
def gAdd : PyData → PyData → Option PyData
  | .int i, .int j => some (.int (i + j))
  | .tuple a, .tuple b => if a.length + b.length ≤ LIM then some (.tuple (a ++ b)) else none
  | .list a, .list b => if a.length + b.length ≤ LIM then some (.list (a ++ b)) else none
  | .str a, .str b => if a.length + b.length ≤ LIM then some (.str (a ++ b)) else none
  | _, _ => none
def rAddD (K : KW) : R2 := fun x y H Q => (rI0 fun i j => .int (i + j)) x y H Q ∨ (rCatA K x y H Q ∨ (rCat x y H Q ∨ ∃ i j, x = .str i ∧ y = .str j ∧ i.length + j.length ≤ sizeLine ∧ Q (.str (i ++ j)) H))
theorem op_addD {X : Cx} : OpR X (binaryOp .Add) (rAddD X.kw) := op_add.or (op_catA.or (op_cat.or op_add_str))
theorem od_add {K : KW} : OpD K (rAddD K) gAdd := by
  intro x y dx dy z H V Q s rx ry e q
  cases rx with
  | int i =>
    cases ry with
    | int j => cases e; exact .inl ⟨i, j, rfl, rfl, q _ _ _ (Ext.refl s) (.int _)⟩
    | _ => cases e
  | str i =>
    cases ry with
    | str j =>
      obtain ⟨hl, rfl⟩ := ite_some e
      exact .inr (.inr (.inr ⟨i, j, rfl, rfl, Nat.le_trans hl lim_le, q _ _ _ (Ext.refl s) (.str _)⟩))
    | _ => cases e
  | @lst a xs ds ha ra =>
    cases ry with
    | @lst b ys es hb rb =>
      obtain ⟨hl, rfl⟩ := ite_some e
      refine .inr (.inr (.inl ⟨a, b, xs, ys, rfl, rfl, s _ _ ha, s _ _ hb, ?_, fun p hp => q _ _ _ (Ext.new s hp) (new_lst s hp (ra.append rb))⟩))
      rw [ra.length, rb.length]; exact Nat.le_trans hl lim_le
    | _ => cases e
  | @tup a xs ds ha ra =>
    cases ry with
    | @tup b ys es hb rb =>
      obtain ⟨hl, rfl⟩ := ite_some e
      refine .inr (.inl ⟨a, b, xs, ys, rfl, rfl, sqt s ha, sqt s hb, ?_, fun hx => ?_, fun hx hy => ?_, fun hx hy p hp => q _ _ _ (Ext.new s hp) (new_tup s hp (ra.append rb))⟩)
      · rw [ra.length, rb.length]; exact Nat.le_trans hl lim_le
      · subst hx; cases ra; exact q _ _ _ (Ext.refl s) (.tup hb rb)
      · subst hy; cases rb; exact q _ _ _ (Ext.refl s) (by rw [List.append_nil]; exact .tup ha ra)
    | _ => cases e
  | _ => cases e
def gSub : PyData → PyData → Option PyData
  | .int i, .int j => some (.int (i - j))
  | _, _ => none
theorem od_sub {K : KW} : OpD K (rI0 fun i j => .int (i - j)) gSub := by
  intro x y dx dy z H V Q s rx ry e q
  cases rx with
  | int i =>
    cases ry with
    | int j => cases e; exact ⟨i, j, rfl, rfl, q _ _ _ (Ext.refl s) (.int _)⟩
    | _ => cases e
  | _ => cases e
def gMod : PyData → PyData → Option PyData
  | .int i, .int j => if 0 < j then some (.int (i % j)) else none
  | _, _ => none
theorem od_mod {K : KW} : OpD K (rI (fun _ j => 0 < j) fun i j => .int (i % j)) gMod := by
  intro x y dx dy z H V Q s rx ry e q
  cases rx with
  | int i =>
    cases ry with
    | int j =>
      obtain ⟨hj, rfl⟩ := ite_some e
      exact ⟨i, j, rfl, rfl, hj, q _ _ _ (Ext.refl s) (.int _)⟩
    | _ => cases e
  | _ => cases e
def gDiv : PyData → PyData → Option PyData
  | .int i, .int j => if 0 < j ∧ j < 2 ^ 200 then some (.int (i / j)) else none
  | _, _ => none
theorem od_div {K : KW} : OpD K (rI CDivW fun i j => .int (i / j)) gDiv := by
  intro x y dx dy z H V Q s rx ry e q
  cases rx with
  | int i =>
    cases ry with
    | int j =>
      obtain ⟨hj, rfl⟩ := ite_some e
      exact ⟨i, j, rfl, rfl, wide_div (b := 200) hj.1 (by have h1 := hj.1; have h2 := hj.2; omega) (by decide) (by decide), q _ _ _ (Ext.refl s) (.int _)⟩
    | _ => cases e
  | _ => cases e
def gMul : PyData → PyData → Option PyData
  | .int i, .int j => if ((-(2 ^ 64) < i ∧ i < 2 ^ 64) ∨ (-(2 ^ 64) < j ∧ j < 2 ^ 64)) ∨ (i.natAbs < 2 ^ 2000 ∧ j.natAbs < 2 ^ 2000) then some (.int (i * j)) else none
  | .list a, .int k => if -(2 ^ 63) ≤ k ∧ k < 2 ^ 63 ∧ a.length * k.toNat ≤ LIM then some (.list (List.replicate k.toNat a).flatten) else none
  | .tuple a, .int k => if a ≠ [] ∧ 1 ≤ k ∧ k ≤ 1000 ∧ a.length ≤ 1000 then some (.tuple (List.replicate k.toNat a).flatten) else none
  | _, _ => none
theorem tuple_mul1 (l : Addr) (items : Array Value) (n : Nat) (dd : Option Addr) (sl : Array (Option Value)) (u : Tok) :
    Meets (Builtin.«tuple.__mul__» ⟨[.ref l, .int 1 u], []⟩) (fun _ R s => s.heap.get? l = some { cls := .type "tuple", dict := dd, data := .seq items n, slots := sl } ∧
      R (.ok (.ret (Value.ref l))) s) :=
  .of_wp fun prog w A R s h => by
    obtain ⟨hp, g, d, tk, os⟩ := s
    obtain ⟨hl, h⟩ := h
    have f1 := AutoSeq1.idx_int
    wp_walk using wpAny_loadPart' hl
    exact ⟨_, rfl, h⟩
def rRepT1 (K : PySem.W.Frag) : R2 := fun x y H Q => ∃ l xs, x = .ref l ∧ y = .int 1 ∧ SqT K H l xs ∧ Q (.ref l) H
theorem op_repT1 {X : Cx} : OpR X (binaryOp .Mult) (rRepT1 X.K) := by
  intro pins s σ H x y v u Q I rx ry h
  obtain ⟨l, xs, rfl, rfl, hT, q⟩ := h
  cases rx
  obtain ⟨t, rfl⟩ := ry
  obtain ⟨its, r, ⟨⟨cls, dd, data, sl⟩, ho, hc, n, hd⟩, hs⟩ := I.tuple hT
  simp only at hc hd
  subst hc hd
  exact wpAny_binaryOp_repeat_ref (T := "tuple") (U := "int") (by decide) ⟨_, ho, rfl⟩ (fun s' => typeIs_int s' 1 t) noFill_tuple_mul F.fills_int_mul F.slot_int_rmul repeat_tuple F.slot_int_index.lookup
    (call_meets F.slot_int_rmul (typeIs_int s 1 t) F.entry_int_rmul (F.args_int_rmul_2 _ _) (int_rmul_tuple 1 t l its.toArray n dd sl)
      ⟨ho, rfl, ⟨_, ho, rfl⟩, call_meets F.slot_tuple_mul ⟨_, ho, rfl⟩ F.entry_tuple_mul (F.args_tuple_mul_2 _ _) (tuple_mul1 l its.toArray n dd sl t) ⟨ho, .ref l, H, I, rfl, q⟩⟩)
def rMulD (K : KW) : R2 := fun x y H Q => (rI CMul fun i j => .int (i * j)) x y H Q ∨ ((rI CMulW fun i j => .int (i * j)) x y H Q ∨ (rRep x y H Q ∨ (rRepT K x y H Q ∨ rRepT1 K x y H Q)))
theorem op_mulD {X : Cx} : OpR X (binaryOp .Mult) (rMulD X.kw) := op_mul.or (op_mulW.or (op_rep.or (op_repT.or op_repT1)))
theorem od_mul {K : KW} : OpD K (rMulD K) gMul := by
  intro x y dx dy z H V Q s rx ry e q
  cases rx with
  | int i =>
    cases ry with
    | int j =>
      obtain ⟨hj, rfl⟩ := ite_some e
      rcases hj with hj | hj
      · exact .inl ⟨i, j, rfl, rfl, hj, q _ _ _ (Ext.refl s) (.int _)⟩
      · exact .inr (.inl ⟨i, j, rfl, rfl, wide_mul hj.1 hj.2 (by decide) (by decide) (by decide), q _ _ _ (Ext.refl s) (.int _)⟩)
    | _ => cases e
  | @lst a xs ds ha ra =>
    cases ry with
    | int k =>
      obtain ⟨hl, rfl⟩ := ite_some e
      exact .inr (.inr (.inl ⟨a, k, xs, rfl, rfl, s _ _ ha, hl.1, hl.2.1, by rw [ra.length]; exact Nat.le_trans hl.2.2 lim_le, fun p hp => q _ _ _ (Ext.new s hp) (new_lst s hp (ra.rep _))⟩))
    | _ => cases e
  | @tup a xs ds ha ra =>
    cases ry with
    | int k =>
      obtain ⟨hl, rfl⟩ := ite_some e
      by_cases hk : k = 1
      · subst hk
        refine .inr (.inr (.inr (.inr ⟨a, xs, rfl, rfl, sqt s ha, q _ _ _ (Ext.refl s) ?_⟩)))
        have e1 : (List.replicate (1 : Int).toNat ds).flatten = ds := by simp
        rw [e1]
        exact .tup ha ra
      · refine .inr (.inr (.inr (.inl ⟨a, k, xs, rfl, rfl, sqt s ha, fun h => hl.1 ?_, by have := hl.2.1; omega, hl.2.2.1, by rw [ra.length]; exact hl.2.2.2, fun p hp => q _ _ _ (Ext.new s hp) (new_tup s hp (ra.rep _))⟩)))
        subst h; cases ra; rfl
    | _ => cases e
  | _ => cases e
def gPow : PyData → PyData → Option PyData
  | .int i, .int j => if 0 ≤ j ∧ j ≤ 1000 ∧ i.natAbs < 2 ^ 64 then some (.int (i ^ j.toNat)) else none
  | _, _ => none
theorem od_pow {K : KW} : OpD K (rI CPow fun i j => .int (i ^ j.toNat)) gPow := by
  intro x y dx dy z H V Q s rx ry e q
  cases rx with
  | int i =>
    cases ry with
    | int j =>
      obtain ⟨hj, rfl⟩ := ite_some e
      exact ⟨i, j, rfl, rfl, ⟨hj.1, by have := hj.2.1; omega, hj.2.2⟩, q _ _ _ (Ext.refl s) (.int _)⟩
    | _ => cases e
  | _ => cases e
def gNeg : PyData → Option PyData
  | .int i => some (.int (-i))
  | _ => none
theorem od_neg {K : KW} : UnD K (rU fun i => .int (-i)) gNeg := by
  intro x dx z H V Q s rx e q
  cases rx with
  | int i => cases e; exact ⟨i, rfl, q _ _ _ (Ext.refl s) (.int _)⟩
  | _ => cases e
def gCmpI (p : Int → Int → Bool) : PyData → PyData → Option PyData
  | .int i, .int j => some (.bool (p i j))
  | _, _ => none
theorem od_cmpI {K : KW} {p : Int → Int → Bool} : OpD K (rI0 fun i j => .bl (p i j)) (gCmpI p) := by
  intro x y dx dy z H V Q s rx ry e q
  cases rx with
  | int i =>
    cases ry with
    | int j => cases e; exact ⟨i, j, rfl, rfl, q _ _ _ (Ext.refl s) (.bl _)⟩
    | _ => cases e
  | _ => cases e
def gLe := gCmpI fun i j => decide (i ≤ j)
def gGe := gCmpI fun i j => decide (j ≤ i)
theorem od_le {K : KW} : OpD K (rI0 fun i j => .bl (decide (i ≤ j))) gLe := od_cmpI
theorem od_ge {K : KW} : OpD K (rI0 fun i j => .bl (decide (j ≤ i))) gGe := od_cmpI
def gEq (x y : PyData) : Option PyData := if (SeqAt.shaped x && SeqAt.shaped y) = true then some (.bool (PyData.eqv x y)) else none
def gNe (x y : PyData) : Option PyData := if (SeqAt.shaped x && SeqAt.shaped y) = true then some (.bool (!PyData.eqv x y)) else none
theorem od_eq {K : KW} : OpD K (rEqD K) gEq := by
  intro x y dx dy z H V Q s rx ry e q
  obtain ⟨h, rfl⟩ := ite_some e
  obtain ⟨h1, h2⟩ := Bool.and_eq_true_iff.mp h
  exact ⟨dx, dy, (rx.mono s).dp (SeqAt.canLay_of_shaped h1), (ry.mono s).dp (SeqAt.canLay_of_shaped h2), h1, h2, q _ _ _ (Ext.refl s) (.bl _)⟩
theorem od_ne {K : KW} : OpD K (rNeD K) gNe := by
  intro x y dx dy z H V Q s rx ry e q
  obtain ⟨h, rfl⟩ := ite_some e
  obtain ⟨h1, h2⟩ := Bool.and_eq_true_iff.mp h
  exact ⟨dx, dy, (rx.mono s).dp (SeqAt.canLay_of_shaped h1), (ry.mono s).dp (SeqAt.canLay_of_shaped h2), h1, h2, q _ _ _ (Ext.refl s) (.bl _)⟩
def isNone : PyData → Bool
  | .none => true
  | _ => false
def gIsNot : PyData → PyData → Option PyData
  | x, .none => some (.bool (!isNone x))
  | .bool a, .bool b => some (.bool (!decide (a = b)))
  | _, _ => none
theorem isNone_rep {K : KW} {V : Hp} {x : L2.V} {d : PyData} (r : Rep K V x d) : decide (x = .non) = isNone d := by
  cases r <;> rfl
def rIsNotD : R2 := fun x y H Q => (y = .non ∧ Q (.bl (!decide (x = .non))) H) ∨ ∃ a b, x = .bl a ∧ y = .bl b ∧ Q (.bl (!decide (a = b))) H
theorem op_isNotD {X : Cx} : OpR X (compareOp .IsNot) rIsNotD := op_notN.or op_isnot_bl
theorem od_isNot {K : KW} : OpD K rIsNotD gIsNot := by
  intro x y dx dy z H V Q s rx ry e q
  cases ry with
  | non =>
    have e2 : z = .bool (!isNone dx) := by cases dx <;> exact (Option.some.inj e).symm
    subst e2
    exact .inl ⟨rfl, by rw [isNone_rep rx]; exact q _ _ _ (Ext.refl s) (.bl _)⟩
  | bl b =>
    cases rx with
    | bl a => cases e; exact .inr ⟨a, b, rfl, rfl, q _ _ _ (Ext.refl s) (.bl _)⟩
    | _ => cases e
  | _ => cases rx <;> cases e
def gIn : PyData → PyData → Option PyData
  | x, .list ds => if (SeqAt.shaped x && SeqAt.shaped (.list ds)) = true then some (.bool (ds.any fun z => PyData.eqv z x)) else none
  | x, .tuple ds => if (SeqAt.shaped x && SeqAt.shaped (.tuple ds)) = true then some (.bool (ds.any fun z => PyData.eqv z x)) else none
  | .str x, .str z => match x.cps.toList with
    | [c] => some (.bool (decide (c ∈ z.cps.toList)))
    | _ => none
  | _, _ => none
def gNotIn : PyData → PyData → Option PyData
  | x, .list ds => if (SeqAt.shaped x && SeqAt.shaped (.list ds)) = true then some (.bool (!ds.any fun z => PyData.eqv z x)) else none
  | x, .tuple ds => if (SeqAt.shaped x && SeqAt.shaped (.tuple ds)) = true then some (.bool (!ds.any fun z => PyData.eqv z x)) else none
  | _, _ => none
/-- in a tuple -/
def rInT (K : KW) : R2 := fun x y H Q => ∃ dx es, Dp K H x dx ∧ Dp K H y (.tuple es) ∧ SeqAt.shaped dx = true ∧ SeqAt.shaped (.tuple es) = true ∧ Q (.bl (es.any fun z => PyData.eqv z dx)) H
def rNotInT (K : KW) : R2 := fun x y H Q => ∃ dx es, Dp K H x dx ∧ Dp K H y (.tuple es) ∧ SeqAt.shaped dx = true ∧ SeqAt.shaped (.tuple es) = true ∧ Q (.bl (!es.any fun z => PyData.eqv z dx)) H
theorem op_inT {X : Cx} (hu : X.A.units + 65 < cLine) : OpR X (compareOp .In) (rInT X.kw) := by
  intro pins s σ H x y v u Q I rx ry ⟨dx, es, h1, h2, s1, s2, q⟩
  obtain ⟨as, r1⟩ := Dp.reads I dx x v h1 rx
  obtain ⟨bs, r2⟩ := Dp.reads I (.tuple es) y u h2 ry
  exact SeqAt.in_tuple_reads r2 r1 (by have := SeqAt.canLay_of_shaped s2; rw [PyData.canLay0] at this; exact this) (SeqAt.canLay_of_shaped s1) (room_in_shaped s1 hu) ⟨.bl _, H, I, rfl, q⟩
theorem op_notInT {X : Cx} (hu : X.A.units + 65 < cLine) : OpR X (compareOp .NotIn) (rNotInT X.kw) := by
  intro pins s σ H x y v u Q I rx ry ⟨dx, es, h1, h2, s1, s2, q⟩
  obtain ⟨as, r1⟩ := Dp.reads I dx x v h1 rx
  obtain ⟨bs, r2⟩ := Dp.reads I (.tuple es) y u h2 ry
  exact SeqAt.notIn_tuple_reads r2 r1 (by have := SeqAt.canLay_of_shaped s2; rw [PyData.canLay0] at this; exact this) (SeqAt.canLay_of_shaped s1) (room_in_shaped s1 hu) ⟨.bl _, H, I, rfl, q⟩
def rSign : R2 := fun x y H Q => ∃ (c : Nat) (z : Str), x = .str ⟨#[c]⟩ ∧ y = .str z ∧ Q (.bl (decide (c ∈ z.cps.toList))) H
def rInAll (K : KW) : R2 := fun x y H Q => rInD K x y H Q ∨ (rInT K x y H Q ∨ rSign x y H Q)
theorem op_inAll {X : Cx} (hu : X.A.units + 65 < cLine) : OpR X (compareOp .In) (rInAll X.kw) := (op_inD hu).or ((op_inT hu).or op_in_sign)
def rNotInAll (K : KW) : R2 := fun x y H Q => rNotInD K x y H Q ∨ rNotInT K x y H Q
theorem op_notInAll {X : Cx} (hu : X.A.units + 65 < cLine) : OpR X (compareOp .NotIn) (rNotInAll X.kw) := (op_notInD hu).or (op_notInT hu)
theorem od_in {K : KW} : OpD K (rInAll K) gIn := by
  intro x y dx dy z H V Q s rx ry e q
  cases ry with
  | @lst a xs ds ha ra =>
    have e2 : (if (SeqAt.shaped dx && SeqAt.shaped (.list ds)) = true then some (PyData.bool (ds.any fun z => PyData.eqv z dx)) else none) = some z := by cases dx <;> exact e
    obtain ⟨h, rfl⟩ := ite_some e2
    obtain ⟨h1, h2⟩ := Bool.and_eq_true_iff.mp h
    exact .inl ⟨dx, ds, (rx.mono s).dp (SeqAt.canLay_of_shaped h1), ((Rep.lst ha ra).mono s).dp (SeqAt.canLay_of_shaped h2), h1, h2, q _ _ _ (Ext.refl s) (.bl _)⟩
  | @tup a xs ds ha ra =>
    have e2 : (if (SeqAt.shaped dx && SeqAt.shaped (.tuple ds)) = true then some (PyData.bool (ds.any fun z => PyData.eqv z dx)) else none) = some z := by cases dx <;> exact e
    obtain ⟨h, rfl⟩ := ite_some e2
    obtain ⟨h1, h2⟩ := Bool.and_eq_true_iff.mp h
    exact .inr (.inl ⟨dx, ds, (rx.mono s).dp (SeqAt.canLay_of_shaped h1), ((Rep.tup ha ra).mono s).dp (SeqAt.canLay_of_shaped h2), h1, h2, q _ _ _ (Ext.refl s) (.bl _)⟩)
  | str w =>
    cases rx with
    | str u =>
      obtain ⟨l⟩ := u
      obtain ⟨l⟩ := l
      match l, e with
      | [c], e =>
        cases e
        exact .inr (.inr ⟨c, w, rfl, rfl, q _ _ _ (Ext.refl s) (.bl _)⟩)
      | [], e => cases e
      | _ :: _ :: _, e => cases e
    | _ => cases e
  | _ => cases rx <;> cases e
theorem od_notIn {K : KW} : OpD K (rNotInAll K) gNotIn := by
  intro x y dx dy z H V Q s rx ry e q
  cases ry with
  | @lst a xs ds ha ra =>
    have e2 : (if (SeqAt.shaped dx && SeqAt.shaped (.list ds)) = true then some (PyData.bool (!ds.any fun z => PyData.eqv z dx)) else none) = some z := by cases dx <;> exact e
    obtain ⟨h, rfl⟩ := ite_some e2
    obtain ⟨h1, h2⟩ := Bool.and_eq_true_iff.mp h
    exact .inl ⟨dx, ds, (rx.mono s).dp (SeqAt.canLay_of_shaped h1), ((Rep.lst ha ra).mono s).dp (SeqAt.canLay_of_shaped h2), h1, h2, q _ _ _ (Ext.refl s) (.bl _)⟩
  | @tup a xs ds ha ra =>
    have e2 : (if (SeqAt.shaped dx && SeqAt.shaped (.tuple ds)) = true then some (PyData.bool (!ds.any fun z => PyData.eqv z dx)) else none) = some z := by cases dx <;> exact e
    obtain ⟨h, rfl⟩ := ite_some e2
    obtain ⟨h1, h2⟩ := Bool.and_eq_true_iff.mp h
    exact .inr ⟨dx, ds, (rx.mono s).dp (SeqAt.canLay_of_shaped h1), ((Rep.tup ha ra).mono s).dp (SeqAt.canLay_of_shaped h2), h1, h2, q _ _ _ (Ext.refl s) (.bl _)⟩
  | _ => cases rx <;> cases e
def atD (ds : List PyData) (i : Int) : Option PyData := if 0 ≤ i then ds[i.toNat]? else if -(ds.length : Int) ≤ i then ds[(i + ds.length).toNat]? else none
def gIx : PyData → PyData → Option PyData
  | .list ds, .int i => atD ds i
  | .tuple ds, .int i => atD ds i
  | _, _ => none
theorem atD_get {K : KW} {V : Hp} {xs : List L2.V} {ds : List PyData} {i : Int} {z : PyData} (r : RepL K V xs ds) (h : atD ds i = some z) : ∃ v, atI xs i = some v ∧ Rep K V v z := by
  unfold atD at h
  unfold atI ixN
  have hl := r.length
  by_cases h0 : 0 ≤ i
  · rw [if_pos h0] at h ⊢
    obtain ⟨hlt, _⟩ := List.getElem?_eq_some_iff.mp h
    obtain ⟨v, h1, h2⟩ := r.get _ h
    rw [if_pos (by omega)]
    exact ⟨v, h1, h2⟩
  · rw [if_neg h0] at h ⊢
    by_cases hn : -(ds.length : Int) ≤ i
    · rw [if_pos hn] at h
      rw [if_pos (by omega)]
      obtain ⟨v, h1, h2⟩ := r.get _ h
      exact ⟨v, by rw [hl]; exact h1, h2⟩
    · rw [if_neg hn] at h; cases h
theorem od_ix {K : KW} : OpD K (rIx K) gIx := by
  intro x y dx dy z H V Q s rx ry e q
  cases rx with
  | @lst a xs ds ha ra =>
    cases ry with
    | int i =>
      obtain ⟨v, h1, h2⟩ := atD_get ra e
      exact .inl ⟨a, xs, i, v, rfl, rfl, .inl (.inl (s _ _ ha)), h1, q _ _ _ (Ext.refl s) h2⟩
    | _ => cases e
  | @tup a xs ds ha ra =>
    cases ry with
    | int i =>
      obtain ⟨v, h1, h2⟩ := atD_get ra e
      exact .inr (.inl ⟨a, xs, i, v, rfl, rfl, sqt s ha, h1, q _ _ _ (Ext.refl s) h2⟩)
    | _ => cases e
  | _ => cases ry <;> cases e
def cutD (ds : List PyData) (lo hi : Option Int) : List PyData := (ds.drop (HT.sIx ds.length 0 lo)).take (HT.sIx ds.length ds.length hi - HT.sIx ds.length 0 lo)
theorem cut_rep {K : KW} {V : Hp} {xs : List L2.V} {ds : List PyData} (r : RepL K V xs ds) (lo hi : Option Int) : RepL K V (cutV xs lo hi) (cutD ds lo hi) := by
  unfold cutV cutD
  rw [r.length]
  exact (r.drop _).take _
def gCut (lo hi : Option Int) : PyData → Option PyData
  | .list ds => some (.list (cutD ds lo hi))
  | .tuple ds => some (.tuple (cutD ds lo hi))
  | _ => none
def asI : PyData → Option Int
  | .int i => some i
  | _ => none
/-- a part of a slice -/
def prt (a : M PyData) : M (Option Int) := M.bind a fun x => M.bind (M.opt (asI x)) fun i => M.pure (some i)
def noPrt : M (Option Int) := M.pure none
def slc (a : M PyData) (lo hi : M (Option Int)) : M PyData := M.bind a fun x => M.bind lo fun l => M.bind hi fun h => M.opt (gCut l h x)
def tMO (K : KW) (F : Fr) (f : M (Option Int)) : TO := fun σ H Q => ∃ V ρ, EnvR K F H V σ ρ ∧ Goal K F σ ρ H V (fun _ b a => b = a) (f ρ) Q
def PMO (X : Cx) (F : Fr) (e : Option Expr) (f : M (Option Int)) : Prop := PO X e (tMO X.kw F f)
theorem PO.imp {X : Cx} {e : Option Expr} {t u : TO} (h : PO X e t) (i : ∀ σ H Q, u σ H Q → t σ H Q) : PO X e u := by
  obtain ⟨r⟩ := h
  exact ⟨fun pins s σ H Q I q => r pins s σ H Q I (i σ H Q q)⟩
section
variable {X : Cx} {F : Fr} {e : Expr} {fa : M PyData} {fl fh : M (Option Int)}
theorem pmo_none : PMO X F none noPrt := PO.imp po_none fun σ H Q ⟨V, ρ, E, g⟩ => Goal.pure0 E g rfl
theorem pmo_some (h : PM X F e fa) : PMO X F (some e) (prt fa) := by
  refine PO.imp (po_some h) fun σ H Q ⟨V, ρ, E, g0⟩ => ⟨V, ρ, E, Goal.bind g0 fun x dx H1 V1 ρ1 st1 r1 g1 => ?_⟩
  cases r1 with
  | int i => exact ⟨i, rfl, Goal.pure0 st1.env g1 rfl⟩
  | _ => exact False.elim g1
theorem pm_slice {lo hi : Option Expr} {p2 pos : Pos} (he : PM X F e fa) (hl : PMO X F lo fl) (hh : PMO X F hi fh) : PM X F (.Subscript e (.Slice lo hi none p2) pos) (slc fa fl fh) := by
  refine PE.imp (pe_slice (sl_list.or sl_tupA) he hl hh) fun σ H Q ⟨V, ρ, E, g0⟩ => ⟨V, ρ, E, Goal.bind g0 fun x dx H1 V1 ρ1 st1 r1 g1 =>
    ⟨V1, ρ1, st1.env, Goal.bind g1 fun l l' H2 V2 ρ2 st2 r2 g2 => ⟨V2, ρ2, st2.env, Goal.bind g2 fun h h' H3 V3 ρ3 st3 r3 g3 => ?_⟩⟩⟩
  subst r2 r3
  obtain ⟨z, ez, q⟩ := Goal.opt st3.env g3
  have rx := (r1.mono st2.v).mono st3.v
  have s := st3.env.sub
  cases rx with
  | @lst a xs ds ha ra =>
    cases ez
    exact .inl ⟨a, xs, rfl, .inl (.inl (s _ _ ha)), fun p hp => q _ _ _ (Ext.new s hp) (new_lst s hp (cut_rep ra l h))⟩
  | @tup a xs ds ha ra =>
    cases ez
    refine .inr ⟨a, xs, rfl, sqt s ha, fun hw => ?_, fun hw p hp => q _ _ _ (Ext.new s hp) (new_tup s hp (cut_rep ra l h))⟩
    refine q _ _ _ (Ext.refl s) ?_
    have e2 : cutD ds l h = ds := by
      unfold cutD
      rw [← ra.length, hw.1, hw.2, List.drop_zero, Nat.sub_zero, ra.length]
      exact List.take_length
    rw [e2]
    exact .tup ha ra
  | _ => cases ez
end
def gLen : List PyData → Option PyData
  | [.list ds] => some (.int ds.length)
  | [.tuple ds] => some (.int ds.length)
  | [.str x] => if x.length ≤ LIM then some (.int x.length) else none
  | _ => none
theorem cd_len {K : KW} : CallD K (fun xs H Q => ∃ x n, xs = [x] ∧ LenV K x H n ∧ Q (.int n) H) gLen := by
  intro xs ds z H V Q s r e q
  cases r with
  | nil => cases e
  | cons r1 r2 =>
    cases r2 with
    | cons _ _ => cases r1 <;> cases e
    | nil =>
      cases r1 with
      | @lst a ys es ha ra => cases e; exact ⟨_, ys.length, rfl, .inl ⟨ys, .inl (.inl (s _ _ ha)), rfl⟩, by rw [ra.length]; exact q _ _ _ (Ext.refl s) (.int _)⟩
      | @tup a ys es ha ra => cases e; exact ⟨_, ys.length, rfl, .inr ⟨ys, sqt s ha, rfl⟩, by rw [ra.length]; exact q _ _ _ (Ext.refl s) (.int _)⟩
      | str x =>
        obtain ⟨h, rfl⟩ := ite_some e
        exact ⟨_, _, rfl, ⟨Nat.le_trans h lim_le, rfl⟩, q _ _ _ (Ext.refl s) (.int _)⟩
      | _ => cases e
end DL
set_option Elab.async false
set_option linter.all false
set_option maxRecDepth 100000
set_option maxHeartbeats 1000000
namespace DL
open PySem PySem.Spec PyProof.Rows L2
variable [TabCtx]
inductive O where
  | nx (ρ : Rho)
  | rt (d : PyData) (ρ : Rho)
  | rf (d : PyData) (ρ : Rho)
  | bk (ρ : Rho)
  | ct (ρ : Rho)
  | exc (c : Str)
  | bad
abbrev SM := Rho → O
def seqO (f g : SM) : SM := fun ρ => match f ρ with
  | .nx ρ' => g ρ'
  | o => o
def nxO : SM := fun ρ => .nx ρ
section
variable {K : KW} {F : Fr} {σ : St} {ρ ρ1 : Rho} {H V H1 V1 : Hp}
/-- a value that is new since the frame began -/
def Fsh (F : Fr) (v : L2.V) : Prop := ∀ p, v = .ref p → F.H0 p = none ∧ F.lent ≠ some p
/-- what is wanted behind a statement -/
def GoalS (K : KW) (F : Fr) (V : Hp) (o : O) (D : Ends) : Prop := match o with
  | .nx ρ' => ∀ σ' H' V', EnvR K F H' V' σ' ρ' → Same V V' → D.nx σ' H'
  | .rt d ρ' => ∀ v σ' H' V', EnvR K F H' V' σ' ρ' → Same V V' → Rep K V' v d → D.rt v H'
  | .rf d ρ' => ∀ v σ' H' V', EnvR K F H' V' σ' ρ' → Same V V' → Rep K V' v d → Fsh F v → D.rt v H'
  | .bk ρ' => ∀ σ' H' V', EnvR K F H' V' σ' ρ' → Same V V' → D.bk σ' H'
  | .ct ρ' => ∀ σ' H' V', EnvR K F H' V' σ' ρ' → Same V V' → D.ct σ' H'
  | .exc c => ∀ σ' H' V', Ext F.H0 F.V0 H' V' → F.W (.ref (He.ga K c)) σ' H'
  | .bad => False
def tS (K : KW) (F : Fr) (f : SM) : TS := fun D σ H => ∃ V ρ, EnvR K F H V σ ρ ∧ GoalS K F V (f ρ) D
theorem GoalS.mono {o : O} {D : Ends} (v : Same V V1) (g : GoalS K F V o D) : GoalS K F V1 o D := by
  cases o with
  | nx ρ' => exact fun σ' H' V' E s => g σ' H' V' E (v.trans s)
  | rt d ρ' => exact fun x σ' H' V' E s => g x σ' H' V' E (v.trans s)
  | rf d ρ' => exact fun x σ' H' V' E s => g x σ' H' V' E (v.trans s)
  | bk ρ' => exact fun σ' H' V' E s => g σ' H' V' E (v.trans s)
  | ct ρ' => exact fun σ' H' V' E s => g σ' H' V' E (v.trans s)
  | exc c => exact g
  | bad => exact g
/-- an expression ahead of a statement's end -/
def exO {α : Type} (f : M α) (k : α → SM) : SM := fun ρ => match f ρ with
  | .ok (a, ρ') => k a ρ'
  | .exc c => .exc c
  | .bad => .bad
theorem Goal.ex {α β : Type} {rep1 : Hp → β → α → Prop} {f : M α} {k : α → SM} {D : Ends} {Q1 : β → Hp → Prop}
    (g : GoalS K F V (exO f k ρ) D)
    (h : ∀ b a H' V' ρ', Stp K F σ ρ ρ' H V H' V' → rep1 V' b a → GoalS K F V' (k a ρ') D → Q1 b H') : Goal K F σ ρ H V rep1 (f ρ) Q1 := by
  unfold exO at g
  cases e : f ρ with
  | ok p =>
    obtain ⟨a, ρ'⟩ := p
    rw [e] at g
    exact fun b H' V' st r => h b a H' V' ρ' st r (GoalS.mono st.v g)
  | exc c => rw [e] at g; exact fun H' V' x => g σ H' V' x
  | bad => rw [e] at g; exact g
end
def PMS (X : Cx) (F : Fr) (st : Stmt) (f : SM) : Prop := PS X st (tS X.kw F f)
def PMSs (X : Cx) (F : Fr) (st : List Stmt) (f : SM) : Prop := PSs X st (tS X.kw F f)
section
variable {X : Cx} {F : Fr} {st : Stmt} {rest sts : List Stmt} {f g : SM} {e : Expr} {fa : M PyData} {ft : M Bool} {pos : Pos}
theorem pms_nil : PMSs X F [] nxO := PSs.imp pss_nil fun D σ H ⟨V, ρ, E, g⟩ => g σ H V E (Same.refl _)
theorem pms_cons (h1 : PMS X F st f) (h2 : PMSs X F rest g) : PMSs X F (st :: rest) (seqO f g) := by
  refine PSs.imp (pss_cons h1 h2) fun D σ H ⟨V, ρ, E, g0⟩ => ⟨V, ρ, E, ?_⟩
  unfold seqO at g0
  cases e : f ρ with
  | nx ρ' => rw [e] at g0; exact fun σ' H' V' E' v => ⟨V', ρ', E', GoalS.mono v g0⟩
  | rt d ρ' => rw [e] at g0; exact g0
  | rf d ρ' => rw [e] at g0; exact g0
  | bk ρ' => rw [e] at g0; exact g0
  | ct ρ' => rw [e] at g0; exact g0
  | exc c => rw [e] at g0; exact g0
  | bad => rw [e] at g0; exact g0
theorem pms_one (h1 : PMS X F st f) : PMSs X F [st] f := pss_one h1
def dropO (a : M PyData) : SM := exO a fun _ => nxO
theorem pms_expr (h : PM X F e fa) (hs : swapsWith e none pos.line X.env = pure false := by rfl) : PMS X F (.Expr e pos) (dropO fa) :=
  PS.imp (ps_expr h hs) fun D σ H ⟨V, ρ, E, g⟩ => ⟨V, ρ, E, Goal.ex g fun v d H1 V1 ρ1 st1 r1 g1 => g1 σ H1 V1 st1.env (Same.refl _)⟩
def retO (a : M PyData) : SM := exO a fun d ρ => .rt d ρ
theorem pms_ret (h : PM X F e fa) : PMS X F (.Return (some e) pos) (retO fa) :=
  PS.imp (ps_ret h) fun D σ H ⟨V, ρ, E, g⟩ => ⟨V, ρ, E, Goal.ex g fun v d H1 V1 ρ1 st1 r1 g1 => g1 v σ H1 V1 st1.env (Same.refl _) r1⟩
def ifO (t : M Bool) (f g : SM) : SM := exO t fun b => if b = true then f else g
theorem pms_if {c : Expr} {a b : List Stmt} (hc : PMT X F c ft) (ha : PMSs X F a f) (hb : PMSs X F b g) : PMS X F (.If c a b pos) (ifO ft f g) := by
  refine PS.imp (ps_if hc ha hb) fun D σ H ⟨V, ρ, E, g⟩ => ⟨V, ρ, E, Goal.ex g fun v d H1 V1 ρ1 st1 r1 g1 => ?_⟩
  subst r1
  cases v with
  | true => exact ⟨V1, ρ1, st1.env, g1⟩
  | false => exact ⟨V1, ρ1, st1.env, g1⟩
/-- an exception: raise C('..') -/
def raiseO (c : Str) : SM := fun _ => .exc c
theorem takesN0 {X : Cx} : L2N.Takes X (fun _ _ _ _ => False) := fun _ _ ⟨_, _, _, _, _, _, _, _, _, _, _, _, _, _, _, _, w⟩ => w.elim
/-- what the context asks: exceptions reach the frame's wish -/
def Tk (X : Cx) (F : Fr) : Prop := L2N.Takes X fun cls d σ H => d = none ∧ F.W cls σ H
structure ExcF (K : PySem.W.Frag) (mg : Str → Option Value) (c : Str) : Prop where
  g : mg c = some (.ref (He.ga K c))
  x : PySem.W.excIn K (He.ga K c) He.veBase "ValueError.__new__" = true ∧ PySem.W.keepIn K (.ref (He.ga K c)) = true ∧ PySem.W.subIn K (.ref (He.ga K c)) (.type "BaseException") = some true ∧ PySem.W.typeIn K (.ref (He.ga K c)) = some (.type "type")
theorem pms_raise {c m : Str} {j : Nat} {p p2 pos2 : Pos} (T : ExcF X.K X.mg c) (tk : Tk X F) (hc : X.calm = true := by rfl) (hg : Gl X c := by rfl) (hdb : (c == ("__debug__" : Str)) = false := by decide) : PMS X F (.Raise (some (.Call (.Name c p) [.Constant (.str m) j p2] [] pos2)) none pos) (raiseO c) := by
  refine PS.imp (L2N.ps_raise hc tk (L2N.pmk_own PySem.F.excBase_ValueError T.x.1 T.g T.x.2.1 (raises_own T.x.2.2.1 T.x.2.2.2) hg hdb)) fun D σ H ⟨V, ρ, E, g⟩ => ?_
  exact ⟨rfl, g σ H V E.ext⟩
end
def GM := PyData → Rho → R Rho
def tGM (K : KW) (F : Fr) (is : List Nat) (g : GM) : TG := fun v σ H Q => ∃ V ρ d, EnvR K F H V σ ρ ∧ Rep K V v d ∧ match g d ρ with
  | .ok ρ' => ∀ σ' H' V', EnvR K F H' V' σ' ρ' → Ext H V H' V' → (∀ vs : List Nat, (∀ i ∈ is, i ∈ vs) → wipe σ' vs = wipe σ vs) → (∀ b, IsOwn σ' ρ' b → IsOwn σ ρ b) → (∀ (i : Nat) (d : PyData), i ∉ is → ρ'[i]? = some (.sh d) → ρ[i]? = some (.sh d)) → Q σ' H'
  | .exc _ => False
  | .bad => False
def PMG (X : Cx) (F : Fr) (tg : Expr) (is : List Nat) (g : GM) : Prop := PG X tg (tGM X.kw F is g)
def PMGs (X : Cx) (F : Fr) (tgs : List Expr) (is : List Nat) (g : List PyData → Rho → R Rho) : Prop := PGs X tgs fun vs σ H Q => ∃ V ρ ds, EnvR X.kw F H V σ ρ ∧ RepL X.kw V vs ds ∧ match g ds ρ with
  | .ok ρ' => ∀ σ' H' V', EnvR X.kw F H' V' σ' ρ' → Ext H V H' V' → (∀ vs : List Nat, (∀ i ∈ is, i ∈ vs) → wipe σ' vs = wipe σ vs) → (∀ b, IsOwn σ' ρ' b → IsOwn σ ρ b) → (∀ (i : Nat) (d : PyData), i ∉ is → ρ'[i]? = some (.sh d) → ρ[i]? = some (.sh d)) → Q σ' H'
  | .exc _ => False
  | .bad => False
theorem PG.imp {X : Cx} {e : Expr} {t u : TG} (h : PG X e t) (i : ∀ v σ H Q, u v σ H Q → t v σ H Q) : PG X e u := ⟨fun pins s σ H v w Q I r q => h.run pins s σ H v w Q I r (i v σ H Q q)⟩
theorem PGs.imp {X : Cx} {e : List Expr} {t u : TGs} (h : PGs X e t) (i : ∀ v σ H Q, u v σ H Q → t v σ H Q) : PGs X e u := ⟨fun pins s σ H v w Q I r q => h.run pins s σ H v w Q I r (i v σ H Q q)⟩
/-- a slot is given data -/
def setS (i : Nat) : GM := fun d ρ => if i < ρ.length then .ok (ρ.set i (.sh d)) else .bad
section
variable {K : KW} {F : Fr} {σ : St} {ρ ρ1 : Rho} {H V H1 V1 : Hp} {X : Cx} {pos : Pos}
theorem EnvR.setSh (E : EnvR K F H V σ ρ) {i : Nat} {v : L2.V} {d : PyData} (r : Rep K V v d) (hl : i ≠ F.ls ∨ F.lent = none) : EnvR K F H V (σ.set i (some v)) (ρ.set i (.sh d)) := by
  have hlen := E.len
  refine ⟨by simp [hlen], E.ext, fun j e h => ?_, fun j e h => ?_, fun j k a e e' h1 h2 h3 h4 => ?_, fun a ha => ?_, E.tab, E.ob.set fun _ z => nomatch z⟩
  · by_cases hj : i = j
    · subst hj
      by_cases hi : i < ρ.length
      · rw [List.getElem?_set_self hi] at h
        cases h
        exact ⟨v, List.getElem?_set_self (by omega), r⟩
      · rw [List.getElem?_eq_none (by simpa using hi)] at h; cases h
    · rw [List.getElem?_set_ne hj] at h ⊢
      exact E.sh j e h
  · by_cases hj : i = j
    · subst hj
      by_cases hi : i < ρ.length
      · rw [List.getElem?_set_self hi] at h; cases h
      · rw [List.getElem?_eq_none (by simpa using hi)] at h; cases h
    · rw [List.getElem?_set_ne hj] at h ⊢
      exact E.ow j e h
  · have ne : ∀ {m : Nat} {x : PyData}, (ρ.set i (.sh d))[m]? = some (.ow x) → i ≠ m := fun {m x} q z => by
      subst z
      by_cases hi : i < ρ.length
      · rw [List.getElem?_set_self hi] at q; cases q
      · rw [List.getElem?_eq_none (by simpa using hi)] at q; cases q
    have n1 := ne h1
    have n2 := ne h2
    rw [List.getElem?_set_ne n1] at h1 h3
    rw [List.getElem?_set_ne n2] at h2 h4
    exact E.dis j k a e e' h1 h2 h3 h4
  · rcases hl with hl | hl
    · rw [List.getElem?_set_ne hl]; exact E.lent a ha
    · rw [hl] at ha; cases ha
theorem wipe_set {σ : St} {i : Nat} {x : Option L2.V} : ∀ {vs : List Nat}, i ∈ vs → wipe (σ.set i x) vs = wipe σ vs
  | [], h => by cases h
  | v :: vs, h => by
    show (wipe (σ.set i x) vs).set v none = (wipe σ vs).set v none
    by_cases e : i ∈ vs
    · rw [wipe_set e]
    · have e2 : i = v := by
        rcases List.mem_cons.mp h with z | z
        · exact z
        · exact absurd z e
      subst e2
      have key : ∀ {ws : List Nat}, i ∉ ws → wipe (σ.set i x) ws = (wipe σ ws).set i x := by
        intro ws
        induction ws with
        | nil => intro _; rfl
        | cons w ws ih =>
          intro hn
          show (wipe (σ.set i x) ws).set w none = ((wipe σ ws).set w none).set i x
          rw [ih fun z => hn (List.mem_cons_of_mem _ z), List.set_comm _ _ (fun z => hn (by rw [z]; exact List.mem_cons_self))]
      rw [key e, List.set_set]
theorem isOwn_set {σ : St} {ρ : Rho} {i : Nat} {d : PyData} {v : Option L2.V} {b : Addr} (h : IsOwn (σ.set i v) (ρ.set i (.sh d)) b) : IsOwn σ ρ b := by
  obtain ⟨j, e, h1, h2⟩ := h
  have ne : i ≠ j := fun z => by
    subst z
    by_cases hi : i < ρ.length
    · rw [List.getElem?_set_self hi] at h1; cases h1
    · rw [List.getElem?_eq_none (by simpa using hi)] at h1; cases h1
  rw [List.getElem?_set_ne ne] at h1 h2
  exact ⟨j, e, h1, h2⟩
theorem pmg_name (i : Nat) {x : Str} (hN : X.N.Nodup) (hi : X.N[i]? = some x := by rfl) (hx : Loc X.env.scope x := by first | exact Or.inl rfl | exact Or.inr rfl) (hl : i ≠ F.ls ∨ F.lent = none := by first | exact Or.inr rfl | exact Or.inl (ne_ls rfl))
    (hf : X.fn x = true ∨ X.env.scope.names.lookup x = some .local := by first | exact .inl rfl | exact .inr rfl | assumption) : PMG X F (.Name x pos) [i] (setS i) := by
  refine PG.imp (pg_name hN hi hx hf) fun v σ H Q ⟨V, ρ, d, E, r, g⟩ => ?_
  unfold setS at g
  by_cases hlt : i < ρ.length
  · rw [if_pos hlt] at g
    exact g _ _ _ (E.setSh r hl) (Ext.refl E.sub) (fun vs hv => wipe_set (hv i (List.mem_singleton.mpr rfl))) (fun b hb => isOwn_set hb) fun j e hj q => by
      rw [List.getElem?_set_ne (fun z => hj (List.mem_singleton.mpr z.symm))] at q
      exact q
  · rw [if_neg hlt] at g
    exact False.elim g
def gsN : List PyData → Rho → R Rho := fun ds ρ => match ds with
  | [] => .ok ρ
  | _ => .bad
def gsC (g : GM) (gs : List PyData → Rho → R Rho) : List PyData → Rho → R Rho := fun ds ρ => match ds with
  | d :: ds => R.bind (g d ρ) fun ρ' => gs ds ρ'
  | [] => .bad
theorem pmgs_nil : PMGs X F [] [] gsN := by
  refine PGs.imp pgs_nil fun vs σ H Q ⟨V, ρ, ds, E, r, g⟩ => ?_
  cases r with
  | nil => exact ⟨rfl, g _ _ _ E (Ext.refl E.sub) (fun _ _ => rfl) (fun _ h => h) fun _ _ _ h => h⟩
  | cons _ _ => exact False.elim g
theorem pmgs_cons {e : Expr} {es : List Expr} {is js : List Nat} {g : GM} {gs : List PyData → Rho → R Rho} (h1 : PMG X F e is g) (h2 : PMGs X F es js gs)
    (hs : (assignEach (e :: es) X.env).map (·.2) = assign e X.env :: (assignEach es X.env).map (·.2) := by rfl) : PMGs X F (e :: es) (is ++ js) (gsC g gs) := by
  refine PGs.imp (pgs_cons h1 h2 hs) fun vs σ H Q ⟨V, ρ, ds, E, r, g0⟩ => ?_
  cases r with
  | nil => exact False.elim g0
  | @cons v vs d ds r1 r2 =>
    refine ⟨v, vs, rfl, V, ρ, d, E, r1, ?_⟩
    have g0 : (match R.bind (g d ρ) fun ρ' => gs ds ρ' with
      | .ok ρ' => ∀ σ' H' V', EnvR X.kw F H' V' σ' ρ' → Ext H V H' V' → (∀ vs : List Nat, (∀ i ∈ is ++ js, i ∈ vs) → wipe σ' vs = wipe σ vs) → (∀ b, IsOwn σ' ρ' b → IsOwn σ ρ b) → (∀ (i : Nat) (d : PyData), i ∉ is ++ js → ρ'[i]? = some (.sh d) → ρ[i]? = some (.sh d)) → Q σ' H'
      | .exc _ => False
      | .bad => False) := g0
    cases e1 : g d ρ with
    | ok ρ1 =>
      rw [e1] at g0
      intro σ1 H1 V1 E1 x1 w1 o1 p1
      refine ⟨V1, ρ1, ds, E1, r2.mono x1.v, ?_⟩
      have g0 : (match gs ds ρ1 with
        | .ok ρ' => ∀ σ' H' V', EnvR X.kw F H' V' σ' ρ' → Ext H V H' V' → (∀ vs : List Nat, (∀ i ∈ is ++ js, i ∈ vs) → wipe σ' vs = wipe σ vs) → (∀ b, IsOwn σ' ρ' b → IsOwn σ ρ b) → (∀ (i : Nat) (d : PyData), i ∉ is ++ js → ρ'[i]? = some (.sh d) → ρ[i]? = some (.sh d)) → Q σ' H'
        | .exc _ => False
        | .bad => False) := g0
      cases e2 : gs ds ρ1 with
      | ok ρ2 =>
        rw [e2] at g0
        intro σ2 H2 V2 E2 x2 w2 o2 p2
        exact g0 σ2 H2 V2 E2 (x1.trans x2) (fun vs hv => (w2 vs fun i hi => hv i (List.mem_append_right _ hi)).trans (w1 vs fun i hi => hv i (List.mem_append_left _ hi))) (fun b hb => o1 b (o2 b hb)) fun i d hi q => p1 i d (fun z => hi (List.mem_append_left _ z)) (p2 i d (fun z => hi (List.mem_append_right _ z)) q)
      | exc c => rw [e2] at g0; exact g0
      | bad => rw [e2] at g0; exact g0
    | exc c => rw [e1] at g0; exact g0
    | bad => rw [e1] at g0; exact g0
/-- a tuple taken apart -/
def unT (gs : List PyData → Rho → R Rho) : GM := fun d ρ => match d with
  | .tuple ds => gs ds ρ
  | _ => .bad
theorem pmg_tup {es : List Expr} {k : Nat} {is : List Nat} {gs : List PyData → Rho → R Rho} {n : Nat} (h : PMGs X F es is gs) (hgn : ∀ ds ρ ρ', gs ds ρ = .ok ρ' → ds.length = n) (hc : X.calm = true := by rfl)
    (hn : (assignEach es X.env).length = n := by rfl) (hst : (assignEach es X.env).findIdx? (·.1) = none := by rfl) : PMG X F (.Tuple es k pos) is (unT gs) := by
  refine PG.imp (pg_tup hc h hn hst) fun v σ H Q ⟨V, ρ, d, E, r, g⟩ => ?_
  cases r with
  | @tup a xs ds ha ra =>
    have g : (match gs ds ρ with
      | .ok ρ' => ∀ σ' H' V', EnvR X.kw F H' V' σ' ρ' → Ext H V H' V' → (∀ vs : List Nat, (∀ i ∈ is, i ∈ vs) → wipe σ' vs = wipe σ vs) → (∀ b, IsOwn σ' ρ' b → IsOwn σ ρ b) → (∀ (i : Nat) (d : PyData), i ∉ is → ρ'[i]? = some (.sh d) → ρ[i]? = some (.sh d)) → Q σ' H'
      | .exc _ => False
      | .bad => False) := g
    refine ⟨a, xs, rfl, sqt E.sub ha, ?_, V, ρ, ds, E, ra, g⟩
    cases e : gs ds ρ with
    | ok ρ' => rw [ra.length]; exact hgn ds ρ ρ' e
    | exc c => rw [e] at g; exact False.elim g
    | bad => rw [e] at g; exact False.elim g
  | _ => exact False.elim g
/-- assignment -/
def asgO (a : M PyData) (g : GM) : SM := exO a fun d ρ => match g d ρ with
  | .ok ρ' => .nx ρ'
  | .exc c => .bad
  | .bad => .bad
theorem asg_goal {D : Ends} {is : List Nat} {g : GM} {d : PyData} {v : L2.V} (E : EnvR K F H V σ ρ) (r : Rep K V v d) (g1 : GoalS K F V (match g d ρ with
  | .ok ρ' => .nx ρ'
  | .exc c => .bad
  | .bad => .bad) D) : tGM K F is g v σ H D.nx := by
  refine ⟨V, ρ, d, E, r, ?_⟩
  cases e : g d ρ with
  | ok ρ' => rw [e] at g1; exact fun σ' H' V' E' x _ _ _ => g1 σ' H' V' E' x.v
  | exc c => rw [e] at g1; exact g1
  | bad => rw [e] at g1; exact g1
theorem pms_asg {tg e : Expr} {fa : M PyData} {is : List Nat} {g : GM} (he : PM X F e fa) (hg : PMG X F tg is g) (hs : swapsWithSole [tg] e pos.line X.env = pure false := by rfl) (hw : swappedStores [tg] e X.env = pure none := by rfl)
    (h1 : (assignEach [tg] X.env).map (·.2) = [assign tg X.env] := by rfl) : PMS X F (.Assign [tg] e pos) (asgO fa g) :=
  PS.imp (ps_asg he hg hs hw h1) fun D σ H ⟨V, ρ, E, g⟩ => ⟨V, ρ, E, Goal.ex g fun v d H1 V1 ρ1 st1 r1 g1 => asg_goal st1.env r1 g1⟩
theorem pms_set (i : Nat) {x : Str} {e : Expr} {fa : M PyData} {pos' : Pos} (he : PM X F e fa) (hN : X.N.Nodup) (hi : X.N[i]? = some x := by rfl) (hx : Loc X.env.scope x := by first | exact Or.inl rfl | exact Or.inr rfl) (hl : i ≠ F.ls ∨ F.lent = none := by first | exact Or.inr rfl | exact Or.inl (ne_ls rfl))
    (hs : swapsWith e (some (.Name x pos')) pos.line X.env = pure false := by rfl) (hf : X.fn x = true ∨ X.env.scope.names.lookup x = some .local := by first | exact .inl rfl | exact .inr rfl | assumption) :
    PMS X F (.Assign [.Name x pos'] e pos) (asgO fa (setS i)) := by
  refine PS.imp (ps_set hN hi hx he hs hf) fun D σ H ⟨V, ρ, E, g⟩ => ⟨V, ρ, E, Goal.ex g fun v d H1 V1 ρ1 st1 r1 g1 => ?_⟩
  unfold setS at g1
  by_cases hlt : i < ρ1.length
  · rw [if_pos hlt] at g1
    exact g1 _ _ _ (st1.env.setSh r1 hl) (Same.refl _)
  · rw [if_neg hlt] at g1
    exact False.elim g1
/-- a, b = x, y -/
def par2 (i j : Nat) (a : M (List PyData)) : SM := exO a fun ds ρ => match ds with
  | [x, y] => if i < ρ.length ∧ j < ρ.length then .nx ((ρ.set i (.sh x)).set j (.sh y)) else .bad
  | _ => .bad
theorem pms_par (i j : Nat) {x y : Str} {a b : Expr} {fs : M (List PyData)} {px py pt : Pos} {kt k2 pt2} (ha : PMA X F [a, b] fs) (hN : X.N.Nodup) (hi : X.N[i]? = some x := by rfl) (hj : X.N[j]? = some y := by rfl) (hij : i ≠ j := by decide)
    (hx : X.env.scope.names.lookup x = some .local := by rfl) (hy : X.env.scope.names.lookup y = some .local := by rfl) (hli : i ≠ F.ls ∨ F.lent = none := by first | exact Or.inr rfl | exact Or.inl (ne_ls rfl)) (hlj : j ≠ F.ls ∨ F.lent = none := by first | exact Or.inr rfl | exact Or.inl (ne_ls rfl))
    (hw : swappedStores [.Tuple [.Name x px, .Name y py] kt pt] (.Tuple [a, b] k2 pt2) X.env = pure (some [x, y]) := by rfl)
    (hs : swapsWithSole [.Tuple [.Name x px, .Name y py] kt pt] (.Tuple [a, b] k2 pt2) pos.line X.env = pure false := by rfl) (hc : X.calm = true := by rfl) :
    PMS X F (.Assign [.Tuple [.Name x px, .Name y py] kt pt] (.Tuple [a, b] k2 pt2) pos) (par2 i j fs) := by
  refine PS.imp (ps_par hc hN hi hj hij hx hy ha hw hs) fun D σ H ⟨V, ρ, E, g⟩ => ⟨V, ρ, E, Goal.ex g fun vs ds H1 V1 ρ1 st1 r1 g1 => ?_⟩
  cases r1 with
  | nil => exact False.elim g1
  | @cons v vs d ds r1 r2 =>
    cases r2 with
    | nil => exact False.elim g1
    | @cons v2 vs d2 ds r2 r3 =>
      cases r3 with
      | cons _ _ => exact False.elim g1
      | nil =>
        have g1 : GoalS X.kw F V1 (if i < ρ1.length ∧ j < ρ1.length then .nx ((ρ1.set i (.sh d)).set j (.sh d2)) else .bad) D := g1
        by_cases hlt : i < ρ1.length ∧ j < ρ1.length
        · rw [if_pos hlt] at g1
          exact ⟨v, v2, rfl, g1 _ _ _ ((st1.env.setSh r1 hli).setSh r2 hlj) (Same.refl _)⟩
        · rw [if_neg hlt] at g1
          exact False.elim g1
end
end DL
set_option Elab.async false
set_option linter.all false
set_option maxRecDepth 100000
set_option maxHeartbeats 1000000
namespace DL
open PySem PySem.Spec PyProof.Rows L2
variable [TabCtx]
/-- it walks ds, whatever comes beside what is seen at V -/
def ItD (K : KW) (J : It) (V : Hp) (ds : List PyData) : Prop := ∀ (i : Nat) (H' V' : Hp), Same V V' → Same V' H' →
  (∀ d, ds[i]? = some d → J.go i H' ∧ ∀ x H'', J.yld i H' x H'' → ∃ V'', Ext H' V' H'' V'' ∧ Rep K V'' x d) ∧ (i = ds.length → J.stop i H')
theorem ItD.mono {K : KW} {J : It} {V V1 : Hp} {ds : List PyData} (h : ItD K J V ds) (v : Same V V1) : ItD K J V1 ds := fun i H' V' s1 s2 => h i H' V' (v.trans s1) s2
def tI (K : KW) (F : Fr) (f : M (List PyData)) : TI := fun σ H R => ∃ V ρ, EnvR K F H V σ ρ ∧ Goal K F σ ρ H V (fun V' (J : It) ds => ItD K J V' ds) (f ρ) R
def PMI (X : Cx) (F : Fr) (tg iter : Expr) (f : M (List PyData)) : Prop := PI X tg iter (tI X.kw F f)
theorem PI.imp {X : Cx} {tg e : Expr} {t u : TI} (h : PI X tg e t) (i : ∀ σ H Q, u σ H Q → t σ H Q) : PI X tg e u := ⟨fun pins s σ H R I q => h.run pins s σ H R I (i σ H R q)⟩
def itL {K : KW} {a : Addr} {xs : List L2.V} {V : Hp} {ds : List PyData} (h : V a = some (.lst xs)) (r : RepL K V xs ds) : ItD K (Itl K a) V ds := by
  intro i H' V' s1 s2
  have hq : SqL K H' a xs := .inl (.inl (s2 _ _ (s1 _ _ h)))
  refine ⟨fun d hd => ?_, fun e => ⟨xs, hq, by rw [r.length, e]; exact Nat.le_refl _⟩⟩
  obtain ⟨v, h1, h2⟩ := r.get i hd
  refine ⟨⟨xs, v, hq, h1⟩, fun x H'' hy => ?_⟩
  obtain ⟨e, hy⟩ := hy
  subst e
  have e2 : v = x := Option.some.inj (h1.symm.trans (hy xs hq))
  subst e2
  exact ⟨V', Ext.refl s2, h2.mono s1⟩
def itT {K : KW} {a : Addr} {xs : List L2.V} {V : Hp} {ds : List PyData} (h : V a = some (.tup xs)) (r : RepL K V xs ds) : ItD K (Itt K a) V ds := by
  intro i H' V' s1 s2
  have hq : SqT K H' a xs := sqt s2 (s1 _ _ h)
  refine ⟨fun d hd => ?_, fun e => ⟨xs, hq, by rw [r.length, e]; exact Nat.le_refl _⟩⟩
  obtain ⟨v, h1, h2⟩ := r.get i hd
  refine ⟨⟨xs, v, hq, h1⟩, fun x H'' hy => ?_⟩
  obtain ⟨e, hy⟩ := hy
  subst e
  have e2 : v = x := Option.some.inj (h1.symm.trans (hy xs hq))
  subst e2
  exact ⟨V', Ext.refl s2, h2.mono s1⟩
def signD (c : Nat) : PyData := .str ⟨#[c]⟩
def itS {K : KW} {x : Str} {V : Hp} : ItD K (Its x) V (x.cps.toList.map signD) := by
  intro i H' V' s1 s2
  refine ⟨fun d hd => ?_, fun e => ?_⟩
  · rw [List.getElem?_map] at hd
    obtain ⟨c, hc, ed⟩ := Option.map_eq_some_iff.mp hd
    subst ed
    have hlt : i < x.cps.toList.length := (List.getElem?_eq_some_iff.mp hc).1
    refine ⟨by show i < x.cps.size; simpa using hlt, fun v H'' hy => ?_⟩
    obtain ⟨e, c', hc', ev⟩ := hy
    subst e ev
    have e2 : c = c' := by
      rw [← Array.getElem?_toList] at hc'
      exact Option.some.inj (hc.symm.trans hc')
    subst e2
    exact ⟨V', Ext.refl s2, .str _⟩
  · show x.cps.size ≤ i
    rw [e, List.length_map, Array.length_toList]
    exact Nat.le_refl _
def rangeD (lo : Int) (n : Nat) : List PyData := (List.range n).map fun i => .int (lo + (i : Nat))
def itR {K : KW} {lo : Int} {n : Nat} {V : Hp} : ItD K (Itr lo n) V (rangeD lo n) := by
  intro i H' V' s1 s2
  unfold rangeD
  refine ⟨fun d hd => ?_, fun e => ?_⟩
  · rw [List.getElem?_map] at hd
    obtain ⟨c, hc, ed⟩ := Option.map_eq_some_iff.mp hd
    obtain ⟨h1, h2⟩ := List.getElem?_eq_some_iff.mp hc
    rw [List.length_range] at h1
    rw [List.getElem_range] at h2
    subst h2 ed
    refine ⟨h1, fun v H'' hy => ?_⟩
    obtain ⟨e, ev⟩ := hy
    subst e ev
    exact ⟨V', Ext.refl s2, .int _⟩
  · show n ≤ i
    rw [e, List.length_map, List.length_range]
    exact Nat.le_refl _
/-- a list, a tuple, a text -/
def itemsD : PyData → Option (List PyData)
  | .list ds => some ds
  | .tuple ds => some ds
  | .str x => some (x.cps.toList.map signD)
  | _ => none
def seqI (a : M PyData) : M (List PyData) := M.bind a fun d => M.opt (itemsD d)
def iSeq (K : KW) (tl : TE) : TI := fun σ H R => tl σ H fun x H1 => (∃ a, x = .ref a ∧ (∃ xs, SqL K H1 a xs) ∧ R (Itl K a) H1) ∨ (∃ a, x = .ref a ∧ (∃ xs, SqT K H1 a xs) ∧ R (Itt K a) H1) ∨ ∃ z, x = .str z ∧ R (Its z) H1
section
variable {X : Cx} {F : Fr} {tg l e e2 : Expr} {pos : Pos} {fa fb : M PyData} {fs : M (List PyData)}
theorem pi_seq {tl : TE} (hl : PE X l tl) : PI X tg l (iSeq X.kw tl) := by
  refine ⟨fun pins s σ H R I h => ?_⟩
  refine thn (hl.run pins s σ H _ I h) fun v s1 ⟨x, H1, I1, r1, q1⟩ => ?_
  rcases q1 with ⟨a, e, ⟨xs, hq⟩, q⟩ | ⟨a, e, ⟨xs, hq⟩, q⟩ | ⟨z, e, q⟩
  · subst e
    cases r1
    obtain ⟨its, rv, p, hz⟩ := I1.list hq
    refine wpAny_pyIter_list p.isList ?_
    refine ⟨s1.heap.objs.size, [s1.heap.objs.size], _, _, H1, rfl, I1.kept (t' := s1.toks) fun b o e => Heap.get?_push_of_some _ e, turn_list a _, ⟨_, Heap.get?_push_size _ rfl, rfl, rfl⟩, fun b hb => ?_, q⟩
    have e : b = s1.heap.objs.size := by simpa using hb
    subst e
    exact I1.fpOk (Nat.le_refl _) (I1.hok.fresh (Nat.le_refl _))
  · subst e
    cases r1
    obtain ⟨its, rv, p, hz⟩ := I1.tuple hq
    refine wpAny_pyIter_tuple (show s1.heap.IsTuple a its.toArray from p) ?_
    refine ⟨s1.heap.objs.size, [s1.heap.objs.size], _, _, H1, rfl, I1.kept (t' := s1.toks) fun b o e => Heap.get?_push_of_some _ e, turn_tuple a _, ⟨_, Heap.get?_push_size _ rfl, rfl, rfl⟩, fun b hb => ?_, q⟩
    have e : b = s1.heap.objs.size := by simpa using hb
    subst e
    exact I1.fpOk (Nat.le_refl _) (I1.hok.fresh (Nat.le_refl _))
  · subst e
    obtain ⟨t, rfl⟩ := r1
    cases ha : z.cps.all (· < 128)
    · exact wpAny_pyIter_wide ha (pi_one (tk := s1.toks) I1 _ (turn_str _ z t "str_iterator" (.inr rfl)) ⟨_, Heap.get?_push_size _ rfl, rfl, rfl⟩ q)
    · exact wpAny_pyIter_ascii ha (pi_one (tk := s1.toks) I1 _ (turn_str _ z t "str_ascii_iterator" (.inl rfl)) ⟨_, Heap.get?_push_size _ rfl, rfl, rfl⟩ q)
theorem pmi_seq (h : PM X F l fa) : PMI X F tg l (seqI fa) := by
  refine PI.imp (pi_seq h) fun σ H R ⟨V, ρ, E, g0⟩ => ⟨V, ρ, E, Goal.bind g0 fun x dx H1 V1 ρ1 st1 r1 g1 => ?_⟩
  obtain ⟨z, ez, q⟩ := Goal.opt st1.env g1
  have s := st1.env.sub
  cases r1 with
  | @lst a xs ds ha ra => cases ez; exact .inl ⟨a, rfl, ⟨xs, .inl (.inl (s _ _ ha))⟩, q _ _ _ (Ext.refl s) (itL ha ra)⟩
  | @tup a xs ds ha ra => cases ez; exact .inr (.inl ⟨a, rfl, ⟨xs, sqt s ha⟩, q _ _ _ (Ext.refl s) (itT ha ra)⟩)
  | str x => cases ez; exact .inr (.inr ⟨x, rfl, q _ _ _ (Ext.refl s) itS⟩)
  | _ => cases ez
def rg1 : List PyData → Option (List PyData)
  | [.int j] => if -(2 ^ 62) ≤ j ∧ j < 2 ^ 62 then some (rangeD 0 j.toNat) else none
  | _ => none
def opI (g : List PyData → Option (List PyData)) (a : M (List PyData)) : M (List PyData) := M.bind a fun ds => M.opt (g ds)
theorem ite_someL {α : Type} {c : Prop} [Decidable c] {a z : α} (h : (if c then some a else none) = some z) : c ∧ a = z := by
  by_cases hc : c
  · rw [if_pos hc] at h; exact ⟨hc, Option.some.inj h⟩
  · rw [if_neg hc] at h; cases h
theorem pmi_range1 {p : Pos} (hm : X.mg "range" = none) (ha : PMA X F [e] fs) (hg : Gl X "range" := by rfl) (hs : starEach [e] X.env = [(false, eval e X.env)] := by rfl) : PMI X F tg (.Call (.Name "range" p) [e] [] pos) (opI rg1 fs) := by
  refine PI.imp (pi_range1 hg hm ha hs) fun σ H R ⟨V, ρ, E, g0⟩ => ⟨V, ρ, E, Goal.bind g0 fun x dx H1 V1 ρ1 st1 r1 g1 => ?_⟩
  obtain ⟨z, ez, q⟩ := Goal.opt st1.env g1
  cases r1 with
  | nil => cases ez
  | cons r1 r2 =>
    cases r2 with
    | cons _ _ => cases r1 <;> cases ez
    | nil =>
      cases r1 with
      | int j =>
        obtain ⟨h, rfl⟩ := ite_someL ez
        exact ⟨j, rfl, h.1, h.2, q _ _ _ (Ext.refl st1.env.sub) itR⟩
      | _ => cases ez
def zipD (a b : List PyData) : List PyData := (a.zip b).map fun p => .tuple [p.1, p.2]
def gZip : List PyData → Option (List PyData)
  | [.list a, .list b] => some (zipD a b)
  | [.tuple a, .tuple b] => some (zipD a b)
  | _ => none
theorem zipD_get {a b : List PyData} {i : Nat} {d : PyData} (h : (zipD a b)[i]? = some d) : ∃ x y, a[i]? = some x ∧ b[i]? = some y ∧ d = .tuple [x, y] := by
  unfold zipD at h
  rw [List.getElem?_map] at h
  obtain ⟨⟨x, y⟩, h1, h2⟩ := Option.map_eq_some_iff.mp h
  obtain ⟨h3, h4⟩ := List.getElem?_zip_eq_some.mp h1
  exact ⟨x, y, h3, h4, h2.symm⟩
theorem zipD_len {a b : List PyData} : (zipD a b).length = min a.length b.length := by
  unfold zipD
  rw [List.length_map, List.length_zip]
theorem itZ {K : KW} {a b : Addr} {xs ys : List L2.V} {V : Hp} {ds es : List PyData} (ha : V a = some (.lst xs)) (ra : RepL K V xs ds) (hb : V b = some (.lst ys)) (rb : RepL K V ys es) : ItD K (Itz K a b) V (zipD ds es) := by
  intro i H' V' s1 s2
  have q1 : SqL K H' a xs := .inl (.inl (s2 _ _ (s1 _ _ ha)))
  have q2 : SqL K H' b ys := .inl (.inl (s2 _ _ (s1 _ _ hb)))
  refine ⟨fun d hd => ?_, fun e => ⟨xs, ys, q1, q2, ?_⟩⟩
  · obtain ⟨x, y, hx, hy, rfl⟩ := zipD_get hd
    obtain ⟨v, h1, h2⟩ := ra.get i hx
    obtain ⟨u, h3, h4⟩ := rb.get i hy
    refine ⟨⟨xs, ys, v, u, q1, q2, h1, h3⟩, fun z H'' hyl => ?_⟩
    obtain ⟨T, x', y', rfl, hT, rfl, f1, f2⟩ := hyl
    have e1 : v = x' := Option.some.inj (h1.symm.trans (f1 xs q1))
    have e2 : u = y' := Option.some.inj (h3.symm.trans (f2 ys q2))
    subst e1 e2
    exact ⟨_, Ext.new s2 hT, new_tup s2 hT (.cons (h2.mono s1) (.cons (h4.mono s1) .nil))⟩
  · rw [zipD_len] at e
    rw [ra.length, rb.length]
    omega
theorem itZT {K : KW} {a b : Addr} {xs ys : List L2.V} {V : Hp} {ds es : List PyData} (ha : V a = some (.tup xs)) (ra : RepL K V xs ds) (hb : V b = some (.tup ys)) (rb : RepL K V ys es) : ItD K (RZ.ItzT K a b) V (zipD ds es) := by
  intro i H' V' s1 s2
  have q1 : SqT K H' a xs := sqt s2 (s1 _ _ ha)
  have q2 : SqT K H' b ys := sqt s2 (s1 _ _ hb)
  refine ⟨fun d hd => ?_, fun e => ⟨xs, ys, q1, q2, ?_⟩⟩
  · obtain ⟨x, y, hx, hy, rfl⟩ := zipD_get hd
    obtain ⟨v, h1, h2⟩ := ra.get i hx
    obtain ⟨u, h3, h4⟩ := rb.get i hy
    refine ⟨⟨xs, ys, v, u, q1, q2, h1, h3⟩, fun z H'' hyl => ?_⟩
    obtain ⟨T, x', y', rfl, hT, rfl, f1, f2⟩ := hyl
    have e1 : v = x' := Option.some.inj (h1.symm.trans (f1 xs q1))
    have e2 : u = y' := Option.some.inj (h3.symm.trans (f2 ys q2))
    subst e1 e2
    exact ⟨_, Ext.new s2 hT, new_tup s2 hT (.cons (h2.mono s1) (.cons (h4.mono s1) .nil))⟩
  · rw [zipD_len] at e
    rw [ra.length, rb.length]
    omega
theorem pmi_zip {elts : List Expr} {kk : Nat} {tpos p : Pos} (hm : X.mg "zip" = none) (ha : PMA X F [e, e2] fs) (hg : Gl X "zip" := by rfl) (hs : starEach [e, e2] X.env = (false, eval e X.env) :: starEach [e2] X.env := by rfl) (hpl : (backTo pos (starEach [e2] X.env)).any (·.1) = false := by rfl) :
    PMI X F (.Tuple elts kk tpos) (.Call (.Name "zip" p) [e, e2] [] pos) (opI gZip fs) := by
  refine PI.imp (RZ.pi_zipA hg hm ha hs hpl) fun σ H R ⟨V, ρ, E, g0⟩ => ⟨V, ρ, E, Goal.bind g0 fun x dx H1 V1 ρ1 st1 r1 g1 => ?_⟩
  obtain ⟨z, ez, q⟩ := Goal.opt st1.env g1
  have s := st1.env.sub
  cases r1 with
  | nil => cases ez
  | cons r1 r2 =>
    cases r2 with
    | nil => cases r1 <;> cases ez
    | cons r2 r3 =>
      cases r3 with
      | cons _ _ => cases r1 <;> cases r2 <;> cases ez
      | nil =>
        cases r1 with
        | @lst a xs ds ha ra =>
          cases r2 with
          | @lst b ys es hb rb => cases ez; exact ⟨a, b, xs, ys, rfl, .inl ⟨.inl (.inl (s _ _ ha)), .inl (.inl (s _ _ hb)), q _ _ _ (Ext.refl s) (itZ ha ra hb rb)⟩⟩
          | _ => cases ez
        | @tup a xs ds ha ra =>
          cases r2 with
          | @tup b ys es hb rb => cases ez; exact ⟨a, b, xs, ys, rfl, .inr ⟨sqt s ha, sqt s hb, q _ _ _ (Ext.refl s) (itZT ha ra hb rb)⟩⟩
          | _ => cases ez
        | _ => cases r2 <;> cases ez
end
def loopO (g : GM) (body : SM) : List PyData → Rho → O
  | [], ρ => .nx ρ
  | d :: ds, ρ => match g d ρ with
    | .ok ρ1 => (match body ρ1 with
      | .nx ρ2 => loopO g body ds ρ2
      | .ct ρ2 => loopO g body ds ρ2
      | .bk ρ2 => .nx ρ2
      | .rt x ρ2 => .rt x ρ2
      | .rf x ρ2 => .rf x ρ2
      | .exc c => .exc c
      | .bad => .bad)
    | .exc _ => .bad
    | .bad => .bad
def forO (a : M (List PyData)) (g : GM) (body : SM) : SM := exO a fun ds => loopO g body ds
section
variable {X : Cx} {F : Fr} {tg iter : Expr} {body : List Stmt} {pos : Pos} {fi : M (List PyData)} {is : List Nat} {g : GM} {fb : SM}
theorem pms_for (hp : PassesOwn (model X.prog X.w) X.A X.env X.xe) (hi : PMI X F tg iter fi) (hg : PMG X F tg is g) (hb : PMSs X F body fb) (hc : X.calm = true := by rfl)
    (hs : ∀ x, foldedSetIterable iter X.env x = pure x := by intro _; rfl) : PMS X F (.For tg iter body [] pos) (forO fi g fb) := by
  refine PS.imp (ps_for hp hc hi hg hb hs) fun D σ H ⟨V, ρ, E, g0⟩ => ⟨V, ρ, E, Goal.ex g0 fun J ds H1 V1 ρ1 st1 it g1 => ?_⟩
  refine ⟨fun i m σ' H' => m = ds.length - i ∧ i ≤ ds.length ∧ ∃ V' ρ', EnvR X.kw F H' V' σ' ρ' ∧ Same V1 V' ∧ GoalS X.kw F V' (loopO g fb (ds.drop i) ρ') D,
    ⟨ds.length, rfl, Nat.zero_le _, V1, ρ1, st1.env, Same.refl _, g1⟩, ?_⟩
  rintro i m σ' H' ⟨rfl, hle, V', ρ', E', sv, gl⟩
  obtain ⟨h1, h2⟩ := it i H' V' sv E'.sub
  by_cases hlt : i < ds.length
  · have hd : ds[i]? = some ds[i] := List.getElem?_eq_getElem hlt
    obtain ⟨go, yl⟩ := h1 _ hd
    rw [List.drop_eq_getElem_cons hlt] at gl
    refine .inr ⟨go, fun σ2 H2 => ∃ V2 ρ2, EnvR X.kw F H2 V2 σ2 ρ2 ∧ Same V1 V2 ∧ GoalS X.kw F V2 (loopO g fb (ds.drop (i + 1)) ρ2) D, fun σ2 H2 h => ⟨ds.length - (i + 1), by omega, rfl, hlt, h⟩, fun x H2 y => ?_⟩
    obtain ⟨V2, x2, r2⟩ := yl x H2 y
    refine ⟨V2, ρ', ds[i], E'.grow x2, r2, ?_⟩
    unfold loopO at gl
    cases eg : g ds[i] ρ' with
    | exc c => rw [eg] at gl; exact gl
    | bad => rw [eg] at gl; exact gl
    | ok ρ3 =>
      rw [eg] at gl
      intro σ3 H3 V3 E3 x3 _ _ _
      refine ⟨V3, ρ3, E3, ?_⟩
      have v3 : Same V' V3 := x2.v.trans x3.v
      have gl : GoalS X.kw F V' (match fb ρ3 with
        | .nx ρ2 => loopO g fb (ds.drop (i + 1)) ρ2
        | .ct ρ2 => loopO g fb (ds.drop (i + 1)) ρ2
        | .bk ρ2 => .nx ρ2
        | .rt x ρ2 => .rt x ρ2
        | .rf x ρ2 => .rf x ρ2
        | .exc c => .exc c
        | .bad => .bad) D := gl
      cases eb : fb ρ3 with
      | nx ρ4 => rw [eb] at gl; exact fun σ4 H4 V4 E4 v4 => ⟨V4, ρ4, E4, (sv.trans v3).trans v4, GoalS.mono (v3.trans v4) gl⟩
      | ct ρ4 => rw [eb] at gl; exact fun σ4 H4 V4 E4 v4 => ⟨V4, ρ4, E4, (sv.trans v3).trans v4, GoalS.mono (v3.trans v4) gl⟩
      | bk ρ4 => rw [eb] at gl; exact fun σ4 H4 V4 E4 v4 => gl σ4 H4 V4 E4 (v3.trans v4)
      | rt x ρ4 => rw [eb] at gl; exact fun v σ4 H4 V4 E4 v4 => gl v σ4 H4 V4 E4 (v3.trans v4)
      | rf x ρ4 => rw [eb] at gl; exact fun v σ4 H4 V4 E4 v4 => gl v σ4 H4 V4 E4 (v3.trans v4)
      | exc c => rw [eb] at gl; exact gl
      | bad => rw [eb] at gl; exact gl
  · have e : i = ds.length := by omega
    subst e
    rw [List.drop_length] at gl
    exact .inl ⟨h2 rfl, gl σ' H' V' E' (Same.refl _)⟩
end
end DL
set_option Elab.async false
set_option linter.all false
set_option maxRecDepth 100000
set_option maxHeartbeats 1000000
namespace DL
open PySem PySem.Spec PyProof.Rows L2
variable [TabCtx]
def start0 (n : Nat) (ds : List PyData) : Rho := ds.map .sh ++ List.replicate (n - ds.length) .no
/-- a def of k parameters, n slots -/
def fnRun (k n : Nat) (f : SM) (ds : List PyData) : R PyData := if ds.length = k then (match f (start0 n ds) with
  | .rt d _ => .ok d
  | .rf d _ => .ok d
  | .nx _ => .ok .none
  | .exc c => .exc c
  | _ => .bad) else .bad
def spF (K : KW) (n : Nat) (m : List PyData → R PyData) : Sp := fun vs H Q E => vs.length = n ∧ ∃ V ds, TabV H V ∧ Same V H ∧ RepL K V vs ds ∧ match m ds with
  | .ok d => ∀ v H' V', Ext H V H' V' → Rep K V' v d → Q v H'
  | .exc c => ∀ H' V', Ext H V H' V' → E (.ref (He.ga K c)) none H'
  | .bad => False
def FnD (P : Program) (w : World) (K : PySem.W.Frag) (mg : Str → Option Value) (base : Heap) (lvl : Nat) (x : Str) (ps : List Str) (m : List PyData → R PyData) : Prop :=
  ∃ fd, FnOk P w K mg base (L2N.CX P w) lvl (He.ga K x) fd ps (spF ⟨K, w⟩ ps.length m) ∧ Binds K fd ps [] ∧ PySem.W.keepIn K (.ref (He.ga K x)) = true ∧ mg x = some (.ref (He.ga K x)) ∧ ∀ ds, m ds ≠ .bad → ds.length = ps.length
theorem FnD.mono {P : Program} {w : World} {K : PySem.W.Frag} {mg : Str → Option Value} {base : Heap} {j k : Nat} {x : Str} {ps : List Str} {m : List PyData → R PyData} (F : FnD P w K mg base j x ps m) (h : j ≤ k) : FnD P w K mg base k x ps m := by
  obtain ⟨fd, h1, h2⟩ := F
  exact ⟨fd, h1.mono h, h2⟩
theorem start0_ob {n : Nat} {ds : List PyData} {i : Nat} {o : Ob} (h : (start0 n ds)[i]? = some (.ob o)) : False := by
  unfold start0 at h
  by_cases hi : i < ds.length
  · rw [List.getElem?_append_left (by simpa using hi), List.getElem?_map] at h
    obtain ⟨d', h1, h2⟩ := Option.map_eq_some_iff.mp h
    cases h2
  · rw [List.getElem?_append_right (by simpa using hi), List.getElem?_replicate] at h
    split at h <;> cases h
abbrev mkF (H V : Hp) (E : XK) : Fr := ⟨H, V, none, fun cls _ H' => E cls none H', 0, fun _ => False⟩
theorem repL_get {K : KW} {V : Hp} {vs : List L2.V} {ds : List PyData} (r : RepL K V vs ds) {n : Nat} {N : List Str} (hn : N.length = n) (hle : vs.length ≤ n) {H : Hp} {E : XK} (s : Same V H) (ht : TabV H V) : EnvR K (mkF H V E) H V (L2.start N vs) (start0 n ds) := by
  have hl := r.length
  refine ⟨by simp [L2.start, start0, hl, hn], Ext.refl s, fun i d h => ?_, fun i d h => ?_, fun i j a d e h => ?_, (fun a h => by cases h), ht, ObE.non fun i o h => start0_ob h⟩
  · unfold start0 at h
    unfold L2.start
    by_cases hi : i < ds.length
    · rw [List.getElem?_append_left (by simpa using hi), List.getElem?_map] at h
      obtain ⟨d', h1, h2⟩ := Option.map_eq_some_iff.mp h
      cases h2
      obtain ⟨v, h3, h4⟩ := r.get i h1
      exact ⟨v, by rw [List.getElem?_append_left (by rw [List.length_map]; omega), List.getElem?_map, h3]; rfl, h4⟩
    · rw [List.getElem?_append_right (by simpa using hi), List.getElem?_replicate] at h
      split at h <;> cases h
  · unfold start0 at h
    by_cases hi : i < ds.length
    · rw [List.getElem?_append_left (by simpa using hi), List.getElem?_map] at h
      obtain ⟨d', h1, h2⟩ := Option.map_eq_some_iff.mp h
      cases h2
    · rw [List.getElem?_append_right (by simpa using hi), List.getElem?_replicate] at h
      split at h <;> cases h
  · unfold start0 at h
    by_cases hi : i < ds.length
    · rw [List.getElem?_append_left (by simpa using hi), List.getElem?_map] at h
      obtain ⟨d', h1, h2⟩ := Option.map_eq_some_iff.mp h
      cases h2
    · rw [List.getElem?_append_right (by simpa using hi), List.getElem?_replicate] at h
      split at h <;> cases h
section
variable {P : Program} {w : World} {K : PySem.W.Frag} {mg : Str → Option Value} {base : Heap} {x : Str} {params : Arguments} {body : List Stmt} {scope : Scope} {fd : FuncData}
abbrev cxF (P : Program) (w : World) (K : PySem.W.Frag) (mg : Str → Option Value) (base : Heap) (N : List Str) (x : Str) (scope : Scope) (cdv : Value) (A : Around) (outer : List Env) (s : Shared) (H : Hp) (E : XK) : Cx := cxOf (L2N.CX P w) P w K mg base N x scope (He.ga K x) cdv A outer s H E
theorem tk_fn {N : List Str} {cdv : Value} {A : Around} {outer : List Env} {s : Shared} {H : Hp} {E : XK} {H0 V0 : Hp} {l : Option Addr} {n0 : Nat} {ob0 : Addr → Prop} : Tk (cxF P w K mg base N x scope cdv A outer s H E) ⟨H0, V0, l, fun cls _ H' => E cls none H', n0, ob0⟩ := by
  have t : L2N.Takes (cxF P w K mg base N x scope cdv A outer s H E) (fun cls d _ H' => E cls d H') := L2N.takes_of rfl rfl rfl rfl
  refine t.imp fun c d σ H' ⟨h1, h2⟩ => ?_
  rw [h1]
  exact h2
theorem fn_mk {N ps : List Str} {k : Nat} {f : SM} (D : FunD K x x params body scope [] [] (He.ga K x) fd) (hx : mg x = some (.ref (He.ga K x))) (S : FnScope N ps scope)
    (hbd : ∀ (kV doc pm : Value) (an : Option Addr) (cdv ct : Value) (us : List Value), us.length = ps.length → bindArgs (PySem.W.fnOf x x params body scope .none kV doc pm an cdv ct) ⟨us, []⟩ = pure (ps.zip us))
    (hps : ps.length ≤ N.length)
    (hb : ∀ (cdv : Value) (A : Around) (outer : List Env) (s : Shared) (H V : Hp) (E : XK), Room k (A.deeper (envOfC x scope s.heap.objs.size (He.ga K x) cdv)) → PMSs (cxF P w K mg base N x scope cdv A outer s H E) (mkF H V E) body f) :
    FnD P w K mg base (k + 1) x ps (fnRun ps.length N.length f) := by
  refine ⟨fd, D.ok (CX := L2N.CX P w) S (fun vs H Q E h => h.1) fun cdv A outer s H vs Q E hr h => ?_, D.bindsN hbd, D.kp, hx, fun ds h => ?_⟩
  · obtain ⟨hl, V, ds, ht, sv, r, g⟩ := h
    refine ⟨_, hb cdv A outer s H V E hr, V, start0 N.length ds, repL_get r rfl (by omega) sv ht, ?_⟩
    unfold fnRun at g
    rw [if_pos (by rw [← r.length]; exact hl)] at g
    show GoalS ⟨K, w⟩ (mkF H V E) V (f (start0 N.length ds)) _
    cases e : f (start0 N.length ds) with
    | rt d ρ' => rw [e] at g; exact fun v σ' H' V' E' _ r' => g v H' V' E'.ext r'
    | rf d ρ' => rw [e] at g; exact fun v σ' H' V' E' _ r' _ => g v H' V' E'.ext r'
    | nx ρ' => rw [e] at g; exact fun σ' H' V' E' _ => g .non H' V' E'.ext .non
    | exc c => rw [e] at g; exact fun σ' H' V' x => g H' V' x
    | bk ρ' => rw [e] at g; exact False.elim g
    | ct ρ' => rw [e] at g; exact False.elim g
    | bad => rw [e] at g; exact False.elim g
  · unfold fnRun at h
    by_cases hl : ds.length = ps.length
    · exact hl
    · rw [if_neg hl] at h; exact absurd rfl h
end
section
variable {X : Cx} {F : Fr} {e : Expr} {es : List Expr} {fs : M (List PyData)} {pos p : Pos}
/-- f(..) -/
theorem pm_call {lvl : Nat} {x : Str} {ps : List Str} {m : List PyData → R PyData} (G : FnD X.prog X.w X.K X.mg X.base lvl x ps m) (hr : Room lvl X.A) (tk : Tk X F) (ha : PMA X F (e :: es) fs) (hg : Gl X x := by rfl)
    (hdb : (x == ("__debug__" : Str)) = false := by decide) (he : starEach (e :: es) X.env = (false, eval e X.env) :: starEach es X.env := by rfl) (hpl : (backTo pos (starEach es X.env)).any (·.1) = false := by rfl) : PM X F (.Call (.Name x p) (e :: es) [] pos) (callM m fs) := by
  obtain ⟨fd, G1, G2, G3, G4, G5⟩ := G
  refine PE.imp (pe_callS G1 hr hg G4 G3 G2 (fun σ => L2N.passAt tk σ) ha hdb he hpl) fun σ H Q ⟨V, ρ, E, g0⟩ => ⟨V, ρ, E, Goal.bind g0 fun vs ds H1 V1 ρ1 st1 r1 g1 => ?_⟩
  unfold M.lift at g1
  cases em : m ds with
  | ok d =>
    rw [em] at g1
    refine ⟨by rw [r1.length]; exact G5 ds (by rw [em]; exact fun z => nomatch z), V1, ds, st1.env.tabs, st1.env.sub, r1, ?_⟩
    rw [em]
    exact fun v H' V' x r => g1 v H' V' (st1.env.step x) r
  | exc c =>
    rw [em] at g1
    refine ⟨by rw [r1.length]; exact G5 ds (by rw [em]; exact fun z => nomatch z), V1, ds, st1.env.tabs, st1.env.sub, r1, ?_⟩
    rw [em]
    exact fun H' V' x => ⟨rfl, g1 H' V' (st1.env.ext.trans x)⟩
  | bad => rw [em] at g1; exact False.elim g1
end
def Fr.nox (F : Fr) : Fr := { F with W := fun _ _ _ => False }
theorem EnvR.nox {K : KW} {F : Fr} {H V : Hp} {σ : St} {ρ : Rho} (E : EnvR K F H V σ ρ) : EnvR K F.nox H V σ ρ := ⟨E.len, E.ext, E.sh, E.ow, E.dis, E.lent, E.tab, ⟨E.ob.at_, E.ob.dis⟩⟩
theorem EnvR.unnox {K : KW} {F : Fr} {H V : Hp} {σ : St} {ρ : Rho} (E : EnvR K F.nox H V σ ρ) : EnvR K F H V σ ρ := ⟨E.len, E.ext, E.sh, E.ow, E.dis, E.lent, E.tab, ⟨E.ob.at_, E.ob.dis⟩⟩
theorem Stp.unnox {K : KW} {F : Fr} {σ : St} {ρ ρ' : Rho} {H V H' V' : Hp} (s : Stp K F.nox σ ρ ρ' H V H' V') : Stp K F σ ρ ρ' H V H' V' := ⟨s.env.unnox, s.v, s.keep, s.own, s.shs, s.f, s.th⟩
theorem tk_nox {X : Cx} {F : Fr} : Tk X F.nox := L2N.Takes.imp takesN0 fun _ _ _ _ h => h.2
def wipeR (ρ : Rho) : List Nat → Rho
  | [] => ρ
  | v :: vs => (wipeR ρ vs).set v .no
def isOw : Option Sl → Bool
  | some (.ow _) => true
  | some (.ob _) => true
  | _ => false
def isOwn1 : Option Sl → Bool
  | some (.ow _) => true
  | _ => false
/-- the slots vs of ρ, the others of ρ' -/
def resR (ρ ρ' : Rho) : List Nat → Rho
  | [] => ρ'
  | v :: vs => (resR ρ ρ' vs).set v (ρ.getD v .no)
def lcLoop (vs : List Nat) (g : GM) (t : M Bool) (e : M PyData) : List PyData → Rho → List PyData → R (List PyData × Rho)
  | [], ρ, acc => .ok (acc, ρ)
  | d :: ds, ρ, acc => match g d (wipeR ρ vs) with
    | .ok ρ1 => (match t ρ1 with
      | .ok (true, ρ2) => (match e ρ2 with
        | .ok (y, ρ3) => if acc.length < LIM then lcLoop vs g t e ds ρ3 (acc ++ [y]) else .bad
        | _ => .bad)
      | .ok (false, ρ2) => lcLoop vs g t e ds ρ2 acc
      | _ => .bad)
    | _ => .bad
def lcM (vs : List Nat) (a : M (List PyData)) (g : GM) (t : M Bool) (e : M PyData) : M PyData := M.bind a fun ds ρ => if vs.any (fun i => isOw ρ[i]?) = true then .bad else (match lcLoop vs g t e ds ρ [] with
  | .ok (acc, ρ') => .ok (.list acc, resR ρ ρ' vs)
  | _ => .bad)
theorem wipeR_len (ρ : Rho) : ∀ vs, (wipeR ρ vs).length = ρ.length
  | [] => rfl
  | v :: vs => by unfold wipeR; rw [List.length_set, wipeR_len ρ vs]
theorem wipeR_some {ρ : Rho} {i : Nat} {s : Sl} : s ≠ .no → ∀ {vs : List Nat}, (wipeR ρ vs)[i]? = some s → ρ[i]? = some s ∧ i ∉ vs
  | hs, [], h => ⟨h, by simp⟩
  | hs, v :: vs, h => by
    unfold wipeR at h
    by_cases hi : v = i
    · subst hi
      by_cases hv : v < (wipeR ρ vs).length
      · rw [List.getElem?_set_self hv] at h; cases h; exact absurd rfl hs
      · rw [List.getElem?_eq_none (by simpa using hv)] at h; cases h
    · rw [List.getElem?_set_ne hi] at h
      obtain ⟨h1, h2⟩ := wipeR_some hs h
      exact ⟨h1, by simp only [List.mem_cons, not_or]; exact ⟨fun e => hi e.symm, h2⟩⟩
theorem wipeR_out {ρ : Rho} {i : Nat} : ∀ {vs : List Nat}, i ∉ vs → (wipeR ρ vs)[i]? = ρ[i]?
  | [], _ => rfl
  | v :: vs, h => by
    unfold wipeR
    rw [List.getElem?_set_ne (fun e => h (by rw [e]; exact List.mem_cons_self)), wipeR_out fun z => h (List.mem_cons_of_mem _ z)]
theorem wipe_outL {σ : St} {i : Nat} : ∀ {vs : List Nat}, i ∉ vs → (wipe σ vs)[i]? = σ[i]?
  | [], _ => rfl
  | v :: vs, h => by
    unfold wipe
    rw [List.getElem?_set_ne (fun e => h (by rw [e]; exact List.mem_cons_self)), wipe_outL fun z => h (List.mem_cons_of_mem _ z)]
theorem wipe_in {σ : St} {i : Nat} : ∀ {vs : List Nat}, i ∈ vs → i < σ.length → (wipe σ vs)[i]? = some none
  | v :: vs, h, hl => by
    unfold wipe
    by_cases e : v = i
    · subst e; exact List.getElem?_set_self (by rw [wipe_length]; exact hl)
    · rw [List.getElem?_set_ne e]
      rcases List.mem_cons.mp h with z | z
      · exact absurd z.symm e
      · exact wipe_in z hl
theorem wipe_wipe (σ : St) (vs : List Nat) : wipe (wipe σ vs) vs = wipe σ vs := by
  apply List.ext_getElem?
  intro i
  by_cases h : i ∈ vs
  · by_cases hl : i < σ.length
    · rw [wipe_in h (by rw [wipe_length]; exact hl), wipe_in h hl]
    · rw [List.getElem?_eq_none (by simp only [wipe_length]; omega), List.getElem?_eq_none (by simp only [wipe_length]; omega)]
  · rw [wipe_outL h]
theorem resR_len (ρ ρ' : Rho) : ∀ vs, (resR ρ ρ' vs).length = ρ'.length
  | [] => rfl
  | v :: vs => by unfold resR; rw [List.length_set, resR_len ρ ρ' vs]
theorem resR_out {ρ ρ' : Rho} {i : Nat} : ∀ {vs : List Nat}, i ∉ vs → (resR ρ ρ' vs)[i]? = ρ'[i]?
  | [], _ => rfl
  | v :: vs, h => by
    unfold resR
    rw [List.getElem?_set_ne (fun e => h (by rw [e]; exact List.mem_cons_self)), resR_out fun z => h (List.mem_cons_of_mem _ z)]
theorem resR_in {ρ ρ' : Rho} {i : Nat} : ∀ {vs : List Nat}, i ∈ vs → i < ρ'.length → (resR ρ ρ' vs)[i]? = some (ρ.getD i .no)
  | v :: vs, h, hl => by
    unfold resR
    by_cases e : v = i
    · subst e; exact List.getElem?_set_self (by rw [resR_len]; exact hl)
    · rw [List.getElem?_set_ne e]
      rcases List.mem_cons.mp h with z | z
      · exact absurd z.symm e
      · exact resR_in z hl
section
variable {K : KW} {F : Fr} {σ : St} {ρ ρ1 : Rho} {H V H1 V1 : Hp}
theorem EnvR.wipe (E : EnvR K F H V σ ρ) {vs : List Nat} (hl : F.ls ∉ vs ∨ F.lent = none) : EnvR K F H V (wipe σ vs) (wipeR ρ vs) := by
  refine ⟨by rw [wipe_length, wipeR_len, E.len], E.ext, fun i d h => ?_, fun i d h => ?_, fun i j a d e h1 h2 h3 h4 => ?_, fun a ha => ?_, E.tab, E.ob.sub fun i o h => by
    obtain ⟨h1, h2⟩ := wipeR_some (by intro z; cases z) h
    exact ⟨h1, wipe_outL h2⟩⟩
  · obtain ⟨h1, h2⟩ := wipeR_some (by intro z; cases z) h
    rw [wipe_outL h2]
    exact E.sh i d h1
  · obtain ⟨h1, h2⟩ := wipeR_some (by intro z; cases z) h
    rw [wipe_outL h2]
    exact E.ow i d h1
  · obtain ⟨h1, n1⟩ := wipeR_some (by intro z; cases z) h1
    obtain ⟨h2, n2⟩ := wipeR_some (by intro z; cases z) h2
    rw [wipe_outL n1] at h3
    rw [wipe_outL n2] at h4
    exact E.dis i j a d e h1 h2 h3 h4
  · rcases hl with hl | hl
    · rw [wipe_outL hl]; exact E.lent a ha
    · rw [hl] at ha; cases ha
theorem isOwn_wipe {vs : List Nat} {b : Addr} (h : IsOwn (L2.wipe σ vs) (wipeR ρ vs) b) : IsOwn σ ρ b := by
  obtain ⟨i, d, h1, h2⟩ := h
  obtain ⟨h1, n1⟩ := wipeR_some (by intro z; cases z) h1
  rw [wipe_outL n1] at h2
  exact ⟨i, d, h1, h2⟩
/-- a cell beside: not seen, of no slot -/
theorem EnvR.beside (E : EnvR K F H V σ ρ) {p : Addr} {o : HO} (hp : ∀ x, H p = some x → Plain x) (h1 : V p = none) (h2 : F.H0 p = none) (h3 : ¬ IsOwn σ ρ p) : EnvR K F (upd H p o) V σ ρ := by
  refine ⟨E.len, ⟨fun b x e n => ?_, E.ext.v, fun b x e => ?_, E.ext.f, fun b h => ?_, fun t => tabs_upd hp (E.ext.t t)⟩, E.sh, fun i d h => ?_, E.dis, E.lent, E.tab, E.ob⟩
  · rw [upd_ne (fun z => by rw [z, h2] at e; cases e)]; exact E.ext.h b x e n
  · rw [upd_ne (fun z => by rw [z, h1] at e; cases e)]; exact E.ext.s b x e
  · rw [upd_ne (fun z => h (by rw [z]; exact h2))]; exact E.ext.th b h
  · obtain ⟨a, q1, q2, q3, q4⟩ := E.ow i d h
    refine ⟨a, q1, q2, q3, q4.mono (Same.refl _) fun o e _ => ?_⟩
    rw [upd_ne (fun z => h3 ⟨i, d, h, by rw [← z]; exact q1⟩)]
    exact e
/-- .. that comes to be seen -/
theorem EnvR.show (E : EnvR K F H V σ ρ) {p : Addr} {o : HO} (h0 : H p = some o) (h1 : V p = none) (h2 : F.H0 p = none) (h3 : ¬ IsOwn σ ρ p) : EnvR K F H (upd V p o) σ ρ := by
  have sv : Same V (upd V p o) := same_new h1
  refine ⟨E.len, ⟨E.ext.h, E.ext.v.trans sv, fun b x e => ?_, fun b q1 q2 => ?_, E.ext.th, E.ext.t⟩, fun i d h => ?_, fun i d h => ?_, E.dis, E.lent, E.tab, E.ob⟩
  · by_cases hb : b = p
    · subst hb; rw [upd_same] at e; cases e; exact h0
    · rw [upd_ne hb] at e; exact E.ext.s b x e
  · rw [upd_ne (fun z => q2 (by rw [z]; exact h2))]; exact E.ext.f b q1 q2
  · obtain ⟨v, q1, q2⟩ := E.sh i d h
    exact ⟨v, q1, q2.mono sv⟩
  · obtain ⟨a, q1, q2, q3, q4⟩ := E.ow i d h
    exact ⟨a, q1, by rw [upd_ne (fun z => h3 ⟨i, d, h, by rw [← z]; exact q1⟩)]; exact q2, q3, q4.mono sv fun _ e _ => e⟩
theorem EnvR.restore (E : EnvR K F H V σ ρ) (E1 : EnvR K F H1 V1 (L2.wipe σ vs) (wipeR ρ1 vs)) (v : Same V V1) (hv : ∀ i ∈ vs, isOw ρ[i]? = false) : EnvR K F H1 V1 σ (resR ρ ρ1 vs) := by
  have l1 : σ.length = ρ1.length := by
    have := E1.len
    rw [wipe_length, wipeR_len] at this
    exact this
  have ob1 : ∀ (i : Nat) (o : Ob), (resR ρ ρ1 vs)[i]? = some (.ob o) → (wipeR ρ1 vs)[i]? = some (.ob o) ∧ σ[i]? = (L2.wipe σ vs)[i]? := fun i o h => by
    have hi : i ∉ vs := fun hi => by
      by_cases hl : i < ρ1.length
      · rw [resR_in hi hl] at h
        have h' : ρ.getD i .no = .ob o := Option.some.inj h
        rw [List.getD_eq_getElem?_getD] at h'
        have q0 := hv i hi
        cases q : ρ[i]? with
        | none => rw [q] at h'; cases h'
        | some s =>
          rw [q] at h' q0
          have h' : s = .ob o := h'
          subst h'
          cases q0
      · rw [List.getElem?_eq_none (by rw [resR_len]; omega)] at h; cases h
    rw [resR_out hi] at h
    exact ⟨by rw [wipeR_out hi]; exact h, (wipe_outL hi).symm⟩
  refine ⟨by rw [resR_len]; exact l1, E1.ext, fun i d h => ?_, fun i d h => ?_, fun i j a d e h1 h2 h3 h4 => ?_, E.lent, E.tab, E1.ob.sub ob1⟩
  · by_cases hi : i ∈ vs
    · by_cases hl : i < ρ1.length
      · rw [resR_in hi hl] at h
        have h' : ρ.getD i .no = .sh d := Option.some.inj h
        rw [List.getD_eq_getElem?_getD] at h'
        cases q : ρ[i]? with
        | none => rw [q] at h'; cases h'
        | some s =>
          rw [q] at h'
          have h' : s = .sh d := h'
          subst h'
          obtain ⟨x, q1, q2⟩ := E.sh i d q
          exact ⟨x, q1, q2.mono v⟩
      · rw [List.getElem?_eq_none (by rw [resR_len]; omega)] at h; cases h
    · rw [resR_out hi] at h
      obtain ⟨x, q1, q2⟩ := E1.sh i d (by rw [wipeR_out hi]; exact h)
      rw [wipe_outL hi] at q1
      exact ⟨x, q1, q2⟩
  · have hi : i ∉ vs := fun hi => by
      by_cases hl : i < ρ1.length
      · rw [resR_in hi hl] at h
        have h' : ρ.getD i .no = .ow d := Option.some.inj h
        rw [List.getD_eq_getElem?_getD] at h'
        have q := hv i hi
        cases q' : ρ[i]? with
        | none => rw [q'] at h'; cases h'
        | some s =>
          rw [q'] at h' q
          have h' : s = .ow d := h'
          subst h'
          cases q
      · rw [List.getElem?_eq_none (by rw [resR_len]; omega)] at h; cases h
    rw [resR_out hi] at h
    obtain ⟨x, q1, q2⟩ := E1.ow i d (by rw [wipeR_out hi]; exact h)
    rw [wipe_outL hi] at q1
    exact ⟨x, q1, q2⟩
  · have no : ∀ {i : Nat} {d : PyData}, (resR ρ ρ1 vs)[i]? = some (.ow d) → i ∉ vs := fun {i d} h hi => by
      by_cases hl : i < ρ1.length
      · rw [resR_in hi hl] at h
        have h' : ρ.getD i .no = .ow d := Option.some.inj h
        rw [List.getD_eq_getElem?_getD] at h'
        have q := hv i hi
        cases q' : ρ[i]? with
        | none => rw [q'] at h'; cases h'
        | some s =>
          rw [q'] at h' q
          have h' : s = .ow d := h'
          subst h'
          cases q
      · rw [List.getElem?_eq_none (by rw [resR_len]; omega)] at h; cases h
    have n1 := no h1
    have n2 := no h2
    rw [resR_out n1] at h1
    rw [resR_out n2] at h2
    exact E1.dis i j a d e (by rw [wipeR_out n1]; exact h1) (by rw [wipeR_out n2]; exact h2) (by rw [wipe_outL n1]; exact h3) (by rw [wipe_outL n2]; exact h4)
end
section
variable {X : Cx} {F : Fr}
def PMTs (X : Cx) (F : Fr) (ifs : List Expr) (f : M Bool) : Prop := PTs X ifs (tMT X.kw F f)
def yesT : M Bool := M.pure true
theorem PTs.imp {X : Cx} {e : List Expr} {t u : TT} (h : PTs X e t) (i : ∀ σ H Q, u σ H Q → t σ H Q) : PTs X e u := by
  obtain ⟨r⟩ := h
  exact ⟨fun pins s σ H Q I q => r pins s σ H Q I (i σ H Q q)⟩
theorem pmts_nil : PMTs X F [] yesT := PTs.imp pts_nil fun σ H Q ⟨V, ρ, E, g⟩ => Goal.pure0 E g rfl
/-- what holds of a comprehension's new list at D, its values ys, data acc, within the block: slots σ', data ρ' -/
structure LI (K : KW) (F : Fr) (vs : List Nat) (σ : St) (ρ1 : Rho) (H1 V1 : Hp) (D : Addr) (σ' : St) (ρ' : Rho) (H' V' : Hp) (ys : List L2.V) (acc : List PyData) : Prop where
  env : EnvR K F H' V' σ' ρ'
  sv : Same V1 V'
  hD : H' D = some (.lst ys)
  rl : RepL K V' ys acc
  vD : V' D = none
  ho : ∀ b, IsOwn σ' ρ' b → IsOwn σ ρ1 b
  kp : ∀ b o, H1 b = some o → nT o → ¬ IsOwn σ ρ1 b → H' b = some o
  sh : ∀ (j : Nat) (d : PyData), j ∉ vs → ρ'[j]? = some (.sh d) → ρ1[j]? = some (.sh d)
  fr : ∀ b, V1 b = none → H1 b ≠ none → V' b = none
  th : ∀ b, H1 b ≠ none → H' b ≠ none
  nD : ¬ IsOwn σ ρ1 D
  h0 : F.H0 D = none
  h1 : H1 D = none
section
variable {K : KW} {F : Fr} {vs : List Nat} {σ : St} {ρ1 : Rho} {H1 V1 : Hp} {D : Addr} {σ' σ2 : St} {ρ' ρ2 : Rho} {H' V' H2 V2 : Hp} {ys : List L2.V} {acc : List PyData}
theorem LI.start (E : EnvR K F H1 V1 σ ρ1) (hD : H1 D = none) : LI K F vs σ ρ1 H1 V1 D σ ρ1 (upd H1 D (.lst [])) V1 [] [] where
  env := E.grow (Ext.hid E.sub hD)
  sv := Same.refl _
  hD := upd_same
  rl := .nil
  vD := E.sub.free hD
  ho := fun _ h => h
  kp := fun b o q _ _ => same_new hD b o q
  sh := fun _ _ _ q => q
  fr := fun _ q _ => q
  th := Same.th (same_new hD)
  nD := fun h => by
    obtain ⟨i, d, h1, h2⟩ := h
    obtain ⟨a, q1, q2, q3, q4⟩ := E.ow i d h1
    have e : a = D := by rw [h2] at q1; exact (L2.V.ref.inj (Option.some.inj (Option.some.inj q1))).symm
    obtain ⟨o, q5, _⟩ := q4.there
    rw [e, hD] at q5
    cases q5
  h0 := E.ext.free hD
  h1 := hD
theorem LI.someD (I : LI K F vs σ ρ1 H1 V1 D σ' ρ' H' V' ys acc) : H' D ≠ none := by rw [I.hD]; exact fun z => nomatch z
theorem LI.wipe (I : LI K F vs σ ρ1 H1 V1 D σ' ρ' H' V' ys acc) (ws : List Nat) (hl : F.ls ∉ ws ∨ F.lent = none) : LI K F vs σ ρ1 H1 V1 D (L2.wipe σ' ws) (wipeR ρ' ws) H' V' ys acc :=
  { I with env := I.env.wipe hl, ho := fun b h => I.ho b (isOwn_wipe h), sh := fun j d hj q => I.sh j d hj (wipeR_some (by intro z; cases z) q).1 }
theorem LI.ext (I : LI K F vs σ ρ1 H1 V1 D σ' ρ' H' V' ys acc) (x : Ext H' V' H2 V2) : LI K F vs σ ρ1 H1 V1 D σ' ρ' H2 V2 ys acc :=
  { I with env := I.env.grow x, sv := I.sv.trans x.v, hD := x.h _ _ I.hD plain_lst.t, rl := I.rl.mono x.v, vD := x.f D I.vD I.someD, kp := fun b o q n m => x.h _ _ (I.kp b o q n m) n, fr := fun b h1 h2 => x.f b (I.fr b h1 h2) (I.th b h2), th := fun b h => x.th b (I.th b h) }
theorem LI.tgt {is : List Nat} (I : LI K F vs σ ρ1 H1 V1 D σ' ρ' H' V' ys acc) (E : EnvR K F H2 V2 σ2 ρ2) (x : Ext H' V' H2 V2) (o : ∀ b, IsOwn σ2 ρ2 b → IsOwn σ' ρ' b) (p : ∀ (i : Nat) (d : PyData), i ∉ is → ρ2[i]? = some (.sh d) → ρ'[i]? = some (.sh d)) (his : ∀ i ∈ is, i ∈ vs) :
    LI K F vs σ ρ1 H1 V1 D σ2 ρ2 H2 V2 ys acc :=
  { I.ext x with env := E, ho := fun b h => I.ho b (o b h), sh := fun j d hj q => I.sh j d hj (p j d (fun z => hj (his j z)) q) }
theorem LI.stp (I : LI K F vs σ ρ1 H1 V1 D σ' ρ' H' V' ys acc) (s : Stp K F σ' ρ' ρ2 H' V' H2 V2) : LI K F vs σ ρ1 H1 V1 D σ' ρ2 H2 V2 ys acc where
  env := s.env
  sv := I.sv.trans s.v
  hD := s.keep _ _ I.hD plain_lst.t fun h => I.nD (I.ho D h)
  rl := I.rl.mono s.v
  vD := s.f D I.vD I.someD
  ho := fun b h => I.ho b (s.own b h)
  kp := fun b o q n m => s.keep b o (I.kp b o q n m) n fun h => m (I.ho b h)
  sh := fun j d hj q => I.sh j d hj (s.shs j d q)
  fr := fun b h1 h2 => s.f b (I.fr b h1 h2) (I.th b h2)
  th := fun b h => s.th b (I.th b h)
  nD := I.nD
  h0 := I.h0
  h1 := I.h1
theorem LI.app {y : L2.V} {d : PyData} (I : LI K F vs σ ρ1 H1 V1 D σ' ρ' H' V' ys acc) (r : Rep K V' y d) : LI K F vs σ ρ1 H1 V1 D σ' ρ' (upd H' D (.lst (ys ++ [y]))) V' (ys ++ [y]) (acc ++ [d]) := by
  refine ⟨I.env.beside (fun x e => by rw [I.hD] at e; cases e; exact plain_lst) I.vD I.h0 fun h => I.nD (I.ho D h), I.sv, upd_same, I.rl.append (.cons r .nil), I.vD, I.ho, fun b o q n m => ?_, I.sh, I.fr, fun b h => ?_, I.nD, I.h0, I.h1⟩
  · rw [upd_ne (fun z => by rw [z, I.h1] at q; cases q)]
    exact I.kp b o q n m
  · rw [upd_ne (fun z => h (by rw [z]; exact I.h1))]
    exact I.th b h
theorem resR_ow {ρ1 ρ' : Rho} {vs : List Nat} (hv : ∀ i ∈ vs, isOw ρ1[i]? = false) {j : Nat} {d : PyData} (h : (resR ρ1 ρ' vs)[j]? = some (.ow d)) : j ∉ vs := fun hj => by
  by_cases hl : j < ρ'.length
  · rw [resR_in hj hl] at h
    have h' : ρ1.getD j .no = .ow d := Option.some.inj h
    rw [List.getD_eq_getElem?_getD] at h'
    have q := hv j hj
    cases q' : ρ1[j]? with
    | none => rw [q'] at h'; cases h'
    | some s =>
      rw [q'] at h' q
      have h' : s = .ow d := h'
      subst h'
      cases q
  · rw [List.getElem?_eq_none (by rw [resR_len]; omega)] at h; cases h
/-- the list is done -/
theorem LI.done (E : EnvR K F H1 V1 σ ρ1) (I : LI K F vs σ ρ1 H1 V1 D (L2.wipe σ vs) (wipeR ρ' vs) H' V' ys acc) (hv : ∀ i ∈ vs, isOw ρ1[i]? = false) :
    Stp K F σ ρ1 (resR ρ1 ρ' vs) H1 V1 H' (upd V' D (.lst ys)) ∧ Rep K (upd V' D (.lst ys)) (.ref D) (.list acc) := by
  have nD : ¬ IsOwn (L2.wipe σ vs) (wipeR ρ' vs) D := fun h => I.nD (I.ho D h)
  have Es : EnvR K F H' (upd V' D (.lst ys)) (L2.wipe σ vs) (wipeR ρ' vs) := I.env.show I.hD I.vD I.h0 nD
  have svD : Same V' (upd V' D (.lst ys)) := same_new I.vD
  refine ⟨⟨E.restore Es (I.sv.trans svD) hv, I.sv.trans svD, I.kp, fun b h => ?_, fun j d q => ?_, fun b h1 h2 => ?_, I.th⟩, .lst upd_same (I.rl.mono svD)⟩
  · obtain ⟨j, d, h1, h2⟩ := h
    have nj := resR_ow hv h1
    rw [resR_out nj] at h1
    exact I.ho b ⟨j, d, by rw [wipeR_out nj]; exact h1, by rw [wipe_outL nj]; exact h2⟩
  · by_cases hj : j ∈ vs
    · by_cases hl : j < ρ'.length
      · rw [resR_in hj hl] at q
        have h' : ρ1.getD j .no = .sh d := Option.some.inj q
        rw [List.getD_eq_getElem?_getD] at h'
        cases q' : ρ1[j]? with
        | none => rw [q'] at h'; cases h'
        | some s =>
          rw [q'] at h'
          have h' : s = .sh d := h'
          rw [h']
      · rw [List.getElem?_eq_none (by rw [resR_len]; omega)] at q; cases q
    · rw [resR_out hj] at q
      exact I.sh j d hj (by rw [wipeR_out hj]; exact q)
  · rw [upd_ne (fun z => h2 (by rw [z]; exact I.h1))]
    exact I.fr b h1 h2
end
theorem lcM_run {vs : List Nat} {l : R (List PyData × Rho)} {K : KW} {σ : St} {ρ1 : Rho} {H1 V1 : Hp} {Q : VK} (g1 : Goal K F σ ρ1 H1 V1 (Rep K) (if (vs.any fun i => isOw ρ1[i]?) = true then .bad else (match l with
      | .ok (acc, ρ') => .ok (.list acc, resR ρ1 ρ' vs)
      | _ => .bad)) Q) : ∃ acc ρ', l = .ok (acc, ρ') ∧ (∀ i ∈ vs, isOw ρ1[i]? = false) ∧ ∀ b H' V', Stp K F σ ρ1 (resR ρ1 ρ' vs) H1 V1 H' V' → Rep K V' b (.list acc) → Q b H' := by
  by_cases hany : (vs.any fun i => isOw ρ1[i]?) = true
  · rw [if_pos hany] at g1
    exact False.elim g1
  · rw [if_neg hany] at g1
    have hv : ∀ i ∈ vs, isOw ρ1[i]? = false := fun i hi => by
      cases q : isOw ρ1[i]? with
      | false => rfl
      | true => exact absurd (List.any_eq_true.mpr ⟨i, hi, q⟩) hany
    cases l with
    | exc c => exact False.elim g1
    | bad => exact False.elim g1
    | ok pr =>
      obtain ⟨acc, ρ'⟩ := pr
      exact ⟨acc, ρ', rfl, hv, g1⟩
theorem lc_of {K : KW} {vs is : List Nat} {fi : M (List PyData)} {g : GM} {ft : M Bool} {fe : M PyData} (his : ∀ i ∈ is, i ∈ vs) (hl : F.ls ∉ vs ∨ F.lent = none) {σ : St} {H : Hp} {Q : VK} (h : tM K F (lcM vs fi g ft fe) σ H Q) :
    tLc (tI K F fi) (tGM K F.nox is g) (tMT K F.nox ft) (tM K F.nox fe) vs σ H Q := by
  obtain ⟨V, ρ, E, g0⟩ := h
  refine ⟨V, ρ, E, Goal.bind g0 fun J ds H1 V1 ρ1 st1 it g1 => fun D hD => ?_⟩
  obtain ⟨acc, ρ', hL, hv, q⟩ := lcM_run g1
  refine ⟨fun i m H' => m = ds.length - i ∧ i ≤ ds.length ∧ ∃ V' ρc ys accd, LI K F vs σ ρ1 H1 V1 D (L2.wipe σ vs) (wipeR ρc vs) H' V' ys accd ∧ lcLoop vs g ft fe (ds.drop i) ρc accd = .ok (acc, ρ'),
    ⟨ds.length, rfl, Nat.zero_le _, V1, ρ1, [], [], (LI.start st1.env hD).wipe vs hl, hL⟩, ?_⟩
  rintro i m H' ⟨rfl, hle, V', ρc, ys, accd, I, hE⟩
  obtain ⟨i1, i2⟩ := it i H' V' I.sv I.env.sub
  by_cases hlt : i < ds.length
  · obtain ⟨go, yl⟩ := i1 _ (List.getElem?_eq_getElem hlt)
    rw [List.drop_eq_getElem_cons hlt] at hE
    refine .inr ⟨go, fun H2 => ∃ V' ρc ys accd, LI K F vs σ ρ1 H1 V1 D (L2.wipe σ vs) (wipeR ρc vs) H2 V' ys accd ∧ lcLoop vs g ft fe (ds.drop (i + 1)) ρc accd = .ok (acc, ρ'), fun H2 h => ⟨ds.length - (i + 1), by omega, rfl, hlt, h⟩, fun x H2 y => ?_⟩
    obtain ⟨V2, x2, r2⟩ := yl x H2 y
    have I2 := I.ext x2
    refine ⟨V2, wipeR ρc vs, ds[i], I2.env.nox, r2, ?_⟩
    unfold lcLoop at hE
    cases eg : g ds[i] (wipeR ρc vs) with
    | exc c => rw [eg] at hE; cases hE
    | bad => rw [eg] at hE; cases hE
    | ok ρ3 =>
      rw [eg] at hE
      intro σ3 H3 V3 E3 x3 w3 o3 p3
      have ew : L2.wipe σ3 vs = L2.wipe σ vs := (w3 vs his).trans (wipe_wipe σ vs)
      have I3 := I2.tgt E3.unnox x3 o3 p3 his
      refine ⟨ew, V3, ρ3, E3, ?_⟩
      have hE : (match ft ρ3 with
        | .ok (true, ρ2) => (match fe ρ2 with
          | .ok (y, ρ3) => if accd.length < LIM then lcLoop vs g ft fe (ds.drop (i + 1)) ρ3 (accd ++ [y]) else .bad
          | _ => .bad)
        | .ok (false, ρ2) => lcLoop vs g ft fe (ds.drop (i + 1)) ρ2 accd
        | _ => .bad) = .ok (acc, ρ') := hE
      show Goal K F.nox σ3 ρ3 H3 V3 (fun _ (b : Bool) a => b = a) (ft ρ3) _
      cases et : ft ρ3 with
      | exc c => rw [et] at hE; cases hE
      | bad => rw [et] at hE; cases hE
      | ok pt =>
        obtain ⟨bt, ρ4⟩ := pt
        rw [et] at hE
        intro b' H4 V4 st4 eb
        subst eb
        have I4 := I3.stp st4.unnox
        cases b' with
        | false =>
          show if false = true then _ else _
          rw [if_neg Bool.false_ne_true]
          have I5 := I4.wipe vs hl
          rw [ew] at I5
          exact ⟨V4, ρ4, ys, accd, I5, hE⟩
        | true =>
          rw [if_pos rfl]
          refine ⟨V4, ρ4, st4.env, ?_⟩
          have hE : (match fe ρ4 with
            | .ok (y, ρ3) => if accd.length < LIM then lcLoop vs g ft fe (ds.drop (i + 1)) ρ3 (accd ++ [y]) else .bad
            | _ => .bad) = .ok (acc, ρ') := hE
          cases ee : fe ρ4 with
          | exc c => rw [ee] at hE; cases hE
          | bad => rw [ee] at hE; cases hE
          | ok pe =>
            obtain ⟨yd, ρ5⟩ := pe
            rw [ee] at hE
            have hE : (if accd.length < LIM then lcLoop vs g ft fe (ds.drop (i + 1)) ρ5 (accd ++ [yd]) else .bad) = .ok (acc, ρ') := hE
            intro yv H5 V5 st5 ry
            by_cases hlm : accd.length < LIM
            · rw [if_pos hlm] at hE
              have I5 := I4.stp st5.unnox
              have I6 := (I5.app ry).wipe vs hl
              rw [ew] at I6
              exact ⟨ys, I5.hD, by rw [I5.rl.length]; exact Nat.lt_trans hlm lim_lt, V5, ρ5, _, _, I6, hE⟩
            · rw [if_neg hlm] at hE; cases hE
  · have ei : i = ds.length := by omega
    subst ei
    rw [List.drop_length] at hE
    have hE : R.ok (accd, ρc) = R.ok (acc, ρ') := hE
    injection hE with hE
    injection hE with ea er
    subst ea er
    obtain ⟨s1, s2⟩ := LI.done st1.env I hv
    exact .inl ⟨i2 rfl, q _ _ _ s1 s2⟩
abbrev Blk (X : Cx) (scope : Scope) (P : Cx → Prop) : Prop := ∀ (s : Shared) (H : Hp) (C : Addr) (cl : List (Str × Addr)) (fp : List Addr), P (X.blk s H scope (compEnvC scope cl C X.env) fp)
theorem pm_lc {elt tg iter : Expr} {ifs : List Expr} {scope : Scope} {pos : Pos} {fi : M (List PyData)} {is : List Nat} {g : GM} {ft : M Bool} {fe : M PyData} (own : List (Str × Nat)) (hi : PMI X F tg iter fi) (ok : BlkOk X.N X.env.scope scope own) (hN : X.N.Nodup)
    (hg : Blk X scope fun Y => PMG Y F.nox tg is g) (ht : Blk X scope fun Y => PMTs Y F.nox ifs ft) (he : Blk X scope fun Y => PM Y F.nox elt fe)
    (his : ∀ i ∈ is, i ∈ own.map (·.2) := by decide) (hl : F.ls ∉ own.map (·.2) ∨ F.lent = none := by first | exact Or.inr rfl | exact Or.inl (nm_ls rfl)) (hc : X.calm = true := by rfl) (hs : ∀ x, foldedSetIterable iter X.env x = pure x := by intro _; rfl) :
    PM X F (.ListComp elt [⟨tg, iter, ifs, 0⟩] scope pos) (lcM (own.map (·.2)) fi g ft fe) :=
  PE.imp (pe_lc (g := tGM X.kw F.nox is g) (tt := tMT X.kw F.nox ft) (te := tM X.kw F.nox fe) hc hN hi ok hg ht he hs) fun _ _ _ h => lc_of his hl h
end
end DL
set_option Elab.async false
set_option linter.all false
set_option maxRecDepth 100000
set_option maxHeartbeats 1000000
namespace DL
open PySem PySem.Spec PyProof.Rows L2
variable [TabCtx]
def lcLoop2 (vs vs1 : List Nat) (g : GM) (t : M Bool) (fi1 : M (List PyData)) (g1 : GM) (t1 : M Bool) (e : M PyData) : List PyData → Rho → List PyData → R (List PyData × Rho)
  | [], ρ, acc => .ok (acc, ρ)
  | d :: ds, ρ, acc => match g d (wipeR ρ vs) with
    | .ok ρ1 => (match t ρ1 with
      | .ok (true, ρ2) => (match fi1 ρ2 with
        | .ok (ds1, ρ3) => (match lcLoop vs1 g1 t1 e ds1 ρ3 acc with
          | .ok (acc', ρ4) => lcLoop2 vs vs1 g t fi1 g1 t1 e ds ρ4 acc'
          | _ => .bad)
        | _ => .bad)
      | .ok (false, ρ2) => lcLoop2 vs vs1 g t fi1 g1 t1 e ds ρ2 acc
      | _ => .bad)
    | _ => .bad
def lcM2 (vs vs1 : List Nat) (a : M (List PyData)) (g : GM) (t : M Bool) (fi1 : M (List PyData)) (g1 : GM) (t1 : M Bool) (e : M PyData) : M PyData := M.bind a fun ds ρ => if vs.any (fun i => isOw ρ[i]?) = true then .bad else (match lcLoop2 vs vs1 g t fi1 g1 t1 e ds ρ [] with
  | .ok (acc, ρ') => .ok (.list acc, resR ρ ρ' vs)
  | _ => .bad)
theorem wipe_sub (σ : St) {vs ws : List Nat} (h : ∀ i ∈ ws, i ∈ vs) : L2.wipe (L2.wipe σ ws) vs = L2.wipe σ vs := by
  apply List.ext_getElem?
  intro i
  by_cases hi : i ∈ vs
  · by_cases hl : i < σ.length
    · rw [wipe_in hi (by rw [wipe_length]; exact hl), wipe_in hi hl]
    · rw [List.getElem?_eq_none (by simp only [wipe_length]; omega), List.getElem?_eq_none (by simp only [wipe_length]; omega)]
  · rw [wipe_outL hi, wipe_outL hi, wipe_outL fun z => hi (h i z)]
theorem wipeR_in {ρ : Rho} {i : Nat} : ∀ {vs : List Nat}, i ∈ vs → i < ρ.length → (wipeR ρ vs)[i]? = some .no
  | v :: vs, h, hl => by
    unfold wipeR
    by_cases e : v = i
    · subst e; exact List.getElem?_set_self (by rw [wipeR_len]; exact hl)
    · rw [List.getElem?_set_ne e]
      rcases List.mem_cons.mp h with z | z
      · exact absurd z.symm e
      · exact wipeR_in z hl
theorem wipeR_sub (ρ : Rho) {vs ws : List Nat} (h : ∀ i ∈ ws, i ∈ vs) : wipeR (wipeR ρ ws) vs = wipeR ρ vs := by
  apply List.ext_getElem?
  intro i
  by_cases hi : i ∈ vs
  · by_cases hl : i < ρ.length
    · rw [wipeR_in hi (by rw [wipeR_len]; exact hl), wipeR_in hi hl]
    · rw [List.getElem?_eq_none (by simp only [wipeR_len]; omega), List.getElem?_eq_none (by simp only [wipeR_len]; omega)]
  · rw [wipeR_out hi, wipeR_out hi, wipeR_out fun z => hi (h i z)]
section
variable {X : Cx} {F : Fr}
theorem lc2_of {K : KW} {vs vs1 is is1 : List Nat} {fi fi1 : M (List PyData)} {g g1 : GM} {ft ft1 : M Bool} {fe : M PyData} (his : ∀ i ∈ is, i ∈ vs) (his1 : ∀ i ∈ is1, i ∈ vs1) (hv1 : ∀ i ∈ vs1, i ∈ vs) (hl : F.ls ∉ vs ∨ F.lent = none) {σ : St} {H : Hp} {Q : VK} (h : tM K F (lcM2 vs vs1 fi g ft fi1 g1 ft1 fe) σ H Q) :
    tLc2 (tI K F fi) (tGM K F.nox is g) (tMT K F.nox ft) (tI K F.nox fi1) (tGM K F.nox is1 g1) (tMT K F.nox ft1) (tM K F.nox fe) vs vs1 σ H Q := by
  obtain ⟨V, ρ, E, g0⟩ := h
  refine ⟨V, ρ, E, Goal.bind g0 fun J ds H1 V1 ρ1 st1 it g1' => fun D hD => ?_⟩
  obtain ⟨acc, ρ', hL, hv, q⟩ := lcM_run g1'
  have hl1 : F.ls ∉ vs1 ∨ F.lent = none := hl.imp (fun h z => h (hv1 _ z)) id
  have LD : ∀ ds' ρ acc, lcLoop2 vs vs1 g ft fi1 g1 ft1 fe (ds' : List PyData) ρ acc = lcLoop2 vs vs1 g ft fi1 g1 ft1 fe ds' ρ acc := fun _ _ _ => rfl
  refine ⟨fun i m H' => m = ds.length - i ∧ i ≤ ds.length ∧ ∃ V' ρc ys accd, LI K F vs σ ρ1 H1 V1 D (L2.wipe σ vs) (wipeR ρc vs) H' V' ys accd ∧ lcLoop2 vs vs1 g ft fi1 g1 ft1 fe (ds.drop i) ρc accd = .ok (acc, ρ'),
    ⟨ds.length, rfl, Nat.zero_le _, V1, ρ1, [], [], (LI.start st1.env hD).wipe vs hl, hL⟩, ?_⟩
  rintro i m H' ⟨rfl, hle, V', ρc, ys, accd, I, hE⟩
  obtain ⟨i1, i2⟩ := it i H' V' I.sv I.env.sub
  by_cases hlt : i < ds.length
  · obtain ⟨go, yl⟩ := i1 _ (List.getElem?_eq_getElem hlt)
    rw [List.drop_eq_getElem_cons hlt] at hE
    refine .inr ⟨go, fun H2 => ∃ V' ρc ys accd, LI K F vs σ ρ1 H1 V1 D (L2.wipe σ vs) (wipeR ρc vs) H2 V' ys accd ∧ lcLoop2 vs vs1 g ft fi1 g1 ft1 fe (ds.drop (i + 1)) ρc accd = .ok (acc, ρ'), fun H2 h => ⟨ds.length - (i + 1), by omega, rfl, hlt, h⟩, fun x H2 y => ?_⟩
    obtain ⟨V2, x2, r2⟩ := yl x H2 y
    have I2 := I.ext x2
    refine ⟨V2, wipeR ρc vs, ds[i], I2.env.nox, r2, ?_⟩
    unfold lcLoop2 at hE
    cases eg : g ds[i] (wipeR ρc vs) with
    | exc c => rw [eg] at hE; cases hE
    | bad => rw [eg] at hE; cases hE
    | ok ρ3 =>
      rw [eg] at hE
      intro σ3 H3 V3 E3 x3 w3 o3 p3
      have ew : L2.wipe σ3 vs = L2.wipe σ vs := (w3 vs his).trans (wipe_wipe σ vs)
      have I3 := I2.tgt E3.unnox x3 o3 p3 his
      refine ⟨ew, V3, ρ3, E3, ?_⟩
      have hE : (match ft ρ3 with
        | .ok (true, ρ2) => (match fi1 ρ2 with
          | .ok (ds1, ρ3) => (match lcLoop vs1 g1 ft1 fe ds1 ρ3 accd with
            | .ok (acc', ρ4) => lcLoop2 vs vs1 g ft fi1 g1 ft1 fe (ds.drop (i + 1)) ρ4 acc'
            | _ => .bad)
          | _ => .bad)
        | .ok (false, ρ2) => lcLoop2 vs vs1 g ft fi1 g1 ft1 fe (ds.drop (i + 1)) ρ2 accd
        | _ => .bad) = .ok (acc, ρ') := hE
      show Goal K F.nox σ3 ρ3 H3 V3 (fun _ (b : Bool) a => b = a) (ft ρ3) _
      cases et : ft ρ3 with
      | exc c => rw [et] at hE; cases hE
      | bad => rw [et] at hE; cases hE
      | ok pt =>
        obtain ⟨bt, ρ4⟩ := pt
        rw [et] at hE
        intro b' H4 V4 st4 eb
        subst eb
        have I4 := I3.stp st4.unnox
        cases b' with
        | false =>
          show if false = true then _ else _
          rw [if_neg Bool.false_ne_true]
          have I5 := I4.wipe vs hl
          rw [ew] at I5
          exact ⟨V4, ρ4, ys, accd, I5, hE⟩
        | true =>
          rw [if_pos rfl]
          refine ⟨V4, ρ4, st4.env, ?_⟩
          have hE : (match fi1 ρ4 with
            | .ok (ds1, ρ3) => (match lcLoop vs1 g1 ft1 fe ds1 ρ3 accd with
              | .ok (acc', ρ4) => lcLoop2 vs vs1 g ft fi1 g1 ft1 fe (ds.drop (i + 1)) ρ4 acc'
              | _ => .bad)
            | _ => .bad) = .ok (acc, ρ') := hE
          cases ei : fi1 ρ4 with
          | exc c => rw [ei] at hE; cases hE
          | bad => rw [ei] at hE; cases hE
          | ok pi =>
            obtain ⟨ds1, ρ5⟩ := pi
            rw [ei] at hE
            have hE : (match lcLoop vs1 g1 ft1 fe ds1 ρ5 accd with
              | .ok (acc', ρ4) => lcLoop2 vs vs1 g ft fi1 g1 ft1 fe (ds.drop (i + 1)) ρ4 acc'
              | _ => .bad) = .ok (acc, ρ') := hE
            intro J1 H5 V5 st5 it1
            have I5 := I4.stp st5.unnox
            cases el : lcLoop vs1 g1 ft1 fe ds1 ρ5 accd with
            | exc c => rw [el] at hE; cases hE
            | bad => rw [el] at hE; cases hE
            | ok pl =>
              obtain ⟨acc', ρ6⟩ := pl
              rw [el] at hE
              have hE : lcLoop2 vs vs1 g ft fi1 g1 ft1 fe (ds.drop (i + 1)) ρ6 acc' = .ok (acc, ρ') := hE
              refine ⟨fun j k H' => k = ds1.length - j ∧ j ≤ ds1.length ∧ ∃ V' ρc ys accd, LI K F vs σ ρ1 H1 V1 D (L2.wipe σ3 vs1) (wipeR ρc vs1) H' V' ys accd ∧ Same V5 V' ∧ lcLoop vs1 g1 ft1 fe (ds1.drop j) ρc accd = .ok (acc', ρ6),
                ⟨ds1.length, rfl, Nat.zero_le _, V5, ρ5, ys, accd, I5.wipe vs1 hl1, Same.refl _, el⟩, ?_⟩
              rintro j k Hj ⟨rfl, hlj, Vj, ρj, yj, aj, Ij, svj, ej⟩
              obtain ⟨j1, j2⟩ := it1 j Hj Vj svj Ij.env.sub
              by_cases hltj : j < ds1.length
              · obtain ⟨go1, yl1⟩ := j1 _ (List.getElem?_eq_getElem hltj)
                rw [List.drop_eq_getElem_cons hltj] at ej
                refine .inr ⟨go1, fun H2 => ∃ V' ρc ys accd, LI K F vs σ ρ1 H1 V1 D (L2.wipe σ3 vs1) (wipeR ρc vs1) H2 V' ys accd ∧ Same V5 V' ∧ lcLoop vs1 g1 ft1 fe (ds1.drop (j + 1)) ρc accd = .ok (acc', ρ6), fun H2 h => ⟨ds1.length - (j + 1), by omega, rfl, hltj, h⟩, fun xj H6 yyj => ?_⟩
                obtain ⟨V6, x6, r6⟩ := yl1 xj H6 yyj
                have I6 := Ij.ext x6
                refine ⟨V6, wipeR ρj vs1, ds1[j], I6.env.nox, r6, ?_⟩
                unfold lcLoop at ej
                cases eg1 : g1 ds1[j] (wipeR ρj vs1) with
                | exc c => rw [eg1] at ej; cases ej
                | bad => rw [eg1] at ej; cases ej
                | ok ρ7 =>
                  rw [eg1] at ej
                  intro σ7 H7 V7 E7 x7 w7 o7 p7
                  have ew7 : L2.wipe σ7 vs1 = L2.wipe σ3 vs1 := (w7 vs1 his1).trans (wipe_wipe σ3 vs1)
                  have I7 := I6.tgt E7.unnox x7 o7 p7 (fun i hi => hv1 i (his1 i hi))
                  have sv7 : Same V5 V7 := (svj.trans x6.v).trans x7.v
                  refine ⟨ew7, V7, ρ7, E7, ?_⟩
                  have ej : (match ft1 ρ7 with
                    | .ok (true, ρ2) => (match fe ρ2 with
                      | .ok (y, ρ3) => if aj.length < LIM then lcLoop vs1 g1 ft1 fe (ds1.drop (j + 1)) ρ3 (aj ++ [y]) else .bad
                      | _ => .bad)
                    | .ok (false, ρ2) => lcLoop vs1 g1 ft1 fe (ds1.drop (j + 1)) ρ2 aj
                    | _ => .bad) = .ok (acc', ρ6) := ej
                  show Goal K F.nox σ7 ρ7 H7 V7 (fun _ (b : Bool) a => b = a) (ft1 ρ7) _
                  cases et1 : ft1 ρ7 with
                  | exc c => rw [et1] at ej; cases ej
                  | bad => rw [et1] at ej; cases ej
                  | ok pt1 =>
                    obtain ⟨bt1, ρ8⟩ := pt1
                    rw [et1] at ej
                    intro b1 H8 V8 st8 eb1
                    subst eb1
                    have I8 := I7.stp st8.unnox
                    cases b1 with
                    | false =>
                      show if false = true then _ else _
                      rw [if_neg Bool.false_ne_true]
                      have I9 := I8.wipe vs1 hl1
                      rw [ew7] at I9
                      exact ⟨V8, ρ8, yj, aj, I9, sv7.trans st8.v, ej⟩
                    | true =>
                      rw [if_pos rfl]
                      refine ⟨V8, ρ8, st8.env, ?_⟩
                      have ej : (match fe ρ8 with
                        | .ok (y, ρ3) => if aj.length < LIM then lcLoop vs1 g1 ft1 fe (ds1.drop (j + 1)) ρ3 (aj ++ [y]) else .bad
                        | _ => .bad) = .ok (acc', ρ6) := ej
                      cases ee : fe ρ8 with
                      | exc c => rw [ee] at ej; cases ej
                      | bad => rw [ee] at ej; cases ej
                      | ok pe =>
                        obtain ⟨yd, ρ9⟩ := pe
                        rw [ee] at ej
                        have ej : (if aj.length < LIM then lcLoop vs1 g1 ft1 fe (ds1.drop (j + 1)) ρ9 (aj ++ [yd]) else .bad) = .ok (acc', ρ6) := ej
                        intro yv H9 V9 st9 ry
                        by_cases hlm : aj.length < LIM
                        · rw [if_pos hlm] at ej
                          have I9 := I8.stp st9.unnox
                          have I10 := (I9.app ry).wipe vs1 hl1
                          rw [ew7] at I10
                          exact ⟨yj, I9.hD, by rw [I9.rl.length]; exact Nat.lt_trans hlm lim_lt, V9, ρ9, _, _, I10, (sv7.trans st8.v).trans st9.v, ej⟩
                        · rw [if_neg hlm] at ej; cases ej
              · have ejj : j = ds1.length := by omega
                subst ejj
                rw [List.drop_length] at ej
                have ej : R.ok (aj, ρj) = R.ok (acc', ρ6) := ej
                injection ej with ej
                injection ej with ea er
                subst ea er
                have I6 := Ij.wipe vs hl
                rw [wipe_sub σ3 hv1, wipeR_sub ρj hv1, ew] at I6
                exact .inl ⟨j2 rfl, Vj, ρj, yj, aj, I6, hE⟩
  · have ei : i = ds.length := by omega
    subst ei
    rw [List.drop_length] at hE
    have hE : R.ok (accd, ρc) = R.ok (acc, ρ') := hE
    injection hE with hE
    injection hE with ea er
    subst ea er
    obtain ⟨s1, s2⟩ := LI.done st1.env I hv
    exact .inl ⟨i2 rfl, q _ _ _ s1 s2⟩
theorem pm_lc2 {elt tg iter tg1 iter1 : Expr} {ifs ifs1 : List Expr} {scope : Scope} {pos : Pos} {fi fi1 : M (List PyData)} {is is1 : List Nat} {g g1 : GM} {ft ft1 : M Bool} {fe : M PyData} (own : List (Str × Nat)) (vs1 : List Nat) (hi : PMI X F tg iter fi) (ok : BlkOk X.N X.env.scope scope own) (hN : X.N.Nodup)
    (hg : Blk X scope fun Y => PMG Y F.nox tg is g) (ht : Blk X scope fun Y => PMTs Y F.nox ifs ft) (hi1 : Blk X scope fun Y => PMI Y F.nox tg1 iter1 fi1) (hg1 : Blk X scope fun Y => PMG Y F.nox tg1 is1 g1) (ht1 : Blk X scope fun Y => PMTs Y F.nox ifs1 ft1) (he : Blk X scope fun Y => PM Y F.nox elt fe)
    (his : ∀ i ∈ is, i ∈ own.map (·.2) := by decide) (his1 : ∀ i ∈ is1, i ∈ vs1 := by decide) (hv1 : ∀ i ∈ vs1, i ∈ own.map (·.2) := by decide) (hl : F.ls ∉ own.map (·.2) ∨ F.lent = none := by first | exact Or.inr rfl | exact Or.inl (nm_ls rfl)) (hc : X.calm = true := by rfl) (hs : ∀ x, foldedSetIterable iter X.env x = pure x := by intro _; rfl) (hs1 : ∀ env x, foldedSetIterable iter1 env x = pure x := by intro _ _; rfl) :
    PM X F (.ListComp elt [⟨tg, iter, ifs, 0⟩, ⟨tg1, iter1, ifs1, 0⟩] scope pos) (lcM2 (own.map (·.2)) vs1 fi g ft fi1 g1 ft1 fe) :=
  PE.imp (pe_lc2 (wi1 := tI X.kw F.nox fi1) (g := tGM X.kw F.nox is g) (tt := tMT X.kw F.nox ft) (g1 := tGM X.kw F.nox is1 g1) (tt1 := tMT X.kw F.nox ft1) (te := tM X.kw F.nox fe) hc hN hi ok hv1 hg ht hi1 hg1 ht1 he hs hs1) fun _ _ _ h => lc2_of his his1 hv1 hl h
end
end DL
set_option Elab.async false
set_option linter.all false
set_option maxRecDepth 100000
set_option maxHeartbeats 1000000
namespace DL
open PySem PySem.Spec PyProof.Rows L2
variable [TabCtx]
section
variable {K : KW} {F : Fr} {σ : St} {ρ ρ1 : Rho} {H V H1 V1 : Hp}
theorem getElem_set_some {α : Type} {l : List α} {i j : Nat} {x y : α} (h : (l.set i x)[j]? = some y) : (i = j ∧ x = y ∧ i < l.length) ∨ (i ≠ j ∧ l[j]? = some y) := by
  by_cases e : i = j
  · subst e
    by_cases hi : i < l.length
    · rw [List.getElem?_set_self hi] at h
      exact .inl ⟨rfl, Option.some.inj h, hi⟩
    · rw [List.getElem?_eq_none (by simpa using hi)] at h; cases h
  · rw [List.getElem?_set_ne e] at h
    exact .inr ⟨e, h⟩
/-- a slot is given a new own thing -/
theorem EnvR.setOw (E : EnvR K F H V σ ρ) {i : Nat} {p : Addr} {o : HO} {d : PyData} (hp : H p = none) (r : OwnAt K V (upd H p o) p d) (hl : i ≠ F.ls ∨ F.lent = none) : EnvR K F (upd H p o) V (σ.set i (some (.ref p))) (ρ.set i (.ow d)) := by
  have hlen := E.len
  have E1 := E.grow (Ext.hid (o := o) E.sub hp)
  have np : ∀ {j : Nat} {e : PyData} {a : Addr}, ρ[j]? = some (.ow e) → σ[j]? = some (some (.ref a)) → a ≠ p := fun {j e a} h1 h2 z => by
    obtain ⟨b, q1, q2, q3, q4⟩ := E.ow j e h1
    rw [h2] at q1
    cases q1
    obtain ⟨o, q5, _⟩ := q4.there
    rw [z, hp] at q5
    cases q5
  refine ⟨by simp [hlen], E1.ext, fun j e h => ?_, fun j e h => ?_, fun j k a e e' h1 h2 h3 h4 => ?_, fun a ha => ?_, E.tab, E.ob.set fun _ z => nomatch z⟩
  · rcases getElem_set_some h with ⟨_, q, _⟩ | ⟨n, q⟩
    · cases q
    · rw [List.getElem?_set_ne n]; exact E1.sh j e q
  · rcases getElem_set_some h with ⟨rfl, q, hi⟩ | ⟨n, q⟩
    · cases q
      exact ⟨p, List.getElem?_set_self (by omega), E.sub.free hp, E.ext.free hp, r⟩
    · rw [List.getElem?_set_ne n]; exact E1.ow j e q
  · rcases getElem_set_some h1 with ⟨rfl, _, _⟩ | ⟨n1, q1⟩
    · rcases getElem_set_some h2 with ⟨rfl, _, _⟩ | ⟨n2, q2⟩
      · rfl
      · rcases getElem_set_some h3 with ⟨_, q3, _⟩ | ⟨n3, _⟩
        · rcases getElem_set_some h4 with ⟨z, _, _⟩ | ⟨_, q4⟩
          · exact absurd z n2
          · exact absurd (L2.V.ref.inj (Option.some.inj q3)).symm (np q2 q4)
        · exact absurd rfl n3
    · rcases getElem_set_some h2 with ⟨rfl, _, _⟩ | ⟨n2, q2⟩
      · rcases getElem_set_some h4 with ⟨_, q4, _⟩ | ⟨n3, _⟩
        · rcases getElem_set_some h3 with ⟨z, _, _⟩ | ⟨_, q3⟩
          · exact absurd z n1
          · exact absurd (L2.V.ref.inj (Option.some.inj q4)).symm (np q1 q3)
        · exact absurd rfl n3
      · rw [List.getElem?_set_ne n1] at h3
        rw [List.getElem?_set_ne n2] at h4
        exact E.dis j k a e e' q1 q2 h3 h4
  · rcases hl with hl | hl
    · rw [List.getElem?_set_ne hl]; exact E.lent a ha
    · rw [hl] at ha; cases ha
/-- an own thing is changed -/
theorem EnvR.updOw (E : EnvR K F H V σ ρ) {i : Nat} {p : Addr} {o : HO} {d d' : PyData} (h0 : ρ[i]? = some (.ow d)) (h1 : σ[i]? = some (some (.ref p))) (r : OwnAt K V (upd H p o) p d') : EnvR K F (upd H p o) V σ (ρ.set i (.ow d')) := by
  obtain ⟨b, q1, q2, q3, q4⟩ := E.ow i d h0
  rw [h1] at q1
  cases q1
  refine ⟨by simp [E.len], ⟨fun b x e n => ?_, E.ext.v, fun b x e => ?_, E.ext.f, fun b h => ?_, fun t => tabs_upd q4.plain (E.ext.t t)⟩, fun j e h => ?_, fun j e h => ?_, fun j k a e e' h1' h2 h3 h4 => ?_, E.lent, E.tab, E.ob.setR fun _ z => nomatch z⟩
  · rw [upd_ne (fun z => by rw [z, q3] at e; cases e)]; exact E.ext.h b x e n
  · rw [upd_ne (fun z => by rw [z, q2] at e; cases e)]; exact E.ext.s b x e
  · rw [upd_ne (fun z => h (by rw [z]; exact q3))]; exact E.ext.th b h
  · rcases getElem_set_some h with ⟨_, q, _⟩ | ⟨n, q⟩
    · cases q
    · exact E.sh j e q
  · rcases getElem_set_some h with ⟨rfl, q, hi⟩ | ⟨n, q⟩
    · cases q
      exact ⟨p, h1, q2, q3, r⟩
    · obtain ⟨a, w1, w2, w3, w4⟩ := E.ow j e q
      refine ⟨a, w1, w2, w3, w4.mono (Same.refl _) fun o' e' _ => ?_⟩
      rw [upd_ne (fun z => n (by rw [z] at w1; exact E.dis i j p d e h0 q h1 w1))]
      exact e'
  · have f : ∀ {j : Nat} {e : PyData}, (ρ.set i (.ow d'))[j]? = some (.ow e) → ∃ e, ρ[j]? = some (.ow e) := fun {j e} h => by
      rcases getElem_set_some h with ⟨rfl, q, hi⟩ | ⟨n, q⟩
      · exact ⟨d, h0⟩
      · exact ⟨e, q⟩
    obtain ⟨e1, w1⟩ := f h1'
    obtain ⟨e2, w2⟩ := f h2
    exact E.dis j k a e1 e2 w1 w2 h3 h4
end
def ownO (i : Nat) (a : M (List PyData)) : SM := exO a fun ds ρ => if ds.length ≤ LIM then .nx (ρ.set i (.ow (.list ds))) else .bad
def appO (i : Nat) (a : M PyData) : SM := fun ρ => match ρ[i]? with
  | some (.ow (.list _)) => exO a (fun d ρ => match ρ[i]? with
    | some (.ow (.list ds)) => if ds.length < LIM then .nx (ρ.set i (.ow (.list (ds ++ [d])))) else .bad
    | _ => .bad) ρ
  | _ => .bad
/-- o[k] of an own list -/
def ixI (i : Nat) (a : M PyData) : M PyData := M.bind a fun k ρ => match ρ[i]?, k with
  | some (.ow (.list ds)), .int j => (match atD ds j with
    | some z => .ok (z, ρ)
    | none => .bad)
  | _, _ => .bad
def ixO (i : Nat) (a : M PyData) : M PyData := fun ρ => if isOwn1 ρ[i]? = true then ixI i a ρ else .bad
/-- o[k] = e of an own list -/
def sixI (i : Nat) (d : PyData) (k : M PyData) : SM := exO k fun j ρ => match ρ[i]?, j with
  | some (.ow (.list ds)), .int j => (match ixN ds.length j with
    | some n => .nx (ρ.set i (.ow (.list (ds.set n d))))
    | none => .bad)
  | _, _ => .bad
def sixO (i : Nat) (k a : M PyData) : SM := exO a fun d ρ => if isOwn1 ρ[i]? = true then sixI i d k ρ else .bad
section
variable {X : Cx} {F : Fr} {e k : Expr} {es : List Expr} {fa fk : M PyData} {fs : M (List PyData)} {pos : Pos}
theorem pms_own (i : Nat) {x : Str} {pos' posl : Pos} (ha : PMA X F es fs) (hN : X.N.Nodup) (hi : X.N[i]? = some x := by rfl) (hx : Loc X.env.scope x := by first | exact Or.inl rfl | exact Or.inr rfl) (hl : i ≠ F.ls ∨ F.lent = none := by first | exact Or.inr rfl | exact Or.inl (ne_ls rfl))
    (hs : swapsWith (.List es posl) (some (.Name x pos')) pos.line X.env = pure false := by rfl) (hf : X.fn x = true ∨ X.env.scope.names.lookup x = some .local := by first | exact .inl rfl | exact .inr rfl | assumption) :
    PMS X F (.Assign [.Name x pos'] (.List es posl) pos) (ownO i fs) := by
  refine PS.imp (ps_set hN hi hx (pe_lst ha) hs hf) fun D σ H ⟨V, ρ, E, g⟩ => ⟨V, ρ, E, Goal.ex g fun xs ds H1 V1 ρ1 st1 r1 g1 => ?_⟩
  by_cases hlm : ds.length ≤ LIM
  · have g1 : GoalS X.kw F V1 (if ds.length ≤ LIM then .nx (ρ1.set i (.ow (.list ds))) else .bad) D := g1
    rw [if_pos hlm] at g1
    refine ⟨by rw [r1.length]; exact Nat.le_trans hlm lim_le, fun p hp => ?_⟩
    exact g1 _ _ _ (st1.env.setOw hp ⟨xs, upd_same, r1⟩ hl) (Same.refl _)
  · have g1 : GoalS X.kw F V1 (if ds.length ≤ LIM then .nx (ρ1.set i (.ow (.list ds))) else .bad) D := g1
    rw [if_neg hlm] at g1
    exact False.elim g1
theorem pms_app (i : Nat) {x : Str} {px apos cpos : Pos} (ha : PM X F e fa) (hN : X.N[i]? = some x := by rfl) (hv : Vis X.env.scope x := by first | exact Or.inl rfl | exact Or.inr (Or.inl rfl) | exact Or.inr (Or.inr rfl)) (hd : (x == ("__debug__" : Str)) = false := by decide) (hcd : (x == ("__classdict__" : Str)) = false := by decide)
    (hbase : attributeBase (.Name x px) "append" X.env (eval (.Name x px) X.env) = eval (.Name x px) X.env := by rfl)
    (hfew : ((backTo cpos (starEach [e] X.env)).all (fun x => !x.1) && (backToKw cpos (keywordEach [] X.env)).all (fun x => x.1.isSome) && decide ([e].length + ([] : List Keyword).length + (if ([] : List Keyword).isEmpty then 0 else 1) < 30)) = true := by rfl)
    (hline : (apos.endLine == cpos.line) = true := by rfl) (hs : starEach [e] X.env = (false, eval e X.env) :: starEach [] X.env := by rfl) (hplain : (backTo cpos (starEach [] X.env)).any (·.1) = false := by rfl)
    (hsw : swapsWith (.Call (.Attribute (.Name x px) "append" apos) [e] [] cpos) none pos.line X.env = pure false := by rfl) :
    PMS X F (.Expr (.Call (.Attribute (.Name x px) "append" apos) [e] [] cpos) pos) (appO i fa) := by
  refine PS.imp (ps_expr (pe_bm PySem.F.plainAttrs_list PySem.F.slot_list_append PySem.F.type_list_append mt_append (pe_var hN hv hd hcd) (pa_cons ha pa_nil hs) hbase hfew hline hs hplain) hsw) fun D σ H ⟨V, ρ, E, g⟩ => ?_
  unfold appO at g
  cases eo : ρ[i]? with
  | none => rw [eo] at g; exact False.elim g
  | some s =>
    rw [eo] at g
    cases s with
    | no => exact False.elim g
    | ob _ => exact False.elim g
    | sh d => exact False.elim g
    | ow d =>
      cases d with
      | list ds0 =>
        obtain ⟨a, h1, h2, h3, xs0, h4, h5⟩ := E.ow i _ eo
        refine ⟨.ref a, h1, .inl ⟨rfl, xs0, .inl (.inl h4)⟩, V, ρ, E, Goal.ex g fun v d H1 V1 ρ1 st1 r1 g1 => ?_⟩
        cases eo1 : ρ1[i]? with
        | none => rw [eo1] at g1; exact False.elim g1
        | some s1 =>
          rw [eo1] at g1
          cases s1 with
          | no => exact False.elim g1
          | ob _ => exact False.elim g1
          | sh d => exact False.elim g1
          | ow d1 =>
            cases d1 with
            | list ds =>
              have g1 : GoalS X.kw F V1 (if ds.length < LIM then .nx (ρ1.set i (.ow (.list (ds ++ [d])))) else .bad) D := g1
              obtain ⟨a', q1, q2, q3, xs, q4, q5⟩ := st1.env.ow i _ eo1
              have ea : a' = a := by rw [h1] at q1; exact (L2.V.ref.inj (Option.some.inj (Option.some.inj q1))).symm
              subst ea
              by_cases hlm : ds.length < LIM
              · rw [if_pos hlm] at g1
                refine ⟨a', xs, v, rfl, rfl, q4, by rw [q5.length]; exact Nat.lt_trans hlm lim_lt, ?_⟩
                exact g1 _ _ _ (st1.env.updOw eo1 q1 ⟨_, upd_same, q5.append (.cons r1 .nil)⟩) (Same.refl _)
              · rw [if_neg hlm] at g1
                exact False.elim g1
            | _ => exact False.elim g1
      | _ => exact False.elim g
theorem pm_ixO (i : Nat) {x : Str} {px : Pos} (hk : PM X F k fk) (hN : X.N[i]? = some x := by rfl) (hv : Vis X.env.scope x := by first | exact Or.inl rfl | exact Or.inr (Or.inl rfl) | exact Or.inr (Or.inr rfl)) (hd : (x == ("__debug__" : Str)) = false := by decide) (hcd : (x == ("__classdict__" : Str)) = false := by decide)
    (hs : PlainIx k := by exact fun _ _ => rfl) : PM X F (.Subscript (.Name x px) k pos) (ixO i fk) := by
  refine PE.imp (pe_ix ix_list (pe_var hN hv hd hcd) hk hs) fun σ H Q ⟨V, ρ, E, g⟩ => ?_
  have g : Goal X.kw F σ ρ H V (Rep X.kw) (if isOwn1 ρ[i]? = true then ixI i fk ρ else .bad) Q := g
  by_cases hio : isOwn1 ρ[i]? = true
  · rw [if_pos hio] at g
    cases eo : ρ[i]? with
    | none => rw [eo] at hio; cases hio
    | some s =>
      cases s with
      | no => rw [eo] at hio; cases hio
      | ob _ => rw [eo] at hio; cases hio
      | sh d => rw [eo] at hio; cases hio
      | ow d0 =>
        obtain ⟨a, h1, h2, h3, h4⟩ := E.ow i _ eo
        refine ⟨.ref a, h1, V, ρ, E, Goal.bind g fun v d H1 V1 ρ1 st1 r1 g1 => ?_⟩
        cases eo1 : ρ1[i]? with
        | none => rw [eo1] at g1; exact False.elim g1
        | some s1 =>
          rw [eo1] at g1
          cases s1 with
          | no => exact False.elim g1
          | ob _ => exact False.elim g1
          | sh d => exact False.elim g1
          | ow d1 =>
            cases d1 with
            | list ds =>
              cases r1 with
              | int j =>
                have g1 : Goal X.kw F σ ρ1 H1 V1 (Rep X.kw) (match atD ds j with
                  | some z => .ok (z, ρ1)
                  | none => .bad) Q := g1
                obtain ⟨a', q1, q2, q3, xs, q4, q5⟩ := st1.env.ow i _ eo1
                have ea : a' = a := by rw [h1] at q1; exact (L2.V.ref.inj (Option.some.inj (Option.some.inj q1))).symm
                subst ea
                cases ez : atD ds j with
                | none => rw [ez] at g1; exact False.elim g1
                | some z =>
                  rw [ez] at g1
                  obtain ⟨u, w1, w2⟩ := atD_get q5 ez
                  exact ⟨a', xs, j, u, rfl, rfl, .inl (.inl q4), w1, g1 u H1 V1 st1.env.refl w2⟩
              | _ => exact False.elim g1
            | _ => exact False.elim g1
  · rw [if_neg hio] at g
    exact False.elim g
theorem pms_six (i : Nat) {x : Str} {px spos : Pos} (ha : PM X F e fa) (hk : PM X F k fk) (hN : X.N[i]? = some x := by rfl) (hv : Vis X.env.scope x := by first | exact Or.inl rfl | exact Or.inr (Or.inl rfl) | exact Or.inr (Or.inr rfl)) (hd : (x == ("__debug__" : Str)) = false := by decide) (hcd : (x == ("__classdict__" : Str)) = false := by decide)
    (has : ∀ v, assign (.Subscript (.Name x px) k spos) X.env v = (do
      let ov ← holding [v] (eval (.Name x px) X.env)
      let iv ← holding [v, ov] (eval k X.env)
      standAt spos
      holding [v, ov, iv] (setItem ov iv v)
      release [v, ov, iv] []) := by intro _; rfl) (hs : swapsWithSole [.Subscript (.Name x px) k spos] e pos.line X.env = pure false := by rfl) (hw : swappedStores [.Subscript (.Name x px) k spos] e X.env = pure none := by rfl)
    (h1 : (assignEach [.Subscript (.Name x px) k spos] X.env).map (·.2) = [assign (.Subscript (.Name x px) k spos) X.env] := by rfl) :
    PMS X F (.Assign [.Subscript (.Name x px) k spos] e pos) (sixO i fk fa) := by
  refine PS.imp (ps_asg ha (pg_sub (pe_var hN hv hd hcd) hk set_list has) hs hw h1) fun D σ H ⟨V, ρ, E, g⟩ => ⟨V, ρ, E, Goal.ex g fun v d H1 V1 ρ1 st1 r1 g1 => ?_⟩
  have g1 : GoalS X.kw F V1 (if isOwn1 ρ1[i]? = true then sixI i d fk ρ1 else .bad) D := g1
  by_cases hio : isOwn1 ρ1[i]? = true
  · rw [if_pos hio] at g1
    cases eo : ρ1[i]? with
    | none => rw [eo] at hio; cases hio
    | some s =>
      cases s with
      | no => rw [eo] at hio; cases hio
      | ob _ => rw [eo] at hio; cases hio
      | sh d => rw [eo] at hio; cases hio
      | ow d0 =>
        obtain ⟨a, h1, h2, h3, h4⟩ := st1.env.ow i _ eo
        refine ⟨.ref a, h1, V1, ρ1, st1.env, Goal.ex g1 fun j dj H2 V2 ρ2 st2 r2 g2 => ?_⟩
        cases eo1 : ρ2[i]? with
        | none => rw [eo1] at g2; exact False.elim g2
        | some s1 =>
          rw [eo1] at g2
          cases s1 with
          | no => exact False.elim g2
          | ob _ => exact False.elim g2
          | sh d => exact False.elim g2
          | ow d1 =>
            cases d1 with
            | list ds =>
              cases r2 with
              | int j =>
                have g2 : GoalS X.kw F V2 (match ixN ds.length j with
                  | some n => .nx (ρ2.set i (.ow (.list (ds.set n d))))
                  | none => .bad) D := g2
                obtain ⟨a', q1, q2, q3, xs, q4, q5⟩ := st2.env.ow i _ eo1
                have ea : a' = a := by rw [h1] at q1; exact (L2.V.ref.inj (Option.some.inj (Option.some.inj q1))).symm
                subst ea
                cases ez : ixN ds.length j with
                | none => rw [ez] at g2; exact False.elim g2
                | some n =>
                  rw [ez] at g2
                  exact ⟨a', xs, j, n, rfl, rfl, q4, by rw [q5.length]; exact ez, g2 _ _ _ (st2.env.updOw eo1 q1 ⟨_, upd_same, q5.set (r1.mono st2.v) n⟩) (Same.refl _)⟩
              | _ => exact False.elim g2
            | _ => exact False.elim g2
  · rw [if_neg hio] at g1
    exact False.elim g1
end
def hide (H : Hp) (a : Addr) : Hp := fun b => if b = a then none else H b
theorem hide_ne {H : Hp} {a b : Addr} (h : b ≠ a) : hide H a b = H b := by unfold hide; rw [if_neg h]
theorem hide_eq {H : Hp} {a : Addr} : hide H a a = none := by unfold hide; rw [if_pos rfl]
theorem hide_same {H : Hp} {a : Addr} : Same (hide H a) H := fun b o e => by
  by_cases h : b = a
  · rw [h, hide_eq] at e; cases e
  · rw [hide_ne h] at e; exact e
theorem tabs_hide {T : List (Addr × Str)} {H : Hp} {a : Addr} (h : ∀ x, H a = some x → Plain x) (t : LamX.Tabs T H) : LamX.Tabs T (hide H a) := fun q hq => by
  obtain ⟨ps, h1, h2, h3⟩ := t q hq
  refine ⟨ps, ?_, h2, fun pos cv hc => ?_⟩
  · rw [hide_ne (fun z => (h _ (by rw [← z]; exact h1)).t _ rfl)]; exact h1
  · obtain ⟨c, e1, e2⟩ := h3 pos cv hc
    refine ⟨c, e1, ?_⟩
    rw [hide_ne (fun z => (h _ (by rw [← z]; exact e2)).c _ _ rfl)]; exact e2
def start1 (n : Nat) (dd : PyData) (ds : List PyData) : Rho := .ow dd :: (ds.map .sh ++ List.replicate (n - 1 - ds.length) .no)
/-- a def of k parameters besides the lent one, n slots -/
def fnRunL (k n : Nat) (f : SM) (dd : PyData) (ds : List PyData) : R (PyData × PyData) := if ds.length = k then (match f (start1 n dd ds) with
  | .rt d ρ => (match ρ[0]? with
    | some (Sl.ow dd') => .ok (d, dd')
    | _ => .bad)
  | .rf d ρ => (match ρ[0]? with
    | some (Sl.ow dd') => .ok (d, dd')
    | _ => .bad)
  | .nx ρ => (match ρ[0]? with
    | some (Sl.ow dd') => .ok (.none, dd')
    | _ => .bad)
  | .exc c => .exc c
  | _ => .bad) else .bad
def spL (K : KW) (n : Nat) (m : PyData → List PyData → R (PyData × PyData)) : Sp := fun vs H Q E => vs.length = n ∧ ∃ a vs' V dd ds, TabV H V ∧ vs = .ref a :: vs' ∧ Same V H ∧ V a = none ∧ OwnAt K V H a dd ∧ RepL K V vs' ds ∧ match m dd ds with
  | .ok (d, dd') => ∀ v H' V', Ext (hide H a) V H' V' → V' a = none → OwnAt K V' H' a dd' → Rep K V' v d → Q v H'
  | .exc c => ∀ H' V', Ext (hide H a) V H' V' → E (.ref (He.ga K c)) none H'
  | .bad => False
def FnL (P : Program) (w : World) (K : PySem.W.Frag) (mg : Str → Option Value) (base : Heap) (lvl : Nat) (x : Str) (ps : List Str) (m : PyData → List PyData → R (PyData × PyData)) : Prop :=
  ∃ fd, FnOk P w K mg base (L2N.CX P w) lvl (He.ga K x) fd ps (spL ⟨K, w⟩ ps.length m) ∧ Binds K fd ps [] ∧ PySem.W.keepIn K (.ref (He.ga K x)) = true ∧ mg x = some (.ref (He.ga K x)) ∧ ∀ dd ds, m dd ds ≠ .bad → ds.length + 1 = ps.length
abbrev mkL (H V : Hp) (a : Addr) (E : XK) : Fr := ⟨hide H a, V, some a, fun cls _ H' => E cls none H', 0, fun _ => False⟩
section
variable {P : Program} {w : World} {K : PySem.W.Frag} {mg : Str → Option Value} {base : Heap} {x : Str} {params : Arguments} {body : List Stmt} {scope : Scope} {fd : FuncData}
theorem env_lent {V H : Hp} {vs : List L2.V} {ds : List PyData} {a : Addr} {dd : PyData} (r : RepL ⟨K, w⟩ V vs ds) {N : List Str} (hle : vs.length + 1 ≤ N.length) {E : XK} (s : Same V H) (hv : V a = none) (ho : OwnAt ⟨K, w⟩ V H a dd) (ht : TabV H V) : EnvR ⟨K, w⟩ (mkL H V a E) H V (L2.start N (.ref a :: vs)) (start1 N.length dd ds) := by
  have hl := r.length
  have f : ∀ {i : Nat} {t : Sl}, (start1 N.length dd ds)[i]? = some t → (i = 0 ∧ t = .ow dd) ∨ (∃ j d, i = j + 1 ∧ ds[j]? = some d ∧ t = .sh d) ∨ t = .no := fun {i t} h => by
    unfold start1 at h
    cases i with
    | zero => exact .inl ⟨rfl, (Option.some.inj h).symm⟩
    | succ j =>
      rw [List.getElem?_cons_succ] at h
      by_cases hi : j < ds.length
      · rw [List.getElem?_append_left (by simpa using hi), List.getElem?_map] at h
        obtain ⟨d', h1, h2⟩ := Option.map_eq_some_iff.mp h
        exact .inr (.inl ⟨j, d', rfl, h1, h2.symm⟩)
      · rw [List.getElem?_append_right (by simpa using hi), List.getElem?_replicate] at h
        split at h
        · exact .inr (.inr (Option.some.inj h).symm)
        · cases h
  refine ⟨?_, .of hide_same (Same.refl _) s (fun _ h _ => h), fun i d h => ?_, fun i d h => ?_, fun i j b d e h1 h2 _ _ => ?_, fun b h => ?_, ⟨tabs_hide ho.plain ht.1, ht.2⟩, ObE.non fun i o h => by
    rcases f h with ⟨_, z⟩ | ⟨_, _, _, _, z⟩ | z <;> cases z⟩
  · simp only [L2.start, start1, List.length_append, List.length_map, List.length_cons, List.length_replicate, hl]
    omega
  · rcases f h with ⟨_, z⟩ | ⟨j, d', rfl, hj, z⟩ | z
    · cases z
    · cases z
      obtain ⟨v, h3, h4⟩ := r.get j hj
      refine ⟨v, ?_, h4⟩
      unfold L2.start
      have hj' : j < vs.length := (List.getElem?_eq_some_iff.mp h3).1
      rw [List.getElem?_append_left (by simp only [List.length_map, List.length_cons]; omega), List.getElem?_map, List.getElem?_cons_succ, h3]
      rfl
    · cases z
  · rcases f h with ⟨rfl, z⟩ | ⟨j, d', rfl, hj, z⟩ | z
    · cases z
      exact ⟨a, rfl, hv, hide_eq, ho⟩
    · cases z
    · cases z
  · rcases f h1 with ⟨rfl, _⟩ | ⟨j, d', _, _, z⟩ | z
    · rcases f h2 with ⟨rfl, _⟩ | ⟨j, d', _, _, z⟩ | z
      · rfl
      · cases z
      · cases z
    · cases z
    · cases z
  · cases h
    rfl
theorem fn_mkL {N ps : List Str} {k : Nat} {f : SM} (D : FunD K x x params body scope [] [] (He.ga K x) fd) (hx : mg x = some (.ref (He.ga K x))) (S : FnScope N ps scope)
    (hbd : ∀ (kV doc pm : Value) (an : Option Addr) (cdv ct : Value) (us : List Value), us.length = ps.length → bindArgs (PySem.W.fnOf x x params body scope .none kV doc pm an cdv ct) ⟨us, []⟩ = pure (ps.zip us))
    (hps : ps.length ≤ N.length) (hp0 : 0 < ps.length)
    (hb : ∀ (cdv : Value) (A : Around) (outer : List Env) (s : Shared) (H V : Hp) (a : Addr) (E : XK), Room k (A.deeper (envOfC x scope s.heap.objs.size (He.ga K x) cdv)) → PMSs (cxF P w K mg base N x scope cdv A outer s H E) (mkL H V a E) body f) :
    FnL P w K mg base (k + 1) x ps (fnRunL (ps.length - 1) N.length f) := by
  refine ⟨fd, D.ok (CX := L2N.CX P w) S (fun vs H Q E h => h.1) fun cdv A outer s H vs Q E hr h => ?_, D.bindsN hbd, D.kp, hx, fun dd ds h => ?_⟩
  · obtain ⟨hl, a, vs', V, dd, ds, ht, rfl, sv, va, ho, r, g⟩ := h
    rw [List.length_cons] at hl
    refine ⟨_, hb cdv A outer s H V a E hr, V, start1 N.length dd ds, env_lent r (by omega) sv va ho ht, ?_⟩
    unfold fnRunL at g
    rw [if_pos (by rw [← r.length]; omega)] at g
    show GoalS ⟨K, w⟩ (mkL H V a E) V (f (start1 N.length dd ds)) _
    have fin : ∀ {v : L2.V} {d : PyData} {ρ' : Rho} {σ' : St} {H' V' : Hp}, EnvR ⟨K, w⟩ (mkL H V a E) H' V' σ' ρ' → Rep ⟨K, w⟩ V' v d → (match (match ρ'[0]? with
        | some (.ow dd') => (.ok (d, dd') : R (PyData × PyData))
        | _ => .bad) with
      | .ok (d, dd') => ∀ v H' V', Ext (hide H a) V H' V' → V' a = none → OwnAt ⟨K, w⟩ V' H' a dd' → Rep ⟨K, w⟩ V' v d → Q v H'
      | .exc c => ∀ H' V', Ext (hide H a) V H' V' → E (.ref (He.ga K c)) none H'
      | .bad => False) → Q v H' := fun {v d ρ' σ' H' V'} E' r' g => by
      cases e0 : ρ'[0]? with
      | none => rw [e0] at g; exact False.elim g
      | some t =>
        rw [e0] at g
        cases t with
        | no => exact False.elim g
        | ob _ => exact False.elim g
        | sh d => exact False.elim g
        | ow dd' =>
          obtain ⟨b, q1, q2, q3, q4⟩ := E'.ow 0 dd' e0
          have eb : b = a := by
            have := E'.lent a rfl
            rw [q1] at this
            exact L2.V.ref.inj (Option.some.inj (Option.some.inj this))
          subst eb
          exact g v H' V' E'.ext q2 q4 r'
    cases e : f (start1 N.length dd ds) with
    | rt d ρ' => rw [e] at g; exact fun v σ' H' V' E' _ r' => fin E' r' g
    | rf d ρ' => rw [e] at g; exact fun v σ' H' V' E' _ r' _ => fin E' r' g
    | nx ρ' => rw [e] at g; exact fun σ' H' V' E' _ => fin E' .non g
    | exc c => rw [e] at g; exact fun σ' H' V' x => g H' V' x
    | bk ρ' => rw [e] at g; exact False.elim g
    | ct ρ' => rw [e] at g; exact False.elim g
    | bad => rw [e] at g; exact False.elim g
  · unfold fnRunL at h
    by_cases hl : ds.length = ps.length - 1
    · omega
    · rw [if_neg hl] at h; exact absurd rfl h
end
/-- f(d, ..), d an own list in slot i -/
def callI (i : Nat) (m : PyData → List PyData → R (PyData × PyData)) (a : M (List PyData)) : M PyData := M.bind a fun ds ρ => match ρ[i]? with
  | some (.ow dd) => (match m dd ds with
    | .ok (d, dd') => .ok (d, ρ.set i (.ow dd'))
    | .exc c => .exc c
    | .bad => .bad)
  | _ => .bad
def callL (i : Nat) (m : PyData → List PyData → R (PyData × PyData)) (a : M (List PyData)) : M PyData := fun ρ => if isOwn1 ρ[i]? = true then callI i m a ρ else .bad
theorem EnvR.lendX {K : KW} {F : Fr} {σ : St} {ρ : Rho} {H V H' V' : Hp} (E : EnvR K F H V σ ρ) {i : Nat} {a : Addr} {dd : PyData} (h0 : ρ[i]? = some (.ow dd)) (h1 : σ[i]? = some (some (.ref a))) (x : Ext (hide H a) V H' V') : Ext F.H0 F.V0 H' V' := by
  obtain ⟨b, q1, q2, q3, q4⟩ := E.ow i dd h0
  rw [h1] at q1
  cases q1
  have ne : ∀ {b : Addr}, F.H0 b ≠ none → b ≠ a := fun {b} e z => e (by rw [z]; exact q3)
  exact ⟨fun b o e n => x.h b o (by rw [hide_ne (ne (by rw [e]; exact fun z => nomatch z))]; exact E.ext.h b o e n) n, E.ext.v.trans x.v, x.s, (fun b e1 e2 => x.f b (E.ext.f b e1 e2) (by rw [hide_ne (ne e2)]; exact E.ext.th b e2)), (fun b h => x.th b (by rw [hide_ne (ne h)]; exact E.ext.th b h)), fun t => x.t (tabs_hide q4.plain (E.ext.t t))⟩
theorem EnvR.lend {K : KW} {F : Fr} {σ : St} {ρ : Rho} {H V H' V' : Hp} (E : EnvR K F H V σ ρ) {i : Nat} {a : Addr} {dd dd' : PyData} (h0 : ρ[i]? = some (.ow dd)) (h1 : σ[i]? = some (some (.ref a))) (x : Ext (hide H a) V H' V') (va : V' a = none) (ho : OwnAt K V' H' a dd') : Stp K F σ ρ (ρ.set i (.ow dd')) H V H' V' := by
  obtain ⟨b, q1, q2, q3, q4⟩ := E.ow i dd h0
  rw [h1] at q1
  cases q1
  have hil : i < ρ.length := (List.getElem?_eq_some_iff.mp h0).1
  have ne : ∀ {b : Addr} {o : HO}, F.H0 b = some o → b ≠ a := fun {b o} e z => by rw [z, q3] at e; cases e
  have kx : ∀ b o, H b = some o → nT o → b ≠ a → H' b = some o := fun b o e nt n => x.h b o (by rw [hide_ne n]; exact e) nt
  have fx : ∀ b, V b = none → H b ≠ none → V' b = none := fun b e1 e2 => by
    by_cases n : b = a
    · rw [n]; exact va
    · exact x.f b e1 (by rw [hide_ne n]; exact e2)
  have ext : Ext F.H0 F.V0 H' V' := E.lendX h0 h1 x
  have ow : ∀ {j : Nat} {e : PyData}, (ρ.set i (.ow dd'))[j]? = some (.ow e) → ∃ e, ρ[j]? = some (.ow e) := fun {j e} h => by
    rcases getElem_set_some h with ⟨rfl, q, hi⟩ | ⟨n, q⟩
    · exact ⟨dd, h0⟩
    · exact ⟨e, q⟩
  refine ⟨⟨by simp [E.len], ext, fun j e h => ?_, fun j e h => ?_, fun j k b e e' w1 w2 w3 w4 => ?_, E.lent, E.tab, E.ob.setR fun _ z => nomatch z⟩, x.v, fun b o e nt n => kx b o e nt fun z => n ⟨i, dd, h0, by rw [z]; exact h1⟩, fun b h => ?_, fun j e h => ?_, fx, fun b h => ?_⟩
  · rcases getElem_set_some h with ⟨_, q, _⟩ | ⟨n, q⟩
    · cases q
    · obtain ⟨v, w1, w2⟩ := E.sh j e q
      exact ⟨v, w1, w2.mono x.v⟩
  · rcases getElem_set_some h with ⟨rfl, q, hi⟩ | ⟨n, q⟩
    · cases q
      exact ⟨a, h1, va, q3, ho⟩
    · obtain ⟨b, w1, w2, w3, w4⟩ := E.ow j e q
      have nb : b ≠ a := fun z => n (by rw [z] at w1; exact E.dis i j a dd e h0 q h1 w1)
      obtain ⟨o, w5, _⟩ := w4.there
      exact ⟨b, w1, fx b w2 (by rw [w5]; exact fun z => nomatch z), w3, w4.mono x.v fun o e nt => kx b o e nt nb⟩
  · obtain ⟨e1, u1⟩ := ow w1
    obtain ⟨e2, u2⟩ := ow w2
    exact E.dis j k b e1 e2 u1 u2 w3 w4
  · obtain ⟨j, e, w1, w2⟩ := h
    obtain ⟨e1, u1⟩ := ow w1
    exact ⟨j, e1, u1, w2⟩
  · rcases getElem_set_some h with ⟨_, q, _⟩ | ⟨n, q⟩
    · cases q
    · exact q
  · by_cases n : b = a
    · rw [n]
      obtain ⟨o, w5, _⟩ := ho.there
      rw [w5]
      exact fun z => nomatch z
    · exact x.th b (by rw [hide_ne n]; exact h)
section
variable {X : Cx} {F : Fr} {es : List Expr} {fs : M (List PyData)} {pos p : Pos}
theorem pm_callL (i : Nat) {y : Str} {py : Pos} {lvl : Nat} {x : Str} {ps : List Str} {m : PyData → List PyData → R (PyData × PyData)} (G : FnL X.prog X.w X.K X.mg X.base lvl x ps m) (hr : Room lvl X.A) (tk : Tk X F) (ha : PMA X F es fs) (hg : Gl X x := by rfl)
    (hN : X.N[i]? = some y := by rfl) (hv : Vis X.env.scope y := by first | exact Or.inl rfl | exact Or.inr (Or.inl rfl) | exact Or.inr (Or.inr rfl)) (hd : (y == ("__debug__" : Str)) = false := by decide) (hcd : (y == ("__classdict__" : Str)) = false := by decide)
    (hdb : (x == ("__debug__" : Str)) = false := by decide) (he : starEach (.Name y py :: es) X.env = (false, eval (.Name y py) X.env) :: starEach es X.env := by rfl) (hpl : (backTo pos (starEach es X.env)).any (·.1) = false := by rfl) : PM X F (.Call (.Name x p) (.Name y py :: es) [] pos) (callL i m fs) := by
  obtain ⟨fd, G1, G2, G3, G4, G5⟩ := G
  refine PE.imp (pe_callS G1 hr hg G4 G3 G2 (fun σ => L2N.passAt tk σ) (pa_cons (pe_var hN hv hd hcd) ha he) hdb he hpl) fun σ H Q ⟨V, ρ, E, g0⟩ => ?_
  have g0 : Goal X.kw F σ ρ H V (Rep X.kw) (if isOwn1 ρ[i]? = true then callI i m fs ρ else .bad) Q := g0
  by_cases hio : isOwn1 ρ[i]? = true
  · rw [if_pos hio] at g0
    cases eo : ρ[i]? with
    | none => rw [eo] at hio; cases hio
    | some s =>
      cases s with
      | no => rw [eo] at hio; cases hio
      | ob _ => rw [eo] at hio; cases hio
      | sh d => rw [eo] at hio; cases hio
      | ow d0 =>
        obtain ⟨a, h1, h2, h3, h4⟩ := E.ow i _ eo
        refine ⟨.ref a, h1, V, ρ, E, Goal.bind g0 fun vs ds H1 V1 ρ1 st1 r1 g1 => ?_⟩
        cases eo1 : ρ1[i]? with
        | none => rw [eo1] at g1; exact False.elim g1
        | some s1 =>
          rw [eo1] at g1
          cases s1 with
          | no => exact False.elim g1
          | ob _ => exact False.elim g1
          | sh d => exact False.elim g1
          | ow dd =>
            obtain ⟨a', q1, q2, q3, q4⟩ := st1.env.ow i _ eo1
            have ea : a' = a := by rw [h1] at q1; exact (L2.V.ref.inj (Option.some.inj (Option.some.inj q1))).symm
            subst ea
            have g1 : Goal X.kw F σ ρ1 H1 V1 (Rep X.kw) (match m dd ds with
              | .ok (d, dd') => .ok (d, ρ1.set i (.ow dd'))
              | .exc c => .exc c
              | .bad => .bad) Q := g1
            have len : ∀ (h : m dd ds ≠ .bad), (L2.V.ref a' :: vs).length = ps.length := fun h => by rw [List.length_cons, r1.length]; exact G5 dd ds h
            cases em : m dd ds with
            | ok pr =>
              obtain ⟨d, dd'⟩ := pr
              rw [em] at g1
              refine ⟨len (by rw [em]; exact fun z => nomatch z), a', vs, V1, dd, ds, st1.env.tabs, rfl, st1.env.sub, q2, q4, r1, ?_⟩
              rw [em]
              exact fun v H' V' x va ho r => g1 v H' V' (st1.env.lend eo1 q1 x va ho) r
            | exc c =>
              rw [em] at g1
              refine ⟨len (by rw [em]; exact fun z => nomatch z), a', vs, V1, dd, ds, st1.env.tabs, rfl, st1.env.sub, q2, q4, r1, ?_⟩
              rw [em]
              exact fun H' V' x => ⟨rfl, g1 H' V' (st1.env.lendX eo1 q1 x)⟩
            | bad => rw [em] at g1; exact False.elim g1
  · rw [if_neg hio] at g0
    exact False.elim g0
end
end DL
set_option Elab.async false
set_option linter.all false
set_option maxRecDepth 100000
set_option maxHeartbeats 1000000
namespace DL
open PySem PySem.Spec PyProof.Rows L2
variable [TabCtx]
def demSl : Sl → Sl
  | .ow d => .sh d
  | s => s
/-- true: slot 0 (a lent thing) stays own -/
def demR : Bool → Rho → Rho
  | false, ρ => ρ.map demSl
  | true, [] => []
  | true, s :: ρ => s :: ρ.map demSl
def immSl : Sl → Bool
  | .ow (.list ds) => immL ds
  | .no => true
  | _ => false
def backR : Bool → Rho → Rho → Option Rho
  | false, ρ, _ => some ρ
  | true, _ :: r, s :: _ => if immSl s = true then some (s :: r) else none
  | true, _, _ => none
def brw (b : Bool) (f : M PyData) : M PyData := fun ρ => match f (demR b ρ) with
  | .ok (d, ρ') => if imm d = true then (match backR b ρ ρ' with
    | some ρ'' => .ok (d, ρ'')
    | none => .bad) else .bad
  | .exc c => .exc c
  | .bad => .bad
theorem demR_len (b : Bool) (ρ : Rho) : (demR b ρ).length = ρ.length := by
  cases b with
  | false => exact List.length_map ..
  | true => cases ρ with
    | nil => rfl
    | cons s r => simp [demR]
theorem demR_ow {b : Bool} {ρ : Rho} {i : Nat} {d : PyData} (h : (demR b ρ)[i]? = some (.ow d)) : i = 0 ∧ b = true ∧ ρ[i]? = some (.ow d) := by
  have m : ∀ {r : Rho} {i : Nat}, (r.map demSl)[i]? ≠ some (.ow d) := fun {r i} h => by
    rw [List.getElem?_map] at h
    obtain ⟨s, _, h2⟩ := Option.map_eq_some_iff.mp h
    cases s <;> cases h2
  cases b with
  | false => exact absurd h m
  | true => cases ρ with
    | nil => cases h
    | cons s r =>
      cases i with
      | zero => exact ⟨rfl, rfl, h⟩
      | succ i => exact absurd (show (r.map demSl)[i]? = some (.ow d) from h) m
theorem demR_sh {b : Bool} {ρ : Rho} {i : Nat} {d : PyData} (h : (demR b ρ)[i]? = some (.sh d)) : ρ[i]? = some (.sh d) ∨ (ρ[i]? = some (.ow d) ∧ (b = true → i ≠ 0)) := by
  have m : ∀ {r : Rho} {i : Nat}, (r.map demSl)[i]? = some (.sh d) → r[i]? = some (.sh d) ∨ r[i]? = some (.ow d) := fun {r i} h => by
    rw [List.getElem?_map] at h
    obtain ⟨s, h1, h2⟩ := Option.map_eq_some_iff.mp h
    cases s with
    | no => cases h2
    | ob _ => cases h2
    | sh e => cases h2; exact .inl h1
    | ow e => cases h2; exact .inr h1
  cases b with
  | false => exact (m h).imp id fun q => ⟨q, fun z => nomatch z⟩
  | true => cases ρ with
    | nil => cases h
    | cons s r =>
      cases i with
      | zero => exact .inl h
      | succ i => exact (m (show (r.map demSl)[i]? = some (.sh d) from h)).imp id fun q => ⟨q, fun _ => Nat.succ_ne_zero i⟩
theorem demR_ob {b : Bool} {ρ : Rho} {i : Nat} {o : Ob} (h : (demR b ρ)[i]? = some (.ob o)) : ρ[i]? = some (.ob o) := by
  have m : ∀ {r : Rho} {i : Nat}, (r.map demSl)[i]? = some (.ob o) → r[i]? = some (.ob o) := fun {r i} h => by
    rw [List.getElem?_map] at h
    obtain ⟨s, h1, h2⟩ := Option.map_eq_some_iff.mp h
    cases s with
    | ob e => cases h2; exact h1
    | no => cases h2
    | sh e => cases h2
    | ow e => cases h2
  cases b with
  | false => exact m h
  | true => cases ρ with
    | nil => cases h
    | cons s r =>
      cases i with
      | zero => exact h
      | succ i => exact m (show (r.map demSl)[i]? = some (.ob o) from h)
theorem demR_keep {ρ : Rho} {d : PyData} (h : ρ[0]? = some (.ow d)) : (demR true ρ)[0]? = some (.ow d) := by
  cases ρ with
  | nil => cases h
  | cons s r => exact h
open Classical in
/-- what is seen if own things are -/
noncomputable def shown (P : Addr → Prop) (V H : Hp) : Hp := fun c => if P c then H c else V c
open Classical in
noncomputable def veiled (P : Addr → Prop) (V : Hp) : Hp := fun c => if P c then none else V c
section
variable {K : KW} {F : Fr} {σ : St} {ρ ρ' ρ'' : Rho} {H V H' V' : Hp}
theorem shown_p {P : Addr → Prop} {c : Addr} (h : P c) : shown P V H c = H c := by unfold shown; rw [if_pos h]
theorem shown_n {P : Addr → Prop} {c : Addr} (h : ¬ P c) : shown P V H c = V c := by unfold shown; rw [if_neg h]
theorem veiled_p {P : Addr → Prop} {c : Addr} (h : P c) : veiled P V c = none := by unfold veiled; rw [if_pos h]
theorem veiled_n {P : Addr → Prop} {c : Addr} (h : ¬ P c) : veiled P V c = V c := by unfold veiled; rw [if_neg h]
def Let (σ : St) (ρ : Rho) (b : Bool) (c : Addr) : Prop := IsOwn σ ρ c ∧ ¬ IsOwn σ (demR b ρ) c
theorem EnvR.own_at (E : EnvR K F H V σ ρ) {c : Addr} (h : IsOwn σ ρ c) : V c = none ∧ F.H0 c = none ∧ ∃ o, H c = some o ∧ (∀ xs, o ≠ .tup xs) ∧ (∀ u xs, o ≠ .frz u (.tup xs)) ∧ Plain o := by
  obtain ⟨i, d, h1, h2⟩ := h
  obtain ⟨a, q1, q2, q3, q4⟩ := E.ow i d h1
  rw [h2] at q1
  cases q1
  exact ⟨q2, q3, q4.there⟩
theorem EnvR.let_at (E : EnvR K F H V σ ρ) {b : Bool} {i : Nat} {d : PyData} {a : Addr} (h : ρ[i]? = some (.ow d)) (h2 : σ[i]? = some (some (.ref a))) (hb : b = true → i ≠ 0) : Let σ ρ b a := by
  refine ⟨⟨i, d, h, h2⟩, fun ⟨j, e, q1, q2⟩ => ?_⟩
  obtain ⟨rfl, hb', q3⟩ := demR_ow q1
  exact hb hb' (E.dis i 0 a d e h q3 h2 q2)
theorem EnvR.dem (E : EnvR K F H V σ ρ) (b : Bool) : EnvR K F H (shown (Let σ ρ b) V H) σ (demR b ρ) := by
  have sv : Same V (shown (Let σ ρ b) V H) := fun c o e => by
    rw [shown_n (fun h => by rw [(E.own_at h.1).1] at e; cases e)]; exact e
  refine ⟨by rw [demR_len]; exact E.len, ⟨E.ext.h, E.ext.v.trans sv, fun c o e => ?_, fun c h1 h2 => ?_, E.ext.th, E.ext.t⟩, fun i d h => ?_, fun i d h => ?_, fun i j a d e h1 h2 h3 h4 => ?_, E.lent, E.tab, E.ob.sub fun i o h => ⟨demR_ob h, rfl⟩⟩
  · by_cases h : Let σ ρ b c
    · rw [shown_p h] at e; exact e
    · rw [shown_n h] at e; exact E.sub c o e
  · rw [shown_n (fun h => h2 (E.own_at h.1).2.1)]; exact E.ext.f c h1 h2
  · rcases demR_sh h with q | ⟨q, hb⟩
    · obtain ⟨v, w1, w2⟩ := E.sh i d q
      exact ⟨v, w1, w2.mono sv⟩
    · obtain ⟨a, w1, w2, w3, w4⟩ := E.ow i d q
      refine ⟨.ref a, w1, ?_⟩
      have el : shown (Let σ ρ b) V H a = H a := shown_p (E.let_at q w1 hb)
      cases d with
      | list ds => obtain ⟨vs, e, r⟩ := w4; exact .lst (el.trans e) (r.mono sv)
      | dict ps =>
        rcases w4 with ⟨kvs, e, r, n⟩ | ⟨kvs, ep, e, r⟩
        · exact .dk (.inl (el.trans e)) (r.mono sv) n
        · exact .dt (el.trans e) (r.mono sv)
      | _ => exact w4.elim
  · obtain ⟨rfl, hb, q⟩ := demR_ow h
    obtain ⟨a, w1, w2, w3, w4⟩ := E.ow 0 d q
    exact ⟨a, w1, by rw [shown_n (fun z => z.2 ⟨0, d, h, w1⟩)]; exact w2, w3, w4.mono sv fun _ e _ => e⟩
  · exact E.dis i j a d e (demR_ow h1).2.2 (demR_ow h2).2.2 h3 h4
theorem immL_mono {K : KW} {V V' H : Hp} {a : Addr} {s : Sl} {d : PyData} (e : s = .ow d) (h : immSl s = true) (o : OwnAt K V H a d) (t : SameT V V') : OwnAt K V' H a d := by
  subst e
  cases d with
  | list ds => obtain ⟨vs, e, r⟩ := o; exact ⟨vs, e, r.imm t h⟩
  | _ => cases h
theorem EnvR.back (E : EnvR K F H V σ ρ) {b : Bool} (st : Stp K F σ (demR b ρ) ρ' H (shown (Let σ ρ b) V H) H' V') (hb : backR b ρ ρ' = some ρ'') :
    Stp K F σ ρ ρ'' H V H' (veiled (Let σ ρ b) V') ∧ SameT V' (veiled (Let σ ρ b) V') := by
  have sT : SameT V' (veiled (Let σ ρ b) V') := by
    have no : ∀ c, Let σ ρ b c → ∃ o, V' c = some o ∧ (∀ xs, o ≠ .tup xs) ∧ ∀ u xs, o ≠ .frz u (.tup xs) := fun c h => by
      obtain ⟨_, _, o, q1, q2, q3, _⟩ := E.own_at h.1
      exact ⟨o, st.v c o (by rw [shown_p h]; exact q1), q2, q3⟩
    refine ⟨fun c xs e => ?_, fun c u xs e => ?_⟩
    · rw [veiled_n (fun h => by obtain ⟨o, q1, q2, _⟩ := no c h; rw [q1] at e; exact q2 xs (Option.some.inj e))]; exact e
    · rw [veiled_n (fun h => by obtain ⟨o, q1, _, q2⟩ := no c h; rw [q1] at e; exact q2 u xs (Option.some.inj e))]; exact e
  have sv : Same V (veiled (Let σ ρ b) V') := fun c o e => by
    have n : ¬ Let σ ρ b c := fun h => by rw [(E.own_at h.1).1] at e; cases e
    rw [veiled_n n]
    exact st.v c o (by rw [shown_n n]; exact e)
  have kp : ∀ c o, H c = some o → nT o → ¬ IsOwn σ (demR b ρ) c → H' c = some o := st.keep
  have od : ∀ {c}, IsOwn σ (demR b ρ) c → IsOwn σ ρ c := fun {c} ⟨i, d, h1, h2⟩ => ⟨i, d, (demR_ow h1).2.2, h2⟩
  -- the slots behind
  have sl : ∀ {i : Nat} {t : Sl}, ρ''[i]? = some t → (ρ[i]? = some t ∧ (b = true → i ≠ 0)) ∨ (i = 0 ∧ b = true ∧ ρ'[0]? = some t ∧ immSl t = true) := fun {i t} h => by
    cases b with
    | false =>
      cases hb
      exact .inl ⟨h, fun z => nomatch z⟩
    | true =>
      cases ρ with
      | nil => cases ρ' <;> cases hb
      | cons s r =>
        cases ρ' with
        | nil => cases hb
        | cons s' r' =>
          have hb : (if immSl s' = true then some (s' :: r) else none) = some ρ'' := hb
          by_cases hi : immSl s' = true
          · rw [if_pos hi] at hb
            cases hb
            cases i with
            | zero =>
              have e : s' = t := Option.some.inj h
              subst e
              exact .inr ⟨rfl, rfl, rfl, hi⟩
            | succ i => exact .inl ⟨h, fun _ => Nat.succ_ne_zero i⟩
          · rw [if_neg hi] at hb; cases hb
  have len : ρ''.length = ρ.length := by
    cases b with
    | false => cases hb; rfl
    | true =>
      cases ρ with
      | nil => cases ρ' <;> cases hb
      | cons s r =>
        cases ρ' with
        | nil => cases hb
        | cons s' r' =>
          have hb : (if immSl s' = true then some (s' :: r) else none) = some ρ'' := hb
          by_cases hi : immSl s' = true
          · rw [if_pos hi] at hb; cases hb; rfl
          · rw [if_neg hi] at hb; cases hb
  have ow0 : ∀ {d : PyData}, ρ'[0]? = some (.ow d) → ∃ e, ρ[0]? = some (.ow e) := fun {d} h => by
    obtain ⟨a, w1, _⟩ := st.env.ow 0 d h
    obtain ⟨j, e, q1, q2⟩ := st.own a ⟨0, d, h, w1⟩
    obtain ⟨rfl, _, q3⟩ := demR_ow q1
    exact ⟨e, q3⟩
  have owf : ∀ {i : Nat} {d : PyData}, ρ''[i]? = some (.ow d) → ∃ e, ρ[i]? = some (.ow e) := fun {i d} h => by
    rcases sl h with ⟨q, _⟩ | ⟨rfl, _, q, _⟩
    · exact ⟨d, q⟩
    · exact ow0 q
  refine ⟨⟨⟨by rw [len]; exact E.len, ⟨st.env.ext.h, E.ext.v.trans sv, fun c o e => ?_, fun c h1 h2 => ?_, st.env.ext.th, st.env.ext.t⟩, fun i d h => ?_, fun i d h => ?_, fun i j a d e h1 h2 h3 h4 => ?_, E.lent, E.tab, E.ob.sub fun i o h => by
    rcases sl h with ⟨q, _⟩ | ⟨_, _, _, q⟩
    · exact ⟨q, rfl⟩
    · cases q⟩, sv, fun c o e nt n => kp c o e nt fun z => n (od z), fun c h => ?_, fun i d h => ?_, fun c h1 h2 => ?_, st.th⟩, sT⟩
  · by_cases h : Let σ ρ b c
    · rw [veiled_p h] at e; cases e
    · rw [veiled_n h] at e; exact st.env.ext.s c o e
  · by_cases h : Let σ ρ b c
    · exact veiled_p h
    · rw [veiled_n h]; exact st.env.ext.f c h1 h2
  · rcases sl h with ⟨q, _⟩ | ⟨_, _, _, q⟩
    · obtain ⟨v, w1, w2⟩ := E.sh i d q
      exact ⟨v, w1, w2.mono sv⟩
    · cases q
  · rcases sl h with ⟨q, hb'⟩ | ⟨rfl, hb', q, hi⟩
    · obtain ⟨a, w1, w2, w3, w4⟩ := E.ow i d q
      have la := E.let_at q w1 hb'
      exact ⟨a, w1, veiled_p la, w3, w4.mono sv fun o e nt => kp a o e nt la.2⟩
    · obtain ⟨a, w1, w2, w3, w4⟩ := st.env.ow 0 d q
      obtain ⟨e, q2⟩ := ow0 q
      have n : ¬ Let σ ρ b a := fun h => h.2 (by subst hb'; exact ⟨0, e, demR_keep q2, w1⟩)
      exact ⟨a, w1, by rw [veiled_n n]; exact w2, w3, immL_mono rfl hi w4 sT⟩
  · obtain ⟨e1, q1⟩ := owf h1
    obtain ⟨e2, q2⟩ := owf h2
    exact E.dis i j a e1 e2 q1 q2 h3 h4
  · obtain ⟨i, d, h1, h2⟩ := h
    obtain ⟨e, q⟩ := owf h1
    exact ⟨i, e, q, h2⟩
  · rcases sl h with ⟨q, _⟩ | ⟨_, _, _, q⟩
    · exact q
    · cases q
  · by_cases h : Let σ ρ b c
    · exact veiled_p h
    · rw [veiled_n h]; exact st.f c (by rw [shown_n h]; exact h1) h2
end
section
variable {X : Cx} {F : Fr} {e : Expr} {fa : M PyData} {pos : Pos}
theorem pm_brw (b : Bool) (h : PM X F e fa) : PM X F e (brw b fa) := by
  refine PE.imp h fun σ H Q ⟨V, ρ, E, g⟩ => ⟨shown (Let σ ρ b) V H, demR b ρ, E.dem b, ?_⟩
  have g : Goal X.kw F σ ρ H V (Rep X.kw) (match fa (demR b ρ) with
    | .ok (d, ρ') => if imm d = true then (match backR b ρ ρ' with
      | some ρ'' => .ok (d, ρ'')
      | none => .bad) else .bad
    | .exc c => .exc c
    | .bad => .bad) Q := g
  cases ef : fa (demR b ρ) with
  | exc c => rw [ef] at g; exact g
  | bad => rw [ef] at g; exact g
  | ok pr =>
    obtain ⟨d, ρ'⟩ := pr
    rw [ef] at g
    have g : Goal X.kw F σ ρ H V (Rep X.kw) (if imm d = true then (match backR b ρ ρ' with
      | some ρ'' => .ok (d, ρ'')
      | none => .bad) else .bad) Q := g
    by_cases hi : imm d = true
    · rw [if_pos hi] at g
      intro v H' V' st r
      cases eb : backR b ρ ρ' with
      | none => rw [eb] at g; exact False.elim g
      | some ρ'' =>
        rw [eb] at g
        obtain ⟨s1, s2⟩ := E.back st eb
        exact g v H' _ s1 (r.imm s2 hi)
    · rw [if_neg hi] at g
      exact False.elim g
/-- a statement that lets own things go -/
def demO (b : Bool) (f : SM) : SM := fun ρ => f (demR b ρ)
end
end DL
set_option Elab.async false
set_option linter.all false
set_option maxRecDepth 100000
set_option maxHeartbeats 1000000
namespace SrtQ
open PySem PyProof.Rows Srt
open SrtO hiding Str
def ltS (a b : Str) : Bool := decide (a.cps.toList < b.cps.toList)
def lexS (p q : Str × Int) : Bool := if p.1 = q.1 then decide (p.2 < q.2) else ltS p.1 q.1
theorem str_ext {a b : Str} (h : a.cps.toList = b.cps.toList) : a = b := by
  obtain ⟨a⟩ := a
  obtain ⟨b⟩ := b
  have h : a = b := by
    obtain ⟨a⟩ := a
    obtain ⟨b⟩ := b
    exact congrArg Array.mk h
  rw [h]
theorem ltS_irrefl (a : Str) : ltS a a = false := decide_eq_false (List.lt_irrefl _)
theorem ltS_asym {a b : Str} (h : ltS a b = true) : ltS b a = false := decide_eq_false (List.lt_asymm (of_decide_eq_true h))
theorem ltS_tri {a b : Str} (h1 : ltS a b = false) (h2 : ltS b a = false) : a = b := by
  have h1 := of_decide_eq_false h1
  have h2 := of_decide_eq_false h2
  exact str_ext (List.le_antisymm (List.not_lt.mp h2) (List.not_lt.mp h1))
theorem ltS_trans {a b c : Str} (h1 : ltS a b = true) (h2 : ltS b c = true) : ltS a c = true := decide_eq_true (List.lt_trans (of_decide_eq_true h1) (of_decide_eq_true h2))
theorem lexS_asym {p q : Str × Int} (h : lexS p q = true) : lexS q p = false := by
  unfold lexS at *
  by_cases e : p.1 = q.1
  · rw [if_pos e] at h
    rw [if_pos e.symm]
    have := of_decide_eq_true h
    exact decide_eq_false (by omega)
  · rw [if_neg e] at h
    rw [if_neg (fun z => e z.symm)]
    exact ltS_asym h
theorem lexS_tri {p q : Str × Int} (h1 : lexS p q = false) (h2 : lexS q p = false) : p = q := by
  unfold lexS at *
  by_cases e : p.1 = q.1
  · rw [if_pos e] at h1
    rw [if_pos e.symm] at h2
    have := of_decide_eq_false h1
    have := of_decide_eq_false h2
    exact Prod.ext e (by omega)
  · rw [if_neg e] at h1
    rw [if_neg (fun z => e z.symm)] at h2
    exact absurd (ltS_tri h1 h2) e
theorem lexS_trans {p q r : Str × Int} (h1 : lexS p q = true) (h2 : lexS q r = true) : lexS p r = true := by
  unfold lexS at *
  by_cases e : p.1 = q.1
  · rw [if_pos e] at h1
    by_cases e2 : q.1 = r.1
    · rw [if_pos e2] at h2
      rw [if_pos (e.trans e2)]
      have := of_decide_eq_true h1
      have := of_decide_eq_true h2
      exact decide_eq_true (by omega)
    · rw [if_neg e2] at h2
      rw [if_neg (fun z => e2 (e.symm.trans z)), e]
      exact h2
  · rw [if_neg e] at h1
    by_cases e2 : q.1 = r.1
    · rw [if_neg (fun z => e (z.trans e2.symm)), ← e2]
      exact h1
    · rw [if_neg e2] at h2
      have h3 := ltS_trans h1 h2
      by_cases e3 : p.1 = r.1
      · rw [e3] at h3; rw [ltS_irrefl] at h3; cases h3
      · rw [if_neg e3]; exact h3
theorem swo_lexS' : Swo lexS := by
  refine ⟨fun x y h => lexS_asym h, fun x y z h1 h2 => ?_⟩
  rcases bcase (lexS z x) with h | h
  · rcases bcase (lexS x y) with q | q
    · have := lexS_trans h q
      rw [this] at h2; cases h2
    · have e := lexS_tri q h1
      subst e
      exact h2
  · exact h
theorem swo_lexS {α : Type} (k : α → Str × Int) : Swo fun v u => lexS (k v) (k u) := ⟨fun x y h => swo_lexS'.asym _ _ h, fun x y z h1 h2 => swo_lexS'.tr _ _ _ h1 h2⟩
section
variable {prog : Program} {w : World} {A : Around} {E : Value → Shared → Prop} {s : Shared}
/-- v is a tuple of a text and an int -/
def IsSI (h : Heap) (v : Value) (x : Str) (y : Int) : Prop := ∃ a o t u n, v = .ref a ∧ h.get? a = some o ∧ o.cls = .type "tuple" ∧ o.data = .seq #[.str x t, .int y u] n
theorem IsSI.keeps {h h' : Heap} {v : Value} {x : Str} {y : Int} (p : IsSI h v x y) (k : ∀ b o, h.get? b = some o → o.cls = .type "tuple" → h'.get? b = some o) : IsSI h' v x y := by
  obtain ⟨a, o, t, u, n, e, ho, hc, hd⟩ := p
  exact ⟨a, o, t, u, n, e, k _ _ ho hc, hc, hd⟩
theorem si_cmp {vs : List Value} {k : Value → Str × Int} (hp : ∀ v ∈ vs, IsSI s.heap v (k v).1 (k v).2) : Cmp prog w A s (tuples' true) (fun p => p.1 ∈ vs) (lt2 fun v u => lexS (k v) (k u)) := by
  intro p q hm hm'
  have h1 := hp _ hm
  have h2 := hp _ hm'
  show wpAny (model prog w) A (keyLt' (tuples' true) p.1 q.1) (fun r s' => s' = s ∧ r = lexS (k p.1) (k q.1)) (fun _ _ => False) s
  unfold lexS
  generalize (k p.1).1 = x at h1 ⊢
  generalize (k p.1).2 = y at h1 ⊢
  generalize (k q.1).1 = x' at h2 ⊢
  generalize (k q.1).2 = y' at h2 ⊢
  obtain ⟨a, o, t, u, n, e, ho, hc, hd⟩ := h1
  obtain ⟨a', o', t', u', n', e', ho', hc', hd'⟩ := h2
  rw [e, e']
  refine PySem.W.kat_lt ho hd ho' hd' ?_
  show PySem.W.KatLex prog w A true (decide (2 < 2)) _ [(.str x t, .str x' t'), (.int y u, .int y' u')] 0 s
  refine PySem.W.kat_cons (SeqAt.EqAt.str_str x t x' t' prog w _ _ ?_)
  refine PySem.W.kat_go (fun e1 => ?_) (fun e1 => ?_)
  · have ex : x = x' := by simpa using e1
    refine PySem.W.kat_yes (PySem.W.kat_cons (SeqAt.EqAt.int_int y u y' u' prog w _ _ ?_))
    refine PySem.W.kat_go (fun e2 => ?_) (fun e2 => ?_)
    · have ey : y = y' := by simpa using e2
      have e3 : (if x = x' then decide (y < y') else ltS x x') = false := by
        rw [if_pos ex, ey]
        exact decide_eq_false (Int.lt_irrefl _)
      exact PySem.W.kat_yes (PySem.W.kat_nil ⟨rfl, e3.symm⟩)
    · have e3 : (if x = x' then decide (y < y') else ltS x x') = decide (y < y') := if_pos ex
      refine PySem.W.kat_no (PySem.W.kat_one _ _ (PyProof.Rows.lt_int ?_))
      exact (show s = s ∧ decide (y < y') = (if x = x' then decide (y < y') else ltS x x') from ⟨rfl, e3.symm⟩)
  · have ex : ¬ x = x' := by simpa using e1
    have e3 : (if x = x' then decide (y < y') else ltS x x') = ltS x x' := if_neg ex
    exact PySem.W.kat_no (oneLt_str ⟨rfl, e3.symm⟩)
theorem si_firsts {h : Heap} : ∀ {vs : List Value}, (∀ v ∈ vs, ∃ x y, IsSI h v x y) → ∃ fs : List Value, PySem.W.KatTups h vs fs ∧ fs.length = vs.length ∧ ∀ f ∈ fs, ∃ x t, f = Value.str x t
  | [], _ => ⟨[], PySem.W.KatTups.nil, rfl, fun _ hm => by simp at hm⟩
  | v :: vs, hp => by
    obtain ⟨fs, h1, h2, h3⟩ := si_firsts (vs := vs) fun v' hm => hp v' (List.mem_cons_of_mem _ hm)
    obtain ⟨x, y, a, o, t, u, n, e, ho, hc, hd⟩ := hp v (List.mem_cons_self ..)
    subst e
    refine ⟨.str x t :: fs, PySem.W.KatTups.cons ho hc hd rfl h1, by rw [List.length_cons, List.length_cons, h2], fun f hm => ?_⟩
    rcases List.mem_cons.mp hm with rfl | hm
    · exact ⟨x, t, rfl⟩
    · exact h3 f hm
theorem si_sortable {a : Addr} {vs : List Value} {k : Value → Str × Int} (h0 : 0 < vs.length) (hp : ∀ v ∈ vs, IsSI s.heap v (k v).1 (k v).2) (ha : ∀ o, s.heap.get? a = some o → o.cls ≠ .type "tuple") : SortableO prog w A s a vs fun v u => lexS (k v) (k u) := by
  intro h' keep
  have hp' : ∀ v ∈ vs, IsSI h' v (k v).1 (k v).2 := fun v hm => (hp v hm).keeps fun b o e c => keep b o (fun z => by subst z; exact ha o e c) e
  obtain ⟨fs, h1, h2, h3⟩ := si_firsts fun v hm => ⟨_, _, hp' v hm⟩
  refine ⟨tuples' true, fun Q E hq => ?_, si_cmp hp'⟩
  refine PySem.W.kat_kind (T := .type "str") h1 (by omega) (fun f hm => ?_) (by rfl) ?_
  · obtain ⟨x, t, rfl⟩ := h3 f hm
    exact PySem.W.Looks.now
  · have e : (Value.type "str" != Value.type "tuple") = true := by first | decide +kernel | rfl | decide
    rw [e]
    exact hq
/-- sorted of a list or a tuple of pairs -/
theorem sorted_sq {l : Addr} {T : String} {o : Obj} {vs : List Value} {n : Nat} {k : Value → Str × Int} {Q : Value → Shared → Prop} (hT : T = "list" ∨ T = "tuple") (ho : s.heap.get? l = some o) (hc : o.cls = .type T) (hd : o.data = .seq vs.toArray n) (hz : vs.length ≤ sizeLine) (hp : ∀ v ∈ vs, IsSI s.heap v (k v).1 (k v).2)
    (fin : ∀ (h0 h1 : Heap) (d : Addr) (out : List Value), (∀ b o, s.heap.get? b = some o → h0.get? b = some o) → Srtd (fun v u => lexS (k v) (k u)) out → Stb (fun v u => lexS (k v) (k u)) out vs → (∀ b o, h0.get? b = some o → h1.get? b = some o) → h0.objs.size ≤ d → (∃ n, h1.get? d = some (seqObj "list" out.toArray n)) → Q (.ref d) { s with heap := h1 }) :
    wpAny (model prog w) A (call (.builtin "sorted") [.ref l]) Q E s := by
  refine Calls.call_function_entry kind_sorted plain_sorted entry_sorted (args_sorted1 (.ref l)) ?_
  unfold Builtin.«sorted»
  refine wpAny_bind (m := checkCount "sorted" 1 1 _) (wpAny_pure (wpAny_bind (wpAny_collect_seq l hT ho hc hd (fun h0 k0 => ?_) (by rw [List.size_toArray]; exact hz))))
  show wpAny _ _ _ _ _ { s with heap := h0 }
  have e0 : vs.toArray.toList = vs := by simp
  rw [e0]
  refine wpAny_bind (wpAny_newList (s := { s with heap := h0 }) ?_ hz)
  have hat : (h0.push (seqObj "list" vs.toArray 0)).get? h0.objs.size = some (seqObj "list" vs.toArray 0) := Heap.get?_push_size _ rfl
  have k1 : ∀ b o, h0.get? b = some o → b ≠ h0.objs.size ∧ (h0.push (seqObj "list" vs.toArray 0)).get? b = some o := fun b o q => ⟨Nat.ne_of_lt (Heap.lt_size q), Heap.get?_push_of_some _ q⟩
  show wpAny _ _ _ _ _ { s with heap := h0.push (seqObj "list" vs.toArray 0) }
  refine wpAny_bind (wpAny_holding (wpAny_call_entry slot_list_sort ⟨_, hat, rfl⟩ entry_list_sort (list_sort_ord (s := { s with heap := h0.push (seqObj "list" vs.toArray 0) }) (swo_lexS k) hat hz (fun h2 => ?_) fun out hs hb => ⟨_, rfl, ?_⟩) (args_list_sort _)))
  · refine si_sortable (s := { s with heap := h0.push (seqObj "list" vs.toArray 0) }) (by omega) (fun v hm => (hp v hm).keeps fun b o e _ => (k1 b o (k0 b o e)).2) fun o e => ?_
    have e' : some o = some (seqObj "list" vs.toArray 0) := e.symm.trans hat
    cases e'
    exact fun c => absurd (Value.type.inj c) (by decide)
  · refine wpAny_pure ⟨_, rfl, fin h0 _ _ out k0 hs hb (fun b o e => ?_) (Nat.le_refl _) (sortedHeap_at (n := 0) hat)⟩
    obtain ⟨z1, z2⟩ := k1 b o e
    rw [sortedHeap_old z1 (by rw [size_push']; exact Nat.lt_succ_of_lt (Heap.lt_size e))]
    exact z2
theorem sorted_si {l : Addr} {vs : List Value} {k : Value → Str × Int} {Q : Value → Shared → Prop} (hl : s.heap.IsList l vs.toArray) (hz : vs.length ≤ sizeLine) (hp : ∀ v ∈ vs, IsSI s.heap v (k v).1 (k v).2)
    (h : ∀ (h' : Heap) (d : Addr) (out : List Value), Srtd (fun v u => lexS (k v) (k u)) out → Stb (fun v u => lexS (k v) (k u)) out vs → (∀ b o, s.heap.get? b = some o → h'.get? b = some o) → s.heap.objs.size ≤ d → (∃ n, h'.get? d = some (seqObj "list" out.toArray n)) → Q (.ref d) { s with heap := h' }) :
    wpAny (model prog w) A (call (.builtin "sorted") [.ref l]) Q E s := by
  refine sorted_ord (swo_lexS k) hl hz (fun h2 h₁ a ha kk => ?_) fun out hs hb => ?_
  · refine si_sortable (s := { s with heap := h₁ }) (by omega) (fun v hm => (hp v hm).keeps fun b o e _ => (kk b o e).2) fun o e => ?_
    have e' : some o = some (seqObj "list" vs.toArray 0) := e.symm.trans ha
    cases e'
    intro c
    exact absurd (Value.type.inj c) (by decide)
  · exact h _ _ out hs hb (fun b o e => sortedAll_old e) (Nat.le_succ _) (sortedAll_at s.heap vs out.toArray)
end
/-- insertion -/
def ins {α : Type} (lt : α → α → Bool) (x : α) : List α → List α
  | [] => [x]
  | y :: l => if lt x y = true then x :: y :: l else y :: ins lt x l
def isort {α : Type} (lt : α → α → Bool) : List α → List α
  | [] => []
  | x :: l => ins lt x (isort lt l)
theorem ins_perm {α : Type} {lt : α → α → Bool} {x : α} : ∀ l : List α, (ins lt x l).Perm (x :: l)
  | [] => .refl _
  | y :: l => by
    unfold ins
    by_cases h : lt x y = true
    · rw [if_pos h]
    · rw [if_neg h]
      exact ((ins_perm l).cons y).trans (.swap ..)
theorem isort_perm {α : Type} {lt : α → α → Bool} : ∀ l : List α, (isort lt l).Perm l
  | [] => .refl _
  | x :: l => (ins_perm _).trans ((isort_perm l).cons x)
theorem ins_srtd {α : Type} {lt : α → α → Bool} (O : Swo lt) {x : α} : ∀ {l : List α}, Srtd lt l → Srtd lt (ins lt x l)
  | [], _ => srtd_one x
  | y :: l, h => by
    unfold ins
    by_cases q : lt x y = true
    · rw [if_pos q]
      exact List.pairwise_cons.mpr ⟨fun z hz => O.asym _ _ (O.lt_all h q z hz), h⟩
    · rw [if_neg q]
      have hq : lt x y = false := by cases e : lt x y; rfl; exact absurd e q
      refine List.pairwise_cons.mpr ⟨fun z hz => ?_, ins_srtd O (List.pairwise_cons.mp h).2⟩
      rcases List.mem_cons.mp ((ins_perm l).mem_iff.mp hz) with e | hz
      · rw [e]; exact hq
      · exact srtd_head h z hz
theorem isort_srtd {α : Type} {lt : α → α → Bool} (O : Swo lt) : ∀ l : List α, Srtd lt (isort lt l)
  | [] => List.Pairwise.nil
  | x :: l => ins_srtd O (isort_srtd O l)
theorem perm_uniq {α : Type} {lt : α → α → Bool} (O : Swo lt) (tri : ∀ x y, lt x y = false → lt y x = false → x = y) : ∀ {l m : List α}, Srtd lt l → Srtd lt m → l.Perm m → l = m
  | [], m, _, _, h => (List.Perm.eq_nil h.symm).symm
  | x :: l, [], _, _, h => absurd h.length_eq (by simp)
  | x :: l, y :: m, hl, hm, h => by
    have h1 : lt x y = false := by
      rcases List.mem_cons.mp (h.mem_iff.mp (List.mem_cons_self (a := x) (l := l))) with e | hx
      · rw [e]; exact O.refl y
      · exact srtd_head hm x hx
    have h2 : lt y x = false := by
      rcases List.mem_cons.mp (h.mem_iff.mpr (List.mem_cons_self (a := y) (l := m))) with e | hy
      · rw [e]; exact O.refl x
      · exact srtd_head hl y hy
    have e := tri x y h1 h2
    subst e
    rw [perm_uniq O tri (List.pairwise_cons.mp hl).2 (List.pairwise_cons.mp hm).2 h.cons_inv]
end SrtQ
namespace DL
open PySem PySem.Spec PyProof.Rows L2
variable [TabCtx]
/-- sorted of pairs of a text and an int -/
def rSortSI (K : KW) : List L2.V → Hp → VK → Prop := fun vs H Q => ∃ (a : Addr) (xs : List L2.V) (k : L2.V → Str × Int), vs = [V.ref a] ∧ SqL K H a xs ∧ (∀ x ∈ xs, ∃ t, x = V.ref t ∧ SqT K H t [.str (k x).1, .int (k x).2]) ∧
  ∀ ys p, SrtO.Srtd (fun x y => SrtQ.lexS (k x) (k y)) ys → ys.Perm xs → H p = none → Q (.ref p) (upd H p (.lst ys))
theorem cr_sortSI {X : Cx} : CallR X (.builtin "sorted") (rSortSI X.kw) := by
  intro pins s σ H vs us Q I r h
  obtain ⟨a, xs, k, rfl, hs, hx, q⟩ := h
  obtain ⟨its, rv, hl, hz⟩ := I.list hs
  obtain ⟨u, rfl, ru⟩ := vals1 r
  obtain rfl : u = Value.ref a := ru
  obtain ⟨e1, e2⟩ := refs_back rv fun x m => by
    obtain ⟨t, e, _⟩ := hx x m
    exact ⟨t, e⟩
  refine SrtQ.sorted_si (k := fun u => k (backV u)) hl.isList (by rw [← rv.length]; exact hz) (fun v hv => ?_) fun h' d out h1 h2 kp hd hn => ?_
  · obtain ⟨t, rfl⟩ := e2 v hv
    have hm : V.ref t ∈ xs := by rw [e1]; exact List.mem_map.mpr ⟨_, hv, rfl⟩
    obtain ⟨t', e, ht⟩ := hx _ hm
    cases e
    obtain ⟨its2, r2, ⟨o, ho, hc, n, hd⟩, _⟩ := I.tuple ht
    obtain ⟨u1, u2, rfl, ri, rj⟩ := vals2 r2
    obtain ⟨t1, rfl⟩ := ri
    obtain ⟨t2, rfl⟩ := rj
    exact ⟨t, o, t1, t2, n, rfl, ho, hc, hd⟩
  · have h3 : ∀ u ∈ out, ∃ a, u = Value.ref a := fun u hu => e2 u (h2.perm.mem_iff.mp hu)
    obtain ⟨n, hn⟩ := hn
    have hb : (out.map backV).Perm xs := by
      rw [e1]
      exact h2.perm.map backV
    refine ⟨.ref d, upd H d (.lst (out.map backV)), I.laid (t' := s.toks) kp hd ⟨?_, out, n, vals_back h3, hn⟩, rfl, q _ d (List.pairwise_map.mpr h1) hb (I.hok.fresh hd)⟩
    rw [hb.length_eq]
    exact hz
def rSortST (K : KW) : List L2.V → Hp → VK → Prop := fun vs H Q => ∃ (a : Addr) (xs : List L2.V) (k : L2.V → Str × Int), vs = [V.ref a] ∧ SqT K H a xs ∧ (∀ x ∈ xs, ∃ t, x = V.ref t ∧ SqT K H t [.str (k x).1, .int (k x).2]) ∧
  ∀ ys p, SrtO.Srtd (fun x y => SrtQ.lexS (k x) (k y)) ys → ys.Perm xs → H p = none → Q (.ref p) (upd H p (.lst ys))
theorem cr_sortST {X : Cx} : CallR X (.builtin "sorted") (rSortST X.kw) := by
  intro pins s σ H vs us Q I r h
  obtain ⟨a, xs, k, rfl, hs, hx, q⟩ := h
  obtain ⟨its, rv, ⟨o0, ho0, hc0, n0, hd0⟩, hz⟩ := I.tuple hs
  obtain ⟨u, rfl, ru⟩ := vals1 r
  obtain rfl : u = Value.ref a := ru
  obtain ⟨e1, e2⟩ := refs_back rv fun x m => by
    obtain ⟨t, e, _⟩ := hx x m
    exact ⟨t, e⟩
  refine SrtQ.sorted_sq (k := fun u => k (backV u)) (.inr rfl) ho0 hc0 hd0 (by rw [← rv.length]; exact hz) (fun v hv => ?_) fun h0 h' d out kp0 h1 h2 kp hd hn => ?_
  · obtain ⟨t, rfl⟩ := e2 v hv
    have hm : V.ref t ∈ xs := by rw [e1]; exact List.mem_map.mpr ⟨_, hv, rfl⟩
    obtain ⟨t', e, ht⟩ := hx _ hm
    cases e
    obtain ⟨its2, r2, ⟨o, ho, hc, n, hd⟩, _⟩ := I.tuple ht
    obtain ⟨u1, u2, rfl, ri, rj⟩ := vals2 r2
    obtain ⟨t1, rfl⟩ := ri
    obtain ⟨t2, rfl⟩ := rj
    exact ⟨t, o, t1, t2, n, rfl, ho, hc, hd⟩
  · have h3 : ∀ u ∈ out, ∃ a, u = Value.ref a := fun u hu => e2 u (h2.perm.mem_iff.mp hu)
    obtain ⟨n, hn⟩ := hn
    have hb : (out.map backV).Perm xs := by
      rw [e1]
      exact h2.perm.map backV
    have I0 : Inv X pins σ H { s with heap := h0, toks := s.toks } := I.kept kp0
    refine ⟨.ref d, upd H d (.lst (out.map backV)), I0.laid (t' := s.toks) kp hd ⟨?_, out, n, vals_back h3, hn⟩, rfl, q _ d (List.pairwise_map.mpr h1) hb (I0.hok.fresh hd)⟩
    rw [hb.length_eq]
    exact hz
def rSortAll (K : KW) : List L2.V → Hp → VK → Prop := fun vs H Q => rSortSI K vs H Q ∨ rSortST K vs H Q
theorem cr_sortAll {X : Cx} : CallR X (.builtin "sorted") (rSortAll X.kw) := by
  intro pins s σ H vs us Q I r h
  rcases h with h | h
  · exact cr_sortSI pins s σ H vs us Q I r h
  · exact cr_sortST pins s σ H vs us Q I r h
def siOf : PyData → Option (Str × Int)
  | .tuple [.str x, .int i] => some (x, i)
  | _ => none
def siD (p : Str × Int) : PyData := .tuple [.str p.1, .int p.2]
def gSorted : List PyData → Option PyData
  | [.list ds] => (ds.mapM siOf).map fun ks => .list ((SrtQ.isort SrtQ.lexS ks).map siD)
  | [.tuple ds] => (ds.mapM siOf).map fun ks => .list ((SrtQ.isort SrtQ.lexS ks).map siD)
  | _ => none
theorem siOf_some {d : PyData} {p : Str × Int} (h : siOf d = some p) : d = siD p := by
  unfold siOf at h
  split at h
  · cases h; rfl
  · cases h
theorem mapM_si : ∀ {ds : List PyData} {ks : List (Str × Int)}, ds.mapM siOf = some ks → ds = ks.map siD
  | [], ks, h => by simp at h; subst h; rfl
  | d :: ds, ks, h => by
    rw [List.mapM_cons] at h
    cases e : siOf d with
    | none => rw [e] at h; cases h
    | some p =>
      rw [e] at h
      cases e2 : ds.mapM siOf with
      | none => rw [e2] at h; cases h
      | some r =>
        rw [e2] at h
        have h : some (p :: r) = some ks := h
        cases h
        rw [siOf_some e, mapM_si e2]
        rfl
theorem rep_si {K : KW} {V : Hp} {x : L2.V} {p : Str × Int} (h : Rep K V x (siD p)) : ∃ t, x = .ref t ∧ V t = some (.tup [.str p.1, .int p.2]) := by
  cases h with
  | @tup a xs ds ha ra =>
    refine ⟨a, rfl, ?_⟩
    cases ra with
    | cons r1 r2 =>
      cases r2 with
      | cons r2 r3 =>
        cases r3
        cases r1
        cases r2
        exact ha
theorem siD_inj {p q : Str × Int} (h : siD p = siD q) : p = q := by
  unfold siD at h
  injection h with h
  injection h with h1 h2
  injection h1 with h1
  injection h2 with h2
  injection h2 with h2
  exact Prod.ext h1 h2
theorem rep_si_inj {K : KW} {V : Hp} {x : L2.V} {p q : Str × Int} (h : Rep K V x (siD p)) (h' : Rep K V x (siD q)) : p = q := by
  obtain ⟨t, e1, e2⟩ := rep_si h
  obtain ⟨t', e3, e4⟩ := rep_si h'
  rw [e1] at e3
  cases e3
  rw [e2] at e4
  injection e4 with e4
  injection e4 with e4
  injection e4 with e5 e6
  injection e5 with e5
  injection e6 with e6
  injection e6 with e6
  exact Prod.ext e5 e6
theorem repL_mem {K : KW} {V : Hp} : ∀ {ys : List L2.V} {ks : List (Str × Int)}, RepL K V ys (ks.map siD) → ∀ y ∈ ys, ∃ p, Rep K V y (siD p)
  | [], _, _, _, hy => by cases hy
  | y :: ys, [], h, _, _ => by cases h
  | y :: ys, p :: ks, h, z, hz => by
    cases h with
    | cons r1 r2 =>
      rcases List.mem_cons.mp hz with e | hz
      · rw [e]; exact ⟨p, r1⟩
      · exact repL_mem r2 z hz
theorem repL_keys {K : KW} {V : Hp} {k : L2.V → Str × Int} : ∀ {ys : List L2.V} {ks : List (Str × Int)}, RepL K V ys (ks.map siD) → (∀ y ∈ ys, ∀ p, Rep K V y (siD p) → k y = p) → ys.map k = ks
  | [], [], _, _ => rfl
  | [], _ :: _, h, _ => by cases h
  | _ :: _, [], h, _ => by cases h
  | y :: ys, p :: ks, h, hk => by
    cases h with
    | cons r1 r2 => rw [List.map_cons, hk y List.mem_cons_self p r1, repL_keys r2 fun z hz => hk z (List.mem_cons_of_mem _ hz)]
theorem keys_repL {K : KW} {V : Hp} {k : L2.V → Str × Int} : ∀ {ys : List L2.V}, (∀ y ∈ ys, Rep K V y (siD (k y))) → RepL K V ys ((ys.map k).map siD)
  | [], _ => .nil
  | y :: ys, h => .cons (h y List.mem_cons_self) (keys_repL fun z hz => h z (List.mem_cons_of_mem _ hz))
open Classical in
theorem siKey (K : KW) (V : Hp) : ∃ k : L2.V → Str × Int, ∀ v p, Rep K V v (siD p) → k v = p :=
  ⟨fun v => if h : ∃ p, Rep K V v (siD p) then Classical.choose h else (Str.empty, 0), fun v p h => by
    have hex : ∃ p, Rep K V v (siD p) := ⟨p, h⟩
    show (if h : ∃ p, Rep K V v (siD p) then Classical.choose h else (Str.empty, 0)) = p
    rw [dif_pos hex]
    exact rep_si_inj (Classical.choose_spec hex) h⟩
theorem cd_sorted {K : KW} : CallD K (rSortAll K) gSorted := by
  intro xs ds z H V Q s r e q
  cases r with
  | nil => cases e
  | cons r1 r2 =>
    cases r2 with
    | cons _ _ => cases r1 <;> cases e
    | nil =>
      cases r1 with
      | @lst a ys es ha ra =>
        have e : (es.mapM siOf).map (fun ks => PyData.list ((SrtQ.isort SrtQ.lexS ks).map siD)) = some z := e
        obtain ⟨ks, hk, rfl⟩ := Option.map_eq_some_iff.mp e
        have he := mapM_si hk
        subst he
        obtain ⟨k, kk⟩ := siKey K V
        have km : ∀ y ∈ ys, Rep K V y (siD (k y)) := fun y hy => by
          obtain ⟨p, hp⟩ := repL_mem ra y hy
          rw [kk y p hp]
          exact hp
        refine Or.inl ⟨a, ys, k, rfl, .inl (.inl (s _ _ ha)), fun y hy => ?_, fun out p h1 h2 hp => ?_⟩
        · obtain ⟨t, e1, e2⟩ := rep_si (km y hy)
          exact ⟨t, e1, .inl (.inl (s _ _ e2))⟩
        · have e1 : out.map k = SrtQ.isort SrtQ.lexS ks := by
            refine SrtQ.perm_uniq SrtQ.swo_lexS' (fun x y => SrtQ.lexS_tri) (List.pairwise_map.mpr h1) (SrtQ.isort_srtd SrtQ.swo_lexS' ks) ?_
            rw [← repL_keys (k := k) ra fun y _ p h => kk y p h]
            exact (h2.map k).trans (SrtQ.isort_perm _).symm
          rw [← e1] at q
          exact q _ _ _ (Ext.new s hp) (new_lst s hp (keys_repL fun y hy => km y (h2.mem_iff.mp hy)))
      | @tup a ys es ha ra =>
        have e : (es.mapM siOf).map (fun ks => PyData.list ((SrtQ.isort SrtQ.lexS ks).map siD)) = some z := e
        obtain ⟨ks, hk, rfl⟩ := Option.map_eq_some_iff.mp e
        have he := mapM_si hk
        subst he
        obtain ⟨k, kk⟩ := siKey K V
        have km : ∀ y ∈ ys, Rep K V y (siD (k y)) := fun y hy => by
          obtain ⟨p, hp⟩ := repL_mem ra y hy
          rw [kk y p hp]
          exact hp
        refine Or.inr ⟨a, ys, k, rfl, sqt s ha, fun y hy => ?_, fun out p h1 h2 hp => ?_⟩
        · obtain ⟨t, e1, e2⟩ := rep_si (km y hy)
          exact ⟨t, e1, .inl (.inl (s _ _ e2))⟩
        · have e1 : out.map k = SrtQ.isort SrtQ.lexS ks := by
            refine SrtQ.perm_uniq SrtQ.swo_lexS' (fun x y => SrtQ.lexS_tri) (List.pairwise_map.mpr h1) (SrtQ.isort_srtd SrtQ.swo_lexS' ks) ?_
            rw [← repL_keys (k := k) ra fun y _ p h => kk y p h]
            exact (h2.map k).trans (SrtQ.isort_perm _).symm
          rw [← e1] at q
          exact q _ _ _ (Ext.new s hp) (new_lst s hp (keys_repL fun y hy => km y (h2.mem_iff.mp hy)))
      | _ => cases e
def flatLt : PyData → PyData → Option Bool
  | .int i, .int j => some (decide (i < j))
  | .str x, .str y => some (SrtQ.ltS x y)
  | _, _ => none
/-- lexical order of tuples of flat data -/
def lexD : List PyData → List PyData → Option Bool
  | [], [] => some false
  | [], _ :: _ => some true
  | _ :: _, [] => some false
  | x :: xs, y :: ys => (flatLt x y).bind fun b => (lexD xs ys).map fun c => if PyData.eqv x y = true then c else b
def gLt : PyData → PyData → Option PyData
  | .tuple xs, .tuple ys => (lexD xs ys).map .bool
  | x, y => (flatLt x y).map .bool
end DL
namespace DL
open PySem PySem.Spec PyProof.Rows L2
variable [TabCtx]
def fltV : L2.V → L2.V → Option Bool
  | .int i, .int j => some (decide (i < j))
  | .str x, .str y => some (SrtQ.ltS x y)
  | _, _ => none
def lexV : List L2.V → List L2.V → Option Bool
  | [], [] => some false
  | [], _ :: _ => some true
  | _ :: _, [] => some false
  | x :: xs, y :: ys => (fltV x y).bind fun b => (lexV xs ys).map fun c => if eqV x y = true then c else b
theorem lexV_cons {x y : L2.V} {xs ys : List L2.V} {b : Bool} (h : lexV (x :: xs) (y :: ys) = some b) : ∃ c d, fltV x y = some c ∧ lexV xs ys = some d ∧ b = if eqV x y = true then d else c := by
  have h : (fltV x y).bind (fun b => (lexV xs ys).map fun c => if eqV x y = true then c else b) = some b := h
  cases e1 : fltV x y with
  | none => rw [e1] at h; cases h
  | some c =>
    rw [e1] at h
    cases e2 : lexV xs ys with
    | none => rw [e2] at h; cases h
    | some d => rw [e2] at h; exact ⟨c, d, rfl, rfl, (Option.some.inj h).symm⟩
theorem lexV_flat : ∀ {xs ys : List L2.V} {b : Bool}, lexV xs ys = some b → ∀ (j : Nat) (x y : L2.V), xs[j]? = some x → ys[j]? = some y → ∃ c, fltV x y = some c
  | [], _, _, _, j, x, y, h1, _ => by simp at h1
  | _ :: _, [], _, _, j, x, y, _, h2 => by simp at h2
  | x :: xs, y :: ys, b, h, 0, u, v, h1, h2 => by
    cases h1; cases h2
    obtain ⟨c, d, e, _⟩ := lexV_cons h
    exact ⟨c, e⟩
  | x :: xs, y :: ys, b, h, j + 1, u, v, h1, h2 => by
    obtain ⟨c, d, _, e, _⟩ := lexV_cons h
    exact lexV_flat e j u v (by simpa using h1) (by simpa using h2)
theorem lexV_at {e r : Nat → Bool} {z : Bool} : ∀ {xs ys : List L2.V} {b : Bool} (i : Nat), lexV xs ys = some b → z = decide (xs.length < ys.length) → (∀ (j : Nat) (x y : L2.V), xs[j]? = some x → ys[j]? = some y → e (i + j) = eqV x y ∧ r (i + j) = (fltV x y).getD false) →
    Ob.lexAt e r z i (min xs.length ys.length) = b
  | [], [], b, i, h, hz, _ => by cases h; rw [hz]; rfl
  | [], _ :: _, b, i, h, hz, _ => by cases h; rw [hz]; simp [Ob.lexAt_zero]
  | _ :: _, [], b, i, h, hz, _ => by cases h; rw [hz]; simp [Ob.lexAt_zero]
  | x :: xs, y :: ys, b, i, h, hz, ht => by
    obtain ⟨c, d, h1, h2, rfl⟩ := lexV_cons h
    have m : min (x :: xs).length (y :: ys).length = min xs.length ys.length + 1 := by simp only [List.length_cons]; omega
    rw [m, Ob.lexAt_succ]
    obtain ⟨t1, t2⟩ := ht 0 x y rfl rfl
    rw [Nat.add_zero] at t1 t2
    rw [t1, t2, h1]
    by_cases q : eqV x y = true
    · rw [if_pos q, if_pos q]
      refine lexV_at (i + 1) h2 (by rw [hz]; simp) fun j u v hu hv => ?_
      have := ht (j + 1) u v (by simpa using hu) (by simpa using hv)
      rw [show i + 1 + j = i + (j + 1) by omega]
      exact this
    · rw [if_neg q, if_neg q]; rfl
theorem fltV_flat {x y : L2.V} {c : Bool} (h : fltV x y = some c) : flatV x = true ∧ flatV y = true := by
  cases x <;> cases y <;> first | exact ⟨rfl, rfl⟩ | cases h
theorem rc_flt {A : Around} {s : Shared} {x y : L2.V} {u v : Value} {c : Bool} (rx : RelV x u) (ry : RelV y v) (h : fltV x y = some c) : Ob.RcOp .Lt A s u v c := by
  cases x with
  | int i =>
    cases y with
    | int j =>
      cases h
      obtain ⟨t, rfl⟩ := rx
      obtain ⟨t', rfl⟩ := ry
      exact Ob.RcOp.lt_int _ _ _ _
    | _ => cases h
  | str i =>
    cases y with
    | str j =>
      cases h
      obtain ⟨t, rfl⟩ := rx
      obtain ⟨t', rfl⟩ := ry
      exact fun _ _ _ _ h => lt_str h
    | _ => cases h
  | _ => cases h
def rLtTD (K : KW) : R2 := fun x y H Q => ∃ (a b : Addr) (xs ys : List L2.V) (c : Bool), x = .ref a ∧ y = .ref b ∧ SqT K H a xs ∧ SqT K H b ys ∧ lexV xs ys = some c ∧ Q (.bl c) H
theorem op_ltTD {X : Cx} (hu : X.A.units < cLine) : OpR X (compareOp .Lt) (rLtTD X.kw) := by
  intro pins s σ H x y v u Q I rx ry h
  obtain ⟨a, b, xs, ys, c, rfl, rfl, ha, hb, hl, q⟩ := h
  cases rx
  cases ry
  obtain ⟨its, r1, p1, _⟩ := I.tuple ha
  obtain ⟨its2, r2, p2, _⟩ := I.tuple hb
  have at1 : ∀ j (h1 : j < its.toArray.size), ∃ x, xs[j]? = some x ∧ RelV x its.toArray[j] := fun j h1 => by
    have h1' : j < xs.length := by rw [r1.length]; simpa using h1
    obtain ⟨u, e1, e2⟩ := r1.get (List.getElem?_eq_getElem h1')
    have e3 : its.toArray[j] = u := by
      have : its[j]? = some its.toArray[j] := by simp
      rw [e1] at this
      exact (Option.some.inj this).symm
    exact ⟨_, List.getElem?_eq_getElem h1', by rw [e3]; exact e2⟩
  have at2 : ∀ j (h1 : j < its2.toArray.size), ∃ x, ys[j]? = some x ∧ RelV x its2.toArray[j] := fun j h1 => by
    have h1' : j < ys.length := by rw [r2.length]; simpa using h1
    obtain ⟨u, e1, e2⟩ := r2.get (List.getElem?_eq_getElem h1')
    have e3 : its2.toArray[j] = u := by
      have : its2[j]? = some its2.toArray[j] := by simp
      rw [e1] at this
      exact (Option.some.inj this).symm
    exact ⟨_, List.getElem?_eq_getElem h1', by rw [e3]; exact e2⟩
  have e1 : its.toArray.size = xs.length := by rw [List.size_toArray]; exact r1.length.symm
  have e2 : its2.toArray.size = ys.length := by rw [List.size_toArray]; exact r2.length.symm
  have R := Ob.RcOp.tuples_lt (A := X.A) (s := s) (e := fun j => eqV (xs.getD j .non) (ys.getD j .non)) (r := fun j => (fltV (xs.getD j .non) (ys.getD j .non)).getD false) p1 p2 hu (fun j h1 h2 => by
    obtain ⟨x, g1, r1⟩ := at1 j h1
    obtain ⟨y, g2, r2⟩ := at2 j h2
    obtain ⟨c, hc⟩ := lexV_flat hl j x y g1 g2
    obtain ⟨f1, f2⟩ := fltV_flat hc
    show SeqAt.EqAt _ _ _ _ (eqV (xs.getD j .non) (ys.getD j .non))
    rw [List.getD_eq_getElem?_getD, List.getD_eq_getElem?_getD, g1, g2]
    exact eqAt_V r1 r2 f1 f2) (fun j h1 h2 _ => by
    obtain ⟨x, g1, r1⟩ := at1 j h1
    obtain ⟨y, g2, r2⟩ := at2 j h2
    obtain ⟨c, hc⟩ := lexV_flat hl j x y g1 g2
    show Ob.RcOp .Lt _ _ _ _ ((fltV (xs.getD j .non) (ys.getD j .non)).getD false)
    rw [List.getD_eq_getElem?_getD, List.getD_eq_getElem?_getD, g1, g2]
    show Ob.RcOp .Lt _ _ _ _ ((fltV x y).getD false)
    rw [hc]
    exact rc_flt r1 r2 hc)
  rw [e1, e2, lexV_at 0 hl rfl (fun j x y h1 h2 => by
    rw [Nat.zero_add, List.getD_eq_getElem?_getD, List.getD_eq_getElem?_getD, h1, h2]
    exact ⟨rfl, rfl⟩)] at R
  have z : wpAny (model X.prog X.w) X.A (compareOp .Lt (.ref a) (.ref b)) (EP X pins σ Q) X.xe s := R X.prog X.w X.xe (EP X pins σ Q) ⟨.bl _, H, I, rfl, q⟩
  exact z
def rLtAll (K : KW) : R2 := fun x y H Q => (rI0 fun i j => .bl (decide (i < j))) x y H Q ∨ ((∃ i j, x = .str i ∧ y = .str j ∧ Q (.bl (decide (i.cps.toList < j.cps.toList))) H) ∨ rLtTD K x y H Q)
theorem op_ltAll {X : Cx} (hu : X.A.units < cLine) : OpR X (compareOp .Lt) (rLtAll X.kw) := op_lt.or (op_lt_str.or (op_ltTD hu))
theorem flt_rep {K : KW} {V : Hp} {x y : L2.V} {dx dy : PyData} {b : Bool} (rx : Rep K V x dx) (ry : Rep K V y dy) (h : flatLt dx dy = some b) : fltV x y = some b ∧ eqV x y = PyData.eqv dx dy := by
  cases rx with
  | int i => cases ry with
    | int j => exact ⟨h, by rw [PyData.eqv]; rfl⟩
    | _ => cases h
  | str i => cases ry with
    | str j => exact ⟨h, by rw [PyData.eqv]; rfl⟩
    | _ => cases h
  | _ => cases ry <;> cases h
theorem lex_rep {K : KW} {V : Hp} : ∀ {xs ys : List L2.V} {ds es : List PyData} {b : Bool}, RepL K V xs ds → RepL K V ys es → lexD ds es = some b → lexV xs ys = some b
  | _, _, _, _, _, .nil, .nil, h => h
  | _, _, _, _, _, .nil, .cons _ _, h => h
  | _, _, _, _, _, .cons _ _, .nil, h => h
  | _, _, _, _, b, @RepL.cons _ _ x xs dx ds rx r1, @RepL.cons _ _ y ys dy es ry r2, h => by
    have h : (flatLt dx dy).bind (fun b => (lexD ds es).map fun c => if PyData.eqv dx dy = true then c else b) = some b := h
    cases e1 : flatLt dx dy with
    | none => rw [e1] at h; cases h
    | some c =>
      rw [e1] at h
      cases e2 : lexD ds es with
      | none => rw [e2] at h; cases h
      | some d =>
        rw [e2] at h
        obtain ⟨f1, f2⟩ := flt_rep rx ry e1
        show (fltV x y).bind (fun b => (lexV xs ys).map fun c => if eqV x y = true then c else b) = some b
        rw [f1, lex_rep r1 r2 e2, f2]
        exact h
theorem od_lt {K : KW} : OpD K (rLtAll K) gLt := by
  intro x y dx dy z H V Q s rx ry e q
  cases rx with
  | int i => cases ry with
    | int j => cases e; exact .inl ⟨i, j, rfl, rfl, q _ _ _ (Ext.refl s) (.bl _)⟩
    | _ => cases e
  | str i => cases ry with
    | str j => cases e; exact .inr (.inl ⟨i, j, rfl, rfl, q _ _ _ (Ext.refl s) (.bl _)⟩)
    | _ => cases e
  | @tup a xs ds ha ra => cases ry with
    | @tup b ys es hb rb =>
      have e : (lexD ds es).map PyData.bool = some z := e
      obtain ⟨c, hc, rfl⟩ := Option.map_eq_some_iff.mp e
      exact .inr (.inr ⟨a, b, xs, ys, c, rfl, rfl, sqt s ha, sqt s hb, lex_rep ra rb hc, q _ _ _ (Ext.refl s) (.bl _)⟩)
    | _ => cases e
  | _ => cases ry <;> cases e
end DL
set_option Elab.async false
set_option linter.all false
set_option maxRecDepth 100000
set_option maxHeartbeats 1000000
namespace PySem
open Sem (wp)
end PySem
namespace DL
open PySem PySem.Spec PyProof.Rows L2
variable [TabCtx]
def boolsD : List PyData → Option (List Bool)
  | [] => some []
  | .bool b :: ds => (boolsD ds).map fun bs => b :: bs
  | _ :: _ => none
theorem bools_rep {K : KW} {V : Hp} : ∀ {xs : List L2.V} {ds : List PyData} {bs : List Bool}, RepL K V xs ds → boolsD ds = some bs → xs = bs.map L2.V.bl
  | _, _, _, .nil, h => by cases h; rfl
  | _, _, bs, @RepL.cons _ _ x xs d ds r t, h => by
    cases r with
    | bl b =>
      have h : (boolsD ds).map (fun bs => b :: bs) = some bs := h
      obtain ⟨cs, h1, rfl⟩ := Option.map_eq_some_iff.mp h
      rw [bools_rep t h1]
      rfl
    | _ => cases h
def gAll : List PyData → Option PyData
  | [.list ds] => (boolsD ds).map fun bs => .bool (bs.all id)
  | _ => none
theorem cd_all {K : KW} : CallD K (rAll K) gAll := by
  intro xs ds z H V Q s r e q
  cases r with
  | nil => cases e
  | cons r1 r2 =>
    cases r2 with
    | cons _ _ => cases r1 <;> cases e
    | nil =>
      cases r1 with
      | @lst a ys es ha ra =>
        have e : (boolsD es).map (fun bs => PyData.bool (bs.all id)) = some z := e
        obtain ⟨bs, hb, rfl⟩ := Option.map_eq_some_iff.mp e
        have hy := bools_rep ra hb
        subst hy
        exact ⟨a, bs, rfl, .inl (.inl (s _ _ ha)), q _ _ _ (Ext.refl s) (.bl _)⟩
      | _ => cases e
def gTuple : List PyData → Option PyData
  | [.list ds] => some (.tuple ds)
  | [.tuple ds] => some (.tuple ds)
  | _ => none
theorem cd_tuple {K : KW} : CallD K (fun xs H Q => ∃ p ys, xs = [.ref p] ∧ ((SqL K H p ys ∧ ∀ l, H l = none → Q (.ref l) (upd H l (.tup ys))) ∨ (SqT K H p ys ∧ Q (.ref p) H))) gTuple := by
  intro xs ds z H V Q s r e q
  cases r with
  | nil => cases e
  | cons r1 r2 =>
    cases r2 with
    | cons _ _ => cases r1 <;> cases e
    | nil =>
      cases r1 with
      | @lst a ys es ha ra => cases e; exact ⟨a, ys, rfl, .inl ⟨.inl (.inl (s _ _ ha)), fun p hp => q _ _ _ (Ext.new s hp) (new_tup s hp ra)⟩⟩
      | @tup a ys es ha ra => cases e; exact ⟨a, ys, rfl, .inr ⟨sqt s ha, q _ _ _ (Ext.refl s) (.tup ha ra)⟩⟩
      | _ => cases e
def gList : List PyData → Option PyData
  | [.list ds] => some (.list ds)
  | [.tuple ds] => some (.list ds)
  | _ => none
theorem cd_list {K : KW} : CallD K (fun xs H Q => ∃ p ys, xs = [.ref p] ∧ (SqL K H p ys ∨ SqT K H p ys) ∧ ∀ l, H l = none → Q (.ref l) (upd H l (.lst ys))) gList := by
  intro xs ds z H V Q s r e q
  cases r with
  | nil => cases e
  | cons r1 r2 =>
    cases r2 with
    | cons _ _ => cases r1 <;> cases e
    | nil =>
      cases r1 with
      | @lst a ys es ha ra => cases e; exact ⟨a, ys, rfl, .inl (.inl (.inl (s _ _ ha))), fun p hp => q _ _ _ (Ext.new s hp) (new_lst s hp ra)⟩
      | @tup a ys es ha ra => cases e; exact ⟨a, ys, rfl, .inr (sqt s ha), fun p hp => q _ _ _ (Ext.new s hp) (new_lst s hp ra)⟩
      | _ => cases e
def intsD : List PyData → Option (List Int)
  | [] => some []
  | .int b :: ds => (intsD ds).map fun bs => b :: bs
  | _ :: _ => none
theorem ints_rep {K : KW} {V : Hp} : ∀ {xs : List L2.V} {ds : List PyData} {bs : List Int}, RepL K V xs ds → intsD ds = some bs → xs = bs.map L2.V.int
  | _, _, _, .nil, h => by cases h; rfl
  | _, _, bs, @RepL.cons _ _ x xs d ds r t, h => by
    cases r with
    | int b =>
      have h : (intsD ds).map (fun bs => b :: bs) = some bs := h
      obtain ⟨cs, h1, rfl⟩ := Option.map_eq_some_iff.mp h
      rw [ints_rep t h1]
      rfl
    | _ => cases h
def gSum : List PyData → Option PyData
  | [.list ds] => (intsD ds).map fun bs => .int bs.sum
  | _ => none
theorem cd_sum {K : KW} : CallD K (rSum K) gSum := by
  intro xs ds z H V Q s r e q
  cases r with
  | nil => cases e
  | cons r1 r2 =>
    cases r2 with
    | cons _ _ => cases r1 <;> cases e
    | nil =>
      cases r1 with
      | @lst a ys es ha ra =>
        have e : (intsD es).map (fun bs => PyData.int bs.sum) = some z := e
        obtain ⟨bs, hb, rfl⟩ := Option.map_eq_some_iff.mp e
        have hy := ints_rep ra hb
        subst hy
        exact ⟨a, bs, rfl, .inl (.inl (s _ _ ha)), q _ _ _ (Ext.refl s) (.int _)⟩
      | _ => cases e
end DL
set_option Elab.async false
set_option linter.all false
set_option maxRecDepth 100000
set_option maxHeartbeats 1000000
namespace DL
open PySem PySem.Spec PyProof.Rows L2
variable [TabCtx]
def tyD : PyData → String
  | .none => "NoneType"
  | .bool _ => "bool"
  | .int _ => "int"
  | .str _ => "str"
  | .list _ => "list"
  | .tuple _ => "tuple"
  | .dict _ => "dict"
/-- a value's type; a dict by tuples besides -/
def TyY (K : KW) (H : Hp) (x : L2.V) (t : Value) : Prop := TyX K H x t ∨ ∃ a xs ep, x = .ref a ∧ H a = some (dX K.w a xs ep) ∧ t = .type "dict"
theorem ty_rep {K : KW} {V H : Hp} {x : L2.V} {d : PyData} (s : Same V H) (r : Rep K V x d) : TyY K H x (.type (tyD d)) := by
  cases r with
  | non => exact .inl (.base .non)
  | bl b => exact .inl (.base (.bl b))
  | int i => exact .inl (.base (.int i))
  | str x => exact .inl (.base (.str x))
  | lst h _ => exact .inl (.base (.lst (s _ _ h)))
  | tup h _ => exact .inl (.base (.tup (s _ _ h)))
  | dk h _ => exact h.elim (fun h => .inl (.base (.dK (s _ _ h)))) fun ⟨o, h⟩ => .inl (.fDict (s _ _ h))
  | dt h _ => exact .inr ⟨_, _, _, rfl, s _ _ h, rfl⟩
def rIsiY (K : KW) : List L2.V → Hp → VK → Prop := fun xs H Q => ∃ x c t u b, xs = [x, c] ∧ ClsV c u ∧ TyY K H x t ∧ PySem.W.kitOne K t u = some b ∧ Q (.bl b) H
theorem call_isiY {X : Cx} : CallR X (.builtin "isinstance") (rIsiY X.kw) := by
  intro pins s σ H xs us Q I r h
  obtain ⟨x, c, t, u, b, rfl, k, ty, e, q⟩ := h
  rcases ty with ty | ⟨a, ys, ep, rfl, hx, rfl⟩
  · exact call_isi pins s σ H _ us Q I r ⟨x, c, t, u, b, rfl, k, ty, e, q⟩
  · cases r with
    | cons r1 r =>
      cases r with
      | cons r2 r =>
        cases r
        have e2 := k.eq r2
        subst e2
        cases r1
        obtain ⟨⟨_, _, _, us, o, es, _, h1, h2, _⟩, _, _⟩ := (show ObjOk X.prog X.w H s.heap a (dX X.w a ys ep) from I.hok a _ hx)
        exact PySem.W.kia_one (PySem.W.kitx_dict (a := a)) I.kIn ⟨o, h1, h2.1⟩ e (fun z => nomatch z) fun tk => ⟨.bl b, H, I.tok tk, rfl, q⟩
inductive Ty where
  | int | bool | str | list | tuple | dict
def Ty.name : Ty → String
  | .int => "int"
  | .bool => "bool"
  | .str => "str"
  | .list => "list"
  | .tuple => "tuple"
  | .dict => "dict"
def isD : Ty → PyData → Bool
  | .int, .int _ => true
  | .int, .bool _ => true
  | .bool, .bool _ => true
  | .str, .str _ => true
  | .list, .list _ => true
  | .tuple, .tuple _ => true
  | .dict, .dict _ => true
  | _, _ => false
theorem kb (T : Ty) (d : PyData) : kitB (tyD d) T.name = some (isD T d) := by
  cases T <;> cases d <;> first
    | exact (by decide +kernel : kitB "NoneType" "int" = some false) | exact (by decide +kernel : kitB "bool" "int" = some true) | exact (by decide +kernel : kitB "int" "int" = some true) | exact (by decide +kernel : kitB "str" "int" = some false) | exact (by decide +kernel : kitB "list" "int" = some false) | exact (by decide +kernel : kitB "tuple" "int" = some false) | exact (by decide +kernel : kitB "dict" "int" = some false)
    | exact (by decide +kernel : kitB "NoneType" "bool" = some false) | exact (by decide +kernel : kitB "bool" "bool" = some true) | exact (by decide +kernel : kitB "int" "bool" = some false) | exact (by decide +kernel : kitB "str" "bool" = some false) | exact (by decide +kernel : kitB "list" "bool" = some false) | exact (by decide +kernel : kitB "tuple" "bool" = some false) | exact (by decide +kernel : kitB "dict" "bool" = some false)
    | exact (by decide +kernel : kitB "NoneType" "str" = some false) | exact (by decide +kernel : kitB "bool" "str" = some false) | exact (by decide +kernel : kitB "int" "str" = some false) | exact (by decide +kernel : kitB "str" "str" = some true) | exact (by decide +kernel : kitB "list" "str" = some false) | exact (by decide +kernel : kitB "tuple" "str" = some false) | exact (by decide +kernel : kitB "dict" "str" = some false)
    | exact (by decide +kernel : kitB "NoneType" "list" = some false) | exact (by decide +kernel : kitB "bool" "list" = some false) | exact (by decide +kernel : kitB "int" "list" = some false) | exact (by decide +kernel : kitB "str" "list" = some false) | exact (by decide +kernel : kitB "list" "list" = some true) | exact (by decide +kernel : kitB "tuple" "list" = some false) | exact (by decide +kernel : kitB "dict" "list" = some false)
    | exact (by decide +kernel : kitB "NoneType" "tuple" = some false) | exact (by decide +kernel : kitB "bool" "tuple" = some false) | exact (by decide +kernel : kitB "int" "tuple" = some false) | exact (by decide +kernel : kitB "str" "tuple" = some false) | exact (by decide +kernel : kitB "list" "tuple" = some false) | exact (by decide +kernel : kitB "tuple" "tuple" = some true) | exact (by decide +kernel : kitB "dict" "tuple" = some false)
    | exact (by decide +kernel : kitB "NoneType" "dict" = some false) | exact (by decide +kernel : kitB "bool" "dict" = some false) | exact (by decide +kernel : kitB "int" "dict" = some false) | exact (by decide +kernel : kitB "str" "dict" = some false) | exact (by decide +kernel : kitB "list" "dict" = some false) | exact (by decide +kernel : kitB "tuple" "dict" = some false) | exact (by decide +kernel : kitB "dict" "dict" = some true)
/-- isinstance(x, T), T a built-in class -/
def isi (T : Ty) (a : M PyData) : M PyData := op1 (fun d => some (.bool (isD T d))) a
section
variable {X : Cx} {F : Fr} {e : Expr} {es : List Expr} {fs : M (List PyData)} {fa : M PyData} {pos p p2 : Pos}
theorem pm_isi (T : Ty) {t : Str} (hm : X.mg "isinstance" = none) (hmt : X.mg t = none) (ha : PM X F e fa) (ht : bootBuiltins t = some (.type T.name) := by decide +kernel) (hg : Gl X "isinstance" := by rfl) (hgt : Gl X t := by rfl)
    (hn : t ≠ "__name__" := by decide) (hd : (t == ("__debug__" : Str)) = false := by decide)
    (he : starEach [e, .Name t p2] X.env = (false, eval e X.env) :: starEach [.Name t p2] X.env := by rfl) (he2 : starEach [.Name t p2] X.env = (false, eval (.Name t p2) X.env) :: starEach [] X.env := by rfl) (hpl : (backTo pos (starEach [.Name t p2] X.env)).any (·.1) = false := by rfl) :
    PM X F (.Call (.Name "isinstance" p) [e, .Name t p2] [] pos) (isi T fa) := by
  have h2 : PE X (.Name t p2) (tC (.ty T.name)) := pe_bltn hgt hmt ht rfl hn hd
  refine PE.imp (pe_callB call_isiY hg hm (by decide +kernel) (pa_cons ha (pa_cons h2 pa_nil he2) he) (by decide) (by decide) he hpl) fun σ H Q ⟨V, ρ, E, g0⟩ => ⟨V, ρ, E, Goal.bind g0 fun x dx H1 V1 ρ1 st1 r1 g1 => ?_⟩
  obtain ⟨z, ez, q⟩ := Goal.opt st1.env g1
  cases ez
  exact ⟨x, .ty T.name, .type (tyD dx), .type T.name, isD T dx, rfl, .ty T.name, ty_rep st1.env.sub r1, kit_ty (kb T dx), q _ _ _ (Ext.refl st1.env.sub) (.bl _)⟩
end
def findD (x : PyData) : List PyData → Option Nat
  | [] => none
  | y :: ys => if PyData.eqv y x = true then some 0 else (findD x ys).map (· + 1)
theorem findD_spec {x : PyData} : ∀ {ys : List PyData} {j : Nat}, findD x ys = some j → (∃ z, ys[j]? = some z ∧ PyData.eqv z x = true) ∧ ∀ (m : Nat) (z : PyData), m < j → ys[m]? = some z → PyData.eqv z x = false
  | [], j, h => by cases h
  | y :: ys, j, h => by
    unfold findD at h
    by_cases e : PyData.eqv y x = true
    · rw [if_pos e] at h
      cases h
      exact ⟨⟨y, rfl, e⟩, fun m z hm => absurd hm (Nat.not_lt_zero m)⟩
    · rw [if_neg e] at h
      obtain ⟨k, hk, rfl⟩ := Option.map_eq_some_iff.mp h
      obtain ⟨⟨z, h1, h2⟩, h3⟩ := findD_spec hk
      refine ⟨⟨z, h1, h2⟩, fun m w hm hw => ?_⟩
      cases m with
      | zero => cases hw; cases q : PyData.eqv y x; rfl; exact absurd q e
      | succ m => exact h3 m w (by omega) hw
def gIndex : PyData → List PyData → Option PyData
  | .list ds, [x] => if (SeqAt.shaped x && SeqAt.shaped (.list ds)) = true then (findD x ds).map fun j => .int (j : Nat) else none
  | _, _ => none
def asL : PyData → Option (List PyData)
  | .list ds => some ds
  | _ => none
/-- a list's method -/
def opM (g : PyData → List PyData → Option PyData) (a : M PyData) (as : M (List PyData)) : M PyData := M.bind a fun x => M.bind (M.opt (asL x)) fun _ => M.bind as fun xs => M.opt (g x xs)
theorem md_index {K : KW} {x : L2.V} {xs : List L2.V} {dx : PyData} {ds : List PyData} {z : PyData} {H V : Hp} {Q : VK} (s : Same V H) (rx : Rep K V x dx) (rs : RepL K V xs ds) (e : gIndex dx ds = some z) (q : ∀ v H' V', Ext H V H' V' → Rep K V' v z → Q v H') : rIndexD K x xs H Q := by
  cases rx with
  | @lst a ys es ha ra =>
    cases rs with
    | nil => cases e
    | @cons y ys' d ds' r1 r2 =>
      cases r2 with
      | cons _ _ => cases e
      | nil =>
        have e : (if (SeqAt.shaped d && SeqAt.shaped (.list es)) = true then (findD d es).map fun j => PyData.int (j : Nat) else none) = some z := e
        by_cases h : (SeqAt.shaped d && SeqAt.shaped (.list es)) = true
        · rw [if_pos h] at e
          obtain ⟨h1, h2⟩ := Bool.and_eq_true_iff.mp h
          obtain ⟨j, hj, rfl⟩ := Option.map_eq_some_iff.mp e
          obtain ⟨⟨w, w1, w2⟩, w3⟩ := findD_spec hj
          exact ⟨a, y, d, es, j, w, rfl, rfl, ((Rep.lst ha ra).mono s).dp (SeqAt.canLay_of_shaped h2), (r1.mono s).dp (SeqAt.canLay_of_shaped h1), h2, h1, w1, w2, w3, q _ _ _ (Ext.refl s) (.int _)⟩
        · rw [if_neg h] at e; cases e
  | _ => cases rs <;> cases e
section
variable {X : Cx} {F : Fr} {o e : Expr} {es : List Expr} {fs : M (List PyData)} {fa : M PyData} {cpos apos : Pos}
theorem pm_index (hu : X.A.units + 65 < cLine) (ho : PM X F o fa) (ha : PMA X F [e] fs) (hbase : attributeBase o "index" X.env (eval o X.env) = eval o X.env := by rfl)
    (hfew : ((backTo cpos (starEach [e] X.env)).all (fun x => !x.1) && (backToKw cpos (keywordEach [] X.env)).all (fun x => x.1.isSome) && decide ([e].length + ([] : List Keyword).length + (if ([] : List Keyword).isEmpty then 0 else 1) < 30)) = true := by rfl)
    (hline : (apos.endLine == cpos.line) = true := by rfl) (hs : starEach [e] X.env = (false, eval e X.env) :: starEach [] X.env := by rfl) (hplain : (backTo cpos (starEach [] X.env)).any (·.1) = false := by rfl) :
    PM X F (.Call (.Attribute o "index" apos) [e] [] cpos) (opM gIndex fa fs) := by
  refine PE.imp (pe_bm PySem.F.plainAttrs_list PySem.F.slot_list_index PySem.F.type_list_index (mt_indexD hu) ho ha hbase hfew hline hs hplain) fun σ H Q ⟨V, ρ, E, g0⟩ => ⟨V, ρ, E, Goal.bind g0 fun x dx H1 V1 ρ1 st1 r1 g1 => ?_⟩
  cases r1 with
  | @lst a ys es ha ra =>
    refine ⟨.inl ⟨rfl, ys, .inl (.inl (st1.env.sub _ _ ha))⟩, V1, ρ1, st1.env, Goal.bind g1 fun xs ds H2 V2 ρ2 st2 r2 g2 => ?_⟩
    obtain ⟨z, ez, q⟩ := Goal.opt st2.env g2
    exact md_index st2.env.sub ((Rep.lst ha ra).mono st2.v) r2 ez q
  | _ => exact False.elim g1
end
def dd : List Int → List Int
  | [] => []
  | x :: xs => if x ∈ xs then dd xs else x :: dd xs
end DL
set_option Elab.async false
set_option linter.all false
set_option maxRecDepth 100000
set_option maxHeartbeats 1000000
namespace DL
open PySem PySem.Spec PyProof.Rows L2
variable [TabCtx]
theorem u65 {k : Nat} {A : Around} (r : Room k A) : A.units + 65 < cLine := by have := r.un; omega
/-- tests over own things -/
def brwT (b : Bool) (f : M Bool) : M Bool := fun ρ => match f (demR b ρ) with
  | .ok (d, ρ') => (match backR b ρ ρ' with
    | some ρ'' => .ok (d, ρ'')
    | none => .bad)
  | .exc c => .exc c
  | .bad => .bad
theorem pmt_brw {X : Cx} {F : Fr} {e : Expr} {fa : M Bool} (b : Bool) (h : PMT X F e fa) : PMT X F e (brwT b fa) := by
  refine PT.imp h fun σ H Q ⟨V, ρ, E, g⟩ => ⟨shown (Let σ ρ b) V H, demR b ρ, E.dem b, ?_⟩
  have g : Goal X.kw F σ ρ H V (fun _ (b : Bool) a => b = a) (match fa (demR b ρ) with
    | .ok (d, ρ') => (match backR b ρ ρ' with
      | some ρ'' => .ok (d, ρ'')
      | none => .bad)
    | .exc c => .exc c
    | .bad => .bad) Q := g
  cases ef : fa (demR b ρ) with
  | exc c => rw [ef] at g; exact g
  | bad => rw [ef] at g; exact g
  | ok pr =>
    obtain ⟨d, ρ'⟩ := pr
    rw [ef] at g
    have g : Goal X.kw F σ ρ H V (fun _ (b : Bool) a => b = a) (match backR b ρ ρ' with
      | some ρ'' => .ok (d, ρ'')
      | none => .bad) Q := g
    intro v H' V' st r
    cases eb : backR b ρ ρ' with
    | none => rw [eb] at g; exact False.elim g
    | some ρ'' =>
      rw [eb] at g
      obtain ⟨s1, s2⟩ := E.back st eb
      exact g v H' _ s1 r
theorem gsN_len {ds : List PyData} {ρ ρ' : Rho} (h : gsN ds ρ = .ok ρ') : ds.length = 0 := by
  cases ds with
  | nil => rfl
  | cons _ _ => cases h
theorem gsC_len {g : GM} {gs : List PyData → Rho → R Rho} {n : Nat} (hg : ∀ ds ρ ρ', gs ds ρ = .ok ρ' → ds.length = n) : ∀ ds ρ ρ', gsC g gs ds ρ = .ok ρ' → ds.length = n + 1 := fun ds ρ ρ' h => by
  cases ds with
  | nil => cases h
  | cons d ds =>
    have h : R.bind (g d ρ) (fun ρ' => gs ds ρ') = .ok ρ' := h
    cases e : g d ρ with
    | ok ρ1 => rw [e] at h; rw [List.length_cons, hg ds ρ1 ρ' h]
    | exc c => rw [e] at h; cases h
    | bad => rw [e] at h; cases h
end DL
set_option Elab.async false
set_option linter.all false
set_option maxRecDepth 100000
set_option maxHeartbeats 1000000
namespace DL
open PySem PySem.Spec PyProof.Rows L2
variable [TabCtx]
/-- _law_cell -/
def cellI (ns : List Int) (k : Int) : Int := if ns = [] then k * 7919 else ns.getD (k % ns.length).toNat 0 + k / ns.length * 104729
def spCell (K : KW) : Sp := fun vs H Q _ => ∃ (a : Addr) (ns : List Int) (k : Int), vs = [.ref a, .int k] ∧ SqL K H a (ns.map V.int) ∧ 0 ≤ k ∧ k < 1000 ∧ ns.length ≤ 1000 ∧ ∀ H', Same H H' → Q (.int (cellI ns k)) H'
abbrev rMulI : R2 := rI CMul fun i j => .int (i * j)
def t_cell (K : KW) : TS :=
  tSeq (tIfS (tTest (tOp (rEqD K) (tVar 0) (tLst tNil))) (tRet (tOp rMulI (tVar 1) (tC (.int 7919)))) tNext)
    (tRet (tOp (rI0 fun i j => .int (i + j)) (tOp (rIxL K) (tVar 0) (tOp (rI (fun _ j => 0 < j) fun i j => .int (i % j)) (tVar 1) (tCB (fun xs H Q => ∃ x n, xs = [x] ∧ LenV K x H n ∧ Q (.int n) H) (tCons (tVar 0) tNil))))
      (tOp rMulI (tOp (rI CDivW fun i j => .int (i / j)) (tVar 1) (tCB (fun xs H Q => ∃ x n, xs = [x] ∧ LenV K x H n ∧ Q (.int n) H) (tCons (tVar 0) tNil))) (tC (.int 104729)))))
theorem dp_ints {K : KW} {H : Hp} : ∀ ns : List Int, DpAll K H (ns.map V.int) (ns.map PyData.int)
  | [] => .nil
  | n :: ns => .cons (.int n) (dp_ints ns)
theorem ints_lay : ∀ ns : List Int, PyData.canLayAll0 (ns.map PyData.int) = true
  | [] => rfl
  | n :: ns => by
    show (PyData.canLay0 (.int n) && PyData.canLayAll0 (ns.map PyData.int)) = true
    rw [ints_lay ns]; rfl
theorem ints_depth : ∀ ns : List Int, PyData.depthAll (ns.map PyData.int) = 0
  | [] => by simp [PyData.depthAll]
  | n :: ns => by
    have := ints_depth ns
    simp [PyData.depthAll, PyData.depth, this]
theorem ints_shaped (ns : List Int) : SeqAt.shaped (.list (ns.map PyData.int)) = true := by
  unfold SeqAt.shaped
  have h1 : PyData.canLay0 (.list (ns.map PyData.int)) = true := by
    rw [PyData.canLay0]; exact ints_lay ns
  have h2 : PyData.depth (.list (ns.map PyData.int)) ≤ 64 := by
    rw [PyData.depth, ints_depth]; decide
  rw [h1, decide_eq_true h2]; rfl
theorem pure_cell {K : KW} (vs : List L2.V) (H : Hp) (Q : VK) (E : XK) (h : spCell K vs H Q E) : t_cell K { nx := fun _ H' => Q .non H', rt := Q } (L2.start ["script", "k"] vs) H := by
  obtain ⟨a, ns, k, rfl, hS, h0, h1, hl, q⟩ := h
  refine ⟨.ref a, rfl, Nat.zero_le _, fun p hp => ?_⟩
  have s1 : Same H (upd H p (.lst [])) := same_new hp
  have hS1 := s1.seq hS
  refine ⟨.list (ns.map .int), .list [], .lst hS1 (dp_ints ns), .lst (.inl (.inl upd_same)) .nil, ints_shaped ns, ints_shaped [], _, rfl, ?_⟩
  cases ns with
  | nil =>
    have e : PyData.eqv (.list (List.map PyData.int [])) (.list []) = true := by rw [PyData.eqv]; rfl
    rw [e, if_pos rfl]
    refine ⟨.int k, rfl, k, 7919, rfl, rfl, .inl ⟨by omega, by omega⟩, ?_⟩
    exact q _ s1
  | cons n ns =>
    have e : PyData.eqv (.list (List.map PyData.int (n :: ns))) (.list []) = false := by rw [PyData.eqv]; rfl
    rw [e, if_neg Bool.false_ne_true]
    have hlen : LenV K (.ref a) (upd H p (.lst [])) (n :: ns).length := .inl ⟨_, hS1, (List.length_map ..).symm⟩
    have hpos : (0 : Int) < ((n :: ns).length : Nat) := by simp only [List.length_cons]; omega
    have hm0 : 0 ≤ k % (((n :: ns).length : Nat) : Int) := Int.emod_nonneg _ (by omega)
    have hm1 : k % (((n :: ns).length : Nat) : Int) < ((n :: ns).length : Nat) := Int.emod_lt_of_pos _ hpos
    have hix : ((n :: ns).map V.int)[(k % (((n :: ns).length : Nat) : Int)).toNat]? = some (.int ((n :: ns).getD (k % (((n :: ns).length : Nat) : Int)).toNat 0)) := by
      have hlt : (k % (((n :: ns).length : Nat) : Int)).toNat < (n :: ns).length := by omega
      rw [List.getElem?_map, List.getD_eq_getElem?_getD, List.getElem?_eq_getElem hlt]
      rfl
    have hat := atI_nat hix
    rw [Int.toNat_of_nonneg hm0] at hat
    refine ⟨.ref a, rfl, .int k, rfl, .ref a, rfl, _, _, rfl, hlen, k, _, rfl, rfl, hpos, a, _, _, _, rfl, rfl, hS1, hat, .int k, rfl, .ref a, rfl, _, _, rfl, hlen, k, _, rfl, rfl, ?_, _, _, rfl, rfl, .inr ⟨by omega, by omega⟩, _, _, rfl, rfl, ?_⟩
    · refine wide_div (b := 200) hpos ?_ (by decide) (by decide)
      have : (((n :: ns).length : Nat) : Int).natAbs = (n :: ns).length := Int.natAbs_natCast _
      rw [this]
      exact Nat.lt_of_le_of_lt hl (by decide)
    · have e2 : cellI (n :: ns) k = (n :: ns).getD (k % (((n :: ns).length : Nat) : Int)).toNat 0 + k / (((n :: ns).length : Nat) : Int) * 104729 := by
        unfold cellI; rw [if_neg (by simp)]
      rw [e2] at q
      exact q _ s1
/-- _law_rounds: the new lists stand at as, their list at p -/
def Rounds (cs : List Int) (H : Hp) (p : Addr) (as : List Addr) : Prop := H p = some (.lst (as.map V.ref)) ∧ as.length = cs.length ∧ as.Nodup ∧ p ∉ as ∧ ∀ (i : Nat) (a : Addr) (c : Int), as[i]? = some a → cs[i]? = some c → H a = some (.lst [.int c, .int 0])
def roundsI (ns : List Int) (high : Int) : List Int := (List.range (max 1 (min high ns.length)).toNat).map fun i => cellI ns ((0 : Int) + (i : Nat))
def spRounds (K : KW) : Sp := fun vs H Q _ => ∃ (a : Addr) (ns : List Int) (high : Int), vs = [.ref a, .int high] ∧ SqL K H a (ns.map V.int) ∧ 0 ≤ high ∧ high < 1000 ∧ ns.length ≤ 1000 ∧ ∀ H' p as, Same H H' → Rounds (roundsI ns high) H' p as → Q (.ref p) H'
def t_rounds (K : KW) (E : XK) : TS :=
  tRet (tLc (iRng1 (tCons (tCB (fun xs H Q => ∃ i j, xs = [.int i, .int j] ∧ Q (.int (if j > i then j else i)) H) (tCons (tC (.int 1)) (tCons (tCB (fun xs H Q => ∃ i j, xs = [.int i, .int j] ∧ Q (.int (if j < i then j else i)) H) (tCons (tVar 1) (tCons (tCB (fun xs H Q => ∃ x n, xs = [x] ∧ LenV K x H n ∧ Q (.int n) H) (tCons (tVar 0) tNil)) tNil))) tNil))) tNil))
    (gName 2) tYes (tLst (tCons (tCallS (spCell K) (fun _ _ _ _ => False) (tCons (tVar 0) (tCons (tVar 2) tNil))) (tCons (tC (.int 0)) tNil))) [2])
theorem pure_rounds {K : KW} (vs : List L2.V) (H : Hp) (Q : VK) (E : XK) (h : spRounds K vs H Q E) : t_rounds K E { nx := fun _ H' => Q .non H', rt := Q } (L2.start ["script", "high", "k"] vs) H := by
  obtain ⟨a, ns, high, rfl, hS, h0, h1, hl, q⟩ := h
  refine ⟨.int high, rfl, .ref a, rfl, _, ns.length, rfl, .inl ⟨_, hS, (List.length_map ..).symm⟩, _, _, rfl, _, _, rfl, ?_⟩
  have em : (if (if ((ns.length : Nat) : Int) < high then ((ns.length : Nat) : Int) else high) > 1 then (if ((ns.length : Nat) : Int) < high then ((ns.length : Nat) : Int) else high) else 1) = max 1 (min high ns.length) := by
    by_cases c : ((ns.length : Nat) : Int) < high
    · rw [if_pos c]
      by_cases c2 : ((ns.length : Nat) : Int) > 1
      · rw [if_pos c2]; omega
      · rw [if_neg c2]; omega
    · rw [if_neg c]
      by_cases c2 : high > 1
      · rw [if_pos c2]; omega
      · rw [if_neg c2]; omega
  rw [em]
  refine ⟨_, rfl, by omega, by omega, fun D hD => ?_⟩
  refine lc_range (lo := 0) (n := (max 1 (min high ns.length)).toNat) (fun i H' => ∃ as : List Addr, Same H H' ∧ H' D = some (.lst (as.map V.ref)) ∧ as.length = i ∧ as.Nodup ∧ D ∉ as ∧ ∀ (j : Nat) (b : Addr), as[j]? = some b → H' b = some (.lst [.int (cellI ns ((0 : Int) + (j : Nat))), .int 0]))
    ⟨[], same_new hD, upd_same, rfl, List.nodup_nil, by simp, fun j b hb => by simp at hb⟩ (fun i H' hi hP => ?_) fun H' hP => ?_
  · obtain ⟨as, hs, hd, hlen, hnd, hDn, hat⟩ := hP
    have hi2 : (max 1 (min high (ns.length : Int))).toNat ≤ 1000 := by omega
    refine ⟨rfl, ?_⟩
    refine Eq.mpr (if_pos (e := False) (rfl : true = true)) ?_
    refine ⟨.ref a, rfl, .int ((0 : Int) + (i : Nat)), rfl, a, ns, (0 : Int) + (i : Nat), rfl, hs.seq hS, by omega, by omega, hl, fun H2 s2 => ⟨by show 2 ≤ sizeLine; decide, fun p hp => ?_⟩⟩
    have s3 : Same H2 (upd H2 p (.lst [.int (cellI ns ((0 : Int) + (i : Nat))), .int 0])) := same_new hp
    have hD2 : H2 D = some (.lst (as.map V.ref)) := s2 _ _ hd
    have pD : p ≠ D := fun e => by rw [e, hD2] at hp; cases hp
    have pas : p ∉ as := fun e => by
      obtain ⟨j, hj⟩ := List.mem_iff_getElem?.mp e
      have := s2 _ _ (hat j p hj)
      rw [hp] at this
      cases this
    refine ⟨as.map V.ref, by rw [upd_ne (Ne.symm pD)]; exact hD2, by rw [List.length_map, hlen]; exact Nat.lt_of_lt_of_le hi (Nat.le_trans hi2 (by decide)), as ++ [p], ?_, ?_, ?_, ?_, ?_, ?_⟩
    · intro b o e
      have nb : b ≠ D := fun z => by rw [z, hD] at e; cases e
      rw [upd_ne nb]
      exact s3 _ _ (s2 _ _ (hs _ _ e))
    · rw [upd_same, List.map_append]; rfl
    · rw [List.length_append, hlen]; rfl
    · exact List.nodup_append.mpr ⟨hnd, List.nodup_cons.mpr ⟨by simp, List.nodup_nil⟩, fun x hx y hy z => pas (by rw [List.mem_singleton.mp hy] at z; rw [← z]; exact hx)⟩
    · intro e
      rcases List.mem_append.mp e with e | e
      · exact hDn e
      · exact pD (List.mem_singleton.mp e).symm
    · intro j b hb
      by_cases hj : j < as.length
      · rw [List.getElem?_append_left hj] at hb
        have nb : b ≠ D := fun z => hDn (by rw [← z]; exact List.mem_of_getElem? hb)
        have nbp : b ≠ p := fun z => pas (by rw [← z]; exact List.mem_of_getElem? hb)
        rw [upd_ne nb, upd_ne nbp]
        exact s2 _ _ (hat j b hb)
      · rw [List.getElem?_append_right (by omega)] at hb
        have ej : j = as.length := by
          have := (List.getElem?_eq_some_iff.mp hb).1
          simp at this
          omega
        subst ej
        rw [Nat.sub_self] at hb
        cases hb
        rw [upd_ne pD, upd_same, hlen]
  · obtain ⟨as, hs, hd, hlen, hnd, hDn, hat⟩ := hP
    refine q H' D as hs ⟨hd, ?_, hnd, hDn, fun i b c h1 h2 => ?_⟩
    · unfold roundsI; rw [List.length_map, List.length_range]; exact hlen
    · rw [hat i b h1]
      unfold roundsI at h2
      rw [List.getElem?_map] at h2
      obtain ⟨j, h3, h4⟩ := Option.map_eq_some_iff.mp h2
      have h5 := (List.getElem?_eq_some_iff.mp h3).2
      rw [List.getElem_range] at h5
      subst h5 h4
      rfl
/-- the slots ahead of a turn: the draw alone is known -/
def init (n di : Nat) (c : Int) : Rho := (List.replicate n Sl.no).set di (.ow (.list [.int c, .int 0]))
def spLaw (K : KW) : Sp := fun vs H Q _ => LamX.Tabs TBS H ∧ ∃ (a : Addr) (ns : List Int), vs = [.ref a] ∧ SqL K H a (ns.map V.int) ∧ ns.length ≤ 63 ∧ ∀ H', Q (.bl true) H'
abbrev mkZ (H : Hp) (a : Addr) : Fr := ⟨hide H a, fun _ => none, none, fun _ _ _ => False, 0, fun _ => False⟩
theorem env_init {K : KW} {H : Hp} {a : Addr} {σ : St} {n di : Nat} {c : Int} (hn : σ.length = n) (hd : di < n) (ha : H a = some (.lst [.int c, .int 0])) (hs : σ[di]? = some (some (.ref a))) (ht : LamX.Tabs TBS H) : EnvR K (mkZ H a) H (fun _ => none) σ (init n di c) := by
  have f : ∀ {i : Nat} {t : Sl}, (init n di c)[i]? = some t → (i = di ∧ t = .ow (.list [.int c, .int 0])) ∨ t = .no := fun {i t} h => by
    unfold init at h
    rcases getElem_set_some h with ⟨e1, e2, _⟩ | ⟨_, e2⟩
    · exact .inl ⟨e1.symm, e2.symm⟩
    · rw [List.getElem?_replicate] at e2
      split at e2
      · exact .inr (Option.some.inj e2).symm
      · cases e2
  refine ⟨by simp [init, hn], .of hide_same (fun _ _ h => h) (fun _ _ h => (by cases h)) (fun _ h _ => h), fun i d h => ?_, fun i d h => ?_, fun i j b d e h1 h2 _ _ => ?_, (fun b h => by cases h), ⟨tabs_hide (fun x e => by rw [ha] at e; cases e; exact plain_lst) ht, fun _ _ => rfl⟩, ObE.non fun i o h => by
    rcases f h with ⟨_, z⟩ | z <;> cases z⟩
  · rcases f h with ⟨_, z⟩ | z <;> cases z
  · rcases f h with ⟨rfl, z⟩ | z
    · cases z
      exact ⟨a, hs, rfl, hide_eq, _, ha, .cons (.int c) (.cons (.int 0) .nil)⟩
    · cases z
  · rcases f h1 with ⟨rfl, _⟩ | z
    · rcases f h2 with ⟨rfl, _⟩ | z
      · rfl
      · cases z
    · cases z
end DL
set_option Elab.async false
set_option linter.all false
set_option maxRecDepth 100000
set_option maxHeartbeats 1000000
namespace DL
open PySem PySem.Spec PyProof.Rows L2
variable [TabCtx]
/-- an error's carrier, at any world -/
def CXE (P : Program) : CXT := fun outer H s E e s' => ∃ w, L2N.CX P w outer H s E e s'
theorem cxe_no {P : Program} {H : Hp} {s : Shared} {e : Value} {s' : Shared} (h : CXE P [] H s (fun _ _ _ => False) e s') : False := by
  obtain ⟨w, a, B, H', cls, d, h⟩ := h
  exact h.2.2.2.2.2.2.2
end DL
set_option Elab.async false
set_option linter.all false
set_option maxRecDepth 100000
set_option maxHeartbeats 1000000
namespace DL
open PySem PySem.Spec PyProof.Rows L2
variable [TabCtx]
mutual
inductive NAt (H : Hp) : NestedKey → L2.V → Prop
  | non : NAt H .none .non
  | bl (b : Bool) : NAt H (.num (if b = true then 1 else 0)) (.bl b)
  | int (i : Int) : NAt H (.num i) (.int i)
  | str (x : Str) : NAt H (.text x) (.str x)
  | tup {b : Addr} {ks : List NestedKey} {vs : List L2.V} : H b = some (.tup vs) → NAts H ks vs → NAt H (.tup ks) (.ref b)
inductive NAts (H : Hp) : List NestedKey → List L2.V → Prop
  | nil : NAts H [] []
  | cons {k : NestedKey} {v : L2.V} {ks : List NestedKey} {vs : List L2.V} : NAt H k v → NAts H ks vs → NAts H (k :: ks) (v :: vs)
end
mutual
theorem Rep.key {K : KW} {V H : Hp} (s : Same V H) : ∀ {v : L2.V} {d : PyData} {k : NestedKey}, Rep K V v d → nkey d = some k → NAt H k v
  | _, _, _, .non, h => by rw [nkey] at h; cases h; exact .non
  | _, _, _, .bl b, h => by rw [nkey] at h; cases h; exact .bl b
  | _, _, _, .int i, h => by rw [nkey] at h; cases h; exact .int i
  | _, _, _, .str x, h => by rw [nkey] at h; cases h; exact .str x
  | _, _, _, .lst _ _, h => by rw [nkey] at h; cases h
  | _, _, _, .dk _ _ _, h => by rw [nkey] at h; cases h
  | _, _, _, .dt _ _, h => by rw [nkey] at h; cases h
  | _, _, _, .tup ha r, h => by
    rw [nkey] at h
    obtain ⟨ks, h1, h2⟩ := Option.map_eq_some_iff.mp h
    subst h2
    exact .tup (s _ _ ha) (RepL.keys s r h1)
theorem RepL.keys {K : KW} {V H : Hp} (s : Same V H) : ∀ {vs : List L2.V} {ds : List PyData} {ks : List NestedKey}, RepL K V vs ds → nkeys ds = some ks → NAts H ks vs
  | _, _, _, .nil, h => by rw [nkeys] at h; cases h; exact .nil
  | _, _, _, .cons r t, h => by
    rw [nkeys] at h
    obtain ⟨k, h1, h2⟩ := Option.bind_eq_some_iff.mp h
    obtain ⟨ks, h3, h4⟩ := Option.map_eq_some_iff.mp h2
    subst h4
    exact .cons (Rep.key s r h1) (RepL.keys s t h3)
end
mutual
theorem NAt.is {P : Program} {w : World} {H : Hp} {h : Heap} (ok : HOk P w H h) : ∀ {k : NestedKey} {v : L2.V} {u : Value}, NAt H k v → RelV v u → NestedIs h k u
  | _, _, _, .non, r => by cases (show _ = Value.none from r); exact .none
  | _, _, _, .bl b, r => by cases (show _ = Value.bool b from r); exact .bool rfl
  | _, _, _, .int i, r => by obtain ⟨t, rfl⟩ := r; exact .int i t
  | _, _, _, .str x, r => by obtain ⟨t, rfl⟩ := r; exact .text x t
  | _, _, _, .tup (b := b) (vs := vs) ha q, r => by
    cases (show _ = Value.ref b from r)
    obtain ⟨_, its, rv, o, h1, h2, n, h3⟩ := (show ObjOk P w H h b (.tup vs) from ok b _ ha)
    exact .tup h1 h2 h3 (by simpa using NAts.is ok q rv)
theorem NAts.is {P : Program} {w : World} {H : Hp} {h : Heap} (ok : HOk P w H h) : ∀ {ks : List NestedKey} {vs : List L2.V} {us : List Value}, NAts H ks vs → Vals vs us → NestedAll h ks us
  | _, _, _, .nil, r => by cases r; exact .nil
  | _, _, _, .cons q t, r => by
    cases r with
    | cons r1 r2 => exact .cons (NAt.is ok q r1) (NAts.is ok t r2)
end
def KeysAt (H : Hp) (xs : List (NestedKey × Addr × L2.V)) : Prop := ∀ x ∈ xs, NAt H x.1 (.ref x.2.1) ∧ x.1.depth ≤ 8
theorem RepT.keysAt {K : KW} {V H : Hp} (s : Same V H) : ∀ {xs : List (NestedKey × Addr × L2.V)} {ps : List (PyData × PyData)}, RepT K V xs ps → KeysAt H xs
  | _, _, .nil => fun x hx => nomatch hx
  | _, _, .cons q n z r t => fun x hx => by
    rcases List.mem_cons.mp hx with e | e
    · subst e; exact ⟨q.key s n, z⟩
    · exact RepT.keysAt s t x e
def vx (xs : List (NestedKey × Addr × L2.V)) : List (NestedKey × L2.V) := xs.map fun x => (x.1, x.2.2)
abbrev PX : List (NestedKey × Addr × L2.V) → List (NestedKey × Addr × Value) → Prop := Paired fun (x : NestedKey × Addr × L2.V) (u : NestedKey × Addr × Value) => x.1 = u.1 ∧ x.2.1 = u.2.1 ∧ RelV x.2.2 u.2.2
theorem PX.val {xs : List (NestedKey × Addr × L2.V)} {us : List (NestedKey × Addr × Value)} (r : PX xs us) (k : NestedKey) : RelO (valV (vx xs) k) ((atKey us k).map (·.2)) := by
  induction r with
  | nil => exact True.intro
  | @cons p q ps qs h t ih =>
    obtain ⟨h1, _, h2⟩ := h
    by_cases e : p.1 = k
    · have e' : q.1 = k := h1.symm.trans e
      have b : atKey (q :: qs) k = some q.2 := by simp [atKey, List.find?_cons, e']
      have a : valV (vx (p :: ps)) k = some p.2.2 := valV_pos (p := (p.1, p.2.2)) e
      rw [a, b]; exact h2
    · have e' : ¬ q.1 = k := fun z => e (h1.trans z)
      have b : atKey (q :: qs) k = atKey qs k := by simp [atKey, List.find?_cons, e']
      have a : valV (vx (p :: ps)) k = valV (vx ps) k := valV_neg (p := (p.1, p.2.2)) e
      rw [a, b]; exact ih
theorem PX.any {xs : List (NestedKey × Addr × L2.V)} {us : List (NestedKey × Addr × Value)} (r : PX xs us) (k : NestedKey) : (xs.any fun x => decide (x.1 = k)) = (atKey us k).isSome := by
  induction r with
  | nil => rfl
  | @cons p q ps qs h t ih =>
    rw [List.any_cons]
    by_cases e : p.1 = k
    · have e' : q.1 = k := h.1.symm.trans e
      simp [atKey, List.find?_cons, e', e]
    · have e' : ¬ q.1 = k := fun z => e (h.1.trans z)
      have b : atKey (q :: qs) k = atKey qs k := by simp [atKey, List.find?_cons, e']
      rw [b, decide_eq_false e, Bool.false_or]; exact ih
theorem PX.keys {xs : List (NestedKey × Addr × L2.V)} {us : List (NestedKey × Addr × Value)} (r : PX xs us) : xs.map (·.1) = us.map (·.1) := by
  induction r with
  | nil => rfl
  | cons h t ih => rw [List.map_cons, List.map_cons, ih, h.1]
theorem PX.mem {xs : List (NestedKey × Addr × L2.V)} {us : List (NestedKey × Addr × Value)} (r : PX xs us) : ∀ u ∈ us, ∃ x ∈ xs, x.1 = u.1 ∧ x.2.1 = u.2.1 := by
  induction r with
  | nil => exact fun u hu => nomatch hu
  | @cons p q ps qs h t ih =>
    intro u hu
    rcases List.mem_cons.mp hu with e | e
    · subst e; exact ⟨p, List.mem_cons_self, h.1, h.2.1⟩
    · obtain ⟨x, h1, h2⟩ := ih u e; exact ⟨x, List.mem_cons_of_mem _ h1, h2⟩
section
variable {P : Program} {w : World} {H : Hp} {h : Heap} {a : Addr}
theorem dx_of {xs : List (NestedKey × Addr × L2.V)} {ep : Nat} (ok : HOk P w H h) (e : H a = some (dX w a xs ep)) (ks : KeysAt H xs) : xs.length ≤ sizeLine ∧ (a == sysModules) = false ∧ ∃ us, PX xs us ∧ h.DictOfH (nestedKind P w) a us := by
  obtain ⟨⟨z, y, nd, us, o, es, r, h1, h2, h3, h4⟩, _, _⟩ := (show ObjOk P w H h a (dX w a xs ep) from ok a _ e)
  refine ⟨z, y, us, r, o, es, ep, h1, h2, h3, h4, fun u hu => ?_, by rw [← PX.keys r]; exact nd⟩
  obtain ⟨x, hx, e1, e2⟩ := PX.mem r u hu
  obtain ⟨n, dp⟩ := ks x hx
  rw [← e1, ← e2]
  exact ⟨n.is ok rfl, dp⟩
theorem dx_nil {ep : Nat} (ok : HOk P w H h) (e : H a = some (dX w a [] ep)) : (a == sysModules) = false ∧ h.DictOf (mixKind P w) a [] := by
  obtain ⟨⟨z, y, nd, us, o, es, r, h1, h2, h3, h4⟩, _, _⟩ := (show ObjOk P w H h a (dX w a [] ep) from ok a _ e)
  cases r
  have he : es = #[] := by
    have : es.toList = [] := h4
    exact Array.toList_inj.mp (by simpa using this)
  subst he
  exact ⟨y, o, #[], ep, h1, h2, h3, fun e he => by simp at he, .nil, List.nodup_nil⟩
end
def isTupD : PyData → Bool
  | .tuple _ => true
  | _ => false
def plainD : PyData → Bool
  | .int _ => true
  | .str _ => true
  | _ => false
def deepD (k : PyData) : Bool := match nkey k with
  | some n => decide (n.depth ≤ 8)
  | none => false
def keyEqD (a b : PyData) : Bool := decide (nkey a = nkey b)
def dlook (ps : List (PyData × PyData)) (k : PyData) : Option PyData := (ps.find? fun p => keyEqD p.1 k).map (·.2)
def keyOk (ps : List (PyData × PyData)) (k : PyData) : Bool := (plainD k && ps.all fun p => plainD p.1) || (isTupD k && deepD k && ps.all fun p => isTupD p.1)
def dput (ps : List (PyData × PyData)) (k v : PyData) : List (PyData × PyData) := if (ps.any fun p => keyEqD p.1 k) = true then ps.map (fun p => if keyEqD p.1 k = true then (p.1, v) else p) else ps ++ [(k, v)]
/-- what stands at y in the dict at a -/
def DGX (w : World) (H : Hp) (a : Addr) (y : L2.V) (r : Option L2.V) : Prop :=
  (∃ kvs k, L2.Rd H a (.dK kvs) ∧ y = kV k ∧ r = valV kvs k) ∨
  (∃ xs ep k b, H a = some (dX w a xs ep) ∧ KeysAt H xs ∧ y = .ref b ∧ NAt H k (.ref b) ∧ k.depth ≤ 8 ∧ r = valV (vx xs) k) ∨
  ∃ ep k, H a = some (dX w a [] ep) ∧ y = kV k ∧ r = none
theorem keyD_nkey (k : Key) : nkey (keyD k) = some (match k with | .inl i => .num i | .inr x => .text x) := by
  cases k with
  | inl i => show nkey (.int i) = _; rw [nkey]
  | inr x => show nkey (.str x) = _; rw [nkey]
theorem keyEq_keyD (a b : Key) : keyEqD (keyD a) (keyD b) = decide (a = b) := by
  unfold keyEqD
  rw [keyD_nkey, keyD_nkey]
  cases a with
  | inl i => cases b with
    | inl j =>
      by_cases e : i = j
      · subst e; simp
      · rw [decide_eq_false (fun z => e (by injection z with z; injection z)), decide_eq_false (fun z => e (Sum.inl.inj z))]
    | inr y => rw [decide_eq_false (fun z => by injection z with z; cases z), decide_eq_false (fun z => nomatch z)]
  | inr x => cases b with
    | inl j => rw [decide_eq_false (fun z => by injection z with z; cases z), decide_eq_false (fun z => nomatch z)]
    | inr y =>
      by_cases e : x = y
      · subst e; simp
      · rw [decide_eq_false (fun z => e (by injection z with z; injection z)), decide_eq_false (fun z => e (Sum.inr.inj z))]
theorem plain_key {K : KW} {V : Hp} {y : L2.V} {k : PyData} (r : Rep K V y k) (h : plainD k = true) : ∃ q, k = keyD q ∧ y = kV q := by
  cases r with
  | int i => exact ⟨.inl i, rfl, rfl⟩
  | str x => exact ⟨.inr x, rfl, rfl⟩
  | _ => cases h
theorem RepK.look {K : KW} {V : Hp} (q : Key) : ∀ {kvs : List (Key × L2.V)} {ps : List (PyData × PyData)}, RepK K V kvs ps → (match dlook ps (keyD q) with | some d => ∃ v, valV kvs q = some v ∧ Rep K V v d | none => valV kvs q = none)
  | _, _, .nil => rfl
  | _, _, .cons (k := k) (v := v) (kvs := kvs) (d := d) (ps := ps) r t => by
    by_cases e : k = q
    · have a : dlook ((keyD k, d) :: ps) (keyD q) = some d := by
        unfold dlook; rw [List.find?_cons_of_pos (by show keyEqD (keyD k) (keyD q) = true; rw [keyEq_keyD, decide_eq_true e])]; rfl
      rw [a]
      exact ⟨v, valV_pos (p := (k, v)) e, r⟩
    · have a : dlook ((keyD k, d) :: ps) (keyD q) = dlook ps (keyD q) := by
        unfold dlook; rw [List.find?_cons_of_neg (by show ¬ keyEqD (keyD k) (keyD q) = true; rw [keyEq_keyD, decide_eq_false e]; exact Bool.false_ne_true)]
      have b : valV ((k, v) :: kvs) q = valV kvs q := valV_neg (p := (k, v)) e
      rw [a, b]
      exact RepK.look q t
theorem RepT.look {K : KW} {V : Hp} {kd : PyData} {q : NestedKey} (hq : nkey kd = some q) : ∀ {xs : List (NestedKey × Addr × L2.V)} {ps : List (PyData × PyData)}, RepT K V xs ps → (match dlook ps kd with | some d => ∃ v, valV (vx xs) q = some v ∧ Rep K V v d | none => valV (vx xs) q = none)
  | _, _, .nil => rfl
  | _, _, .cons (k := k) (b := b) (v := v) (xs := xs) (dk := dk) (d := d) (ps := ps) _ n _ r t => by
    have ek : keyEqD dk kd = decide (k = q) := by
      unfold keyEqD
      rw [n, hq]
      by_cases e : k = q
      · subst e; simp
      · rw [decide_eq_false e, decide_eq_false (fun z => e (Option.some.inj z))]
    by_cases e : k = q
    · have a : dlook ((dk, d) :: ps) kd = some d := by
        unfold dlook; rw [List.find?_cons_of_pos (by show keyEqD dk kd = true; rw [ek, decide_eq_true e])]; rfl
      rw [a]
      exact ⟨v, valV_pos (p := (k, v)) e, r⟩
    · have a : dlook ((dk, d) :: ps) kd = dlook ps kd := by
        unfold dlook; rw [List.find?_cons_of_neg (by show ¬ keyEqD dk kd = true; rw [ek, decide_eq_false e]; exact Bool.false_ne_true)]
      have c : valV (vx ((k, b, v) :: xs)) q = valV (vx xs) q := valV_neg (p := (k, v)) e
      rw [a, c]
      exact RepT.look hq t
theorem RepT.tups {K : KW} {V : Hp} : ∀ {xs : List (NestedKey × Addr × L2.V)} {ps : List (PyData × PyData)}, RepT K V xs ps → (ps.all fun p => plainD p.1) = true → xs = []
  | _, _, .nil, _ => rfl
  | _, _, .cons q n _ _ _, h => by
    rw [List.all_cons, Bool.and_eq_true] at h
    have h := h.1
    cases q <;> cases h
theorem RepK.plains {K : KW} {V : Hp} {kvs : List (Key × L2.V)} {ps : List (PyData × PyData)} (r : RepK K V kvs ps) (h : (ps.all fun p => isTupD p.1) = true) : ps = [] := by
  cases r with
  | nil => rfl
  | @cons k _ _ _ _ _ _ =>
    rw [List.all_cons, Bool.and_eq_true] at h
    have h := h.1
    cases k <;> cases h
/-- a key that is a tuple -/
theorem tup_key {K : KW} {V H : Hp} (s : Same V H) {y : L2.V} {k : PyData} (r : Rep K V y k) (h : isTupD k = true) (hd : deepD k = true) : ∃ q b, nkey k = some q ∧ y = .ref b ∧ NAt H q (.ref b) ∧ q.depth ≤ 8 := by
  unfold deepD at hd
  cases e : nkey k with
  | none => rw [e] at hd; cases hd
  | some q =>
    rw [e] at hd
    have nq := r.key s e
    cases r with
    | @tup b _ _ _ _ => exact ⟨q, b, rfl, rfl, nq, of_decide_eq_true hd⟩
    | _ => cases h
theorem Rep.look {K : KW} {V H : Hp} (s : Same V H) {a : Addr} {y : L2.V} {ps : List (PyData × PyData)} {k : PyData} (r : Rep K V (.ref a) (.dict ps)) (ry : Rep K V y k) (ok : keyOk ps k = true) : ∃ o, DGX K.w H a y o ∧ (match dlook ps k with | some d => ∃ v, o = some v ∧ Rep K V v d | none => o = none) := by
  rcases Bool.or_eq_true_iff.mp ok with ok | ok
  · obtain ⟨o1, o2⟩ := Bool.and_eq_true_iff.mp ok
    obtain ⟨q, rfl, rfl⟩ := plain_key ry o1
    cases r with
    | @dk _ kvs _ h rk n =>
      refine ⟨valV kvs q, .inl ⟨kvs, q, rd_same s h, rfl, rfl⟩, ?_⟩
      exact RepK.look q rk
    | @dt _ xs ep _ h rt =>
      have e := rt.tups o2
      subst e
      cases rt
      exact ⟨none, .inr (.inr ⟨ep, q, s _ _ h, rfl, rfl⟩), rfl⟩
  · obtain ⟨o12, o3⟩ := Bool.and_eq_true_iff.mp ok
    obtain ⟨o1, o2⟩ := Bool.and_eq_true_iff.mp o12
    obtain ⟨q, b, e1, rfl, nq, dq⟩ := tup_key s ry o1 o2
    cases r with
    | @dk _ kvs _ h rk n => exact absurd (rk.plains o3) n
    | @dt _ xs ep _ h rt => exact ⟨valV (vx xs) q, .inr (.inl ⟨xs, ep, q, b, s _ _ h, rt.keysAt s, rfl, nq, dq, rfl⟩), RepT.look e1 rt⟩
end DL
set_option Elab.async false
set_option linter.all false
set_option maxRecDepth 100000
set_option maxHeartbeats 1000000
namespace DL
open PySem PySem.Spec PyProof.Rows L2
variable [TabCtx]
section
variable {X : Cx} {pins : List (Addr × Obj)} {σ : St} {H : Hp} {s : Shared} {a : Addr} {y v : L2.V} {u r : Value} {o : Option L2.V} {A : Around} {E : Value → Shared → Prop}
theorem room8 (hu : A.units + 10 < cLine) : (nestedKind X.prog X.w).room A.in1 := by
  show A.units + 1 + 8 < cLine
  omega
theorem x_getItem {Q : Value → Shared → Prop} (hu : A.units + 10 < cLine) (I : L2.Inv X pins σ H s) (g : DGX X.w H a y (some v)) (ry : L2.RelV y u) (h : ∀ w' s', L2.Inv X pins σ H s' → L2.RelV v w' → Q w' s') :
    wpAny (model X.prog X.w) A (getItem (.ref a) u) Q E s := by
  rcases g with ⟨kvs, k, e, ey, l⟩ | ⟨xs, ep0, k, b, e, ks, ey, eb, dp, l⟩ | ⟨ep0, k, e, ey, l⟩
  · exact d_getItem (by omega) I (.inl ⟨kvs, k, e, ey, l⟩) ry h
  · subst ey
    cases (show u = Value.ref b from ry)
    obtain ⟨z, hd, us, rel, dd⟩ := dx_of I.hok e ks
    obtain ⟨w', hw, rw'⟩ := RelO.some_of (v := v) (o := (atKey us k).map (·.2)) (by rw [l]; exact PX.val rel k)
    obtain ⟨p, hp, hp2⟩ := Option.map_eq_some_iff.mp hw
    refine wpAny_getItem_heap (room8 hu) ⟨eb.is I.hok rfl, dp⟩ dd hp ?_
    rw [hp2]
    exact h w' _ (I.tok _) rw'
  · cases l
theorem x_get2 {d : L2.V} {Q : Value → Shared → Prop} (hu : A.units + 10 < cLine) (I : L2.Inv X pins σ H s) (g : DGX X.w H a y o) (ry : L2.RelV y u) (rd : L2.RelV d r) (h : ∀ w' s', L2.Inv X pins σ H s' → L2.RelV (o.getD d) w' → Q w' s') :
    wpAny (model X.prog X.w) A (call (.builtin "dict.get") [.ref a, u, r]) Q E s := by
  rcases g with ⟨kvs, k, e, ey, l⟩ | ⟨xs, ep0, k, b, e, ks, ey, eb, dp, l⟩ | ⟨ep0, k, e, ey, l⟩
  · exact d_get2 (by omega) I (.inl ⟨kvs, k, e, ey, l⟩) ry rd h
  · subst ey
    cases (show u = Value.ref b from ry)
    obtain ⟨z, hd, us, rel, dd⟩ := dx_of I.hok e ks
    refine call_meetsIn PySem.F.slot_dict_get dd.typeIs PySem.F.entry_dict_get (PySem.F.args_dict_get_3 _ _ _) (meetsH_dict_get_default (nestedKind X.prog X.w) a b hd r) ⟨room8 hu, k, us, ⟨eb.is I.hok rfl, dp⟩, dd, h _ _ (I.tok _) ?_⟩
    rw [l]
    exact (PX.val rel k).getD rd
  · subst ey l
    obtain ⟨hd, dd⟩ := dx_nil I.hok e
    exact call_meetsIn PySem.F.slot_dict_get dd.typeIs PySem.F.entry_dict_get (PySem.F.args_dict_get_3 _ _ _) (meets_dict_get_default (mixKind X.prog X.w) a (kV_is ry) hd r) ⟨_, dd.mapOf, h _ _ (I.tok _) rd⟩
/-- a is a dict -/
def IsDX (w : World) (H : Hp) (a : Addr) : Prop := (∃ kvs, L2.Rd H a (.dK kvs)) ∨ ∃ xs ep, H a = some (dX w a xs ep)
theorem isDX_at (I : L2.Inv X pins σ H s) (d : IsDX X.w H a) :
    s.TypeIs (.ref a) "dict" ∧ (∀ b, Value.ref a = .ref b → ∃ ob, s.heap.get? b = some ob ∧ ob.dict = none) ∧ (a == sysModules) = false := by
  rcases d with ⟨kvs, e⟩ | ⟨xs, ep, e⟩
  · exact isD_at I (.inl ⟨kvs, e⟩)
  · obtain ⟨⟨z, y, nd, us, o, es, r, h1, h2, h3, h4⟩, _, _⟩ := (show ObjOk X.prog X.w H s.heap a (dX X.w a xs ep) from I.hok a _ e)
    refine ⟨⟨o, h1, h2.1⟩, fun b q => ?_, y⟩
    cases q
    exact ⟨o, h1, h2.2.1⟩
theorem xok_stable {w : World} {xs : List (NestedKey × Addr × L2.V)} {ep : Nat} : ∀ h1 h2 : Heap, XOk w a xs ep h1 → (∀ o, h1.get? a = some o → h2.get? a = some o) → XOk w a xs ep h2 := by
  rintro h1 h2 ⟨z, y, nd, us, o, es, r, e1, e2, e3, e4⟩ k
  exact ⟨z, y, nd, us, o, es, r, k _ e1, e2, e3, e4⟩
theorem dx_new {P : Program} {w : World} {h' : Heap} {xs : List (NestedKey × Addr × L2.V)} {us : List (NestedKey × Addr × Value)} (z : xs.length ≤ sizeLine) (hd : (a == sysModules) = false) (rel : PX xs us) (dd : h'.DictOfH (nestedKind P w) a us) :
    ∃ ep, ∀ H' : Hp, ObjOk P w H' h' a (dX w a xs ep) := by
  obtain ⟨o, es, ep, h1, h2, h3, h4, _, h5⟩ := dd
  exact ⟨ep, fun H' => ⟨⟨z, hd, by rw [PX.keys rel]; exact h5, us, o, es, rel, h1, h2, h3, h4⟩, ⟨o, h1⟩, xok_stable⟩⟩
end
end DL
set_option Elab.async false
set_option linter.all false
set_option maxRecDepth 100000
set_option maxHeartbeats 1000000
namespace DL
open PySem PySem.Spec PyProof.Rows L2
variable [TabCtx]
def HidV (K : KW) (H0 V' H' : Hp) (v : L2.V) (d : PyData) : Prop := ∃ a, v = .ref a ∧ V' a = none ∧ H0 a = none ∧ OwnAt K V' H' a d
def GoalF (K : KW) (F : Fr) (σ : St) (ρ : Rho) (H V : Hp) (r : R (PyData × Rho)) (Q : VK) : Prop := match r with
  | .ok (d, ρ') => ∀ v H' V', Stp K F σ ρ ρ' H V H' V' → HidV K H V' H' v d → Q v H'
  | .exc c => ∀ H' V', Ext F.H0 F.V0 H' V' → F.W (.ref (He.ga K c)) σ H'
  | .bad => False
def GoalR (K : KW) (F : Fr) (σ : St) (H V : Hp) (Q : VK) : R PyData → Prop
  | .ok d => ∀ v H' V', Ext H V H' V' → HidV K H V' H' v d → Q v H'
  | .exc c => ∀ H' V', Ext F.H0 F.V0 H' V' → F.W (.ref (He.ga K c)) σ H'
  | .bad => False
def tMF (K : KW) (F : Fr) (f : M PyData) : TE := fun σ H Q => ∃ V ρ, EnvR K F H V σ ρ ∧ GoalF K F σ ρ H V (f ρ) Q
def PMF (X : Cx) (F : Fr) (e : Expr) (f : M PyData) : Prop := PE X e (tMF X.kw F f)
section
variable {K : KW} {F : Fr} {σ : St} {ρ ρ1 : Rho} {H V H1 V1 : Hp} {Q : VK}
theorem GoalF.after {r : R (PyData × Rho)} (st : Stp K F σ ρ ρ1 H V H1 V1) (g : GoalF K F σ ρ H V r Q) : GoalF K F σ ρ1 H1 V1 r Q := by
  cases r with
  | ok p =>
    intro v H' V' s hv
    obtain ⟨a, e, h1, h2, h3⟩ := hv
    refine g v H' V' (st.trans s) ⟨a, e, h1, ?_, h3⟩
    cases q : H a with
    | none => rfl
    | some o => exact absurd h2 (st.th a (by rw [q]; exact fun z => nomatch z))
  | exc c => exact g
  | bad => exact g
theorem GoalF.bind {α β : Type} {rep1 : Hp → β → α → Prop} {f : M α} {k : α → M PyData} {Q1 : β → Hp → Prop} (g : GoalF K F σ ρ H V (M.bind f k ρ) Q)
    (h : ∀ b a H' V' ρ', Stp K F σ ρ ρ' H V H' V' → rep1 V' b a → GoalF K F σ ρ' H' V' (k a ρ') Q → Q1 b H') : Goal K F σ ρ H V rep1 (f ρ) Q1 := by
  unfold M.bind at g
  cases e : f ρ with
  | ok p =>
    obtain ⟨a, ρ'⟩ := p
    rw [e] at g
    exact fun b H' V' st r => h b a H' V' ρ' st r (GoalF.after st g)
  | exc c => rw [e] at g; exact g
  | bad => rw [e] at g; exact g
theorem GoalF.opt {o : Option PyData} (E : EnvR K F H V σ ρ) (g : GoalF K F σ ρ H V (M.opt o ρ) Q) : ∃ z, o = some z ∧ ∀ v H' V', Ext H V H' V' → HidV K H V' H' v z → Q v H' := by
  cases o with
  | none => exact False.elim g
  | some z => exact ⟨z, rfl, fun v H' V' e r => g v H' V' (E.step e) r⟩
theorem GoalF.lift {m : R PyData} (E : EnvR K F H V σ ρ) (g : GoalF K F σ ρ H V (M.lift m ρ) Q) : GoalR K F σ H V Q m := by
  cases m with
  | ok d => exact fun v H' V' e r => g v H' V' (E.step e) r
  | exc c => exact g
  | bad => exact g
theorem GoalF.ex {f : M PyData} {k : PyData → SM} {D : Ends} {Q1 : VK} (g : GoalS K F V (exO f k ρ) D)
    (h : ∀ v d H' V' ρ', Stp K F σ ρ ρ' H V H' V' → HidV K H V' H' v d → GoalS K F V' (k d ρ') D → Q1 v H') : GoalF K F σ ρ H V (f ρ) Q1 := by
  unfold exO at g
  cases e : f ρ with
  | ok p =>
    obtain ⟨a, ρ'⟩ := p
    rw [e] at g
    exact fun b H' V' st r => h b a H' V' ρ' st r (GoalS.mono st.v g)
  | exc c => rw [e] at g; exact fun H' V' x => g σ H' V' x
  | bad => rw [e] at g; exact g
theorem Stp.notOwn (E : EnvR K F H V σ ρ) (st : Stp K F σ ρ ρ1 H V H1 V1) {a : Addr} (h : H a = none) : ¬ IsOwn σ ρ1 a := fun z => by
  obtain ⟨i, d, q1, q2⟩ := st.own a z
  obtain ⟨b, w1, w2, w3, w4⟩ := E.ow i d q1
  rw [q2] at w1
  cases w1
  obtain ⟨o, q5, _⟩ := w4.there
  rw [h] at q5
  cases q5
theorem OwnAt.show {a : Addr} {d : PyData} (o : OwnAt K V H a d) (hv : V a = none) : ∃ u, H a = some u ∧ Rep K (upd V a u) (.ref a) d := by
  have sv : ∀ u, Same V (upd V a u) := fun u => same_new hv
  cases d with
  | list ds => obtain ⟨vs, e, r⟩ := o; exact ⟨_, e, .lst upd_same (r.mono (sv _))⟩
  | dict ps =>
    rcases o with ⟨kvs, e, r, n⟩ | ⟨xs, ep, e, r⟩
    · exact ⟨_, e, .dk (.inl upd_same) (r.mono (sv _)) n⟩
    · exact ⟨_, e, .dt upd_same (r.mono (sv _))⟩
  | _ => exact o.elim
/-- a hidden thing comes to be seen -/
theorem Stp.show (E : EnvR K F H V σ ρ) (st : Stp K F σ ρ ρ1 H V H1 V1) {a : Addr} {u : HO} (h0 : H a = none) (h1 : V1 a = none) (h2 : H1 a = some u) : Stp K F σ ρ ρ1 H V H1 (upd V1 a u) := by
  have sv : Same V1 (upd V1 a u) := same_new h1
  refine ⟨st.env.show h2 h1 (E.ext.free h0) (st.notOwn E h0), st.v.trans sv, st.keep, st.own, st.shs, fun b q1 q2 => ?_, st.th⟩
  rw [upd_ne (fun z => q2 (by rw [z]; exact h0))]
  exact st.f b q1 q2
theorem EnvR.setHid (E : EnvR K F H V σ ρ) {i : Nat} {p : Addr} {d : PyData} (hv : V p = none) (h0 : F.H0 p = none) (hn : ¬ IsOwn σ ρ p) (r : OwnAt K V H p d) (hl : i ≠ F.ls ∨ F.lent = none) : EnvR K F H V (σ.set i (some (.ref p))) (ρ.set i (.ow d)) := by
  have hlen := E.len
  refine ⟨by simp [hlen], E.ext, fun j e h => ?_, fun j e h => ?_, fun j k a e e' h1 h2 h3 h4 => ?_, fun a ha => ?_, E.tab, E.ob.set fun _ z => nomatch z⟩
  · rcases getElem_set_some h with ⟨_, q, _⟩ | ⟨n, q⟩
    · cases q
    · rw [List.getElem?_set_ne n]; exact E.sh j e q
  · rcases getElem_set_some h with ⟨rfl, q, hi⟩ | ⟨n, q⟩
    · cases q
      exact ⟨p, List.getElem?_set_self (by omega), hv, h0, r⟩
    · rw [List.getElem?_set_ne n]; exact E.ow j e q
  · rcases getElem_set_some h1 with ⟨rfl, _, _⟩ | ⟨n1, q1⟩
    · rcases getElem_set_some h2 with ⟨rfl, _, _⟩ | ⟨n2, q2⟩
      · rfl
      · rcases getElem_set_some h3 with ⟨_, q3, _⟩ | ⟨n3, _⟩
        · rcases getElem_set_some h4 with ⟨z, _, _⟩ | ⟨_, q4⟩
          · exact absurd z n2
          · exact absurd ⟨k, _, q2, by rw [q4, ← q3]⟩ hn
        · exact absurd rfl n3
    · rcases getElem_set_some h2 with ⟨rfl, _, _⟩ | ⟨n2, q2⟩
      · rcases getElem_set_some h4 with ⟨_, q4, _⟩ | ⟨n3, _⟩
        · rcases getElem_set_some h3 with ⟨z, _, _⟩ | ⟨_, q3⟩
          · exact absurd z n1
          · exact absurd ⟨j, _, q1, by rw [q3, ← q4]⟩ hn
        · exact absurd rfl n3
      · rw [List.getElem?_set_ne n1] at h3
        rw [List.getElem?_set_ne n2] at h4
        exact E.dis j k a e e' q1 q2 h3 h4
  · rcases hl with hl | hl
    · rw [List.getElem?_set_ne hl]; exact E.lent a ha
    · rw [hl] at ha; cases ha
end
section
variable {X : Cx} {F : Fr} {e k : Expr} {es : List Expr} {fa fk : M PyData} {fs : M (List PyData)} {pos : Pos}
theorem PMF.pm (h : PMF X F e fa) : PM X F e fa := by
  refine PE.imp h fun σ H Q ⟨V, ρ, E, g⟩ => ⟨V, ρ, E, ?_⟩
  cases ef : fa ρ with
  | exc c => rw [ef] at g; exact g
  | bad => rw [ef] at g; exact g
  | ok pr =>
    obtain ⟨d, ρ'⟩ := pr
    rw [ef] at g
    intro v H' V' st hv
    obtain ⟨a, rfl, h1, h2, h3⟩ := hv
    obtain ⟨u, q1, q2⟩ := h3.show h1
    exact g _ H' _ (st.show E h2 h1 q1) q2
/-- x = e, e a new thing, x keeps it alone -/
def ownFO (i : Nat) (a : M PyData) : SM := exO a fun d ρ => .nx (ρ.set i (.ow d))
def tDNewX (w : World) : TE := fun _ H Q => ∀ p ep, H p = none → Q (.ref p) (upd H p (dX w p [] ep))
theorem pe_dnewX : PE X (.Dict [] [] pos) (tDNewX X.w) := ⟨fun pins s σ H Q I h => by
  obtain ⟨ep, ob⟩ := dx_new (P := X.prog) (w := X.w) (Nat.zero_le _) (beq_eq_false_iff_ne.mpr (Ne.symm (Nat.ne_of_lt I.big))) .nil (Heap.DictOfH.new s.heap)
  exact wpAny_Dict_empty ⟨.ref s.heap.objs.size, _, I.laid (a := s.heap.objs.size) (o := dX X.w s.heap.objs.size [] ep) (t' := s.toks) (fun _ _ q => Heap.get?_push_of_some _ q) (Nat.le_refl _) (ob _), rfl, h _ ep (I.hok.fresh (Nat.le_refl _))⟩⟩
theorem pmf_dnew : PMF X F (.Dict [] [] pos) (cD (.dict [])) := by
  refine PE.imp pe_dnewX fun σ H Q ⟨V, ρ, E, g0⟩ p ep hp => ?_
  exact g0 _ _ _ (E.step (Ext.hid E.sub hp)) ⟨p, rfl, E.sub.free hp, hp, .inr ⟨[], ep, upd_same, .nil⟩⟩
theorem pm_dnew : PM X F (.Dict [] [] pos) (cD (.dict [])) := pmf_dnew.pm
end
end DL
set_option Elab.async false
set_option linter.all false
set_option maxRecDepth 100000
set_option maxHeartbeats 1000000
namespace DL
open PySem PySem.Spec PyProof.Rows L2
variable [TabCtx]
def gCutL (lo hi : Option Int) : PyData → Option PyData
  | .list ds => some (.list (cutD ds lo hi))
  | _ => none
def slcL (a : M PyData) (lo hi : M (Option Int)) : M PyData := M.bind a fun x => M.bind lo fun l => M.bind hi fun h => M.opt (gCutL l h x)
/-- the list is done, and not seen yet -/
theorem LI.hid {K : KW} {F : Fr} {vs : List Nat} {σ : St} {ρ1 ρ' : Rho} {H1 V1 H' V' : Hp} {D : Addr} {ys : List L2.V} {acc : List PyData} (E : EnvR K F H1 V1 σ ρ1) (I : LI K F vs σ ρ1 H1 V1 D (L2.wipe σ vs) (wipeR ρ' vs) H' V' ys acc) (hv : ∀ i ∈ vs, isOw ρ1[i]? = false) :
    Stp K F σ ρ1 (resR ρ1 ρ' vs) H1 V1 H' V' ∧ V' D = none ∧ H' D = some (.lst ys) := by
  refine ⟨⟨E.restore I.env I.sv hv, I.sv, I.kp, fun b h => ?_, fun j d q => ?_, I.fr, I.th⟩, I.vD, I.hD⟩
  · obtain ⟨j, d, h1, h2⟩ := h
    have nj := resR_ow hv h1
    rw [resR_out nj] at h1
    exact I.ho b ⟨j, d, by rw [wipeR_out nj]; exact h1, by rw [wipe_outL nj]; exact h2⟩
  · by_cases hj : j ∈ vs
    · by_cases hl : j < ρ'.length
      · rw [resR_in hj hl] at q
        have h' : ρ1.getD j .no = .sh d := Option.some.inj q
        rw [List.getD_eq_getElem?_getD] at h'
        cases q' : ρ1[j]? with
        | none => rw [q'] at h'; cases h'
        | some s =>
          rw [q'] at h'
          have h' : s = .sh d := h'
          rw [h']
      · rw [List.getElem?_eq_none (by rw [resR_len]; omega)] at q; cases q
    · rw [resR_out hj] at q
      exact I.sh j d hj (by rw [wipeR_out hj]; exact q)
end DL
set_option Elab.async false
set_option linter.all false
set_option maxRecDepth 100000
set_option maxHeartbeats 1000000
namespace DL
open PySem PySem.Spec PyProof.Rows L2
variable [TabCtx]
section
variable {X : Cx} {F : Fr} {c : Expr} {body : List Stmt} {pos : Pos} {ft : M Bool} {fb : SM}
/-- what no rule speaks of -/
def badO : SM := fun _ => .bad
end
section
variable {X : Cx} {F : Fr} {e : Expr} {fa : M PyData} {pos : Pos}
def retF (a : M PyData) : SM := exO a fun d ρ => .rf d ρ
end
/-- a list of things that nothing can change -/
def immC : PyData → Bool
  | .list ds => immL ds
  | _ => false
def immR : R PyData → R PyData
  | .ok d => if immC d = true then .ok d else .bad
  | .exc c => .exc c
  | .bad => .bad
def callF (m : List PyData → R PyData) (a : M (List PyData)) : M PyData := M.bind a fun ds => M.lift (immR (m ds))
end DL
set_option Elab.async false
set_option linter.all false
set_option maxRecDepth 100000
set_option maxHeartbeats 1000000
namespace DL
open PySem PySem.Spec PyProof.Rows L2
variable [TabCtx]
def gIxX : PyData → PyData → Option PyData := fun d k => match d with
  | .dict ps => if keyOk ps k = true then dlook ps k else none
  | _ => none
theorem rep_ref {K : KW} {V : Hp} {y : L2.V} {ps : List (PyData × PyData)} (r : Rep K V y (.dict ps)) : ∃ a, y = .ref a ∧ Rep K V (.ref a) (.dict ps) := by
  cases r with
  | dk h r n => exact ⟨_, rfl, .dk h r n⟩
  | dt h r => exact ⟨_, rfl, .dt h r⟩
section
variable {X : Cx} {F : Fr} {o k x : Expr} {pos : Pos} {fo fk fx : M PyData}
theorem isDX_rep {K : KW} {V H : Hp} (s : Same V H) {a : Addr} {ps : List (PyData × PyData)} (r : Rep K V (.ref a) (.dict ps)) : IsDX K.w H a := by
  cases r with
  | dk h _ _ => exact .inl ⟨_, rd_same s h⟩
  | dt h _ => exact .inr ⟨_, _, s _ _ h⟩
def tDGX (w : World) (td ty : TE) : TE := fun σ H Q => td σ H fun x H1 => ty σ H1 fun y H2 => ∃ a v, x = .ref a ∧ IsDX w H2 a ∧ DGX w H2 a y (some v) ∧ Q v H2
theorem pe_dgetX' {td ty : TE} (hu : X.A.units + 64 < cLine) (ho : PE X o td) (hi : PE X k ty) (hs : NoSl k) : PE X (.Subscript o k pos) (tDGX X.w td ty) := by
  refine ⟨fun pins s σ H Q I h => ?_⟩
  refine subD_of PySem.F.slot_dict_getitem.lookup hs (thn (ho.run pins s σ H _ I h) fun u s1 ⟨x, H1, I1, rx, q1⟩ => thn (hi.run pins s1 σ H1 _ I1 q1) fun iv s2 ⟨y, H2, I2, ry, a, v, ex, isd, g, q2⟩ => ?_)
  subst ex
  obtain rfl : u = Value.ref a := rx
  exact ⟨(isDX_at I2 isd).1, x_getItem (by omega) I2 g ry fun w' s3 I3 rw' => ⟨v, H2, I3, rw', q2⟩⟩
/-- d[k] -/
theorem pm_dix (hu : X.A.units + 64 < cLine) (ho : PM X F o fo) (hk : PM X F k fk) (hs : NoSl k := by exact fun _ _ => rfl) : PM X F (.Subscript o k pos) (op2 gIxX fo fk) := by
  refine PE.imp (pe_dgetX' hu ho hk hs) fun σ H Q ⟨V, ρ, E, g0⟩ => ⟨V, ρ, E, Goal.bind g0 fun x dx H1 V1 ρ1 st1 r1 g1 => ⟨V1, ρ1, st1.env, Goal.bind g1 fun y dy H2 V2 ρ2 st2 r2 g2 => ?_⟩⟩
  obtain ⟨z, ez, q⟩ := Goal.opt st2.env g2
  have s := st2.env.sub
  cases dx with
  | dict ps =>
    have ez : (if keyOk ps dy = true then dlook ps dy else none) = some z := ez
    by_cases ok : keyOk ps dy = true
    · rw [if_pos ok] at ez
      obtain ⟨a, rfl, ra⟩ := rep_ref (r1.mono st2.v)
      obtain ⟨ov, g, l⟩ := Rep.look s ra r2 ok
      rw [ez] at l
      obtain ⟨v, rfl, rv⟩ := l
      exact ⟨a, v, rfl, isDX_rep s ra, g, q _ _ _ (Ext.refl s) rv⟩
    · rw [if_neg ok] at ez; cases ez
  | _ => cases ez
/-- d.get(k), d.get(k, x) -/
def isDict : PyData → Bool
  | .dict _ => true
  | _ => false
def gGet1 (d k : PyData) : Option PyData := match d with
  | .dict ps => if keyOk ps k = true then some ((dlook ps k).getD .none) else none
  | _ => none
def gGet2 (d k x : PyData) : Option PyData := match d with
  | .dict ps => if keyOk ps k = true then some ((dlook ps k).getD x) else none
  | _ => none
def dget1 (fo fk : M PyData) : M PyData := M.bind fo fun d => if isDict d = true then M.bind fk fun k => M.opt (gGet1 d k) else fun _ => .bad
def dget2 (fo fk fx : M PyData) : M PyData := M.bind fo fun d => if isDict d = true then M.bind fk fun k => M.bind fx fun x => M.opt (gGet2 d k x) else fun _ => .bad
def tDGX2 (w : World) (td ty tx : TE) : TE := fun σ H Q => td σ H fun x H1 => ∃ a, x = .ref a ∧ IsDX w H1 a ∧ ty σ H1 fun y H2 => tx σ H2 fun z H3 => ∃ o, DGX w H3 a y o ∧ Q (o.getD z) H3
theorem pe_dgx2 {td ty tx : TE} {apos : Pos} (hu : X.A.units + 64 < cLine) (ho : PE X o td) (he : PE X k ty) (hf : PE X x tx) (m : M2 X o "get" apos k x pos) : PE X (.Call (.Attribute o "get" apos) [k, x] [] pos) (tDGX2 X.w td ty tx) := by
  refine ⟨fun pins s σ H Q I h => ?_⟩
  refine wpAny_Call_method m.base m.few m.line PySem.F.plainAttrs_dict PySem.F.slot_dict_get PySem.F.type_dict_get (thn (ho.run pins s σ H _ I h) fun u s1 ⟨x, H1, I1, rx, a, ex, d, q1⟩ => ?_)
  subst ex
  obtain rfl : u = Value.ref a := rx
  obtain ⟨t1, t2, _⟩ := isDX_at I1 d
  refine ⟨t1, t2, ?_⟩
  rw [m.trees]
  refine Calls.callWith_builtin rfl (Calls.evalArgs_plain (Calls.spliced_cons (thn (he.run pins s1 σ H1 _ I1 q1) fun iv s2 ⟨y, H2, I2, ry, q2⟩ =>
    Calls.spliced_cons (thn (hf.run pins s2 σ H2 _ I2 q2) fun fv s3 ⟨z, H3, I3, rz, ov, g, q3⟩ => Calls.spliced_nil ?_))))
  exact x_get2 (by omega) I3 g ry rz fun w' s4 I4 rw' => ⟨_, H3, I4, rw', q3⟩
theorem pm_dget2 {apos : Pos} (hu : X.A.units + 64 < cLine) (ho : PM X F o fo) (hk : PM X F k fk) (hx : PM X F x fx) (m : M2 X o "get" apos k x pos := by exact ⟨rfl, rfl, rfl, rfl⟩) : PM X F (.Call (.Attribute o "get" apos) [k, x] [] pos) (dget2 fo fk fx) := by
  refine PE.imp (pe_dgx2 hu ho hk hx m) fun σ H Q ⟨V, ρ, E, g0⟩ => ⟨V, ρ, E, Goal.bind g0 fun x dx H1 V1 ρ1 st1 r1 g1 => ?_⟩
  cases dx with
  | dict ps =>
    obtain ⟨a, rfl, ra⟩ := rep_ref r1
    refine ⟨a, rfl, isDX_rep st1.env.sub ra, V1, ρ1, st1.env, Goal.bind g1 fun y dy H2 V2 ρ2 st2 r2 g2 => ⟨V2, ρ2, st2.env, Goal.bind g2 fun z dz H3 V3 ρ3 st3 r3 g3 => ?_⟩⟩
    obtain ⟨zz, ez, q⟩ := Goal.opt st3.env g3
    have s := st3.env.sub
    obtain ⟨ok, rfl⟩ := ite_some (show (if keyOk ps dy = true then some ((dlook ps dy).getD dz) else none) = some zz from ez)
    obtain ⟨ov, g, l⟩ := Rep.look s ((ra.mono st2.v).mono st3.v) (r2.mono st3.v) ok
    refine ⟨ov, g, q _ _ _ (Ext.refl s) ?_⟩
    cases el : dlook ps dy with
    | none => rw [el] at l; have l : ov = none := l; rw [l]; exact r3
    | some d => rw [el] at l; obtain ⟨v, rfl, rv⟩ := l; exact rv
  | _ => exact False.elim g1
end
theorem RepK.length {K : KW} {V : Hp} : ∀ {kvs : List (Key × L2.V)} {ps : List (PyData × PyData)}, RepK K V kvs ps → kvs.length = ps.length
  | _, _, .nil => rfl
  | _, _, .cons _ t => by simp [RepK.length t]
theorem RepT.length {K : KW} {V : Hp} : ∀ {kvs : List (NestedKey × Addr × L2.V)} {ps : List (PyData × PyData)}, RepT K V kvs ps → kvs.length = ps.length
  | _, _, .nil => rfl
  | _, _, .cons _ _ _ _ t => by simp [RepT.length t]
/-- d[k] = e, d an own dict in slot i -/
def dsetO (i : Nat) (fk fv : M PyData) : SM := exO fv fun dv ρ => if isOwn1 ρ[i]? = true then exO fk (fun dk ρ => match ρ[i]? with
  | some (.ow (.dict ps)) => if keyOk ps dk = true ∧ ps.length < LIM then .nx (ρ.set i (.ow (.dict (dput ps dk dv)))) else .bad
  | _ => .bad) ρ else .bad
end DL
set_option Elab.async false
set_option linter.all false
set_option maxRecDepth 100000
set_option maxHeartbeats 1000000
namespace DL
open PySem PySem.Spec PyProof.Rows L2
variable [TabCtx]
inductive RepS (K : KW) (H0 V' H' : Hp) : List L2.V → List Sl → List Addr → Prop
  | nil : RepS K H0 V' H' [] [] []
  | sh {v : L2.V} {d : PyData} {vs : List L2.V} {ss : List Sl} {as : List Addr} : Rep K V' v d → RepS K H0 V' H' vs ss as → RepS K H0 V' H' (v :: vs) (.sh d :: ss) as
  | ow {a : Addr} {d : PyData} {vs : List L2.V} {ss : List Sl} {as : List Addr} : V' a = none → H0 a = none → OwnAt K V' H' a d → a ∉ as → RepS K H0 V' H' vs ss as → RepS K H0 V' H' (.ref a :: vs) (.ow d :: ss) (a :: as)
def xN : M (List Sl) := M.pure []
def xSh (a : M PyData) (r : M (List Sl)) : M (List Sl) := M.bind a fun x => M.bind r fun xs => M.pure (.sh x :: xs)
def xOw (a : M PyData) (r : M (List Sl)) : M (List Sl) := M.bind a fun x => M.bind r fun xs => M.pure (.ow x :: xs)
section
variable {X : Cx} {F : Fr} {e : Expr} {es : List Expr} {fa : M PyData} {fs : M (List Sl)} {pos : Pos}
def setL : List Nat → List Sl → Rho → Rho
  | i :: is, s :: ss, ρ => setL is ss (ρ.set i s)
  | _, _, ρ => ρ
/-- a, b, .. = e1, e2, .. -/
def parO (is : List Nat) (f : M (List Sl)) : SM := exO f fun ss ρ => if ss.length = is.length then .nx (setL is ss ρ) else .bad
theorem RepS.length {K : KW} {H0 V' H' : Hp} : ∀ {vs : List L2.V} {ss : List Sl} {as : List Addr}, RepS K H0 V' H' vs ss as → vs.length = ss.length
  | _, _, _, .nil => rfl
  | _, _, _, .sh _ t => by simp [t.length]
  | _, _, _, .ow _ _ _ _ t => by simp [t.length]
end
end DL
set_option Elab.async false
set_option linter.all false
set_option maxRecDepth 100000
set_option maxHeartbeats 1000000
namespace DL
open PySem PySem.Spec PyProof.Rows L2
end DL
set_option Elab.async false
set_option linter.all false
set_option maxRecDepth 100000
set_option maxHeartbeats 1000000
namespace DL
open PySem PySem.Spec PyProof.Rows L2
end DL
set_option Elab.async false
set_option linter.all false
set_option maxRecDepth 100000
set_option maxHeartbeats 1000000
namespace DL
open PySem PySem.Spec PyProof.Rows L2
variable [TabCtx]
/-- the keys of the dict at d -/
def Itx (w : World) (d : Addr) (xs : List (NestedKey × Addr × L2.V)) (ep : Nat) : It :=
  ⟨fun i H => H d = some (dX w d xs ep) ∧ i < xs.length, fun i H x H' => H' = H ∧ ∃ k b v, xs[i]? = some (k, b, v) ∧ x = .ref b, fun i H => H d = some (dX w d xs ep) ∧ xs.length ≤ i⟩
theorem xok_at {P : Program} {w : World} {H : Hp} {h : Heap} {d : Addr} {xs : List (NestedKey × Addr × L2.V)} {ep : Nat} (ok : HOk P w H h) (e : H d = some (dX w d xs ep)) : (d == sysModules) = false ∧ ∃ o es, h.get? d = some o ∧ o.ExactDict ∧ o.data = .dict es ep ∧ es.size = xs.length ∧
    ∀ (i : Nat) k b v, xs[i]? = some (k, b, v) → ∃ en : DictEntry, es[i]? = some en ∧ en.key = .ref b := by
  obtain ⟨⟨z, y, nd, us, o, es, r, h1, h2, h3, h4⟩, _, _⟩ := (show ObjOk P w H h d (dX w d xs ep) from ok d _ e)
  have hl : xs.length = us.length := Paired.length r
  refine ⟨y, o, es, h1, h2, h3, by rw [← Array.length_toList, h4, List.length_map, hl], fun i k b v hi => ?_⟩
  obtain ⟨u, hu, g1, g2, _⟩ := L2.paired_get r hi
  refine ⟨⟨u.1.hash w, .ref u.2.1, u.2.2⟩, ?_, ?_⟩
  · rw [← Array.getElem?_toList, h4, List.getElem?_map, hu]; rfl
  · show Value.ref u.2.1 = .ref b
    rw [← g2]
theorem turn_x {P : Program} {w : World} {K : PySem.W.Frag} {tg : Expr} {d : Addr} {xs : List (NestedKey × Addr × L2.V)} {ep : Nat} (it : Addr) : Turn P w K tg (Itx w d xs ep) [it] it (fun i h => h.IsKeyIter it d i xs.length ep) where
  mem := List.mem_singleton.mpr rfl
  obj := fun i h ⟨oi, e, c, dd⟩ b hb => by
    rw [List.mem_singleton.mp hb]
    exact ⟨oi, e, fun v z => by rw [dd] at z; cases z⟩
  keep := fun i h h' st k => st.at fun oi e => k it (List.mem_singleton.mpr rfl) oi e
  item := by
    intro X hP hw hK hc i pins s σ H E I hf st ⟨hd, hi⟩
    subst hP hw hK
    obtain ⟨f0, f1, f2, f3, f4, f5⟩ := hf it (List.mem_singleton.mpr rfl)
    obtain ⟨hs, o, es, g1, g2, g3, g4, g5⟩ := xok_at I.hok hd
    obtain ⟨⟨k, b, v⟩, hx⟩ : ∃ p, xs[i]? = some p := ⟨xs[i], List.getElem?_eq_getElem hi⟩
    obtain ⟨en, he, hk⟩ := g5 i k b v hx
    refine L2.next_key_item st g1 g3 g4 he fun h' st' sb => ?_
    have I1 : L2.Inv X pins σ H { s with heap := h' } := I.turned (t' := s.toks) (fun b ob hb e => (sb.2 b hb).trans e) f0 f1 f3 f4 f5
    obtain ⟨oi, e, c, dd⟩ := id st'
    refine ⟨en.key, rfl, go_of (s := { s with heap := h' }) e c dd (by decide) ⟨.ref b, H, I1, by rw [hk]; rfl, ⟨rfl, k, b, v, hx, rfl⟩, st', fun b hb => (hf b hb).1⟩⟩
  done := by
    intro X hP hw hK hc i pins s σ H E I hf st ⟨hd, hi⟩
    subst hP hw hK
    obtain ⟨f0, f1, f2, f3, f4, f5⟩ := hf it (List.mem_singleton.mpr rfl)
    obtain ⟨hs, o, es, g1, g2, g3, g4, g5⟩ := xok_at I.hok hd
    exact L2.next_key_end (I.ok.hd hc) st g1 g3 g4 hi fun h' eb => ⟨rfl, I.turned (t' := s.toks) (fun b ob hb e => eb b ob hb e) f0 f1 f3 f4 f5⟩
  self := fun A i s Q E st h => wpAny_pyIter_keyiter st h
def keysOf : PyData → Option (List PyData)
  | .dict ps => if (ps.all fun p => isTupD p.1) = true then some (ps.map (·.1)) else none
  | _ => none
def dictI (a : M PyData) : M (List PyData) := M.bind a fun d => M.opt (keysOf d)
theorem RepT.key {K : KW} {V : Hp} : ∀ {xs : List (NestedKey × Addr × L2.V)} {ps : List (PyData × PyData)} (i : Nat) {d : PyData}, RepT K V xs ps → (ps.map (·.1))[i]? = some d → ∃ k b v, xs[i]? = some (k, b, v) ∧ Rep K V (.ref b) d
  | _, _, _, _, .nil, h => by simp at h
  | _, _, 0, _, .cons q n z r t, h => by
    have e := Option.some.inj h
    subst e
    exact ⟨_, _, _, rfl, q⟩
  | _, _, i + 1, _, .cons q n z r t, h => by
    obtain ⟨k, b, v, h1, h2⟩ := RepT.key i t (by simpa using h)
    exact ⟨k, b, v, by simpa using h1, h2⟩
theorem RepT.len {K : KW} {V : Hp} : ∀ {xs : List (NestedKey × Addr × L2.V)} {ps : List (PyData × PyData)}, RepT K V xs ps → xs.length = ps.length
  | _, _, .nil => rfl
  | _, _, .cons _ _ _ _ t => by simp [RepT.len t]
theorem itX {K : KW} {a : Addr} {xs : List (NestedKey × Addr × L2.V)} {ep : Nat} {V : Hp} {ps : List (PyData × PyData)} (h : V a = some (dX K.w a xs ep)) (r : RepT K V xs ps) : ItD K (Itx K.w a xs ep) V (ps.map (·.1)) := by
  intro i H' V' s1 s2
  have hq : H' a = some (dX K.w a xs ep) := s2 _ _ (s1 _ _ h)
  have hl := RepT.len r
  refine ⟨fun d hd => ?_, fun e => ⟨hq, by rw [hl, e, List.length_map]; exact Nat.le_refl _⟩⟩
  obtain ⟨k, b, v, h1, h2⟩ := RepT.key i r hd
  refine ⟨⟨hq, (List.getElem?_eq_some_iff.mp h1).1⟩, fun x H'' ⟨e, k', b', v', h3, ex⟩ => ?_⟩
  subst e ex
  rw [h1] at h3
  cases h3
  exact ⟨V', Ext.refl s2, h2.mono s1⟩
def iDict (w : World) (tl : TE) : TI := fun σ H R => tl σ H fun x H1 => ∃ a xs ep, x = .ref a ∧ H1 a = some (dX w a xs ep) ∧ R (Itx w a xs ep) H1
section
variable {X : Cx} {F : Fr} {tg l : Expr} {fa : M PyData}
theorem pi_dict {tl : TE} (hl : PE X l tl) : PI X tg l (iDict X.w tl) := by
  refine ⟨fun pins s σ H R I h => ?_⟩
  refine thn (hl.run pins s σ H _ I h) fun v s1 ⟨x, H1, I1, r1, a, xs, ep, ex, hx, q⟩ => ?_
  subst ex
  cases r1
  obtain ⟨hs, o, es, g1, g2, g3, g4, g5⟩ := xok_at I1.hok hx
  refine L2.iter_keys hs g1 g2 g3 (pi_one (tk := s1.toks) I1 _ (turn_x _) ⟨_, Heap.get?_push_size _ rfl, rfl, ?_⟩ q)
  rw [g4]; rfl
theorem pmi_dict (h : PM X F l fa) : PMI X F tg l (dictI fa) := by
  refine PI.imp (pi_dict h) fun σ H R ⟨V, ρ, E, g0⟩ => ⟨V, ρ, E, Goal.bind g0 fun x dx H1 V1 ρ1 st1 r1 g1 => ?_⟩
  obtain ⟨z, ez, q⟩ := Goal.opt st1.env g1
  have s := st1.env.sub
  cases r1 with
  | @dk a kvs ps ha ra n =>
    have ez : (if (ps.all fun p => isTupD p.1) = true then some (ps.map (·.1)) else none) = some z := ez
    have hc : (ps.all fun p => isTupD p.1) = true := by
      by_cases hc : (ps.all fun p => isTupD p.1) = true
      · exact hc
      · rw [if_neg hc] at ez; cases ez
    exact absurd (ra.plains hc) n
  | @dt a xs ep ps ha ra =>
    have ez : (if (ps.all fun p => isTupD p.1) = true then some (ps.map (·.1)) else none) = some z := ez
    have hc : (ps.all fun p => isTupD p.1) = true := by
      by_cases hc : (ps.all fun p => isTupD p.1) = true
      · exact hc
      · rw [if_neg hc] at ez; cases ez
    rw [if_pos hc] at ez
    cases ez
    exact ⟨a, xs, ep, rfl, s _ _ ha, q _ _ _ (Ext.refl s) (itX ha ra)⟩
  | _ => cases ez
end
end DL
set_option Elab.async false
set_option linter.all false
set_option maxRecDepth 100000
set_option maxHeartbeats 1000000
namespace DL
open PySem PySem.Spec PyProof.Rows L2
variable [TabCtx]
/-- k tells v and does nothing else -/
def CSem (X : Cx) (k : Sem Value) (v : L2.V) : Prop := ∀ (pins : List (Addr × Obj)) (s : Shared) (σ : L2.St) (H : Hp) (Q : Value → Shared → Prop), L2.Inv X pins σ H s → (∀ u s', L2.Inv X pins σ H s' → L2.RelV v u → Q u s') → wpAny (model X.prog X.w) X.A k Q X.xe s
inductive PairsC (X : Cx) : List (Sem Value × Sem Value) → List (Key × L2.V) → Prop
  | nil : PairsC X [] []
  | cons {a b : Sem Value} {k : Key} {v : L2.V} {ps : List (Sem Value × Sem Value)} {kvs : List (Key × L2.V)} : CSem X a (kV k) → CSem X b v → PairsC X ps kvs → PairsC X ((a, b) :: ps) ((k, v) :: kvs)
section
variable {X : Cx} {F : Fr} {pos : Pos}
theorem PairsC.len {ps : List (Sem Value × Sem Value)} {kvs : List (Key × L2.V)} (h : PairsC X ps kvs) : ps.length = kvs.length := by
  induction h with
  | nil => rfl
  | cons _ _ _ ih => rw [List.length_cons, List.length_cons, ih]
end
end DL
set_option Elab.async false
set_option linter.all false
set_option maxRecDepth 100000
set_option maxHeartbeats 2000000
namespace HD
open PySem PySem.Spec PyProof.Rows L2 HotX
section
variable {prog : Program} {w : World} {A : Around} {E : Value → Shared → Prop} {s : Shared}
theorem next_list_end_hot {it l x1 : Addr} {i : Nat} {items : Array Value} {Q : Option Value → Shared → Prop} (hot : HotAt A x1 s.heap) (hit : s.heap.IsListIter it l i) (hl : s.heap.IsList l items) (hx : items[i]? = none)
    (hne : x1 ≠ it) (hQ : ∀ h', Heap.ExtBut it s.heap h' → Q none { s with heap := h' }) : wpAny (model prog w) A (pyNext (.ref it)) Q E s := by
  obtain ⟨o, ho, hc, hd⟩ := id hit
  obtain ⟨ol, hol, _, nl, hdl⟩ := hl
  obtain ⟨hh, o1, vs1, h1, d1, c1⟩ := hot
  unfold pyNext
  refine wpAny_bind (wpAny_attempt (wpAny_callSpecial?_slot (name := Str.ofString "__next__") hit.typeIs slot_listiter_next
    (wpAny_call_entry slot_listiter_next hit.typeIs entry_listiter_next ?_ (args_listiter_next _))))
  show wpAny _ _ (field (.ref it) 0 >>= _) _ _ s
  refine wpAny_bind (wpAny_field ho hd (x := .ref l) rfl ?_)
  show wpAny _ _ (if (Value.ref l == Value.none) = true then _ else _) _ _ s
  rw [if_neg (show ¬ ((Value.ref l == Value.none) = true) from Bool.false_ne_true)]
  show wpAny _ _ (field (.ref it) 1 >>= _) _ _ s
  refine wpAny_bind (wpAny_field ho hd (x := .int i 0) rfl ?_)
  show wpAny _ _ (seqItems? (.ref l) >>= _) _ _ s
  refine wpAny_bind (wpAny_seqItems hol hdl ?_)
  simp only [Int.toNat_natCast, hx]
  refine wpAny_bind (wpAny_rule (wpAny_bind (wpAny_setField ho hd (by simp) ?_)))
  show wpAny _ _ (newExc (.type "StopIteration") [] >>= _) _ _ _
  refine wpAny_bind ?_
  simp only [newExc, newTuple]
  refine wpAny_bind (wpAny_newObj_type ?_ (by size_fits))
  refine wpAny_bind (m := firstArgMember _ _) (wpAny_of_eq (a := Value.none) (by first | rfl | (simp only [firstArgMember]; rfl)) ?_)
  refine wpAny_newObj_type ?_ (by size_fits)
  have h1' : (s.heap.update it (Obj.mapFields fun x => x.setIfInBounds 0 Value.none)).get? x1 = some o1 := by rw [Heap.get?_update_other _ _ (Ne.symm hne)]; exact h1
  refine raiseNew_hot ⟨hh, o1, vs1, Heap.get?_push_of_some _ (Heap.get?_push_of_some _ h1'), d1, c1⟩ (Nat.ne_of_lt (Heap.lt_size (Heap.get?_push_of_some _ h1'))) (Heap.get?_push_size _ rfl) rfl (by first | (simp; done) | (simp; omega) | (simp only [Array.size_append]; simp; omega)) ?_
  refine wpAny_bind (wpAny_isInstance (T := "StopIteration") (b := true) ⟨_, Heap.get?_update_self _ (Heap.get?_push_size _ rfl) rfl, rfl⟩ isSubtype_stop ?_)
  refine wpAny_pure (hQ _ fun b ob hb e => ?_)
  have e1 : (s.heap.update it (Obj.mapFields fun x => x.setIfInBounds 0 Value.none)).get? b = some ob := by rw [Heap.get?_update_other _ _ (Ne.symm hb)]; exact e
  rw [Heap.get?_update_other _ _ (Nat.ne_of_gt (Heap.lt_size (Heap.get?_push_of_some _ e1)))]
  exact Heap.get?_push_of_some _ (Heap.get?_push_of_some _ e1)
theorem hot_ne {x1 it l : Addr} {i : Nat} {h : Heap} (hot : HotAt A x1 h) (hit : h.IsListIter it l i) : x1 ≠ it := by
  obtain ⟨_, o1, vs1, h1, d1, c1⟩ := hot
  obtain ⟨o, ho, hc, hd⟩ := hit
  intro e
  subst e
  rw [h1] at ho
  cases ho
  rw [d1] at hd
  cases hd
  simp at c1
theorem HotAt.kept {x1 : Addr} {h h' : Heap} (hot : HotAt A x1 h) (k : ∀ o, h.get? x1 = some o → h'.get? x1 = some o) : HotAt A x1 h' := by
  obtain ⟨hh, o1, vs1, h1, d1, c1⟩ := hot
  exact ⟨hh, o1, vs1, k _ h1, d1, c1⟩
end
theorem walks_listH {prog : Program} {w : World} {A : Around} (I ax x1 : Addr) (hne : ax ≠ I) (items : Array Value) :
    Walks prog w A I [I, ax, x1] [I] items.size (fun i v => items[i]? = some v) (fun i h => h.IsListIter I ax i ∧ h.IsList ax items ∧ HotAt A x1 h) where
  sub := fun b hb => by simp at hb; simp [hb]
  frame := fun _ _ _ st hk => ⟨st.1.at fun o e => hk I (by simp) o e, st.2.1.at fun o e => hk ax (by simp) o e, HotAt.kept st.2.2 fun o e => hk x1 (by simp) o e⟩
  item := fun i s Q E hi st hQ => by
    have hn := hot_ne st.2.2 st.1
    refine wpAny_pyNext_list_item st.1 st.2.1 (x := items[i]) (by simp [hi]) fun h' hit' hs' => ?_
    exact hQ _ h' s.toks (by simp [hi]) ⟨hit', st.2.1.extBut hs'.extBut hne, HotAt.kept st.2.2 fun o e => hs'.extBut x1 o hn e⟩ fun b o hb e => hs'.extBut b o (fun h => hb (by simp [h])) e
  done := fun s Q E st hQ => next_list_end_hot st.2.2 st.1 st.2.1 (by simp) (hot_ne st.2.2 st.1) fun h' he' => hQ h' s.toks fun b o hb e => he' b o (fun h => hb (by simp [h])) e
  self := fun _ _ _ _ st hQ => wpAny_pyIter_listiter st.1 hQ
section
variable {prog : Program} {w : World} {A : Around} {E : Value → Shared → Prop} {s : Shared} {l : Addr} {xs : Array (Int × Tok)}
theorem sum_hot {x1 : Addr} {Q : Value → Shared → Prop} (hot : HotAt A x1 s.heap) (hl : s.heap.IsList l (intItems xs))
    (h : ∀ h' tk t', (∀ b o, s.heap.get? b = some o → h'.get? b = some o) → Q (.int (preSum (numAt xs) xs.size) t') { s with heap := h', toks := tk }) :
    wpAny (model prog w) A (call (.builtin "sum") [.ref l]) Q E s := by
  refine call_sum_walkG (iter_intList hl fun s₂ e st hfp hlI => ?_)
  subst e
  obtain ⟨hh, o1, vs1, h1, d1, c1⟩ := hot
  have hx : x1 < s.heap.objs.size := Heap.lt_size h1
  refine ⟨_, _, _, _, _, _, numAt xs, rfl, walks_listH (A := A.in1) _ l x1 hlI (intItems xs), ⟨st.1, st.2, hh, o1, vs1, Heap.get?_push_of_some _ h1, d1, c1⟩, fun b hb => ?_, (fun _ _ => intItems_at), fun h' tk t' hk => ?_⟩
  · rcases List.mem_cons.mp hb with rfl | hb
    · exact hfp _ (by simp)
    · rcases List.mem_cons.mp hb with rfl | hb
      · exact hfp _ (by simp)
      · have : b = x1 := by simpa using hb
        subst this
        show b < (s.heap.push _).objs.size
        rw [Heap.size_push]; exact Nat.lt_succ_of_lt hx
  · have := h h' tk t' (old_kept hk)
    simpa [intItems] using this
end
end HD
set_option Elab.async false
set_option linter.all false
set_option maxRecDepth 100000
set_option maxHeartbeats 2000000
namespace HD
open PySem PySem.Spec PyProof.Rows L2 L2H HotX
section
variable {X : Cx}
/-- e tells g of x, and does nothing else -/
def Tells (te : TE) (j : Nat) (x y : V) : Prop := ∀ (σ : L2.St) (H : Hp) (Q : VK), σ[j]? = some (some x) → Q y H → te σ H Q
def tLcH (K : PySem.W.Frag) (ti te : TE) (j : Nat) : TE := fun σ H Q => ti σ H fun v H1 => ∃ (a : Addr) (xs : List V) (g : V → V), v = .ref a ∧ H1 a = some (.lst xs) ∧ xs.length ≤ 1000 ∧ (∀ x ∈ xs, Tells te j x (g x)) ∧ ∀ D, H1 D = none → Q (.ref D) (upd H1 D (.lst (xs.map g)))
theorem pe_lcH {elt iter : Expr} {x : Str} {px : Pos} {scope : Scope} {j : Nat} {pos : Pos} {ti te : TE} {p : Addr × Obj} (hot : Hot1 X.A p) (hp : p ∈ X.pn) (hN : X.N.Nodup) (hj : X.N[j]? = some x) (hi : PE X iter ti) (ok : BlkOk X.N X.env.scope scope [(x, j)])
    (hg : ∀ (s : Shared) (H : Hp) (C : Addr) (cl : List (Str × Addr)) (fp : List Addr), PG (X.blk s H scope (compEnvC scope cl C X.env) fp) (.Name x px) (gName j))
    (he : ∀ (s : Shared) (H : Hp) (C : Addr) (cl : List (Str × Addr)) (fp : List Addr), PE (X.blk s H scope (compEnvC scope cl C X.env) fp) elt te) (hs : ∀ x, foldedSetIterable iter X.env x = pure x := by intro _; rfl) :
    PE X (.ListComp elt [⟨.Name x px, iter, [], 0⟩] scope pos) (tLcH X.K ti te j) := by
  refine ⟨fun pins s σ H Q I h => ?_⟩
  rw [eval_ListComp]
  have hfree : ∀ y ∈ scope.names, y.2 = .free → ∃ c, X.env.cells.lookup y.1 = some c := fun y hy e => by
    rcases ok.free y hy e with k | k
    · exact I.ok.has _ (.inl k)
    · exact I.ok.has _ (.inr k)
  refine wpAny_comprehension_free (use := none) rfl hs (closure_ok hfree) ok.kind (fun y hy e => by rw [ok.uniq y hy, e]) (thn (hi.run pins s σ H _ I h) fun u s1 hu => ?_)
  obtain ⟨v, H1, I1, rv, a, xs, g, rfl, ha, hxl, hte, hq⟩ := hu
  obtain rfl : u = Value.ref a := rv
  obtain ⟨its, rvs, pl, hz⟩ := I1.list (.inl (.inl ha))
  have hlen := rvs.length
  refine wpAny_pyIter_list pl.isList ?_
  generalize hit : s1.heap.objs.size = it
  have nit : H1 it = none := I1.hok.fresh (Nat.le_of_eq hit)
  have hait : a ≠ it := fun z => by rw [z, nit] at ha; cases ha
  generalize hs2 : ({ s1 with heap := s1.heap.push { cls := .type "list_iterator", data := .fields #[.ref a, .int 0 0] } } : Shared) = s2
  have h2 : s2.heap = s1.heap.push { cls := .type "list_iterator", data := .fields #[.ref a, .int 0 0] } := by rw [← hs2]
  have I2 : Inv X pins σ H1 s2 := by rw [← hs2]; exact I1.kept (t' := s1.toks) fun b o e => Heap.get?_push_of_some _ e
  have f2 : FpOk X pins H1 it := I1.fpOk (Nat.le_of_eq hit) nit
  have lit : it < s2.heap.objs.size := by rw [h2, Heap.size_push, ← hit]; exact Nat.lt_succ_self _
  have st2 : s2.heap.IsListIter it a 0 := by rw [h2, ← hit]; exact ⟨_, Heap.get?_push_size _ rfl, rfl, rfl⟩
  refine wpAny_newObj_type (newEnv_comp ?_) (by show 0 ≤ sizeLine; decide)
  generalize hD : s2.heap.objs.size = D
  have hDn : H1 D = none := I2.hok.fresh (Nat.le_of_eq hD)
  have hq := hq D hDn
  have hDit : D ≠ it := by rw [← hD]; exact Nat.ne_of_gt lit
  generalize hs3 : ({ s2 with heap := s2.heap.push { cls := .type "list", data := .seq ([] : List Value).toArray } } : Shared) = s3
  have h3 : s3.heap = s2.heap.push { cls := .type "list", data := .seq ([] : List Value).toArray } := by rw [← hs3]
  have I3 : Inv X pins σ (upd H1 D (.lst [])) s3 := by
    rw [← hs3]
    refine I2.laid (t' := s2.toks) (fun b o e => Heap.get?_push_of_some _ e) (Nat.le_of_eq hD) ⟨Nat.zero_le _, [], 0, .nil, ?_⟩
    rw [← hD]
    exact Heap.get?_push_size _ rfl
  have f3 : ∀ b ∈ [it], FpOk X pins (upd H1 D (.lst [])) b ∧ b < s3.heap.objs.size := fun b hb => by
    have e : b = it := by simpa using hb
    subst e
    refine ⟨⟨?_, f2.2⟩, by rw [h3, Heap.size_push]; exact Nat.lt_succ_of_lt lit⟩
    rw [upd_ne (Ne.symm hDit)]; exact nit
  have I4 := block_start I3 ok hN f3
  have pg := hg s3 (upd H1 D (.lst [])) s3.heap.objs.size (cellsFrom (s3.heap.objs.size + 1) scope.names (cloFrom X.env.cells scope.names [])) [it]
  have pe := he s3 (upd H1 D (.lst [])) s3.heap.objs.size (cellsFrom (s3.heap.objs.size + 1) scope.names (cloFrom X.env.cells scope.names [])) [it]
  show codeAny _ _ (.compStart (.ListComp elt [⟨.Name x px, iter, [], 0⟩] scope pos) 0 (.ref it) (.ref D) (compEnvC scope (cellsFrom (s3.heap.objs.size + 1) scope.names (cloFrom X.env.cells scope.names [])) s3.heap.objs.size X.env)) (compPost (model X.prog X.w) X.A X.xe none _ (.ref D) s3.heap.objs.size) { s3 with heap := pushCells (s3.heap.push { cls := .type "dict", data := .dict #[] }) scope.names }
  generalize hce : compEnvC scope (cellsFrom (s3.heap.objs.size + 1) scope.names (cloFrom X.env.cells scope.names [])) s3.heap.objs.size X.env = ce at I4 pg pe ⊢
  have cL : ce.locals = s3.heap.objs.size := by subst hce; rfl
  generalize hH3 : upd H1 D (.lst []) = H3 at I3 I4 pg pe f3
  generalize hs4 : ({ s3 with heap := pushCells (s3.heap.push { cls := .type "dict", data := .dict #[] }) scope.names } : Shared) = s4 at I4 ⊢
  have k34 : ∀ b o, s3.heap.get? b = some o → s4.heap.get? b = some o := fun b o e => by rw [← hs4]; exact pushCells_keeps _ _ _ _ (Heap.get?_push_of_some _ e)
  have P3 := I3.pin p (List.mem_append_left _ hp)
  have lp : p.1 < s3.heap.objs.size := Heap.lt_size P3.1
  have I4p : Inv (X.blk s3 H3 scope ce [it]) [p] (wipe σ ([(x, j)].map (·.2))) H3 s4 := I4.pins_of fun q hq => by
    have e : q = p := by simpa using hq
    subst e
    exact ⟨k34 _ _ P3.1, P3.2.1, by show q.1 ≠ ce.locals; rw [cL]; exact Nat.ne_of_lt lp, fun hm => (List.mem_cons.mp (I3.stkSub q.1 hm)).elim P3.2.2.1 P3.2.2.2.1, P3.2.2.2.2⟩
  have st4 : s4.heap.IsListIter it a 0 := by
    refine st2.at fun o e => k34 _ _ ?_
    rw [h3]; exact Heap.get?_push_of_some _ e
  have aD : a ≠ D := fun z => by rw [z, hDn] at ha; cases ha
  have jl : j < X.N.length := (List.getElem?_eq_some_iff.mp hj).1
  have loop : codeAny (model X.prog X.w) X.A (.compLoop (.ListComp elt [⟨.Name x px, iter, [], 0⟩] scope pos) 0 (.ref it) (.ref D) ce) (compPost (model X.prog X.w) X.A X.xe none (EP X pins σ Q) (.ref D) s3.heap.objs.size) s4 := by
    refine compLoop_any (fun n s' => ∃ i, i ≤ xs.length ∧ n = xs.length - i ∧ Inv (X.blk s3 H3 scope ce [it]) [p] (wipe σ ([(x, j)].map (·.2))) (upd H1 D (.lst ((xs.take i).map g))) s' ∧ s'.heap.IsListIter it a i) ?_ xs.length ⟨0, Nat.zero_le _, rfl, by rw [List.take_zero, List.map_nil, hH3]; exact I4p, st4⟩
    rintro n s5 ⟨i, hil, rfl, I5, st5⟩
    have ha5 : upd H1 D (.lst ((xs.take i).map g)) a = some (.lst xs) := by rw [upd_ne aD]; exact ha
    have n5 : upd H1 D (.lst ((xs.take i).map g)) it = none := by rw [upd_ne (Ne.symm hDit)]; exact nit
    obtain ⟨its5, rv5, pl5, _⟩ := I5.list (.inl (.inl ha5))
    have hl5 := rv5.length
    have f5 : FpOk (X.blk s3 H3 scope ce [it]) [p] (upd H1 D (.lst ((xs.take i).map g))) it :=
      ⟨n5, (I5.ok.exf it (by simp)).1, I5.ok.exfs it (by simp), .inl (by simp), fun y c e => (I5.ok.exf it (by simp)).2 y c e, fun q hq => by
        have e : q = p := by simpa using hq
        subst e
        exact (f3 it (by simp)).1.2.2.2.2.2 q (List.mem_append_left _ hp)⟩
    obtain ⟨f50, f51, f52, f53, f54, f55⟩ := id f5
    have pin5 := I5.pin p (by simp)
    obtain ⟨hh, vs1, e1, c1⟩ := hot
    by_cases hlt : i < xs.length
    · obtain ⟨xv, hxv⟩ : ∃ xv, xs[i]? = some xv := ⟨_, List.getElem?_eq_getElem hlt⟩
      obtain ⟨u, hu, ru⟩ := rv5.get hxv
      refine wpAny_pyNext_list_item st5 pl5.isList (x := u) (by simpa using hu) fun h' st' sb => ?_
      have I6 : Inv (X.blk s3 H3 scope ce [it]) [p] (wipe σ ([(x, j)].map (·.2))) (upd H1 D (.lst ((xs.take i).map g))) { s5 with heap := h' } := I5.turned (t' := s5.toks) (fun b o hb e => (sb.2 b hb).trans e) f50 f51 f53 f54 f55
      obtain ⟨o, eo, co, d_o⟩ := id st'
      refine go_of (s := { s5 with heap := h' }) eo co d_o (by decide) ?_
      have I6' := I6.pinned (fp := [it]) (fun b hb => by
        have e : b = it := by simpa using hb
        subst e
        exact f5) (fun b hb => by
        have e : b = it := by simpa using hb
        subst e
        exact ⟨o, eo, fun v z => by rw [d_o] at z; cases z⟩)
      refine thnF (pg.run _ _ _ _ xv u (fun σ' H' => σ' = (wipe σ ([(x, j)].map (·.2))).set j (some xv) ∧ H' = upd H1 D (.lst ((xs.take i).map g))) I6' ru ⟨rfl, rfl⟩) fun _ s8 ⟨σ8, H8, I8, e8, eH8⟩ => ?_
      subst e8 eH8
      refine wpAny_tests_nil ?_
      simp only [if_true]
      have lw : (wipe σ ([(x, j)].map (·.2))).length = X.N.length := by rw [wipe_length]; exact I.len
      refine thnF (pe.run _ s8 _ _ (fun y H' => y = g xv ∧ H' = upd H1 D (.lst ((xs.take i).map g))) I8 (hte xv (List.mem_of_getElem? hxv) _ _ _ (by rw [List.getElem?_set_self (by rw [lw]; exact jl)]) ⟨rfl, rfl⟩)) fun z s10 ⟨yv, H10, I10, r10, ey, eH10⟩ => ?_
      subst ey eH10
      refine app_ok (X := X.blk s3 H3 scope ce [it]) (xs := (xs.take i).map g) I10 upd_same (by rw [List.length_map, List.length_take, sizeLine_eq]; omega) r10 fun s11 I11 => ?_
      refine ⟨xs.length - (i + 1), by omega, i + 1, hlt, rfl, ?_, ?_⟩
      · have e2 : upd (upd H1 D (.lst ((xs.take i).map g))) D (.lst ((xs.take i).map g ++ [g xv])) = upd H1 D (.lst ((xs.take (i + 1)).map g)) := by
          funext b
          by_cases hb : b = D
          · rw [hb, upd_same, upd_same, List.take_add_one, hxv]; simp
          · rw [upd_ne hb, upd_ne hb, upd_ne hb]
        rw [e2] at I11
        refine (I11.unpinned).weak (by rw [List.length_set]) fun k v e => ?_
        by_cases hk : k = j
        · exfalso
          subst hk
          have : (wipe σ ([(x, k)].map (·.2)))[k]? = some none := by
            show (σ.set k none)[k]? = some none
            rw [List.getElem?_set_self (by rw [I.len]; exact jl)]
          rw [this] at e; cases e
        · rw [List.getElem?_set_ne (Ne.symm hk)]; exact e
      · have := I11.pin (it, o) (List.mem_append_right _ (List.mem_append_right _ (mem_pinsAt (by simp) eo)))
        exact st'.at fun o' e' => by
          have : o' = o := by
            have e' : h'.get? it = some o' := e'
            rw [eo] at e'; exact (Option.some.inj e').symm
          subst this
          exact (I11.pin (it, o') (List.mem_append_right _ (List.mem_append_right _ (mem_pinsAt (by simp) eo)))).1
    · have ei : i = xs.length := by omega
      refine next_list_end_hot (x1 := p.1) ⟨hh, p.2, vs1, pin5.1, e1, c1⟩ st5 pl5.isList (by simp; omega) (f55 p (by simp)) fun h' eb => ?_
      have I6 : Inv (X.blk s3 H3 scope ce [it]) [p] (wipe σ ([(x, j)].map (·.2))) (upd H1 D (.lst ((xs.take i).map g))) { s5 with heap := h' } := I5.turned (t' := s5.toks) (fun b o hb e => eb b o hb e) f50 f51 f53 f54 f55
      have I7 : Inv X pins σ (upd H1 D (.lst ((xs.take i).map g))) { s5 with heap := h' } := I3.call' (ch := [it]) I6.os I6.base I6.hok I6.bare fun b hb => ⟨(f3 b hb).1.2.2.2.1, (f3 b hb).1.2.1, (f3 b hb).1.2.2.2.2.1, (f3 b hb).1.2.2.2.2.2⟩
      have nC : upd H1 D (.lst ((xs.take i).map g)) s3.heap.objs.size = none := by
        have z : upd H1 D (.lst ((xs.take i).map g)) ce.locals = none := I6.free
        rw [cL] at z
        exact z
      obtain ⟨mm, hn, _⟩ := I6.loc
      have hn : h'.Ns ce.locals mm := hn
      rw [cL] at hn
      obtain ⟨g0, g1, g2, g3, g4, g5⟩ : FpOk X pins (upd H1 D (.lst ((xs.take i).map g))) s3.heap.objs.size := I3.fpOk (Nat.le_refl _) nC
      refine ⟨mm, hn, fun h'' sb => ⟨.ref D, _, I7.turned (t' := s5.toks) (fun b o hb e => (sb.2 b hb).trans e) g0 g1 g3 g4 g5, rfl, ?_⟩⟩
      rw [ei, List.take_length]
      exact hq
  exact codeAny_compStart_list loop (wpAny_pyIter_listiter st4 loop)
end
end HD
set_option Elab.async false
set_option linter.all false
set_option maxRecDepth 100000
set_option maxHeartbeats 2000000
namespace HD
open PySem PySem.Spec PyProof.Rows L2 L2H HotX
section
variable {X : Cx}
theorem cr_sumH (hc : HotC X) : CallR X (.builtin "sum") (rSum X.K) := by
  intro pins s σ H vs us Q I r h
  obtain ⟨a, ns, rfl, hs, q⟩ := h
  obtain ⟨its, rv, hl, _⟩ := I.list hs
  obtain ⟨x1, hot⟩ := hc.at I
  rw [Vals.ref1 r]
  have hi := rv.ints
  obtain ⟨xs, e⟩ := hi.allInts.items
  have hn : numsOf (intItems xs).toList = ns := by rw [← e]; exact hi.numsOf
  rw [nums_intItems] at hn
  have hl' := hl.isList
  rw [e] at hl'
  refine sum_hot hot hl' fun h' tk t' hk => ?_
  rw [preSum_eq, List.take_of_length_le (by simp), hn]
  exact ⟨.int _, H, I.kept hk, ⟨_, rfl⟩, q⟩
/-- isinstance(e, c), e the handled exception that the context bears -/
theorem call_isH {D : Addr} {p : Addr × Obj} (hp : p ∈ X.pn) (C : ExcC X.K D) (hz : Zc (.ref D) none p.2) (hf : ∃ vs, p.2.data = .fields vs) : CallR X (.builtin "isinstance") (rIsE X.K D p.1) := by
  intro pins s σ H xs us Q I r h
  obtain ⟨c, cv, b, rfl, hcv, e, q⟩ := h
  cases r with
  | cons rx rr =>
    cases rr with
    | cons rt rr =>
      cases rr
      cases rx
      have ec := hcv _ rt
      subst ec
      obtain ⟨hget, _⟩ := I.pin p (List.mem_append_left _ hp)
      obtain ⟨vs, hv⟩ := hf
      have J : PySem.W.InstAt s.heap p.1 p.2 D none := by
        obtain ⟨pa, oc, od, oda, osl⟩ := p
        obtain ⟨h1, h2⟩ := hz
        dsimp only at h1 h2 hv
        subst h1 h2 hv
        exact ⟨hget, rfl, rfl, trivial⟩
      exact PySem.W.kia_one (PySem.W.handS_kitx_exc C.hg C.hk C.hs C.hd C.ha C.hn C.ht C.hm) I.kIn J e (fun z => nomatch z) fun tk => ⟨.bl b, H, I.kept (t' := tk) fun _ _ z => z, rfl, q⟩
end
end HD
set_option Elab.async false
set_option linter.all false
set_option maxRecDepth 100000
set_option maxHeartbeats 2000000
namespace HD
open PySem PySem.Spec PyProof.Rows L2 L2H HotX
/-- what such a def promises of the handled exception p, its arguments and the state -/
abbrev SpP := Addr × Obj → Sp
structure FnHP (P : Program) (w : World) (K : PySem.W.Frag) (mg : Str → Option Value) (base : Heap) (CX : CXT) (k : Nat) (f : Addr) (fd : FuncData) (ps : List Str) (sp : SpP) : Prop where
  len : ∀ p vs H Q E, sp p vs H Q E → vs.length = ps.length
  run : ∀ (A : Around) (outer : List Env) (s : Shared) (H : Hp) (args : Args) (us : List Value) (vs : List V) (Q : VK) (E : XK) (p : Addr × Obj), RoomH k A → Hot1 A p → PinOk outer H s p → Env0 P w K mg base A outer s H → BindsTo s fd args (ps.zip us) → Vals vs us → sp p vs H Q E →
    codeAny (model P w) A (.call (.ref f) args) (CR CX outer P w H s Q E) s
theorem fn_ofHP {CX : CXT} {P : Program} {w : World} {K : PySem.W.Frag} {mg : Str → Option Value} {base : Heap} {k : Nat} {f : Addr} {name qual : Str} {params : Arguments} {body : List Stmt} {scope : Scope} {dV kV doc pm cdv ct oc : Value} {an od : Option Addr}
    {osl : Array (Option Value)} {N ps : List Str} {sp : SpP} (lk : K.lookup f = some ⟨oc, od, .func (PySem.W.fnOf name qual params body scope dV kV doc pm an cdv ct), osl⟩) (hcd : PySem.W.codeIn K cdv qual = true) (S : FnScope N ps scope)
    (len : ∀ p vs H Q E, sp p vs H Q E → vs.length = ps.length)
    (hbody : ∀ (A : Around) (outer : List Env) (s : Shared) (H : Hp) (vs : List V) (Q : VK) (E : XK) (p : Addr × Obj), Hot1 A p → RoomH k (A.deeper (envOfC qual scope s.heap.objs.size f cdv)) → sp p vs H Q E →
      ∃ t, PSs (cxH CX P w K mg base N qual scope f cdv A outer s H E p) body t ∧ t { nx := fun _ H' => Q .non H', rt := Q } (L2.start N vs) H) :
    FnHP P w K mg base CX (k + 1) f (PySem.W.fnOf name qual params body scope dV kV doc pm an cdv ct) ps sp := by
  refine ⟨len, fun A outer s H args us vs Q E p hr hot hpin e0 hb r hsp => ?_⟩
  have hl := len _ _ _ _ _ hsp
  have KX : K.In s.heap := e0.mod.kin.keeps fun b o e => (e0.bs b o e).1
  have lim : s.heap.NoLimit := e0.mod.nolimit.keeps fun b o e => (e0.bs b o e).1
  refine codeAny_call_function hr.depth (KX _ _ lk) rfl S.co S.gen rfl (PySem.W.codeRec_of KX hcd) (hb _ _ _ _ ?_)
  refine wpAny_newFunctionEnv_cells S.kind (fun ⟨n, v⟩ hy => ?_) fun env he s1 x => ?_
  · rcases S.par n (List.of_mem_zip hy).1 with q | q
    · exact .inl q
    · exact .inr ⟨q, PySem.W.cellsFrom_some _ _ _ (.inl q)⟩
  subst he
  refine ⟨lim.keeps x.toInCall.keep, codeAny_func ?_⟩
  obtain ⟨t, ht, hq⟩ := hbody A outer s H vs Q E p hot (hr.deeper _) hsp
  have I := inv_startH (CX := CX) (E := E) (w := w) S hpin e0 hl r x
  refine wpAny_mono (ht.run [] s1 (L2.start N vs) H _ I hq) (fun fl s' hs => ?_) fun e s' hs => hs
  cases fl with
  | ret u =>
    obtain ⟨v, σ', H', J, rv, q⟩ := hs
    exact ⟨v, H', J.os, J.bare, J.base, J.hok, rv, q⟩
  | next =>
    obtain ⟨σ', H', J, q⟩ := hs
    exact ⟨V.non, H', J.os, J.bare, J.base, J.hok, rfl, q⟩
  | brk =>
    obtain ⟨_, _, _, q⟩ := hs
    exact False.elim q
  | cont =>
    obtain ⟨_, _, _, q⟩ := hs
    exact False.elim q
section
variable {X : Cx} {CX : CXT} {k : Nat} {f : Addr} {fd : FuncData} {ps : List Str} {sp : SpP} {E : L2.St → XK} {x : Str} {q pos : Pos} {e : Expr} {es : List Expr} {t : TA}
def tCallP (p : Addr × Obj) (sp : SpP) (E : L2.St → XK) (t : TA) : TE := fun σ H Q => t σ H fun vs H1 => sp p vs H1 Q (E σ)
theorem pe_callHP {p : Addr × Obj} (F : FnHP X.prog X.w X.K X.mg X.base CX k f fd ps sp) (hr : RoomH k X.A) (hot : Hot1 X.A p) (hp : p ∈ X.pn) (hg : Gl X x) (hm : X.mg x = some (.ref f)) (hk : PySem.W.keepIn X.K (.ref f) = true) (hb : Binds X.K fd ps []) (hx : ∀ σ, PassesAt CX X σ (E σ))
    (ha : PA X (e :: es) t) (hdb : (x == ("__debug__" : Str)) = false := by decide) (he : starEach (e :: es) X.env = (false, eval e X.env) :: starEach es X.env := by rfl) (hpl : (backTo pos (starEach es X.env)).any (·.1) = false := by rfl) :
    PE X (.Call (.Name x q) (e :: es) [] pos) (tCallP p sp E t) := by
  refine ⟨fun pins s σ H Q I h => ?_⟩
  refine wpAny_Call_Name_kw (ld_glob I hg hm ?_ hdb)
  refine PySem.W.callWith_K (h₀ := X.base) I.ok.mod.kin hk (thn (ha.run pos pins s σ H _ I h) fun us s1 ⟨vs, H1, I1, r, hsp⟩ => ⟨I1.kIn, ?_⟩) he hpl
  have hl : us.length = ps.length := by rw [← r.length]; exact F.len _ _ _ _ _ hsp
  have b := hb s1 us I1.kIn (by rw [List.append_nil]; exact hl)
  rw [List.append_nil] at b
  have P1 := I1.pin p (List.mem_append_left _ hp)
  have hpin : PinOk X.stack H1 s1 p := ⟨P1.1, P1.2.1, fun hm => (List.mem_cons.mp (I1.stkSub p.1 hm)).elim P1.2.2.1 P1.2.2.2.1, P1.2.2.2.2⟩
  refine wpAny_call (codeAny_mono (F.run X.A X.stack s1 H1 ⟨us, []⟩ us vs Q (E σ) p hr hot hpin I1.env0 b r hsp) fun r s' hq => ?_)
  cases r with
  | error e => exact hx σ pins H1 s1 e s' I1 hq
  | ok fl =>
    cases fl with
    | ret u => exact I1.after hq
    | next => exact False.elim hq
    | brk => exact False.elim hq
    | cont => exact False.elim hq
end
end HD
set_option Elab.async false
set_option linter.all false
set_option maxRecDepth 100000
set_option maxHeartbeats 2000000
namespace HD
open PySem PySem.Spec PyProof.Rows L2 L2H HotX
/-- the clauses, each with `as n` (slot i): what they wish of an exception of the body -/
def wAsM (K : PySem.W.Frag) (len i : Nat) (D : Ends) : List (Value × (Addr → Value → Option Addr → TS)) → WX
  | [] => fun _ _ _ _ => False
  | (c, ts) :: r => fun cls d σ H => ∃ b, PySem.W.exmOne K cls c = some b ∧ (b = true → σ.length = len → ∀ a, H a = none → ts a cls d { nx := fun σ' H' => D.nx (σ'.set i none) H', bk := fun σ' H' => D.bk (σ'.set i none) H', ct := fun σ' H' => D.ct (σ'.set i none) H', rt := D.rt } (σ.set i (some (.ref a))) H) ∧ (b = false → wAsM K len i D r cls d σ H)
inductive AsOk (X : Cx) (n : Str) : List ExceptHandler → List (Value × (Addr → Value → Option Addr → TS)) → Prop
  | nil : AsOk X n [] []
  | cons {x : Str} {c : Value} {ts : Addr → Value → Option Addr → TS} {b₀ : Stmt} {suite : List Stmt} {np pos' : Pos} {hds : List ExceptHandler} {l : List (Value × (Addr → Value → Option Addr → TS))} (hc : Names X x c)
      (hsu : ∀ (a : Addr) (oe : Obj) (cls : Value) (d : Option Addr) (pn : List (Addr × Obj)), L2N.Zn cls d oe → (∃ vs, oe.data = .fields vs) → PSs (X.suite a ((a, oe) :: pn)) (b₀ :: suite) (ts a cls d)) (r : AsOk X n hds l) :
      AsOk X n (.ExceptHandler (some (.Name x np)) (some n) (b₀ :: suite) pos' :: hds) ((c, ts) :: l)
section
variable {X : Cx} {n : Str} {i : Nat} {body : List Stmt} {h₀ : ExceptHandler} {hds : List ExceptHandler} {l : List (Value × (Addr → Value → Option Addr → TS))} {pos : Pos} {tb : WX → TS}
/-- each exception of the body is caught by one of the clauses -/
theorem ps_try_asM (hs : X.stack = X.env :: X.outer) (hf : X.env.frame = some X.env.locals) (hN : X.N.Nodup) (hi : X.N[i]? = some n) (hln : X.env.kindOf n = some .local)
    (hb : ∀ (W : WX) (pn : List (Addr × Obj)) (xe : Value → Shared → Prop), L2N.Takes (X.tr pn xe) W → PassesOwn (model X.prog X.w) X.A X.env xe → PSs (X.tr pn xe) body (tb W))
    (hh : AsOk X n (h₀ :: hds) l) : PS X (.Try body (h₀ :: hds) [] [] pos) (fun D σ H => tb (wAsM X.K X.N.length i D l) D σ H) := by
  refine ⟨fun pins s σ H D I h => ?_⟩
  have ok := I.ok
  have hfr : X.A.frames = some (X.env :: X.outer) := by rw [ok.frames, hs]
  have hloc : Loc X.env.scope n := .inl hln
  have caught : L2N.Takes (X.tr (X.pn ++ pins) fun e s₁ => wpAny (model X.prog X.w) X.A (noteFrame e X.env) (fun _ s₂ => wpAny (model X.prog X.w) X.A (setFlight e none) (fun _ s₃ =>
      wpAny (model X.prog X.w) X.A (handleBy e X.env (h₀ :: hds)) (SP X pins D) X.xe s₃) X.xe s₂) X.xe s₁) (wAsM X.K X.N.length i D l) := by
    rintro u s' ⟨a, B, sI, pins', σ', H', cls, d, rfl, J', nb, up, sky, na, os, ag, wsh⟩
    have J : Inv X pins σ' H' sI := J'.ofTry ok
    show wpAny (model X.prog X.w) X.A (noteFrame (.ref a) X.env) _ _ _
    refine L2N.Sky.land L2N.Zn.steady hfr hf (show Sky B (X.env :: X.outer) a (L2N.Zn cls d) X.env.locals s'.heap by rw [← hs]; exact sky) fun h3 fl3 up3 => ?_
    have J3 : Inv X pins σ' H' { s' with heap := h3 } := J.landed nb fl3.1 (up.trans up3) os ag
    obtain ⟨oe3, vs3, he3, hz3, hd3⟩ := fl3.there
    have nfr : a ∉ frs (X.env :: X.outer) := fun hm => by
      obtain ⟨_, o', e', hnf⟩ := fl3.2.2.1.mem hm
      rw [he3] at e'; cases e'
      exact hnf _ hd3
    have nL : a ≠ X.env.locals := fun z => nfr (List.mem_filterMap.mpr ⟨X.env, List.mem_cons_self, by rw [hf, z]⟩)
    have nF : a ∉ X.fs := fun hm => by
      obtain ⟨e, he, q⟩ := List.mem_filterMap.mp hm
      exact nfr (List.mem_filterMap.mpr ⟨e, List.mem_cons_of_mem _ he, q⟩)
    have S3 := J3.suite he3 hd3 na nL nF
    have LT : PySem.W.Looks (model X.prog X.w) h3 (typeOf (.ref a)) cls := fun A Q E s k q => wpAny_typeOf_ref (k _ _ he3) (by rw [hz3.1]; exact q)
    clear sky h
    generalize h₀ :: hds = hl at hh ⊢
    induction hh with
    | nil => exact wsh.elim
    | @cons x c ts b₀ suite np pos' hds2 l2 hc hsu r ih =>
      obtain ⟨b, hb1, hyes, hno⟩ := wsh
      refine wpAny_handleBy_cons (codeAny_handlers_test ?_) (by intro q; cases q)
      have LM := PySem.W.exm_one (M := model X.prog X.w) (J3.kIn) LT hb1
      have test : ∀ {Q : Value → Shared → Prop} {E : Value → Shared → Prop}, Q c { s' with heap := h3 } → wpAny (model X.prog X.w) (X.A.mark (some (.ref a))) (eval (.Name x np) X.env) Q E { s' with heap := h3 } := fun {Q E} q => by
        obtain ⟨hg, hdbg, hm | ⟨hm, hv, hnn⟩⟩ := hc
        · exact ld_glob (X := X.suite a ((a, oe3) :: (X.pn ++ pins))) S3 hg hm q hdbg
        · exact ld_blt (X := X.suite a ((a, oe3) :: (X.pn ++ pins))) S3 hg hm hv q hnn hdbg
      refine test (LM.here ?_)
      cases b with
      | false => exact ih (hno rfl)
      | true =>
        refine codeAny_handlers_suite_as ?_
        refine HandSPX.lands_againZ fl3 fun h4 fl4 up4 => ?_
        have J4 : Inv X pins σ' H' { s' with heap := h4 } := J.landed nb fl4.1 ((up.trans up3).trans up4) os ag
        obtain ⟨oe4, vs4, he4, hz4, hd4⟩ := fl4.there
        have S4 := J4.suite he4 hd4 na nL nF
        refine store_ok (X := X.suite a ((a, oe4) :: (X.pn ++ pins))) (v := .ref a) S4 hN hi hloc rfl (fun s5 S5 => ?_) (.inr hln)
        refine wpAny_mono ((hsu a oe4 cls d (X.pn ++ pins) hz4 ⟨_, hd4⟩).run [] s5 _ H' _ S5 (hyes rfl J.len a na)) (fun f s6 hsp => ?_) (fun _ _ z => False.elim z)
        have end_ : ∀ {σ6 : L2.St} {H6 : Hp} {Q : Shared → Prop}, Inv (X.suite a ((a, oe4) :: (X.pn ++ pins))) [] σ6 H6 s6 → (∀ s7, Inv X pins (σ6.set i none) H6 s7 → Q s7) →
            wpAny (model X.prog X.w) X.A (do bindName X.env n .none; unbindBehindTheSuite X.env n pos') (fun _ s7 => Q s7) X.xe s6 := fun {σ6 H6 Q} S6 hq => gone_ok (S6.unsuite ok) hN hi hln hq
        cases f with
        | next => obtain ⟨σ6, H6, S6, q6⟩ := hsp; exact end_ S6 fun s7 J7 => ⟨_, _, J7, q6⟩
        | brk => obtain ⟨σ6, H6, S6, q6⟩ := hsp; exact end_ S6 fun s7 J7 => ⟨_, _, J7, q6⟩
        | cont => obtain ⟨σ6, H6, S6, q6⟩ := hsp; exact end_ S6 fun s7 J7 => ⟨_, _, J7, q6⟩
        | ret u => obtain ⟨v6, σ6, H6, S6, r6, q6⟩ := hsp; exact end_ S6 fun s7 J7 => ⟨_, _, _, J7, r6, q6⟩
  refine wpAny_Try_except (wpAny_mono ((hb _ _ _ caught PassesOwn.looking).run [] s σ H D (I.toTry _) h) (fun f s1 hsp => ?_) fun e s1 he => he)
  cases f with
  | next => obtain ⟨σ', H', J', q⟩ := hsp; exact wpAny_execs_nil ⟨σ', H', J'.ofTry ok, q⟩
  | brk => obtain ⟨σ', H', J', q⟩ := hsp; exact ⟨σ', H', J'.ofTry ok, q⟩
  | cont => obtain ⟨σ', H', J', q⟩ := hsp; exact ⟨σ', H', J'.ofTry ok, q⟩
  | ret u => obtain ⟨v, σ', H', J', r, q⟩ := hsp; exact ⟨v, σ', H', J'.ofTry ok, r, q⟩
end
end HD
set_option Elab.async false
set_option linter.all false
set_option maxRecDepth 100000
set_option maxHeartbeats 2000000
namespace HD
open PySem PySem.Spec PyProof.Rows L2 L2H HotX LamX
/-- the context of the lambda's body -/
abbrev lamN (X : Cx) (A : Around) (outer : List Env) (s : Shared) (H : Hp) (E : XK) (scope : Scope) (f c' : Addr) : Cx :=
  (lamCx X A outer s H E scope f c').tr [] fun e s' => wpAny (model X.prog X.w) (A.deeper (lamEnv X scope s.heap.objs.size f c')) (leaving (lamEnv X scope s.heap.objs.size f c') e) (fun _ s'' => L2N.CX X.prog X.w outer H s E e s'') (fun e' s'' => L2N.CX X.prog X.w outer H s E e' s'') s'
section
variable {X : Cx} {pins : List (Addr × Obj)} {σ : L2.St} {H HZ : Hp} {s s1 : Shared}
theorem act_N {CXg : CXT} {Eg : XK} {Ng : List Str} {qg : Str} {sg : Scope} {g f c' : Addr} {cdg pm ctv : Value} {params : Arguments} {body : Expr} {scope : Scope} {k i : Nat} {a : Str} {pn : List (Addr × Obj)} {xe : Value → Shared → Prop} {W : WX} {E : XK} {tb : TE} {p1 p2 : Pos}
    (I : Inv X pins σ H s) (L : LamS X.env.scope scope) (hf : s.heap.get? f = some (PySem.W.kla_obj "<lambda>" (X.env.qual ++ "<lambda>") params body scope (cloFrom X.env.cells scope.names []) pm c' ctv)) (hfn : H f = none) (hfr : f ∉ frs X.stack)
    (hbind : bindArgs (PySem.W.kla_fn "<lambda>" (X.env.qual ++ "<lambda>") params body scope (cloFrom X.env.cells scope.names []) pm (.ref c') ctv) ⟨[], []⟩ = pure [])
    (tk : L2N.Takes ((cxOf CXg X.prog X.w X.K X.mg X.base Ng qg sg g cdg X.A X.stack s H Eg).tr pn xe) W) (hW : ∀ cls d σ' H', E cls d H' → W cls d σ' H') (hr : Room (k + 1) (X.A.deeper (envOfC qg sg s.heap.objs.size g cdg)))
    (hbody : ∀ (A : Around) (outer : List Env) (s : Shared) (H : Hp), Room k (A.deeper (lamEnv X scope s.heap.objs.size f c')) → PE (lamN X A outer s H E scope f c') body tb)
    (hN : Ng[i]? = some a) (hv : Vis sg a) (hd : (a == ("__debug__" : Str)) = false := by decide) (hcd : (a == ("__classdict__" : Str)) = false := by decide) :
    PE ((cxOf CXg X.prog X.w X.K X.mg X.base Ng qg sg g cdg X.A X.stack s H Eg).tr pn xe) (.Call (.Name a p1) [] [] p2)
      (fun σZ HZ Q => σZ[i]? = some (some (.ref f)) ∧ HZ c' = some (CodeO c' (X.env.qual ++ "<lambda>")) ∧ tb σ HZ Q) := by
  refine ⟨fun pinsZ sZ σZ HZ Q IZ ⟨hs, hc, ht⟩ => ?_⟩
  refine wpAny_Call_Name_kw (thn ((pe_var (pos := p1) (i := i) hN hv hd hcd).run pinsZ sZ σZ HZ (fun v H1 => v = .ref f ∧ H1 = HZ) IZ ⟨.ref f, hs, rfl, rfl⟩) fun u s1 ⟨v, H1, I1, r1, ev, eH⟩ => ?_)
  subst ev
  rw [eH] at I1
  obtain rfl : u = Value.ref f := r1
  have of1 : s1.heap.get? f = some (PySem.W.kla_obj "<lambda>" (X.env.qual ++ "<lambda>") params body scope (cloFrom X.env.cells scope.names []) pm c' ctv) := I1.base.keep f _ hf hfn hfr (fun z => nomatch (show f ∈ ([] : List Addr) from z))
  refine PySem.W.callWith_F0 ⟨_, _, _, _, of1⟩ ?_
  have un : Un (frs X.stack) [] H HZ s.heap s1.heap := I1.base
  obtain ⟨⟨oc, vs, t, hoc, hdc, hvc⟩, _, _⟩ := I1.hok c' _ hc
  have rc : codeAny (model X.prog X.w) (X.A.deeper (envOfC qg sg s.heap.objs.size g cdg)) (.call (.ref f) ⟨[], []⟩) (CR (L2N.CX X.prog X.w) (envOfC qg sg s.heap.objs.size g cdg :: X.stack) X.prog X.w HZ s1 Q E) s1 := by
    refine PySem.W.kla_callFunE hr.depth of1 rfl L.co L.gen rfl ⟨c', oc, vs, t, rfl, hoc, hdc, hvc⟩ ?_
    rw [hbind]
    refine wpAny_pure (wpAny_newFunctionEnv (fun y hy => (L.own y hy).2) (fun y hy => absurd hy (by simp)) (fun h₁ hns hsb => ⟨I1.nolimit.fresh _ hsb, ?_⟩) L.kind)
    show codeAny _ _ (.expr body (lamEnv X scope s1.heap.objs.size f c')) _ _
    have kp : ∀ b o, s1.heap.get? b = some o → h₁.get? b = some o := fun b o e => hsb.extBut b o (Nat.ne_of_lt (Heap.lt_size e)) (Heap.get?_push_of_some _ e)
    have J0 : Inv (lamCx X (X.A.deeper (envOfC qg sg s.heap.objs.size g cdg)) (envOfC qg sg s.heap.objs.size g cdg :: X.stack) s1 HZ E scope f c') [] σ HZ { s1 with heap := h₁, toks := s1.toks + ([] : List (Str × Value)).length } :=
      lam_start2 I L I1.env0 hr.hd un hns kp
    have J : Inv (lamN X (X.A.deeper (envOfC qg sg s.heap.objs.size g cdg)) (envOfC qg sg s.heap.objs.size g cdg :: X.stack) s1 HZ E scope f c') [] σ HZ { s1 with heap := h₁, toks := s1.toks + ([] : List (Str × Value)).length } := J0.toTry _
    refine PySem.W.kla_codeExpr (wpAny_mono ((hbody _ _ s1 HZ (hr.deeper _)).run [] _ _ HZ Q J ht) (fun v s' hq => ?_) fun e s' hq => hq)
    obtain ⟨w', H', J', rv, q⟩ := hq
    exact ⟨w', H', J'.os, J'.bare, J'.base, J'.hok, rv, q⟩
  have hx := L2N.passes_call (E := E) tk hW
  refine wpAny_call (codeAny_mono rc fun r s' hq => ?_)
  cases r with
  | error e => exact hx pinsZ σZ HZ s1 e s' I1 hq
  | ok fl =>
    cases fl with
    | ret u => exact I1.after hq
    | next => exact False.elim hq
    | brk => exact False.elim hq
    | cont => exact False.elim hq
end
section
variable [DL.TabCtx] {X : Cx} {pins : List (Addr × Obj)} {σ : L2.St} {H : Hp} {s : Shared}
/-- a code object is new, its table grows -/
theorem ext_grown {V : Hp} {P n : Addr} {q : Str} {ps more : Array Value} {u : HO} (hP : H P = some (.tbl ps)) (hn : H n = none) (sv : Same V H) (vP : V P = none) (ht : Tabs DL.TBS H → Tabs DL.TBS (upd (upd H P (.tbl more)) n u)) : DL.Ext H V (upd (upd H P (.tbl more)) n u) V := by
  have nn : ∀ {b : Addr}, H b ≠ none → b ≠ n := fun {b} h z => h (by rw [z]; exact hn)
  have at_ : ∀ {b : Addr}, b ≠ P → b ≠ n → upd (upd H P (.tbl more)) n u b = H b := fun {b} h1 h2 => by rw [upd_ne h2, upd_ne h1]
  refine ⟨fun b o e nt => ?_, Same.refl _, fun b o e => ?_, fun _ z _ => z, fun b h => ?_, ht⟩
  · rw [at_ (fun z => nt ps (Option.some.inj (e.symm.trans (by rw [z]; exact hP)))) (nn (by rw [e]; exact fun z => nomatch z))]; exact e
  · have e2 := sv b o e
    rw [at_ (fun z => by rw [z, vP] at e; cases e) (nn (by rw [e2]; exact fun z => nomatch z))]; exact e2
  · by_cases hb : b = P
    · rw [hb, upd_ne (by rw [← hb]; exact nn h), upd_same]; exact fun z => nomatch z
    · rw [at_ hb (nn h)]; exact h
/-- the lambda is made; what is known of the heap behind -/
theorem lam_makeT {c P : Addr} {params : Arguments} {body : Expr} {scope : Scope} {pos : Pos} {E Q : Value → Shared → Prop} (TB : TabB X.base X.mg c P) (hcode : X.env.code = .ref c) (I : Inv X pins σ H s)
    (hm : (P, X.env.qual ++ "<lambda>") ∈ DL.TBS) (hu : ∀ p ∈ DL.TBS, p.1 = P → p.2 = X.env.qual ++ "<lambda>") (hT : Tabs DL.TBS H) (hdef : defaultsOf params X.env = ([], []))
    (hfree : ∀ y ∈ scope.names, y.2 = .free → ∃ c, X.env.cells.lookup y.1 = some c)
    (h : ∀ (f n : Addr) (pm ctv : Value) (H1 : Hp) (s1 : Shared), Inv X pins σ H1 s1 → (∀ V, Same V H → V P = none → DL.Ext H V H1 V) → H1 f = none → f ∉ frs X.stack → H1 n = some (CodeO n (X.env.qual ++ "<lambda>")) →
      s1.heap.get? f = some (PySem.W.kla_obj "<lambda>" (X.env.qual ++ "<lambda>") params body scope (cloFrom X.env.cells scope.names []) pm n ctv) → s.heap.objs.size ≤ f → Q (.ref f) s1) :
    wpAny (model X.prog X.w) X.A (eval (.Lambda params body scope pos) X.env) Q E s := by
  obtain ⟨tb, hP, tOk, tAll⟩ := hT _ hm
  have gP : s.heap.get? P = some { cls := .none, data := .fields tb } := I.hok P _ hP
  have far : ∀ b, s.heap.objs.size ≤ b → b ∉ frs X.stack := fun b hb z =>
    (List.mem_cons.mp (I.stkSub _ z)).elim (fun e => Nat.lt_irrefl _ (Nat.lt_of_lt_of_le (by have := I.lt; rw [← e] at this; exact this) hb)) fun e => I.nofs hb e
  refine PySem.W.kla_eval hdef ?_
  cases q : codeAmong pos tb.toList with
  | some cv =>
    obtain ⟨n, rfl, hn⟩ := tAll pos cv q
    refine PySem.W.kla_makeFunctionHit (mg := X.mg) (closure_ok hfree) I.ok.glob (I.mod.glob.keeps I.bk) hcode (TB.code.keeps I.bk) gP tOk q (TB.bm.keeps I.bk) fun ctv h1 tk k1 sz => ?_
    refine h h1.objs.size n ((X.mg "__name__").getD .none) ctv H _ ?_ (fun V sv _ => DL.Ext.refl sv) (I.hok.fresh sz) (far _ sz) hn (Heap.get?_push_size _ rfl) sz
    exact I.kept fun b o e => Heap.get?_push_of_some _ (k1 b o e)
  | none =>
    refine PySem.W.kla_makeFunction (mg := X.mg) (closure_ok hfree) I.ok.glob (I.mod.glob.keeps I.bk) hcode (TB.code.keeps I.bk) gP tOk q TB.gP (TB.bm.keeps I.bk) fun n ctv h1 tk k1 ge lt rc tb1 => ?_
    obtain ⟨_, ob, us, t, e0, e1, e2, e3⟩ := rc
    cases e0
    have hn : H n = none := I.hok.fresh ge
    have sz : s.heap.objs.size ≤ h1.objs.size := Nat.le_trans ge (Nat.le_of_lt lt)
    have nPn : P ≠ n := ne_of_none hP hn
    have J := inv_table (t' := tk) (q := X.env.qual ++ "<lambda>") (h' := h1.push (PySem.W.kla_obj "<lambda>" (X.env.qual ++ "<lambda>") params body scope (cloFrom X.env.cells scope.names []) ((X.mg "__name__").getD .none) n ctv)) I hP (fun b o hb e => Heap.get?_push_of_some _ (k1 b o hb e))
      (Heap.get?_push_of_some _ tb1) ge ⟨ob, us, t, Heap.get?_push_of_some _ e1, e2, e3⟩
    have kept : ∀ b u, H b = some u → (∀ ps, u ≠ .tbl ps) → upd (upd H P (.tbl (tb ++ #[rawInt pos.line, rawInt pos.col, .ref n]))) n (CodeO n (X.env.qual ++ "<lambda>")) b = some u := fun b u e nt => by
      rw [upd_ne (ne_of_none e hn), upd_ne (fun z => nt tb (Option.some.inj (e.symm.trans (by rw [z]; exact hP))))]; exact e
    refine h h1.objs.size n ((X.mg "__name__").getD .none) ctv _ _ J (fun V sv vP => ext_grown (q := X.env.qual) hP hn sv vP fun _ p hp => ?_) ?_ (far _ sz) upd_same (Heap.get?_push_size _ rfl) sz
    · by_cases hb : p.1 = P
      · rw [hu p hp hb, hb]
        have eL : (tb ++ #[rawInt pos.line, rawInt pos.col, .ref n]).toList = tb.toList ++ [rawInt pos.line, rawInt pos.col, .ref n] := by simp
        refine ⟨_, by rw [upd_ne nPn, upd_same], by rw [eL]; exact PySem.TriplesOk_snoc _ _ _ _ tOk, fun p2 v2 hv => ?_⟩
        rw [eL] at hv
        rcases among_app _ tOk hv with z | z
        · obtain ⟨d, d1, d2⟩ := tAll p2 v2 z
          exact ⟨d, d1, kept _ _ d2 codeO_ne⟩
        · exact ⟨n, z, upd_same⟩
      · obtain ⟨tb', a1, a2, a3⟩ := hT p hp
        refine ⟨tb', by rw [upd_ne (ne_of_none a1 hn), upd_ne hb]; exact a1, a2, fun p2 v2 hv => ?_⟩
        obtain ⟨d, d1, d2⟩ := a3 p2 v2 hv
        exact ⟨d, d1, kept _ _ d2 codeO_ne⟩
    · rw [upd_ne (Nat.ne_of_gt lt), upd_ne (Nat.ne_of_gt (Nat.lt_of_lt_of_le (Heap.lt_size gP) sz))]
      exact I.hok.fresh sz
end
section
variable {X : Cx} {pins : List (Addr × Obj)} {σ : L2.St} {H HZ : Hp} {s s1 : Shared}
/-- the def that calls what it got -/
def GivesN (X : Cx) (Ng : List Str) (x : Str) (sg : Scope) (g : Addr) (cdg : Value) (bg : List Stmt) (a : Str) (q : Str) (TT : (XK → Hp → VK → Prop) → Hp → VK → Prop) : Prop :=
  ∀ (k : Nat) (f c' : Addr) (s : Shared) (H : Hp) (Q : VK) (tl : XK → Hp → VK → Prop), Room (k + 1) (X.A.deeper (envOfC x sg s.heap.objs.size g cdg)) →
    (∀ (W : WX) (pn : List (Addr × Obj)) (xe : Value → Shared → Prop) (E : XK) (p1 p2 : Pos), L2N.Takes ((cxOf C8.CX0 X.prog X.w X.K X.mg X.base Ng x sg g cdg X.A X.stack s H C8.E0).tr pn xe) W → (∀ cls d σ' H', E cls d H' → W cls d σ' H') →
      PE ((cxOf C8.CX0 X.prog X.w X.K X.mg X.base Ng x sg g cdg X.A X.stack s H C8.E0).tr pn xe) (.Call (.Name a p1) [] [] p2) (fun σZ HZ Q => σZ[0]? = some (some (.ref f)) ∧ HZ c' = some (CodeO c' q) ∧ tl E HZ Q)) →
    H c' = some (CodeO c' q) → TT tl H Q →
    ∃ t, PSs (cxOf C8.CX0 X.prog X.w X.K X.mg X.base Ng x sg g cdg X.A X.stack s H C8.E0).nox bg t ∧ t { nx := fun _ H' => Q .non H', rt := Q } (L2.start Ng [.ref f]) H
section
variable [DL.TabCtx]
def tLamT (P : Addr) (TT : (XK → Hp → VK → Prop) → Hp → VK → Prop) (t : XK → TE) : TE := fun σ H Q => Tabs DL.TBS H ∧ ∀ H1, (∀ V, Same V H → V P = none → DL.Ext H V H1 V) → TT (fun E H' Q' => t E σ H' Q') H1 Q
theorem lamcall_N {TT : (XK → Hp → VK → Prop) → Hp → VK → Prop} {x a : Str} {g c P : Addr} {k : Nat} {pg : Arguments} {bg : List Stmt} {sg : Scope} {dV kV doc pm cdv ct oc : Value} {an od : Option Addr} {osl : Array (Option Value)} {Ng : List Str}
    {params : Arguments} {body : Expr} {scope : Scope} {t : XK → TE} {p lpos pos : Pos} (hg : Gl X x) (hm : X.mg x = some (.ref g)) (hk : PySem.W.keepIn X.K (.ref g) = true)
    (lk : X.K.lookup g = some ⟨oc, od, .func (PySem.W.fnOf x x pg bg sg dV kV doc pm an cdv ct), osl⟩) (hcg : PySem.W.codeIn X.K cdv x = true) (hb : L2.Binds X.K (PySem.W.fnOf x x pg bg sg dV kV doc pm an cdv ct) [a] []) (Sg : FnScope Ng [a] sg) (hNg : Ng[0]? = some a) (hva : Vis sg a)
    (hG : GivesN X Ng x sg g cdv bg a (X.env.qual ++ "<lambda>") TT)
    (TB : TabB X.base X.mg c P) (hcode : X.env.code = .ref c) (hmT : (P, X.env.qual ++ "<lambda>") ∈ DL.TBS) (hu : ∀ p ∈ DL.TBS, p.1 = P → p.2 = X.env.qual ++ "<lambda>") (hr : Room (k + 2) X.A) (L : LamS X.env.scope scope) (hdef : defaultsOf params X.env = ([], []))
    (hbind : ∀ (q : Str) (cl : List (Str × Addr)) (pm cv ctv : Value), bindArgs (PySem.W.kla_fn "<lambda>" q params body scope cl pm cv ctv) ⟨[], []⟩ = pure [])
    (hbody : ∀ (A : Around) (outer : List Env) (s : Shared) (H : Hp) (E : XK) (f c' : Addr), Room k (A.deeper (lamEnv X scope s.heap.objs.size f c')) → PE (lamN X A outer s H E scope f c') body (t E))
    (hdb : (x == ("__debug__" : Str)) = false := by decide) (hd : (a == ("__debug__" : Str)) = false := by decide) (hcd : (a == ("__classdict__" : Str)) = false := by decide) :
    PE X (.Call (.Name x p) [.Lambda params body scope lpos] [] pos) (tLamT P TT t) := by
  refine ⟨fun pins s σ H Q I ⟨hT, h⟩ => ?_⟩
  refine wpAny_Call_Name_kw (ld_glob I hg hm ?_ hdb)
  refine PySem.W.callWith_K (h₀ := X.base) I.ok.mod.kin hk ?_ (by rfl) (by rfl)
  show wpAny _ _ (spliced ((false, eval (.Lambda params body scope lpos) X.env) :: backTo pos (starEach [] X.env))) _ _ s
  refine Calls.spliced_cons (lam_makeT TB hcode I hmT hu hT hdef (L.has I.ok) fun f c' pm' ctv H1 s' I1 eN hfn hfr hco hf _ => ?_)
  refine Calls.spliced_nil ⟨I1.kIn, ?_⟩
  have rc : codeAny (model X.prog X.w) X.A (.call (.ref g) ⟨[.ref f], []⟩) (CR C8.CX0 X.stack X.prog X.w H1 s' Q C8.E0) s' := by
    refine run_ofS (N := Ng) (ps := [a]) (us := [.ref f]) (vs := [.ref f]) lk hcg Sg hr I1.env0 (hb s' [.ref f] I1.kIn rfl) (.cons rfl .nil) rfl fun hr' => ?_
    obtain ⟨t', ht', hq'⟩ := hG k f c' s' H1 Q (fun E H' Q' => t E σ H' Q') hr' (fun W pn xe E p1 p2 tk hW => act_N (i := 0) I1 L hf hfn hfr (hbind _ _ _ _ _) tk hW hr' (fun A outer s H hr2 => hbody A outer s H E f c' hr2) hNg hva hd hcd) hco (h H1 eN)
    exact ⟨t', ht'.nox, hq'⟩
  refine wpAny_call (codeAny_mono rc fun r s2 hq => ?_)
  cases r with
  | error e => exact (show False from hq).elim
  | ok fl =>
    cases fl with
    | ret u => exact I1.after hq
    | next => exact False.elim hq
    | brk => exact False.elim hq
    | cont => exact False.elim hq
end
end
end HD
set_option Elab.async false
set_option linter.all false
set_option maxRecDepth 100000
set_option maxHeartbeats 2000000
namespace HD
open PySem PySem.Spec PyProof.Rows L2 L2H HotX LamX
variable [DL.TabCtx]
def refusedD (c : Str) : PyData := .tuple [.str "refused", .str c]
/-- the refusal's term -/
def spTerm (K : DL.KW) (ok : Str → Prop) : SpP := fun p vs H Q _ => vs = [.ref p.1] ∧ ∃ c V, ok c ∧ DL.TabV H V ∧ Same V H ∧ Zc (.ref (He.ga K c)) none p.2 ∧ (∃ vs, p.2.data = .fields vs) ∧ ∀ v H' V', DL.Ext H V H' V' → DL.Rep K V' v (refusedD c) → Q v H'
/-- what told makes of the lambda's reading -/
def TToldN (K : DL.KW) (ok : Str → Prop) : (XK → Hp → VK → Prop) → Hp → VK → Prop := fun tl H Q =>
  tl (fun cls d H' => ∃ c V, cls = .ref (He.ga K c) ∧ d = none ∧ ok c ∧ DL.TabV H' V ∧ Same V H' ∧ ∀ v H2 V2, DL.Ext H' V H2 V2 → DL.Rep K V2 v (refusedD c) → Q v H2) H Q
section
variable {X : Cx}
theorem pss_never {Y : Cx} {sts : List Stmt} : PSs Y sts (fun _ _ _ => False) := ⟨fun _ _ _ _ _ _ h => h.elim⟩
theorem told_N {ok : Str → Prop} {sg : Scope} {g f CL SE : Addr} {cdg : Value} {q : Str} {fd : FuncData} {s₁ : Expr} {p1 p2 p3 p4 p5 p6 p7 p8 p9 p10 p11 p12 p13 : Pos}
    (F : ∀ k, FnHP X.prog X.w X.K X.mg X.base C8.CX0 (k + 1) f fd ["e"] (spTerm X.kw ok)) (hb : L2.Binds X.K fd ["e"] []) (hkf : PySem.W.keepIn X.K (.ref f) = true) (hmf : X.mg "_law_term" = some (.ref f))
    (hgt : sg.names.lookup ("_law_term" : Str) = some .globalImplicit) (hgc : sg.names.lookup ("Clash" : Str) = some .globalImplicit) (hgs : sg.names.lookup ("SongError" : Str) = some .globalImplicit) (hle : sg.names.lookup ("e" : Str) = some .local) (hmc : X.mg "Clash" = some (.ref CL)) (hms : X.mg "SongError" = some (.ref SE))
    (hok : ∀ c, ok c → PySem.W.exmOne X.K (.ref (He.ga X.K c)) (.ref CL) = some false ∧ PySem.W.exmOne X.K (.ref (He.ga X.K c)) (.ref SE) = some true) :
    GivesN X ["deed", "e"] "_law_told" sg g cdg [.Try [.Return (some (.Call (.Name "deed" p1) [] [] p2)) p3] [.ExceptHandler (some (.Name "Clash" p4)) (some "e") [.Return (some s₁) p5] p6, .ExceptHandler (some (.Name "SongError" p7)) (some "e") [.Return (some (.Call (.Name "_law_term" p8) [.Name "e" p9] [] p10)) p11] p12] [] [] p13] "deed" q (TToldN X.kw ok) := by
  intro k fl c' s H Q tl hr act hc h
  let ts : Addr → Value → Option Addr → TS := fun a cls d D σ H => σ[1]? = some (some (.ref a)) ∧ ∃ c V, cls = .ref (He.ga X.K c) ∧ d = none ∧ ok c ∧ DL.TabV H V ∧ Same V H ∧ ∀ v H2 V2, DL.Ext H V H2 V2 → DL.Rep X.kw V2 v (refusedD c) → D.rt v H2
  refine ⟨_, pss_one (ps_try_asM (X := (cxOf C8.CX0 X.prog X.w X.K X.mg X.base ["deed", "e"] "_law_told" sg g cdg X.A X.stack s H C8.E0).nox) (n := "e") (i := 1)
      (l := [(.ref CL, fun _ _ _ _ _ _ => False), (.ref SE, ts)])
      (tb := fun W D σ H => ∃ Ech : XK, (∀ cls d σ' H', Ech cls d H' → W cls d σ' H') ∧ σ[0]? = some (some (.ref fl)) ∧ H c' = some (CodeO c' q) ∧ tl Ech H D.rt)
      rfl rfl (show (["deed", "e"] : List Str).Nodup by decide) rfl hle (fun W pn xe tk _ => ?_) (.cons ⟨hgc, by decide, .inl hmc⟩ (fun _ _ _ _ _ _ _ => pss_never) (.cons ⟨hgs, by decide, .inl hms⟩ (fun a oe cls d pn hz hf => ?_) .nil))), ?_⟩
  · refine ⟨fun pins s' σ H' D I h' => ?_⟩
    obtain ⟨Ech, hW, h1, h2, h3⟩ := h'
    exact (pss_one (ps_ret (pos := p3) (act W pn xe Ech p1 p2 tk hW))).run pins s' σ H' D I ⟨h1, h2, h3⟩
  · obtain ⟨vs, hv⟩ := hf
    have hot : Hot1 (X.A.deeper (envOfC "_law_told" sg s.heap.objs.size g cdg) |>.mark (some (.ref a))) (a, oe) := ⟨rfl, vs, hv, hz.2.2 vs hv⟩
    have hrh : RoomH (k + 1) (X.A.deeper (envOfC "_law_told" sg s.heap.objs.size g cdg) |>.mark (some (.ref a))) := ⟨hr.dp, hr.un⟩
    refine DL.PSs.imp (pss_one (ps_ret (pos := p11) (pe_callHP (p := (a, oe)) (E := fun _ => C8.E0) (F k) hrh hot (by simp) hgt hmf hkf hb (fun _ _ _ _ _ _ _ z => z.elim) (pa_cons (pe_var (i := 1) (pos := p9) rfl (.inl hle)) pa_nil)))) fun D σ H' ⟨h1, c, V, e1, e2, hk, htv, hsv, hq⟩ => ?_
    subst e1 e2
    exact ⟨.ref a, h1, rfl, c, V, hk, htv, hsv, hz.zc, ⟨vs, hv⟩, hq⟩
  · refine ⟨_, fun cls d σ' H' ⟨c, V, e1, e2, hk, htv, hsv, hq⟩ => ?_, rfl, hc, h⟩
    subst e1
    refine ⟨false, (hok c hk).1, (fun z => nomatch z), fun _ => ⟨true, (hok c hk).2, fun _ hl a na => ⟨?_, c, V, rfl, e2, hk, htv, hsv, hq⟩, (fun z => nomatch z)⟩⟩
    rw [List.getElem?_set_self (by rw [hl]; exact (by decide : 1 < (["deed", "e"] : List Str).length))]
end
end HD
set_option Elab.async false
set_option linter.all false
set_option maxRecDepth 100000
set_option maxHeartbeats 2000000
namespace HD
open PySem PySem.Spec PyProof.Rows L2 L2H HotX DL
variable [TabCtx]
section
variable {X : Cx} {F : Fr} {p1 p2 p3 pos : Pos}
theorem pm_isC {p : Addr × Obj} {D C : Addr} {c : Str} {b : Bool} (hp : p ∈ X.pn) (EC : ExcC X.K D) (hz : Zc (.ref D) none p.2) (hf : ∃ vs, p.2.data = .fields vs) (hL : F.lent = some p.1) (hmi : X.mg "isinstance" = none) (hmc : X.mg c = some (.ref C)) (hk : PySem.W.kitOne X.K (.ref D) (.ref C) = some b)
    (hls : F.ls = 0 := by rfl) (hN : X.N[0]? = some ("e" : Str) := by rfl) (hv : Vis X.env.scope "e" := by exact Or.inl rfl) (hgi : Gl X "isinstance" := by rfl) (hgc : Gl X c := by rfl) (hdb : (c == ("__debug__" : Str)) = false := by decide)
    (he : starEach [.Name "e" p2, .Name c p3] X.env = (false, eval (.Name "e" p2) X.env) :: starEach [.Name c p3] X.env := by rfl) (he2 : starEach [.Name c p3] X.env = (false, eval (.Name c p3) X.env) :: starEach [] X.env := by rfl) (hpl : (backTo pos (starEach [.Name c p3] X.env)).any (·.1) = false := by rfl) :
    PM X F (.Call (.Name "isinstance" p1) [.Name "e" p2, .Name c p3] [] pos) (cD (.bool b)) := by
  refine DL.PE.imp (pe_callB (call_isH hp EC hz hf) hgi hmi (by decide +kernel) (pa_cons (pe_var (i := 0) hN hv (by decide) (by decide)) (pa_cons (pe_glob (v := .ref C) hgc hmc rfl hdb) pa_nil he2) he) (by decide) (by decide) he hpl) fun σ H Q ⟨V, ρ, E, g⟩ => ?_
  refine ⟨.ref p.1, hls ▸ E.lent _ hL, .ref C, .ref C, b, rfl, fun u hu => hu, hk, ?_⟩
  exact g _ _ _ E.refl (.bl b)
/-- isinstance(e, ValueError) -/
theorem pm_isB {p : Addr × Obj} {D : Addr} {c t : Str} {T : String} {b : Bool} (hp : p ∈ X.pn) (EC : ExcC X.K D) (hz : Zc (.ref D) none p.2) (hf : ∃ vs, p.2.data = .fields vs) (hL : F.lent = some p.1) (hmi : X.mg "isinstance" = none) (hmc : X.mg c = none) (hbt : bootBuiltins c = some (.type T)) (hk : PySem.W.kitOne X.K (.ref D) (.type T) = some b)
    (hls : F.ls = 0 := by rfl) (hN : X.N[0]? = some ("e" : Str) := by rfl) (hv : Vis X.env.scope "e" := by exact Or.inl rfl) (hgi : Gl X "isinstance" := by rfl) (hgc : Gl X c := by rfl) (hdb : (c == ("__debug__" : Str)) = false := by decide) (hnn : c ≠ "__name__" := by decide)
    (he : starEach [.Name "e" p2, .Name c p3] X.env = (false, eval (.Name "e" p2) X.env) :: starEach [.Name c p3] X.env := by rfl) (he2 : starEach [.Name c p3] X.env = (false, eval (.Name c p3) X.env) :: starEach [] X.env := by rfl) (hpl : (backTo pos (starEach [.Name c p3] X.env)).any (·.1) = false := by rfl) :
    PM X F (.Call (.Name "isinstance" p1) [.Name "e" p2, .Name c p3] [] pos) (cD (.bool b)) := by
  refine DL.PE.imp (pe_callB (call_isH hp EC hz hf) hgi hmi (by decide +kernel) (pa_cons (pe_var (i := 0) hN hv (by decide) (by decide)) (pa_cons (pe_bltn (v := .ty T) hgc hmc hbt rfl hnn hdb) pa_nil he2) he) (by decide) (by decide) he hpl) fun σ H Q ⟨V, ρ, E, g⟩ => ?_
  refine ⟨.ref p.1, hls ▸ E.lent _ hL, .ty T, .type T, b, rfl, fun u hu => hu, hk, ?_⟩
  exact g _ _ _ E.refl (.bl b)
end
end HD
set_option Elab.async false
set_option linter.all false
set_option maxRecDepth 100000
set_option maxHeartbeats 2000000
namespace HD
open PySem PySem.Spec PyProof.Rows L2 L2H HotX DL
variable [TabCtx]
/-- [int(b) for b in l] -/
def gIntsB : PyData → Option PyData
  | .list ds => match boolsD ds with
    | some bs => if bs.length ≤ 1000 then some (.list (bs.map fun b => .int (if b then 1 else 0))) else none
    | none => none
  | _ => none
def vInt : L2.V → L2.V
  | .bl b => .int (if b then 1 else 0)
  | v => v
section
variable {X : Cx} {F : Fr}
theorem repL_ints {K : KW} {V : Hp} : ∀ bs : List Bool, RepL K V ((bs.map L2.V.bl).map vInt) (bs.map fun b => .int (if b then 1 else 0))
  | [] => .nil
  | b :: bs => .cons (.int _) (repL_ints bs)
theorem pm_lcI {elt iter : Expr} {x : Str} {px : Pos} {scope : Scope} {j : Nat} {pos : Pos} {fi : M PyData} {te : TE} {p : Addr × Obj} (hot : Hot1 X.A p) (hp : p ∈ X.pn) (hN : X.N.Nodup) (hj : X.N[j]? = some x) (hi : PM X F iter fi) (ok : BlkOk X.N X.env.scope scope [(x, j)])
    (hg : ∀ (s : Shared) (H : Hp) (C : Addr) (cl : List (Str × Addr)) (fp : List Addr), PG (X.blk s H scope (compEnvC scope cl C X.env) fp) (.Name x px) (gName j))
    (he : ∀ (s : Shared) (H : Hp) (C : Addr) (cl : List (Str × Addr)) (fp : List Addr), PE (X.blk s H scope (compEnvC scope cl C X.env) fp) elt te) (hte : ∀ b : Bool, Tells te j (.bl b) (.int (if b then 1 else 0))) (hs : ∀ x, foldedSetIterable iter X.env x = pure x := by intro _; rfl) :
    PM X F (.ListComp elt [⟨.Name x px, iter, [], 0⟩] scope pos) (op1 gIntsB fi) := by
  refine DL.PE.imp (pe_lcH hot hp hN hj hi ok hg he hs) fun σ H Q ⟨V, ρ, E, g0⟩ => ⟨V, ρ, E, Goal.bind g0 fun v d H1 V1 ρ1 st1 r1 g1 => ?_⟩
  obtain ⟨z, ez, q⟩ := Goal.opt st1.env g1
  cases r1 with
  | @lst a xs ds ha ra =>
    have ez : (match boolsD ds with
      | some bs => if bs.length ≤ 1000 then some (PyData.list (bs.map fun b => .int (if b then 1 else 0))) else none
      | none => none) = some z := ez
    cases eb : boolsD ds with
    | none => rw [eb] at ez; cases ez
    | some bs =>
      rw [eb] at ez
      simp only at ez
      split at ez
      · rename_i hl
        cases ez
        have ex := bools_rep ra eb
        subst ex
        refine ⟨a, bs.map L2.V.bl, vInt, rfl, st1.env.sub _ _ ha, by rw [List.length_map]; exact hl, fun y hy => ?_, fun D hD => q _ _ _ (Ext.new st1.env.sub hD) (.lst upd_same (repL_ints bs))⟩
        obtain ⟨b, _, rfl⟩ := List.mem_map.mp hy
        exact hte b
      · cases ez
  | _ => cases ez
end
end HD
set_option Elab.async false
set_option linter.all false
set_option maxRecDepth 100000
set_option maxHeartbeats 2000000
namespace HD
open PySem PySem.Spec PyProof.Rows L2 L2H HotX LamX DL
variable [TabCtx]
/-- the refusals but Clash -/
def excs : List Str := ["BadChoir", "BadName", "BadStanding", "BadNumber", "BadRows", "BadLead", "BadWish", "Nothing", "Full", "BadText"]
def excs1 : List Str := ["BadChoir", "BadName", "BadStanding", "BadNumber", "BadRows", "BadLead", "BadWish", "Clash", "Nothing", "Full", "BadText"]
/-- what the classes say -/
structure ExcT (K : PySem.W.Frag) : Prop where
  c : ∀ c ∈ excs, ExcC K (He.ga K c)
  k : ∀ c ∈ excs, ∀ d ∈ excs1, PySem.W.kitOne K (.ref (He.ga K c)) (.ref (He.ga K d)) = some (decide (c = d))
  v : ∀ c ∈ excs, PySem.W.kitOne K (.ref (He.ga K c)) (.type "ValueError") = some true
  m : ∀ c ∈ excs, PySem.W.exmOne K (.ref (He.ga K c)) (.ref (He.ga K "Clash")) = some false ∧ PySem.W.exmOne K (.ref (He.ga K c)) (.ref (He.ga K "SongError")) = some true
abbrev isE (c d : Str) : M PyData := cD (.bool (decide (c = d)))
theorem _root_.L2H.RoomH.units {k : Nat} {A : Around} (r : RoomH k A) : A.units + 64 < cLine := by have := r.un; omega
theorem _root_.L2H.RoomH.units0 {k : Nat} {A : Around} (r : RoomH k A) : A.units < cLine := by have := r.un; omega
theorem u65H {k : Nat} {A : Around} (r : RoomH k A) : A.units + 65 < cLine := by have := r.un; omega
section
variable {X : Cx} {F : Fr} {iter : Expr} {x : Str} {px p1 p2 p3 : Pos} {scope : Scope} {pos : Pos} {fi : M PyData} {p : Addr × Obj}
/-- [int(x) for x in l] -/
theorem pm_ints (j : Nat) (hot : Hot1 X.A p) (hp : p ∈ X.pn) (hz : X.mg "int" = none) (hN : X.N.Nodup) (hi : PM X F iter fi) (ok : BlkOk X.N X.env.scope scope [(x, j)]) (hj : X.N[j]? = some x := by rfl)
    (hl : ∀ (s : Shared) (H : Hp) (C : Addr) (cl : List (Str × Addr)) (fp : List Addr), (X.blk s H scope (compEnvC scope cl C X.env) fp).env.scope.names.lookup x = some .local := by intros; rfl) (hgi : ∀ (s : Shared) (H : Hp) (C : Addr) (cl : List (Str × Addr)) (fp : List Addr), Gl (X.blk s H scope (compEnvC scope cl C X.env) fp) "int" := by intros; rfl) (hd : (x == ("__debug__" : Str)) = false := by decide) (hcd : (x == ("__classdict__" : Str)) = false := by decide)
    (hs : ∀ x, foldedSetIterable iter X.env x = pure x := by intro _; rfl) :
    PM X F (.ListComp (.Call (.Name "int" p1) [.Name x p2] [] p3) [⟨.Name x px, iter, [], 0⟩] scope pos) (op1 gIntsB fi) :=
  pm_lcI (te := tCB (fun xs H Q => (∃ i, xs = [.int i] ∧ Q (.int i) H) ∨ ∃ k, xs = [.bl k] ∧ Q (.int (if k then 1 else 0)) H) (tCons (tVar j) tNil)) hot hp hN hj hi ok (fun a b c d e => pg_name hN hj (Or.inl (hl a b c d e)) (.inr (hl a b c d e)))
    (fun a b c d e => pe_callTy call_int1 (hgi a b c d e) hz (by decide +kernel) (pa_cons (pe_var hj (.inl (hl a b c d e)) hd hcd) pa_nil))
    (fun b σ H Q h q => ⟨.bl b, h, .inr ⟨b, rfl, q⟩⟩) hs
end
abbrev mkT (H V : Hp) (p : Addr × Obj) : Fr := ⟨H, V, some p.1, fun _ _ _ => False, 0, fun _ => False⟩
theorem env_term {K : KW} {H V : Hp} {p : Addr × Obj} {n : Nat} {N : List Str} (hn : N.length = n + 1) (ht : TabV H V) (s : Same V H) : EnvR K (mkT H V p) H V (L2.start N [.ref p.1]) (List.replicate (n + 1) .no) := by
  have no : ∀ {i : Nat} {t : Sl}, (List.replicate (n + 1) Sl.no)[i]? = some t → t = .no := fun {i t} h => by
    rw [List.getElem?_replicate] at h
    split at h
    · exact (Option.some.inj h).symm
    · cases h
  refine ⟨by simp [L2.start, hn], Ext.refl s, fun i d h => ?_, fun i d h => ?_, fun i j a d e h => ?_, fun a h => ?_, ht, ObE.non fun i o h => by cases no h⟩
  · cases no h
  · cases no h
  · cases no h
  · cases h; rfl
section
variable {P : Program} {w : World} {K : PySem.W.Frag} {mg : Str → Option Value} {base : Heap} {params : Arguments} {body : List Stmt} {scope : Scope} {fd : FuncData} {CX : CXT} {x : Str}
theorem term_mk {N : List Str} {n k : Nat} {b : Str → SM} {f : Addr} (D : FunD K x x params body scope [] [] f fd) (S : FnScope N ["e"] scope) (hn : N.length = n + 1)
    (hb : ∀ (c : Str) (cdv : Value) (A : Around) (outer : List Env) (s : Shared) (H V : Hp) (E : XK) (p : Addr × Obj), c ∈ excs → Zc (.ref (He.ga K c)) none p.2 → (∃ vs, p.2.data = .fields vs) → Hot1 (A.deeper (envOfC x scope s.heap.objs.size f cdv)) p → RoomH k (A.deeper (envOfC x scope s.heap.objs.size f cdv)) →
      PMSs (cxH CX P w K mg base N x scope f cdv A outer s H E p) (mkT H V p) body (b c))
    (hv : ∀ c ∈ excs, ∃ ρ', b c (List.replicate (n + 1) .no) = .rt (refusedD c) ρ') :
    FnHP P w K mg base CX (k + 1) f fd ["e"] (spTerm ⟨K, w⟩ (· ∈ excs)) := by
  obtain ⟨oc, od, dV, kV, doc, pm, an, cdv, ct, osl, rfl, lk, hcd, _, _⟩ := D.ex
  refine fn_ofHP lk hcd S (fun p vs H Q E h => by rw [h.1]; rfl) fun A outer s H vs Q E p hot hr h => ?_
  obtain ⟨rfl, c, V, hc, ht, sv, hz, hf, q⟩ := h
  obtain ⟨ρ', e⟩ := hv c hc
  refine ⟨_, hb c cdv A outer s H V E p hc hz hf hot hr, V, List.replicate (n + 1) .no, env_term hn ht sv, ?_⟩
  show GoalS ⟨K, w⟩ (mkT H V p) V (b c (List.replicate (n + 1) .no)) _
  rw [e]
  exact fun v σ' H' V' E' _ r' => q v H' V' E'.ext r'
end
def forget (ρ : Rho) : Rho := ρ.map fun s => match s with
  | .ow _ => .no
  | .ob _ => .no
  | t => t
theorem EnvR.forget {K : KW} {F : Fr} {H V : Hp} {σ : L2.St} {ρ : Rho} {E : XK} (e : EnvR K F H V σ ρ) : EnvR K (mkF H V E) H V σ (forget ρ) := by
  have at_ : ∀ {i : Nat} {t : Sl}, (HD.forget ρ)[i]? = some t → (∃ d, ρ[i]? = some (.sh d) ∧ t = .sh d) ∨ t = .no := fun {i t} h => by
    unfold HD.forget at h
    rw [List.getElem?_map] at h
    obtain ⟨u, h1, h2⟩ := Option.map_eq_some_iff.mp h
    cases u with
    | no => exact .inr h2.symm
    | ob _ => exact .inr h2.symm
    | sh d => exact .inl ⟨d, h1, h2.symm⟩
    | ow d => exact .inr h2.symm
  refine ⟨by rw [e.len]; simp [HD.forget], Ext.refl e.sub, fun i d h => ?_, fun i d h => ?_, fun i j a d d' h => ?_, (fun a h => by cases h), e.tabs, ObE.non fun i o h => by
    rcases at_ h with ⟨_, _, z⟩ | z <;> cases z⟩
  · rcases at_ h with ⟨d', h1, h2⟩ | z
    · cases h2; exact e.sh i d h1
    · cases z
  · rcases at_ h with ⟨d', h1, h2⟩ | z
    · cases h2
    · cases z
  · rcases at_ h with ⟨d', h1, h2⟩ | z
    · cases h2
    · cases z
def toldM (f : M PyData) : M PyData := fun ρ => match f (forget ρ) with
  | .ok (d, _) => .ok (d, ρ)
  | .exc c => if c ∈ excs then .ok (refusedD c, ρ) else .bad
  | .bad => .bad
/-- the def x makes lambdas: its code object and the table -/
structure LamAt (K : PySem.W.Frag) (mg : Str → Option Value) (base : Heap) (x : Str) (cdv : Value) (c P : Addr) : Prop where
  code : cdv = .ref c
  tab : TabB base mg c P
  mem : (P, x ++ ".<locals>." ++ "<lambda>") ∈ TBS
  uniq : ∀ p ∈ TBS, p.1 = P → p.2 = x ++ ".<locals>." ++ "<lambda>"
section
variable {X : Cx} {F : Fr}
theorem tk_lam {A : Around} {outer : List Env} {s : Shared} {H H' V : Hp} {E : XK} {scope : Scope} {f c' : Addr} : Tk (lamN X A outer s H E scope f c') (mkF H' V E) := by
  have t : L2N.Takes (lamN X A outer s H E scope f c') (fun cls d _ H' => E cls d H') := L2N.takes_of rfl rfl rfl rfl
  refine t.imp fun c d σ H' ⟨h1, h2⟩ => ?_
  rw [h1]
  exact h2
theorem pm_told {x : Str} {fdt : FuncData} {pg : Arguments} {bg : List Stmt} {sg : Scope} {params : Arguments} {body : Expr} {scope : Scope} {fb : M PyData} {k : Nat} {c P : Addr} {p lpos pos : Pos}
    (D : FunD X.K "_law_told" "_law_told" pg bg sg [] [] (He.ga X.K "_law_told") fdt) (hm : X.mg "_law_told" = some (.ref (He.ga X.K "_law_told"))) (hbd : ∀ (kV doc pm : Value) (an : Option Addr) (cdv ct : Value) (us : List Value), us.length = (["deed"] : List Str).length → bindArgs (PySem.W.fnOf "_law_told" "_law_told" pg bg sg .none kV doc pm an cdv ct) ⟨us, []⟩ = pure ((["deed"] : List Str).zip us))
    (Sg : FnScope ["deed", "e"] ["deed"] sg) (hva : Vis sg "deed") (hG : ∀ cdv, GivesN X ["deed", "e"] "_law_told" sg (He.ga X.K "_law_told") cdv bg "deed" (x ++ ".<locals>." ++ "<lambda>") (TToldN X.kw (· ∈ excs)))
    (LA : LamAt X.K X.mg X.base x X.env.code c P) (hq : X.env.qual = x ++ ".<locals>.") (hr : Room (k + 2) X.A) (L : LamS X.env.scope scope)
    (hb : ∀ (A : Around) (outer : List Env) (s : Shared) (H : Hp) (E : XK) (f c' : Addr) (H' V : Hp), Room k (A.deeper (lamEnv X scope s.heap.objs.size f c')) → PM (lamN X A outer s H E scope f c') (mkF H' V E) body fb)
    (hg : Gl X "_law_told" := by rfl) (hdef : defaultsOf params X.env = ([], []) := by rfl)
    (hbind : ∀ (q : Str) (cl : List (Str × Addr)) (pm cv ctv : Value), bindArgs (PySem.W.kla_fn "<lambda>" q params body scope cl pm cv ctv) ⟨[], []⟩ = pure [] := by intros; rfl) :
    PM X F (.Call (.Name "_law_told" p) [.Lambda params body scope lpos] [] pos) (toldM fb) := by
  have hbb := D.bindsN (ps := ["deed"]) hbd
  obtain ⟨oc, od, dV, kV, doc, pm, an, cdv, ct, osl, rfl, lk, hcd, _, _⟩ := D.ex
  refine DL.PE.imp (lamcall_N (t := fun E σ H' Q => ∃ V, tM X.kw (mkF H' V E) fb σ H' Q) (TT := TToldN X.kw (· ∈ excs)) hg hm D.kp lk hcd hbb Sg rfl hva (by rw [hq]; exact hG cdv) LA.tab LA.code (by rw [hq]; exact LA.mem) (by rw [hq]; exact LA.uniq) hr L hdef hbind ?_) fun σ H Q ⟨V, ρ, E, g⟩ => ?_
  · intro A outer s H E f c' hr'
    exact ⟨fun pins s1 σ H1 Q I ⟨V, h⟩ => (hb A outer s H E f c' H1 V hr').run pins s1 σ H1 Q I h⟩
  · refine ⟨E.tabs.1, fun H1 ex => ?_⟩
    have e1 := ex V E.sub (E.tabs.2 _ LA.mem)
    have E1 := E.grow e1
    refine ⟨V, V, HD.forget ρ, EnvR.forget E1, ?_⟩
    show Goal X.kw (mkF H1 V _) σ (HD.forget ρ) H1 V (Rep X.kw) (fb (HD.forget ρ)) Q
    unfold toldM at g
    cases ef : fb (HD.forget ρ) with
    | ok pr =>
      obtain ⟨d, ρ'⟩ := pr
      rw [ef] at g
      exact fun b H' V' st r => g b H' V' (E.step (e1.trans st.env.ext)) r
    | exc cc =>
      rw [ef] at g
      have g : Goal X.kw F σ ρ H V (Rep X.kw) (if cc ∈ excs then .ok (refusedD cc, ρ) else .bad) Q := g
      by_cases hc : cc ∈ excs
      · rw [if_pos hc] at g
        intro H' V' x'
        have x2 := e1.trans x'
        refine ⟨cc, V', rfl, rfl, hc, (E.grow x2).tabs, x2.s, fun v H2 V2 x3 r => g v H2 V2 (E.step (x2.trans x3)) r⟩
      · rw [if_neg hc] at g; exact False.elim g
    | bad => rw [ef] at g; exact False.elim g
end
end HD
set_option Elab.async false
set_option linter.all false
set_option maxRecDepth 100000
set_option maxHeartbeats 2000000
namespace HD
open PySem PySem.Spec PyProof.Rows L2 L2H HotX LamX DL He
def lamQ (x : Str) : Str := x ++ ".<locals>." ++ "<lambda>"
def tabsL (K : PySem.W.Frag) (ls : List Str) : List (Addr × Str) := ls.filterMap fun x => (tabOf K x).map fun q => (q.2, lamQ x)
def codesL (K : PySem.W.Frag) (ls : List Str) : List (Addr × Addr) := ls.filterMap fun x => tabOf K x
def frT (g : Addr → Option Obj) (n : Nat) (ls : List Str) : PySem.W.Frag := frG g ((asD g n).filter fun a => !((codesL (frG g (asD g n)) ls).any fun q => q.2 == a))
def isStrV : Value → Bool
  | .str _ _ => true
  | _ => false
def isIntV : Value → Bool
  | .int _ _ => true
  | _ => false
def isBoolV : Value → Bool
  | .bool _ => true
  | _ => false
def codeB (K : PySem.W.Frag) (c P : Addr) : Bool := match K.lookup c with
  | some ⟨.type t, _, .fields vs, _⟩ => decide (t = "code") && (decide (vs[11]? = some (.ref P)) && (isStrV (vs.getD 18 .none) && (isIntV (vs.getD 7 .none) && (isBoolV (vs.getD 9 .none) && (isIntV (vs.getD 10 .none) && !(c == P))))))
  | _ => false
def emptyTab : Option Obj → Bool
  | some ⟨.none, none, .fields vs, sl⟩ => vs.isEmpty && sl.isEmpty
  | _ => false
def lamB (g : Addr → Option Obj) (K : PySem.W.Frag) (ls : List Str) : Bool := (ls.all fun x => match tabOf K x with
  | some q => codeB K q.1 q.2 && (emptyTab (g q.2) && (K.lookup q.2).isNone)
  | none => false) && (((codesL K ls).map (·.2)).eraseDups.length == ls.length)
theorem codeB_ok {K : PySem.W.Frag} {h : Heap} (X : K.In h) {c P : Addr} (e : codeB K c P = true) : PySem.W.CodeHd h c P := by
  unfold codeB at e
  split at e
  · rename_i t od vs sl q
    obtain ⟨e1, e⟩ := ba e
    obtain ⟨e2, e⟩ := ba e
    obtain ⟨e3, e⟩ := ba e
    obtain ⟨e4, e⟩ := ba e
    obtain ⟨e5, e⟩ := ba e
    obtain ⟨e6, e7⟩ := ba e
    have e2 : vs[11]? = some (.ref P) := of_decide_eq_true e2
    have e1 : t = "code" := of_decide_eq_true e1
    subst e1
    have ne : c ≠ P := fun z => by rw [z] at e7; simp at e7
    have s1 : ∃ a b, vs.getD 18 .none = .str a b := by
      cases z : vs.getD 18 .none <;> rw [z] at e3 <;> first | exact ⟨_, _, rfl⟩ | cases e3
    have s2 : ∃ a b, vs.getD 7 .none = .int a b := by
      cases z : vs.getD 7 .none <;> rw [z] at e4 <;> first | exact ⟨_, _, rfl⟩ | cases e4
    have s3 : ∃ a, vs.getD 9 .none = .bool a := by
      cases z : vs.getD 9 .none <;> rw [z] at e5 <;> first | exact ⟨_, rfl⟩ | cases e5
    have s4 : ∃ a b, vs.getD 10 .none = .int a b := by
      cases z : vs.getD 10 .none <;> rw [z] at e6 <;> first | exact ⟨_, _, rfl⟩ | cases e6
    obtain ⟨a1, a2, s1⟩ := s1
    obtain ⟨b1, b2, s2⟩ := s2
    obtain ⟨c1, s3⟩ := s3
    obtain ⟨d1, d2, s4⟩ := s4
    refine ⟨_, vs, a1, a2, b1, b2, c1, d1, d2, X _ _ q, rfl, rfl, e2, ?_, s1, s2, s3, s4, ne⟩
    simp only [Array.getD_eq_getD_getElem?, e2]; rfl
  · cases e
theorem emptyTab_ok {o : Option Obj} (e : emptyTab o = true) : o = some { cls := .none, data := .fields #[] } := by
  unfold emptyTab at e
  split at e
  · obtain ⟨e1, e2⟩ := ba e
    rw [Array.isEmpty_iff.mp e1, Array.isEmpty_iff.mp e2]
  · cases e
/-- what is known of the defs that make lambdas -/
structure LamSays (K : PySem.W.Frag) (h : Heap) (ls : List Str) : Prop where
  at_ : ∀ x ∈ ls, ∃ c P, tabOf K x = some (c, P)
  tab : ∀ p ∈ codesL K ls, h.get? p.2 = some { cls := .none, data := .fields #[] } ∧ K.lookup p.2 = none ∧ PySem.W.CodeHd h p.1 p.2
  uniq : ((codesL K ls).map (·.2)).eraseDups.length = ls.length
theorem lamB_ok {K : PySem.W.Frag} {h : Heap} (X : K.In h) {ls : List Str} (e : lamB h.get? K ls = true) : LamSays K h ls := by
  obtain ⟨e1, e2⟩ := ba e
  have all := List.all_eq_true.mp e1
  refine ⟨fun x hx => ?_, fun p hp => ?_, by simpa using e2⟩
  · have := all x hx
    cases q : tabOf K x with
    | none => rw [q] at this; cases this
    | some r => exact ⟨r.1, r.2, rfl⟩
  · obtain ⟨x, hx, q⟩ := List.mem_filterMap.mp hp
    have := all x hx
    rw [q] at this
    obtain ⟨h1, h2⟩ := ba this
    obtain ⟨h2, h3⟩ := ba h2
    exact ⟨emptyTab_ok h2, by simpa using h3, codeB_ok X h1⟩
theorem LamSays.keeps {K : PySem.W.Frag} {h h' : Heap} {ls : List Str} (L : LamSays K h ls) (k : ∀ b o, h.get? b = some o → h'.get? b = some o) : LamSays K h' ls :=
  ⟨L.at_, fun p hp => ⟨k _ _ (L.tab p hp).1, (L.tab p hp).2.1, (L.tab p hp).2.2.keeps k⟩, L.uniq⟩
theorem erase_len {α β : Type} [BEq β] [LawfulBEq β] (l : List α) (f : α → Option β) (h : (l.filterMap f).eraseDups.length = l.length) : (l.filterMap f).Nodup := by
  have h1 : (l.filterMap f).length ≤ l.length := List.length_filterMap_le f l
  have h2 : ∀ m : List β, m.eraseDups.length ≤ m.length ∧ (m.eraseDups.length = m.length → m.Nodup) := by
    intro m
    induction hm : m.length using Nat.strongRecOn generalizing m with
    | _ n ih =>
      cases m with
      | nil => simp [List.eraseDups] at *
      | cons a r =>
        rw [List.eraseDups_cons]
        have hl := List.length_filter_le (fun b => !b == a) r
        have ih1 := ih (r.filter fun b => !b == a).length (by rw [← hm]; simp only [List.length_cons]; omega) _ rfl
        refine ⟨by rw [← hm]; simp only [List.length_cons]; omega, fun e => ?_⟩
        rw [← hm] at e
        simp only [List.length_cons] at e
        have ef : (r.filter fun b => !b == a).length = r.length := by omega
        have eq : r.filter (fun b => !b == a) = r := List.filter_eq_self.mpr (List.length_filter_eq_length_iff.mp ef)
        refine List.nodup_cons.mpr ⟨fun ha => ?_, ?_⟩
        · have := List.length_filter_eq_length_iff.mp ef a ha
          simp at this
        · have := ih1.2 (by omega)
          rw [eq] at this
          exact this
  exact (h2 _).2 (by have := (h2 (l.filterMap f)).1; omega)
def excB (K : PySem.W.Frag) : Bool := excs.all fun c =>
  (eqO (PySem.W.findIn K (.ref (ga K c)) "__getattribute__") (some (some (.builtin "BaseException.__getattribute__"))) && (eqO (PySem.W.findIn K (.ref (ga K c)) "__getattr__") (some none) && (decide (PySem.W.subIn K (.ref (ga K c)) (.type "BaseException") = some true) &&
    (PySem.W.hasDictIn K (ga K c) && (eqO (PySem.W.findIn K (.ref (ga K c)) "__class__") (some (some (.builtin "object.__class__"))) && (eqO (PySem.W.specialIn K (.builtin "object.__class__") "__get__") (some (some (.builtin "getset_descriptor.__get__"))) &&
      (decide (PySem.W.takesIn K (.builtin "object.__class__") = some true) && decide (PySem.W.mroIn K (ga K c) (.type "object") = some true)))))))) &&
  ((excs1.all fun d => decide (PySem.W.kitOne K (.ref (ga K c)) (.ref (ga K d)) = some (decide (c = d)))) && (decide (PySem.W.kitOne K (.ref (ga K c)) (.type "ValueError") = some true) &&
    (decide (PySem.W.exmOne K (.ref (ga K c)) (.ref (ga K "Clash")) = some false) && decide (PySem.W.exmOne K (.ref (ga K c)) (.ref (ga K "SongError")) = some true))))
theorem excB_ok {K : PySem.W.Frag} (e : excB K = true) : ExcT K := by
  have all := List.all_eq_true.mp e
  refine ⟨fun c hc => ?_, fun c hc d hd => ?_, fun c hc => ?_, fun c hc => ?_⟩
  · obtain ⟨e, _⟩ := ba (all c hc)
    obtain ⟨e1, e⟩ := ba e
    obtain ⟨e2, e⟩ := ba e
    obtain ⟨e3, e⟩ := ba e
    obtain ⟨e4, e⟩ := ba e
    obtain ⟨e5, e⟩ := ba e
    obtain ⟨e6, e⟩ := ba e
    obtain ⟨e7, e8⟩ := ba e
    exact ⟨eqO_ok e1, eqO_ok e2, of_decide_eq_true e3, e4, eqO_ok e5, eqO_ok e6, of_decide_eq_true e7, of_decide_eq_true e8⟩
  · obtain ⟨_, e⟩ := ba (all c hc)
    obtain ⟨e1, _⟩ := ba e
    exact of_decide_eq_true (List.all_eq_true.mp e1 d hd)
  · obtain ⟨_, e⟩ := ba (all c hc)
    obtain ⟨_, e⟩ := ba e
    obtain ⟨e1, _⟩ := ba e
    exact of_decide_eq_true e1
  · obtain ⟨_, e⟩ := ba (all c hc)
    obtain ⟨_, e⟩ := ba e
    obtain ⟨_, e⟩ := ba e
    obtain ⟨e1, e2⟩ := ba e
    exact ⟨of_decide_eq_true e1, of_decide_eq_true e2⟩
def obsL (fa : List Fa) (fn : List DefD) (ls : List Str) (ex : Bool) (g : Addr → Option Obj) (K : PySem.W.Frag) : AlD × Bool := (obsD fa fn K, lamB g K ls && (!ex || excB K))
def obsLG (n : Nat) (fa : List Fa) (fn : List DefD) (ls : List Str) (ex : Bool) (g : Addr → Option Obj) : AlD × Bool := obsL fa fn ls ex g (frT g n ls)
def hookL (n : Nat) (fa : List Fa) (fn : List DefD) (ls : List Str) (ex : Bool) : PySem.W.Hook where
  α := AlD × Bool
  obs := fun s => obsLG n fa fn ls ex s.heap.get?
  val := fun _ => (valD fn, true)
  says := fun _ h => ∃ K : PySem.W.Frag, K.In h ∧ SaysD fa fn K ∧ LamSays K h ls ∧ (ex = true → ExcT K)
  of := fun _ s e => by
    have e1 : obsD fa fn (frT s.heap.get? n ls) = valD fn := congrArg Prod.fst e
    have e2 : (lamB s.heap.get? (frT s.heap.get? n ls) ls && (!ex || excB (frT s.heap.get? n ls))) = true := congrArg Prod.snd e
    obtain ⟨e3, e4⟩ := ba e2
    exact ⟨_, frG_in, e1, lamB_ok frG_in e3, fun z => excB_ok (by rw [z] at e4; exact e4)⟩
  keeps := fun _ _ _ ⟨K, hK, c, l, x⟩ k => ⟨K, PySem.W.Frag.In.keeps hK k, c, l.keeps k, x⟩
theorem obsLG_eq {n : Nat} {fa : List Fa} {fn : List DefD} {ls : List Str} {ex : Bool} {g : Addr → Option Obj} {s : Shared} (h : ∀ a, g a = s.heap.get? a) : obsLG n fa fn ls ex g = (hookL n fa fn ls ex).obs s := by
  have e : g = s.heap.get? := funext h
  rw [e] <;> rfl
/-- the tables of a law -/
@[reducible] def ctxL (K : PySem.W.Frag) (ls : List Str) : TabCtx := ⟨tabsL K ls⟩
theorem lamAt_of {K : PySem.W.Frag} {h : Heap} {ls : List Str} {mg : Str → Option Value} {base : Heap} (L : LamSays K h ls) (TB : ∀ p ∈ codesL K ls, TabB base mg p.1 p.2) {x : Str} (hx : x ∈ ls) {fd : FuncData} {oc : Value} {od : Option Addr} {osl : Array (Option Value)} (lk : K.lookup (ga K x) = some ⟨oc, od, .func fd, osl⟩) :
    letI := ctxL K ls; ∃ c P, LamAt K mg base x fd.code c P := by
  letI := ctxL K ls
  obtain ⟨c, P, e⟩ := L.at_ x hx
  have mem : (c, P) ∈ codesL K ls := List.mem_filterMap.mpr ⟨x, hx, e⟩
  have mT : (P, lamQ x) ∈ tabsL K ls := List.mem_filterMap.mpr ⟨x, hx, by rw [e]; rfl⟩
  refine ⟨c, P, ?_, TB _ mem, mT, fun p hp ep => ?_⟩
  · unfold tabOf at e
    rw [lk] at e
    dsimp only at e
    split at e
    · rename_i c' ec
      split at e
      · split at e
        · cases e; exact ec
        · cases e
      · cases e
    · cases e
  · obtain ⟨y, hy, ey⟩ := List.mem_filterMap.mp (show p ∈ tabsL K ls from hp)
    obtain ⟨q, e3, e4⟩ := Option.map_eq_some_iff.mp ey
    subst e4
    have nd : (ls.filterMap fun x => (tabOf K x).map (·.2)).Nodup := by
      refine erase_len ls _ ?_
      have z := L.uniq
      unfold codesL at z
      rw [List.map_filterMap] at z
      exact z
    -- two of them at one place are one
    have key : ∀ l : List Str, (l.filterMap fun x => (tabOf K x).map (·.2)).Nodup → x ∈ l → y ∈ l → x = y := by
      intro l
      induction l with
      | nil => intro _ h; cases h
      | cons z r ih =>
        intro nd h1 h2
        have mm : ∀ {u : Str} {q : Addr × Addr}, tabOf K u = some q → u ∈ r → q.2 ∈ r.filterMap fun x => (tabOf K x).map (·.2) := fun {u q} h1 h2 => List.mem_filterMap.mpr ⟨u, h2, by rw [h1]; rfl⟩
        rcases List.mem_cons.mp h1 with rfl | h3
        · rcases List.mem_cons.mp h2 with rfl | h2
          · rfl
          · rw [List.filterMap_cons, e] at nd
            exact absurd (by have := mm e3 h2; rw [show q.2 = P from ep] at this; exact this) (List.nodup_cons.mp nd).1
        · rcases List.mem_cons.mp h2 with rfl | h2
          · rw [List.filterMap_cons, e3] at nd
            exact absurd (by have := mm e h3; rw [← (show q.2 = P from ep)] at this; exact this) (List.nodup_cons.mp nd).1
          · refine ih ?_ h3 h2
            rw [List.filterMap_cons] at nd
            cases ez : (tabOf K z).map (·.2) with
            | none => rw [ez] at nd; exact nd
            | some w => rw [ez] at nd; exact (List.nodup_cons.mp nd).2
    have := key ls nd hx hy
    subst this
    rfl
theorem tabs_start {K : PySem.W.Frag} {ls : List Str} {H : Hp} (hH : ∀ p ∈ codesL K ls, H p.2 = some (.tbl #[])) : Tabs (tabsL K ls) H := fun p hp => by
  obtain ⟨x, hx, e⟩ := List.mem_filterMap.mp hp
  obtain ⟨q, e1, e2⟩ := Option.map_eq_some_iff.mp e
  subst e2
  exact TabS.nil (hH q (List.mem_filterMap.mpr ⟨x, hx, e1⟩))
end HD
set_option Elab.async false
set_option linter.all false
set_option maxRecDepth 100000
set_option maxHeartbeats 4000000
namespace G
open PySem PySem.Spec PyProof.Rows L2 DL
variable [TabCtx]
def top (i : Nat) : Stmt := PySem.Challenge.pw_hearsong_k21_running_refused.main.body.getD i (.Pass ⟨0, 0, 0, 0⟩)
abbrev s_is_whole : Stmt := top 15
abbrev s_is_word : Stmt := top 16
abbrev s_rise : Stmt := top 17
abbrev s_are_lines : Stmt := top 18
abbrev s_is_ear : Stmt := top 19
abbrev s_are_ears : Stmt := top 20
abbrev s_places_for : Stmt := top 21
abbrev s_is_singer : Stmt := top 22
abbrev s_is_choir : Stmt := top 23
abbrev s_need_choir : Stmt := top 24
abbrev s_all_names : Stmt := top 25
abbrev s_is_good_standing : Stmt := top 26
abbrev s_need_standing : Stmt := top 27
abbrev s_need_name : Stmt := top 28
abbrev s_number_of : Stmt := top 29
abbrev s_heard_by : Stmt := top 30
abbrev s_place_of : Stmt := top 31
abbrev s_table_line : Stmt := top 32
abbrev s_all_next : Stmt := top 33
abbrev s_behind : Stmt := top 34
abbrev s_need_beats : Stmt := top 37
abbrev s_law_cell : Stmt := top 41
abbrev s_law_drawn : Stmt := top 42
abbrev s_law_roll : Stmt := top 43
abbrev s_law_rounds : Stmt := top 44
abbrev s_law_term : Stmt := top 45
abbrev s_law_told : Stmt := top 46
abbrev s_law_any_singers : Stmt := top 47
abbrev s_law_any_choir : Stmt := top 48
abbrev s_law_any_standing : Stmt := top 49
abbrev s_law : Stmt := top 50
def clsM (s : Stmt) (j : Nat) : Stmt := match s with
  | .ClassDef _ _ _ b _ _ _ _ _ _ _ => b.getD j (.Pass ⟨0, 0, 0, 0⟩)
  | _ => .Pass ⟨0, 0, 0, 0⟩
abbrev s_Running_init : Stmt := clsM (top 39) 0
abbrev s_Running_len : Stmt := clsM (top 39) 1
abbrev s_Running_remember : Stmt := clsM (top 39) 2
abbrev s_Running_need_leads : Stmt := clsM (top 39) 3
abbrev s_Running_sing : Stmt := clsM (top 39) 4
abbrev s_Running_beat : Stmt := clsM (top 39) 5
abbrev s_Running_run_2 : Stmt := clsM (top 39) 6
abbrev s_Running_replace_2 : Stmt := clsM (top 39) 7
abbrev s_Running_lines : Stmt := clsM (top 39) 8
abbrev s_Running_standing : Stmt := clsM (top 39) 9
abbrev s_Running_choir : Stmt := clsM (top 39) 10
abbrev s_Running_undo_2 : Stmt := clsM (top 39) 11
abbrev lams : List Str := ["law"]
end G
set_option maxHeartbeats 0
namespace Head
open PySem PySem.Spec PyProof.Rows L2 DL G
def d_is_whole : He.DefD := ⟨("is_whole", none), "is_whole", "is_whole", defArgs s_is_whole, defBody s_is_whole, defScope s_is_whole, [], []⟩
def d_is_word : He.DefD := ⟨("is_word", none), "is_word", "is_word", defArgs s_is_word, defBody s_is_word, defScope s_is_word, [], []⟩
def d_rise : He.DefD := ⟨("rise", none), "rise", "rise", defArgs s_rise, defBody s_rise, defScope s_rise, [], []⟩
def d_are_lines : He.DefD := ⟨("are_lines", none), "are_lines", "are_lines", defArgs s_are_lines, defBody s_are_lines, defScope s_are_lines, [], []⟩
def d_is_ear : He.DefD := ⟨("is_ear", none), "is_ear", "is_ear", defArgs s_is_ear, defBody s_is_ear, defScope s_is_ear, [], []⟩
def d_are_ears : He.DefD := ⟨("are_ears", none), "are_ears", "are_ears", defArgs s_are_ears, defBody s_are_ears, defScope s_are_ears, [], []⟩
def d_places_for : He.DefD := ⟨("places_for", none), "places_for", "places_for", defArgs s_places_for, defBody s_places_for, defScope s_places_for, [], []⟩
def d_is_singer : He.DefD := ⟨("is_singer", none), "is_singer", "is_singer", defArgs s_is_singer, defBody s_is_singer, defScope s_is_singer, [], []⟩
def d_is_choir : He.DefD := ⟨("is_choir", none), "is_choir", "is_choir", defArgs s_is_choir, defBody s_is_choir, defScope s_is_choir, [], []⟩
def d_need_choir : He.DefD := ⟨("need_choir", none), "need_choir", "need_choir", defArgs s_need_choir, defBody s_need_choir, defScope s_need_choir, [], []⟩
def d_all_names : He.DefD := ⟨("all_names", none), "all_names", "all_names", defArgs s_all_names, defBody s_all_names, defScope s_all_names, [], []⟩
def d_is_good_standing : He.DefD := ⟨("is_good_standing", none), "is_good_standing", "is_good_standing", defArgs s_is_good_standing, defBody s_is_good_standing, defScope s_is_good_standing, [], []⟩
def d_need_standing : He.DefD := ⟨("need_standing", none), "need_standing", "need_standing", defArgs s_need_standing, defBody s_need_standing, defScope s_need_standing, [], []⟩
def d_need_name : He.DefD := ⟨("need_name", none), "need_name", "need_name", defArgs s_need_name, defBody s_need_name, defScope s_need_name, [], []⟩
def d_number_of : He.DefD := ⟨("number_of", none), "number_of", "number_of", defArgs s_number_of, defBody s_number_of, defScope s_number_of, [], []⟩
def d_heard_by : He.DefD := ⟨("heard_by", none), "heard_by", "heard_by", defArgs s_heard_by, defBody s_heard_by, defScope s_heard_by, [], []⟩
def d_place_of : He.DefD := ⟨("place_of", none), "place_of", "place_of", defArgs s_place_of, defBody s_place_of, defScope s_place_of, [], []⟩
def d_table_line : He.DefD := ⟨("table_line", none), "table_line", "table_line", defArgs s_table_line, defBody s_table_line, defScope s_table_line, [], []⟩
def d_all_next : He.DefD := ⟨("all_next", none), "all_next", "all_next", defArgs s_all_next, defBody s_all_next, defScope s_all_next, [], []⟩
def d_behind : He.DefD := ⟨("behind", none), "behind", "behind", defArgs s_behind, defBody s_behind, defScope s_behind, [], []⟩
def d_need_beats : He.DefD := ⟨("need_beats", none), "need_beats", "need_beats", defArgs s_need_beats, defBody s_need_beats, defScope s_need_beats, [], []⟩
def d_law_cell : He.DefD := ⟨("_law_cell", none), "_law_cell", "_law_cell", defArgs s_law_cell, defBody s_law_cell, defScope s_law_cell, [], []⟩
def d_law_drawn : He.DefD := ⟨("_law_drawn", none), "_law_drawn", "_law_drawn", defArgs s_law_drawn, defBody s_law_drawn, defScope s_law_drawn, [], []⟩
def d_law_roll : He.DefD := ⟨("_law_roll", none), "_law_roll", "_law_roll", defArgs s_law_roll, defBody s_law_roll, defScope s_law_roll, [], []⟩
def d_law_rounds : He.DefD := ⟨("_law_rounds", none), "_law_rounds", "_law_rounds", defArgs s_law_rounds, defBody s_law_rounds, defScope s_law_rounds, [], []⟩
def d_law_term : He.DefD := ⟨("_law_term", none), "_law_term", "_law_term", defArgs s_law_term, defBody s_law_term, defScope s_law_term, [], []⟩
def d_law_told : He.DefD := ⟨("_law_told", none), "_law_told", "_law_told", defArgs s_law_told, defBody s_law_told, defScope s_law_told, [], []⟩
def d_law_any_singers : He.DefD := ⟨("_law_any_singers", none), "_law_any_singers", "_law_any_singers", defArgs s_law_any_singers, defBody s_law_any_singers, defScope s_law_any_singers, [], []⟩
def d_law_any_choir : He.DefD := ⟨("_law_any_choir", none), "_law_any_choir", "_law_any_choir", defArgs s_law_any_choir, defBody s_law_any_choir, defScope s_law_any_choir, [], []⟩
def d_law_any_standing : He.DefD := ⟨("_law_any_standing", none), "_law_any_standing", "_law_any_standing", defArgs s_law_any_standing, defBody s_law_any_standing, defScope s_law_any_standing, [], []⟩
def d_law : He.DefD := ⟨("law", none), "law", "law", defArgs s_law, defBody s_law, defScope s_law, [], []⟩
def d_Running_init : He.DefD := ⟨("Running", some "__init__"), "__init__", "Running.__init__", defArgs s_Running_init, defBody s_Running_init, defScope s_Running_init, [], []⟩
def d_Running_len : He.DefD := ⟨("Running", some "__len__"), "__len__", "Running.__len__", defArgs s_Running_len, defBody s_Running_len, defScope s_Running_len, [], []⟩
def d_Running_remember : He.DefD := ⟨("Running", some "remember"), "remember", "Running.remember", defArgs s_Running_remember, defBody s_Running_remember, defScope s_Running_remember, [], []⟩
def d_Running_need_leads : He.DefD := ⟨("Running", some "need_leads"), "need_leads", "Running.need_leads", defArgs s_Running_need_leads, defBody s_Running_need_leads, defScope s_Running_need_leads, [], []⟩
def d_Running_sing : He.DefD := ⟨("Running", some "sing"), "sing", "Running.sing", defArgs s_Running_sing, defBody s_Running_sing, defScope s_Running_sing, [], []⟩
def d_Running_beat : He.DefD := ⟨("Running", some "beat"), "beat", "Running.beat", defArgs s_Running_beat, defBody s_Running_beat, defScope s_Running_beat, [], []⟩
def d_Running_run_2 : He.DefD := ⟨("Running", some "run"), "run", "Running.run", defArgs s_Running_run_2, defBody s_Running_run_2, defScope s_Running_run_2, [], []⟩
def d_Running_replace_2 : He.DefD := ⟨("Running", some "replace"), "replace", "Running.replace", defArgs s_Running_replace_2, defBody s_Running_replace_2, defScope s_Running_replace_2, [], []⟩
def d_Running_lines : He.DefD := ⟨("Running", some "lines"), "lines", "Running.lines", defArgs s_Running_lines, defBody s_Running_lines, defScope s_Running_lines, [], []⟩
def d_Running_standing : He.DefD := ⟨("Running", some "standing"), "standing", "Running.standing", defArgs s_Running_standing, defBody s_Running_standing, defScope s_Running_standing, [], []⟩
def d_Running_choir : He.DefD := ⟨("Running", some "choir"), "choir", "Running.choir", defArgs s_Running_choir, defBody s_Running_choir, defScope s_Running_choir, [], []⟩
def d_Running_undo_2 : He.DefD := ⟨("Running", some "undo"), "undo", "Running.undo", defArgs s_Running_undo_2, defBody s_Running_undo_2, defScope s_Running_undo_2, [], []⟩
def fn : List He.DefD := [d_is_whole, d_is_word, d_rise, d_are_lines, d_is_ear, d_are_ears, d_places_for, d_is_singer, d_is_choir, d_need_choir, d_all_names, d_is_good_standing, d_need_standing, d_need_name, d_number_of, d_heard_by, d_place_of, d_table_line, d_all_next, d_behind, d_need_beats, d_law_cell, d_law_drawn, d_law_roll, d_law_rounds, d_law_term, d_law_told, d_law_any_singers, d_law_any_choir, d_law_any_standing, d_law, d_Running_init, d_Running_len, d_Running_remember, d_Running_need_leads, d_Running_sing, d_Running_beat, d_Running_run_2, d_Running_replace_2, d_Running_lines, d_Running_standing, d_Running_choir, d_Running_undo_2]
def fa : List He.Fa := [.glo "is_whole", .glo "is_word", .glo "rise", .glo "are_lines", .glo "is_ear", .glo "are_ears", .glo "places_for", .glo "is_singer", .glo "is_choir", .glo "need_choir", .glo "all_names", .glo "is_good_standing", .glo "need_standing", .glo "need_name", .glo "number_of", .glo "heard_by", .glo "place_of", .glo "table_line", .glo "all_next", .glo "behind", .glo "need_beats", .glo "_law_cell", .glo "_law_drawn", .glo "_law_roll", .glo "_law_rounds", .glo "_law_term", .glo "_law_told", .glo "_law_any_singers", .glo "_law_any_choir", .glo "_law_any_standing", .glo "law", .glo "SongError", .glo "BadChoir", .glo "BadName", .glo "BadStanding", .glo "BadNumber", .glo "BadRows", .glo "BadLead", .glo "BadWish", .glo "Clash", .glo "Nothing", .glo "Full", .glo "BadText", .glo "Running", .exc "SongError", .exc "BadChoir", .exc "BadName", .exc "BadStanding", .exc "BadNumber", .exc "BadRows", .exc "BadLead", .exc "BadWish", .exc "Nothing", .exc "Full", .exc "BadText", .str "SMALL" "abcdefghijklmnopqrstuvwxyz", .int "LONGEST" 500, .free "ValueError", .free "all", .free "bool", .free "dict", .free "int", .free "isinstance", .free "len", .free "list", .free "max", .free "min", .free "range", .free "sorted", .free "str", .free "sum", .free "tuple", .free "zip", .cls "Running", .mkr "Running", .noat "Running" "first", .noat "Running" "crew", .noat "Running" "stand", .noat "Running" "sung", .noat "Running" "deeds", .noat "Running" "past", .meth "Running" "remember", .meth "Running" "need_leads", .meth "Running" "sing", .meth "Running" "beat", .meth "Running" "run", .meth "Running" "replace", .meth "Running" "lines", .meth "Running" "standing", .meth "Running" "choir", .meth "Running" "undo"]
abbrev R : PySem.W.OpenRow := PySem.W.OpenLaw.row PySem.Challenge.rw_hearsong_k21_running_refused
abbrev hk : PySem.W.Hook := HD.hookL 4 fa fn lams true
def ob (s : PySem.W.SharedT) : He.AlD × Bool := HD.obsLG 4 fa fn lams true (HandSHeadRun.getT s)
theorem ob_eq (s : PySem.W.SharedT) : ob s = hk.obs s.abs := HD.obsLG_eq (HandSHeadRun.getT_eq s)
def lo0 : List PySem.Str := ["is_whole", "is_word", "rise", "are_lines", "is_ear", "are_ears", "places_for", "is_singer", "is_choir", "need_choir", "all_names", "is_good_standing", "need_standing", "need_name", "number_of", "heard_by", "place_of", "table_line", "all_next", "behind", "need_beats", "_law_cell", "_law_drawn", "_law_roll", "_law_rounds", "_law_term", "_law_told", "_law_any_singers", "_law_any_choir", "_law_any_standing"]
def lo1 : List PySem.Str := ["SongError", "BadChoir", "BadName", "BadStanding", "BadNumber", "BadRows", "BadLead", "BadWish", "Clash", "Nothing", "Full", "BadText", "Running", "SMALL", "LONGEST"]
def loose : List PySem.Str := lo0 ++ lo1
theorem run (w : World) : HandSHeadRun.RunEq R (PySem.W.view R.prog [50]) hk ob 9000 loose w := by
  intro os
  kernel_rfl
end Head
set_option Elab.async false
set_option linter.all false
set_option maxRecDepth 100000
set_option maxHeartbeats 2000000
namespace HD
open PySem PySem.Spec PyProof.Rows L2 L2H HotX LamX DL
/-- the def x of K makes lambdas -/
def LamK [TabCtx] (K : PySem.W.Frag) (mg : Str → Option Value) (base : Heap) (x : Str) : Prop := ∀ (fd : FuncData) (oc : Value) (od : Option Addr) (osl : Array (Option Value)), K.lookup (He.ga K x) = some ⟨oc, od, .func fd, osl⟩ → ∃ c P, LamAt K mg base x fd.code c P
def LamKs [TabCtx] (K : PySem.W.Frag) (mg : Str → Option Value) (base : Heap) (ls : List Str) : Prop := ∀ x ∈ ls, LamK K mg base x
theorem lamKs {K : PySem.W.Frag} {h : Heap} {ls : List Str} {mg : Str → Option Value} {base : Heap} (L : LamSays K h ls) (TB : ∀ p ∈ codesL K ls, TabB base mg p.1 p.2) : letI := ctxL K ls; LamKs K mg base ls := by
  letI := ctxL K ls
  intro x hx fd oc od osl lk
  exact lamAt_of L TB hx lk
theorem cx_no {P : Program} {w : World} {H : Hp} {s : Shared} {e : Value} {s' : Shared} (h : L2N.CX P w [] H s (fun _ _ _ => False) e s') : False := by
  letI : TabCtx := ⟨[]⟩
  exact DL.cxe_no (P := P) ⟨w, h⟩
variable [TabCtx]
end HD
set_option Elab.async false
set_option linter.all false
set_option maxRecDepth 100000
set_option maxHeartbeats 2000000
namespace HD
open PySem PySem.Spec PyProof.Rows L2 L2H HotX LamX DL
variable [TabCtx]
def Kept (P : Program) (w : World) (f : Addr) (h : Heap) : Prop := ∃ k, (k = Keeper.frame ∨ k = Keeper.machine ∨ k = Keeper.boundFrame) ∧ PySem.W.Looks (model P w) h (keeperOf (.ref f)) k
/-- what stands at f can be called: data in, data out -/
structure CbAt (P : Program) (w : World) (K : PySem.W.Frag) (mg : Str → Option Value) (base : Heap) (lvl : Nat) (H V : Hp) (f : Addr) (cb : List PyData → Option PyData) : Prop where
  run : ∀ (H' V' : Hp), Ext H V H' V' → TabV H' V' → ∀ (A : Around) (outer : List Env) (s : Shared) (us : List Value) (vs : List L2.V) (ds : List PyData) (d : PyData) (Q : VK), Room lvl A → Env0 P w K mg base A outer s H' → Vals vs us → RepL ⟨K, w⟩ V' vs ds → cb ds = some d →
    (∀ v H2 V2, Ext H' V' H2 V2 → Rep ⟨K, w⟩ V2 v d → Q v H2) → codeAny (model P w) A (.call (.ref f) ⟨us, []⟩) (CR C8.CX0 outer P w H' s Q C8.E0) s
  fn : ∀ (H' V' : Hp), Ext H V H' V' → ∀ h : Heap, HOk P w H' h → K.In h → Kept P w f h
theorem CbAt.mono {P : Program} {w : World} {K : PySem.W.Frag} {mg : Str → Option Value} {base : Heap} {lvl : Nat} {H V H1 V1 : Hp} {f : Addr} {cb : List PyData → Option PyData} (C : CbAt P w K mg base lvl H V f cb) (e : Ext H V H1 V1) : CbAt P w K mg base lvl H1 V1 f cb :=
  ⟨fun H' V' x => C.run H' V' (e.trans x), fun H' V' x => C.fn H' V' (e.trans x)⟩
end HD
set_option Elab.async false
set_option linter.all false
set_option maxRecDepth 100000
set_option maxHeartbeats 2000000
namespace HD
open PySem PySem.Spec PyProof.Rows L2 L2H HotX LamX DL
structure LamP (sc scope : Scope) (ps : List Str) : Prop where
  kind : scope.kind = .function
  co : scope.isCoroutine = false
  gen : scope.isGenerator = false
  own : ∀ y ∈ scope.names, y.2 ≠ .cell
  loc : ∀ y ∈ scope.names, y.2 = .local → y.1 ∈ ps
  free : ∀ y ∈ scope.names, y.2 = .free → sc.names.lookup y.1 = some .cell ∨ sc.names.lookup y.1 = some .free
  par : ∀ y ∈ ps, scope.names.lookup y = some .local
  nd : ps.Nodup
theorem LamP.has {X : Cx} {scope : Scope} {ps : List Str} (L : LamP X.env.scope scope ps) (ok : X.Ok) : ∀ y ∈ scope.names, y.2 = .free → ∃ c, X.env.cells.lookup y.1 = some c := fun y hy e => by
  rcases L.free y hy e with k | k
  · exact ok.has _ (.inl k)
  · exact ok.has _ (.inr k)
section
variable {X : Cx} {pins : List (Addr × Obj)} {σ : L2.St} {H HZ : Hp} {s s1 : Shared}
/-- a new thing comes to be tracked -/
theorem inv_track {a : Addr} {o : HO} (I : Inv X pins σ H s) (hn : H a = none) (h0 : X.s_0.heap.objs.size ≤ a) (hl : a ≠ X.env.locals) (hc : ∀ x c, X.env.cells.lookup x = some c → c ≠ a) (hp : ∀ p ∈ X.pn ++ pins, p.1 ≠ a) (ho : ObjOk X.prog X.w (upd H a o) s.heap a o) : Inv X pins σ (upd H a o) s := by
  have ne : ∀ b u, H b = some u → b ≠ a := fun b u e => ne_of_none e hn
  refine ⟨I.ok, I.os, I.bare, ⟨I.base.keep, I.base.slot, fun b ob q n hx => ?_, I.base.there, fun b xs q => ?_, fun b ob u q => ?_, fun b ps q => ?_⟩, I.loc, I.cell, ?_, fun y c e => ?_, fun p hq => ?_, fun b u e => ?_, I.len⟩
  · rw [upd_ne (Nat.ne_of_lt (Nat.lt_of_lt_of_le (Heap.lt_size q) h0))]; exact I.base.free b ob q n hx
  · have := I.base.tups b xs q
    rw [upd_ne (ne _ _ this)]; exact this
  · have := I.base.frzs b ob u q
    rw [upd_ne (ne _ _ this)]; exact this
  · obtain ⟨m, this⟩ := I.base.tbls b ps q
    exact ⟨m, by rw [upd_ne (ne _ _ this)]; exact this⟩
  · rw [upd_ne (Ne.symm hl)]; exact I.free
  · rw [upd_ne (hc y c e)]; exact I.freeC y c e
  · obtain ⟨q1, q2, q3⟩ := I.pin p hq
    exact ⟨q1, by rw [upd_ne (hp p hq)]; exact q2, q3⟩
  · by_cases hb : b = a
    · subst hb; rw [upd_same] at e; cases e; exact ho
    · rw [upd_ne hb] at e
      exact (I.hok b u e).stay (fun c v _ q => q) (fun c q => by rw [upd_ne (ne _ _ q)]; exact q) fun c xs q => by rw [upd_ne (ne _ _ q)]; exact q
end
end HD
set_option Elab.async false
set_option linter.all false
set_option maxRecDepth 100000
set_option maxHeartbeats 2000000
set_option Elab.async false
set_option linter.all false
set_option maxRecDepth 100000
set_option maxHeartbeats 2000000
namespace DL
open PySem PySem.Spec PyProof.Rows L2
end DL
set_option Elab.async false
set_option linter.all false
set_option maxRecDepth 100000
set_option maxHeartbeats 4000000
namespace PySem
open Sem (wp)
namespace F
theorem zip_no_len : typeLookup (.type "zip") "__len__" = pure none := by rw [typeLookup_type, builtinLookup_eq_fast]; kernel_rfl
theorem zip_no_hint : typeLookup (.type "zip") "__length_hint__" = pure none := by rw [typeLookup_type, builtinLookup_eq_fast]; kernel_rfl
end F
section
variable {prog : Program} {w : World} {A : Around} {E : Value → Shared → Prop} {s : Shared} {z TI TO i1 i2 : Addr} {fp1 fp2 : List Addr} {n1 n2 i : Nat} {P1 P2 : Nat → Value → Prop} {St1 St2 : Nat → Heap → Prop} {a1 a2 : Value}
theorem zipD2_item_held {T : Addr} {f : Bool} {oT : Obj} {Q : Value → Shared → Prop} (S : ZipSep2 z TI TO i1 i2 fp1 fp2) (D1 : Draws prog w A i1 fp1 n1 P1 St1) (D2 : Draws prog w A i2 fp2 n2 P2 St2)
    (hz : IsZipHeld s.heap z TI TO T f) (hT : s.heap.get? T = some oT) (hTI : IsTupOf2 s.heap TI (.ref i1) (.ref i2)) (st1 : St1 i s.heap) (st2 : St2 i s.heap) (hlt1 : i < n1) (hlt2 : i < n2)
    (hQ : ∀ x1 x2 h' tk, P1 i x1 → P2 i x2 → IsZipHeld h' z TI TO T true → St1 (i + 1) h' → St2 (i + 1) h' → IsTupOf2 h' s.heap.objs.size x1 x2 → h'.objs.size = s.heap.objs.size + 1 →
      (∀ c o, c ≠ z → c ≠ i1 → c ≠ i2 → s.heap.get? c = some o → h'.get? c = some o) → Q (.ref s.heap.objs.size) { s with heap := h', toks := tk }) :
    wpAny (model prog w) A (Builtin.«zip.__next__» ⟨[.ref z], []⟩) (fun fin s' => ∃ v, fin = .done (.ret v) ∧ Q v s') E s := by
  obtain ⟨hp, g, d, tk0, os⟩ := s
  show wpAny _ _ (field (.ref z) 2 >>= _) _ _ _
  refine wpAny_bind (wpAny_field hz rfl (x := .bool false) rfl ?_)
  show wpAny _ _ (field (.ref z) 3 >>= _) _ _ _
  refine wpAny_bind (wpAny_field hz rfl (x := .ref TI) rfl ?_)
  refine wpAny_bind (wpAny_seqItems hTI rfl ?_)
  show wpAny _ _ (Builtin.SmallTypes.ownedTupleIsFree (.ref z) >>= _) _ _ _
  refine wpAny_bind (wpAny_tupleHeld_zip hz hT fun h₁ hz₁ hs₁ => ?_)
  replace hs₁ : Heap.SameBut z hp h₁ := hs₁
  simp only [Bool.false_eq_true, if_false]
  refine wpAny_bind ?_
  rw [← Array.forIn_toList]
  simp only [List.forIn_cons, List.forIn_nil]
  refine wpAny_bind (wpAny_bind (wpAny_holding ?_))
  show wpAny _ _ (Builtin.SmallTypes.nextOf (.ref i1) >>= _) _ _ _
  refine wpAny_bind (D1.item i ⟨h₁, g, d, tk0, os⟩ _ _ hlt1 (D1.over st1 hs₁ S.zf1) fun x1 h₂ tk1 hx1 sn1 hs₂ => wpAny_pure ?_)
  replace hs₂ : Heap.SameBut i1 h₁ h₂ := hs₂
  refine wpAny_pure ?_
  refine wpAny_bind (wpAny_bind (wpAny_holding ?_))
  show wpAny _ _ (Builtin.SmallTypes.nextOf (.ref i2) >>= _) _ _ _
  refine wpAny_bind (D2.item i ⟨h₂, g, d, tk1, os⟩ _ _ hlt2 (D2.over (D2.over st2 hs₁ S.zf2) hs₂ S.sep1_2) fun x2 h₃ tk2 hx2 sn2 hs₃ => wpAny_pure ?_)
  replace hs₃ : Heap.SameBut i2 h₂ h₃ := hs₃
  refine wpAny_pure (wpAny_pure ?_)
  show wpAny _ _ (newTuple [x1, x2] >>= _) _ _ _
  refine wpAny_bind (wpAny_newTuple ?_)
  have hsz : h₃.objs.size = hp.objs.size := by rw [hs₃.1, hs₂.1, hs₁.1]
  have hz₃ : IsZipHeld h₃ z TI TO T true := hs₃.extBut _ _ S.zi2 (hs₂.extBut _ _ S.zi1 hz₁)
  have hk : ∀ c o, c ≠ z → c ≠ i1 → c ≠ i2 → hp.get? c = some o → h₃.get? c = some o := fun c o c1 c2 c3 e => hs₃.extBut _ _ c3 (hs₂.extBut _ _ c2 (hs₁.extBut _ _ c1 e))
  refine wpAny_pure ⟨_, rfl, ?_⟩
  show Q (.ref h₃.objs.size) _
  have hp' : IsTupOf2 (h₃.push { cls := .type "tuple", data := .seq #[x1, x2] }) h₃.objs.size x1 x2 := Heap.get?_push_size _ rfl
  have hz4 : (h₃.push { cls := .type "tuple", data := .seq #[x1, x2] }).objs.size = h₃.objs.size + 1 := Heap.size_push ..
  rw [hsz] at hp' hz4 ⊢
  exact hQ x1 x2 _ tk2 hx1 hx2 (Heap.get?_push_of_some _ hz₃) (D1.frame _ _ _ (D1.over sn1 hs₃ S.sep2_1) fun b _ o e => Heap.get?_push_of_some _ e) (D2.frame _ _ _ sn2 fun b _ o e => Heap.get?_push_of_some _ e) hp' hz4 fun c o c1 c2 c3 e => Heap.get?_push_of_some _ (hk c o c1 c2 c3 e)
theorem zipD2_end_held {T : Addr} {f : Bool} {oT : Obj} {Q : Fin → Shared → Prop} (S : ZipSep2 z TI TO i1 i2 fp1 fp2) (D1 : Draws prog w A i1 fp1 n1 P1 St1) (D2 : Draws prog w A i2 fp2 n2 P2 St2)
    (hz : IsZipHeld s.heap z TI TO T f) (hT : s.heap.get? T = some oT) (hTI : IsTupOf2 s.heap TI (.ref i1) (.ref i2)) (st1 : St1 i s.heap) (st2 : St2 i s.heap) (hle1 : i ≤ n1) (hle2 : i ≤ n2) (hend : i = n1 ∨ i = n2)
    (hE : ∀ h' tk e, (∀ c o, c ≠ z → c ≠ i1 → c ≠ i2 → s.heap.get? c = some o → h'.get? c = some o) → (∃ o, h'.get? e = some o ∧ o.cls = .type "StopIteration") → E (.ref e) { s with heap := h', toks := tk }) :
    wpAny (model prog w) A (Builtin.«zip.__next__» ⟨[.ref z], []⟩) Q E s := by
  obtain ⟨hp, g, d, tk0, os⟩ := s
  show wpAny _ _ (field (.ref z) 2 >>= _) _ _ _
  refine wpAny_bind (wpAny_field hz rfl (x := .bool false) rfl ?_)
  show wpAny _ _ (field (.ref z) 3 >>= _) _ _ _
  refine wpAny_bind (wpAny_field hz rfl (x := .ref TI) rfl ?_)
  refine wpAny_bind (wpAny_seqItems hTI rfl ?_)
  show wpAny _ _ (Builtin.SmallTypes.ownedTupleIsFree (.ref z) >>= _) _ _ _
  refine wpAny_bind (wpAny_tupleHeld_zip hz hT fun h₁ hz₁ hs₁ => ?_)
  replace hs₁ : Heap.SameBut z hp h₁ := hs₁
  simp only [Bool.false_eq_true, if_false]
  refine wpAny_bind ?_
  rw [← Array.forIn_toList]
  simp only [List.forIn_cons, List.forIn_nil]
  refine wpAny_bind (wpAny_bind (wpAny_holding ?_))
  show wpAny _ _ (Builtin.SmallTypes.nextOf (.ref i1) >>= _) _ _ _
  by_cases hlt1 : i < n1
  · have hi2 : i = n2 := by omega
    refine wpAny_bind (D1.item i ⟨h₁, g, d, tk0, os⟩ _ _ hlt1 (D1.over st1 hs₁ S.zf1) fun x1 h₂ tk1 hx1 sn1 hs₂ => wpAny_pure ?_)
    replace hs₂ : Heap.SameBut i1 h₁ h₂ := hs₂
    refine wpAny_pure ?_
    refine wpAny_bind (wpAny_bind (wpAny_holding ?_))
    show wpAny _ _ (Builtin.SmallTypes.nextOf (.ref i2) >>= _) _ _ _
    refine wpAny_bind (D2.done ⟨h₂, g, d, tk1, os⟩ _ _ (by rw [← hi2]; exact D2.over (D2.over st2 hs₁ S.zf2) hs₂ S.sep1_2) fun h₃ e hs₃ he => ?_)
    exact hE h₃ tk1 e (fun c o c1 c2 c3 x => hs₃ _ _ c3 (hs₂.extBut _ _ c2 (hs₁.extBut _ _ c1 x))) he
  · have hi1 : i = n1 := by omega
    refine wpAny_bind (D1.done ⟨h₁, g, d, tk0, os⟩ _ _ (by rw [← hi1]; exact D1.over st1 hs₁ S.zf1) fun h₂ e hs₂ he => ?_)
    exact hE h₂ tk0 e (fun c o c1 c2 _ x => hs₂ _ _ c2 (hs₁.extBut _ _ c1 x)) he
/-- a zip while a list at S takes its tuples -/
def ZS (z TI TO i1 i2 S : Addr) (St1 St2 : Nat → Heap → Prop) (i : Nat) (h : Heap) : Prop := IsTupOf2 h TI (.ref i1) (.ref i2) ∧ St1 i h ∧ St2 i h ∧
  ((IsZip h z TI TO .none ∧ ∃ a b, IsTupOf2 h TO a b) ∨ ∃ T f oT, IsZipHeld h z TI TO T f ∧ h.get? T = some oT ∧ T ≠ z ∧ T ≠ i1 ∧ T ≠ i2 ∧ T ≠ S)
structure ZOff (z TI TO i1 i2 : Addr) (fp1 fp2 : List Addr) (S : Addr) : Prop where
  z : S ≠ z
  TI : S ≠ TI
  TO : S ≠ TO
  f1 : S ∉ fp1
  f2 : S ∉ fp2
theorem zs_typeIs {S : Addr} (Z : ZS z TI TO i1 i2 S St1 St2 i s.heap) : s.TypeIs (.ref z) "zip" := by
  obtain ⟨_, _, _, ⟨hz, _⟩ | ⟨T, f, oT, hz, _⟩⟩ := Z
  · exact ⟨_, hz, rfl⟩
  · exact ⟨_, hz, rfl⟩
theorem zs_frame {S : Addr} (O : ZOff z TI TO i1 i2 fp1 fp2 S) (D1 : Draws prog w A i1 fp1 n1 P1 St1) (D2 : Draws prog w A i2 fp2 n2 P2 St2) {h h' : Heap} (Z : ZS z TI TO i1 i2 S St1 St2 i h) (k : ∀ b o, b ≠ S → h.get? b = some o → h'.get? b = some o) : ZS z TI TO i1 i2 S St1 St2 i h' := by
  obtain ⟨hTI, st1, st2, hz⟩ := Z
  refine ⟨k _ _ (Ne.symm O.TI) hTI, D1.frame _ _ _ st1 fun b hb o e => k b o (fun q => O.f1 (q ▸ hb)) e, D2.frame _ _ _ st2 fun b hb o e => k b o (fun q => O.f2 (q ▸ hb)) e, ?_⟩
  rcases hz with ⟨hz, a, b, hTO⟩ | ⟨T, f, oT, hz, hT, r1, r2, r3, r4⟩
  · exact .inl ⟨k _ _ (Ne.symm O.z) hz, a, b, k _ _ (Ne.symm O.TO) hTO⟩
  · exact .inr ⟨T, f, oT, k _ _ (Ne.symm O.z) hz, k _ _ r4 hT, r1, r2, r3, r4⟩
theorem zs_item {S : Addr} {Q : Option Value → Shared → Prop} (Sp : ZipSep2 z TI TO i1 i2 fp1 fp2) (D1 : Draws prog w A.in1 i1 fp1 n1 P1 St1) (D2 : Draws prog w A.in1 i2 fp2 n2 P2 St2) (Z : ZS z TI TO i1 i2 S St1 St2 i s.heap) (hlt1 : i < n1) (hlt2 : i < n2) (hS : S < s.heap.objs.size)
    (hQ : ∀ x1 x2 h' tk, P1 i x1 → P2 i x2 → ZS z TI TO i1 i2 S St1 St2 (i + 1) h' → IsTupOf2 h' s.heap.objs.size x1 x2 → h'.objs.size = s.heap.objs.size + 1 →
      (∀ c o, c ≠ z → c ≠ TO → c ≠ i1 → c ≠ i2 → s.heap.get? c = some o → h'.get? c = some o) → Q (some (.ref s.heap.objs.size)) { s with heap := h', toks := tk }) :
    wpAny (model prog w) A (pyNext (.ref z)) Q E s := by
  have hTy := zs_typeIs Z
  obtain ⟨hTI, st1, st2, hz⟩ := Z
  have lt : ∀ {c o}, s.heap.get? c = some o → s.heap.objs.size ≠ c := fun e => Nat.ne_of_gt (Heap.lt_size e)
  have n1' : s.heap.objs.size ≠ i1 := let ⟨_, e⟩ := D1.live i _ st1; lt e
  have n2' : s.heap.objs.size ≠ i2 := let ⟨_, e⟩ := D2.live i _ st2; lt e
  rcases hz with ⟨hz, a, b, hTO⟩ | ⟨T, f, oT, hz, hT, r1, r2, r3, r4⟩
  · refine wpAny_pyNext_zipD2_item Sp D1 D2 hz hTI hTO st1 st2 hlt1 hlt2 fun x1 x2 h' tk p1 p2 b1 b2 d1 d2 b5 b6 b7 => ?_
    exact hQ x1 x2 h' tk p1 p2 ⟨b7 _ _ Sp.TIz Sp.TITO Sp.TIi1 Sp.TIi2 hTI, d1, d2, .inr ⟨s.heap.objs.size, false, _, b1, b5, lt hz, n1', n2', Nat.ne_of_gt hS⟩⟩ b5 b6 b7
  · unfold pyNext
    refine wpAny_bind (wpAny_attempt (wpAny_callSpecial?_slot (name := Str.ofString "__next__") hTy F.slot_zip_next
      (wpAny_call_entry F.slot_zip_next hTy F.entry_zip_next
        (zipD2_item_held Sp D1 D2 hz hT hTI st1 st2 hlt1 hlt2 fun x1 x2 h' tk p1 p2 b1 d1 d2 b5 b6 b7 => wpAny_pure ?_) (F.args_zip_next_1 _))))
    exact hQ x1 x2 h' tk p1 p2 ⟨b7 _ _ Sp.TIz Sp.TIi1 Sp.TIi2 hTI, d1, d2, .inr ⟨T, true, oT, b1, b7 _ _ r1 r2 r3 hT, r1, r2, r3, r4⟩⟩ b5 b6 fun c o c1 _ c3 c4 e => b7 c o c1 c3 c4 e
theorem zs_end {S : Addr} {Q : Option Value → Shared → Prop} (Sp : ZipSep2 z TI TO i1 i2 fp1 fp2) (D1 : Draws prog w A.in1 i1 fp1 n1 P1 St1) (D2 : Draws prog w A.in1 i2 fp2 n2 P2 St2) (Z : ZS z TI TO i1 i2 S St1 St2 i s.heap) (hle1 : i ≤ n1) (hle2 : i ≤ n2) (hend : i = n1 ∨ i = n2)
    (hQ : ∀ h' tk, (∀ c o, c ≠ z → c ≠ TO → c ≠ i1 → c ≠ i2 → s.heap.get? c = some o → h'.get? c = some o) → Q none { s with heap := h', toks := tk }) : wpAny (model prog w) A (pyNext (.ref z)) Q E s := by
  have hTy := zs_typeIs Z
  obtain ⟨hTI, st1, st2, hz⟩ := Z
  rcases hz with ⟨hz, a, b, hTO⟩ | ⟨T, f, oT, hz, hT, r1, r2, r3, r4⟩
  · exact wpAny_pyNext_zipD2_end Sp D1 D2 hz hTI hTO st1 st2 hle1 hle2 hend hQ
  · unfold pyNext
    refine wpAny_bind (wpAny_attempt (wpAny_callSpecial?_slot (name := Str.ofString "__next__") hTy F.slot_zip_next
      (wpAny_call_entry F.slot_zip_next hTy F.entry_zip_next (zipD2_end_held Sp D1 D2 hz hT hTI st1 st2 hle1 hle2 hend fun h' tk e hk he => ?_) (F.args_zip_next_1 _))))
    obtain ⟨o, ho, hc⟩ := he
    refine wpAny_bind (wpAny_isInstance (T := "StopIteration") (b := true) ⟨o, ho, hc⟩ isSubtype_stop ?_)
    exact wpAny_pure (hQ _ _ fun c o c1 _ c3 c4 e => hk c o c1 c3 c4 e)
/-- the list's items: tuples in a row -/
def ZIt (P1 P2 : Nat → Value → Prop) (b0 : Nat) (acc : Array Value) (i : Nat) (h : Heap) : Prop := acc.size = i ∧ ∀ j, j < i → ∃ x y, acc[j]? = some (.ref (b0 + j)) ∧ P1 j x ∧ P2 j y ∧ IsTupOf2 h (b0 + j) x y
theorem ZIt.keep {b0 : Nat} {acc : Array Value} {h h' : Heap} (Z : ZIt P1 P2 b0 acc i h) (k : ∀ j, j < i → ∀ o, h.get? (b0 + j) = some o → h'.get? (b0 + j) = some o) : ZIt P1 P2 b0 acc i h' :=
  ⟨Z.1, fun j hj => let ⟨x, y, a, b, c, d⟩ := Z.2 j hj; ⟨x, y, a, b, c, k j hj _ d⟩⟩
end
section
variable {prog : Program} {w : World} {A : Around} {R : Result → Shared → Prop} {z TI TO i1 i2 : Addr} {fp1 fp2 : List Addr} {n1 n2 : Nat} {P1 P2 : Nat → Value → Prop} {St1 St2 : Nat → Heap → Prop}
theorem zs_loop (Sp : ZipSep2 z TI TO i1 i2 fp1 fp2) (D1 : Draws prog w A.in1.in1 i1 fp1 n1 P1 St1) (D2 : Draws prog w A.in1.in1 i2 fp2 n2 P2 St2) {S : Addr} (O : ZOff z TI TO i1 i2 fp1 fp2 S) (res : Value) {n b0 : Nat} (hn1 : n ≤ n1) (hn2 : n ≤ n2) (hend : n = n1 ∨ n = n2) (hn : n ≤ sizeLine)
    (hb : ∀ c ∈ [S, z, TO, i1, i2], c < b0) :
    ∀ (k i : Nat) (s : Shared) (acc : Array Value) (c : Nat), n - i = k → i ≤ n → ZS z TI TO i1 i2 S St1 St2 i s.heap → s.heap.get? S = some { cls := .type "list", dict := none, data := .seq acc c, slots := #[] } → s.heap.objs.size = b0 + i → ZIt P1 P2 b0 acc i s.heap →
    (∀ h' tk acc' c', (∀ b o, b ∉ [S, z, TO, i1, i2] → s.heap.get? b = some o → h'.get? b = some o) → h'.get? S = some { cls := .type "list", dict := none, data := .seq acc' c', slots := #[] } → ZIt P1 P2 b0 acc' n h' → R (.ok (.ret res)) { s with heap := h', toks := tk }) →
    codeAny (model prog w) A (.builtin "list.extend.loop" ⟨[.ref S, .ref z, res], []⟩) R s := by
  have out : ∀ j, b0 + j ∉ [S, z, TO, i1, i2] := fun j hm => Nat.lt_irrefl _ (Nat.lt_of_lt_of_le (hb _ hm) (Nat.le_add_right b0 j))
  have off : ∀ {b : Addr}, b ∉ [S, z, TO, i1, i2] → b ≠ S ∧ b ≠ z ∧ b ≠ TO ∧ b ≠ i1 ∧ b ≠ i2 := fun {b} h => by simpa using h
  have Sout : S ≠ z ∧ S ≠ TO ∧ S ≠ i1 ∧ S ≠ i2 := ⟨O.z, O.TO, fun e => O.f1 (e ▸ Sp.mem1), fun e => O.f2 (e ▸ Sp.mem2)⟩
  intro k
  induction k with
  | zero =>
    intro i s acc c hk hi Z hS hsz hacc hR
    have hin : i = n := by omega
    subst hin
    refine codeAny_builtin F.entry_extend_loop ?_
    rw [Around.under_plainId F.plain_extend_loop _]
    show wpAny _ A.in1 (pyNext (.ref z) >>= _) _ _ s
    refine wpAny_bind (zs_end Sp D1 D2 Z hn1 hn2 hend fun h' tk hk' => ?_)
    refine wpAny_pure (hR h' tk acc c (fun b o hb' e => ?_) ?_ ?_)
    · obtain ⟨_, q1, q2, q3, q4⟩ := off hb'
      exact hk' b o q1 q2 q3 q4 e
    · exact hk' _ _ Sout.1 Sout.2.1 Sout.2.2.1 Sout.2.2.2 hS
    · refine hacc.keep fun j hj o e => ?_
      obtain ⟨_, q1, q2, q3, q4⟩ := off (out j)
      exact hk' _ _ q1 q2 q3 q4 e
  | succ k ih =>
    intro i s acc c hk hi Z hS hsz hacc hR
    have hlt : i < n := by omega
    refine codeAny_builtin F.entry_extend_loop ?_
    rw [Around.under_plainId F.plain_extend_loop _]
    show wpAny _ A.in1 (pyNext (.ref z) >>= _) _ _ s
    refine wpAny_bind (zs_item Sp D1 D2 Z (by omega) (by omega) (Nat.lt_of_lt_of_le (hb S (by simp)) (by rw [hsz]; exact Nat.le_add_right _ _)) fun x1 x2 h' tk p1 p2 Z' hT hsz' hk' => ?_)
    have hS' : h'.get? S = some { cls := .type "list", dict := none, data := .seq acc c, slots := #[] } := hk' _ _ Sout.1 Sout.2.1 Sout.2.2.1 Sout.2.2.2 hS
    show wpAny _ A.in1 (updateSeq S (·.push (.ref s.heap.objs.size)) >>= _) _ _ _
    refine wpAny_bind ?_
    have oth : ∀ b o, b ≠ S → h'.get? b = some o → (h'.update S (Obj.mapSeq (·.push (.ref s.heap.objs.size)))).get? b = some o := fun b o hb' e => (Heap.get?_update_other _ _ (Ne.symm hb')).trans e
    refine wpAny_updateSeq (s := { s with heap := h', toks := tk }) hS' rfl (wpAny_pure ⟨plainId_quiet F.plain_extend_loop _, ih (i + 1) _ (acc.push (.ref s.heap.objs.size)) _ (by omega) hlt (zs_frame O D1 D2 Z' oth) (Heap.get?_update_self _ hS' rfl) ?_ ?_ fun h2 tk2 acc' c' q1 q2 q3 => ?_⟩)
      (by rw [hacc.1]; omega) (by show (acc.push _).size ≤ sizeLine + 1; rw [Array.size_push, hacc.1]; omega)
    · show (h'.update S _).objs.size = _
      rw [Heap.size_update, hsz', hsz]; omega
    · refine ⟨by rw [Array.size_push, hacc.1], fun j hj => ?_⟩
      by_cases e : j = i
      · subst e
        refine ⟨x1, x2, ?_, p1, p2, ?_⟩
        · rw [Array.getElem?_push, if_pos hacc.1.symm, hsz]
        · have := oth _ _ (Ne.symm (Nat.ne_of_lt (Nat.lt_of_lt_of_le (hb S (by simp)) (by rw [hsz]; exact Nat.le_add_right _ _)))) hT
          show (h'.update S (Obj.mapSeq fun x => x.push (Value.ref s.heap.objs.size))).get? (b0 + j) = _
          rw [← hsz]
          exact this
      · obtain ⟨x, y, a, b, c', d⟩ := hacc.2 j (by omega)
        refine ⟨x, y, ?_, b, c', ?_⟩
        · rw [Array.getElem?_push, if_neg (by rw [hacc.1]; omega)]; exact a
        · obtain ⟨q0, q1, q2, q3, q4⟩ := off (out j)
          exact oth _ _ q0 (hk' _ _ q1 q2 q3 q4 d)
    · refine hR h2 tk2 acc' c' (fun b o hb' e => q1 b o hb' ?_) q2 q3
      obtain ⟨r0, r1, r2, r3, r4⟩ := off hb'
      exact oth b o r0 (hk' b o r1 r2 r3 r4 e)
end
section
variable {prog : Program} {w : World} {A : Around} {E : Value → Shared → Prop} {s : Shared} {z TI TO i1 i2 : Addr} {fp1 fp2 : List Addr} {n1 n2 : Nat} {P1 P2 : Nat → Value → Prop} {St1 St2 : Nat → Heap → Prop}
theorem call_list_zip {Q : Value → Shared → Prop} {n : Nat} (Sp : ZipSep2 z TI TO i1 i2 fp1 fp2) (D1 : Draws prog w A.in1.in1.in1 i1 fp1 n1 P1 St1) (D2 : Draws prog w A.in1.in1.in1 i2 fp2 n2 P2 St2) (hz : IsZip s.heap z TI TO .none) (hTI : IsTupOf2 s.heap TI (.ref i1) (.ref i2)) (hTO : ∃ a b, IsTupOf2 s.heap TO a b) (st1 : St1 0 s.heap) (st2 : St2 0 s.heap)
    (hn1 : n ≤ n1) (hn2 : n ≤ n2) (hend : n = n1 ∨ n = n2) (hn : n ≤ sizeLine) (hf : ∀ b ∈ fp1 ++ fp2, b < s.heap.objs.size)
    (hQ : ∀ h' tk acc c, (∀ b o, b ∉ [z, TO, i1, i2] → s.heap.get? b = some o → h'.get? b = some o) → h'.get? s.heap.objs.size = some { cls := .type "list", dict := none, data := .seq acc c, slots := #[] } → ZIt P1 P2 (s.heap.objs.size + 1) acc n h' → Q (.ref s.heap.objs.size) { s with heap := h', toks := tk }) :
    wpAny (model prog w) A (call (.type "list") [.ref z]) Q E s := by
  have lz := Heap.lt_size hz
  have lTI := Heap.lt_size hTI
  have lTO := let ⟨a, b, h⟩ := hTO; Heap.lt_size h
  have li1 : i1 < s.heap.objs.size := hf _ (List.mem_append_left _ Sp.mem1)
  have li2 : i2 < s.heap.objs.size := hf _ (List.mem_append_right _ Sp.mem2)
  have O : ZOff z TI TO i1 i2 fp1 fp2 s.heap.objs.size := ⟨Nat.ne_of_gt lz, Nat.ne_of_gt lTI, Nat.ne_of_gt lTO, fun h => Nat.lt_irrefl _ (hf _ (List.mem_append_left _ h)), fun h => Nat.lt_irrefl _ (hf _ (List.mem_append_right _ h))⟩
  refine callType_codes (Q₁ := fun obj s₁ => obj = .ref s.heap.objs.size ∧ s₁ = { s with heap := s.heap.push { cls := .type "list", data := .seq #[] } }) F.called_list (F.typeCall_list_1 _) F.entry_list_init
    (code_list_new _ ⟨rfl, rfl⟩) fun obj s₁ h₁ => ?_
  obtain ⟨rfl, rfl⟩ := h₁
  have hS : (s.heap.push { cls := .type "list", data := .seq #[] }).get? s.heap.objs.size = some { cls := .type "list", data := .seq #[] } := Heap.get?_push_size _ rfl
  refine ⟨⟨_, hS, rfl⟩, F.args_list_init_2 _ _, ?_⟩
  have k0 : ∀ b o, s.heap.get? b = some o → (s.heap.push { cls := .type "list", data := .seq #[] }).get? b = some o := fun b o e => Heap.get?_push_of_some _ e
  have Z0 : ZS z TI TO i1 i2 s.heap.objs.size St1 St2 0 s.heap := ⟨hTI, st1, st2, .inl ⟨hz, hTO⟩⟩
  have sz0 : (s.heap.push { cls := .type "list", data := .seq #[] }).objs.size = s.heap.objs.size + 1 := Heap.size_push ..
  generalize hG : s.heap.push { cls := .type "list", data := .seq #[] } = G at hS k0 sz0 ⊢
  show wpAny _ A.in1.in1 (do let old ← Builtin.List.listItems (.ref s.heap.objs.size); Builtin.List.listUpdate (.ref s.heap.objs.size) (fun _ => #[]); letGo old.toList.reverse; Builtin.List.listExtendWith (.ref s.heap.objs.size) (.ref z) .none) _ _ { s with heap := G }
  refine wpAny_bind ?_
  unfold Builtin.List.listItems
  refine wpAny_bind (wpAny_seqItems (s := { s with heap := G }) hS rfl (wpAny_pure ?_))
  show wpAny _ A.in1.in1 (updateSeq s.heap.objs.size (fun _ => #[]) >>= fun _ => letGo (#[] : Array Value).toList.reverse >>= fun _ => Builtin.List.listExtendWith (.ref s.heap.objs.size) (.ref z) .none) _ _ { s with heap := G }
  refine wpAny_bind (wpAny_updateSeq (s := { s with heap := G }) hS rfl ?_)
  have hS₂ := Heap.get?_update_self (Obj.mapSeq (fun _ => (#[] : Array Value))) hS rfl
  have oth : ∀ b o, b ≠ s.heap.objs.size → G.get? b = some o → (G.update s.heap.objs.size (Obj.mapSeq (fun _ => (#[] : Array Value)))).get? b = some o :=
    fun b o hb e => (Heap.get?_update_other _ _ (Ne.symm hb)).trans e
  have sz1 : (G.update s.heap.objs.size (Obj.mapSeq (fun _ => (#[] : Array Value)))).objs.size = s.heap.objs.size + 1 := by rw [Heap.size_update, sz0]
  generalize hG1 : G.update s.heap.objs.size (Obj.mapSeq (fun _ => (#[] : Array Value))) = G1 at hS₂ oth sz1 ⊢
  refine wpAny_bind (wpAny_letGo ?_)
  have Z1 : ZS z TI TO i1 i2 s.heap.objs.size St1 St2 0 G1 := zs_frame O D1 D2 Z0 fun b o hb e => oth b o hb (k0 b o e)
  unfold Builtin.List.listExtendWith
  refine wpAny_bind (wpAny_typeOf (s := { s with heap := G1 }) (zs_typeIs (s := { s with heap := G1 }) Z1) ?_)
  have h1 : Builtin.List.listSameRef (.ref s.heap.objs.size) (.ref z) = false := by simp [Builtin.List.listSameRef, Nat.ne_of_gt lz]
  have h2 : (Value.type "zip" == Value.type "list") = false := by decide
  have h3 : (Value.type "zip" == Value.type "tuple") = false := by decide
  simp only [h1, h2, h3, Bool.or_false, Bool.false_eq_true, if_false]
  have hz1 : IsZip G1 z TI TO .none := oth _ _ (Nat.ne_of_lt lz) (k0 _ _ hz)
  refine wpAny_bind (wpAny_pyIter_zip (s := { s with heap := G1 }) hz1 ?_)
  refine wpAny_bind (wpAny_holding ?_)
  unfold Builtin.List.listLengthHint
  refine wpAny_bind (wpAny_specialOf (zs_typeIs (s := { s with heap := G1 }) Z1) F.zip_no_len ?_)
  show wpAny _ A.in1.in1 (specialOf (Value.ref z) (Str.ofString "__length_hint__") >>= _) _ _ _
  refine wpAny_bind (wpAny_specialOf (zs_typeIs (s := { s with heap := G1 }) Z1) F.zip_no_hint ?_)
  refine wpAny_pure ?_
  show wpAny _ A.in1.in1 (rule "list.extend.makes-room" >>= fun _ => Builtin.List.listTouch (.ref s.heap.objs.size) >>= fun _ =>
    again (.builtin "list.extend.loop" ⟨[.ref s.heap.objs.size, .ref z, .none], []⟩)) _ _ _
  refine wpAny_bind (wpAny_rule ?_)
  refine wpAny_bind ?_
  show wpAny _ A.in1.in1 (updateSeq s.heap.objs.size (·.push .none) >>= fun _ => updateSeq s.heap.objs.size (·.pop)) _ _ _
  refine wpAny_bind (wpAny_updateSeq (s := { s with heap := G1 }) hS₂ rfl ?_)
  have hS3 := Heap.get?_update_self (Obj.mapSeq (·.push Value.none)) hS₂ rfl
  refine wpAny_updateSeq (hz := by seq_fits) hS3 rfl ?_
  have hS4 := Heap.get?_update_self (Obj.mapSeq (·.pop)) hS3 rfl
  have oth2 : ∀ b o, b ≠ s.heap.objs.size → G1.get? b = some o → ((G1.update s.heap.objs.size (Obj.mapSeq (·.push Value.none))).update s.heap.objs.size (Obj.mapSeq (·.pop))).get? b = some o :=
    fun b o hb e => (Heap.get?_update_other _ _ (Ne.symm hb)).trans ((Heap.get?_update_other _ _ (Ne.symm hb)).trans e)
  have sz2 : ((G1.update s.heap.objs.size (Obj.mapSeq (·.push Value.none))).update s.heap.objs.size (Obj.mapSeq (·.pop))).objs.size = s.heap.objs.size + 1 := by rw [Heap.size_update, Heap.size_update, sz1]
  refine wpAny_pure ⟨plainId_quiet F.plain_extend_loop _, zs_loop (b0 := s.heap.objs.size + 1) (n := n) Sp D1 D2 O .none hn1 hn2 hend hn ?_ n 0 _ _ _ rfl (Nat.zero_le _) (zs_frame O D1 D2 Z1 oth2) hS4 sz2 ⟨rfl, fun j hj => by omega⟩ fun h' tk acc c q1 q2 q3 => ?_⟩
  · intro c hc
    simp only [List.mem_cons, List.not_mem_nil, or_false] at hc
    rcases hc with rfl | rfl | rfl | rfl | rfl
    · exact Nat.lt_succ_self _
    · exact Nat.lt_succ_of_lt lz
    · exact Nat.lt_succ_of_lt lTO
    · exact Nat.lt_succ_of_lt li1
    · exact Nat.lt_succ_of_lt li2
  · refine ⟨rfl, hQ h' tk acc c (fun b o hb e => ?_) q2 q3⟩
    have hne : b ≠ s.heap.objs.size := Nat.ne_of_lt (Heap.lt_size e)
    exact q1 b o (by simp only [List.mem_cons, not_or] at hb ⊢; exact ⟨hne, hb⟩) (oth2 b o hne (oth b o hne (k0 b o e)))
end
end PySem
set_option Elab.async false
set_option linter.all false
set_option maxRecDepth 100000
set_option maxHeartbeats 4000000
namespace DL
open PySem PySem.Spec PyProof.Rows L2
/-- nothing knows a yet -/
structure NewA (X : Cx) (pins : List (Addr × Obj)) (H : Hp) (a : Addr) : Prop where
  n : H a = none
  s : X.s_0.heap.objs.size ≤ a
  l : a ≠ X.env.locals
  c : ∀ x c, X.env.cells.lookup x = some c → c ≠ a
  p : ∀ p ∈ X.pn ++ pins, p.1 ≠ a
theorem newA {X : Cx} {pins : List (Addr × Obj)} {σ : L2.St} {H : Hp} {s : Shared} (I : Inv X pins σ H s) {a : Addr} (h : s.heap.objs.size ≤ a) : NewA X pins H a := by
  refine ⟨I.hok.fresh h, Nat.le_trans I.sz h, fun z => ?_, fun y c e z => ?_, fun q hq z => ?_⟩
  · exact Nat.lt_irrefl _ (Nat.lt_of_lt_of_le (show a < s.heap.objs.size from by rw [z]; exact I.lt) h)
  · obtain ⟨v, o, ho, _⟩ := I.cell y c e
    exact Nat.lt_irrefl _ (Nat.lt_of_lt_of_le (show a < s.heap.objs.size from by rw [← z]; exact Heap.lt_size ho) h)
  · exact Nat.lt_irrefl _ (Nat.lt_of_lt_of_le (show a < s.heap.objs.size from by rw [← z]; exact Heap.lt_size (I.pin q hq).1) h)
theorem NewA.upd {X : Cx} {pins : List (Addr × Obj)} {H : Hp} {a b : Addr} {o : HO} (h : NewA X pins H a) (hb : a ≠ b) : NewA X pins (upd H b o) a := ⟨by rw [upd_ne hb]; exact h.n, h.s, h.l, h.c, h.p⟩
theorem NewA.track {X : Cx} {pins : List (Addr × Obj)} {σ : L2.St} {H : Hp} {s : Shared} {a : Addr} {o : HO} (h : NewA X pins H a) (I : Inv X pins σ H s) (ho : ObjOk X.prog X.w (L2.upd H a o) s.heap a o) : Inv X pins σ (L2.upd H a o) s := HD.inv_track I h.n h.s h.l h.c h.p ho
variable [TabCtx]
/-- pairs in a row come to be known -/
theorem lay_pairs {X : Cx} {pins : List (Addr × Obj)} {σ : L2.St} {s : Shared} : ∀ (ps : List (L2.V × L2.V)) (b : Nat) (H V : Hp), Inv X pins σ H s → Same V H → (∀ j, j < ps.length → NewA X pins H (b + j)) →
    (∀ (j : Nat) p, ps[j]? = some p → ∃ u v, RelV p.1 u ∧ RelV p.2 v ∧ s.heap.get? (b + j) = some { cls := .type "tuple", data := .seq #[u, v] }) →
    ∃ H' V', Inv X pins σ H' s ∧ Ext H V H' V' ∧ (∀ a, (∀ j, j < ps.length → a ≠ b + j) → H' a = H a) ∧ ∀ (j : Nat) p, ps[j]? = some p → V' (b + j) = some (.tup [p.1, p.2])
  | [], b, H, V, I, sv, _, _ => ⟨H, V, I, Ext.refl sv, fun _ _ => rfl, fun j p h => by simp at h⟩
  | p :: ps, b, H, V, I, sv, hn, ho => by
    have n0 := hn 0 (by simp)
    obtain ⟨u, v, ru, rv, hT⟩ := ho 0 p rfl
    have I1 := n0.track (o := .tup [p.1, p.2]) I ⟨by rw [sizeLine_eq]; simp, [u, v], .cons ru (.cons rv .nil), ⟨_, hT, rfl, _, rfl⟩⟩
    have x1 : Ext H V (upd H (b + 0) (.tup [p.1, p.2])) (upd V (b + 0) (.tup [p.1, p.2])) := Ext.new sv n0.n
    obtain ⟨H', V', I2, x2, k2, q2⟩ := lay_pairs ps (b + 1) _ _ I1 x1.s (fun j hj => by
      have := hn (j + 1) (by simp; omega)
      rw [show b + (j + 1) = b + 1 + j by omega] at this
      exact this.upd (by intro z; have : b + 1 + j = b + 0 := z; omega)) (fun j q hq => by
      have := ho (j + 1) q (by simpa using hq)
      rw [show b + (j + 1) = b + 1 + j by omega] at this
      exact this)
    refine ⟨H', V', I2, x1.trans x2, fun a ha => ?_, fun j q hq => ?_⟩
    · rw [k2 a fun j hj => by
        have := ha (j + 1) (by simp; omega)
        rw [show b + (j + 1) = b + 1 + j by omega] at this
        exact this]
      exact upd_ne (ha 0 (by simp))
    · cases j with
      | zero =>
        have e : p = q := by simpa using hq
        subst e
        exact x2.v _ _ upd_same
      | succ j =>
        rw [show b + (j + 1) = b + 1 + j by omega]
        exact q2 j q (by simpa using hq)
theorem rep_pairs {K : KW} {V V' : Hp} (sv : Same V V') : ∀ {xs ys : List L2.V} {ds es : List PyData} (b : Nat), RepL K V xs ds → RepL K V ys es → (∀ (j : Nat) p, (xs.zip ys)[j]? = some p → V' (b + j) = some (.tup [p.1, p.2])) → RepL K V' ((List.range (xs.zip ys).length).map fun j => .ref (b + j)) (zipD ds es)
  | _, _, _, _, b, .nil, _, _ => by simp [zipD]; exact .nil
  | _, _, _, _, b, .cons _ _, .nil, _ => by simp [zipD]; exact .nil
  | x :: xs, y :: ys, d :: ds, e :: es, b, .cons r t, .cons r' t', h => by
    have h0 := h 0 (x, y) rfl
    have ih := rep_pairs sv (b + 1) t t' (fun j p hp => by
      have := h (j + 1) p (by simpa using hp)
      rw [show b + (j + 1) = b + 1 + j by omega] at this
      exact this)
    rw [List.zip_cons_cons, List.length_cons, List.range_succ_eq_map, List.map_cons, List.map_map]
    refine .cons (.tup h0 (.cons (r.mono sv) (.cons (r'.mono sv) .nil))) ?_
    have e : ((fun j => L2.V.ref (b + j)) ∘ Nat.succ) = fun j => L2.V.ref (b + 1 + j) := by
      funext j; show L2.V.ref (b + (j + 1)) = _; rw [show b + (j + 1) = b + 1 + j by omega]
    rw [e]
    exact ih
def seqD : PyData → Option (List PyData)
  | .list ds => some ds
  | .tuple ds => some ds
  | _ => none
/-- what a list or a tuple gives to zip -/
structure SeqB (prog : Program) (w : World) (s : Shared) (a : Addr) (its : List Value) (o : Obj) (Hh : Heap → Prop) (St : Addr → Nat → Heap → Prop) : Prop where
  B : Begins (.ref a) o Hh
  hh : Hh s.heap
  D : ∀ (A : Around) (it : Addr), A.handled = none → a ≠ it → Draws prog w A it [it, a] its.length (fun i v => its[i]? = some v) (St it)
  st : ∀ (h : Heap) (it : Addr), h.get? it = some o → Hh h → St it 0 h
  lt : a < s.heap.objs.size
theorem seqB {X : Cx} {pins : List (Addr × Obj)} {σ : L2.St} {H V : Hp} {s : Shared} {K : KW} (I : Inv X pins σ H s) (sv : Same V H) {x : L2.V} {d : PyData} {ds : List PyData} (r : Rep K V x d) (hd : seqD d = some ds) : ∃ a xs its o Hh St, x = .ref a ∧ RepL K V xs ds ∧ Vals xs its ∧ SeqB X.prog X.w s a its o Hh St := by
  cases r with
  | @lst a xs es h rl =>
    have e : es = ds := by injection hd
    subst e
    obtain ⟨its, rv, pl, hz⟩ := I.list (.inl (.inl (sv _ _ h)))
    refine ⟨a, xs, its, _, _, fun it i h => h.IsListIter it a i ∧ h.IsList a its.toArray, rfl, rl, rv, begins_list a its.toArray, pl.isList, fun A it hh hne => ?_, fun h it e hl => ⟨⟨_, e, rfl, rfl⟩, hl⟩, pl.lt⟩
    have D := Draws.list (prog := X.prog) (w := X.w) (A := A) hh it a hne its.toArray
    simp only [List.size_toArray, List.getElem?_toArray] at D
    exact D
  | @tup a xs es h rl =>
    have e : es = ds := by injection hd
    subst e
    obtain ⟨its, rv, pl, hz⟩ := I.tuple (.inl (.inl (sv _ _ h)))
    refine ⟨a, xs, its, _, _, fun it i h => h.IsTupleIter it a i ∧ h.IsTuple a its.toArray, rfl, rl, rv, begins_tuple a its.toArray, pl, fun A it hh hne => ?_, fun h it e hl => ⟨⟨_, e, rfl, rfl⟩, hl⟩, let ⟨o, ho, _⟩ := pl; Heap.lt_size ho⟩
    have D := Draws.tuple (prog := X.prog) (w := X.w) (A := A) hh it a hne its.toArray
    simp only [List.size_toArray, List.getElem?_toArray] at D
    exact D
  | _ => cases hd
def gLZip : List PyData → Option PyData
  | [a, b] => (seqD a).bind fun xs => (seqD b).bind fun ys => if xs.length ≤ LIM then some (.list (zipD xs ys)) else none
  | _ => none
theorem neq {x y : Nat} (h : x < y ∨ y < x) : x ≠ y := by omega
theorem nin {x y z : Nat} (h1 : x < y ∨ y < x) (h2 : x < z ∨ z < x) : x ∉ [y, z] := by simp; omega
theorem zsep {n a b : Nat} (la : a < n) (lb : b < n) : ZipSep2 (n + 4) (n + 2) (n + 3) n (n + 1) [n, a] [n + 1, b] :=
  have c1 : n + 2 < n + 4 ∨ n + 4 < n + 2 := by omega
  have c2 : n + 3 < n + 4 ∨ n + 4 < n + 3 := by omega
  have c3 : n + 2 < n + 3 ∨ n + 3 < n + 2 := by omega
  have c4 : n + 2 < n ∨ n < n + 2 := by omega
  have c5 : n + 4 < n ∨ n < n + 4 := by omega
  have c6 : n + 4 < a ∨ a < n + 4 := by omega
  have c7 : n + 3 < n ∨ n < n + 3 := by omega
  have c8 : n + 3 < a ∨ a < n + 3 := by omega
  have c9 : n + 2 < n + 1 ∨ n + 1 < n + 2 := by omega
  have d1 : n + 4 < n + 1 ∨ n + 1 < n + 4 := by omega
  have d2 : n + 4 < b ∨ b < n + 4 := by omega
  have d3 : n + 3 < n + 1 ∨ n + 1 < n + 3 := by omega
  have d4 : n + 3 < b ∨ b < n + 3 := by omega
  have d5 : n < n + 1 ∨ n + 1 < n := by omega
  have d6 : n < b ∨ b < n := by omega
  have d7 : n + 1 < n ∨ n < n + 1 := by omega
  have d8 : n + 1 < a ∨ a < n + 1 := by omega
  ⟨neq c1, neq c2, neq c3, neq c4, by simp, nin c5 c6, nin c7 c8, neq c9, by simp, nin d1 d2, nin d3 d4, nin d5 d6, nin d7 d8⟩
theorem vals_refs {acc : Array Value} {n b : Nat} (hl : acc.size = n) (h : ∀ j, j < n → acc[j]? = some (.ref (b + j))) : Vals ((List.range n).map fun j => L2.V.ref (b + j)) acc.toList := by
  have e : acc.toList = (List.range n).map fun j => Value.ref (b + j) := by
    apply List.ext_getElem?
    intro j
    by_cases hj : j < n
    · rw [Array.getElem?_toList, h j hj, List.getElem?_map, List.getElem?_range hj]; rfl
    · rw [Array.getElem?_toList, Array.getElem?_eq_none (by omega), List.getElem?_map, List.getElem?_eq_none (by simp; omega)]; rfl
  rw [e]
  have : ∀ l : List Nat, Vals (l.map fun j => L2.V.ref (b + j)) (l.map fun j => Value.ref (b + j)) := fun l => by
    induction l with
    | nil => exact .nil
    | cons x l ih => exact .cons rfl ih
  exact this _
section
variable {X : Cx} {F : Fr} {e e2 : Expr} {fs : M (List PyData)} {p p2 pos pos2 : Pos}
theorem pm_lzip (hm : X.mg "list" = none) (hmz : X.mg "zip" = none) (ha : PMA X F [e, e2] fs) (hg : Gl X "list" := by rfl) (hgz : Gl X "zip" := by rfl) (hc : X.calm = true := by rfl)
    (na : starEach [.Call (.Name "zip" p2) [e, e2] [] pos2] X.env = (false, eval (.Call (.Name "zip" p2) [e, e2] [] pos2) X.env) :: starEach [] X.env := by rfl)
    (hs : starEach [e, e2] X.env = (false, eval e X.env) :: starEach [e2] X.env := by rfl) (hpl : (backTo pos2 (starEach [e2] X.env)).any (·.1) = false := by rfl) :
    PM X F (.Call (.Name "list" p) [.Call (.Name "zip" p2) [e, e2] [] pos2] [] pos) (opA gLZip fs) := by
  refine ⟨fun pins s σ H Q I ⟨V, ρ, E, g0⟩ => ?_⟩
  refine Call_ (ld_blt I hg hm boot_list (PyProof.Rows.callWith_type1 (args_cons (thn (Q := fun x s1 => wpAny (model X.prog X.w) X.A (call (.type "list") [x]) (EP X pins σ Q) X.xe s1) ?_ fun x s1 h => args_nil h) na) na))
  refine Call_ (ld_blt I hgz hmz PyProof.Rows.boot_zip (PyProof.Rows.callWith_type1 (thn (ha.run pos2 pins s σ H (fun vs H1 => ∃ V1 ρ1 ds z, EnvR X.kw F H1 V1 σ ρ1 ∧ RepL X.kw V1 vs ds ∧ gLZip ds = some z ∧ ∀ v H2 V2, Ext H1 V1 H2 V2 → Rep X.kw V2 v z → Q v H2) I ⟨V, ρ, E, Goal.bind g0 fun vs ds H1 V1 ρ1 st1 r1 g1 => ?_⟩) fun us s1 ⟨vs, H1, I1, rv, V1, ρ1, ds, z, E1, rl, ez, q⟩ => ?_) hs hpl))
  · obtain ⟨z, ez, q⟩ := Goal.opt st1.env g1
    exact ⟨V1, ρ1, ds, z, st1.env, r1, ez, q⟩
  · have sv := E1.sub
    cases rl with
    | nil => cases ez
    | cons r1 rl =>
      cases rl with
      | nil => cases ez
      | cons r2 rl =>
        cases rl with
        | cons _ _ => cases ez
        | nil =>
          rename_i x1 d1 x2 d2
          cases rv with
          | cons rv1 rv =>
            cases rv with
            | cons rv2 rv =>
              cases rv
              have ez : ((seqD d1).bind fun xs => (seqD d2).bind fun ys => if xs.length ≤ LIM then some (PyData.list (zipD xs ys)) else none) = some z := ez
              obtain ⟨ds1, hd1, ez⟩ := Option.bind_eq_some_iff.mp ez
              obtain ⟨ds2, hd2, ez⟩ := Option.bind_eq_some_iff.mp ez
              obtain ⟨hlim, rfl⟩ := ite_some ez
              obtain ⟨a, xs, its1, o1, H1', St1, rfl, rx, vx, B1⟩ := seqB I1 sv r1 hd1
              obtain ⟨b, ys, its2, o2, H2', St2, rfl, ry, vy, B2⟩ := seqB I1 sv r2 hd2
              cases rv1
              cases rv2
              refine zip_begins2 B1.B B2.B B1.hh B2.hh fun h' hz hTI hTO g1 g2 hsz hk => ?_
              have la := B1.lt
              have lb := B2.lt
              have hh : X.A.handled = none := I1.ok.hd hc
              have ne1 : a ≠ s1.heap.objs.size := Nat.ne_of_lt la
              have ne2 : b ≠ s1.heap.objs.size + 1 := Nat.ne_of_lt (Nat.lt_succ_of_lt lb)
              have D1 := B1.D X.A.in1.in1.in1 s1.heap.objs.size hh ne1
              have D2 := B2.D X.A.in1.in1.in1 (s1.heap.objs.size + 1) hh ne2
              have Sp : ZipSep2 (s1.heap.objs.size + 4) (s1.heap.objs.size + 2) (s1.heap.objs.size + 3) s1.heap.objs.size (s1.heap.objs.size + 1) [s1.heap.objs.size, a] [s1.heap.objs.size + 1, b] := zsep la lb
              have hlx := vx.length
              have hly := vy.length
              have hdx := rx.length
              have hdy := ry.length
              have hz63 : min its1.length its2.length ≤ sizeLine := by
                have : its1.length ≤ 1000000 := by rw [← hlx, hdx]; exact hlim
                rw [sizeLine_eq]; omega
              refine call_list_zip (n := min its1.length its2.length) (s := { s1 with heap := h' }) Sp D1 D2 hz hTI ⟨_, _, hTO⟩ (B1.st _ _ g1 (B1.B.keeps _ _ B1.hh hk)) (B2.st _ _ g2 (B2.B.keeps _ _ B2.hh hk)) (Nat.min_le_left ..) (Nat.min_le_right ..) (by omega) hz63 ?_ fun h2 tk acc c k2 hl2 it => ?_
              · intro c hcm
                show c < h'.objs.size
                rw [hsz]
                simp only [List.cons_append, List.nil_append, List.mem_cons, List.not_mem_nil, or_false] at hcm
                rcases hcm with rfl | rfl | rfl | rfl
                · exact Nat.lt_add_of_pos_right (by decide)
                · exact Nat.lt_add_right _ la
                · exact Nat.add_lt_add_left (by decide) _
                · exact Nat.lt_add_right _ lb
              · have hs5 : ({ s1 with heap := h' } : Shared).heap.objs.size = s1.heap.objs.size + 5 := hsz
                rw [hs5] at hl2 it ⊢
                have kk : ∀ c o, s1.heap.get? c = some o → h2.get? c = some o := fun c o e => by
                  have lt := Heap.lt_size e
                  refine k2 c o ?_ (hk c o e)
                  intro hm'
                  simp only [List.mem_cons, List.not_mem_nil, or_false] at hm'
                  rcases hm' with rfl | rfl | rfl | rfl
                  · exact Nat.lt_irrefl _ (Nat.lt_of_le_of_lt (Nat.le_add_right _ _) lt)
                  · exact Nat.lt_irrefl _ (Nat.lt_of_le_of_lt (Nat.le_add_right _ _) lt)
                  · exact Nat.lt_irrefl _ lt
                  · exact Nat.lt_irrefl _ (Nat.lt_of_le_of_lt (Nat.le_add_right _ _) lt)
                have I2 : L2.Inv X pins σ H1 { s1 with heap := h2, toks := tk } := I1.kept kk
                have hzl : (xs.zip ys).length = min its1.length its2.length := by rw [List.length_zip, hlx, hly]
                obtain ⟨H3, V3, I3, x3, k3, q3⟩ := lay_pairs (xs.zip ys) (s1.heap.objs.size + 5 + 1) H1 V1 I2 sv (fun j hj => newA I1 (Nat.le_trans (Nat.le_add_right _ 6) (Nat.le_add_right _ j))) (fun j p hp => by
                  obtain ⟨hp1, hp2⟩ := List.getElem?_zip_eq_some.mp hp
                  obtain ⟨u, hu, ru⟩ := vx.get hp1
                  obtain ⟨v, hv, rv⟩ := vy.get hp2
                  have hj : j < min its1.length its2.length := by
                    rw [← hzl]; exact (List.getElem?_eq_some_iff.mp hp).1
                  obtain ⟨u', v', _, p1, p2, hT⟩ := it.2 j hj
                  rw [hu] at p1; cases p1
                  rw [hv] at p2; cases p2
                  exact ⟨u, v, ru, rv, hT⟩)
                have hS : NewA X pins H3 (s1.heap.objs.size + 5) := by
                  have h0 := newA I1 (a := s1.heap.objs.size + 5) (Nat.le_add_right _ _)
                  exact ⟨by rw [k3 _ fun j hj z => absurd (show (s1.heap.objs.size + 5 : Nat) = s1.heap.objs.size + 5 + 1 + j from z) (by omega)]; exact h0.n, h0.s, h0.l, h0.c, h0.p⟩
                have hvals : Vals ((List.range (xs.zip ys).length).map fun j => L2.V.ref (s1.heap.objs.size + 5 + 1 + j)) acc.toList := by
                  rw [hzl]
                  refine vals_refs it.1 fun j hj => ?_
                  obtain ⟨_, _, e, _⟩ := it.2 j hj
                  exact e
                have I4 := hS.track (o := .lst ((List.range (xs.zip ys).length).map fun j => L2.V.ref (s1.heap.objs.size + 5 + 1 + j))) I3 ⟨by rw [List.length_map, List.length_range, hzl]; exact hz63, acc.toList, c, hvals, by rw [Array.toArray_toList]; exact hl2⟩
                refine ⟨.ref (s1.heap.objs.size + 5), _, I4, rfl, q _ _ _ (x3.trans (Ext.new x3.s hS.n)) (.lst upd_same ?_)⟩
                refine (rep_pairs x3.v _ rx ry q3).mono (same_new (x3.s.free hS.n))
end
end DL
set_option Elab.async false
set_option linter.all false
set_option maxRecDepth 100000
set_option maxHeartbeats 4000000
namespace DL
open PySem PySem.Spec PyProof.Rows L2
variable [TabCtx]
theorem RepL.cons_inv {K : KW} {V : Hp} {vs : List L2.V} {d : PyData} {ds : List PyData} (r : RepL K V vs (d :: ds)) : ∃ v ws, vs = v :: ws ∧ Rep K V v d ∧ RepL K V ws ds := by
  cases r with
  | cons a b => exact ⟨_, _, rfl, a, b⟩
end DL
set_option Elab.async false
set_option linter.all false
set_option maxRecDepth 100000
set_option maxHeartbeats 4000000
namespace DL
open PySem PySem.Spec PyProof.Rows L2
section
variable {X : Cx} {pins : List (Addr × Obj)} {σ : L2.St} {H : Hp} {s : Shared}
theorem inv_pin {d : Addr} {o : Obj} (I : L2.Inv X pins σ H s) (h : s.heap.get? d = some o) (n : NewA X pins H d) (hf : d ∉ X.fs) (hc : ∀ v, o.data ≠ .cell v) : L2.Inv X ((d, o) :: pins) σ H s :=
  ⟨I.ok, I.os, I.bare, I.base, I.loc, I.cell, I.free, I.freeC, fun p hp => by
    rcases List.mem_append.mp hp with z | z
    · exact I.pin p (List.mem_append_left _ z)
    · rcases List.mem_cons.mp z with e | e
      · subst e; exact ⟨h, n.n, n.l, hf, hc⟩
      · exact I.pin p (List.mem_append_right _ e), I.hok, I.len⟩
theorem inv_unpin {p : Addr × Obj} (I : L2.Inv X (p :: pins) σ H s) : L2.Inv X pins σ H s :=
  ⟨I.ok, I.os, I.bare, I.base, I.loc, I.cell, I.free, I.freeC, fun q hq => I.pin q (by
    rcases List.mem_append.mp hq with z | z
    · exact List.mem_append_left _ z
    · exact List.mem_append_right _ (List.mem_cons_of_mem _ z)), I.hok, I.len⟩
end
def tD1 (w : World) (tk tv : TE) : TE := fun σ H Q => tk σ H fun x H1 => tv σ H1 fun y H2 =>
  (∃ q, x = kV q ∧ ∀ p, H2 p = none → Q (.ref p) (upd H2 p (.dK [(q, y)]))) ∨ ∃ k b, x = .ref b ∧ NAt H2 k (.ref b) ∧ k.depth ≤ 8 ∧ ∀ p ep, H2 p = none → Q (.ref p) (upd H2 p (dX w p [(k, b, y)] ep))
variable [TabCtx]
section
variable {X : Cx} {ke ve : Expr} {tk tv : TE} {pos : Pos}
theorem pe_d1 (hu : X.A.units + 64 < cLine) (hk : PE X ke tk) (hv : PE X ve tv)
    (hshape : (evalEachOpt [some ke] X.env).zip ((evalEach [ve] X.env).map fun v => do let x ← v; standAt pos; pure x) = [(some (eval ke X.env), do let x ← eval ve X.env; standAt pos; pure x)] := by rfl) : PE X (.Dict [some ke] [ve] pos) (tD1 X.w tk tv) := by
  refine ⟨fun pins s σ H Q I h => ?_⟩
  rw [arm_eval_Dict, hshape]
  rw [show [(some (eval ke X.env), do let x ← eval ve X.env; standAt pos; pure x)] = [(eval ke X.env, do let x ← eval ve X.env; standAt pos; pure x)].map (fun p : Sem Value × Sem Value => (some p.1, p.2)) from rfl, dictDisplay_pairs _ (by simp) (by simp)]
  refine wpAny_bind (wpAny_standAt (wpAny_bind ?_))
  unfold subDict
  refine wpAny_bind (wpAny_alloc ?_)
  refine wpAny_bind (wpAny_holding ?_)
  rw [if_pos (by simp)]
  have kp0 : ∀ b u, s.heap.get? b = some u → (s.heap.push { cls := .type "dict", data := .dict #[] }).get? b = some u := fun _ _ q => Heap.get?_push_of_some _ q
  have I0 : L2.Inv X pins σ H { s with heap := s.heap.push { cls := .type "dict", data := .dict #[] } } := I.kept (t' := s.toks) kp0
  have n0 : NewA X pins H s.heap.objs.size := newA I (Nat.le_refl _)
  have I1 := inv_pin I0 (Heap.get?_push_size _ rfl) n0 (I.nofs (Nat.le_refl _)) (fun v z => by cases z)
  have hbig : (s.heap.objs.size == sysModules) = false := beq_eq_false_iff_ne.mpr (Ne.symm (Nat.ne_of_lt I.big))
  refine wpAny_bind ?_
  unfold evalPairs
  refine wpAny_bind (thn (hk.run _ _ σ H _ I1 h) fun ku s1 ⟨x, H1, I2, rk, q1⟩ => ?_)
  refine wpAny_bind (wpAny_holding (wpAny_bind (thn (hv.run _ s1 σ H1 _ I2 q1) fun vu s2 ⟨y, H2, I3, rv, q2⟩ => wpAny_bind (wpAny_standAt (wpAny_pure ?_)))))
  unfold evalPairs
  refine wpAny_bind (wpAny_holding (wpAny_pure (wpAny_pure ?_)))
  refine wpAny_holding ?_
  rw [List.forIn_cons]
  obtain ⟨hd, hn, _⟩ := I3.pin (s.heap.objs.size, _) (List.mem_append_right _ List.mem_cons_self)
  have I4 := inv_unpin I3
  have n4 : NewA X pins H2 s.heap.objs.size := ⟨hn, n0.s, n0.l, n0.c, n0.p⟩
  have fin : ∀ {h' : Heap} {t' : Nat} {o : HO}, Heap.SameBut s.heap.objs.size s2.heap h' → ObjOk X.prog X.w (upd H2 s.heap.objs.size o) h' s.heap.objs.size o → L2.Inv X pins σ (upd H2 s.heap.objs.size o) { s2 with heap := h', toks := t' } := fun {h' t' o} sb ob =>
    n4.track (I4.turned (fun b u hb e => sb.extBut b u hb e) n4.n n4.l (.inr n4.s) n4.c n4.p) ob
  rcases q2 with ⟨q, ex, q2⟩ | ⟨k, b, ex, nb, db, q2⟩
  · subst ex
    have dd : s2.heap.DictOf (mixKind X.prog X.w) s.heap.objs.size [] := ⟨_, #[], 0, hd, ⟨rfl, rfl, rfl⟩, rfl, fun e he => by simp at he, .nil, List.nodup_nil⟩
    refine wpAny_bind (wpAny_bind (wpAny_bind (wpAny_dictSet_pairs (kV_is rk) dd (fun h' dd' hs => wpAny_pure ?_) (Nat.zero_le _))))
    show wpAny _ _ (forIn [] PUnit.unit _) _ _ _
    rw [List.forIn_nil]
    refine wpAny_pure (wpAny_pure (wpAny_pure (wpAny_pure ?_)))
    exact ⟨.ref s.heap.objs.size, _, fin hs (dk_new (by show 1 ≤ sizeLine; decide) hbig (.cons ⟨rfl, rv⟩ .nil) dd'), rfl, q2 _ n4.n⟩
  · subst ex
    cases rk
    have dd : s2.heap.DictOfH (nestedKind X.prog X.w) s.heap.objs.size [] := ⟨_, #[], 0, hd, ⟨rfl, rfl, rfl⟩, rfl, rfl, (fun x hx => by simp at hx), List.nodup_nil⟩
    refine wpAny_bind (wpAny_bind (wpAny_bind (wpAny_dictSet_heap (knd := nestedKind X.prog X.w) (by show X.A.units + 8 < cLine; omega) (show (nestedKind X.prog X.w).is s2.heap k b from ⟨nb.is I4.hok rfl, db⟩) dd (fun h' dd' hs => wpAny_pure ?_) (Nat.zero_le _))))
    show wpAny _ _ (forIn [] PUnit.unit _) _ _ _
    rw [List.forIn_nil]
    refine wpAny_pure (wpAny_pure (wpAny_pure (wpAny_pure ?_)))
    obtain ⟨ep, ob⟩ := dx_new (xs := [(k, b, y)]) (by show 1 ≤ sizeLine; decide) hbig (.cons ⟨rfl, rfl, rv⟩ .nil) dd'
    exact ⟨.ref s.heap.objs.size, _, fin hs (ob _), rfl, q2 _ ep n4.n⟩
end
def gD1 (k v : PyData) : Option PyData := if plainD k = true ∨ (isTupD k && deepD k) = true then some (.dict [(k, v)]) else none
section
variable {X : Cx} {F : Fr} {ke ve : Expr} {fk fv : M PyData} {pos : Pos}
theorem pmf_d1 (hu : X.A.units + 64 < cLine) (hk : PM X F ke fk) (hv : PM X F ve fv)
    (hshape : (evalEachOpt [some ke] X.env).zip ((evalEach [ve] X.env).map fun v => do let x ← v; standAt pos; pure x) = [(some (eval ke X.env), do let x ← eval ve X.env; standAt pos; pure x)] := by rfl) : PMF X F (.Dict [some ke] [ve] pos) (op2 gD1 fk fv) := by
  refine PE.imp (pe_d1 hu hk hv hshape) fun σ H Q ⟨V, ρ, E, g0⟩ => ⟨V, ρ, E, GoalF.bind g0 fun x dx H1 V1 ρ1 st1 r1 g1 => ⟨V1, ρ1, st1.env, GoalF.bind g1 fun y dy H2 V2 ρ2 st2 r2 g2 => ?_⟩⟩
  obtain ⟨z, ez, q⟩ := GoalF.opt st2.env g2
  have s := st2.env.sub
  have r1 := r1.mono st2.v
  obtain ⟨hor, rfl⟩ := ite_some ez
  by_cases hp : plainD dx = true
  · obtain ⟨k, rfl, rfl⟩ := plain_key r1 hp
    exact .inl ⟨k, rfl, fun p hpn => q _ _ _ (Ext.hid s hpn) ⟨p, rfl, s.free hpn, hpn, .inl ⟨[(k, y)], upd_same, .cons r2 .nil, by simp⟩⟩⟩
  · obtain ⟨o1, o2⟩ := Bool.and_eq_true_iff.mp (hor.resolve_left hp)
    obtain ⟨k, b, e1, rfl, nb, db⟩ := tup_key s r1 o1 o2
    exact .inr ⟨k, b, rfl, nb, db, fun p ep hpn => q _ _ _ (Ext.hid s hpn) ⟨p, rfl, s.free hpn, hpn, .inr ⟨[(k, b, y)], ep, upd_same, .cons r1 e1 db r2 .nil⟩⟩⟩
theorem pm_d1 (hu : X.A.units + 64 < cLine) (hk : PM X F ke fk) (hv : PM X F ve fv)
    (hshape : (evalEachOpt [some ke] X.env).zip ((evalEach [ve] X.env).map fun v => do let x ← v; standAt pos; pure x) = [(some (eval ke X.env), do let x ← eval ve X.env; standAt pos; pure x)] := by rfl) : PM X F (.Dict [some ke] [ve] pos) (op2 gD1 fk fv) := (pmf_d1 hu hk hv hshape).pm
end
end DL
set_option Elab.async false
set_option linter.all false
set_option maxRecDepth 100000
set_option maxHeartbeats 4000000
namespace DL
open PySem PySem.Spec PyProof.Rows L2
end DL
set_option Elab.async false
set_option linter.all false
set_option maxRecDepth 100000
set_option maxHeartbeats 4000000
namespace DL
open PySem PySem.Spec PyProof.Rows L2
end DL
set_option Elab.async false
set_option linter.all false
set_option maxRecDepth 100000
set_option maxHeartbeats 4000000
namespace DL
open PySem PySem.Spec PyProof.Rows L2
end DL
set_option Elab.async false
set_option linter.all false
set_option maxRecDepth 100000
set_option maxHeartbeats 4000000
namespace DL
open PySem PySem.Spec PyProof.Rows L2
end DL
set_option Elab.async false
set_option linter.all false
set_option maxRecDepth 100000
set_option maxHeartbeats 4000000
namespace DL
open PySem PySem.Spec PyProof.Rows L2
end DL
set_option Elab.async false
set_option linter.all false
set_option maxRecDepth 100000
set_option maxHeartbeats 4000000
namespace DL
open PySem PySem.Spec PyProof.Rows L2
variable [TabCtx]
/-- what holds of a comprehension's new dict at D -/
structure DI (K : KW) (F : Fr) (vs : List Nat) (σ : St) (ρ1 : Rho) (H1 V1 : Hp) (D : Addr) (σ' : St) (ρ' : Rho) (H' V' : Hp) (ys : List (NestedKey × Addr × L2.V)) (ep : Nat) (acc : List (PyData × PyData)) : Prop where
  env : EnvR K F H' V' σ' ρ'
  sv : Same V1 V'
  hD : H' D = some (dX K.w D ys ep)
  rl : RepT K V' ys acc
  vD : V' D = none
  ho : ∀ b, IsOwn σ' ρ' b → IsOwn σ ρ1 b
  kp : ∀ b o, H1 b = some o → nT o → ¬ IsOwn σ ρ1 b → H' b = some o
  sh : ∀ (j : Nat) (d : PyData), j ∉ vs → ρ'[j]? = some (.sh d) → ρ1[j]? = some (.sh d)
  fr : ∀ b, V1 b = none → H1 b ≠ none → V' b = none
  th : ∀ b, H1 b ≠ none → H' b ≠ none
  nD : ¬ IsOwn σ ρ1 D
  h0 : F.H0 D = none
  h1 : H1 D = none
section
variable {K : KW} {F : Fr} {vs : List Nat} {σ : St} {ρ1 : Rho} {H1 V1 : Hp} {D : Addr} {σ' σ2 : St} {ρ' ρ2 : Rho} {H' V' H2 V2 : Hp} {ys : List (NestedKey × Addr × L2.V)} {ep : Nat} {acc : List (PyData × PyData)}
theorem DI.start (E : EnvR K F H1 V1 σ ρ1) (hD : H1 D = none) (ep : Nat) : DI K F vs σ ρ1 H1 V1 D σ ρ1 (upd H1 D (dX K.w D [] ep)) V1 [] ep [] := by
  have L := LI.start (vs := vs) E hD
  exact ⟨E.grow (Ext.hid E.sub hD), L.sv, upd_same, .nil, L.vD, L.ho, fun b o q _ _ => same_new hD b o q, L.sh, L.fr, Same.th (same_new hD), L.nD, L.h0, L.h1⟩
theorem DI.someD (I : DI K F vs σ ρ1 H1 V1 D σ' ρ' H' V' ys ep acc) : H' D ≠ none := by rw [I.hD]; exact fun z => nomatch z
theorem DI.wipe (I : DI K F vs σ ρ1 H1 V1 D σ' ρ' H' V' ys ep acc) (ws : List Nat) (hl : F.ls ∉ ws ∨ F.lent = none) : DI K F vs σ ρ1 H1 V1 D (L2.wipe σ' ws) (wipeR ρ' ws) H' V' ys ep acc :=
  { I with env := I.env.wipe hl, ho := fun b h => I.ho b (isOwn_wipe h), sh := fun j d hj q => I.sh j d hj (wipeR_some (by intro z; cases z) q).1 }
theorem DI.ext (I : DI K F vs σ ρ1 H1 V1 D σ' ρ' H' V' ys ep acc) (x : Ext H' V' H2 V2) : DI K F vs σ ρ1 H1 V1 D σ' ρ' H2 V2 ys ep acc :=
  { I with env := I.env.grow x, sv := I.sv.trans x.v, hD := x.h _ _ I.hD plain_dX.t, rl := I.rl.mono x.v, vD := x.f D I.vD I.someD, kp := fun b o q n m => x.h _ _ (I.kp b o q n m) n, fr := fun b h1 h2 => x.f b (I.fr b h1 h2) (I.th b h2), th := fun b h => x.th b (I.th b h) }
theorem DI.tgt {is : List Nat} (I : DI K F vs σ ρ1 H1 V1 D σ' ρ' H' V' ys ep acc) (E : EnvR K F H2 V2 σ2 ρ2) (x : Ext H' V' H2 V2) (o : ∀ b, IsOwn σ2 ρ2 b → IsOwn σ' ρ' b) (p : ∀ (i : Nat) (d : PyData), i ∉ is → ρ2[i]? = some (.sh d) → ρ'[i]? = some (.sh d)) (his : ∀ i ∈ is, i ∈ vs) :
    DI K F vs σ ρ1 H1 V1 D σ2 ρ2 H2 V2 ys ep acc :=
  { I.ext x with env := E, ho := fun b h => I.ho b (o b h), sh := fun j d hj q => I.sh j d hj (p j d (fun z => hj (his j z)) q) }
theorem DI.stp (I : DI K F vs σ ρ1 H1 V1 D σ' ρ' H' V' ys ep acc) (s : Stp K F σ' ρ' ρ2 H' V' H2 V2) : DI K F vs σ ρ1 H1 V1 D σ' ρ2 H2 V2 ys ep acc where
  env := s.env
  sv := I.sv.trans s.v
  hD := s.keep _ _ I.hD plain_dX.t fun h => I.nD (I.ho D h)
  rl := I.rl.mono s.v
  vD := s.f D I.vD I.someD
  ho := fun b h => I.ho b (s.own b h)
  kp := fun b o q n m => s.keep b o (I.kp b o q n m) n fun h => m (I.ho b h)
  sh := fun j d hj q => I.sh j d hj (s.shs j d q)
  fr := fun b h1 h2 => s.f b (I.fr b h1 h2) (I.th b h2)
  th := fun b h => s.th b (I.th b h)
  nD := I.nD
  h0 := I.h0
  h1 := I.h1
/-- the dict is done -/
theorem DI.done (E : EnvR K F H1 V1 σ ρ1) (I : DI K F vs σ ρ1 H1 V1 D (L2.wipe σ vs) (wipeR ρ' vs) H' V' ys ep acc) (hv : ∀ i ∈ vs, isOw ρ1[i]? = false) :
    Stp K F σ ρ1 (resR ρ1 ρ' vs) H1 V1 H' (upd V' D (dX K.w D ys ep)) ∧ Rep K (upd V' D (dX K.w D ys ep)) (.ref D) (.dict acc) := by
  have nD : ¬ IsOwn (L2.wipe σ vs) (wipeR ρ' vs) D := fun h => I.nD (I.ho D h)
  have Es : EnvR K F H' (upd V' D (dX K.w D ys ep)) (L2.wipe σ vs) (wipeR ρ' vs) := I.env.show I.hD I.vD I.h0 nD
  have svD : Same V' (upd V' D (dX K.w D ys ep)) := same_new I.vD
  refine ⟨⟨E.restore Es (I.sv.trans svD) hv, I.sv.trans svD, I.kp, fun b h => ?_, fun j d q => ?_, fun b h1 h2 => ?_, I.th⟩, .dt upd_same (I.rl.mono svD)⟩
  · obtain ⟨j, d, h1, h2⟩ := h
    have nj := resR_ow hv h1
    rw [resR_out nj] at h1
    exact I.ho b ⟨j, d, by rw [wipeR_out nj]; exact h1, by rw [wipe_outL nj]; exact h2⟩
  · by_cases hj : j ∈ vs
    · by_cases hl : j < ρ'.length
      · rw [resR_in hj hl] at q
        have h' : ρ1.getD j .no = .sh d := Option.some.inj q
        rw [List.getD_eq_getElem?_getD] at h'
        cases q' : ρ1[j]? with
        | none => rw [q'] at h'; cases h'
        | some s =>
          rw [q'] at h'
          have h' : s = .sh d := h'
          rw [h']
      · rw [List.getElem?_eq_none (by rw [resR_len]; omega)] at q; cases q
    · rw [resR_out hj] at q
      exact I.sh j d hj (by rw [wipeR_out hj]; exact q)
  · rw [upd_ne (fun z => h2 (by rw [z]; exact I.h1))]
    exact I.fr b h1 h2
end
end DL
set_option Elab.async false
set_option linter.all false
set_option maxRecDepth 100000
set_option maxHeartbeats 4000000
namespace DL
open PySem PySem.Spec PyProof.Rows L2
end DL
set_option Elab.async false
set_option linter.all false
set_option maxRecDepth 100000
set_option maxHeartbeats 4000000
namespace DL
open PySem PySem.Spec PyProof.Rows L2
end DL
set_option Elab.async false
set_option linter.all false
set_option maxRecDepth 100000
set_option maxHeartbeats 4000000
namespace DL
open PySem PySem.Spec PyProof.Rows L2
variable [TabCtx]
def Fr.at (F : Fr) (σ : St) : Fr := { F with W := fun c _ H => F.W c σ H }
end DL
set_option Elab.async false
set_option linter.all false
set_option maxRecDepth 100000
set_option maxHeartbeats 4000000
namespace DL
open PySem PySem.Spec PyProof.Rows L2
end DL
set_option Elab.async false
set_option linter.all false
set_option maxRecDepth 100000
set_option maxHeartbeats 4000000
namespace HD
open PySem PySem.Spec PyProof.Rows L2 L2H HotX LamX DL
variable [TabCtx]
abbrev IS := Int × Str
/-- a tuple of a number and a text -/
def IsIS (h : Heap) (b : Addr) (k : IS) : Prop := ∃ t t', IsTup h b #[.int k.1 t, .str k.2 t']
theorem IsIS.uniq {h : Heap} {b : Addr} {k k' : IS} (x : IsIS h b k) (y : IsIS h b k') : k = k' := by
  obtain ⟨t, t', o, ho, _, n, hd⟩ := x
  obtain ⟨u, u', o', ho', _, n', hd'⟩ := y
  rw [ho] at ho'; cases ho'
  rw [hd] at hd'
  injection hd' with e _
  have e := congrArg Array.toList e
  simp at e
  exact Prod.ext e.1.1 e.2.1
theorem isIS_vals {h : Heap} {b : Addr} {k : IS} (x : IsIS h b k) {its : List Value} {xs : List L2.V} (y : IsTup h b its.toArray) (r : Vals xs its) : xs = [.int k.1, .str k.2] := by
  obtain ⟨t, t', o, ho, _, n, hd⟩ := x
  obtain ⟨o', ho', _, n', hd'⟩ := y
  rw [ho] at ho'; cases ho'
  rw [hd] at hd'
  injection hd' with e _
  have e := congrArg Array.toList e
  have e : its = [.int k.1 t, .str k.2 t'] := by simpa using e.symm
  subst e
  obtain ⟨a, b', rfl, ra, rb⟩ : ∃ a b', xs = [a, b'] ∧ RelV a (.int k.1 t) ∧ RelV b' (.str k.2 t') := by
    cases r with
    | cons r1 r2 =>
      cases r2 with
      | cons r2 r3 => cases r3; exact ⟨_, _, rfl, r1, r2⟩
  have e1 : a = .int k.1 := by
    cases a with
    | int i => obtain ⟨t0, q⟩ := (show ∃ t0, Value.int k.1 t = Value.int i t0 from ra); injection q with q; rw [q]
    | str i => obtain ⟨t0, q⟩ := (show ∃ t0, Value.int k.1 t = Value.str i t0 from ra); cases q
    | non => exact absurd (show Value.int k.1 t = Value.none from ra) (fun z => nomatch z)
    | bl v => exact absurd (show Value.int k.1 t = Value.bool v from ra) (fun z => nomatch z)
    | ref v => exact absurd (show Value.int k.1 t = Value.ref v from ra) (fun z => nomatch z)
    | byt v => exact absurd (show ∃ t0, Value.int k.1 t = Value.bytes v t0 from ra) (fun ⟨_, q⟩ => nomatch q)
    | flt v => exact absurd (show ∃ t0, Value.int k.1 t = Value.float v t0 from ra) (fun ⟨_, q⟩ => nomatch q)
    | ty v => exact absurd (show Value.int k.1 t = Value.type v from ra) (fun z => nomatch z)
  have e2 : b' = .str k.2 := by
    cases b' with
    | int i => obtain ⟨t0, q⟩ := (show ∃ t0, Value.str k.2 t' = Value.int i t0 from rb); cases q
    | str i => obtain ⟨t0, q⟩ := (show ∃ t0, Value.str k.2 t' = Value.str i t0 from rb); injection q with q; rw [q]
    | non => exact absurd (show Value.str k.2 t' = Value.none from rb) (fun z => nomatch z)
    | bl v => exact absurd (show Value.str k.2 t' = Value.bool v from rb) (fun z => nomatch z)
    | ref v => exact absurd (show Value.str k.2 t' = Value.ref v from rb) (fun z => nomatch z)
    | byt v => exact absurd (show ∃ t0, Value.str k.2 t' = Value.bytes v t0 from rb) (fun ⟨_, q⟩ => nomatch q)
    | flt v => exact absurd (show ∃ t0, Value.str k.2 t' = Value.float v t0 from rb) (fun ⟨_, q⟩ => nomatch q)
    | ty v => exact absurd (show Value.str k.2 t' = Value.type v from rb) (fun z => nomatch z)
  rw [e1, e2]
open Classical in
noncomputable def satH (h0 : Heap) (ex : List Addr) (h : Heap) (H : Hp) : Hp := fun b =>
  if q : h0.get? b = none ∧ b ∉ ex ∧ ∃ k, IsIS h b k then some (.tup [.int (choose q.2.2).1, .str (choose q.2.2).2]) else H b
section
variable {P : Program} {w : World} {h0 h : Heap} {ex : List Addr} {H : Hp} {b : Addr}
theorem sat_in {k : IS} (h1 : h0.get? b = none) (h2 : b ∉ ex) (h3 : IsIS h b k) : satH h0 ex h H b = some (.tup [.int k.1, .str k.2]) := by
  have q : h0.get? b = none ∧ b ∉ ex ∧ ∃ k, IsIS h b k := ⟨h1, h2, k, h3⟩
  unfold satH
  rw [dif_pos q]
  have := (Classical.choose_spec q.2.2).uniq h3
  rw [this]
theorem sat_out (hn : ∀ k, ¬ IsIS h b k) : satH h0 ex h H b = H b := by
  unfold satH; rw [dif_neg fun q => hn _ q.2.2.choose_spec]
theorem sat_old {o : Obj} (ho : h0.get? b = some o) : satH h0 ex h H b = H b := by
  unfold satH; rw [dif_neg fun q => by rw [ho] at q; cases q.1]
theorem sat_ex (hb : b ∈ ex) : satH h0 ex h H b = H b := by
  unfold satH; rw [dif_neg fun q => q.2.1 hb]
theorem not_is {o : Obj} (ho : h.get? b = some o) (hd : ∀ its n, o.data ≠ .seq its n) : ∀ k, ¬ IsIS h b k := fun k ⟨_, _, o', ho', _, n, hd'⟩ => by
  rw [ho] at ho'; cases ho'
  exact hd _ _ hd'
theorem sat_tup (ok : HOk P w H h) {xs : List L2.V} (e : H b = some (.tup xs)) : satH h0 ex h H b = some (.tup xs) := by
  by_cases q : h0.get? b = none ∧ b ∉ ex ∧ ∃ k, IsIS h b k
  · obtain ⟨q1, q2, k, q3⟩ := q
    rw [sat_in q1 q2 q3]
    obtain ⟨_, its, r, p⟩ := ok b _ e
    rw [isIS_vals q3 p r]
  · unfold satH; rw [dif_neg q]; exact e
theorem ObjOk.sat (ok : HOk P w H h) {a : Addr} {o : HO} (x : ObjOk P w H h a o) : ObjOk P w (satH h0 ex h H) h a o := by
  induction o with
  | dT kvs =>
    obtain ⟨z, y, xs, r, c⟩ := x
    exact ⟨z, y, xs, L2.Paired.mapP r fun p q z => ⟨z.1, sat_tup ok z.2.1, z.2.2⟩, c⟩
  | ins C dx fs =>
    obtain ⟨d, z, ne, e, mA, hns, r⟩ := x
    refine ⟨?_, z, ne, e, mA, hns, r⟩
    obtain ⟨od, es, ep, e2, e3, _⟩ := hns
    rw [sat_out (not_is e2 fun its n q => by rw [e3] at q; cases q)]
    exact d
  | frz ob u ih => exact ⟨x.1, ih x.2⟩
  | lst xs => exact x
  | tup xs => exact x
  | dK kvs => exact x
  | set S n => exact x
  | own y => exact x
  | xd fs => exact x
  | rng lo hi => exact x
  | tbl ps => exact x
  | met f y => exact x
  | ext φ => exact x
theorem HOk.sat (ok : HOk P w H h) : HOk P w (satH h0 ex h H) h := fun a o e => by
  by_cases q : h0.get? a = none ∧ a ∉ ex ∧ ∃ k, IsIS h a k
  · obtain ⟨q1, q2, k, q3⟩ := q
    rw [sat_in q1 q2 q3] at e
    cases e
    obtain ⟨t, t', p⟩ := q3
    exact ⟨by show 2 ≤ sizeLine; decide, [.int k.1 t, .str k.2 t'], .cons ⟨t, rfl⟩ (.cons ⟨t', rfl⟩ .nil), p⟩
  · have e' : H a = some o := by
      have : satH h0 ex h H a = H a := by unfold satH; rw [dif_neg q]
      rw [← this]; exact e
    exact ObjOk.sat ok (ok a o e')
theorem hok_some (ok : HOk P w H h) {o : HO} (e : H b = some o) : ∃ ob, h.get? b = some ob := by
  have lt := (ok b o e)
  have : ∀ {a : Addr} {u : HO}, ObjOk P w H h a u → ∃ ob, h.get? a = some ob := fun {a u} x1 => by
    induction u with
    | lst xs1 => obtain ⟨_, _, _, _, e⟩ := x1; exact ⟨_, e⟩
    | tup xs => obtain ⟨_, _, _, o, e, _⟩ := x1; exact ⟨_, e⟩
    | dK kvs => obtain ⟨_, _, _, _, o, _, _, e, _⟩ := x1; exact ⟨_, e⟩
    | dT kvs => obtain ⟨_, _, _, _, o, _, _, e, _⟩ := x1; exact ⟨_, e⟩
    | set S n => obtain ⟨o, _, _, _, e, _⟩ := x1; exact ⟨_, e⟩
    | ins C1 dx1 fs1 => obtain ⟨_, _, _, e, _⟩ := x1; exact ⟨_, e⟩
    | own y => obtain ⟨_, e⟩ := x1; exact ⟨_, e⟩
    | xd fs => obtain ⟨_, ⟨_, _, _, e, _⟩, _⟩ := x1; exact ⟨_, e⟩
    | rng lo1 hi1 => obtain ⟨_, _, _, e⟩ := x1; exact ⟨_, e⟩
    | frz ob u _ => obtain ⟨e, _⟩ := x1; exact ⟨_, e⟩
    | tbl ps => exact ⟨_, (show h.get? a = some _ from x1)⟩
    | met f y => exact ⟨_, (show h.get? a = some _ from x1)⟩
    | ext φ1 => obtain ⟨_, ⟨_, e⟩, _⟩ := x1; exact ⟨_, e⟩
  exact this lt
end
/-- the state between two calls -/
structure JC (P : Program) (w : World) (outer : List Env) (s0 : Shared) (H V : Hp) (ex : List Addr) (s : Shared) (H' : Hp) : Prop where
  os : s.os = s0.os
  bare : AllBare s.gens
  un : Un (frs outer) [] H H' s0.heap s.heap
  hok : HOk P w H' s.heap
  ext : Ext H V H' V
  out : ∀ b ∈ ex, H' b = none
  sat : ∀ b k, s0.heap.get? b = none → b ∉ ex → IsIS s.heap b k → H' b = some (.tup [.int k.1, .str k.2])
section
variable {P : Program} {w : World} {outer : List Env} {s0 s : Shared} {H V H2 V2 : Hp} {ex : List Addr}
theorem tabs_sat {h0 h : Heap} {T : List (Addr × Str)} (ok : HOk P w H2 h) (t : LamX.Tabs T H2) : LamX.Tabs T (satH h0 ex h H2) := fun p hp => by
  obtain ⟨ps, h1, h2, h3⟩ := t p hp
  refine ⟨ps, ?_, h2, fun pos cv hc => ?_⟩
  · have e : h.get? p.1 = some { cls := .none, data := .fields ps } := ok p.1 _ h1
    rw [sat_out (not_is e fun its n q => nomatch q)]; exact h1
  · obtain ⟨c, e1, e2⟩ := h3 pos cv hc
    refine ⟨c, e1, ?_⟩
    obtain ⟨⟨oc, vs, t, hoc, hdc, _⟩, _, _⟩ := ok c _ e2
    rw [sat_out (not_is hoc fun its n q => by rw [hdc] at q; cases q)]; exact e2
theorem JC.of (ok0 : HOk P w H s0.heap) (sv : Same V H) (hex : ∀ b ∈ ex, s0.heap.get? b = none) (os : s.os = s0.os) (bare : AllBare s.gens) (un : Un (frs outer) [] H H2 s0.heap s.heap) (hok : HOk P w H2 s.heap) (x : Ext H V H2 V2) (out : ∀ b ∈ ex, H2 b = none) : JC P w outer s0 H V ex s (satH s0.heap ex s.heap H2) := by
  have old : ∀ b o, H b = some o → satH s0.heap ex s.heap H2 b = H2 b := fun b o e => by
    obtain ⟨ob, e'⟩ := hok_some ok0 e
    exact sat_old e'
  refine ⟨os, bare, ⟨un.keep, un.slot, fun b o q n hx => ?_, un.there, fun b xs q => ?_, fun b o u q => ?_, fun b ps q => ?_⟩, HOk.sat hok, ⟨fun b o e nt => ?_, Same.refl _, fun b o e => ?_, fun b e _ => e, fun b e => ?_, fun t => tabs_sat hok (x.t t)⟩, fun b hb => ?_, fun b k e1 e2 e3 => sat_in e1 e2 e3⟩
  · rw [sat_old q]; exact un.free b o q n hx
  · rw [old b _ q]; exact un.tups b xs q
  · rw [old b _ q]; exact un.frzs b o u q
  · rw [old b _ q]; exact un.tbls b ps q
  · rw [old b o e]; exact x.h b o e nt
  · have e' := x.s b o (x.v b o e)
    rw [old b _ (sv b o e)]; exact e'
  · cases q : H b with
    | none => exact absurd q e
    | some o => rw [old b o q]; exact x.th b e
  · rw [sat_ex hb]; exact out b hb
end
end HD
set_option Elab.async false
set_option linter.all false
set_option maxRecDepth 100000
set_option maxHeartbeats 4000000
set_option Elab.async false
set_option linter.all false
set_option maxRecDepth 100000
set_option maxHeartbeats 4000000
set_option Elab.async false
set_option linter.all false
set_option maxRecDepth 100000
set_option maxHeartbeats 4000000
namespace DL
open PySem PySem.Spec PyProof.Rows L2
variable [TabCtx]
def remO (i : Nat) (a : M PyData) : SM := fun ρ => match ρ[i]? with
  | some (.ow (.list _)) => exO a (fun d ρ => match ρ[i]? with
    | some (.ow (.list ds)) => if (SeqAt.shaped d && PyData.canLayAll0 ds) = true then (match findD d ds with
      | some j => .nx (ρ.set i (.ow (.list (ds.eraseIdx j))))
      | none => .bad) else .bad
    | _ => .bad) ρ
  | _ => .bad
end DL
set_option Elab.async false
set_option linter.all false
set_option maxRecDepth 100000
set_option maxHeartbeats 4000000
namespace DL
open PySem PySem.Spec PyProof.Rows L2
end DL
set_option Elab.async false
set_option linter.all false
set_option maxRecDepth 100000
set_option maxHeartbeats 4000000
namespace DL
open PySem PySem.Spec PyProof.Rows L2
end DL
set_option Elab.async false
set_option linter.all false
set_option maxRecDepth 100000
set_option maxHeartbeats 4000000
namespace DL
open PySem PySem.Spec PyProof.Rows L2
end DL
set_option Elab.async false
set_option linter.all false
set_option maxRecDepth 100000
set_option maxHeartbeats 4000000
namespace DL
open PySem PySem.Spec PyProof.Rows L2
end DL
set_option Elab.async false
set_option linter.all false
set_option maxRecDepth 100000
set_option maxHeartbeats 4000000
namespace L2
open PySem PySem.Spec PyProof.Rows
end L2
set_option Elab.async false
set_option linter.all false
set_option maxRecDepth 100000
set_option maxHeartbeats 4000000
namespace DL
open PySem PySem.Spec PyProof.Rows L2
end DL
set_option Elab.async false
set_option linter.all false
set_option maxRecDepth 100000
set_option maxHeartbeats 2000000
namespace DL
open PySem PySem.Spec PyProof.Rows L2
abbrev aRun (K : PySem.W.Frag) : Addr := He.ga K "Running"
def obNames : List Str := ["first", "crew", "stand", "sung", "deeds", "past"]
abbrev aMet (K : PySem.W.Frag) (m : Str) : Addr := He.fAd K ("Running", some m)
def metNames : List Str := ["remember", "need_leads", "sing", "beat", "run", "replace", "lines", "standing", "choir", "undo"]
/-- what the text says of the class -/
structure RunK (K : PySem.W.Frag) : Prop where
  cls : Cls K (aRun K)
  no : ∀ f ∈ obNames, NoAttr K (aRun K) f
  make : Mk K (aRun K) (aMet K "__init__")
  meth : ∀ m ∈ metNames, Meth K (aRun K) m (aMet K m)
end DL
set_option Elab.async false
set_option linter.all false
set_option maxRecDepth 100000
set_option maxHeartbeats 2000000
namespace DL
open PySem PySem.Spec PyProof.Rows L2
variable [TabCtx]
/-- the cells of a running song -/
structure ObC where
  dx : Addr
  ls : Addr
  ld : Addr
  lp : Addr
  fs : List (Str × L2.V)
  v1 : L2.V
  v2 : L2.V
  v3 : L2.V
  xs : List L2.V
  ys : List L2.V
  zs : List L2.V
structure ObIs (K : PySem.W.Frag) (H : Hp) (a : Addr) (c : ObC) : Prop where
  ins : H a = some (.ins (aRun K) c.dx c.fs)
  own : H c.dx = some (.own a)
  f1 : c.fs.lookup ("first" : Str) = some c.v1
  f2 : c.fs.lookup ("crew" : Str) = some c.v2
  f3 : c.fs.lookup ("stand" : Str) = some c.v3
  f4 : c.fs.lookup ("sung" : Str) = some (.ref c.ls)
  f5 : c.fs.lookup ("deeds" : Str) = some (.ref c.ld)
  f6 : c.fs.lookup ("past" : Str) = some (.ref c.lp)
  no : ∀ f, f ∉ obNames → c.fs.lookup f = none
  len : c.fs.length ≤ 20
  l1 : H c.ls = some (.lst c.xs)
  l2 : H c.ld = some (.lst c.ys)
  l3 : H c.lp = some (.lst c.zs)
  n1 : c.ls ≠ c.ld
  n2 : c.ls ≠ c.lp
  n3 : c.ld ≠ c.lp
structure ObRep (K : KW) (V : Hp) (c : ObC) (o : Ob) : Prop where
  first : Rep K V c.v1 o.first
  crew : Rep K V c.v2 o.crew
  stand : Rep K V c.v3 o.stand
  sung : RepL K V c.xs o.sung
  deeds : RepL K V c.ys o.deeds
  past : RepL K V c.zs o.past
theorem ObRep.mono {K : KW} {V V' : Hp} {c : ObC} {o : Ob} (h : ObRep K V c o) (s : Same V V') : ObRep K V' c o := ⟨h.first.mono s, h.crew.mono s, h.stand.mono s, h.sung.mono s, h.deeds.mono s, h.past.mono s⟩
section
variable {K : KW} {V H H' : Hp} {a : Addr} {o : Ob} {c : ObC}
theorem ObAt.get (h : ObAt K V H a o) : ∃ c, ObIs K.k H a c ∧ ObRep K V c o := by
  obtain ⟨dx, ls, ld, lp, v1, v2, v3, xs, ys, zs, fs, e1, e2, ⟨f1, f2, f3, f4, f5, f6⟩, hn, hl, ⟨l1, l2, l3⟩, ⟨n1, n2, n3⟩, ⟨r1, r2, r3⟩, r4, r5, r6⟩ := h.ins
  exact ⟨⟨dx, ls, ld, lp, fs, v1, v2, v3, xs, ys, zs⟩, ⟨e1, e2, f1, f2, f3, f4, f5, f6, hn, hl, l1, l2, l3, n1, n2, n3⟩, ⟨r1, r2, r3, r4, r5, r6⟩⟩
theorem ObAt.mk' (h : ObIs K.k H a c) (r : ObRep K V c o) (hid : ∀ b, Foot H a b → V b = none) : ObAt K V H a o :=
  ⟨⟨c.dx, c.ls, c.ld, c.lp, c.v1, c.v2, c.v3, c.xs, c.ys, c.zs, c.fs, h.ins, h.own, ⟨h.f1, h.f2, h.f3, h.f4, h.f5, h.f6⟩, h.no, h.len, ⟨h.l1, h.l2, h.l3⟩, ⟨h.n1, h.n2, h.n3⟩, ⟨r.first, r.crew, r.stand⟩, r.sung, r.deeds, r.past⟩, hid⟩
theorem ObIs.foot {K : PySem.W.Frag} (h : ObIs K H a c) {b : Addr} : Foot H a b ↔ b = a ∨ b = c.dx ∨ b = c.ls ∨ b = c.ld ∨ b = c.lp := by
  constructor
  · rintro (e | ⟨C, dx, fs, e, q⟩)
    · exact .inl e
    · rw [h.ins] at e
      cases e
      rcases q with e | ⟨f, hf, e⟩
      · exact .inr (.inl e)
      · unfold obF at hf
        rcases List.mem_cons.mp hf with rfl | hf
        · rw [h.f4] at e; cases e; exact .inr (.inr (.inl rfl))
        · rcases List.mem_cons.mp hf with rfl | hf
          · rw [h.f5] at e; cases e; exact .inr (.inr (.inr (.inl rfl)))
          · rcases List.mem_cons.mp hf with rfl | hf
            · rw [h.f6] at e; cases e; exact .inr (.inr (.inr (.inr rfl)))
            · cases hf
  · rintro (e | e | e | e | e)
    · exact .inl e
    · exact .inr ⟨_, _, _, h.ins, .inl e⟩
    · exact .inr ⟨_, _, _, h.ins, .inr ⟨"sung", by simp [obF], by rw [h.f4, e]⟩⟩
    · exact .inr ⟨_, _, _, h.ins, .inr ⟨"deeds", by simp [obF], by rw [h.f5, e]⟩⟩
    · exact .inr ⟨_, _, _, h.ins, .inr ⟨"past", by simp [obF], by rw [h.f6, e]⟩⟩
theorem ObIs.cell {K : PySem.W.Frag} (h : ObIs K H a c) {b : Addr} (f : Foot H a b) : ∃ x, H b = some x ∧ nT x ∧ Plain x := by
  rcases h.foot.mp f with rfl | rfl | rfl | rfl | rfl
  · exact ⟨_, h.ins, (fun _ z => nomatch z), ⟨(fun _ z => nomatch z), fun _ _ z => by unfold LamX.CodeO at z; cases z⟩⟩
  · exact ⟨_, h.own, (fun _ z => nomatch z), ⟨(fun _ z => nomatch z), fun _ _ z => by unfold LamX.CodeO at z; cases z⟩⟩
  · exact ⟨_, h.l1, (fun _ z => nomatch z), plain_lst⟩
  · exact ⟨_, h.l2, (fun _ z => nomatch z), plain_lst⟩
  · exact ⟨_, h.l3, (fun _ z => nomatch z), plain_lst⟩
theorem ObIs.keep {K : PySem.W.Frag} (h : ObIs K H a c) (k : ∀ b x, Foot H a b → H b = some x → H' b = some x) : ObIs K H' a c :=
  ⟨k _ _ (h.foot.mpr (.inl rfl)) h.ins, k _ _ (h.foot.mpr (.inr (.inl rfl))) h.own, h.f1, h.f2, h.f3, h.f4, h.f5, h.f6, h.no, h.len, k _ _ (h.foot.mpr (.inr (.inr (.inl rfl)))) h.l1, k _ _ (h.foot.mpr (.inr (.inr (.inr (.inl rfl))))) h.l2, k _ _ (h.foot.mpr (.inr (.inr (.inr (.inr rfl))))) h.l3, h.n1, h.n2, h.n3⟩
theorem ObIs.foot_eq {K K' : PySem.W.Frag} (h : ObIs K H a c) (h' : ObIs K' H' a c) {b : Addr} : Foot H a b ↔ Foot H' a b := h.foot.trans h'.foot.symm
theorem ObAt.keep (h : ObAt K V H a o) {V' : Hp} (k : ∀ b x, Foot H a b → H b = some x → nT x → H' b = some x) (s : Same V V') (hid : ∀ b, Foot H a b → V' b = none) : ObAt K V' H' a o ∧ ∀ b, Foot H' a b ↔ Foot H a b := by
  obtain ⟨c, i, r⟩ := h.get
  have i' : ObIs K.k H' a c := i.keep fun b x f e => by
    obtain ⟨y, e2, n, _⟩ := i.cell f
    rw [e] at e2; cases e2
    exact k b x f e n
  exact ⟨ObAt.mk' i' (r.mono s) fun b f => hid b ((i.foot_eq i').mpr f), fun b => (i.foot_eq i').symm⟩
end
abbrev mkI (G : Fr) (H0 V0 : Hp) (obs : Addr → Prop) : Fr := { G with H0 := H0, V0 := V0, obs := obs }
structure OkI (G : Fr) (H0 V0 : Hp) (obs : Addr → Prop) : Prop where
  ext : Ext G.H0 G.V0 H0 V0
  fr : ∀ a, obs a → ∀ b, Foot H0 a b → G.H0 b = none
  ds : ∀ a a', obs a → obs a' → a ≠ a' → ∀ b, Foot H0 a b → Foot H0 a' b → False
def EnvI (K : KW) (G : Fr) (H V : Hp) (σ : St) (ρ : Rho) : Prop := ∃ H0 V0 obs, EnvR K (mkI G H0 V0 obs) H V σ ρ ∧ OkI G H0 V0 obs
section
variable {K : KW} {G : Fr} {H V H' V' H1 V1 : Hp} {σ : St} {ρ : Rho}
theorem EnvI.grow (E : EnvI K G H V σ ρ) (e : Ext H V H1 V1) : EnvI K G H1 V1 σ ρ := by
  obtain ⟨H0, V0, obs, E, ok⟩ := E
  exact ⟨H0, V0, obs, E.grow e, ok⟩
theorem EnvI.sub (E : EnvI K G H V σ ρ) : Same V H := by
  obtain ⟨H0, V0, obs, E, ok⟩ := E
  exact E.sub
theorem EnvI.tabs (E : EnvI K G H V σ ρ) : TabV H V := by
  obtain ⟨H0, V0, obs, E, ok⟩ := E
  exact E.tabs
theorem EnvI.ext (E : EnvI K G H V σ ρ) : Ext G.H0 G.V0 H V := by
  obtain ⟨H0, V0, obs, E, ok⟩ := E
  exact ok.ext.trans E.ext
theorem EnvI.of (E : EnvR K G H V σ ρ) (hs : Same G.V0 G.H0) (hg : ∀ a, ¬ G.obs a) : EnvI K G H V σ ρ :=
  ⟨G.H0, G.V0, G.obs, E, ⟨Ext.refl hs, fun a ha => absurd ha (hg a), fun a _ ha => absurd ha (hg a)⟩⟩
/-- a running song as it stands -/
theorem EnvI.at_ (E : EnvI K G H V σ ρ) {i : Nat} {o : Ob} (h : ρ[i]? = some (.ob o)) : ∃ a, σ[i]? = some (some (.ref a)) ∧ ObAt K V H a o ∧ ∀ b, Foot H a b → G.H0 b = none := by
  obtain ⟨H0, V0, obs, E, ok⟩ := E
  obtain ⟨a, h1, h2, h3⟩ := E.ob.at_ i o h
  obtain ⟨c, i0, _⟩ := h3.get
  obtain ⟨h4, h5⟩ := h3.keep (H' := H) (V' := V) (fun b x f e n => E.ext.h b x e n) E.ext.v fun b f => by
    obtain ⟨x, e, _⟩ := i0.cell f
    exact E.ext.f b (h3.hid b f) (by rw [e]; exact fun z => nomatch z)
  exact ⟨a, h1, h4, fun b f => ok.fr a h2 b ((h5 b).mp f)⟩
end
theorem tabs_veil {T : List (Addr × Str)} {H : Hp} {P : Addr → Prop} (h : ∀ b, P b → ∀ x, H b = some x → Plain x) (t : LamX.Tabs T H) : LamX.Tabs T (veiled P H) := fun q hq => by
  obtain ⟨ps, h1, h2, h3⟩ := t q hq
  refine ⟨ps, ?_, h2, fun pos cv hc => ?_⟩
  · rw [veiled_n (fun z => (h _ z _ h1).t _ rfl)]; exact h1
  · obtain ⟨c, e1, e2⟩ := h3 pos cv hc
    refine ⟨c, e1, ?_⟩
    rw [veiled_n (fun z => (h _ z _ e2).c _ _ rfl)]; exact e2
theorem veil_same {P : Addr → Prop} {H : Hp} : Same (veiled P H) H := fun b x e => by
  by_cases h : P b
  · rw [veiled_p h] at e; cases e
  · rw [veiled_n h] at e; exact e
section
variable {K : KW} {G : Fr} {H V H' V' : Hp} {σ : St} {ρ : Rho}
theorem Foot.exi {K : KW} {V H : Hp} {a b : Addr} {o : Ob} (h : ObAt K V H a o) (f : Foot H a b) : ∃ x, H b = some x ∧ nT x ∧ Plain x := by
  obtain ⟨c, i, _⟩ := h.get
  exact i.cell f
/-- a step that leaves all as it is but a running song (in slot i) and new things -/
theorem EnvI.mut (E : EnvI K G H V σ ρ) {i : Nat} {a : Addr} {o o' : Ob} (h0 : ρ[i]? = some (.ob o)) (h1 : σ[i]? = some (some (.ref a))) (kp : ∀ b x, ¬ Foot H a b → H b = some x → nT x → H' b = some x) (th : ∀ b, ¬ Foot H a b → H b ≠ none → H' b ≠ none) (tb : LamX.Tabs TBS H → LamX.Tabs TBS H')
    (v : Same V V') (s : Same V' H') (fh : ∀ b, ¬ Foot H a b → V b = none → H b ≠ none → V' b = none) (ho : ObAt K V' H' a o') (ft : ∀ b, Foot H' a b → Foot H a b ∨ H b = none) : EnvI K G H' V' σ (ρ.set i (.ob o')) := by
  have tabs := E.tabs
  obtain ⟨H0, V0, obs, E, ok⟩ := E
  obtain ⟨a1, e1, oa, oat⟩ := E.ob.at_ i o h0
  rw [h1] at e1
  cases e1
  have oa : obs a := oa
  have oat : ObAt K V0 H0 a o := oat
  have hil : i < ρ.length := (List.getElem?_eq_some_iff.mp h0).1
  -- cells of a running song now
  have now : ∀ {j : Nat} {p : Ob} {b : Addr}, ρ[j]? = some (.ob p) → σ[j]? = some (some (.ref b)) → obs b ∧ ObAt K V0 H0 b p ∧ ObAt K V H b p ∧ ∀ c, Foot H b c ↔ Foot H0 b c := fun {j p b} q1 q2 => by
    obtain ⟨b1, w1, w2, w3⟩ := E.ob.at_ j p q1
    rw [q2] at w1
    cases w1
    obtain ⟨w4, w5⟩ := w3.keep (H' := H) (V' := V) (fun c x f e n => E.ext.h c x e n) E.ext.v fun c f => by
      obtain ⟨x, e, _⟩ := Foot.exi w3 f
      exact E.ext.f c (w3.hid c f) (by rw [e]; exact fun z => nomatch z)
    exact ⟨w2, w3, w4, w5⟩
  obtain ⟨_, _, oat1, fiff⟩ := now h0 h1
  have own0 : ∀ {b : Addr}, IsOwn σ ρ b → V b = none ∧ H0 b = none ∧ ∃ x, H b = some x ∧ Plain x := fun {b} z => by
    obtain ⟨q1, q2, x, q3, _, _, q4⟩ := E.own_at z
    exact ⟨q1, q2, x, q3, q4⟩
  have ownF : ∀ {b : Addr}, IsOwn σ ρ b → ¬ Foot H a b := fun {b} z f => by
    obtain ⟨x, e, _⟩ := Foot.exi oat ((fiff b).mp f)
    rw [(own0 z).2.1] at e; cases e
  have ownP : ∀ b, IsOwn σ ρ b → ∀ x, H' b = some x → Plain x := fun b z x e => by
    obtain ⟨_, _, y, q1, q2⟩ := own0 z
    have := kp b y (ownF z) q1 q2.t
    rw [e] at this; cases this
    exact q2
  have ownV : ∀ {b : Addr}, IsOwn σ ρ b → V' b = none := fun {b} z => by
    obtain ⟨q0, _, y, q1, _⟩ := own0 z
    exact fh b (ownF z) q0 (by rw [q1]; exact fun w => nomatch w)
  -- what slots hold
  have slo : ∀ {j : Nat} {t : Sl}, (ρ.set i (.ob o'))[j]? = some t → (j = i ∧ t = .ob o') ∨ (j ≠ i ∧ ρ[j]? = some t) := fun {j t} q => by
    rcases getElem_set_some q with ⟨rfl, z, _⟩ | ⟨n, z⟩
    · exact .inl ⟨rfl, z.symm⟩
    · exact .inr ⟨Ne.symm n, z⟩
  have ow : ∀ {b : Addr}, IsOwn σ (ρ.set i (.ob o')) b → IsOwn σ ρ b := fun {b} ⟨j, d, q1, q2⟩ => by
    rcases slo q1 with ⟨_, z⟩ | ⟨_, z⟩
    · cases z
    · exact ⟨j, d, z, q2⟩
  have vs : Same (veiled (IsOwn σ ρ) H') H' := veil_same
  have gx : Ext G.H0 G.V0 H V := ok.ext.trans E.ext
  -- the running song in the new base
  have base : ∀ {b : Addr} {p : Ob}, ObAt K V' H' b p → (∀ c, Foot H' b c → ¬ IsOwn σ ρ c) → ObAt K V' (veiled (IsOwn σ ρ) H') b p ∧ ∀ c, Foot (veiled (IsOwn σ ρ) H') b c ↔ Foot H' b c := fun {b p} q n =>
    q.keep (fun c x f e _ => by rw [veiled_n (n c f)]; exact e) (Same.refl _) q.hid
  have nown : ∀ c, Foot H' a c → ¬ IsOwn σ ρ c := fun c f z => by
    rcases ft c f with q | q
    · exact ownF z q
    · obtain ⟨_, _, y, q1, _⟩ := own0 z
      rw [q] at q1; cases q1
  obtain ⟨ba, fa⟩ := base ho nown
  have oth : ∀ {j : Nat} {p : Ob} {b : Addr}, j ≠ i → ρ[j]? = some (.ob p) → σ[j]? = some (some (.ref b)) → b ≠ a ∧ ObAt K V' (veiled (IsOwn σ ρ) H') b p ∧ ∀ c, Foot (veiled (IsOwn σ ρ) H') b c ↔ Foot H0 b c := fun {j p b} nj q1 q2 => by
    have nba : b ≠ a := fun z => nj (E.ob.dis j i a p o q1 h0 (by rw [← z]; exact q2) h1)
    obtain ⟨w2, w3, w4, w5⟩ := now q1 q2
    have nf : ∀ c, Foot H b c → ¬ Foot H a c := fun c f1 f2 => ok.ds b a w2 oa nba c ((w5 c).mp f1) ((fiff c).mp f2)
    obtain ⟨w6, w7⟩ := w4.keep (H' := H') (V' := V') (fun c x f e n => kp c x (nf c f) e n) v fun c f => by
      obtain ⟨x, e, _⟩ := Foot.exi w4 f
      exact fh c (nf c f) (w4.hid c f) (by rw [e]; exact fun z => nomatch z)
    obtain ⟨w8, w9⟩ := base w6 fun c f z => by
      obtain ⟨x, e, _⟩ := Foot.exi w3 ((w5 c).mp ((w7 c).mp f))
      rw [(own0 z).2.1] at e; cases e
    exact ⟨nba, w8, fun c => (w9 c).trans ((w7 c).trans (w5 c))⟩
  refine ⟨veiled (IsOwn σ ρ) H', V', fun b => ∃ (j : Nat) (p : Ob), (ρ.set i (.ob o'))[j]? = some (.ob p) ∧ σ[j]? = some (some (L2.V.ref b)), ⟨by rw [List.length_set]; exact E.len, .of vs (Same.refl _) s (fun _ z _ => z), fun j d q => ?_, fun j d q => ?_, fun j k b d e q1 q2 q3 q4 => ?_, E.lent, ⟨tabs_veil ownP (tb tabs.1), fun p hp => by
    obtain ⟨ps, e, _⟩ := tabs.1 p hp
    refine fh _ (fun f => ?_) (tabs.2 p hp) (by rw [e]; exact fun z => nomatch z)
    obtain ⟨y, e2, n2, _⟩ := Foot.exi oat1 f
    rw [e] at e2; cases e2
    exact n2 ps rfl⟩, ⟨fun j p q => ?_, fun j k b p r q1 q2 q3 q4 => ?_⟩⟩, ⟨⟨fun b x e n => ?_, gx.v.trans v, fun b x e => ?_, fun b z1 z2 => fh b (fun f => z2 (ok.fr a oa b ((fiff b).mp f))) (gx.f b z1 z2) (gx.th b z2), fun b z => ?_, fun t => tabs_veil ownP (tb (gx.t t))⟩, fun b ⟨j, p, q1, q2⟩ c f => ?_, fun b b2 ⟨j, p, q1, q2⟩ ⟨k, r, q3, q4⟩ ne c f1 f2 => ?_⟩⟩
  · rcases slo q with ⟨_, z⟩ | ⟨_, z⟩
    · cases z
    · obtain ⟨u, w1, w2⟩ := E.sh j d z
      exact ⟨u, w1, w2.mono v⟩
  · rcases slo q with ⟨_, z⟩ | ⟨_, z⟩
    · cases z
    · obtain ⟨b, w1, w2, w3, w4⟩ := E.ow j d z
      have io : IsOwn σ ρ b := ⟨j, d, z, w1⟩
      exact ⟨b, w1, ownV io, veiled_p io, w4.mono v fun x e n => kp b x (ownF io) e n⟩
  · rcases slo q1 with ⟨_, z⟩ | ⟨_, z1⟩
    · cases z
    · rcases slo q2 with ⟨_, z⟩ | ⟨_, z2⟩
      · cases z
      · exact E.dis j k b d e z1 z2 q3 q4
  · rcases slo q with ⟨rfl, z⟩ | ⟨nj, z⟩
    · cases z
      exact ⟨a, h1, ⟨j, o', q, h1⟩, ba⟩
    · obtain ⟨b, w1, _⟩ := E.ob.at_ j p z
      exact ⟨b, w1, ⟨j, p, q, w1⟩, (oth nj z w1).2.1⟩
  · have old : ∀ {j : Nat} {p : Ob}, (ρ.set i (.ob o'))[j]? = some (.ob p) → ∃ p, ρ[j]? = some (.ob p) := fun {j p} q => by
      rcases slo q with ⟨rfl, _⟩ | ⟨_, z⟩
      · exact ⟨o, h0⟩
      · exact ⟨p, z⟩
    obtain ⟨p1, w1⟩ := old q1
    obtain ⟨p2, w2⟩ := old q2
    exact E.ob.dis j k b p1 p2 w1 w2 q3 q4
  · have e1 := gx.h b x e n
    have nz : G.H0 b ≠ none := by rw [e]; exact fun z => nomatch z
    have nf : ¬ Foot H a b := fun f => nz (ok.fr a oa b ((fiff b).mp f))
    rw [veiled_n (fun z => ok.ext.th b nz (own0 z).2.1)]
    exact kp b x nf e1 n
  · rw [veiled_n (fun z => by rw [ownV z] at e; cases e)]
    exact s b x e
  · rw [veiled_n (fun w => ok.ext.th b z (own0 w).2.1)]
    exact th b (fun f => z (ok.fr a oa b ((fiff b).mp f))) (gx.th b z)
  · rcases slo q1 with ⟨rfl, z⟩ | ⟨nj, z⟩
    · rw [h1] at q2
      cases q2
      rcases ft c ((fa c).mp f) with w | w
      · exact ok.fr a oa c ((fiff c).mp w)
      · cases e : G.H0 c with
        | none => rfl
        | some x => exact absurd w (gx.th c (by rw [e]; exact fun z => nomatch z))
    · obtain ⟨_, _, w⟩ := oth nj z q2
      exact ok.fr b (now z q2).1 c ((w c).mp f)
  · have key : ∀ {k : Nat} {r : Ob} {b2 : Addr} {c : Addr}, k ≠ i → ρ[k]? = some (.ob r) → σ[k]? = some (some (.ref b2)) → Foot (veiled (IsOwn σ ρ) H') a c → Foot (veiled (IsOwn σ ρ) H') b2 c → False := fun {k r b2 c} nk z q4 f1 f2 => by
      obtain ⟨nb, _, w⟩ := oth nk z q4
      obtain ⟨w2, w3, _, _⟩ := now z q4
      have f3 := (w c).mp f2
      rcases ft c ((fa c).mp f1) with y | y
      · exact ok.ds a b2 oa w2 (Ne.symm nb) c ((fiff c).mp y) f3
      · obtain ⟨x, e, _⟩ := Foot.exi w3 f3
        exact E.ext.th c (show H0 c ≠ none by rw [e]; exact fun z => nomatch z) y
    rcases slo q1 with ⟨rfl, z⟩ | ⟨nj, z⟩
    · rw [h1] at q2
      cases q2
      rcases slo q3 with ⟨rfl, _⟩ | ⟨nk, z2⟩
      · rw [h1] at q4
        cases q4
        exact ne rfl
      · exact key nk z2 q4 f1 f2
    · rcases slo q3 with ⟨rfl, _⟩ | ⟨nk, z2⟩
      · rw [h1] at q4
        cases q4
        exact key nj z q2 f2 f1
      · obtain ⟨_, _, w⟩ := oth nj z q2
        obtain ⟨_, _, w'⟩ := oth nk z2 q4
        exact ok.ds b b2 (now z q2).1 (now z2 q4).1 ne c ((w c).mp f1) ((w' c).mp f2)
end
end DL
set_option Elab.async false
set_option linter.all false
set_option maxRecDepth 100000
set_option maxHeartbeats 2000000
namespace DL
open PySem PySem.Spec PyProof.Rows L2
variable [TabCtx]
/-- what is wanted behind a statement -/
def GoalI (K : KW) (G : Fr) (V : Hp) (o : O) (D : Ends) : Prop := match o with
  | .nx ρ' => ∀ σ' H' V', EnvI K G H' V' σ' ρ' → Same V V' → D.nx σ' H'
  | .rt d ρ' => ∀ v σ' H' V', EnvI K G H' V' σ' ρ' → Same V V' → Rep K V' v d → D.rt v H'
  | .rf d ρ' => ∀ v σ' H' V', EnvI K G H' V' σ' ρ' → Same V V' → Rep K V' v d → D.rt v H'
  | .bk ρ' => ∀ σ' H' V', EnvI K G H' V' σ' ρ' → Same V V' → D.bk σ' H'
  | .ct ρ' => ∀ σ' H' V', EnvI K G H' V' σ' ρ' → Same V V' → D.ct σ' H'
  | .exc c => ∀ σ' H' V', Ext G.H0 G.V0 H' V' → G.W (.ref (He.ga K c)) σ' H'
  | .bad => False
/-- what is wanted behind an expression -/
def GoalE {α β : Type} (K : KW) (G : Fr) (σ : St) (V : Hp) (rep : Hp → β → α → Prop) (r : R (α × Rho)) (Q : β → Hp → Prop) : Prop := match r with
  | .ok (a, ρ') => ∀ b H' V', EnvI K G H' V' σ ρ' → Same V V' → rep V' b a → Q b H'
  | .exc c => ∀ H' V', Ext G.H0 G.V0 H' V' → G.W (.ref (He.ga K c)) σ H'
  | .bad => False
section
variable {K : KW} {G : Fr} {σ : St} {ρ : Rho} {H V V1 : Hp}
theorem GoalI.mono {o : O} {D : Ends} (v : Same V V1) (g : GoalI K G V o D) : GoalI K G V1 o D := by
  cases o with
  | nx ρ' => exact fun σ' H' V' E s => g σ' H' V' E (v.trans s)
  | rt d ρ' => exact fun x σ' H' V' E s => g x σ' H' V' E (v.trans s)
  | rf d ρ' => exact fun x σ' H' V' E s => g x σ' H' V' E (v.trans s)
  | bk ρ' => exact fun σ' H' V' E s => g σ' H' V' E (v.trans s)
  | ct ρ' => exact fun σ' H' V' E s => g σ' H' V' E (v.trans s)
  | exc c => exact g
  | bad => exact g
theorem GoalI.low {o : O} {D : Ends} {H0 V0 : Hp} {obs : Addr → Prop} (ok : OkI G H0 V0 obs) (g : GoalI K G V o D) : GoalS K (mkI G H0 V0 obs) V o D := by
  cases o with
  | nx ρ' => exact fun σ' H' V' E s => g σ' H' V' ⟨H0, V0, obs, E, ok⟩ s
  | rt d ρ' => exact fun x σ' H' V' E s r => g x σ' H' V' ⟨H0, V0, obs, E, ok⟩ s r
  | rf d ρ' => exact fun x σ' H' V' E s r _ => g x σ' H' V' ⟨H0, V0, obs, E, ok⟩ s r
  | bk ρ' => exact fun σ' H' V' E s => g σ' H' V' ⟨H0, V0, obs, E, ok⟩ s
  | ct ρ' => exact fun σ' H' V' E s => g σ' H' V' ⟨H0, V0, obs, E, ok⟩ s
  | exc c => exact fun σ' H' V' x => g σ' H' V' (ok.ext.trans x)
  | bad => exact g
theorem GoalE.after {α β : Type} {rep : Hp → β → α → Prop} {r : R (α × Rho)} {Q : β → Hp → Prop} (v : Same V V1) (g : GoalE K G σ V rep r Q) : GoalE K G σ V1 rep r Q := by
  cases r with
  | ok p => exact fun b H' V' E s => g b H' V' E (v.trans s)
  | exc c => exact g
  | bad => exact g
theorem GoalE.bind {α β α' β' : Type} {rep1 : Hp → β → α → Prop} {rep2 : Hp → β' → α' → Prop} {f : M α} {k : α → M α'} {Q : β' → Hp → Prop} {Q1 : β → Hp → Prop}
    (g : GoalE K G σ V rep2 (M.bind f k ρ) Q)
    (h : ∀ b a H' V' ρ', EnvI K G H' V' σ ρ' → Same V V' → rep1 V' b a → GoalE K G σ V' rep2 (k a ρ') Q → Q1 b H') : GoalE K G σ V rep1 (f ρ) Q1 := by
  unfold M.bind at g
  cases e : f ρ with
  | ok p =>
    obtain ⟨a, ρ'⟩ := p
    rw [e] at g
    exact fun b H' V' E s r => h b a H' V' ρ' E s r (GoalE.after s g)
  | exc c => rw [e] at g; exact g
  | bad => rw [e] at g; exact g
theorem GoalI.ex {α β : Type} {rep1 : Hp → β → α → Prop} {f : M α} {k : α → SM} {D : Ends} {Q1 : β → Hp → Prop}
    (g : GoalI K G V (exO f k ρ) D)
    (h : ∀ b a H' V' ρ', EnvI K G H' V' σ ρ' → Same V V' → rep1 V' b a → GoalI K G V' (k a ρ') D → Q1 b H') : GoalE K G σ V rep1 (f ρ) Q1 := by
  unfold exO at g
  cases e : f ρ with
  | ok p =>
    obtain ⟨a, ρ'⟩ := p
    rw [e] at g
    exact fun b H' V' E s r => h b a H' V' ρ' E s r (GoalI.mono s g)
  | exc c => rw [e] at g; exact fun H' V' x => g σ H' V' x
  | bad => rw [e] at g; exact g
theorem GoalE.opt {α β : Type} {rep : Hp → β → α → Prop} {Q : β → Hp → Prop} {o : Option α} (E : EnvI K G H V σ ρ) (g : GoalE K G σ V rep (M.opt o ρ) Q) : ∃ z, o = some z ∧ ∀ v H' V', Ext H V H' V' → rep V' v z → Q v H' := by
  cases o with
  | none => exact False.elim g
  | some z => exact ⟨z, rfl, fun v H' V' e r => g v H' V' (E.grow e) e.v r⟩
theorem GoalE.pure0 {α β : Type} {rep : Hp → β → α → Prop} {Q : β → Hp → Prop} {a : α} {v : β} (E : EnvI K G H V σ ρ) (g : GoalE K G σ V rep (M.pure a ρ) Q) (r : rep V v a) : Q v H := g v H V E (Same.refl _) r
theorem GoalE.low {α β : Type} {rep : Hp → β → α → Prop} {r : R (α × Rho)} {Q : β → Hp → Prop} {H0 V0 : Hp} {obs : Addr → Prop} (ok : OkI G H0 V0 obs) (g : GoalE K G σ V rep r Q) : Goal K (mkI G H0 V0 obs) σ ρ H V rep r Q := by
  cases r with
  | ok p => exact fun b H' V' st r => g b H' V' ⟨H0, V0, obs, st.env, ok⟩ st.v r
  | exc c => exact fun H' V' x => g H' V' (ok.ext.trans x)
  | bad => exact g
end
def tSI (K : KW) (G : Fr) (f : SM) : TS := fun D σ H => ∃ V ρ, EnvI K G H V σ ρ ∧ GoalI K G V (f ρ) D
def tMI (K : KW) (G : Fr) (f : M PyData) : TE := fun σ H Q => ∃ V ρ, EnvI K G H V σ ρ ∧ GoalE K G σ V (Rep K) (f ρ) Q
def tTI (K : KW) (G : Fr) (f : M Bool) : TT := fun σ H Q => ∃ V ρ, EnvI K G H V σ ρ ∧ GoalE K G σ V (fun _ b a => b = a) (f ρ) Q
def PIE (X : Cx) (G : Fr) (e : Expr) (f : M PyData) : Prop := PE X e (tMI X.kw G f)
def PIT (X : Cx) (G : Fr) (e : Expr) (f : M Bool) : Prop := PT X e (tTI X.kw G f)
def PIW (X : Cx) (G : Fr) (e : Expr) (f : M Bool) : Prop := PW X e (tTI X.kw G f)
def PIS (X : Cx) (G : Fr) (st : Stmt) (f : SM) : Prop := PS X st (tSI X.kw G f)
def PISs (X : Cx) (G : Fr) (sts : List Stmt) (f : SM) : Prop := PSs X sts (tSI X.kw G f)
section
variable {X : Cx} {G : Fr} {e a b c : Expr} {st : Stmt} {sts rest : List Stmt} {pos : Pos} {fa fb : M PyData} {ft fu : M Bool} {f g : SM}
theorem pie_up (h : ∀ H0 V0 obs, PM X (mkI G H0 V0 obs) e fa) : PIE X G e fa := ⟨fun pins s σ H Q I ⟨V, ρ, ⟨H0, V0, obs, E, ok⟩, g⟩ => (h H0 V0 obs).run pins s σ H Q I ⟨V, ρ, E, g.low ok⟩⟩
theorem pit_up (h : ∀ H0 V0 obs, PMT X (mkI G H0 V0 obs) e ft) : PIT X G e ft := ⟨fun pins s σ H Q I ⟨V, ρ, ⟨H0, V0, obs, E, ok⟩, g⟩ => (h H0 V0 obs).run pins s σ H Q I ⟨V, ρ, E, g.low ok⟩⟩
theorem pis_up (h : ∀ H0 V0 obs, PMS X (mkI G H0 V0 obs) st f) : PIS X G st f := ⟨fun pins s σ H D I ⟨V, ρ, ⟨H0, V0, obs, E, ok⟩, g⟩ => (h H0 V0 obs).run pins s σ H D I ⟨V, ρ, E, g.low ok⟩⟩
theorem pis_nil : PISs X G [] nxO := PSs.imp pss_nil fun D σ H ⟨V, ρ, E, g⟩ => g σ H V E (Same.refl _)
theorem pis_one (h : PIS X G st f) : PISs X G [st] f := pss_one h
theorem pis_cons (h1 : PIS X G st f) (h2 : PISs X G rest g) : PISs X G (st :: rest) (seqO f g) := by
  refine PSs.imp (pss_cons h1 h2) fun D σ H ⟨V, ρ, E, g0⟩ => ⟨V, ρ, E, ?_⟩
  unfold seqO at g0
  cases e : f ρ with
  | nx ρ' => rw [e] at g0; exact fun σ' H' V' E' v => ⟨V', ρ', E', GoalI.mono v g0⟩
  | rt d ρ' => rw [e] at g0; exact g0
  | rf d ρ' => rw [e] at g0; exact g0
  | bk ρ' => rw [e] at g0; exact g0
  | ct ρ' => rw [e] at g0; exact g0
  | exc c => rw [e] at g0; exact g0
  | bad => rw [e] at g0; exact g0
theorem pis_expr (h : PIE X G e fa) (hs : swapsWith e none pos.line X.env = pure false := by rfl) : PIS X G (.Expr e pos) (dropO fa) :=
  PS.imp (ps_expr h hs) fun D σ H ⟨V, ρ, E, g⟩ => ⟨V, ρ, E, GoalI.ex g fun v d H1 V1 ρ1 E1 s1 r1 g1 => g1 σ H1 V1 E1 (Same.refl _)⟩
theorem pis_ret (h : PIE X G e fa) : PIS X G (.Return (some e) pos) (retO fa) :=
  PS.imp (ps_ret h) fun D σ H ⟨V, ρ, E, g⟩ => ⟨V, ρ, E, GoalI.ex g fun v d H1 V1 ρ1 E1 s1 r1 g1 => g1 v σ H1 V1 E1 (Same.refl _) r1⟩
theorem pis_if {a b : List Stmt} (hc : PIT X G c ft) (ha : PISs X G a f) (hb : PISs X G b g) : PIS X G (.If c a b pos) (ifO ft f g) := by
  refine PS.imp (ps_if hc ha hb) fun D σ H ⟨V, ρ, E, g⟩ => ⟨V, ρ, E, GoalI.ex g fun v d H1 V1 ρ1 E1 s1 r1 g1 => ?_⟩
  subst r1
  cases v with
  | true => exact ⟨V1, ρ1, E1, g1⟩
  | false => exact ⟨V1, ρ1, E1, g1⟩
theorem tOpI_of {K : KW} {r : R2} {g : PyData → PyData → Option PyData} (od : OpD K r g) {σ : St} {H : Hp} {Q : VK} (h : tMI K G (op2 g fa fb) σ H Q) : tOp r (tMI K G fa) (tMI K G fb) σ H Q := by
  obtain ⟨V, ρ, E, g0⟩ := h
  refine ⟨V, ρ, E, GoalE.bind g0 fun x dx H1 V1 ρ1 E1 s1 r1 g1 => ⟨V1, ρ1, E1, GoalE.bind g1 fun y dy H2 V2 ρ2 E2 s2 r2 g2 => ?_⟩⟩
  obtain ⟨z, ez, q⟩ := GoalE.opt E2 g2
  exact od x y dx dy z H2 V2 Q E2.sub (r1.mono s2) r2 ez q
theorem pit_cmp {op : CmpOp} {r : R2} {g : PyData → PyData → Option PyData} (ho : OpR X (compareOp op) r) (od : OpD X.kw r g) (ha : PIE X G a fa) (hb : PIE X G b fb) (hm : behindInMarks op b = false := by first | exact nomark _ | rfl) : PIT X G (.Compare a [op] [b] pos) (tst (op2 g fa fb)) := by
  refine PT.imp (pt_cmpR ho ha hb hm) fun σ H Q h => ?_
  have h2 : tMI X.kw G (op2 g fa fb) σ H fun x H' => ∃ k, x = .bl k ∧ Q k H' := by
    obtain ⟨V, ρ, E, g0⟩ := h
    refine ⟨V, ρ, E, GoalE.bind g0 fun x dx H1 V1 ρ1 E1 s1 r1 g1 => ?_⟩
    obtain ⟨z, ez, q⟩ := GoalE.opt E1 g1
    cases r1 with
    | bl b => cases ez; exact ⟨_, rfl, q _ _ _ (Ext.refl E1.sub) rfl⟩
    | _ => cases ez
  exact tOpI_of od h2
theorem piw_or1 (ha : PIT X G a ft) : PIW X G (.BoolOp .Or [a] pos) ft := pw_or1 ha
theorem piw_or {rest : List Expr} (ha : PIT X G a ft) (hb : PIW X G (.BoolOp .Or (b :: rest) pos) fu) : PIW X G (.BoolOp .Or (a :: b :: rest) pos) (orT ft fu) := by
  refine PW.imp (pw_or ha hb) fun σ H Q ⟨V, ρ, E, g0⟩ => ⟨V, ρ, E, GoalE.bind g0 fun x dx H1 V1 ρ1 E1 s1 r1 g1 => ?_⟩
  subst r1
  cases x with
  | true => exact GoalE.pure0 E1 g1 rfl
  | false => exact ⟨V1, ρ1, E1, g1⟩
theorem pit_w (h : PIW X G e ft) : PIT X G e ft := PW.pt h
end
def tII (K : KW) (G : Fr) (f : M (List PyData)) : TI := fun σ H R => ∃ V ρ, EnvI K G H V σ ρ ∧ GoalE K G σ V (fun V' J ds => ItD K J V' ds) (f ρ) R
def tGI (K : KW) (G : Fr) (g : GM) : TG := fun v σ H Q => ∃ V ρ d, EnvI K G H V σ ρ ∧ Rep K V v d ∧ match g d ρ with
  | .ok ρ' => ∀ σ' H' V', EnvI K G H' V' σ' ρ' → Same V V' → Q σ' H'
  | .exc _ => False
  | .bad => False
def PII (X : Cx) (G : Fr) (tg iter : Expr) (f : M (List PyData)) : Prop := PI X tg iter (tII X.kw G f)
def PIG (X : Cx) (G : Fr) (tg : Expr) (g : GM) : Prop := PG X tg (tGI X.kw G g)
section
variable {X : Cx} {G : Fr} {pos : Pos} {tg iter c : Expr} {body : List Stmt} {fi : M (List PyData)} {g : GM} {ft : M Bool} {fb : SM} {is : List Nat}
theorem pii_up (h : ∀ H0 V0 obs, PMI X (mkI G H0 V0 obs) tg iter fi) : PII X G tg iter fi := ⟨fun pins s σ H R I ⟨V, ρ, ⟨H0, V0, obs, E, ok⟩, g⟩ => (h H0 V0 obs).run pins s σ H R I ⟨V, ρ, E, g.low ok⟩⟩
theorem pig_up (h : ∀ H0 V0 obs, PMG X (mkI G H0 V0 obs) tg is g) : PIG X G tg g := ⟨fun pins s σ H v w Q I r ⟨V, ρ, d, ⟨H0, V0, obs, E, ok⟩, rd, q⟩ => (h H0 V0 obs).run pins s σ H v w Q I r ⟨V, ρ, d, E, rd, by
  cases e : g d ρ with
  | ok ρ' => rw [e] at q; exact fun σ' H' V' E' x _ _ _ => q σ' H' V' ⟨H0, V0, obs, E', ok⟩ x.v
  | exc c => rw [e] at q; exact q
  | bad => rw [e] at q; exact q⟩⟩
theorem pis_for (hp : PassesOwn (model X.prog X.w) X.A X.env X.xe) (hi : PII X G tg iter fi) (hg : PIG X G tg g) (hb : PISs X G body fb) (hc : X.calm = true := by rfl)
    (hs : ∀ x, foldedSetIterable iter X.env x = pure x := by intro _; rfl) : PIS X G (.For tg iter body [] pos) (forO fi g fb) := by
  refine PS.imp (ps_for hp hc hi hg hb hs) fun D σ H ⟨V, ρ, E, g0⟩ => ⟨V, ρ, E, GoalI.ex g0 fun J ds H1 V1 ρ1 E1 s1 it g1 => ?_⟩
  refine ⟨fun i m σ' H' => m = ds.length - i ∧ i ≤ ds.length ∧ ∃ V' ρ', EnvI X.kw G H' V' σ' ρ' ∧ Same V1 V' ∧ GoalI X.kw G V' (loopO g fb (ds.drop i) ρ') D,
    ⟨ds.length, rfl, Nat.zero_le _, V1, ρ1, E1, Same.refl _, g1⟩, ?_⟩
  rintro i m σ' H' ⟨rfl, hle, V', ρ', E', sv, gl⟩
  obtain ⟨h1, h2⟩ := it i H' V' sv E'.sub
  by_cases hlt : i < ds.length
  · have hd : ds[i]? = some ds[i] := List.getElem?_eq_getElem hlt
    obtain ⟨go, yl⟩ := h1 _ hd
    rw [List.drop_eq_getElem_cons hlt] at gl
    refine .inr ⟨go, fun σ2 H2 => ∃ V2 ρ2, EnvI X.kw G H2 V2 σ2 ρ2 ∧ Same V1 V2 ∧ GoalI X.kw G V2 (loopO g fb (ds.drop (i + 1)) ρ2) D, fun σ2 H2 h => ⟨ds.length - (i + 1), by omega, rfl, hlt, h⟩, fun x H2 y => ?_⟩
    obtain ⟨V2, x2, r2⟩ := yl x H2 y
    refine ⟨V2, ρ', ds[i], E'.grow x2, r2, ?_⟩
    unfold loopO at gl
    cases eg : g ds[i] ρ' with
    | exc c => rw [eg] at gl; exact gl
    | bad => rw [eg] at gl; exact gl
    | ok ρ3 =>
      rw [eg] at gl
      intro σ3 H3 V3 E3 x3
      refine ⟨V3, ρ3, E3, ?_⟩
      have v3 : Same V' V3 := x2.v.trans x3
      have gl : GoalI X.kw G V' (match fb ρ3 with
        | .nx ρ2 => loopO g fb (ds.drop (i + 1)) ρ2
        | .ct ρ2 => loopO g fb (ds.drop (i + 1)) ρ2
        | .bk ρ2 => .nx ρ2
        | .rt x ρ2 => .rt x ρ2
        | .rf x ρ2 => .rf x ρ2
        | .exc c => .exc c
        | .bad => .bad) D := gl
      cases eb : fb ρ3 with
      | nx ρ4 => rw [eb] at gl; exact fun σ4 H4 V4 E4 v4 => ⟨V4, ρ4, E4, (sv.trans v3).trans v4, GoalI.mono (v3.trans v4) gl⟩
      | ct ρ4 => rw [eb] at gl; exact fun σ4 H4 V4 E4 v4 => ⟨V4, ρ4, E4, (sv.trans v3).trans v4, GoalI.mono (v3.trans v4) gl⟩
      | bk ρ4 => rw [eb] at gl; exact fun σ4 H4 V4 E4 v4 => gl σ4 H4 V4 E4 (v3.trans v4)
      | rt x ρ4 => rw [eb] at gl; exact fun v σ4 H4 V4 E4 v4 => gl v σ4 H4 V4 E4 (v3.trans v4)
      | rf x ρ4 => rw [eb] at gl; exact fun v σ4 H4 V4 E4 v4 => gl v σ4 H4 V4 E4 (v3.trans v4)
      | exc c => rw [eb] at gl; exact gl
      | bad => rw [eb] at gl; exact gl
  · have e : i = ds.length := by omega
    subst e
    rw [List.drop_length] at gl
    exact .inl ⟨h2 rfl, gl σ' H' V' E' (Same.refl _)⟩
end
end DL
set_option Elab.async false
set_option linter.all false
set_option maxRecDepth 100000
set_option maxHeartbeats 2000000
namespace DL
open PySem PySem.Spec PyProof.Rows L2
variable [TabCtx]
def obM {α : Type} (i : Nat) (k : Ob → R α) : M α := fun ρ => match ρ[i]? with
  | some (.ob o) => M.lift (k o) ρ
  | _ => .bad
section
variable {K : KW} {F : Fr} {H V : Hp} {σ : St} {ρ : Rho}
theorem EnvR.atO (E : EnvR K F H V σ ρ) {i : Nat} {o : Ob} (h : ρ[i]? = some (.ob o)) : ∃ a, σ[i]? = some (some (.ref a)) ∧ F.obs a ∧ ObAt K V H a o ∧ ∀ b, Foot H a b ↔ Foot F.H0 a b := by
  obtain ⟨a, h1, h2, h3⟩ := E.ob.at_ i o h
  obtain ⟨c, i0, _⟩ := h3.get
  obtain ⟨h4, h5⟩ := h3.keep (H' := H) (V' := V) (fun b x f e n => E.ext.h b x e n) E.ext.v fun b f => by
    obtain ⟨x, e, _⟩ := i0.cell f
    exact E.ext.f b (h3.hid b f) (by rw [e]; exact fun z => nomatch z)
  exact ⟨a, h1, h2, h4, h5⟩
theorem Goal.ob {α β : Type} {rep : Hp → β → α → Prop} {Q : β → Hp → Prop} {i : Nat} {k : Ob → R α} (E : EnvR K F H V σ ρ) (g : Goal K F σ ρ H V rep (obM i k ρ) Q) : ∃ o a c, ρ[i]? = some (.ob o) ∧ σ[i]? = some (some (.ref a)) ∧ ObIs K.k H a c ∧ ObRep K V c o ∧ (∀ b, Foot H a b → V b = none) ∧ Goal K F σ ρ H V rep (M.lift (k o) ρ) Q := by
  unfold obM at g
  cases e : ρ[i]? with
  | none => rw [e] at g; exact False.elim g
  | some s =>
    rw [e] at g
    cases s with
    | no => exact False.elim g
    | sh _ => exact False.elim g
    | ow _ => exact False.elim g
    | ob o =>
      obtain ⟨a, h1, _, h2, _⟩ := E.atO e
      obtain ⟨c, hc, hr⟩ := h2.get
      exact ⟨o, a, c, rfl, h1, hc, hr, h2.hid, g⟩
end
section
variable {X : Cx} {F : Fr} {x : Str} {p pos apos : Pos}
/-- o.f of shared data -/
theorem pm_fldG (i : Nat) {f : Str} {get : Ob → PyData} (RK : RunK X.K) (hf : f ∈ obNames) (hget : ∀ (V H : Hp) (a : Addr) (c : ObC) (o : Ob), ObIs X.K H a c → ObRep X.kw V c o → ∃ v, c.fs.lookup f = some v ∧ Rep X.kw V v (get o))
    (hN : X.N[i]? = some x := by rfl) (hv : Vis X.env.scope x := by first | exact Or.inl rfl | exact Or.inr (Or.inl rfl) | exact Or.inr (Or.inr rfl)) (hd : (x == ("__debug__" : Str)) = false := by decide) (hcd : (x == ("__classdict__" : Str)) = false := by decide)
    (hb : attributeBase (.Name x p) f X.env (eval (.Name x p) X.env) = eval (.Name x p) X.env := by rfl) : PM X F (.Attribute (.Name x p) f pos) (obM i fun o => .ok (get o)) := by
  refine PE.imp (pe_fld (pe_var hN hv hd hcd) hb) fun σ H Q ⟨V, ρ, E, g⟩ => ?_
  obtain ⟨o, a, c, h0, h1, ic, rc, hid, g⟩ := Goal.ob E g
  obtain ⟨v, l, r⟩ := hget V H a c o ic rc
  exact ⟨.ref a, h1, a, aRun X.K, c.dx, c.fs, v, rfl, ic.ins, RK.cls, RK.no f hf, l, g v H V E.refl r⟩
theorem pm_crew (i : Nat) (RK : RunK X.K) (hN : X.N[i]? = some x := by rfl) (hv : Vis X.env.scope x := by first | exact Or.inl rfl | exact Or.inr (Or.inl rfl) | exact Or.inr (Or.inr rfl)) (hd : (x == ("__debug__" : Str)) = false := by decide) (hcd : (x == ("__classdict__" : Str)) = false := by decide)
    (hb : attributeBase (.Name x p) "crew" X.env (eval (.Name x p) X.env) = eval (.Name x p) X.env := by rfl) : PM X F (.Attribute (.Name x p) "crew" pos) (obM i fun o => .ok o.crew) :=
  pm_fldG i RK (by decide) (fun V H a c o ic rc => ⟨_, ic.f2, rc.crew⟩) hN hv hd hcd hb
theorem pm_stand (i : Nat) (RK : RunK X.K) (hN : X.N[i]? = some x := by rfl) (hv : Vis X.env.scope x := by first | exact Or.inl rfl | exact Or.inr (Or.inl rfl) | exact Or.inr (Or.inr rfl)) (hd : (x == ("__debug__" : Str)) = false := by decide) (hcd : (x == ("__classdict__" : Str)) = false := by decide)
    (hb : attributeBase (.Name x p) "stand" X.env (eval (.Name x p) X.env) = eval (.Name x p) X.env := by rfl) : PM X F (.Attribute (.Name x p) "stand" pos) (obM i fun o => .ok o.stand) :=
  pm_fldG i RK (by decide) (fun V H a c o ic rc => ⟨_, ic.f3, rc.stand⟩) hN hv hd hcd hb
/-- the list that a field is -/
structure LF (f : Str) where
  get : Ob → List PyData
  adr : ObC → Addr
  vs : ObC → List L2.V
  mem : f ∈ obNames
  look : ∀ {K : PySem.W.Frag} {H : Hp} {a : Addr} {c : ObC}, ObIs K H a c → c.fs.lookup f = some (.ref (adr c))
  cell : ∀ {K : PySem.W.Frag} {H : Hp} {a : Addr} {c : ObC}, ObIs K H a c → H (adr c) = some (.lst (vs c)) ∧ Foot H a (adr c)
  rep : ∀ {K : KW} {V : Hp} {c : ObC} {o : Ob}, ObRep K V c o → RepL K V (vs c) (get o)
def lfSung : LF "sung" := ⟨Ob.sung, ObC.ls, ObC.xs, by decide, fun i => i.f4, fun i => ⟨i.l1, i.foot.mpr (.inr (.inr (.inl rfl)))⟩, fun r => r.sung⟩
def lfDeeds : LF "deeds" := ⟨Ob.deeds, ObC.ld, ObC.ys, by decide, fun i => i.f5, fun i => ⟨i.l2, i.foot.mpr (.inr (.inr (.inr (.inl rfl))))⟩, fun r => r.deeds⟩
def lfPast : LF "past" := ⟨Ob.past, ObC.lp, ObC.zs, by decide, fun i => i.f6, fun i => ⟨i.l3, i.foot.mpr (.inr (.inr (.inr (.inr rfl))))⟩, fun r => r.past⟩
/-- o.f, a list: what is asked of it -/
def tLf (K : PySem.W.Frag) {f : Str} (L : LF f) (i : Nat) : TE := fun σ H Q => ∃ a c, σ[i]? = some (some (.ref a)) ∧ ObIs K H a c ∧ Q (.ref (L.adr c)) H
theorem pe_lf (i : Nat) {f : Str} (L : LF f) (RK : RunK X.K) (hN : X.N[i]? = some x) (hv : Vis X.env.scope x) (hd : (x == ("__debug__" : Str)) = false) (hcd : (x == ("__classdict__" : Str)) = false) (hb : attributeBase (.Name x p) f X.env (eval (.Name x p) X.env) = eval (.Name x p) X.env) :
    PE X (.Attribute (.Name x p) f pos) (tLf X.K L i) :=
  PE.imp (pe_fld (pe_var hN hv hd hcd) hb) fun σ H Q ⟨a, c, h1, ic, q⟩ => ⟨.ref a, h1, a, aRun X.K, c.dx, c.fs, .ref (L.adr c), rfl, ic.ins, RK.cls, RK.no f L.mem, L.look ic, q⟩
/-- len(o.f) -/
theorem pm_lenF (i : Nat) {f : Str} {p2 : Pos} (L : LF f) (RK : RunK X.K) (hz : X.mg "len" = none) (hN : X.N[i]? = some x := by rfl) (hv : Vis X.env.scope x := by first | exact Or.inl rfl | exact Or.inr (Or.inl rfl) | exact Or.inr (Or.inr rfl)) (hd : (x == ("__debug__" : Str)) = false := by decide) (hcd : (x == ("__classdict__" : Str)) = false := by decide)
    (hb : attributeBase (.Name x p) f X.env (eval (.Name x p) X.env) = eval (.Name x p) X.env := by rfl) (hg : Gl X "len" := by rfl)
    (he : starEach [.Attribute (.Name x p) f apos] X.env = (false, eval (.Attribute (.Name x p) f apos) X.env) :: starEach [] X.env := by rfl) (hpl : (backTo pos (starEach [] X.env)).any (·.1) = false := by rfl) :
    PM X F (.Call (.Name "len" p2) [.Attribute (.Name x p) f apos] [] pos) (obM i fun o => .ok (.int ((L.get o).length : Nat))) := by
  refine PE.imp (pe_callB call_len hg hz (by decide +kernel) (pa_cons (pe_lf i L RK hN hv hd hcd hb) pa_nil he) (by decide) (by decide) he hpl) fun σ H Q ⟨V, ρ, E, g⟩ => ?_
  obtain ⟨o, a, c, h0, h1, ic, rc, hid, g⟩ := Goal.ob E g
  refine ⟨a, c, h1, ic, .ref (L.adr c), (L.vs c).length, rfl, .inl ⟨L.vs c, .inl (.inl (L.cell ic).1), rfl⟩, ?_⟩
  rw [(L.rep rc).length]
  exact g _ H V E.refl (.int _)
/-- list(o.f) -/
theorem pm_listF (i : Nat) {f : Str} {p2 : Pos} (L : LF f) (RK : RunK X.K) (hz : X.mg "list" = none) (hN : X.N[i]? = some x := by rfl) (hv : Vis X.env.scope x := by first | exact Or.inl rfl | exact Or.inr (Or.inl rfl) | exact Or.inr (Or.inr rfl)) (hd : (x == ("__debug__" : Str)) = false := by decide) (hcd : (x == ("__classdict__" : Str)) = false := by decide)
    (hb : attributeBase (.Name x p) f X.env (eval (.Name x p) X.env) = eval (.Name x p) X.env := by rfl) (hg : Gl X "list" := by rfl)
    (he : starEach [.Attribute (.Name x p) f apos] X.env = (false, eval (.Attribute (.Name x p) f apos) X.env) :: starEach [] X.env := by rfl) (hpl : (backTo pos (starEach [] X.env)).any (·.1) = false := by rfl) :
    PM X F (.Call (.Name "list" p2) [.Attribute (.Name x p) f apos] [] pos) (obM i fun o => .ok (.list (L.get o))) := by
  refine PE.imp (pe_callTy call_list_of hg hz (by decide +kernel) (pa_cons (pe_lf i L RK hN hv hd hcd hb) pa_nil he) (by decide) (by decide) he hpl) fun σ H Q ⟨V, ρ, E, g⟩ => ?_
  obtain ⟨o, a, c, h0, h1, ic, rc, hid, g⟩ := Goal.ob E g
  refine ⟨a, c, h1, ic, L.adr c, L.vs c, rfl, .inl (.inl (.inl (L.cell ic).1)), fun l hl => ?_⟩
  have xn := Ext.new (o := .lst (L.vs c)) E.sub hl
  exact g _ _ _ (E.step xn) (.lst upd_same ((L.rep rc).mono xn.v))
def onlyB : PyData → Option PyData
  | .bool b => some (.bool b)
  | _ => none
/-- o.f compared -/
def cmpS (get : Ob → List PyData) (i : Nat) (g : PyData → PyData → Option PyData) (b : M PyData) : M PyData := M.bind (obM i fun o => .ok (.list (get o))) fun x => M.bind b fun y => M.opt ((g x y).bind onlyB)
abbrev cmpF {f : Str} (L : LF f) (i : Nat) (g : PyData → PyData → Option PyData) (b : M PyData) : M PyData := cmpS L.get i g b
theorem EnvR.footOwn {K : KW} {F : Fr} {H V : Hp} {σ : St} {ρ : Rho} (E : EnvR K F H V σ ρ) {i : Nat} {o : Ob} {a b : Addr} (h : ρ[i]? = some (.ob o)) (h1 : σ[i]? = some (some (.ref a))) (f : Foot H a b) : ¬ IsOwn σ ρ b := fun z => by
  obtain ⟨a', w1, _, w3⟩ := E.ob.at_ i o h
  rw [h1] at w1
  cases w1
  obtain ⟨a2, q1, _, _, q4⟩ := E.atO h
  rw [h1] at q1
  cases q1
  obtain ⟨c, ic, _⟩ := w3.get
  obtain ⟨y, e, _⟩ := ic.cell ((q4 b).mp f)
  rw [(E.own_at z).2.1] at e; cases e
theorem pt_cmpF (i : Nat) {f : Str} {b : Expr} {fb : M PyData} {op : CmpOp} {r : R2} {g : PyData → PyData → Option PyData} (L : LF f) (RK : RunK X.K) (ho : OpR X (compareOp op) r) (od : OpD X.kw r g) (hb2 : PM X F b fb)
    (hN : X.N[i]? = some x := by rfl) (hv : Vis X.env.scope x := by first | exact Or.inl rfl | exact Or.inr (Or.inl rfl) | exact Or.inr (Or.inr rfl)) (hd : (x == ("__debug__" : Str)) = false := by decide) (hcd : (x == ("__classdict__" : Str)) = false := by decide)
    (hb : attributeBase (.Name x p) f X.env (eval (.Name x p) X.env) = eval (.Name x p) X.env := by rfl) (hm : behindInMarks op b = false := by first | exact nomark _ | rfl) : PMT X F (.Compare (.Attribute (.Name x p) f apos) [op] [b] pos) (tst (cmpF L i g fb)) := by
  refine PT.imp (pt_cmpR ho (pe_lf i L RK hN hv hd hcd hb) hb2 hm) fun σ H Q ⟨V, ρ, E, g0⟩ => ?_
  have g0 : Goal X.kw F σ ρ H V (fun _ (b : Bool) a => b = a) (M.bind (M.bind (obM i fun o => .ok (.list (L.get o))) fun x => M.bind fb fun y => M.opt ((g x y).bind onlyB)) (fun x => M.opt (asB x)) ρ) Q := g0
  unfold M.bind at g0
  unfold obM at g0
  cases e : ρ[i]? with
  | none => rw [e] at g0; exact False.elim g0
  | some s =>
    rw [e] at g0
    cases s with
    | no => exact False.elim g0
    | sh _ => exact False.elim g0
    | ow _ => exact False.elim g0
    | ob o =>
      obtain ⟨a, h1, _, h2, h3⟩ := E.atO e
      obtain ⟨c, ic, rc⟩ := h2.get
      refine ⟨a, c, h1, ic, V, ρ, E, ?_⟩
      unfold M.lift at g0
      simp only at g0
      cases eb : fb ρ with
      | exc cc => rw [eb] at g0; exact g0
      | bad => rw [eb] at g0; exact g0
      | ok pr =>
        obtain ⟨dy, ρ2⟩ := pr
        rw [eb] at g0
        intro y H2 V2 st2 ry
        have nl := E.footOwn e h1 (L.cell ic).2
        have hl2 : H2 (L.adr c) = some (.lst (L.vs c)) := st2.keep _ _ (L.cell ic).1 plain_lst.t nl
        have vl : V2 (L.adr c) = none := st2.f _ (h2.hid _ (L.cell ic).2) (by rw [(L.cell ic).1]; exact fun z => nomatch z)
        have sv : Same V2 (upd V2 (L.adr c) (.lst (L.vs c))) := same_new vl
        have sh : Same (upd V2 (L.adr c) (.lst (L.vs c))) H2 := fun b u e => by
          by_cases hb : b = L.adr c
          · subst hb; rw [upd_same] at e; cases e; exact hl2
          · rw [upd_ne hb] at e; exact st2.env.sub b u e
        unfold M.opt at g0
        simp only at g0
        cases ez : g (.list (L.get o)) dy with
        | none => rw [ez] at g0; exact False.elim g0
        | some z =>
          rw [ez] at g0
          cases z with
          | bool bb =>
            refine od (.ref (L.adr c)) y (.list (L.get o)) dy (.bool bb) H2 _ _ sh (.lst upd_same ((L.rep rc).mono (st2.v.trans sv))) (ry.mono sv) ez fun v H3 V3 x3 r3 => ?_
            cases r3
            refine ⟨bb, rfl, ?_⟩
            have x4 : Ext H2 V2 H3 V2 := ⟨x3.h, Same.refl _, fun b u e => x3.s b u (x3.v b u (sv b u e)), fun _ h _ => h, x3.th, x3.t⟩
            exact g0 bb H3 V2 (st2.trans (st2.env.step x4)) rfl
          | _ => exact False.elim g0
end
end DL
set_option Elab.async false
set_option linter.all false
set_option maxRecDepth 100000
set_option maxHeartbeats 2000000
namespace DL
open PySem PySem.Spec PyProof.Rows L2
variable [TabCtx]
/-- the heap without a running song's cells -/
noncomputable def hideF (H : Hp) (a : Addr) : Hp := veiled (Foot H a) H
theorem hideF_same {H : Hp} {a : Addr} : Same (hideF H a) H := veil_same
theorem hideF_none {H : Hp} {a b : Addr} (h : hideF H a b = none) : Foot H a b ∨ H b = none := by
  by_cases f : Foot H a b
  · exact .inl f
  · right; unfold hideF at h; rw [veiled_n f] at h; exact h
theorem hideF_n {H : Hp} {a b : Addr} (h : ¬ Foot H a b) : hideF H a b = H b := veiled_n h
theorem hideF_p {H : Hp} {a b : Addr} (h : Foot H a b) : hideF H a b = none := veiled_p h
section
variable {K : KW} {H V H' V' : Hp} {a : Addr} {o : Ob}
theorem tabs_hideF (h : ObAt K V H a o) (t : LamX.Tabs TBS H) : LamX.Tabs TBS (hideF H a) := tabs_veil (fun b f x e => by
  obtain ⟨y, e2, _, p⟩ := Foot.exi h f
  rw [e] at e2; cases e2; exact p) t
theorem Ext.hideF (x : Ext H V H' V') : Ext (hideF H a) V H' V' :=
  ⟨fun b o e n => x.h b o (hideF_same b o e) n, x.v, x.s, fun b h1 h2 => x.f b h1 (fun z => h2 (by
    cases e : DL.hideF H a b with
    | none => rfl
    | some y => rw [hideF_same b y e] at z; cases z)), fun b h => x.th b (fun z => h (by
    cases e : DL.hideF H a b with
    | none => rfl
    | some y => rw [hideF_same b y e] at z; cases z)), fun t => x.t (t.ext hideF_same)⟩
end
def startO (n : Nat) (o : Ob) (ds : List PyData) : Rho := .ob o :: (ds.map .sh ++ List.replicate (n - 1 - ds.length) .no)
/-- what is changed, or not yet -/
inductive OA where
  | a (o : O)
  | b (o : O)
abbrev SA := Rho → OA
abbrev mkO (H V : Hp) (a : Addr) (E : XK) : Fr := ⟨H, V, some a, fun cls _ H' => E cls none H', 0, fun b => b = a⟩
noncomputable abbrev mkG (H V : Hp) (a : Addr) : Fr := ⟨hideF H a, V, some a, fun _ _ _ => False, 0, fun _ => False⟩
section
variable {K : KW} {H V H1 V1 : Hp} {a : Addr} {o : Ob} {E : XK} {σ : St} {ρ : Rho}
theorem env_ob {vs : List L2.V} {ds : List PyData} (r : RepL K V vs ds) {N : List Str} (hle : vs.length + 1 ≤ N.length) (s : Same V H) (ho : ObAt K V H a o) (ht : TabV H V) : EnvR K (mkO H V a E) H V (L2.start N (.ref a :: vs)) (startO N.length o ds) := by
  have hl := r.length
  have f : ∀ {i : Nat} {t : Sl}, (startO N.length o ds)[i]? = some t → (i = 0 ∧ t = .ob o) ∨ (∃ j d, i = j + 1 ∧ ds[j]? = some d ∧ t = .sh d) ∨ t = .no := fun {i t} h => by
    unfold startO at h
    cases i with
    | zero => exact .inl ⟨rfl, (Option.some.inj h).symm⟩
    | succ j =>
      rw [List.getElem?_cons_succ] at h
      by_cases hi : j < ds.length
      · rw [List.getElem?_append_left (by simpa using hi), List.getElem?_map] at h
        obtain ⟨d', h1, h2⟩ := Option.map_eq_some_iff.mp h
        exact .inr (.inl ⟨j, d', rfl, h1, h2.symm⟩)
      · rw [List.getElem?_append_right (by simpa using hi), List.getElem?_replicate] at h
        split at h
        · exact .inr (.inr (Option.some.inj h).symm)
        · cases h
  refine ⟨?_, Ext.refl s, fun i d h => ?_, fun i d h => ?_, fun i j b d e h1 h2 _ _ => ?_, fun b h => ?_, ht, ⟨fun i p h => ?_, fun i j b p q h1 h2 _ _ => ?_⟩⟩
  · simp only [L2.start, startO, List.length_append, List.length_map, List.length_cons, List.length_replicate, hl]
    omega
  · rcases f h with ⟨_, z⟩ | ⟨j, d', rfl, hj, z⟩ | z
    · cases z
    · cases z
      obtain ⟨v, h3, h4⟩ := r.get j hj
      refine ⟨v, ?_, h4⟩
      unfold L2.start
      have hj' : j < vs.length := (List.getElem?_eq_some_iff.mp h3).1
      rw [List.getElem?_append_left (by simp only [List.length_map, List.length_cons]; omega), List.getElem?_map, List.getElem?_cons_succ, h3]
      rfl
    · cases z
  · rcases f h with ⟨_, z⟩ | ⟨_, _, _, _, z⟩ | z <;> cases z
  · rcases f h1 with ⟨_, z⟩ | ⟨_, _, _, _, z⟩ | z <;> cases z
  · cases h
    rfl
  · rcases f h with ⟨rfl, z⟩ | ⟨_, _, _, _, z⟩ | z
    · cases z
      exact ⟨a, rfl, rfl, ho⟩
    · cases z
    · cases z
  · rcases f h1 with ⟨rfl, _⟩ | ⟨_, _, _, _, z⟩ | z
    · rcases f h2 with ⟨rfl, _⟩ | ⟨_, _, _, _, z⟩ | z
      · rfl
      · cases z
      · cases z
    · cases z
    · cases z
/-- from here on the running song may change -/
theorem EnvR.toI (Ee : EnvR K (mkO H V a E) H1 V1 σ ρ) (ho : ObAt K V H a o) (s : Same V H) : EnvI K (mkG H V a) H1 V1 σ ρ := by
  refine ⟨H, V, fun b => b = a, ⟨Ee.len, Ee.ext, Ee.sh, Ee.ow, Ee.dis, Ee.lent, Ee.tab, ⟨Ee.ob.at_, Ee.ob.dis⟩⟩, ⟨⟨fun b u e _ => hideF_same b u e, Same.refl _, s, fun b h _ => h, fun b h z => h (by
    cases e : hideF H a b with
    | none => exact e
    | some y => rw [hideF_same b y e] at z; cases z), fun t => t.ext hideF_same⟩, fun b hb c f => ?_, fun b c hb hc ne => absurd (hb.trans hc.symm) ne⟩⟩
  subst hb
  exact hideF_p f
end
def GoalA (K : KW) (F : Fr) (G : Fr) (V : Hp) (o : OA) (D : Ends) : Prop := match o with
  | .a o => GoalS K F V o D
  | .b o => GoalI K G V o D
theorem GoalA.mono {K : KW} {F G : Fr} {V V1 : Hp} {o : OA} {D : Ends} (v : Same V V1) (g : GoalA K F G V o D) : GoalA K F G V1 o D := by
  cases o with
  | a o => exact GoalS.mono v g
  | b o => exact GoalI.mono v g
def tSA (K : KW) (F G : Fr) (f : SA) : TS := fun D σ H => ∃ V ρ, EnvR K F H V σ ρ ∧ GoalA K F G V (f ρ) D
def PIA (X : Cx) (F G : Fr) (sts : List Stmt) (f : SA) : Prop := PSs X sts (tSA X.kw F G f)
def toB (f : SM) : SA := fun ρ => .b (f ρ)
def seqA (f : SM) (g : SA) : SA := fun ρ => match f ρ with
  | .nx ρ' => g ρ'
  | o => .a o
section
variable {X : Cx} {F G : Fr} {st : Stmt} {sts rest : List Stmt} {f : SM} {g : SA}
theorem pia_cons (h1 : PMS X F st f) (h2 : PIA X F G rest g) : PIA X F G (st :: rest) (seqA f g) := by
  refine PSs.imp (pss_cons h1 h2) fun D σ H ⟨V, ρ, E, g0⟩ => ⟨V, ρ, E, ?_⟩
  unfold seqA at g0
  cases e : f ρ with
  | nx ρ' => rw [e] at g0; exact fun σ' H' V' E' v => ⟨V', ρ', E', GoalA.mono v g0⟩
  | rt d ρ' => rw [e] at g0; exact g0
  | rf d ρ' => rw [e] at g0; exact g0
  | bk ρ' => rw [e] at g0; exact g0
  | ct ρ' => rw [e] at g0; exact g0
  | exc c => rw [e] at g0; exact g0
  | bad => rw [e] at g0; exact g0
theorem pia_toB {H V : Hp} {a : Addr} {o : Ob} {E : XK} {K : KW} (hk : X.kw = K) (ho : ObAt K V H a o) (s : Same V H) (h : PISs X (mkG H V a) sts f) : PIA X (mkO H V a E) (mkG H V a) sts (toB f) := by
  subst hk
  exact PSs.imp h fun D σ H1 ⟨V1, ρ, Ee, g0⟩ => ⟨V1, ρ, Ee.toI ho s, g0⟩
end
def endO (ρ : Rho) (d : PyData) : R (PyData × Ob) := match ρ[0]? with
  | some (Sl.ob o) => .ok (d, o)
  | _ => .bad
def fnRunI (k n : Nat) (f : SA) (o : Ob) (ds : List PyData) : R (PyData × Ob) := if ds.length = k then (match f (startO n o ds) with
  | .a (.rt d ρ) => endO ρ d
  | .a (.rf d ρ) => endO ρ d
  | .a (.nx ρ) => endO ρ .none
  | .a (.exc c) => .exc c
  | .b (.rt d ρ) => endO ρ d
  | .b (.nx ρ) => endO ρ .none
  | _ => .bad) else .bad
def spI (K : KW) (n : Nat) (m : Ob → List PyData → R (PyData × Ob)) : Sp := fun vs H Q E => vs.length = n ∧ ∃ a vs' V o ds, TabV H V ∧ vs = .ref a :: vs' ∧ Same V H ∧ ObAt K V H a o ∧ RepL K V vs' ds ∧ match m o ds with
  | .ok (d, o') => ∀ v H' V', Ext (hideF H a) V H' V' → ObAt K V' H' a o' → (∀ b, Foot H' a b → Foot H a b ∨ H b = none) → Rep K V' v d → Q v H'
  | .exc c => ∀ H' V', Ext H V H' V' → E (.ref (He.ga K c)) none H'
  | .bad => False
/-- a def, a method at f -/
def FnI (P : Program) (w : World) (K : PySem.W.Frag) (mg : Str → Option Value) (base : Heap) (lvl : Nat) (f : Addr) (ps : List Str) (m : Ob → List PyData → R (PyData × Ob)) : Prop :=
  ∃ fd, FnOk P w K mg base (L2N.CX P w) lvl f fd ps (spI ⟨K, w⟩ ps.length m) ∧ Binds K fd ps [] ∧ ∀ o ds, m o ds ≠ .bad → ds.length + 1 = ps.length
/-- .. that changes nothing -/
def fnRunO (k n : Nat) (f : SM) (o : Ob) (ds : List PyData) : R PyData := if ds.length = k then (match f (startO n o ds) with
  | .rt d _ => .ok d
  | .rf d _ => .ok d
  | .nx _ => .ok .none
  | .exc c => .exc c
  | _ => .bad) else .bad
def spO (K : KW) (n : Nat) (m : Ob → List PyData → R PyData) : Sp := fun vs H Q E => vs.length = n ∧ ∃ a vs' V o ds, TabV H V ∧ vs = .ref a :: vs' ∧ Same V H ∧ ObAt K V H a o ∧ RepL K V vs' ds ∧ match m o ds with
  | .ok d => ∀ v H' V', Ext H V H' V' → Rep K V' v d → Q v H'
  | .exc c => ∀ H' V', Ext H V H' V' → E (.ref (He.ga K c)) none H'
  | .bad => False
def FnO (P : Program) (w : World) (K : PySem.W.Frag) (mg : Str → Option Value) (base : Heap) (lvl : Nat) (f : Addr) (ps : List Str) (m : Ob → List PyData → R PyData) : Prop :=
  ∃ fd, FnOk P w K mg base (L2N.CX P w) lvl f fd ps (spO ⟨K, w⟩ ps.length m) ∧ Binds K fd ps [] ∧ ∀ o ds, m o ds ≠ .bad → ds.length + 1 = ps.length
section
variable {P : Program} {w : World} {K : PySem.W.Frag} {mg : Str → Option Value} {base : Heap} {x q : Str} {params : Arguments} {body : List Stmt} {scope : Scope} {fd : FuncData} {f0 : Addr}
abbrev cxM (P : Program) (w : World) (K : PySem.W.Frag) (mg : Str → Option Value) (base : Heap) (N : List Str) (q : Str) (scope : Scope) (f : Addr) (cdv : Value) (A : Around) (outer : List Env) (s : Shared) (H : Hp) (E : XK) : Cx := cxOf (L2N.CX P w) P w K mg base N q scope f cdv A outer s H E
theorem tk_m {N : List Str} {cdv : Value} {A : Around} {outer : List Env} {s : Shared} {H : Hp} {E : XK} {H0 V0 : Hp} {a : Addr} : Tk (cxM P w K mg base N q scope f0 cdv A outer s H E) (mkO H0 V0 a E) := by
  have t : L2N.Takes (cxM P w K mg base N q scope f0 cdv A outer s H E) (fun cls d _ H' => E cls d H') := L2N.takes_of rfl rfl rfl rfl
  refine t.imp fun c d σ H' ⟨h1, h2⟩ => ?_
  rw [h1]
  exact h2
theorem fn_mkO {N ps : List Str} {k : Nat} {f : SM} (D : FunD K x q params body scope [] [] f0 fd) (S : FnScope N ps scope)
    (hbd : ∀ (kV doc pm : Value) (an : Option Addr) (cdv ct : Value) (us : List Value), us.length = ps.length → bindArgs (PySem.W.fnOf x q params body scope .none kV doc pm an cdv ct) ⟨us, []⟩ = pure (ps.zip us))
    (hps : ps.length ≤ N.length) (hp0 : 0 < ps.length)
    (hb : ∀ (cdv : Value) (A : Around) (outer : List Env) (s : Shared) (H V : Hp) (a : Addr) (E : XK), Room k (A.deeper (envOfC q scope s.heap.objs.size f0 cdv)) → PMSs (cxM P w K mg base N q scope f0 cdv A outer s H E) (mkO H V a E) body f) :
    FnO P w K mg base (k + 1) f0 ps (fnRunO (ps.length - 1) N.length f) := by
  refine ⟨fd, D.ok (CX := L2N.CX P w) S (fun vs H Q E h => h.1) fun cdv A outer s H vs Q E hr h => ?_, D.bindsN hbd, fun o ds h => ?_⟩
  · obtain ⟨hl, a, vs', V, o, ds, ht, rfl, sv, ho, r, g⟩ := h
    rw [List.length_cons] at hl
    refine ⟨_, hb cdv A outer s H V a E hr, V, startO N.length o ds, env_ob r (by omega) sv ho ht, ?_⟩
    unfold fnRunO at g
    rw [if_pos (by rw [← r.length]; omega)] at g
    show GoalS ⟨K, w⟩ (mkO H V a E) V (f (startO N.length o ds)) _
    cases e : f (startO N.length o ds) with
    | rt d ρ' => rw [e] at g; exact fun v σ' H' V' E' _ r' => g v H' V' E'.ext r'
    | rf d ρ' => rw [e] at g; exact fun v σ' H' V' E' _ r' _ => g v H' V' E'.ext r'
    | nx ρ' => rw [e] at g; exact fun σ' H' V' E' _ => g .non H' V' E'.ext .non
    | exc c => rw [e] at g; exact fun σ' H' V' x => g H' V' x
    | bk ρ' => rw [e] at g; exact False.elim g
    | ct ρ' => rw [e] at g; exact False.elim g
    | bad => rw [e] at g; exact False.elim g
  · unfold fnRunO at h
    by_cases hl : ds.length = ps.length - 1
    · omega
    · rw [if_neg hl] at h; exact absurd rfl h
theorem fn_mkI {N ps : List Str} {k : Nat} {f : SA} (D : FunD K x q params body scope [] [] f0 fd) (S : FnScope N ps scope)
    (hbd : ∀ (kV doc pm : Value) (an : Option Addr) (cdv ct : Value) (us : List Value), us.length = ps.length → bindArgs (PySem.W.fnOf x q params body scope .none kV doc pm an cdv ct) ⟨us, []⟩ = pure (ps.zip us))
    (hps : ps.length ≤ N.length) (hp0 : 0 < ps.length)
    (hb : ∀ (cdv : Value) (A : Around) (outer : List Env) (s : Shared) (H V : Hp) (a : Addr) (E : XK) (o : Ob), ObAt ⟨K, w⟩ V H a o → Same V H → Room k (A.deeper (envOfC q scope s.heap.objs.size f0 cdv)) → PIA (cxM P w K mg base N q scope f0 cdv A outer s H E) (mkO H V a E) (mkG H V a) body f) :
    FnI P w K mg base (k + 1) f0 ps (fnRunI (ps.length - 1) N.length f) := by
  refine ⟨fd, D.ok (CX := L2N.CX P w) S (fun vs H Q E h => h.1) fun cdv A outer s H vs Q E hr h => ?_, D.bindsN hbd, fun o ds h => ?_⟩
  · obtain ⟨hl, a, vs', V, o, ds, ht, rfl, sv, ho, r, g⟩ := h
    rw [List.length_cons] at hl
    refine ⟨_, hb cdv A outer s H V a E o ho sv hr, V, startO N.length o ds, env_ob r (by omega) sv ho ht, ?_⟩
    unfold fnRunI at g
    rw [if_pos (by rw [← r.length]; omega)] at g
    show GoalA ⟨K, w⟩ (mkO H V a E) (mkG H V a) V (f (startO N.length o ds)) _
    have finA : ∀ {v : L2.V} {d : PyData} {ρ' : Rho} {σ' : St} {H' V' : Hp}, EnvR ⟨K, w⟩ (mkO H V a E) H' V' σ' ρ' → Rep ⟨K, w⟩ V' v d → (match endO ρ' d with
      | .ok (d, o') => ∀ v H' V', Ext (hideF H a) V H' V' → ObAt ⟨K, w⟩ V' H' a o' → (∀ b, Foot H' a b → Foot H a b ∨ H b = none) → Rep ⟨K, w⟩ V' v d → Q v H'
      | .exc c => ∀ H' V', Ext H V H' V' → E (.ref (He.ga K c)) none H'
      | .bad => False) → Q v H' := fun {v d ρ' σ' H' V'} E' r' g => by
      unfold endO at g
      cases e0 : ρ'[0]? with
      | none => rw [e0] at g; exact False.elim g
      | some t =>
        rw [e0] at g
        cases t with
        | no => exact False.elim g
        | sh d => exact False.elim g
        | ow d => exact False.elim g
        | ob o' =>
          obtain ⟨b, q1, _, q3, q4⟩ := E'.atO e0
          have eb : b = a := by
            have := E'.lent a rfl
            rw [q1] at this
            exact L2.V.ref.inj (Option.some.inj (Option.some.inj this))
          subst eb
          exact g v H' V' E'.ext.hideF q3 (fun c f => .inl ((q4 c).mp f)) r'
    have finB : ∀ {v : L2.V} {d : PyData} {ρ' : Rho} {σ' : St} {H' V' : Hp}, EnvI ⟨K, w⟩ (mkG H V a) H' V' σ' ρ' → Rep ⟨K, w⟩ V' v d → (match endO ρ' d with
      | .ok (d, o') => ∀ v H' V', Ext (hideF H a) V H' V' → ObAt ⟨K, w⟩ V' H' a o' → (∀ b, Foot H' a b → Foot H a b ∨ H b = none) → Rep ⟨K, w⟩ V' v d → Q v H'
      | .exc c => ∀ H' V', Ext H V H' V' → E (.ref (He.ga K c)) none H'
      | .bad => False) → Q v H' := fun {v d ρ' σ' H' V'} E' r' g => by
      unfold endO at g
      cases e0 : ρ'[0]? with
      | none => rw [e0] at g; exact False.elim g
      | some t =>
        rw [e0] at g
        cases t with
        | no => exact False.elim g
        | sh d => exact False.elim g
        | ow d => exact False.elim g
        | ob o' =>
          obtain ⟨b, q1, q3, q4⟩ := E'.at_ e0
          have eb : b = a := by
            obtain ⟨H0, V0, obs, E2, _⟩ := E'
            have := E2.lent a rfl
            rw [q1] at this
            exact L2.V.ref.inj (Option.some.inj (Option.some.inj this))
          subst eb
          exact g v H' V' E'.ext q3 (fun c f => hideF_none (q4 c f)) r'
    cases e : f (startO N.length o ds) with
    | a oo =>
      rw [e] at g
      cases oo with
      | rt d ρ' => exact fun v σ' H' V' E' _ r' => finA E' r' g
      | rf d ρ' => exact fun v σ' H' V' E' _ r' _ => finA E' r' g
      | nx ρ' => exact fun σ' H' V' E' _ => finA E' .non g
      | exc c => exact fun σ' H' V' x => g H' V' x
      | bk ρ' => exact False.elim g
      | ct ρ' => exact False.elim g
      | bad => exact False.elim g
    | b oo =>
      rw [e] at g
      cases oo with
      | rt d ρ' => exact fun v σ' H' V' E' _ r' => finB E' r' g
      | rf d ρ' => exact False.elim g
      | nx ρ' => exact fun σ' H' V' E' _ => finB E' .non g
      | exc c => exact False.elim g
      | bk ρ' => exact False.elim g
      | ct ρ' => exact False.elim g
      | bad => exact False.elim g
  · unfold fnRunI at h
    by_cases hl : ds.length = ps.length - 1
    · omega
    · rw [if_neg hl] at h; exact absurd rfl h
end
end DL
set_option Elab.async false
set_option linter.all false
set_option maxRecDepth 100000
set_option maxHeartbeats 2000000
namespace DL
open PySem PySem.Spec PyProof.Rows L2
/-- o.m(..), o an object of the class C in slot i: what is asked -/
def tMe (C : Addr) (m : Str) (sp : Sp) (i : Nat) (E : L2.St → XK) (t : TA) : TE := fun σ H Q => ∃ a dx fs, σ[i]? = some (some (.ref a)) ∧ H a = some (.ins C dx fs) ∧ fs.lookup m = none ∧ t σ H fun vs H2 => sp (.ref a :: vs) H2 Q (E σ)
section
variable {X : Cx} {CX : CXT} {k : Nat} {f C : Addr} {fd : FuncData} {ps : List Str} {sp : Sp} {E : L2.St → XK} {x m : Str} {p pos apos : Pos} {e : Expr} {es : List Expr} {t : TA} {pl : Sem Bool}
theorem pe_me (i : Nat) (c : Cls X.K C) (hm : Meth X.K C m f) (F : FnOk X.prog X.w X.K X.mg X.base CX k f fd ps sp) (hr : Room k X.A) (hb : Binds X.K fd ps []) (hx : ∀ σ, PassesAt CX X σ (E σ)) (ha : PA X (e :: es) t)
    (hN : X.N[i]? = some x) (hv : Vis X.env.scope x) (hd : (x == ("__debug__" : Str)) = false) (hcd : (x == ("__classdict__" : Str)) = false)
    (hst : starEach (e :: es) X.env = (false, eval e X.env) :: starEach es X.env) (hpl : (backTo pos (starEach es X.env)).any (·.1) = false)
    (ht : eval (.Call (.Attribute (.Name x p) m apos) (e :: es) [] pos) X.env = (do
      let ov ← eval (.Name x p) X.env
      standAt apos.atName
      let (f, first) ← holding [ov] (getMethod ov m pl)
      callWith pos f first (backTo pos (starEach (e :: es) X.env)) (backToKw pos (keywordEach [] X.env)))) :
    PE X (.Call (.Attribute (.Name x p) m apos) (e :: es) [] pos) (tMe C m sp i E t) := by
  refine ⟨fun pins s σ H Q I ⟨a, dx, fs, h1, ea, l, q⟩ => ?_⟩
  refine PySem.W.methodCall_KW (pl := pl) (thn ((pe_var hN hv hd hcd).run pins s σ H (fun v H' => v = .ref a ∧ H' = H) I ⟨.ref a, h1, rfl, rfl⟩) fun u s1 ⟨y, H1, I1, rx, ey, eH⟩ => ?_) ht
  subst ey eH
  obtain rfl : u = Value.ref a := rx
  refine getmeth_ok I1 ea c hm l ?_
  refine PySem.W.callWith_K (first := [.ref a]) (h₀ := X.base) I.ok.mod.kin hm.kp (thn (ha.run pos pins s1 σ H1 _ I1 q) fun us s2 ⟨vs, H2, I2, r, q2⟩ => ⟨I2.kIn, ?_⟩) hst hpl
  exact run_fnS (us := .ref a :: us) (vs := .ref a :: vs) F hr hb (hx σ) I2 (.cons rfl r) q2
theorem pe_me0 (i : Nat) (c : Cls X.K C) (hm : Meth X.K C m f) (F : FnOk X.prog X.w X.K X.mg X.base CX k f fd ps sp) (hr : Room k X.A) (hb : Binds X.K fd ps []) (hx : ∀ σ, PassesAt CX X σ (E σ))
    (hN : X.N[i]? = some x) (hv : Vis X.env.scope x) (hd : (x == ("__debug__" : Str)) = false) (hcd : (x == ("__classdict__" : Str)) = false)
    (ht : eval (.Call (.Attribute (.Name x p) m apos) [] [] pos) X.env = (do
      let ov ← eval (.Name x p) X.env
      standAt apos.atName
      let (f, first) ← holding [ov] (getMethod ov m pl)
      callWith pos f first (backTo pos (starEach [] X.env)) (backToKw pos (keywordEach [] X.env)))) :
    PE X (.Call (.Attribute (.Name x p) m apos) [] [] pos) (tMe C m sp i E tNil) := by
  refine ⟨fun pins s σ H Q I ⟨a, dx, fs, h1, ea, l, q⟩ => ?_⟩
  refine PySem.W.methodCall_KW (pl := pl) (thn ((pe_var hN hv hd hcd).run pins s σ H (fun v H' => v = .ref a ∧ H' = H) I ⟨.ref a, h1, rfl, rfl⟩) fun u s1 ⟨y, H1, I1, rx, ey, eH⟩ => ?_) ht
  subst ey eH
  obtain rfl : u = Value.ref a := rx
  refine getmeth_ok I1 ea c hm l ?_
  exact PySem.W.callWith_K0 (first := [.ref a]) I1.kIn hm.kp (run_fnS (us := [.ref a]) (vs := [.ref a]) F hr hb (hx σ) I1 (.cons rfl .nil) q)
end
theorem tk_no {X : Cx} {F : Fr} [TabCtx] (h : F.W = fun _ _ _ => False) : Tk X F := L2N.Takes.imp takesN0 fun c d σ H z => by
  have := z.2
  rw [h] at this
  exact this
variable [TabCtx]
/-- o.m(..) of a method that changes nothing -/
def methO (i : Nat) (m : Ob → List PyData → R PyData) (fs : M (List PyData)) : M PyData := fun ρ => match ρ[i]? with
  | some (.ob _) => M.bind fs (fun ds => obM i fun o => m o ds) ρ
  | _ => .bad
section
variable {X : Cx} {F : Fr} {x m : Str} {p pos apos : Pos} {e : Expr} {es : List Expr} {fs : M (List PyData)} {pl : Sem Bool} {lvl : Nat} {ps : List Str} {mo : Ob → List PyData → R PyData}
theorem methO_of {K : KW} {f0 : Addr} {t : TA} {σ : St} {H : Hp} {Q : VK} {n i : Nat} (hmn : m ∉ obNames) (ht : ∀ σ H Q, tMA K F fs σ H Q → t σ H Q) (hne : ∀ o ds, mo o ds ≠ .bad → ds.length + 1 = n) (h : tM K F (methO i mo fs) σ H Q) :
    tMe (aRun K.k) m (spO K n mo) i (fun σ cls d H => d = none ∧ F.W cls σ H) t σ H Q := by
  obtain ⟨V, ρ, E, g⟩ := h
  unfold methO at g
  cases e0 : ρ[i]? with
  | none => rw [e0] at g; exact False.elim g
  | some s =>
    rw [e0] at g
    cases s with
    | no => exact False.elim g
    | sh _ => exact False.elim g
    | ow _ => exact False.elim g
    | ob o =>
      obtain ⟨a, h1, _, h2, _⟩ := E.atO e0
      obtain ⟨c, ic, _⟩ := h2.get
      refine ⟨a, c.dx, c.fs, h1, ic.ins, ic.no m hmn, ht σ H _ ⟨V, ρ, E, Goal.bind g fun vs ds H1 V1 ρ1 st1 r1 g1 => ?_⟩⟩
      obtain ⟨o1, a1, c1, q0, q1, ic1, rc1, hid1, g2⟩ := Goal.ob st1.env g1
      rw [h1] at q1
      cases q1
      unfold M.lift at g2
      cases em : mo o1 ds with
      | bad => rw [em] at g2; exact False.elim g2
      | ok d =>
        rw [em] at g2
        refine ⟨by rw [List.length_cons, r1.length]; exact hne o1 ds (by rw [em]; exact fun z => nomatch z), a, vs, V1, o1, ds, st1.env.tabs, rfl, st1.env.sub, ObAt.mk' ic1 rc1 hid1, r1, ?_⟩
        rw [em]
        exact fun v H' V' x r => g2 v H' V' (st1.env.step x) r
      | exc cc =>
        rw [em] at g2
        refine ⟨by rw [List.length_cons, r1.length]; exact hne o1 ds (by rw [em]; exact fun z => nomatch z), a, vs, V1, o1, ds, st1.env.tabs, rfl, st1.env.sub, ObAt.mk' ic1 rc1 hid1, r1, ?_⟩
        rw [em]
        exact fun H' V' x => ⟨rfl, g2 H' V' (st1.env.ext.trans x)⟩
theorem pm_meth (i : Nat) (RK : RunK X.K) (hm : m ∈ metNames) (G : FnO X.prog X.w X.K X.mg X.base lvl (aMet X.K m) ps mo) (hr : Room lvl X.A) (tk : Tk X F) (ha : PMA X F (e :: es) fs) (hN : X.N[i]? = some x := by rfl)
    (hv : Vis X.env.scope x := by first | exact Or.inl rfl | exact Or.inr (Or.inl rfl) | exact Or.inr (Or.inr rfl)) (hd : (x == ("__debug__" : Str)) = false := by decide) (hcd : (x == ("__classdict__" : Str)) = false := by decide) (hmn : m ∉ obNames := by decide)
    (hst : starEach (e :: es) X.env = (false, eval e X.env) :: starEach es X.env := by rfl) (hpl : (backTo pos (starEach es X.env)).any (·.1) = false := by rfl)
    (ht : eval (.Call (.Attribute (.Name x p) m apos) (e :: es) [] pos) X.env = (do
      let ov ← eval (.Name x p) X.env
      standAt apos.atName
      let (f, first) ← holding [ov] (getMethod ov m pl)
      callWith pos f first (backTo pos (starEach (e :: es) X.env)) (backToKw pos (keywordEach [] X.env))) := by rfl) :
    PM X F (.Call (.Attribute (.Name x p) m apos) (e :: es) [] pos) (methO i mo fs) := by
  obtain ⟨fd, G1, G2, G3⟩ := G
  exact PE.imp (pe_me i RK.cls (RK.meth m hm) G1 hr G2 (fun σ => L2N.passAt tk σ) ha hN hv hd hcd hst hpl ht) fun σ H Q h => methO_of (K := X.kw) (f0 := 0) hmn (fun _ _ _ z => z) G3 h
theorem pm_meth0 (i : Nat) (RK : RunK X.K) (hm : m ∈ metNames) (G : FnO X.prog X.w X.K X.mg X.base lvl (aMet X.K m) ps mo) (hr : Room lvl X.A) (tk : Tk X F) (hN : X.N[i]? = some x := by rfl)
    (hv : Vis X.env.scope x := by first | exact Or.inl rfl | exact Or.inr (Or.inl rfl) | exact Or.inr (Or.inr rfl)) (hd : (x == ("__debug__" : Str)) = false := by decide) (hcd : (x == ("__classdict__" : Str)) = false := by decide) (hmn : m ∉ obNames := by decide)
    (ht : eval (.Call (.Attribute (.Name x p) m apos) [] [] pos) X.env = (do
      let ov ← eval (.Name x p) X.env
      standAt apos.atName
      let (f, first) ← holding [ov] (getMethod ov m pl)
      callWith pos f first (backTo pos (starEach [] X.env)) (backToKw pos (keywordEach [] X.env))) := by rfl) :
    PM X F (.Call (.Attribute (.Name x p) m apos) [] [] pos) (methO i mo aN) := by
  obtain ⟨fd, G1, G2, G3⟩ := G
  refine PE.imp (pe_me0 i RK.cls (RK.meth m hm) G1 hr G2 (fun σ => L2N.passAt tk σ) hN hv hd hcd ht) fun σ H Q h => methO_of (K := X.kw) (f0 := 0) hmn (fun σ H Q ⟨V, ρ, E, g⟩ => Goal.pure0 E g .nil) G3 h
end
def methI (i : Nat) (m : Ob → List PyData → R (PyData × Ob)) (fs : M (List PyData)) : M PyData := fun ρ => match ρ[i]? with
  | some (.ob _) => M.bind fs (fun ds ρ => match ρ[i]? with
    | some (.ob o) => (match m o ds with
      | .ok (d, o') => .ok (d, ρ.set i (.ob o'))
      | .exc c => .exc c
      | .bad => .bad)
    | _ => .bad) ρ
  | _ => .bad
def tAI (K : KW) (G : Fr) (f : M (List PyData)) : TA := fun σ H Q => ∃ V ρ, EnvI K G H V σ ρ ∧ GoalE K G σ V (RepL K) (f ρ) Q
def PIR (X : Cx) (G : Fr) (es : List Expr) (f : M (List PyData)) : Prop := PA X es (tAI X.kw G f)
section
variable {X : Cx} {G : Fr} {x m : Str} {p pos apos : Pos} {e : Expr} {es : List Expr} {fs : M (List PyData)} {pl : Sem Bool} {lvl : Nat} {ps : List Str} {mi : Ob → List PyData → R (PyData × Ob)}
theorem pir_up (h : ∀ H0 V0 obs, PMA X (mkI G H0 V0 obs) es fs) : PIR X G es fs := ⟨fun pos pins s σ H Q I ⟨V, ρ, ⟨H0, V0, obs, E, ok⟩, g⟩ => (h H0 V0 obs).run pos pins s σ H Q I ⟨V, ρ, E, g.low ok⟩⟩
theorem methI_goal {K : KW} {σ : St} {H1 V1 : Hp} {Q : VK} {ρ1 : Rho} {i : Nat} {a : Addr} {vs : List L2.V} {ds : List PyData} {n : Nat} (E1 : EnvI K G H1 V1 σ ρ1) (h1 : σ[i]? = some (some (.ref a))) (r1 : RepL K V1 vs ds) (hne : ∀ o ds, mi o ds ≠ .bad → ds.length + 1 = n)
    (g1 : GoalE K G σ V1 (Rep K) (match ρ1[i]? with
      | some (Sl.ob o) => (match mi o ds with
        | .ok (d, o') => .ok (d, ρ1.set i (.ob o'))
        | .exc c => .exc c
        | .bad => .bad)
      | _ => .bad) Q) : spI K n mi (.ref a :: vs) H1 Q (fun cls d H => d = none ∧ G.W cls σ H) := by
  cases q0 : ρ1[i]? with
  | none => rw [q0] at g1; exact False.elim g1
  | some s1 =>
    rw [q0] at g1
    cases s1 with
    | no => exact False.elim g1
    | sh _ => exact False.elim g1
    | ow _ => exact False.elim g1
    | ob o1 =>
      obtain ⟨a1, q1, oat, _⟩ := E1.at_ q0
      rw [h1] at q1
      cases q1
      have g1 : GoalE K G σ V1 (Rep K) (match mi o1 ds with
        | .ok (d, o') => .ok (d, ρ1.set i (.ob o'))
        | .exc c => .exc c
        | .bad => .bad) Q := g1
      have hl : mi o1 ds ≠ .bad → (L2.V.ref a :: vs).length = n := fun z => by rw [List.length_cons, r1.length]; exact hne o1 ds z
      cases em : mi o1 ds with
      | bad => rw [em] at g1; exact False.elim g1
      | ok pr =>
        obtain ⟨d, o'⟩ := pr
        rw [em] at g1
        refine ⟨hl (by rw [em]; exact fun z => nomatch z), a, vs, V1, o1, ds, E1.tabs, rfl, E1.sub, oat, r1, ?_⟩
        rw [em]
        intro v H' V' x ho ft r
        refine g1 v H' V' (E1.mut q0 h1 (fun b u nf e n => x.h b u (by rw [hideF_n nf]; exact e) n) (fun b nf hb => x.th b (by rw [hideF_n nf]; exact hb)) (fun t => x.t (tabs_hideF oat t)) x.v x.s (fun b nf hv hb => x.f b hv (by rw [hideF_n nf]; exact hb)) ho ft) x.v r
      | exc cc =>
        rw [em] at g1
        refine ⟨hl (by rw [em]; exact fun z => nomatch z), a, vs, V1, o1, ds, E1.tabs, rfl, E1.sub, oat, r1, ?_⟩
        rw [em]
        exact fun H' V' x => ⟨rfl, g1 H' V' (E1.ext.trans x)⟩
theorem methI_of {K : KW} {t : TA} {σ : St} {H : Hp} {Q : VK} {n i : Nat} (hmn : m ∉ obNames) (ht : ∀ σ H Q, tAI K G fs σ H Q → t σ H Q) (hne : ∀ o ds, mi o ds ≠ .bad → ds.length + 1 = n) (h : tMI K G (methI i mi fs) σ H Q) :
    tMe (aRun K.k) m (spI K n mi) i (fun σ cls d H => d = none ∧ G.W cls σ H) t σ H Q := by
  obtain ⟨V, ρ, E, g⟩ := h
  unfold methI at g
  cases e0 : ρ[i]? with
  | none => rw [e0] at g; exact False.elim g
  | some s =>
    rw [e0] at g
    cases s with
    | no => exact False.elim g
    | sh _ => exact False.elim g
    | ow _ => exact False.elim g
    | ob o =>
      obtain ⟨a, h1, h2, _⟩ := E.at_ e0
      obtain ⟨c, ic, _⟩ := h2.get
      exact ⟨a, c.dx, c.fs, h1, ic.ins, ic.no m hmn, ht σ H _ ⟨V, ρ, E, GoalE.bind g fun vs ds H1 V1 ρ1 E1 s1 r1 g1 => methI_goal E1 h1 r1 hne g1⟩⟩
theorem pie_meth (i : Nat) (RK : RunK X.K) (hm : m ∈ metNames) (Gf : FnI X.prog X.w X.K X.mg X.base lvl (aMet X.K m) ps mi) (hr : Room lvl X.A) (tk : Tk X G) (ha : PIR X G (e :: es) fs) (hN : X.N[i]? = some x := by rfl)
    (hv : Vis X.env.scope x := by first | exact Or.inl rfl | exact Or.inr (Or.inl rfl) | exact Or.inr (Or.inr rfl)) (hd : (x == ("__debug__" : Str)) = false := by decide) (hcd : (x == ("__classdict__" : Str)) = false := by decide) (hmn : m ∉ obNames := by decide)
    (hst : starEach (e :: es) X.env = (false, eval e X.env) :: starEach es X.env := by rfl) (hpl : (backTo pos (starEach es X.env)).any (·.1) = false := by rfl)
    (ht : eval (.Call (.Attribute (.Name x p) m apos) (e :: es) [] pos) X.env = (do
      let ov ← eval (.Name x p) X.env
      standAt apos.atName
      let (f, first) ← holding [ov] (getMethod ov m pl)
      callWith pos f first (backTo pos (starEach (e :: es) X.env)) (backToKw pos (keywordEach [] X.env))) := by rfl) :
    PIE X G (.Call (.Attribute (.Name x p) m apos) (e :: es) [] pos) (methI i mi fs) := by
  obtain ⟨fd, G1, G2, G3⟩ := Gf
  exact PE.imp (pe_me i RK.cls (RK.meth m hm) G1 hr G2 (fun σ => L2N.passAt tk σ) ha hN hv hd hcd hst hpl ht) fun σ H Q h => methI_of (K := X.kw) hmn (fun _ _ _ z => z) G3 h
theorem pie_meth0 (i : Nat) (RK : RunK X.K) (hm : m ∈ metNames) (Gf : FnI X.prog X.w X.K X.mg X.base lvl (aMet X.K m) ps mi) (hr : Room lvl X.A) (tk : Tk X G) (hN : X.N[i]? = some x := by rfl)
    (hv : Vis X.env.scope x := by first | exact Or.inl rfl | exact Or.inr (Or.inl rfl) | exact Or.inr (Or.inr rfl)) (hd : (x == ("__debug__" : Str)) = false := by decide) (hcd : (x == ("__classdict__" : Str)) = false := by decide) (hmn : m ∉ obNames := by decide)
    (ht : eval (.Call (.Attribute (.Name x p) m apos) [] [] pos) X.env = (do
      let ov ← eval (.Name x p) X.env
      standAt apos.atName
      let (f, first) ← holding [ov] (getMethod ov m pl)
      callWith pos f first (backTo pos (starEach [] X.env)) (backToKw pos (keywordEach [] X.env))) := by rfl) :
    PIE X G (.Call (.Attribute (.Name x p) m apos) [] [] pos) (methI i mi aN) := by
  obtain ⟨fd, G1, G2, G3⟩ := Gf
  exact PE.imp (pe_me0 i RK.cls (RK.meth m hm) G1 hr G2 (fun σ => L2N.passAt tk σ) hN hv hd hcd ht) fun σ H Q h => methI_of (K := X.kw) hmn (fun σ H Q ⟨V, ρ, E, g⟩ => GoalE.pure0 E g .nil) G3 h
end
/-- __init__ : what it promises of a new object -/
def spN (K : KW) (n : Nat) (m : List PyData → R Ob) : Sp := fun vs H Q E => vs.length = n ∧ ∃ a dx vs' V ds, TabV H V ∧ vs = .ref a :: vs' ∧ H a = some (.ins (aRun K.k) dx []) ∧ H dx = some (.own a) ∧ dx ≠ a ∧ V a = none ∧ V dx = none ∧ Same V H ∧ RepL K V vs' ds ∧ match m ds with
  | .ok o => ∀ H' V', Ext (hide (hide H a) dx) V H' V' → ObAt K V' H' a o → (∀ b, Foot H' a b → b = a ∨ b = dx ∨ H b = none) → Q .non H'
  | .exc c => ∀ H' V', Ext H V H' V' → E (.ref (He.ga K c)) none H'
  | .bad => False
def FnN (P : Program) (w : World) (K : PySem.W.Frag) (mg : Str → Option Value) (base : Heap) (lvl : Nat) (m : List PyData → R Ob) : Prop :=
  ∃ fd, FnOk P w K mg base (L2N.CX P w) lvl (aMet K "__init__") fd ["self", "choir", "standing"] (spN ⟨K, w⟩ 3 m) ∧ Binds K fd ["self", "choir", "standing"] [] ∧ ∀ ds, m ds ≠ .bad → ds.length = 2
section
variable {X : Cx} {CX : CXT} {k : Nat} {f C : Addr} {fd : FuncData} {ps : List Str} {sp : Sp} {E : L2.St → XK} {x : Str} {p pos : Pos} {e : Expr} {es : List Expr} {t : TA}
def tMk (C : Addr) (sp : Sp) (E : L2.St → XK) (t : TA) : TE := fun σ H Q => t σ H fun vs H1 => ∀ x dx, H1 x = none → H1 dx = none → dx ≠ x → sp (.ref x :: vs) (upd (upd H1 dx (.own x)) x (.ins C dx [])) (fun v H2 => v = .non ∧ Q (.ref x) H2) (E σ)
theorem pe_mkS (M : Mk X.K C f) (F : FnOk X.prog X.w X.K X.mg X.base CX k f fd ps sp) (hr : Room (k + 1) X.A) (hg : Gl X x) (hm : X.mg x = some (.ref C)) (hb : Binds X.K fd ps []) (hx : ∀ σ, PassesAt CX X σ (E σ))
    (ha : PA X (e :: es) t) (hdb : (x == ("__debug__" : Str)) = false := by decide) (he : starEach (e :: es) X.env = (false, eval e X.env) :: starEach es X.env := by rfl) (hpl : (backTo pos (starEach es X.env)).any (·.1) = false := by rfl) :
    PE X (.Call (.Name x p) (e :: es) [] pos) (tMk C sp E t) := by
  refine ⟨fun pins s σ H Q I h => ?_⟩
  refine wpAny_Call_Name_kw (ld_glob I hg hm ?_ hdb)
  refine PySem.W.callWith_K (h₀ := X.base) I.ok.mod.kin M.kp (thn (ha.run pos pins s σ H _ I h) fun us s1 ⟨vs, H1, I1, r, q⟩ => ⟨I1.kIn, ?_⟩) he hpl
  have hq := q (s1.heap.objs.size + 1) s1.heap.objs.size (I1.hok.fresh (Nat.le_succ _)) (I1.hok.fresh (Nat.le_refl _)) (Nat.ne_of_lt (Nat.lt_succ_self _))
  have J2 := Inv.made (C := C) I1
  have rr : Vals (V.ref (s1.heap.objs.size + 1) :: vs) (Value.ref (s1.heap.objs.size + 1) :: us) := .cons rfl r
  have hll : (Value.ref (s1.heap.objs.size + 1) :: us).length = ps.length := by
    have e2 := rr.length
    rw [F.len _ _ _ _ hq] at e2
    exact e2.symm
  have bb := hb _ (Value.ref (s1.heap.objs.size + 1) :: us) J2.kIn (by rw [List.append_nil]; exact hll)
  rw [List.append_nil] at bb
  show wpAny _ _ (call (.ref C) us) _ _ _
  refine wpAny_call (make_map (f := f) I1.kIn M.makes M.init (beq_iff_eq.mp M.fn) (codeAny_mono (F.run _ X.stack _ _ ⟨Value.ref (s1.heap.objs.size + 1) :: us, []⟩ (Value.ref (s1.heap.objs.size + 1) :: us) _ _ (E σ) (hr.make C us []) (J2.env0.make C us []) bb rr hq) fun r' s' hq' => ?_))
  cases r' with
  | error er => exact hx σ pins _ _ er s' J2 hq'
  | ok fl =>
    cases fl with
    | ret u =>
      obtain ⟨v, H2, I3, rv, ev, q3⟩ := J2.after hq'
      subst ev
      exact ⟨rv, ⟨V.ref (s1.heap.objs.size + 1), H2, I3, rfl, q3⟩⟩
    | next => exact False.elim hq'
    | brk => exact False.elim hq'
    | cont => exact False.elim hq'
end
section
variable {X : Cx} {F : Fr} {p pos : Pos} {e : Expr} {es : List Expr} {fs : M (List PyData)} {lvl : Nat} {mn : List PyData → R Ob}
/-- Running(..), refused -/
def makeX (m : List PyData → R Ob) (fs : M (List PyData)) : M PyData := M.bind fs fun ds ρ => match m ds with
  | .exc c => .exc c
  | _ => .bad
theorem pm_makeX (RK : RunK X.K) (G : FnN X.prog X.w X.K X.mg X.base lvl mn) (hr : Room (lvl + 1) X.A) (tk : Tk X F) (ha : PMA X F (e :: es) fs) (hm : X.mg "Running" = some (.ref (aRun X.K))) (hg : Gl X "Running" := by rfl)
    (he : starEach (e :: es) X.env = (false, eval e X.env) :: starEach es X.env := by rfl) (hpl : (backTo pos (starEach es X.env)).any (·.1) = false := by rfl) : PM X F (.Call (.Name "Running" p) (e :: es) [] pos) (makeX mn fs) := by
  obtain ⟨fd, G1, G2, G3⟩ := G
  refine PE.imp (pe_mkS (E := fun σ cls d H => d = none ∧ F.W cls σ H) RK.make G1 hr hg hm G2 (fun σ => L2N.passAt tk σ) ha (by decide) he hpl) fun σ H Q ⟨V, ρ, E, g⟩ => ⟨V, ρ, E, Goal.bind g fun vs ds H1 V1 ρ1 st1 r1 g1 => fun a dx ha1 hdx hne => ?_⟩
  cases em : mn ds with
  | ok o => rw [em] at g1; exact False.elim g1
  | bad => rw [em] at g1; exact False.elim g1
  | exc c =>
    rw [em] at g1
    have sub := st1.env.sub
    have hdx' : (upd H1 dx (.own a)) a = none := by rw [upd_ne hne.symm]; exact ha1
    have x1 : Ext H1 V1 (upd H1 dx (.own a)) V1 := Ext.hid sub hdx
    have x2 : Ext (upd H1 dx (.own a)) V1 (upd (upd H1 dx (.own a)) a (.ins (aRun X.K) dx [])) V1 := Ext.hid x1.s hdx'
    have x3 := x1.trans x2
    refine ⟨by rw [List.length_cons, r1.length, G3 ds (by rw [em]; exact fun z => nomatch z)], a, dx, vs, V1, ds, (st1.env.grow x3).tabs, rfl, upd_same, by rw [upd_ne hne, upd_same], hne, sub.free ha1, sub.free hdx, x3.s, r1, ?_⟩
    rw [em]
    exact fun H' V' x => ⟨rfl, g1 H' V' (st1.env.ext.trans (x3.trans x))⟩
end
end DL
set_option Elab.async false
set_option linter.all false
set_option maxRecDepth 100000
set_option maxHeartbeats 2000000
namespace DL
open PySem PySem.Spec PyProof.Rows L2
variable [TabCtx]
section
variable {K : KW} {G : Fr} {H V H' V' : Hp} {σ : St} {ρ : Rho}
theorem EnvI.add (E : EnvI K G H V σ ρ) {i : Nat} {a : Addr} {o : Ob} (x : Ext H V H' V') (ho : ObAt K V' H' a o) (ft : ∀ b, Foot H' a b → H b = none) (hl : i ≠ G.ls ∨ G.lent = none) : EnvI K G H' V' (σ.set i (some (.ref a))) (ρ.set i (.ob o)) := by
  have tabs := (E.grow x).tabs
  obtain ⟨H0, V0, obs, E, ok⟩ := E
  have now : ∀ {j : Nat} {p : Ob} {b : Addr}, ρ[j]? = some (.ob p) → σ[j]? = some (some (.ref b)) → obs b ∧ ObAt K V0 H0 b p ∧ ObAt K V' H' b p ∧ ∀ c, Foot H' b c ↔ Foot H0 b c := fun {j p b} q1 q2 => by
    obtain ⟨b1, w1, w2, w3⟩ := E.ob.at_ j p q1
    rw [q2] at w1
    cases w1
    obtain ⟨w4, w5⟩ := w3.keep (H' := H') (V' := V') (fun c y f e n => x.h c y (E.ext.h c y e n) n) (E.ext.v.trans x.v) fun c f => by
      obtain ⟨y, e, _⟩ := Foot.exi w3 f
      have nz : H0 c ≠ none := by
        have e : H0 c = some y := e
        rw [e]; exact fun z => nomatch z
      exact x.f c (E.ext.f c (w3.hid c f) nz) (E.ext.th c nz)
    exact ⟨w2, w3, w4, w5⟩
  have own0 : ∀ {b : Addr}, IsOwn σ ρ b → V' b = none ∧ H0 b = none ∧ H b ≠ none ∧ ∃ y, H' b = some y ∧ Plain y := fun {b} z => by
    obtain ⟨q1, q2, y, q3, _, _, q4⟩ := E.own_at z
    have nz : H b ≠ none := by rw [q3]; exact fun w => nomatch w
    exact ⟨x.f b q1 nz, q2, nz, y, x.h b y q3 q4.t, q4⟩
  have ownP : ∀ b, IsOwn σ ρ b → ∀ y, H' b = some y → Plain y := fun b z y e => by
    obtain ⟨_, _, _, u, q1, q2⟩ := own0 z
    rw [e] at q1; cases q1
    exact q2
  have slo : ∀ {j : Nat} {t : Sl}, (ρ.set i (.ob o))[j]? = some t → (j = i ∧ t = .ob o ∧ i < ρ.length) ∨ (j ≠ i ∧ ρ[j]? = some t) := fun {j t} q => by
    rcases getElem_set_some q with ⟨rfl, z, hi⟩ | ⟨n, z⟩
    · exact .inl ⟨rfl, z.symm, hi⟩
    · exact .inr ⟨Ne.symm n, z⟩
  have sne : ∀ {j : Nat}, j ≠ i → (σ.set i (some (L2.V.ref a)))[j]? = σ[j]? := fun {j} n => List.getElem?_set_ne (Ne.symm n)
  have seq : i < ρ.length → (σ.set i (some (L2.V.ref a)))[i]? = some (some (.ref a)) := fun h => List.getElem?_set_self (by have := E.len; omega)
  have ow : ∀ {b : Addr}, IsOwn (σ.set i (some (L2.V.ref a))) (ρ.set i (.ob o)) b → IsOwn σ ρ b := fun {b} ⟨j, d, q1, q2⟩ => by
    rcases slo q1 with ⟨_, z, _⟩ | ⟨n, z⟩
    · cases z
    · exact ⟨j, d, z, by rw [← sne n]; exact q2⟩
  have vs : Same (veiled (IsOwn σ ρ) H') H' := veil_same
  have gx : Ext G.H0 G.V0 H V := ok.ext.trans E.ext
  have gx' : Ext G.H0 G.V0 H' V' := gx.trans x
  have base : ∀ {b : Addr} {p : Ob}, ObAt K V' H' b p → (∀ c, Foot H' b c → ¬ IsOwn σ ρ c) → ObAt K V' (veiled (IsOwn σ ρ) H') b p ∧ ∀ c, Foot (veiled (IsOwn σ ρ) H') b c ↔ Foot H' b c := fun {b p} q n =>
    q.keep (fun c y f e _ => by rw [veiled_n (n c f)]; exact e) (Same.refl _) q.hid
  obtain ⟨ba, fa⟩ := base ho fun c f z => (own0 z).2.2.1 (ft c f)
  have fresh : ∀ c, Foot (veiled (IsOwn σ ρ) H') a c → H c = none := fun c f => ft c ((fa c).mp f)
  have oth : ∀ {j : Nat} {p : Ob} {b : Addr}, ρ[j]? = some (.ob p) → σ[j]? = some (some (.ref b)) → ObAt K V' (veiled (IsOwn σ ρ) H') b p ∧ (∀ c, Foot (veiled (IsOwn σ ρ) H') b c ↔ Foot H0 b c) ∧ ∀ c, Foot H0 b c → H c ≠ none := fun {j p b} q1 q2 => by
    obtain ⟨w2, w3, w4, w5⟩ := now q1 q2
    have nz : ∀ c, Foot H0 b c → H0 c ≠ none := fun c f => by
      obtain ⟨y, e, _⟩ := Foot.exi w3 f
      rw [e]; exact fun z => nomatch z
    obtain ⟨w8, w9⟩ := base w4 fun c f z => nz c ((w5 c).mp f) (own0 z).2.1
    exact ⟨w8, fun c => (w9 c).trans (w5 c), fun c f => E.ext.th c (nz c f)⟩
  refine ⟨veiled (IsOwn σ ρ) H', V', fun b => ∃ (j : Nat) (p : Ob), (ρ.set i (.ob o))[j]? = some (.ob p) ∧ (σ.set i (some (L2.V.ref a)))[j]? = some (some (L2.V.ref b)), ⟨by rw [List.length_set, List.length_set]; exact E.len, .of vs (Same.refl _) x.s (fun _ z _ => z), fun j d q => ?_, fun j d q => ?_, fun j k b d e q1 q2 q3 q4 => ?_, fun b hb => ?_, ⟨tabs_veil ownP tabs.1, tabs.2⟩, ⟨fun j p q => ?_, fun j k b p r q1 q2 q3 q4 => ?_⟩⟩,
    ⟨⟨fun b y e n => ?_, gx'.v, fun b y e => ?_, gx'.f, fun b z => ?_, fun t => tabs_veil ownP (gx'.t t)⟩, fun b ⟨j, p, q1, q2⟩ c f => ?_, fun b b2 ⟨j, p, q1, q2⟩ ⟨k, r, q3, q4⟩ ne c f1 f2 => ?_⟩⟩
  · rcases slo q with ⟨_, z, _⟩ | ⟨n, z⟩
    · cases z
    · obtain ⟨u, w1, w2⟩ := E.sh j d z
      exact ⟨u, by rw [sne n]; exact w1, w2.mono x.v⟩
  · rcases slo q with ⟨_, z, _⟩ | ⟨n, z⟩
    · cases z
    · obtain ⟨b, w1, w2, w3, w4⟩ := E.ow j d z
      have io : IsOwn σ ρ b := ⟨j, d, z, w1⟩
      exact ⟨b, by rw [sne n]; exact w1, (own0 io).1, veiled_p io, w4.mono x.v fun y e m => x.h b y e m⟩
  · rcases slo q1 with ⟨_, z, _⟩ | ⟨n1, z1⟩
    · cases z
    · rcases slo q2 with ⟨_, z, _⟩ | ⟨n2, z2⟩
      · cases z
      · exact E.dis j k b d e z1 z2 (by rw [← sne n1]; exact q3) (by rw [← sne n2]; exact q4)
  · have hb' : G.lent = some b := hb
    rcases hl with hl | hl
    · show (σ.set i (some (L2.V.ref a)))[G.ls]? = _
      rw [sne (Ne.symm hl)]
      exact E.lent b hb
    · rw [hl] at hb'; cases hb'
  · rcases slo q with ⟨rfl, z, hi⟩ | ⟨n, z⟩
    · cases z
      exact ⟨a, seq hi, ⟨j, o, q, seq hi⟩, ba⟩
    · obtain ⟨b, w1, _⟩ := E.ob.at_ j p z
      exact ⟨b, by rw [sne n]; exact w1, ⟨j, p, q, by rw [sne n]; exact w1⟩, (oth z w1).1⟩
  · rcases slo q1 with ⟨rfl, z, hi⟩ | ⟨n1, z1⟩
    · rcases slo q2 with ⟨rfl, _, _⟩ | ⟨n2, z2⟩
      · rfl
      · rw [seq hi] at q3
        cases q3
        rw [sne n2] at q4
        obtain ⟨_, w5, w6⟩ := oth z2 q4
        obtain ⟨_, w3, _, _⟩ := now z2 q4
        have fa0 : Foot H0 a a := .inl rfl
        exact absurd (fresh a (.inl rfl)) (w6 a fa0)
    · rcases slo q2 with ⟨rfl, _, hi⟩ | ⟨n2, z2⟩
      · rw [seq hi] at q4
        cases q4
        rw [sne n1] at q3
        obtain ⟨_, w5, w6⟩ := oth z1 q3
        exact absurd (fresh a (.inl rfl)) (w6 a (.inl rfl))
      · rw [sne n1] at q3
        rw [sne n2] at q4
        exact E.ob.dis j k b p r z1 z2 q3 q4
  · have nz : G.H0 b ≠ none := by rw [e]; exact fun z => nomatch z
    rw [veiled_n (fun z => ok.ext.th b nz (own0 z).2.1)]
    exact gx'.h b y e n
  · rw [veiled_n (fun z => by rw [(own0 z).1] at e; cases e)]
    exact x.s b y e
  · rw [veiled_n (fun w => ok.ext.th b z (own0 w).2.1)]
    exact gx'.th b z
  · rcases slo q1 with ⟨rfl, z, hi⟩ | ⟨n, z⟩
    · rw [seq hi] at q2
      cases q2
      cases e : G.H0 c with
      | none => rfl
      | some y => exact absurd (fresh c f) (gx.th c (by rw [e]; exact fun z => nomatch z))
    · rw [sne n] at q2
      obtain ⟨_, w5, _⟩ := oth z q2
      exact ok.fr b (now z q2).1 c ((w5 c).mp f)
  · rcases slo q1 with ⟨rfl, z, hi⟩ | ⟨n1, z1⟩
    · rw [seq hi] at q2
      cases q2
      rcases slo q3 with ⟨rfl, _, _⟩ | ⟨n2, z2⟩
      · rw [seq hi] at q4
        cases q4
        exact ne rfl
      · rw [sne n2] at q4
        obtain ⟨_, w5, w6⟩ := oth z2 q4
        exact w6 c ((w5 c).mp f2) (fresh c f1)
    · rw [sne n1] at q2
      rcases slo q3 with ⟨rfl, _, hi⟩ | ⟨n2, z2⟩
      · rw [seq hi] at q4
        cases q4
        obtain ⟨_, w5, w6⟩ := oth z1 q2
        exact w6 c ((w5 c).mp f1) (fresh c f2)
      · rw [sne n2] at q4
        obtain ⟨_, w5, _⟩ := oth z1 q2
        obtain ⟨_, w5', _⟩ := oth z2 q4
        exact ok.ds b b2 (now z1 q2).1 (now z2 q4).1 ne c ((w5 c).mp f1) ((w5' c).mp f2)
end
/-- x = Running(..) -/
def newO (i : Nat) (m : List PyData → R Ob) (fs : M (List PyData)) : SM := exO fs fun ds ρ => match m ds with
  | .ok o => if i < ρ.length then .nx (ρ.set i (.ob o)) else .bad
  | .exc c => .exc c
  | .bad => .bad
section
variable {X : Cx} {G : Fr} {x : Str} {px p pos posc : Pos} {e : Expr} {es : List Expr} {fs : M (List PyData)} {lvl : Nat} {mn : List PyData → R Ob}
theorem pis_new (i : Nat) (RK : RunK X.K) (Gf : FnN X.prog X.w X.K X.mg X.base lvl mn) (hr : Room (lvl + 1) X.A) (tk : Tk X G) (ha : PIR X G (e :: es) fs) (hm : X.mg "Running" = some (.ref (aRun X.K))) (hNd : X.N.Nodup) (hi : X.N[i]? = some x := by rfl) (hx : Loc X.env.scope x := by first | exact Or.inl rfl | exact Or.inr rfl) (hl : i ≠ G.ls ∨ G.lent = none := by first | exact Or.inr rfl | exact Or.inl (ne_ls rfl)) (hg : Gl X "Running" := by rfl)
    (he : starEach (e :: es) X.env = (false, eval e X.env) :: starEach es X.env := by rfl) (hpl : (backTo posc (starEach es X.env)).any (·.1) = false := by rfl)
    (hs : swapsWith (.Call (.Name "Running" p) (e :: es) [] posc) (some (.Name x px)) pos.line X.env = pure false := by rfl) (hf : X.fn x = true ∨ X.env.scope.names.lookup x = some .local := by first | exact .inl rfl | exact .inr rfl | assumption) :
    PIS X G (.Assign [.Name x px] (.Call (.Name "Running" p) (e :: es) [] posc) pos) (newO i mn fs) := by
  obtain ⟨fd, G1, G2, G3⟩ := Gf
  refine PS.imp (ps_set hNd hi hx (pe_mkS (E := fun σ cls d H => d = none ∧ G.W cls σ H) RK.make G1 hr hg hm G2 (fun σ => L2N.passAt tk σ) ha (by decide) he hpl) hs hf) fun D σ H ⟨V, ρ, E, g⟩ => ⟨V, ρ, E, GoalI.ex g fun vs ds H1 V1 ρ1 E1 s1 r1 g1 => fun a dx ha1 hdx hne => ?_⟩
  have g1 : GoalI X.kw G V1 (match mn ds with
    | .ok o => if i < ρ1.length then .nx (ρ1.set i (.ob o)) else .bad
    | .exc c => .exc c
    | .bad => .bad) D := g1
  have sub := E1.sub
  have hdx' : (upd H1 dx (.own a)) a = none := by rw [upd_ne hne.symm]; exact ha1
  have x1 : Ext H1 V1 (upd H1 dx (.own a)) V1 := Ext.hid sub hdx
  have x2 : Ext (upd H1 dx (.own a)) V1 (upd (upd H1 dx (.own a)) a (.ins (aRun X.K) dx [])) V1 := Ext.hid x1.s hdx'
  have x3 := x1.trans x2
  have back : hide (hide (upd (upd H1 dx (.own a)) a (.ins (aRun X.K) dx [])) a) dx = H1 := by
    funext b
    by_cases hb : b = dx
    · rw [hb, hide_eq, hdx]
    · rw [hide_ne hb]
      by_cases hb2 : b = a
      · rw [hb2, hide_eq, ha1]
      · rw [hide_ne hb2, upd_ne hb2, upd_ne hb]
  cases em : mn ds with
  | bad => rw [em] at g1; exact False.elim g1
  | exc c =>
    rw [em] at g1
    refine ⟨by rw [List.length_cons, r1.length, G3 ds (by rw [em]; exact fun z => nomatch z)], a, dx, vs, V1, ds, (E1.grow x3).tabs, rfl, upd_same, by rw [upd_ne hne, upd_same], hne, sub.free ha1, sub.free hdx, x3.s, r1, ?_⟩
    rw [em]
    exact fun H' V' x => ⟨rfl, g1 σ H' V' (E1.ext.trans (x3.trans x))⟩
  | ok o =>
    rw [em] at g1
    have g1 : GoalI X.kw G V1 (if i < ρ1.length then .nx (ρ1.set i (.ob o)) else .bad) D := g1
    by_cases hil : i < ρ1.length
    · rw [if_pos hil] at g1
      refine ⟨by rw [List.length_cons, r1.length, G3 ds (by rw [em]; exact fun z => nomatch z)], a, dx, vs, V1, ds, (E1.grow x3).tabs, rfl, upd_same, by rw [upd_ne hne, upd_same], hne, sub.free ha1, sub.free hdx, x3.s, r1, ?_⟩
      rw [em]
      intro H' V' xx ho ft
      rw [back] at xx
      refine ⟨rfl, ?_⟩
      refine g1 _ _ _ (E1.add xx ho (fun b f => ?_) hl) xx.v
      rcases ft b f with rfl | rfl | q
      · exact ha1
      · exact hdx
      · cases e : H1 b with
        | none => rfl
        | some y => exact absurd q (x3.th b (by rw [e]; exact fun z => nomatch z))
    · rw [if_neg hil] at g1; exact False.elim g1
end
end DL
set_option Elab.async false
set_option linter.all false
set_option maxRecDepth 100000
set_option maxHeartbeats 2000000
namespace DL
open PySem PySem.Spec PyProof.Rows L2
theorem putF_len (f : Str) (v : L2.V) : ∀ fs : List (Str × L2.V), fs.lookup f ≠ none → (putF f v fs).length = fs.length
  | [], h => absurd rfl h
  | (g, x) :: r, h => by
    unfold putF
    by_cases e : g = f
    · rw [if_pos e]; rfl
    · rw [if_neg e, List.length_cons, List.length_cons, putF_len f v r (fun z => h (by
        have e2 : (f == g) = false := by simpa using (Ne.symm e)
        rw [List.lookup_cons, e2]; exact z))]
theorem pg_fld {X : Cx} {o : Expr} {ta : TE} {f : Str} {pos : Pos} (ho : PE X o ta) : PG X (.Attribute o f pos) (fun v σ H Q => ta σ H fun x H2 => ∃ a C dx fs, x = .ref a ∧ H2 a = some (.ins C dx fs) ∧ Cls X.K C ∧ NoAttr X.K C f ∧ fs.length < 1000 ∧ Q σ (upd H2 a (.ins C dx (putF f v fs)))) := by
  refine ⟨fun pins s σ H v u Q I r h => ?_⟩
  rw [assign_Attribute]
  refine wpAny_bind (wpAny_holding (thn (ho.run pins s σ H _ I h) fun ov s1 ⟨x, H1, I1, r1, a, C, dx, fs, ex, ea, c, n, l, q⟩ => ?_))
  subst ex
  obtain rfl : ov = Value.ref a := r1
  refine wpAny_bind (wpAny_standAt (wpAny_bind (wpAny_holding (setattr_ok I1 ea c n l r fun s3 I3 => ?_))))
  exact wpAny_release ⟨σ, _, I3, q⟩
variable [TabCtx]
section
variable {K : PySem.W.Frag} {H : Hp} {a : Addr} {c : ObC} {f : Str} {y : L2.V}
def ObC.setF (c : ObC) (f : Str) (y : L2.V) : ObC := { c with fs := putF f y c.fs, v1 := if f = "first" then y else c.v1, v2 := if f = "crew" then y else c.v2, v3 := if f = "stand" then y else c.v3 }
theorem ObIs.fld (ic : ObIs K H a c) (hf : f ∈ (["first", "crew", "stand"] : List Str)) : ObIs K (upd H a (.ins (aRun K) c.dx (putF f y c.fs))) a (c.setF f y) := by
  have na : ∀ {b : Addr} {u : HO}, H b = some u → (∀ C dx fs, u ≠ .ins C dx fs) → b ≠ a := fun {b u} e n z => by
    rw [z, ic.ins] at e
    exact n _ _ _ (Option.some.inj e).symm
  have look : ∀ g, (putF f y c.fs).lookup g = if g = f then some y else c.fs.lookup g := fun g => lookup_putF f g y c.fs
  have hin : c.fs.lookup f ≠ none := by
    rcases List.mem_cons.mp hf with rfl | hf
    · rw [ic.f1]; exact fun z => nomatch z
    · rcases List.mem_cons.mp hf with rfl | hf
      · rw [ic.f2]; exact fun z => nomatch z
      · rcases List.mem_cons.mp hf with rfl | hf
        · rw [ic.f3]; exact fun z => nomatch z
        · cases hf
  have ff : f ∈ obNames ∧ f ≠ "sung" ∧ f ≠ "deeds" ∧ f ≠ "past" := by
    rcases List.mem_cons.mp hf with rfl | hf
    · decide
    · rcases List.mem_cons.mp hf with rfl | hf
      · decide
      · rcases List.mem_cons.mp hf with rfl | hf
        · decide
        · cases hf
  refine ⟨upd_same, by show upd H a _ c.dx = some (.own a); rw [upd_ne (na ic.own (fun _ _ _ z => nomatch z))]; exact ic.own, ?_, ?_, ?_, ?_, ?_, ?_, fun g hg => ?_, by show (putF f y c.fs).length ≤ 20; rw [putF_len f y _ hin]; exact ic.len, ?_, ?_, ?_, ic.n1, ic.n2, ic.n3⟩
  · show (putF f y c.fs).lookup _ = some (if f = "first" then y else c.v1)
    rw [look]
    by_cases e : f = "first"
    · rw [if_pos e.symm, if_pos e]
    · rw [if_neg (Ne.symm e), if_neg e]; exact ic.f1
  · show (putF f y c.fs).lookup _ = some (if f = "crew" then y else c.v2)
    rw [look]
    by_cases e : f = "crew"
    · rw [if_pos e.symm, if_pos e]
    · rw [if_neg (Ne.symm e), if_neg e]; exact ic.f2
  · show (putF f y c.fs).lookup _ = some (if f = "stand" then y else c.v3)
    rw [look]
    by_cases e : f = "stand"
    · rw [if_pos e.symm, if_pos e]
    · rw [if_neg (Ne.symm e), if_neg e]; exact ic.f3
  · show (putF f y c.fs).lookup _ = _
    rw [look, if_neg (Ne.symm ff.2.1)]; exact ic.f4
  · show (putF f y c.fs).lookup _ = _
    rw [look, if_neg (Ne.symm ff.2.2.1)]; exact ic.f5
  · show (putF f y c.fs).lookup _ = _
    rw [look, if_neg (Ne.symm ff.2.2.2)]; exact ic.f6
  · show (putF f y c.fs).lookup _ = _
    rw [look, if_neg (fun z => hg (by rw [z]; exact ff.1))]
    exact ic.no g hg
  · show upd H a _ c.ls = some (.lst c.xs)
    rw [upd_ne (na ic.l1 (fun _ _ _ z => nomatch z))]; exact ic.l1
  · show upd H a _ c.ld = some (.lst c.ys)
    rw [upd_ne (na ic.l2 (fun _ _ _ z => nomatch z))]; exact ic.l2
  · show upd H a _ c.lp = some (.lst c.zs)
    rw [upd_ne (na ic.l3 (fun _ _ _ z => nomatch z))]; exact ic.l3
end
/-- the three lists, as the object knows them -/
structure LU {f : Str} (L : LF f) where
  setc : ObC → List L2.V → ObC
  seto : Ob → List PyData → Ob
  is : ∀ {K : PySem.W.Frag} {H : Hp} {a : Addr} {c : ObC} (vs : List L2.V), ObIs K H a c → ObIs K (upd H (L.adr c) (.lst vs)) a (setc c vs)
  rep : ∀ {K : KW} {V : Hp} {c : ObC} {o : Ob} {vs : List L2.V} {ds : List PyData}, ObRep K V c o → RepL K V vs ds → ObRep K V (setc c vs) (seto o ds)
  foot : ∀ (c : ObC) (vs : List L2.V), (setc c vs).dx = c.dx ∧ (setc c vs).ls = c.ls ∧ (setc c vs).ld = c.ld ∧ (setc c vs).lp = c.lp
section
variable {K : PySem.W.Frag} {H : Hp} {a : Addr} {c : ObC}
theorem ObIs.ne1 (ic : ObIs K H a c) {l : Addr} {xs : List L2.V} (h : H l = some (.lst xs)) : a ≠ l ∧ c.dx ≠ l := by
  constructor
  · intro z; rw [← z, ic.ins] at h; cases h
  · intro z; rw [← z, ic.own] at h; cases h
theorem ObIs.uniq {c' : ObC} (i : ObIs K H a c) (j : ObIs K H a c') : c = c' := by
  have e1 := i.ins.symm.trans j.ins
  injection e1 with e1
  injection e1 with _ e1 e2
  obtain ⟨dx, ls, ld, lp, fs, v1, v2, v3, xs, ys, zs⟩ := c
  obtain ⟨dx', ls', ld', lp', fs', v1', v2', v3', xs', ys', zs'⟩ := c'
  dsimp only at e1 e2
  subst e1 e2
  have a1 := i.f1.symm.trans j.f1
  have a2 := i.f2.symm.trans j.f2
  have a3 := i.f3.symm.trans j.f3
  have a4 := i.f4.symm.trans j.f4
  have a5 := i.f5.symm.trans j.f5
  have a6 := i.f6.symm.trans j.f6
  dsimp only at a1 a2 a3 a4 a5 a6
  cases a1; cases a2; cases a3; cases a4; cases a5; cases a6
  have b1 := i.l1.symm.trans j.l1
  have b2 := i.l2.symm.trans j.l2
  have b3 := i.l3.symm.trans j.l3
  dsimp only at b1 b2 b3
  cases b1; cases b2; cases b3
  rfl
end
def luSung : LU lfSung := ⟨fun c vs => { c with xs := vs }, fun o ds => { o with sung := ds }, fun {K H a c} vs i => by
    obtain ⟨n1, n2⟩ := i.ne1 i.l1
    exact ⟨by show upd H c.ls _ a = _; rw [upd_ne n1]; exact i.ins, by show upd H c.ls _ c.dx = _; rw [upd_ne n2]; exact i.own, i.f1, i.f2, i.f3, i.f4, i.f5, i.f6, i.no, i.len, upd_same, by show upd H c.ls _ c.ld = _; rw [upd_ne i.n1.symm]; exact i.l2, by show upd H c.ls _ c.lp = _; rw [upd_ne i.n2.symm]; exact i.l3, i.n1, i.n2, i.n3⟩, fun r q => ⟨r.first, r.crew, r.stand, q, r.deeds, r.past⟩, fun _ _ => ⟨rfl, rfl, rfl, rfl⟩⟩
def luDeeds : LU lfDeeds := ⟨fun c vs => { c with ys := vs }, fun o ds => { o with deeds := ds }, fun {K H a c} vs i => by
    obtain ⟨n1, n2⟩ := i.ne1 i.l2
    exact ⟨by show upd H c.ld _ a = _; rw [upd_ne n1]; exact i.ins, by show upd H c.ld _ c.dx = _; rw [upd_ne n2]; exact i.own, i.f1, i.f2, i.f3, i.f4, i.f5, i.f6, i.no, i.len, by show upd H c.ld _ c.ls = _; rw [upd_ne i.n1]; exact i.l1, upd_same, by show upd H c.ld _ c.lp = _; rw [upd_ne i.n3.symm]; exact i.l3, i.n1, i.n2, i.n3⟩, fun r q => ⟨r.first, r.crew, r.stand, r.sung, q, r.past⟩, fun _ _ => ⟨rfl, rfl, rfl, rfl⟩⟩
def luPast : LU lfPast := ⟨fun c vs => { c with zs := vs }, fun o ds => { o with past := ds }, fun {K H a c} vs i => by
    obtain ⟨n1, n2⟩ := i.ne1 i.l3
    exact ⟨by show upd H c.lp _ a = _; rw [upd_ne n1]; exact i.ins, by show upd H c.lp _ c.dx = _; rw [upd_ne n2]; exact i.own, i.f1, i.f2, i.f3, i.f4, i.f5, i.f6, i.no, i.len, by show upd H c.lp _ c.ls = _; rw [upd_ne i.n2]; exact i.l1, by show upd H c.lp _ c.ld = _; rw [upd_ne i.n3]; exact i.l2, upd_same, i.n1, i.n2, i.n3⟩, fun r q => ⟨r.first, r.crew, r.stand, r.sung, r.deeds, q⟩, fun _ _ => ⟨rfl, rfl, rfl, rfl⟩⟩
section
variable {K : KW} {G : Fr} {H V : Hp} {σ : St} {ρ : Rho}
/-- one cell of a running song changed, none new -/
theorem EnvI.cell (E : EnvI K G H V σ ρ) {i : Nat} {a p : Addr} {o o' : Ob} {u : HO} {c c' : ObC} (h0 : ρ[i]? = some (.ob o)) (h1 : σ[i]? = some (some (.ref a))) (ic : ObIs K.k H a c) (hp : Foot H a p) (ic' : ObIs K.k (upd H p u) a c') (rc : ObRep K V c' o') (hf : c'.dx = c.dx ∧ c'.ls = c.ls ∧ c'.ld = c.ld ∧ c'.lp = c.lp) : EnvI K G (upd H p u) V σ (ρ.set i (.ob o')) := by
  obtain ⟨a1, e1, oat, _⟩ := E.at_ h0
  rw [h1] at e1
  cases e1
  obtain ⟨y, ey, _, py⟩ := ic.cell hp
  have ff : ∀ b, Foot (upd H p u) a b ↔ Foot H a b := fun b => by
    rw [ic'.foot, ic.foot, hf.1, hf.2.1, hf.2.2.1, hf.2.2.2]
  refine E.mut h0 h1 (fun b x nf e _ => ?_) (fun b nf e => ?_) (fun t => tabs_upd (fun x e => by rw [ey] at e; cases e; exact py) t) (Same.refl _) (fun b x e => ?_) (fun b _ e _ => e) (ObAt.mk' ic' rc fun b f => oat.hid b ((ff b).mp f)) fun b f => .inl ((ff b).mp f)
  · rw [upd_ne (fun z => nf (by rw [z]; exact hp))]; exact e
  · rw [upd_ne (fun z => nf (by rw [z]; exact hp))]; exact e
  · rw [upd_ne (fun z => by rw [z, oat.hid p hp] at e; cases e)]; exact E.sub b x e
end
theorem GoalI.exLow {K : KW} {G : Fr} {H V H0 V0 : Hp} {obs : Addr → Prop} {σ : St} {ρ : Rho} {α β : Type} {rep1 : Hp → β → α → Prop} {f : M α} {k : α → SM} {D : Ends} {Q1 : β → Hp → Prop} (ok : OkI G H0 V0 obs)
    (g : GoalI K G V (exO f k ρ) D)
    (h : ∀ b a H' V' ρ', Stp K (mkI G H0 V0 obs) σ ρ ρ' H V H' V' → rep1 V' b a → GoalI K G V' (k a ρ') D → Q1 b H') : Goal K (mkI G H0 V0 obs) σ ρ H V rep1 (f ρ) Q1 := by
  unfold exO at g
  cases e : f ρ with
  | ok p =>
    obtain ⟨a, ρ'⟩ := p
    rw [e] at g
    exact fun b H' V' st r => h b a H' V' ρ' st r (GoalI.mono st.v g)
  | exc c => rw [e] at g; exact fun H' V' x => g σ H' V' (ok.ext.trans x)
  | bad => rw [e] at g; exact g
/-- the cells of a running song, as the base has them -/
theorem EnvR.cells {K : KW} {F : Fr} {H V : Hp} {σ : St} {ρ : Rho} (E : EnvR K F H V σ ρ) {i : Nat} {o : Ob} {a : Addr} (e : ρ[i]? = some (.ob o)) (h1 : σ[i]? = some (some (.ref a))) : ∃ c, ObIs K.k F.H0 a c ∧ ObIs K.k H a c ∧ ObRep K V c o := by
  obtain ⟨a1, q1, _, oat⟩ := E.ob.at_ i o e
  rw [h1] at q1
  cases q1
  obtain ⟨c, ic0, rc⟩ := oat.get
  exact ⟨c, ic0, ic0.keep fun b u f e => E.ext.h b u e (by obtain ⟨y, e2, n, _⟩ := ic0.cell f; rw [e] at e2; cases e2; exact n), rc.mono E.ext.v⟩
/-- o.f = e -/
def setFO (i : Nat) (put : Ob → PyData → Ob) (a : M PyData) : SM := exO a fun d ρ => match ρ[i]? with
  | some (.ob o) => .nx (ρ.set i (.ob (put o d)))
  | _ => .bad
/-- o.l.append(e) -/
def appS (i : Nat) (get : Ob → List PyData) (seto : Ob → List PyData → Ob) (a : M PyData) : SM := fun ρ => match ρ[i]? with
  | some (.ob _) => exO a (fun d ρ => match ρ[i]? with
    | some (.ob o) => if (get o).length < LIM then .nx (ρ.set i (.ob (seto o (get o ++ [d])))) else .bad
    | _ => .bad) ρ
  | _ => .bad
abbrev appFO (i : Nat) {f : Str} {L : LF f} (U : LU L) (a : M PyData) : SM := appS i L.get U.seto a
section
variable {X : Cx} {G : Fr} {x : Str} {px apos cpos pos : Pos} {e : Expr} {fa : M PyData}
theorem pis_fldG (i : Nat) {f : Str} {put : Ob → PyData → Ob} (RK : RunK X.K) (hf : f ∈ (["first", "crew", "stand"] : List Str)) (hput : ∀ {V : Hp} {c : ObC} {o : Ob} {y : L2.V} {d : PyData}, ObRep X.kw V c o → Rep X.kw V y d → ObRep X.kw V (c.setF f y) (put o d))
    (he : PIE X G e fa) (hN : X.N[i]? = some x) (hv : Vis X.env.scope x) (hd : (x == ("__debug__" : Str)) = false) (hcd : (x == ("__classdict__" : Str)) = false) (hs : swapsWith e (some (.Attribute (.Name x px) f apos)) pos.line X.env = pure false) : PIS X G (.Assign [.Attribute (.Name x px) f apos] e pos) (setFO i put fa) := by
  refine PS.imp (ps_fld (pe_var hN hv hd hcd) he hs) fun D σ H ⟨V, ρ, E, g⟩ => ⟨V, ρ, E, GoalI.ex g fun y d H1 V1 ρ1 E1 s1 r1 g1 => ?_⟩
  cases e0 : ρ1[i]? with
  | none => rw [e0] at g1; exact False.elim g1
  | some s =>
    rw [e0] at g1
    cases s with
    | no => exact False.elim g1
    | sh _ => exact False.elim g1
    | ow _ => exact False.elim g1
    | ob o =>
      obtain ⟨a, h1, oat, _⟩ := E1.at_ e0
      obtain ⟨c, ic, rc⟩ := oat.get
      have hfo : f ∈ obNames := by
        rcases List.mem_cons.mp hf with rfl | hf
        · decide
        · rcases List.mem_cons.mp hf with rfl | hf
          · decide
          · rcases List.mem_cons.mp hf with rfl | hf
            · decide
            · cases hf
      refine ⟨.ref a, h1, a, aRun X.K, c.dx, c.fs, rfl, ic.ins, RK.cls, RK.no f hfo, Nat.lt_of_le_of_lt ic.len (by decide), ?_⟩
      exact g1 _ _ _ (E1.cell e0 h1 ic (.inl rfl) (ic.fld hf) (hput rc r1) ⟨rfl, rfl, rfl, rfl⟩) (Same.refl _)
theorem pis_crew (i : Nat) (RK : RunK X.K) (he : PIE X G e fa) (hN : X.N[i]? = some x := by rfl) (hv : Vis X.env.scope x := by first | exact Or.inl rfl | exact Or.inr (Or.inl rfl) | exact Or.inr (Or.inr rfl)) (hd : (x == ("__debug__" : Str)) = false := by decide) (hcd : (x == ("__classdict__" : Str)) = false := by decide)
    (hs : swapsWith e (some (.Attribute (.Name x px) "crew" apos)) pos.line X.env = pure false := by rfl) : PIS X G (.Assign [.Attribute (.Name x px) "crew" apos] e pos) (setFO i (fun o d => { o with crew := d }) fa) :=
  pis_fldG i RK (by decide) (fun rc r => ⟨rc.first, r, rc.stand, rc.sung, rc.deeds, rc.past⟩) he hN hv hd hcd hs
theorem pis_stand (i : Nat) (RK : RunK X.K) (he : PIE X G e fa) (hN : X.N[i]? = some x := by rfl) (hv : Vis X.env.scope x := by first | exact Or.inl rfl | exact Or.inr (Or.inl rfl) | exact Or.inr (Or.inr rfl)) (hd : (x == ("__debug__" : Str)) = false := by decide) (hcd : (x == ("__classdict__" : Str)) = false := by decide)
    (hs : swapsWith e (some (.Attribute (.Name x px) "stand" apos)) pos.line X.env = pure false := by rfl) : PIS X G (.Assign [.Attribute (.Name x px) "stand" apos] e pos) (setFO i (fun o d => { o with stand := d }) fa) :=
  pis_fldG i RK (by decide) (fun rc r => ⟨rc.first, rc.crew, r, rc.sung, rc.deeds, rc.past⟩) he hN hv hd hcd hs
theorem pis_appF (i : Nat) {f : Str} {L : LF f} (U : LU L) {p2 : Pos} (RK : RunK X.K) (ha : ∀ H0 V0 obs, PM X (mkI G H0 V0 obs) e fa) (hN : X.N[i]? = some x := by rfl) (hv : Vis X.env.scope x := by first | exact Or.inl rfl | exact Or.inr (Or.inl rfl) | exact Or.inr (Or.inr rfl)) (hd : (x == ("__debug__" : Str)) = false := by decide) (hcd : (x == ("__classdict__" : Str)) = false := by decide)
    (hb : attributeBase (.Name x px) f X.env (eval (.Name x px) X.env) = eval (.Name x px) X.env := by rfl)
    (hbase : attributeBase (.Attribute (.Name x px) f p2) "append" X.env (eval (.Attribute (.Name x px) f p2) X.env) = eval (.Attribute (.Name x px) f p2) X.env := by rfl)
    (hfew : ((backTo cpos (starEach [e] X.env)).all (fun x => !x.1) && (backToKw cpos (keywordEach [] X.env)).all (fun x => x.1.isSome) && decide ([e].length + ([] : List Keyword).length + (if ([] : List Keyword).isEmpty then 0 else 1) < 30)) = true := by rfl)
    (hline : (apos.endLine == cpos.line) = true := by rfl) (hs : starEach [e] X.env = (false, eval e X.env) :: starEach [] X.env := by rfl) (hplain : (backTo cpos (starEach [] X.env)).any (·.1) = false := by rfl)
    (hsw : swapsWith (.Call (.Attribute (.Attribute (.Name x px) f p2) "append" apos) [e] [] cpos) none pos.line X.env = pure false := by rfl) :
    PIS X G (.Expr (.Call (.Attribute (.Attribute (.Name x px) f p2) "append" apos) [e] [] cpos) pos) (appFO i U fa) := by
  refine ⟨fun pins s σ H D I ⟨V, ρ, ⟨H0, V0, obs, E, ok⟩, g⟩ => (ps_expr (pe_bm PySem.F.plainAttrs_list PySem.F.slot_list_append PySem.F.type_list_append mt_append (pe_lf i L RK hN hv hd hcd hb) (pa_cons (ha H0 V0 obs) pa_nil hs) hbase hfew hline hs hplain) hsw).run pins s σ H D I ?_⟩
  unfold appFO appS at g
  cases e0 : ρ[i]? with
  | none => rw [e0] at g; exact False.elim g
  | some s =>
    rw [e0] at g
    cases s with
    | no => exact False.elim g
    | sh _ => exact False.elim g
    | ow _ => exact False.elim g
    | ob o =>
      obtain ⟨a, h1, _, _⟩ := E.ob.at_ i o e0
      obtain ⟨c, ic0, ic, _⟩ := E.cells e0 h1
      refine ⟨a, c, h1, ic, .inl ⟨rfl, L.vs c, .inl (.inl (L.cell ic).1)⟩, V, ρ, E, GoalI.exLow ok g fun v d H1 V1 ρ1 st1 r1 g1 => ?_⟩
      cases e1 : ρ1[i]? with
      | none => rw [e1] at g1; exact False.elim g1
      | some t =>
        rw [e1] at g1
        cases t with
        | no => exact False.elim g1
        | sh _ => exact False.elim g1
        | ow _ => exact False.elim g1
        | ob o1 =>
          have g1 : GoalI X.kw G V1 (if (L.get o1).length < LIM then .nx (ρ1.set i (.ob (U.seto o1 (L.get o1 ++ [d])))) else .bad) D := g1
          obtain ⟨c1, ic10, ic1, rc1⟩ := st1.env.cells e1 h1
          have ec : c = c1 := ObIs.uniq ic0 ic10
          subst ec
          by_cases hlm : (L.get o1).length < LIM
          · rw [if_pos hlm] at g1
            have hll := (L.rep rc1).length
            refine ⟨L.adr c, L.vs c, v, rfl, rfl, (L.cell ic1).1, by rw [hll]; exact Nat.lt_trans hlm lim_lt, ?_⟩
            have E1 : EnvI X.kw G H1 V1 σ ρ1 := ⟨H0, V0, obs, st1.env, ok⟩
            exact g1 _ _ _ (E1.cell e1 h1 ic1 (L.cell ic1).2 (U.is _ ic1) (U.rep rc1 ((L.rep rc1).append (.cons r1 .nil))) (U.foot c _)) (Same.refl _)
          · rw [if_neg hlm] at g1; exact False.elim g1
end
end DL
set_option Elab.async false
set_option linter.all false
set_option maxRecDepth 100000
set_option maxHeartbeats 2000000
namespace DL
open PySem PySem.Spec PyProof.Rows L2
variable [TabCtx]
theorem RepL.dropLast {K : KW} {H : Hp} {vs : List L2.V} {ds : List PyData} (r : RepL K H vs ds) : RepL K H vs.dropLast ds.dropLast := by
  rw [List.dropLast_eq_take, List.dropLast_eq_take, r.length]
  exact r.take _
theorem RepL.last {K : KW} {H : Hp} {vs : List L2.V} {ds : List PyData} (r : RepL K H vs ds) {d : PyData} (h : ds.getLast? = some d) : ∃ v, vs[vs.length - 1]? = some v ∧ Rep K H v d := by
  rw [List.getLast?_eq_getElem?, ← r.length] at h
  exact r.get _ h
theorem EnvI.setSh {K : KW} {G : Fr} {H V : Hp} {σ : St} {ρ : Rho} (E : EnvI K G H V σ ρ) {i : Nat} {v : L2.V} {d : PyData} (r : Rep K V v d) (hl : i ≠ G.ls ∨ G.lent = none) : EnvI K G H V (σ.set i (some v)) (ρ.set i (.sh d)) := by
  obtain ⟨H0, V0, obs, E, ok⟩ := E
  exact ⟨H0, V0, obs, E.setSh r hl, ok⟩
theorem EnvI.cells {K : KW} {G : Fr} {H V : Hp} {σ : St} {ρ : Rho} (E : EnvI K G H V σ ρ) {i : Nat} {o : Ob} (e : ρ[i]? = some (.ob o)) : ∃ a c, σ[i]? = some (some (.ref a)) ∧ ObIs K.k H a c ∧ ObRep K V c o ∧ ∀ b, Foot H a b → V b = none := by
  obtain ⟨a, h1, oat, _⟩ := E.at_ e
  obtain ⟨c, ic, rc⟩ := oat.get
  exact ⟨a, c, h1, ic, rc, oat.hid⟩
theorem EnvI.shd {K : KW} {G : Fr} {H V : Hp} {σ : St} {ρ : Rho} (E : EnvI K G H V σ ρ) {j : Nat} {d : PyData} (e : ρ[j]? = some (.sh d)) : ∃ v, σ[j]? = some (some v) ∧ Rep K V v d := by
  obtain ⟨H0, V0, obs, E, ok⟩ := E
  exact E.sh j d e
/-- self.crew, self.stand, many = self.past.pop() -/
def undo1 (i j : Nat) : SM := fun ρ => match ρ[i]? with
  | some (.ob o) => (match o.past.getLast? with
    | some (.tuple [x, y, z]) => if i ≠ j ∧ j < ρ.length then .nx (((((ρ.set i (.ob { o with past := o.past.dropLast })).set i (.ob { o with past := o.past.dropLast, crew := x })).set i (.ob { o with past := o.past.dropLast, crew := x, stand := y }))).set j (.sh z)) else .bad
    | _ => .bad)
  | _ => .bad
/-- self.sung = self.sung[:many] -/
def undo2 (i j : Nat) : SM := fun ρ => match ρ[i]?, ρ[j]? with
  | some (.ob o), some (.sh (.int k)) => .nx (ρ.set i (.ob { o with sung := cutD o.sung none (some k) }))
  | _, _ => .bad
/-- self.deeds.pop() -/
def undo3 (i : Nat) : SM := fun ρ => match ρ[i]? with
  | some (.ob o) => (match o.deeds.getLast? with
    | some _ => .nx (ρ.set i (.ob { o with deeds := o.deeds.dropLast }))
    | none => .bad)
  | _ => .bad
section
variable {X : Cx} {G : Fr} {x y : Str} {p1 p2 p3 p4 p5 p6 p7 p8 p9 pos apos cpos : Pos}
theorem pis_undo1 (i j : Nat) {k0 : Nat} (RK : RunK X.K) (hNd : X.N.Nodup) (hN : X.N[i]? = some x := by rfl) (hv : Vis X.env.scope x := by first | exact Or.inl rfl | exact Or.inr (Or.inl rfl) | exact Or.inr (Or.inr rfl)) (hd : (x == ("__debug__" : Str)) = false := by decide) (hcd : (x == ("__classdict__" : Str)) = false := by decide)
    (hM : X.N[j]? = some y := by rfl) (hy : Loc X.env.scope y := by first | exact Or.inl rfl | exact Or.inr rfl) (hl : j ≠ G.ls ∨ G.lent = none := by first | exact Or.inr rfl | exact Or.inl (ne_ls rfl))
    (hb : attributeBase (.Name x p1) "past" X.env (eval (.Name x p1) X.env) = eval (.Name x p1) X.env := by rfl)
    (hbase : attributeBase (.Attribute (.Name x p1) "past" p2) "pop" X.env (eval (.Attribute (.Name x p1) "past" p2) X.env) = eval (.Attribute (.Name x p1) "past" p2) X.env := by rfl) (hline : (apos.endLine == cpos.line) = true := by rfl) (hc : X.calm = true := by rfl)
    (hf : X.fn y = true ∨ X.env.scope.names.lookup y = some .local := by first | exact .inl rfl | exact .inr rfl | assumption)
    (hn : (assignEach [.Attribute (.Name x p3) "crew" p4, .Attribute (.Name x p5) "stand" p6, .Name y p7] X.env).length = 3 := by rfl) (hst : (assignEach [.Attribute (.Name x p3) "crew" p4, .Attribute (.Name x p5) "stand" p6, .Name y p7] X.env).findIdx? (·.1) = none := by rfl)
    (hs1 : (assignEach [.Attribute (.Name x p3) "crew" p4, .Attribute (.Name x p5) "stand" p6, .Name y p7] X.env).map (·.2) = assign (.Attribute (.Name x p3) "crew" p4) X.env :: (assignEach [.Attribute (.Name x p5) "stand" p6, .Name y p7] X.env).map (·.2) := by rfl)
    (hs2 : (assignEach [.Attribute (.Name x p5) "stand" p6, .Name y p7] X.env).map (·.2) = assign (.Attribute (.Name x p5) "stand" p6) X.env :: (assignEach [.Name y p7] X.env).map (·.2) := by rfl)
    (hs3 : (assignEach [.Name y p7] X.env).map (·.2) = assign (.Name y p7) X.env :: (assignEach [] X.env).map (·.2) := by rfl)
    (hs : swapsWithSole [.Tuple [.Attribute (.Name x p3) "crew" p4, .Attribute (.Name x p5) "stand" p6, .Name y p7] k0 p8] (.Call (.Attribute (.Attribute (.Name x p1) "past" p2) "pop" apos) [] [] cpos) pos.line X.env = pure false := by rfl)
    (hw : swappedStores [.Tuple [.Attribute (.Name x p3) "crew" p4, .Attribute (.Name x p5) "stand" p6, .Name y p7] k0 p8] (.Call (.Attribute (.Attribute (.Name x p1) "past" p2) "pop" apos) [] [] cpos) X.env = pure none := by rfl)
    (h1 : (assignEach [.Tuple [.Attribute (.Name x p3) "crew" p4, .Attribute (.Name x p5) "stand" p6, .Name y p7] k0 p8] X.env).map (·.2) = [assign (.Tuple [.Attribute (.Name x p3) "crew" p4, .Attribute (.Name x p5) "stand" p6, .Name y p7] k0 p8) X.env] := by rfl) :
    PIS X G (.Assign [.Tuple [.Attribute (.Name x p3) "crew" p4, .Attribute (.Name x p5) "stand" p6, .Name y p7] k0 p8] (.Call (.Attribute (.Attribute (.Name x p1) "past" p2) "pop" apos) [] [] cpos) pos) (undo1 i j) := by
  refine PS.imp (ps_asg (pe_bm0 PySem.F.plainAttrs_list PySem.F.slot_list_pop PySem.F.type_list_pop mt_pop (pe_lf i lfPast RK hN hv hd hcd hb) hbase hline) (pg_tup hc (pgs_cons (pg_fld (pe_var hN hv hd hcd)) (pgs_cons (pg_fld (pe_var hN hv hd hcd)) (pgs_cons (pg_name hNd hM hy hf) pgs_nil hs3) hs2) hs1) hn hst) hs hw h1) fun D σ H ⟨V, ρ, E, g⟩ => ?_
  unfold undo1 at g
  cases e0 : ρ[i]? with
  | none => rw [e0] at g; exact False.elim g
  | some s =>
    rw [e0] at g
    cases s with
    | no => exact False.elim g
    | sh _ => exact False.elim g
    | ow _ => exact False.elim g
    | ob o =>
      have g : GoalI X.kw G V (match o.past.getLast? with
        | some (.tuple [x, y, z]) => if i ≠ j ∧ j < ρ.length then .nx (((((ρ.set i (.ob { o with past := o.past.dropLast })).set i (.ob { o with past := o.past.dropLast, crew := x })).set i (.ob { o with past := o.past.dropLast, crew := x, stand := y }))).set j (.sh z)) else .bad
        | _ => .bad) D := g
      have hil : i < ρ.length := (List.getElem?_eq_some_iff.mp e0).1
      obtain ⟨a, c, q1, ic, rc, hid⟩ := E.cells e0
      cases el : o.past.getLast? with
      | none => rw [el] at g; exact False.elim g
      | some t =>
        rw [el] at g
        obtain ⟨w, w1, w2⟩ := rc.past.last el
        refine ⟨a, c, q1, ic, .inl ⟨rfl, c.zs, .inl (.inl ic.l3)⟩, c.lp, c.zs, w, rfl, rfl, ic.l3, w1, ?_⟩
        cases t with
        | tuple ds =>
          cases w2 with
          | @tup ta xs _ ht rr =>
            cases rr with
            | nil => exact False.elim g
            | @cons v1 _ d1 _ r1 rr =>
              cases rr with
              | nil => exact False.elim g
              | @cons v2 _ d2 _ r2 rr =>
                cases rr with
                | nil => exact False.elim g
                | @cons v3 _ d3 _ r3 rr =>
                  cases rr with
                  | cons _ _ => exact False.elim g
                  | nil =>
                    have g : GoalI X.kw G V (if i ≠ j ∧ j < ρ.length then .nx (((((ρ.set i (.ob { o with past := o.past.dropLast })).set i (.ob { o with past := o.past.dropLast, crew := d1 })).set i (.ob { o with past := o.past.dropLast, crew := d1, stand := d2 }))).set j (.sh d3)) else .bad) D := g
                    by_cases hj : i ≠ j ∧ j < ρ.length
                    · rw [if_pos hj] at g
                      have E1 := E.cell (o' := { o with past := o.past.dropLast }) e0 q1 ic (lfPast.cell ic).2 (luPast.is c.zs.dropLast ic) (luPast.rep rc rc.past.dropLast) ⟨rfl, rfl, rfl, rfl⟩
                      have l1 : (ρ.set i (.ob { o with past := o.past.dropLast }))[i]? = some (.ob { o with past := o.past.dropLast }) := List.getElem?_set_self hil
                      obtain ⟨a1, c1, z1, ic1, rc1, _⟩ := E1.cells l1
                      rw [q1] at z1
                      cases z1
                      have E2 := E1.cell (o' := { o with past := o.past.dropLast, crew := d1 }) l1 q1 ic1 (.inl rfl) (ic1.fld (f := "crew") (by decide)) ⟨rc1.first, r1, rc1.stand, rc1.sung, rc1.deeds, rc1.past⟩ ⟨rfl, rfl, rfl, rfl⟩
                      have l2 : ((ρ.set i (.ob { o with past := o.past.dropLast })).set i (.ob { o with past := o.past.dropLast, crew := d1 }))[i]? = some (.ob { o with past := o.past.dropLast, crew := d1 }) := List.getElem?_set_self (by rw [List.length_set]; exact hil)
                      obtain ⟨a2, c2, z2, ic2, rc2, _⟩ := E2.cells l2
                      rw [q1] at z2
                      cases z2
                      have E3 := E2.cell (o' := { o with past := o.past.dropLast, crew := d1, stand := d2 }) l2 q1 ic2 (.inl rfl) (ic2.fld (f := "stand") (by decide)) ⟨rc2.first, rc2.crew, r2, rc2.sung, rc2.deeds, rc2.past⟩ ⟨rfl, rfl, rfl, rfl⟩
                      refine ⟨ta, _, rfl, sqt E1.sub ht, rfl, _, _, rfl, .ref a, q1, a, aRun X.K, c1.dx, c1.fs, rfl, ic1.ins, RK.cls, RK.no _ (by decide), Nat.lt_of_le_of_lt ic1.len (by decide), ?_⟩
                      refine ⟨_, _, rfl, .ref a, q1, a, aRun X.K, c2.dx, c2.fs, rfl, ic2.ins, RK.cls, RK.no _ (by decide), Nat.lt_of_le_of_lt ic2.len (by decide), ?_⟩
                      exact ⟨_, _, rfl, rfl, g _ _ _ (E3.setSh r3 hl) (Same.refl _)⟩
                    · rw [if_neg hj] at g; exact False.elim g
        | _ => exact False.elim g
theorem pis_undo3 (i : Nat) (RK : RunK X.K) (hN : X.N[i]? = some x := by rfl) (hv : Vis X.env.scope x := by first | exact Or.inl rfl | exact Or.inr (Or.inl rfl) | exact Or.inr (Or.inr rfl)) (hd : (x == ("__debug__" : Str)) = false := by decide) (hcd : (x == ("__classdict__" : Str)) = false := by decide)
    (hb : attributeBase (.Name x p1) "deeds" X.env (eval (.Name x p1) X.env) = eval (.Name x p1) X.env := by rfl)
    (hbase : attributeBase (.Attribute (.Name x p1) "deeds" p2) "pop" X.env (eval (.Attribute (.Name x p1) "deeds" p2) X.env) = eval (.Attribute (.Name x p1) "deeds" p2) X.env := by rfl) (hline : (apos.endLine == cpos.line) = true := by rfl)
    (hsw : swapsWith (.Call (.Attribute (.Attribute (.Name x p1) "deeds" p2) "pop" apos) [] [] cpos) none pos.line X.env = pure false := by rfl) :
    PIS X G (.Expr (.Call (.Attribute (.Attribute (.Name x p1) "deeds" p2) "pop" apos) [] [] cpos) pos) (undo3 i) := by
  refine PS.imp (ps_expr (pe_bm0 PySem.F.plainAttrs_list PySem.F.slot_list_pop PySem.F.type_list_pop mt_pop (pe_lf i lfDeeds RK hN hv hd hcd hb) hbase hline) hsw) fun D σ H ⟨V, ρ, E, g⟩ => ?_
  unfold undo3 at g
  cases e0 : ρ[i]? with
  | none => rw [e0] at g; exact False.elim g
  | some s =>
    rw [e0] at g
    cases s with
    | no => exact False.elim g
    | sh _ => exact False.elim g
    | ow _ => exact False.elim g
    | ob o =>
      have g : GoalI X.kw G V (match o.deeds.getLast? with
        | some _ => .nx (ρ.set i (.ob { o with deeds := o.deeds.dropLast }))
        | none => .bad) D := g
      obtain ⟨a, c, q1, ic, rc, hid⟩ := E.cells e0
      cases el : o.deeds.getLast? with
      | none => rw [el] at g; exact False.elim g
      | some t =>
        rw [el] at g
        obtain ⟨w, w1, w2⟩ := rc.deeds.last el
        refine ⟨a, c, q1, ic, .inl ⟨rfl, c.ys, .inl (.inl ic.l2)⟩, c.ld, c.ys, w, rfl, rfl, ic.l2, w1, ?_⟩
        exact g _ _ _ (E.cell (o' := { o with deeds := o.deeds.dropLast }) e0 q1 ic (lfDeeds.cell ic).2 (luDeeds.is c.ys.dropLast ic) (luDeeds.rep rc rc.deeds.dropLast) ⟨rfl, rfl, rfl, rfl⟩) (Same.refl _)
end
theorem ObIs.sungNew {K : PySem.W.Frag} {H : Hp} {a p : Addr} {c : ObC} {vs : List L2.V} (ic : ObIs K H a c) (hp : H p = none) : ObIs K (upd (upd H p (.lst vs)) a (.ins (aRun K) c.dx (putF "sung" (.ref p) c.fs))) a { c with fs := putF "sung" (.ref p) c.fs, ls := p, xs := vs } := by
  have nn : ∀ {b : Addr} {u : HO}, H b = some u → b ≠ p := fun {b u} e z => by rw [z, hp] at e; cases e
  have na : ∀ {b : Addr} {u : HO}, H b = some u → (∀ C dx fs, u ≠ .ins C dx fs) → b ≠ a := fun {b u} e n z => by
    rw [z, ic.ins] at e
    exact n _ _ _ (Option.some.inj e).symm
  have at_ : ∀ {b : Addr} {u : HO}, H b = some u → (∀ C dx fs, u ≠ .ins C dx fs) → (upd (upd H p (.lst vs)) a (.ins (aRun K) c.dx (putF "sung" (.ref p) c.fs))) b = some u := fun {b u} e n => by
    rw [upd_ne (na e n), upd_ne (nn e)]; exact e
  have look : ∀ g, (putF "sung" (.ref p) c.fs).lookup g = if g = "sung" then some (.ref p) else c.fs.lookup g := fun g => lookup_putF "sung" g (.ref p) c.fs
  refine ⟨upd_same, at_ ic.own (fun _ _ _ z => nomatch z), ?_, ?_, ?_, ?_, ?_, ?_, fun g hg => ?_, ?_, ?_, at_ ic.l2 (fun _ _ _ z => nomatch z), at_ ic.l3 (fun _ _ _ z => nomatch z), fun z => ?_, fun z => ?_, ic.n3⟩
  · exact (look _).trans ((if_neg (by decide)).trans ic.f1)
  · exact (look _).trans ((if_neg (by decide)).trans ic.f2)
  · exact (look _).trans ((if_neg (by decide)).trans ic.f3)
  · exact (look _).trans (if_pos rfl)
  · exact (look _).trans ((if_neg (by decide)).trans ic.f5)
  · exact (look _).trans ((if_neg (by decide)).trans ic.f6)
  · exact (look g).trans ((if_neg (fun z => hg (by rw [z]; decide))).trans (ic.no g hg))
  · show (putF "sung" (.ref p) c.fs).length ≤ 20
    rw [putF_len _ _ _ (by rw [ic.f4]; exact fun z => nomatch z)]; exact ic.len
  · show upd (upd H p (.lst vs)) a _ p = _
    rw [upd_ne (nn ic.ins).symm, upd_same]
  · exact nn ic.l2 z.symm
  · exact nn ic.l3 z.symm
section
variable {X : Cx} {G : Fr} {x y : Str} {p1 p2 p3 p4 p5 p6 pos : Pos}
theorem pis_undo2 {p6 p2' : Pos} (i j : Nat) (RK : RunK X.K) (hN : X.N[i]? = some x := by rfl) (hv : Vis X.env.scope x := by first | exact Or.inl rfl | exact Or.inr (Or.inl rfl) | exact Or.inr (Or.inr rfl)) (hd : (x == ("__debug__" : Str)) = false := by decide) (hcd : (x == ("__classdict__" : Str)) = false := by decide)
    (hM : X.N[j]? = some y := by rfl) (hw : Vis X.env.scope y := by first | exact Or.inl rfl | exact Or.inr (Or.inl rfl) | exact Or.inr (Or.inr rfl)) (hdy : (y == ("__debug__" : Str)) = false := by decide) (hcy : (y == ("__classdict__" : Str)) = false := by decide)
    (hb : attributeBase (.Name x p1) "sung" X.env (eval (.Name x p1) X.env) = eval (.Name x p1) X.env := by rfl)
    (hs : swapsWith (.Subscript (.Attribute (.Name x p1) "sung" p2) (.Slice none (some (.Name y p3)) none p4) p5) (some (.Attribute (.Name x p6) "sung" p2')) pos.line X.env = pure false := by rfl) :
    PIS X G (.Assign [.Attribute (.Name x p6) "sung" p2'] (.Subscript (.Attribute (.Name x p1) "sung" p2) (.Slice none (some (.Name y p3)) none p4) p5) pos) (undo2 i j) := by
  refine PS.imp (ps_fld (pe_var hN hv hd hcd) (pe_slice sl_list (pe_lf i lfSung RK hN hv hd hcd hb) po_none (po_some (pe_var hM hw hdy hcy))) hs) fun D σ H ⟨V, ρ, E, g⟩ => ?_
  unfold undo2 at g
  cases e0 : ρ[i]? with
  | none => rw [e0] at g; exact False.elim g
  | some s =>
    rw [e0] at g
    cases s with
    | no => exact False.elim g
    | sh _ => exact False.elim g
    | ow _ => exact False.elim g
    | ob o =>
      cases e1 : ρ[j]? with
      | none => rw [e1] at g; exact False.elim g
      | some t =>
        rw [e1] at g
        cases t with
        | no => exact False.elim g
        | ow _ => exact False.elim g
        | ob _ => exact False.elim g
        | sh d =>
          cases d with
          | int k =>
            have g : GoalI X.kw G V (.nx (ρ.set i (.ob { o with sung := cutD o.sung none (some k) }))) D := g
            obtain ⟨a, c, q1, ic, rc, hid⟩ := E.cells e0
            obtain ⟨w, w1, w2⟩ := E.shd e1
            cases w2
            refine ⟨a, c, q1, ic, .int k, w1, k, rfl, c.ls, c.xs, rfl, .inl (.inl ic.l1), fun p hp => ?_⟩
            have ic' := ObIs.sungNew (vs := cutV c.xs none (some k)) ic hp
            have pa : a ≠ p := fun z => by rw [← z, ic.ins] at hp; cases hp
            have vp : V p = none := by
              cases ev : V p with
              | none => rfl
              | some x => have := E.sub p x ev; rw [hp] at this; cases this
            refine ⟨.ref a, q1, a, aRun X.K, c.dx, c.fs, rfl, ?_, RK.cls, RK.no _ (by decide), Nat.lt_of_le_of_lt ic.len (by decide), ?_⟩
            · rw [upd_ne pa]; exact ic.ins
            have ff : ∀ b, Foot (upd (upd H p (.lst (cutV c.xs none (some k)))) a (.ins (aRun X.K) c.dx (putF "sung" (.ref p) c.fs))) a b → Foot H a b ∨ H b = none := fun b f => by
              rcases ic'.foot.mp f with z | z | z | z | z
              · exact .inl (ic.foot.mpr (.inl z))
              · exact .inl (ic.foot.mpr (.inr (.inl z)))
              · refine .inr ?_
                have z : b = p := z
                rw [z]; exact hp
              · exact .inl (ic.foot.mpr (.inr (.inr (.inr (.inl z)))))
              · exact .inl (ic.foot.mpr (.inr (.inr (.inr (.inr z)))))
            refine g _ _ _ (E.mut e0 q1 (fun b x nf e _ => ?_) (fun b nf e => ?_) (fun t => tabs_upd (fun x e => ?_) (tabs_upd (fun x e => by rw [hp] at e; cases e) t)) (Same.refl _) (fun b x e => ?_) (fun b _ e _ => e) (ObAt.mk' ic' ⟨rc.first, rc.crew, rc.stand, cut_rep rc.sung none (some k), rc.deeds, rc.past⟩ fun b f => ?_) ff) (Same.refl _)
            · have n1 : b ≠ a := fun z => nf (by rw [z]; exact ic.foot.mpr (.inl rfl))
              have n2 : b ≠ p := fun z => by rw [z, hp] at e; cases e
              rw [upd_ne n1, upd_ne n2]; exact e
            · have n1 : b ≠ a := fun z => nf (by rw [z]; exact ic.foot.mpr (.inl rfl))
              by_cases n2 : b = p
              · rw [upd_ne n1, n2, upd_same]; exact fun z => nomatch z
              · rw [upd_ne n1, upd_ne n2]; exact e
            · rw [upd_ne pa, ic.ins] at e
              cases e
              exact (ic.cell (ic.foot.mpr (.inl rfl))).elim fun x ⟨e, _, q⟩ => by rw [ic.ins] at e; cases e; exact q
            · have n1 : b ≠ a := fun z => by rw [z, hid a (ic.foot.mpr (.inl rfl))] at e; cases e
              have n2 : b ≠ p := fun z => by rw [z, vp] at e; cases e
              rw [upd_ne n1, upd_ne n2]; exact E.sub b x e
            · rcases ff b f with z | z
              · exact hid b z
              · cases ev : V b with
                | none => rfl
                | some x => have := E.sub b x ev; rw [z] at this; cases this
          | _ => exact False.elim g
end
end DL
set_option Elab.async false
set_option linter.all false
set_option maxRecDepth 100000
set_option maxHeartbeats 2000000
namespace DL
open PySem PySem.Spec PyProof.Rows L2
theorem updN {H : Hp} {q p : Addr} {o : HO} (h : upd H q o p = none) : p ≠ q ∧ H p = none := by
  by_cases e : p = q
  · rw [e, upd_same] at h; cases h
  · rw [upd_ne e] at h; exact ⟨e, h⟩
theorem lenP (f : Str) (v : L2.V) : ∀ {m : Nat} {fs : List (Str × L2.V)}, fs.length ≤ m → (putF f v fs).length ≤ m + 1
  | m, [], _ => Nat.succ_le_succ (Nat.zero_le m)
  | m, (g, x) :: r, h => by
    unfold putF
    rw [List.length_cons] at h
    split
    · rw [List.length_cons]; omega
    · rw [List.length_cons]
      cases m with
      | zero => omega
      | succ m => have := lenP f v (m := m) (fs := r) (by omega); omega
def fs6 (p1 p2 p3 p4 : Addr) (vc vs : L2.V) : List (Str × L2.V) := putF "past" (.ref p4) (putF "deeds" (.ref p3) (putF "sung" (.ref p2) (putF "stand" vs (putF "crew" vc (putF "first" (.ref p1) [])))))
structure Born (H Hf : Hp) (a C dx : Addr) (vc vs : L2.V) (p1 p2 p3 p4 : Addr) : Prop where
  e1 : H p1 = none
  e2 : H p2 = none
  e3 : H p3 = none
  e4 : H p4 = none
  n12 : p2 ≠ p1
  n13 : p3 ≠ p1
  n14 : p4 ≠ p1
  n23 : p3 ≠ p2
  n24 : p4 ≠ p2
  n34 : p4 ≠ p3
  ea : Hf a = some (.ins C dx (fs6 p1 p2 p3 p4 vc vs))
  g1 : Hf p1 = some (.tup [vc, vs])
  g2 : Hf p2 = some (.lst [])
  g3 : Hf p3 = some (.lst [])
  g4 : Hf p4 = some (.lst [])
  far : ∀ b, b ≠ a → b ≠ p1 → b ≠ p2 → b ≠ p3 → b ≠ p4 → Hf b = H b
def sBorn (C : Addr) : TS := fun D σ H => ∃ a dx vc vs, σ[0]? = some (some (.ref a)) ∧ σ[1]? = some (some vc) ∧ σ[2]? = some (some vs) ∧ H a = some (.ins C dx []) ∧ ∀ p1 p2 p3 p4 Hf, Born H Hf a C dx vc vs p1 p2 p3 p4 → D.nx σ Hf
variable [TabCtx]
section
variable {X : Cx} {x y z : Str} {r1 r2 r3 r4 r5 r6 r7 r8 r9 u1 u2 u3 u4 u5 u6 u7 u8 u9 w1 w2 w3 w4 w5 w6 w7 w8 w9 : Pos} {k0 : Nat}
theorem pss_born (RK : RunK X.K) (hx : X.N[0]? = some x := by rfl) (hy : X.N[1]? = some y := by rfl) (hz : X.N[2]? = some z := by rfl)
    (vx : Vis X.env.scope x := by first | exact Or.inl rfl | exact Or.inr (Or.inl rfl) | exact Or.inr (Or.inr rfl)) (vy : Vis X.env.scope y := by first | exact Or.inl rfl | exact Or.inr (Or.inl rfl) | exact Or.inr (Or.inr rfl)) (vz : Vis X.env.scope z := by first | exact Or.inl rfl | exact Or.inr (Or.inl rfl) | exact Or.inr (Or.inr rfl))
    (dx : (x == ("__debug__" : Str)) = false := by decide) (cx : (x == ("__classdict__" : Str)) = false := by decide) (dy : (y == ("__debug__" : Str)) = false := by decide) (cy : (y == ("__classdict__" : Str)) = false := by decide) (dz : (z == ("__debug__" : Str)) = false := by decide) (cz : (z == ("__classdict__" : Str)) = false := by decide)
    (st1 : starEach [.Name y r1, .Name z r2] X.env = (false, eval (.Name y r1) X.env) :: starEach [.Name z r2] X.env := by rfl) (st2 : starEach [.Name z r2] X.env = (false, eval (.Name z r2) X.env) :: starEach [] X.env := by rfl)
    (s1 : swapsWith (.Tuple [.Name y r1, .Name z r2] k0 r3) (some (.Attribute (.Name x r4) "first" r5)) r6.line X.env = pure false := by rfl)
    (s2 : swapsWith (.Name y r7) (some (.Attribute (.Name x r8) "crew" r9)) u1.line X.env = pure false := by rfl)
    (s3 : swapsWith (.Name z u2) (some (.Attribute (.Name x u3) "stand" u4)) u5.line X.env = pure false := by rfl)
    (s4 : swapsWith (.List [] u6) (some (.Attribute (.Name x u7) "sung" u8)) u9.line X.env = pure false := by rfl)
    (s5 : swapsWith (.List [] w1) (some (.Attribute (.Name x w2) "deeds" w3)) w4.line X.env = pure false := by rfl)
    (s6 : swapsWith (.List [] w5) (some (.Attribute (.Name x w6) "past" w7)) w8.line X.env = pure false := by rfl) :
    PSs X [.Assign [.Attribute (.Name x r4) "first" r5] (.Tuple [.Name y r1, .Name z r2] k0 r3) r6, .Assign [.Attribute (.Name x r8) "crew" r9] (.Name y r7) u1, .Assign [.Attribute (.Name x u3) "stand" u4] (.Name z u2) u5,
      .Assign [.Attribute (.Name x u7) "sung" u8] (.List [] u6) u9, .Assign [.Attribute (.Name x w2) "deeds" w3] (.List [] w1) w4, .Assign [.Attribute (.Name x w6) "past" w7] (.List [] w5) w8] (sBorn (aRun X.K)) := by
  have vs0 {p : Pos} : PE X (.Name x p) (tVar 0) := pe_var hx vx dx cx
  have vs1 {p : Pos} : PE X (.Name y p) (tVar 1) := pe_var hy vy dy cy
  have vs2 {p : Pos} : PE X (.Name z p) (tVar 2) := pe_var hz vz dz cz
  refine PSs.imp (pss_cons (ps_fld vs0 (pe_tup (pa_cons vs1 (pa_cons vs2 pa_nil st2) st1)) s1) (pss_cons (ps_fld vs0 vs1 s2) (pss_cons (ps_fld vs0 vs2 s3) (pss_cons (ps_fld vs0 (pe_lst pa_nil) s4) (pss_cons (ps_fld vs0 (pe_lst pa_nil) s5) (pss_cons (ps_fld vs0 (pe_lst pa_nil) s6) pss_nil))))))
    fun D σ H ⟨a, dx, vc, vs, q0, q1, q2, ea, k⟩ => ?_
  have fld : ∀ {f : Str}, f ∈ obNames → NoAttr X.K (aRun X.K) f := fun h => RK.no _ h
  refine ⟨vc, q1, vs, q2, by show 2 ≤ sizeLine; decide, fun p1 h1 => ?_⟩
  have a1 : a ≠ p1 := fun e => by rw [← e, ea] at h1; cases h1
  refine ⟨.ref a, q0, a, aRun X.K, dx, [], rfl, by rw [upd_ne a1]; exact ea, RK.cls, fld (by decide), by decide, ?_⟩
  refine ⟨vc, q1, .ref a, q0, a, aRun X.K, dx, _, rfl, upd_same, RK.cls, fld (by decide), Nat.lt_of_le_of_lt (lenP _ _ (fs := []) (m := 0) (Nat.le_refl _)) (by decide), ?_⟩
  refine ⟨vs, q2, .ref a, q0, a, aRun X.K, dx, _, rfl, upd_same, RK.cls, fld (by decide), Nat.lt_of_le_of_lt (lenP _ _ (lenP _ _ (fs := []) (m := 0) (Nat.le_refl _))) (by decide), ?_⟩
  refine ⟨by decide, fun p2 h2 => ?_⟩
  obtain ⟨a2, t2⟩ := updN h2
  obtain ⟨_, t2⟩ := updN t2
  obtain ⟨_, t2⟩ := updN t2
  obtain ⟨b12, t2⟩ := updN t2
  refine ⟨.ref a, q0, a, aRun X.K, dx, _, rfl, by rw [upd_ne a2.symm]; exact upd_same, RK.cls, fld (by decide), Nat.lt_of_le_of_lt (lenP _ _ (lenP _ _ (lenP _ _ (fs := []) (m := 0) (Nat.le_refl _)))) (by decide), ?_⟩
  refine ⟨by decide, fun p3 h3 => ?_⟩
  obtain ⟨a3, t3⟩ := updN h3
  obtain ⟨b23, t3⟩ := updN t3
  obtain ⟨_, t3⟩ := updN t3
  obtain ⟨_, t3⟩ := updN t3
  obtain ⟨_, t3⟩ := updN t3
  obtain ⟨b13, t3⟩ := updN t3
  refine ⟨.ref a, q0, a, aRun X.K, dx, _, rfl, by rw [upd_ne a3.symm]; exact upd_same, RK.cls, fld (by decide), Nat.lt_of_le_of_lt (lenP _ _ (lenP _ _ (lenP _ _ (lenP _ _ (fs := []) (m := 0) (Nat.le_refl _))))) (by decide), ?_⟩
  refine ⟨by decide, fun p4 h4 => ?_⟩
  obtain ⟨a4, t4⟩ := updN h4
  obtain ⟨b34, t4⟩ := updN t4
  obtain ⟨_, t4⟩ := updN t4
  obtain ⟨b24, t4⟩ := updN t4
  obtain ⟨_, t4⟩ := updN t4
  obtain ⟨_, t4⟩ := updN t4
  obtain ⟨_, t4⟩ := updN t4
  obtain ⟨b14, t4⟩ := updN t4
  refine ⟨.ref a, q0, a, aRun X.K, dx, _, rfl, by rw [upd_ne a4.symm]; exact upd_same, RK.cls, fld (by decide), Nat.lt_of_le_of_lt (lenP _ _ (lenP _ _ (lenP _ _ (lenP _ _ (lenP _ _ (fs := []) (m := 0) (Nat.le_refl _)))))) (by decide), ?_⟩
  refine k p1 p2 p3 p4 _ ⟨h1, t2, t3, t4, b12, b13, b14, b23, b24, b34, upd_same, ?_, ?_, ?_, ?_, fun b n0 n1 n2 n3 n4 => ?_⟩
  · rw [upd_ne a1.symm, upd_ne b14.symm, upd_ne a1.symm, upd_ne b13.symm, upd_ne a1.symm, upd_ne b12.symm, upd_ne a1.symm, upd_ne a1.symm, upd_ne a1.symm, upd_same]
  · rw [upd_ne a2, upd_ne b24.symm, upd_ne a2, upd_ne b23.symm, upd_ne a2, upd_same]
  · rw [upd_ne a3, upd_ne b34.symm, upd_ne a3, upd_same]
  · rw [upd_ne a4, upd_same]
  · rw [upd_ne n0, upd_ne n4, upd_ne n0, upd_ne n3, upd_ne n0, upd_ne n2, upd_ne n0, upd_ne n0, upd_ne n0, upd_ne n1]
end
/-- the frame of __init__ -/
abbrev mkNw (H V : Hp) (a : Addr) (E : XK) : Fr := ⟨H, V, some a, fun cls _ H' => E cls none H', 0, fun _ => False⟩
def startN (n : Nat) (ds : List PyData) : Rho := .no :: (ds.map .sh ++ List.replicate (n - 1 - ds.length) .no)
theorem env_nw {K : KW} {V H : Hp} {a : Addr} {E : XK} {vs : List L2.V} {ds : List PyData} (r : RepL K V vs ds) {N : List Str} (hle : vs.length + 1 ≤ N.length) (s : Same V H) (ht : TabV H V) : EnvR K (mkNw H V a E) H V (L2.start N (.ref a :: vs)) (startN N.length ds) := by
  have hl := r.length
  have f : ∀ {i : Nat} {t : Sl}, (startN N.length ds)[i]? = some t → (∃ j d, i = j + 1 ∧ ds[j]? = some d ∧ t = .sh d) ∨ t = .no := fun {i t} h => by
    unfold startN at h
    cases i with
    | zero => exact .inr (Option.some.inj h).symm
    | succ j =>
      rw [List.getElem?_cons_succ] at h
      by_cases hi : j < ds.length
      · rw [List.getElem?_append_left (by simpa using hi), List.getElem?_map] at h
        obtain ⟨d', h1, h2⟩ := Option.map_eq_some_iff.mp h
        exact .inl ⟨j, d', rfl, h1, h2.symm⟩
      · rw [List.getElem?_append_right (by simpa using hi), List.getElem?_replicate] at h
        split at h
        · exact .inr (Option.some.inj h).symm
        · cases h
  refine ⟨?_, Ext.refl s, fun i d h => ?_, fun i d h => ?_, fun i j b d e h1 h2 _ _ => ?_, fun b h => ?_, ht, ⟨fun i p h => ?_, fun i j b p q h1 h2 _ _ => ?_⟩⟩
  · simp only [L2.start, startN, List.length_append, List.length_map, List.length_cons, List.length_replicate, hl]
    omega
  · rcases f h with ⟨j, d', rfl, hj, z⟩ | z
    · cases z
      obtain ⟨v, h3, h4⟩ := r.get j hj
      refine ⟨v, ?_, h4⟩
      unfold L2.start
      have hj' : j < vs.length := (List.getElem?_eq_some_iff.mp h3).1
      rw [List.getElem?_append_left (by simp only [List.length_map, List.length_cons]; omega), List.getElem?_map, List.getElem?_cons_succ, h3]
      rfl
    · cases z
  · rcases f h with ⟨_, _, _, _, z⟩ | z <;> cases z
  · rcases f h1 with ⟨_, _, _, _, z⟩ | z <;> cases z
  · cases h
    rfl
  · rcases f h with ⟨_, _, _, _, z⟩ | z <;> cases z
  · rcases f h1 with ⟨_, _, _, _, z⟩ | z <;> cases z
/-- what a new song is -/
theorem Born.obAt {K : KW} {H V H1 V1 Hf : Hp} {a dx p1 p2 p3 p4 : Addr} {vc vs : L2.V} {c s : PyData} (b : Born H1 Hf a (aRun K.k) dx vc vs p1 p2 p3 p4) (x : Ext H V H1 V1) (ha : H a ≠ none) (hd : H dx ≠ none) (va : V a = none) (vd : V dx = none) (h1a : H1 a = some (.ins (aRun K.k) dx [])) (h1d : H1 dx = some (.own a)) (hne : dx ≠ a) (rc : Rep K V1 vc c) (rs : Rep K V1 vs s) :
    Ext (hide (hide H a) dx) V Hf (upd V1 p1 (.tup [vc, vs])) ∧ ObAt K (upd V1 p1 (.tup [vc, vs])) Hf a ⟨.tuple [c, s], c, s, [], [], []⟩ ∧ ∀ q, Foot Hf a q → q = a ∨ q = dx ∨ H q = none := by
  have v1a : V1 a = none := x.f a va ha
  have v1d : V1 dx = none := x.f dx vd hd
  have nz : ∀ {q : Addr}, H1 q = none → H q = none ∧ V1 q = none := fun {q} e => by
    refine ⟨?_, ?_⟩
    · cases e2 : H q with
      | none => rfl
      | some y => exact absurd e (x.th q (by rw [e2]; exact fun z => nomatch z))
    · cases e2 : V1 q with
      | none => rfl
      | some y => rw [x.s q y e2] at e; cases e
  have ne : ∀ {q q' : Addr} {y : HO}, H1 q = some y → H1 q' = none → q ≠ q' := fun {q q' y} e1 e2 z => by rw [z, e2] at e1; cases e1
  have hh : ∀ {q : Addr} {y : HO}, hide (hide H a) dx q = some y → q ≠ a ∧ q ≠ dx ∧ H q = some y := fun {q y} e => by
    by_cases e1 : q = dx
    · rw [e1, hide_eq] at e; cases e
    · rw [hide_ne e1] at e
      by_cases e2 : q = a
      · rw [e2, hide_eq] at e; cases e
      · rw [hide_ne e2] at e; exact ⟨e2, e1, e⟩
  have hhs : Same (hide (hide H a) dx) H := fun q y e => (hh e).2.2
  have hn : ∀ {q : Addr}, hide (hide H a) dx q ≠ none → q ≠ a ∧ q ≠ dx ∧ H q ≠ none := fun {q} e => by
    cases e2 : hide (hide H a) dx q with
    | none => exact absurd e2 e
    | some y => exact ⟨(hh e2).1, (hh e2).2.1, by rw [(hh e2).2.2]; exact fun z => nomatch z⟩
  have farS : ∀ {q : Addr} {y : HO}, q ≠ a → H1 q = some y → Hf q = some y := fun {q y} n e => by
    rw [b.far q n (ne e b.e1) (ne e b.e2) (ne e b.e3) (ne e b.e4)]; exact e
  have sv : Same V1 (upd V1 p1 (.tup [vc, vs])) := same_new (nz b.e1).2
  have pa : ∀ {q : Addr}, H1 q = none → q ≠ a := fun {q} e => (ne h1a e).symm
  have pd : ∀ {q : Addr}, H1 q = none → q ≠ dx := fun {q} e => (ne h1d e).symm
  have ic : ObIs K.k Hf a ⟨dx, p2, p3, p4, fs6 p1 p2 p3 p4 vc vs, .ref p1, vc, vs, [], [], []⟩ := by
    have look : ∀ g : Str, (fs6 p1 p2 p3 p4 vc vs).lookup g = if g = "past" then some (L2.V.ref p4) else if g = "deeds" then some (.ref p3) else if g = "sung" then some (.ref p2) else if g = "stand" then some vs else if g = "crew" then some vc else if g = "first" then some (.ref p1) else none := fun g => by
      unfold fs6
      rw [lookup_putF, lookup_putF, lookup_putF, lookup_putF, lookup_putF, lookup_putF]
      rfl
    refine ⟨b.ea, farS hne h1d, ?_, ?_, ?_, ?_, ?_, ?_, fun f hf => ?_, Nat.le_trans (lenP _ _ (lenP _ _ (lenP _ _ (lenP _ _ (lenP _ _ (lenP _ _ (fs := []) (m := 0) (Nat.le_refl _))))))) (by decide), b.g2, b.g3, b.g4, b.n23.symm, b.n24.symm, b.n34.symm⟩
    · exact (look _).trans rfl
    · exact (look _).trans rfl
    · exact (look _).trans rfl
    · exact (look _).trans rfl
    · exact (look _).trans rfl
    · exact (look _).trans rfl
    · have n : ∀ g ∈ obNames, f ≠ g := fun g hg z => hf (by rw [z]; exact hg)
      exact (look f).trans (by rw [if_neg (n _ (by decide)), if_neg (n _ (by decide)), if_neg (n _ (by decide)), if_neg (n _ (by decide)), if_neg (n _ (by decide)), if_neg (n _ (by decide))])
  have ft : ∀ q, Foot Hf a q → q = a ∨ q = dx ∨ q = p2 ∨ q = p3 ∨ q = p4 := fun q f => ic.foot.mp f
  refine ⟨⟨fun q y e n => ?_, x.v.trans sv, fun q y e => ?_, fun q e h => ?_, fun q h => ?_, fun t => ?_⟩, ObAt.mk' ic ⟨.tup upd_same (.cons (rc.mono sv) (.cons (rs.mono sv) .nil)), rc.mono sv, rs.mono sv, .nil, .nil, .nil⟩ fun q f => ?_, fun q f => ?_⟩
  · obtain ⟨q1, q2, q3⟩ := hh e
    exact farS q1 (x.h q y q3 n)
  · by_cases e1 : q = p1
    · rw [e1, upd_same] at e; cases e
      rw [e1]; exact b.g1
    · rw [upd_ne e1] at e
      exact farS (fun z => by rw [z, v1a] at e; cases e) (x.s q y e)
  · obtain ⟨q1, q2, q3⟩ := hn h
    rw [upd_ne (fun z => q3 (by rw [z]; exact (nz b.e1).1))]
    exact x.f q e q3
  · obtain ⟨q1, q2, q3⟩ := hn h
    have := x.th q q3
    cases e : H1 q with
    | none => exact absurd e this
    | some y => rw [farS q1 e]; exact fun z => nomatch z
  · intro r hr
    obtain ⟨ps, t1, t2, t3⟩ := x.t (t.ext hhs) r hr
    refine ⟨ps, farS (fun z => by rw [z, h1a] at t1; cases t1) t1, t2, fun pos cv hc => ?_⟩
    obtain ⟨cc, c1, c2⟩ := t3 pos cv hc
    exact ⟨cc, c1, farS (fun z => by rw [z, h1a] at c2; unfold LamX.CodeO at c2; cases c2) c2⟩
  · rcases ft q f with e | e | e | e | e
    · rw [e, upd_ne (pa b.e1).symm]; exact v1a
    · rw [e, upd_ne (pd b.e1).symm]; exact v1d
    · rw [e, upd_ne b.n12]; exact (nz b.e2).2
    · rw [e, upd_ne b.n13]; exact (nz b.e3).2
    · rw [e, upd_ne b.n14]; exact (nz b.e4).2
  · rcases ft q f with e | e | e | e | e
    · exact .inl e
    · exact .inr (.inl e)
    · rw [e]; exact .inr (.inr (nz b.e2).1)
    · rw [e]; exact .inr (.inr (nz b.e3).1)
    · rw [e]; exact .inr (.inr (nz b.e4).1)
/-- what __init__ does -/
def initR (n : Nat) (f1 f2 : SM) (ds : List PyData) : R Ob := if ds.length = 2 then (match f1 (startN n ds) with
  | .nx ρ1 => (match f2 ρ1 with
    | .nx ρ2 => (match (ρ2[1]? : Option Sl), (ρ2[2]? : Option Sl) with
      | some (Sl.sh c), some (Sl.sh s) => .ok ⟨.tuple [c, s], c, s, [], [], []⟩
      | _, _ => .bad)
    | .exc c => .exc c
    | _ => .bad)
  | .exc c => .exc c
  | _ => .bad) else .bad
section
variable {P : Program} {w : World} {K : PySem.W.Frag} {mg : Str → Option Value} {base : Heap} {x q : Str} {params : Arguments} {b1 b2 : Stmt} {rest : List Stmt} {scope : Scope} {fd : FuncData}
theorem tk_nw {N : List Str} {f0 : Addr} {cdv : Value} {A : Around} {outer : List Env} {s : Shared} {H : Hp} {E : XK} {H0 V0 : Hp} {a : Addr} : Tk (cxM P w K mg base N q scope f0 cdv A outer s H E) (mkNw H0 V0 a E) := by
  have t : L2N.Takes (cxM P w K mg base N q scope f0 cdv A outer s H E) (fun cls d _ H' => E cls d H') := L2N.takes_of rfl rfl rfl rfl
  refine t.imp fun c d σ H' ⟨h1, h2⟩ => ?_
  rw [h1]
  exact h2
theorem fn_mkN {N : List Str} {k : Nat} {f1 f2 : SM} (D : FunD K x q params (b1 :: b2 :: rest) scope [] [] (aMet K "__init__") fd) (S : FnScope N ["self", "choir", "standing"] scope)
    (hbd : ∀ (kV doc pm : Value) (an : Option Addr) (cdv ct : Value) (us : List Value), us.length = (["self", "choir", "standing"] : List Str).length → bindArgs (PySem.W.fnOf x q params (b1 :: b2 :: rest) scope .none kV doc pm an cdv ct) ⟨us, []⟩ = pure ((["self", "choir", "standing"] : List Str).zip us))
    (hps : 3 ≤ N.length)
    (h1 : ∀ (cdv : Value) (A : Around) (outer : List Env) (s : Shared) (H V : Hp) (a : Addr) (E : XK), Room k (A.deeper (envOfC q scope s.heap.objs.size (aMet K "__init__") cdv)) → PMS (cxM P w K mg base N q scope (aMet K "__init__") cdv A outer s H E) (mkNw H V a E) b1 f1)
    (h2 : ∀ (cdv : Value) (A : Around) (outer : List Env) (s : Shared) (H V : Hp) (a : Addr) (E : XK), Room k (A.deeper (envOfC q scope s.heap.objs.size (aMet K "__init__") cdv)) → PMS (cxM P w K mg base N q scope (aMet K "__init__") cdv A outer s H E) (mkNw H V a E) b2 f2)
    (h3 : ∀ (cdv : Value) (A : Around) (outer : List Env) (s : Shared) (H : Hp) (E : XK), PSs (cxM P w K mg base N q scope (aMet K "__init__") cdv A outer s H E) rest (sBorn (aRun K))) :
    FnN P w K mg base (k + 1) (initR N.length f1 f2) := by
  refine ⟨fd, D.ok (CX := L2N.CX P w) S (fun vs H Q E h => h.1) fun cdv A outer s H vs Q E hr h => ?_, D.bindsN hbd, fun ds h => ?_⟩
  · obtain ⟨hl, a, dx, vs', V, ds, ht, rfl, ea, ed, hne, va, vd, sv, r, g⟩ := h
    rw [List.length_cons] at hl
    refine ⟨_, pss_cons (h1 cdv A outer s H V a E hr) (pss_cons (h2 cdv A outer s H V a E hr) (h3 cdv A outer s H E)), V, startN N.length ds, env_nw r (by omega) sv ht, ?_⟩
    unfold initR at g
    rw [if_pos (by rw [← r.length]; omega)] at g
    cases e1 : f1 (startN N.length ds) with
    | rt d ρ' => rw [e1] at g; exact False.elim g
    | rf d ρ' => rw [e1] at g; exact False.elim g
    | bk ρ' => rw [e1] at g; exact False.elim g
    | ct ρ' => rw [e1] at g; exact False.elim g
    | bad => rw [e1] at g; exact False.elim g
    | exc c => rw [e1] at g; exact fun σ' H' V' x => g H' V' x
    | nx ρ1 =>
      rw [e1] at g
      intro σ1 H1 V1 E1 v1
      refine ⟨V1, ρ1, E1, ?_⟩
      dsimp only at g
      cases e2 : f2 ρ1 with
      | rt d ρ' => rw [e2] at g; exact False.elim g
      | rf d ρ' => rw [e2] at g; exact False.elim g
      | bk ρ' => rw [e2] at g; exact False.elim g
      | ct ρ' => rw [e2] at g; exact False.elim g
      | bad => rw [e2] at g; exact False.elim g
      | exc c => rw [e2] at g; exact fun σ' H' V' x => g H' V' x
      | nx ρ2 =>
        rw [e2] at g
        intro σ2 H2 V2 E2 v2
        dsimp only at g
        cases q1 : ρ2[1]? with
        | none => rw [q1] at g; exact False.elim g
        | some t1 =>
          rw [q1] at g
          cases t1 with
          | no => exact False.elim g
          | ow _ => exact False.elim g
          | ob _ => exact False.elim g
          | sh c =>
            cases q2 : ρ2[2]? with
            | none => rw [q2] at g; exact False.elim g
            | some t2 =>
              rw [q2] at g
              cases t2 with
              | no => exact False.elim g
              | ow _ => exact False.elim g
              | ob _ => exact False.elim g
              | sh sd =>
                obtain ⟨vc, y1, z1⟩ := E2.sh 1 c q1
                obtain ⟨vss, y2, z2⟩ := E2.sh 2 sd q2
                have ea2 := E2.ext.h a _ ea (fun _ z => nomatch z)
                have ed2 := E2.ext.h dx _ ed (fun _ z => nomatch z)
                refine ⟨a, dx, vc, vss, E2.lent a rfl, y1, y2, ea2, fun p1 p2 p3 p4 Hf bn => ?_⟩
                obtain ⟨w1, w2, w3⟩ := bn.obAt (K := ⟨K, w⟩) (H := H) (V := V) E2.ext (by rw [ea]; exact fun z => nomatch z) (by rw [ed]; exact fun z => nomatch z) va vd ea2 ed2 hne z1 z2
                exact g Hf _ w1 w2 w3
  · unfold initR at h
    by_cases hl : ds.length = 2
    · exact hl
    · rw [if_neg hl] at h; exact absurd rfl h
end
end DL
set_option Elab.async false
set_option linter.all false
set_option maxRecDepth 100000
set_option maxHeartbeats 2000000
namespace DL
open PySem PySem.Spec PyProof.Rows L2
variable [TabCtx]
theorem pis_bad {X : Cx} {G : Fr} {st : Stmt} : PIS X G st badO := ⟨fun pins s σ H D I ⟨V, ρ, E, g⟩ => False.elim g⟩
section
variable {P : Program} {w : World} {K : PySem.W.Frag} {mg : Str → Option Value} {base : Heap} {lvl : Nat} {f : Addr} {ps : List Str}
def liftI (m : Ob → List PyData → R PyData) (o : Ob) (ds : List PyData) : R (PyData × Ob) := match m o ds with
  | .ok d => .ok (d, o)
  | .exc c => .exc c
  | .bad => .bad
theorem _root_.L2.FnOk.sp {CX : CXT} {k : Nat} {fd : FuncData} {sp sp' : Sp} (F : FnOk P w K mg base CX k f fd ps sp) (h : ∀ vs H Q E, sp' vs H Q E → sp vs H Q E) : FnOk P w K mg base CX k f fd ps sp' :=
  ⟨fun vs H Q E z => F.len vs H Q E (h vs H Q E z), fun A outer s H args us vs Q E hr he hb hv hs => F.run A outer s H args us vs Q E hr he hb hv (h vs H Q E hs)⟩
theorem FnO.toI {m : Ob → List PyData → R PyData} (G : FnO P w K mg base lvl f ps m) : FnI P w K mg base lvl f ps (liftI m) := by
  obtain ⟨fd, G1, G2, G3⟩ := G
  refine ⟨fd, G1.sp fun vs H Q E h => ?_, G2, fun o ds h => G3 o ds fun z => h (by unfold liftI; rw [z])⟩
  obtain ⟨h1, a, vs', V, o, ds, h2, h3, h4, h5, h6, g⟩ := h
  refine ⟨h1, a, vs', V, o, ds, h2, h3, h4, h5, h6, ?_⟩
  unfold liftI at g
  cases e : m o ds with
  | bad => rw [e] at g; exact g
  | exc c => rw [e] at g; exact g
  | ok d =>
    rw [e] at g
    intro v H' V' x r
    obtain ⟨q1, q2⟩ := h5.keep (H' := H') (V' := V') (fun b u _ e n => x.h b u e n) x.v fun b fb => by
      obtain ⟨y, e, _⟩ := Foot.exi h5 fb
      exact x.f b (h5.hid b fb) (by rw [e]; exact fun z => nomatch z)
    exact g v H' V' x.hideF q1 (fun b fb => .inl ((q2 b).mp fb)) r
end
def forgetO (ρ : Rho) : Rho := ρ.map fun s => match s with
  | .ow _ => .no
  | t => t
abbrev mkFO (H V : Hp) (E : XK) (obs : Addr → Prop) : Fr := { mkF H V E with obs := obs }
theorem EnvR.forgetO {K : KW} {F : Fr} {H V : Hp} {σ : L2.St} {ρ : Rho} {E : XK} (e : EnvR K F H V σ ρ) : EnvR K (mkFO H V E F.obs) H V σ (forgetO ρ) := by
  have at_ : ∀ {i : Nat} {t : Sl}, (DL.forgetO ρ)[i]? = some t → (∃ d, ρ[i]? = some (.sh d) ∧ t = .sh d) ∨ (∃ o, ρ[i]? = some (.ob o) ∧ t = .ob o) ∨ t = .no := fun {i t} h => by
    unfold DL.forgetO at h
    rw [List.getElem?_map] at h
    obtain ⟨u, h1, h2⟩ := Option.map_eq_some_iff.mp h
    cases u with
    | no => exact .inr (.inr h2.symm)
    | ob o => exact .inr (.inl ⟨o, h1, h2.symm⟩)
    | sh d => exact .inl ⟨d, h1, h2.symm⟩
    | ow d => exact .inr (.inr h2.symm)
  refine ⟨by rw [e.len]; simp [DL.forgetO], Ext.refl e.sub, fun i d h => ?_, fun i d h => ?_, fun i j a d d' h => ?_, (fun a h => by cases h), e.tabs, ⟨fun i o h => ?_, fun i j a o p h1 h2 h3 h4 => ?_⟩⟩
  · rcases at_ h with ⟨d', h1, h2⟩ | ⟨_, _, z⟩ | z
    · cases h2; exact e.sh i d h1
    · cases z
    · cases z
  · rcases at_ h with ⟨_, _, z⟩ | ⟨_, _, z⟩ | z <;> cases z
  · rcases at_ h with ⟨_, _, z⟩ | ⟨_, _, z⟩ | z <;> cases z
  · rcases at_ h with ⟨_, _, z⟩ | ⟨o', h1, z⟩ | z
    · cases z
    · cases z
      obtain ⟨a, q1, q2, q3, _⟩ := e.atO h1
      exact ⟨a, q1, q2, q3⟩
    · cases z
  · rcases at_ h1 with ⟨_, _, z⟩ | ⟨o', q1, z⟩ | z
    · cases z
    · rcases at_ h2 with ⟨_, _, z⟩ | ⟨p', q2, z⟩ | z
      · cases z
      · exact e.ob.dis i j a o' p' q1 q2 h3 h4
      · cases z
    · cases z
section
variable {X : Cx} {E : XK} {x m : Str} {p pos apos : Pos} {e : Expr} {es : List Expr} {t : TA} {pl : Sem Bool} {lvl : Nat} {ps : List Str} {mi : Ob → List PyData → R (PyData × Ob)}
theorem pe_meL (i : Nat) (RK : RunK X.K) (hm : m ∈ metNames) (Gf : FnI X.prog X.w X.K X.mg X.base lvl (aMet X.K m) ps mi) (hr : Room lvl X.A) (tk : L2N.Takes X (fun cls d _ H' => E cls d H')) (ha : PA X (e :: es) t) (hN : X.N[i]? = some x := by rfl)
    (hv : Vis X.env.scope x := by first | exact Or.inl rfl | exact Or.inr (Or.inl rfl) | exact Or.inr (Or.inr rfl)) (hd : (x == ("__debug__" : Str)) = false := by decide) (hcd : (x == ("__classdict__" : Str)) = false := by decide)
    (hst : starEach (e :: es) X.env = (false, eval e X.env) :: starEach es X.env := by rfl) (hpl : (backTo pos (starEach es X.env)).any (·.1) = false := by rfl)
    (ht : eval (.Call (.Attribute (.Name x p) m apos) (e :: es) [] pos) X.env = (do
      let ov ← eval (.Name x p) X.env
      standAt apos.atName
      let (f, first) ← holding [ov] (getMethod ov m pl)
      callWith pos f first (backTo pos (starEach (e :: es) X.env)) (backToKw pos (keywordEach [] X.env))) := by rfl) :
    PE X (.Call (.Attribute (.Name x p) m apos) (e :: es) [] pos) (tMe (aRun X.K) m (spI X.kw ps.length mi) i (fun _ => E) t) := by
  obtain ⟨fd, G1, G2, G3⟩ := Gf
  exact pe_me i RK.cls (RK.meth m hm) G1 hr G2 (fun σ => L2N.passAt tk σ) ha hN hv hd hcd hst hpl ht
end
def toldI (i : Nat) (m : Ob → List PyData → R (PyData × Ob)) (fs : M (List PyData)) : M PyData := fun ρ => match ρ[i]? with
  | some (.ob _) => (match fs (forgetO ρ) with
    | .ok (ds, ρ1) => (match ρ1[i]? with
      | some (.ob o) => (match m o ds with
        | .ok (d, o') => .ok (d, ρ.set i (.ob o'))
        | .exc c => if c ∈ HD.excs then .ok (HD.refusedD c, ρ) else .bad
        | .bad => .bad)
      | _ => .bad)
    | _ => .bad)
  | _ => .bad
section
variable {X : Cx} {G : Fr}
theorem tk_lamE {A : Around} {outer : List Env} {s : Shared} {H : Hp} {E : XK} {scope : Scope} {f c' : Addr} : L2N.Takes (HD.lamN X A outer s H E scope f c') (fun cls d _ H' => E cls d H') := L2N.takes_of rfl rfl rfl rfl
theorem pie_told {x m : Str} {fdt : FuncData} {pg : Arguments} {bg : List Stmt} {sg : Scope} {params : Arguments} {body : Expr} {scope : Scope} {fs : M (List PyData)} {k i n : Nat} {c P : Addr} {p lpos pos : Pos} {mi : Ob → List PyData → R (PyData × Ob)}
    (D : FunD X.K "_law_told" "_law_told" pg bg sg [] [] (He.ga X.K "_law_told") fdt) (hm : X.mg "_law_told" = some (.ref (He.ga X.K "_law_told"))) (hbd : ∀ (kV doc pm : Value) (an : Option Addr) (cdv ct : Value) (us : List Value), us.length = (["deed"] : List Str).length → bindArgs (PySem.W.fnOf "_law_told" "_law_told" pg bg sg .none kV doc pm an cdv ct) ⟨us, []⟩ = pure ((["deed"] : List Str).zip us))
    (Sg : FnScope ["deed", "e"] ["deed"] sg) (hva : Vis sg "deed") (hG : ∀ cdv, HD.GivesN X ["deed", "e"] "_law_told" sg (He.ga X.K "_law_told") cdv bg "deed" (x ++ ".<locals>." ++ "<lambda>") (HD.TToldN X.kw (· ∈ HD.excs)))
    (LA : HD.LamAt X.K X.mg X.base x X.env.code c P) (hq : X.env.qual = x ++ ".<locals>.") (hr : Room (k + 2) X.A) (L : LamX.LamS X.env.scope scope) (hmn : m ∉ obNames) (hn : ∀ o ds, mi o ds ≠ .bad → ds.length + 1 = n)
    (hb : ∀ (A : Around) (outer : List Env) (s : Shared) (H : Hp) (E : XK) (f c' : Addr) (H' V : Hp) (obs : Addr → Prop), Room k (A.deeper (LamX.lamEnv X scope s.heap.objs.size f c')) → ∃ t : TA, PE (HD.lamN X A outer s H E scope f c') body (tMe (aRun X.K) m (spI X.kw n mi) i (fun _ => E) t) ∧ ∀ σ H1 Q, tMA X.kw (mkFO H' V E obs) fs σ H1 Q → t σ H1 Q)
    (hg : Gl X "_law_told" := by rfl) (hdef : defaultsOf params X.env = ([], []) := by rfl)
    (hbind : ∀ (q : Str) (cl : List (Str × Addr)) (pm cv ctv : Value), bindArgs (PySem.W.kla_fn "<lambda>" q params body scope cl pm cv ctv) ⟨[], []⟩ = pure [] := by intros; rfl) :
    PIE X G (.Call (.Name "_law_told" p) [.Lambda params body scope lpos] [] pos) (toldI i mi fs) := by
  have hbb := D.bindsN (ps := ["deed"]) hbd
  obtain ⟨oc, od, dV, kV, doc, pm, an, cdv, ct, osl, rfl, lk, hcd, _, _⟩ := D.ex
  refine DL.PE.imp (HD.lamcall_N (t := fun E σ H' Q => ∃ V obs, tMe (aRun X.K) m (spI X.kw n mi) i (fun _ => E) (tMA X.kw (mkFO H' V E obs) fs) σ H' Q) (TT := HD.TToldN X.kw (· ∈ HD.excs)) hg hm D.kp lk hcd hbb Sg rfl hva (by rw [hq]; exact hG cdv) LA.tab LA.code (by rw [hq]; exact LA.mem) (by rw [hq]; exact LA.uniq) hr L hdef hbind ?_) fun σ H Q ⟨V, ρ, E, g⟩ => ?_
  · intro A outer s H E f c' hr'
    refine ⟨fun pins s1 σ H1 Q I ⟨V, obs, a, dx, fs', q1, q2, q3, q4⟩ => ?_⟩
    obtain ⟨t, w1, w2⟩ := hb A outer s H E f c' H1 V obs hr'
    exact w1.run pins s1 σ H1 Q I ⟨a, dx, fs', q1, q2, q3, w2 _ _ _ q4⟩
  · refine ⟨E.tabs.1, fun H1 ex => ?_⟩
    have e1 := ex V E.sub (E.tabs.2 _ LA.mem)
    have E1 := E.grow e1
    have E1' := E1
    obtain ⟨H0, V0, obs, Er, ok⟩ := E1
    unfold toldI at g
    cases e0 : ρ[i]? with
    | none => rw [e0] at g; exact False.elim g
    | some s =>
      rw [e0] at g
      cases s with
      | no => exact False.elim g
      | sh _ => exact False.elim g
      | ow _ => exact False.elim g
      | ob o0 =>
        obtain ⟨a, h1, oat0, _⟩ := E1'.at_ e0
        obtain ⟨c0, ic0, _⟩ := oat0.get
        refine ⟨V, obs, a, c0.dx, c0.fs, h1, ic0.ins, ic0.no m hmn, V, DL.forgetO ρ, EnvR.forgetO Er, ?_⟩
        have g : GoalE X.kw G σ V (Rep X.kw) (match fs (DL.forgetO ρ) with
          | .ok (ds, ρ1) => (match ρ1[i]? with
            | some (.ob o) => (match mi o ds with
              | .ok (d, o') => .ok (d, ρ.set i (.ob o'))
              | .exc c => if c ∈ HD.excs then .ok (HD.refusedD c, ρ) else .bad
              | .bad => .bad)
            | _ => .bad)
          | _ => .bad) Q := g
        cases ef : fs (DL.forgetO ρ) with
        | exc cc => rw [ef] at g; exact False.elim g
        | bad => rw [ef] at g; exact False.elim g
        | ok pr =>
          obtain ⟨ds, ρ1⟩ := pr
          rw [ef] at g
          intro vs H2 V2 st r
          have g : GoalE X.kw G σ V (Rep X.kw) (match ρ1[i]? with
            | some (.ob o) => (match mi o ds with
              | .ok (d, o') => .ok (d, ρ.set i (.ob o'))
              | .exc c => if c ∈ HD.excs then .ok (HD.refusedD c, ρ) else .bad
              | .bad => .bad)
            | _ => .bad) Q := g
          have x2 : Ext H1 V H2 V2 := st.env.ext
          have E2 := E1'.grow x2
          cases q0 : ρ1[i]? with
          | none => rw [q0] at g; exact False.elim g
          | some s1 =>
            rw [q0] at g
            cases s1 with
            | no => exact False.elim g
            | sh _ => exact False.elim g
            | ow _ => exact False.elim g
            | ob o1 =>
              obtain ⟨a1, q1, _, oat, _⟩ := st.env.atO q0
              rw [h1] at q1
              cases q1
              have g : GoalE X.kw G σ V (Rep X.kw) (match mi o1 ds with
                | .ok (d, o') => .ok (d, ρ.set i (.ob o'))
                | .exc c => if c ∈ HD.excs then .ok (HD.refusedD c, ρ) else .bad
                | .bad => .bad) Q := g
              have hl : mi o1 ds ≠ .bad → (L2.V.ref a :: vs).length = n := fun z => by rw [List.length_cons, r.length]; exact hn o1 ds z
              cases em : mi o1 ds with
              | bad => rw [em] at g; exact False.elim g
              | ok pr =>
                obtain ⟨d, o'⟩ := pr
                rw [em] at g
                refine ⟨hl (by rw [em]; exact fun z => nomatch z), a, vs, V2, o1, ds, E2.tabs, rfl, E2.sub, oat, r, ?_⟩
                rw [em]
                intro v H' V' x ho ft rv
                refine g v H' V' (E2.mut e0 h1 (fun b u nf e n => x.h b u (by rw [hideF_n nf]; exact e) n) (fun b nf hb => x.th b (by rw [hideF_n nf]; exact hb)) (fun t => x.t (tabs_hideF oat t)) x.v x.s (fun b nf hv hb => x.f b hv (by rw [hideF_n nf]; exact hb)) ho ft) (x2.v.trans x.v) rv
              | exc cc =>
                rw [em] at g
                have g : GoalE X.kw G σ V (Rep X.kw) (if cc ∈ HD.excs then .ok (HD.refusedD cc, ρ) else .bad) Q := g
                by_cases hc : cc ∈ HD.excs
                · rw [if_pos hc] at g
                  refine ⟨hl (by rw [em]; exact fun z => nomatch z), a, vs, V2, o1, ds, E2.tabs, rfl, E2.sub, oat, r, ?_⟩
                  rw [em]
                  intro H' V' x
                  exact ⟨cc, V', rfl, rfl, hc, (E2.grow x).tabs, x.s, fun v H3 V3 x3 rv => g v H3 V3 (E2.grow (x.trans x3)) (x2.v.trans (x.v.trans x3.v)) rv⟩
                · rw [if_neg hc] at g; exact False.elim g
end
def spLn (K : PySem.W.Frag) : Sp := fun vs H Q _ => ∃ a c, vs = [.ref a] ∧ ObIs K H a c ∧ ∀ p, H p = none → Q (.ref p) (upd H p (.lst c.xs))
def FnLn (P : Program) (w : World) (K : PySem.W.Frag) (mg : Str → Option Value) (base : Heap) (lvl : Nat) : Prop :=
  ∃ fd, FnOk P w K mg base (L2N.CX P w) lvl (aMet K "lines") fd ["self"] (spLn K) ∧ Binds K fd ["self"] []
def sLn (K : PySem.W.Frag) : TS := fun D σ H => ∃ a c, σ[0]? = some (some (.ref a)) ∧ ObIs K H a c ∧ ∀ p, H p = none → D.rt (.ref p) (upd H p (.lst c.xs))
section
variable {X : Cx} {G : Fr} {x y : Str} {p p2 p3 py apos pos cpos : Pos} {pl : Sem Bool}
theorem pss_ln (RK : RunK X.K) (hz : X.mg "list" = none) (hN : X.N[0]? = some x := by rfl) (hv : Vis X.env.scope x := by first | exact Or.inl rfl | exact Or.inr (Or.inl rfl) | exact Or.inr (Or.inr rfl)) (hd : (x == ("__debug__" : Str)) = false := by decide) (hcd : (x == ("__classdict__" : Str)) = false := by decide)
    (hb : attributeBase (.Name x p) "sung" X.env (eval (.Name x p) X.env) = eval (.Name x p) X.env := by rfl) (hg : Gl X "list" := by rfl)
    (he : starEach [.Attribute (.Name x p) "sung" apos] X.env = (false, eval (.Attribute (.Name x p) "sung" apos) X.env) :: starEach [] X.env := by rfl) (hpl : (backTo pos (starEach [] X.env)).any (·.1) = false := by rfl) :
    PSs X [.Return (some (.Call (.Name "list" p2) [.Attribute (.Name x p) "sung" apos] [] pos)) p3] (sLn X.K) := by
  refine PSs.imp (pss_one (ps_ret (pe_callTy call_list_of hg hz (by decide +kernel) (pa_cons (pe_lf 0 lfSung RK hN hv hd hcd hb) pa_nil he) (by decide) (by decide) he hpl))) fun D σ H ⟨a, c, h1, ic, q⟩ => ?_
  exact ⟨a, c, h1, ic, lfSung.adr c, lfSung.vs c, rfl, .inl (.inl (.inl (lfSung.cell ic).1)), fun l hl => q l hl⟩
end
section
variable {P : Program} {w : World} {K : PySem.W.Frag} {mg : Str → Option Value} {base : Heap} {x q : Str} {params : Arguments} {body : List Stmt} {scope : Scope} {fd : FuncData}
theorem fn_mkLn {N : List Str} {k : Nat} (D : FunD K x q params body scope [] [] (aMet K "lines") fd) (S : FnScope N ["self"] scope)
    (hbd : ∀ (kV doc pm : Value) (an : Option Addr) (cdv ct : Value) (us : List Value), us.length = (["self"] : List Str).length → bindArgs (PySem.W.fnOf x q params body scope .none kV doc pm an cdv ct) ⟨us, []⟩ = pure ((["self"] : List Str).zip us))
    (hb : ∀ (cdv : Value) (A : Around) (outer : List Env) (s : Shared) (H : Hp) (E : XK), PSs (cxM P w K mg base N q scope (aMet K "lines") cdv A outer s H E) body (sLn K)) :
    FnLn P w K mg base (k + 1) := by
  refine ⟨fd, D.ok (CX := L2N.CX P w) S (fun vs H Q E h => ?_) fun cdv A outer s H vs Q E hr h => ?_, D.bindsN hbd⟩
  · obtain ⟨a, c, rfl, _⟩ := h; rfl
  · obtain ⟨a, c, rfl, ic, q⟩ := h
    exact ⟨_, hb cdv A outer s H E, a, c, rfl, ic, fun p hp => q p hp⟩
end
def linesO (i j : Nat) : SM := fun ρ => match ρ[i]? with
  | some (.ob o) => .nx (ρ.set j (.ow (.list o.sung)))
  | _ => .bad
section
variable {X : Cx} {G : Fr} {x y : Str} {p py apos pos cpos : Pos} {pl : Sem Bool} {lvl : Nat}
theorem pis_lines (i j : Nat) (RK : RunK X.K) (Gf : FnLn X.prog X.w X.K X.mg X.base lvl) (hr : Room lvl X.A) (tk : Tk X G) (hNd : X.N.Nodup) (hN : X.N[i]? = some x := by rfl)
    (hv : Vis X.env.scope x := by first | exact Or.inl rfl | exact Or.inr (Or.inl rfl) | exact Or.inr (Or.inr rfl)) (hd : (x == ("__debug__" : Str)) = false := by decide) (hcd : (x == ("__classdict__" : Str)) = false := by decide)
    (hi : X.N[j]? = some y := by rfl) (hx : Loc X.env.scope y := by first | exact Or.inl rfl | exact Or.inr rfl) (hl : j ≠ G.ls ∨ G.lent = none := by first | exact Or.inr rfl | exact Or.inl (ne_ls rfl))
    (hs : swapsWith (.Call (.Attribute (.Name x p) "lines" apos) [] [] cpos) (some (.Name y py)) pos.line X.env = pure false := by rfl) (hf : X.fn y = true ∨ X.env.scope.names.lookup y = some .local := by first | exact .inl rfl | exact .inr rfl | assumption)
    (ht : eval (.Call (.Attribute (.Name x p) "lines" apos) [] [] cpos) X.env = (do
      let ov ← eval (.Name x p) X.env
      standAt apos.atName
      let (f, first) ← holding [ov] (getMethod ov "lines" pl)
      callWith cpos f first (backTo cpos (starEach [] X.env)) (backToKw cpos (keywordEach [] X.env))) := by rfl) :
    PIS X G (.Assign [.Name y py] (.Call (.Attribute (.Name x p) "lines" apos) [] [] cpos) pos) (linesO i j) := by
  obtain ⟨fd, G1, G2⟩ := Gf
  refine PS.imp (ps_set hNd hi hx (pe_me0 (E := fun σ cls d H => d = none ∧ G.W cls σ H) i RK.cls (RK.meth "lines" (by decide)) G1 hr G2 (fun σ => L2N.passAt tk σ) hN hv hd hcd ht) hs hf) fun D σ H ⟨V, ρ, E, g⟩ => ?_
  unfold linesO at g
  cases e0 : ρ[i]? with
  | none => rw [e0] at g; exact False.elim g
  | some s =>
    rw [e0] at g
    cases s with
    | no => exact False.elim g
    | sh _ => exact False.elim g
    | ow _ => exact False.elim g
    | ob o =>
      obtain ⟨a, c, h1, ic, rc, _⟩ := E.cells e0
      refine ⟨a, c.dx, c.fs, h1, ic.ins, ic.no "lines" (by decide), a, c, rfl, ic, fun q hq => ?_⟩
      obtain ⟨H0, V0, obs, Er, ok⟩ := E
      have x1 : Ext H V (upd H q (.lst c.xs)) V := Ext.hid Er.sub hq
      have nown : ¬ IsOwn σ ρ q := fun z => by
        obtain ⟨_, _, y, e, _⟩ := Er.own_at z
        rw [hq] at e; cases e
      have E2 := (Er.grow x1).setHid (i := j) (p := q) (d := .list o.sung) (Er.sub.free hq) (Er.ext.free hq) nown ⟨c.xs, upd_same, rc.sung⟩ hl
      exact g _ _ _ ⟨H0, V0, obs, E2, ok⟩ (Same.refl _)
end
def tBodyI (K : KW) (b : SM) : TS := fun D σ H => ∃ a, tSI K (mkZ H a) b D σ H
theorem pss_bodyI {X : Cx} {body : List Stmt} {b : SM} (h : ∀ H a, PISs X (mkZ H a) body b) : PSs X body (tBodyI X.kw b) := ⟨fun pins s σ H D i ⟨a, g⟩ => (h H a).run pins s σ H D i g⟩
def t_lawI (K : KW) (hi : Int) (di : Nat) (b : SM) : TS := tSeq (tFor (iList K (tCallS (spRounds K) (fun _ _ _ _ => False) (tCons (tVar 0) (tCons (tC (.int hi)) tNil)))) (gName di) (tBodyI K b)) (tRet (tC (.bl true)))
theorem EnvI.len {K : KW} {G : Fr} {H V : Hp} {σ : St} {ρ : Rho} (E : EnvI K G H V σ ρ) : σ.length = ρ.length := by
  obtain ⟨H0, V0, obs, E, ok⟩ := E
  exact E.len
theorem pure_lawI {K : KW} {hi : Int} {di : Nat} {b : SM} {N : List Str} (hd : di < N.length) (h0 : 0 ≤ hi) (h1 : hi < 1000) (hb : ∀ c : Int, ∃ ρ', b (init N.length di c) = .nx ρ' ∧ ρ'.length = N.length) (vs : List L2.V) (H : Hp) (Q : VK) (E : XK) (h : spLaw K vs H Q E) (hl0 : ∀ v, (L2.start N [v])[0]? = some (some v)) (hl : ∀ v, (L2.start N [v]).length = N.length) :
    t_lawI K hi di b { nx := fun _ H' => Q .non H', rt := Q } (L2.start N vs) H := by
  obtain ⟨ht, a, ns, rfl, hS, hm, q⟩ := h
  refine ⟨.ref a, hl0 _, a, ns, hi, rfl, hS, h0, h1, by omega, fun H1 p as s1 r1 => ⟨p, rfl, ⟨_, .inl (.inl r1.1)⟩, ?_⟩⟩
  obtain ⟨r1, r2, r3, r4, r5⟩ := r1
  refine for_list (xs := as.map V.ref) (fun i σ H' => (σ.length = N.length ∧ LamX.Tabs TBS H') ∧ H' p = some (.lst (as.map V.ref)) ∧ ∀ (j : Nat) (a : Addr) (c : Int), i ≤ j → as[j]? = some a → (roundsI ns hi)[j]? = some c → H' a = some (.lst [.int c, .int 0])) ⟨⟨hl _, ht.ext s1⟩, r1, fun j a c _ => r5 j a c⟩ (fun i σ H' _ h => .inl (.inl h.2.1)) (fun i x σ H' hx hP => ?_) fun σ H' _ => q H'
  obtain ⟨⟨p1, pt⟩, p2, p3⟩ := hP
  rw [List.getElem?_map] at hx
  obtain ⟨ai, hai, rfl⟩ := Option.map_eq_some_iff.mp hx
  have hil : i < as.length := (List.getElem?_eq_some_iff.mp hai).1
  have hc : (roundsI ns hi)[i]? = some ((roundsI ns hi)[i]'(by omega)) := List.getElem?_eq_getElem _
  obtain ⟨ρ', e1, e2⟩ := hb ((roundsI ns hi)[i]'(by omega))
  refine ⟨ai, fun _ => none, init N.length di ((roundsI ns hi)[i]'(by omega)), EnvI.of (env_init (by rw [List.length_set]; exact p1) hd (p3 i ai _ (Nat.le_refl i) hai hc) (by rw [List.getElem?_set_self (by omega)]) pt) (fun _ _ z => nomatch z) (fun _ z => z), ?_⟩
  rw [e1]
  intro σ' H2 V' E' _
  have keep : ∀ b o, b ≠ ai → H' b = some o → nT o → H2 b = some o := fun b o nb e nt => E'.ext.h b o (by show hide H' ai b = some o; unfold hide; rw [if_neg nb]; exact e) nt
  refine ⟨⟨E'.len.trans e2, E'.tabs.1⟩, keep _ _ (fun z => r4 (by rw [z]; exact List.mem_of_getElem? hai)) p2 plain_lst.t, fun j b c hj hbj hcj => keep _ _ (fun z => ?_) (p3 j b c (by omega) hbj hcj) plain_lst.t⟩
  subst z
  have := (List.getElem?_inj hil r3).mp (hai.trans hbj.symm)
  omega
end DL
set_option Elab.async false
set_option linter.all false
set_option maxRecDepth 100000
set_option maxHeartbeats 2000000
namespace DL
open PySem PySem.Spec PyProof.Rows L2
section
variable {K : KW} {V V' : Hp} {d0 : Addr}
/-- but for a dict that is locked, or not -/
structure Swp (V V' : Hp) (d0 : Addr) : Prop where
  o : ∀ b u, b ≠ d0 → V b = some u → V' b = some u
  d : ∃ kvs, Rd V d0 (.dK kvs) ∧ Rd V' d0 (.dK kvs)
theorem rd_uniq {H : Hp} {a : Addr} {k1 k2 : List (Key × L2.V)} (h1 : Rd H a (.dK k1)) (h2 : Rd H a (.dK k2)) : k1 = k2 := by
  rcases h1 with e1 | ⟨o1, e1⟩
  · rcases h2 with e2 | ⟨o2, e2⟩
    · rw [e1] at e2; cases e2; rfl
    · rw [e1] at e2; cases e2
  · rcases h2 with e2 | ⟨o2, e2⟩
    · rw [e1] at e2; cases e2
    · rw [e1] at e2; cases e2; rfl
theorem Swp.pick (s : Swp V V' d0) {b : Addr} {u : HO} (e : V b = some u) (h1 : ∀ kvs, u ≠ .dK kvs) (h2 : ∀ o w, u ≠ .frz o w) : V' b = some u := by
  by_cases h : b = d0
  · obtain ⟨kvs, q, _⟩ := s.d
    subst h
    rcases q with q | ⟨o, q⟩
    · rw [e] at q; exact absurd (Option.some.inj q) (h1 _)
    · rw [e] at q; exact absurd (Option.some.inj q) (h2 _ _)
  · exact s.o b u h e
theorem Swp.rd (s : Swp V V' d0) {b : Addr} {kvs : List (Key × L2.V)} (e : Rd V b (.dK kvs)) : Rd V' b (.dK kvs) := by
  by_cases h : b = d0
  · obtain ⟨k2, q1, q2⟩ := s.d
    subst h
    rw [rd_uniq e q1]; exact q2
  · rcases e with e | ⟨o, e⟩
    · exact .inl (s.o b _ h e)
    · exact .inr ⟨o, s.o b _ h e⟩
mutual
theorem Rep.swp (s : Swp V V' d0) : ∀ {v : L2.V} {d : PyData}, Rep K V v d → Rep K V' v d
  | _, _, .non => .non
  | _, _, .bl b => .bl b
  | _, _, .int i => .int i
  | _, _, .str x => .str x
  | _, _, .lst h r => .lst (s.pick h (fun _ z => nomatch z) (fun _ _ z => nomatch z)) (RepL.swp s r)
  | _, _, .tup h r => .tup (s.pick h (fun _ z => nomatch z) (fun _ _ z => nomatch z)) (RepL.swp s r)
  | _, _, .dk h r n => .dk (s.rd h) (RepK.swp s r) n
  | _, _, .dt h r => .dt (s.pick h (fun _ z => by unfold dX at z; cases z) (fun _ _ z => by unfold dX at z; cases z)) (RepT.swp s r)
theorem RepL.swp (s : Swp V V' d0) : ∀ {vs : List L2.V} {ds : List PyData}, RepL K V vs ds → RepL K V' vs ds
  | _, _, .nil => .nil
  | _, _, .cons r t => .cons (Rep.swp s r) (RepL.swp s t)
theorem RepK.swp (s : Swp V V' d0) : ∀ {vs : List (Key × L2.V)} {ds : List (PyData × PyData)}, RepK K V vs ds → RepK K V' vs ds
  | _, _, .nil => .nil
  | _, _, .cons r t => .cons (Rep.swp s r) (RepK.swp s t)
theorem RepT.swp (s : Swp V V' d0) : ∀ {vs : List (NestedKey × Addr × L2.V)} {ds : List (PyData × PyData)}, RepT K V vs ds → RepT K V' vs ds
  | _, _, .nil => .nil
  | _, _, .cons r1 n z r t => .cons (Rep.swp s r1) n z (Rep.swp s r) (RepT.swp s t)
end
end
variable [TabCtx]
/-- the frame knows that the dict in slot j is locked -/
structure Lk (F : Fr) (j : Nat) : Prop where
  ls : F.ls = j
  d : ∃ d od kvs, F.lent = some d ∧ F.V0 d = some (.frz od (.dK kvs))
theorem Lk.nm {F : Fr} {j : Nat} (l : Lk F j) {vs : List Nat} (h : j ∉ vs) : F.ls ∉ vs ∨ F.lent = none := .inl (by rw [l.ls]; exact h)
theorem Lk.ne {F : Fr} {j : Nat} (l : Lk F j) {i : Nat} (h : i ≠ j) : i ≠ F.nox.ls ∨ F.nox.lent = none := .inl (by show i ≠ F.ls; rw [l.ls]; exact h)
def keysL (j : Nat) : M (List PyData) := fun ρ => match ρ[j]? with
  | some (.sh (.dict ps)) => .ok (ps.map (·.1), ρ)
  | _ => .bad
theorem rep_key {K : KW} {V : Hp} (k : Key) : Rep K V (kV k) (keyD k) := by
  cases k with
  | inl i => exact .int i
  | inr x => exact .str x
theorem RepK.key {K : KW} {V : Hp} : ∀ {kvs : List (Key × L2.V)} {ps : List (PyData × PyData)} (i : Nat) {d : PyData}, RepK K V kvs ps → (ps.map (·.1))[i]? = some d → ∃ k v, kvs[i]? = some (k, v) ∧ d = keyD k
  | _, _, _, _, .nil, h => by simp at h
  | _, _, 0, _, .cons r t, h => ⟨_, _, rfl, (Option.some.inj h).symm⟩
  | _, _, i + 1, _, .cons r t, h => by
    obtain ⟨k, v, h1, h2⟩ := RepK.key i t (by simpa using h)
    exact ⟨k, v, by simpa using h1, h2⟩
theorem RepT.allT {K : KW} {V : Hp} : ∀ {xs : List (NestedKey × Addr × L2.V)} {ps : List (PyData × PyData)}, RepT K V xs ps → (ps.all fun p => isTupD p.1) = true
  | _, _, .nil => rfl
  | _, _, .cons (dk := dk) r n z rv t => by
    rw [List.all_cons, RepT.allT t, Bool.and_true]
    cases r with
    | tup _ _ => rfl
    | lst _ _ => rw [nkey] at n; cases n
    | dk _ _ _ => rw [nkey] at n; cases n
    | dt _ _ => rw [nkey] at n; cases n
theorem itK {K : KW} {a : Addr} {o : Obj} {kvs : List (Key × L2.V)} {V : Hp} {ps : List (PyData × PyData)} (h : V a = some (.frz o (.dK kvs))) (r : RepK K V kvs ps) : ItD K (Itk a o kvs) V (ps.map (·.1)) := by
  intro i H' V' s1 s2
  have hq : H' a = some (.frz o (.dK kvs)) := s2 _ _ (s1 _ _ h)
  have hl := r.length
  refine ⟨fun d hd => ?_, fun e => ⟨hq, by rw [hl, e, List.length_map]; exact Nat.le_refl _⟩⟩
  obtain ⟨k, v, h1, h2⟩ := RepK.key i r hd
  refine ⟨⟨hq, (List.getElem?_eq_some_iff.mp h1).1⟩, fun x H'' ⟨e, k', v', h3, ex⟩ => ?_⟩
  subst e ex h2
  rw [h1] at h3
  cases h3
  exact ⟨V', Ext.refl s2, rep_key k⟩
section
variable {X : Cx} {F : Fr} {tg e : Expr} {x : Str} {p : Pos} {f1 f2 : M PyData}
theorem pmi_dictL (j : Nat) (lk : Lk F j) (hN : X.N[j]? = some x := by rfl) (hv : Vis X.env.scope x := by first | exact Or.inl rfl | exact Or.inr (Or.inl rfl) | exact Or.inr (Or.inr rfl)) (hd : (x == ("__debug__" : Str)) = false := by decide) (hcd : (x == ("__classdict__" : Str)) = false := by decide) : PMI X F tg (.Name x p) (keysL j) := by
  refine PI.imp (pi_keys (pe_var hN hv hd hcd)) fun σ H R ⟨V, ρ, E, g⟩ => ?_
  unfold keysL at g
  cases e0 : ρ[j]? with
  | none => rw [e0] at g; exact False.elim g
  | some s =>
    rw [e0] at g
    cases s with
    | no => exact False.elim g
    | ob _ => exact False.elim g
    | ow _ => exact False.elim g
    | sh dd =>
      cases dd with
      | dict ps =>
        obtain ⟨d, od, kvs, l1, l2⟩ := lk.d
        have hs := E.lent d l1
        rw [lk.ls] at hs
        obtain ⟨v, w1, w2⟩ := E.sh j _ e0
        rw [hs] at w1
        cases w1
        have hd := E.ext.v _ _ l2
        refine ⟨.ref d, hs, d, od, rfl, .inl ⟨kvs, E.sub _ _ hd, ?_⟩⟩
        cases w2 with
        | dk h r n =>
          rw [rd_uniq h (.inr ⟨od, hd⟩)] at r
          exact g _ H V E.refl (itK hd r)
        | dt h r => rw [hd] at h; unfold dX at h; cases h
      | _ => exact False.elim g
def lockD (j : Nat) (f1 f2 : M PyData) : M PyData := fun ρ => match ρ[j]? with
  | some (.sh (.dict ps)) => if (ps.all fun p => isTupD p.1) = true then f1 ρ else (match f2 (forgetO ρ) with
    | .ok (d, _) => .ok (d, ρ)
    | _ => .bad)
  | _ => .bad
theorem PE.or3 {t1 t2 t3 : TE} (h1 : PE X e t1) (h2 : PE X e t2) (h3 : PE X e t3) : PE X e (fun σ H Q => t1 σ H Q ∨ t2 σ H Q ∨ t3 σ H Q) := ⟨fun pins s σ H Q I h => by
  rcases h with h | h | h
  · exact h1.run pins s σ H Q I h
  · exact h2.run pins s σ H Q I h
  · exact h3.run pins s σ H Q I h⟩
/-- what is read of a locked dict -/
theorem pm_lockD (j : Nat) (h1 : PM X F e f1) (h2 : ∀ F' : Fr, Lk F' j → PM X F' e f2) : PM X F e (lockD j f1 f2) := by
  have h3 : PE X e (fun σ H Q => ∃ F' : Fr, Lk F' j ∧ tM X.kw F' f2 σ H Q) := ⟨fun pins s σ H Q I ⟨F', lk, h⟩ => (h2 F' lk).run pins s σ H Q I h⟩
  refine PE.imp (PE.or3 h1 (pe_lock h3) h3) fun σ H Q ⟨V, ρ, E, g⟩ => ?_
  unfold lockD at g
  cases e0 : ρ[j]? with
  | none => rw [e0] at g; exact False.elim g
  | some s =>
    rw [e0] at g
    cases s with
    | no => exact False.elim g
    | ob _ => exact False.elim g
    | ow _ => exact False.elim g
    | sh dd =>
      cases dd with
      | dict ps =>
        have g : Goal X.kw F σ ρ H V (Rep X.kw) (if (ps.all fun p => isTupD p.1) = true then f1 ρ else (match f2 (forgetO ρ) with
          | .ok (d, _) => .ok (d, ρ)
          | _ => .bad)) Q := g
        by_cases hc : (ps.all fun p => isTupD p.1) = true
        · rw [if_pos hc] at g
          exact .inl ⟨V, ρ, E, g⟩
        · rw [if_neg hc] at g
          obtain ⟨v, w1, w2⟩ := E.sh j _ e0
          cases w2 with
          | dt h r =>
            exact absurd (RepT.allT r) hc
          | @dk d kvs _ h r n =>
            refine .inr ?_
            cases ef : f2 (forgetO ρ) with
            | exc cc => rw [ef] at g; exact False.elim g
            | bad => rw [ef] at g; exact False.elim g
            | ok pr =>
              obtain ⟨dd, ρ2⟩ := pr
              rw [ef] at g
              have g : Goal X.kw F σ ρ H V (Rep X.kw) (.ok (dd, ρ)) Q := g
              rcases h with h | ⟨od, h⟩
              · refine .inl ⟨d, .dK kvs, E.sub _ _ h, True.intro, fun od => ?_⟩
                have sw : Swp V (upd V d (.frz od (.dK kvs))) d := ⟨fun b u n e => by rw [upd_ne n]; exact e, kvs, .inl h, .inr ⟨od, upd_same⟩⟩
                have sv : Same (upd V d (.frz od (.dK kvs))) (upd H d (.frz od (.dK kvs))) := fun b u e => by
                  by_cases hb : b = d
                  · subst hb; rw [upd_same] at e ⊢; exact e
                  · rw [upd_ne hb] at e ⊢; exact E.sub b u e
                have hH := E.sub _ _ h
                have tb : TabV (upd H d (.frz od (.dK kvs))) (upd V d (.frz od (.dK kvs))) := ⟨tabs_upd (fun y q => by rw [hH] at q; cases q; exact plain_dK) E.tabs.1, fun p hp => by
                  have := E.tabs.2 p hp
                  rw [upd_ne (fun z => by rw [z, h] at this; cases this)]; exact this⟩
                refine ⟨⟨upd H d (.frz od (.dK kvs)), upd V d (.frz od (.dK kvs)), some d, fun _ _ _ => False, j, F.obs⟩, ⟨rfl, d, od, kvs, rfl, upd_same⟩, upd V d (.frz od (.dK kvs)), forgetO ρ, ?_, ?_⟩
                · have at_ : ∀ {i : Nat} {t : Sl}, (DL.forgetO ρ)[i]? = some t → (∃ d, ρ[i]? = some (.sh d) ∧ t = .sh d) ∨ (∃ o, ρ[i]? = some (.ob o) ∧ t = .ob o) ∨ t = .no := fun {i t} h => by
                    unfold DL.forgetO at h
                    rw [List.getElem?_map] at h
                    obtain ⟨u, h1, h2⟩ := Option.map_eq_some_iff.mp h
                    cases u with
                    | no => exact .inr (.inr h2.symm)
                    | ob o => exact .inr (.inl ⟨o, h1, h2.symm⟩)
                    | sh d => exact .inl ⟨d, h1, h2.symm⟩
                    | ow d => exact .inr (.inr h2.symm)
                  refine ⟨by rw [E.len]; simp [DL.forgetO], Ext.refl sv, fun i d' q => ?_, fun i d' q => ?_, fun i k a d' d'' q => ?_, fun a q => ?_, tb, ⟨fun i o q => ?_, fun i k a o p q1 q2 q3 q4 => ?_⟩⟩
                  · rcases at_ q with ⟨d2, z1, z2⟩ | ⟨_, _, z⟩ | z
                    · cases z2
                      obtain ⟨v, y1, y2⟩ := E.sh i _ z1
                      exact ⟨v, y1, y2.swp sw⟩
                    · cases z
                    · cases z
                  · rcases at_ q with ⟨_, _, z⟩ | ⟨_, _, z⟩ | z <;> cases z
                  · rcases at_ q with ⟨_, _, z⟩ | ⟨_, _, z⟩ | z <;> cases z
                  · cases q; exact w1
                  · rcases at_ q with ⟨_, _, z⟩ | ⟨o', z1, z⟩ | z
                    · cases z
                    · cases z
                      obtain ⟨a, q1, q2, q3, _⟩ := E.atO z1
                      refine ⟨a, q1, q2, ?_⟩
                      obtain ⟨c, ic, rc⟩ := q3.get
                      have nd : ∀ b, Foot H a b → b ≠ d := fun b f z => by
                        have := q3.hid b f
                        rw [z, h] at this; cases this
                      have ic' : ObIs X.K (upd H d (.frz od (.dK kvs))) a c := ic.keep fun b y f e => by rw [upd_ne (nd b f)]; exact e
                      refine ObAt.mk' ic' ⟨rc.first.swp sw, rc.crew.swp sw, rc.stand.swp sw, rc.sung.swp sw, rc.deeds.swp sw, rc.past.swp sw⟩ fun b f => ?_
                      have f' := (ic.foot_eq ic').mpr f
                      show upd V d _ b = none
                      rw [upd_ne (nd b f')]; exact q3.hid b f'
                    · cases z
                  · rcases at_ q1 with ⟨_, _, z⟩ | ⟨o', y1, z⟩ | z
                    · cases z
                    · rcases at_ q2 with ⟨_, _, z⟩ | ⟨p', y2, z⟩ | z
                      · cases z
                      · exact E.ob.dis i k a o' p' y1 y2 q3 q4
                      · cases z
                    · cases z
                · show Goal X.kw _ σ (forgetO ρ) _ _ (Rep X.kw) (f2 (forgetO ρ)) _
                  rw [ef]
                  intro y H2 V2 st r2
                  have x2 : Ext (upd H d (.frz od (.dK kvs))) (upd V d (.frz od (.dK kvs))) H2 V2 := st.env.ext
                  have vd : V2 d = some (.frz od (.dK kvs)) := x2.v _ _ upd_same
                  have hd2 : H2 d = some (.frz od (.dK kvs)) := x2.s _ _ vd
                  refine ⟨hd2, ?_⟩
                  have sw2 : Swp V2 (upd V2 d (.dK kvs)) d := ⟨fun b u n e => by rw [upd_ne n]; exact e, kvs, .inr ⟨od, vd⟩, .inl upd_same⟩
                  have x3 : Ext H V (upd H2 d (.dK kvs)) (upd V2 d (.dK kvs)) := by
                    refine ⟨fun b u q nt => ?_, fun b u q => ?_, fun b u q => ?_, fun b q1 q2 => ?_, fun b q => ?_, fun _ => tabs_upd (fun y q => by rw [hd2] at q; cases q; exact plain_frz) st.env.tabs.1⟩
                    · by_cases hb : b = d
                      · subst hb; rw [hH] at q; cases q; exact upd_same
                      · rw [upd_ne hb]; exact x2.h b u (by rw [upd_ne hb]; exact q) nt
                    · by_cases hb : b = d
                      · subst hb; rw [h] at q; cases q; exact upd_same
                      · rw [upd_ne hb]; exact x2.v b u (by rw [upd_ne hb]; exact q)
                    · by_cases hb : b = d
                      · subst hb; rw [upd_same] at q ⊢; exact q
                      · rw [upd_ne hb] at q ⊢; exact x2.s b u q
                    · have hb : b ≠ d := fun z => by rw [z, h] at q1; cases q1
                      rw [upd_ne hb]; exact x2.f b (by rw [upd_ne hb]; exact q1) (by rw [upd_ne hb]; exact q2)
                    · by_cases hb : b = d
                      · subst hb; rw [upd_same]; exact fun z => nomatch z
                      · rw [upd_ne hb]; exact x2.th b (by rw [upd_ne hb]; exact q)
                  exact g y _ _ (E.step x3) (r2.swp sw2)
              · refine .inr ⟨⟨H, V, some d, fun _ _ _ => False, j, F.obs⟩, ⟨rfl, d, od, kvs, rfl, h⟩, V, forgetO ρ, ?_, ?_⟩
                · have E2 := EnvR.forgetO (E := fun _ _ _ => False) E
                  exact ⟨E2.len, E2.ext, E2.sh, E2.ow, E2.dis, fun a q => by cases q; exact w1, E2.tab, ⟨E2.ob.at_, E2.ob.dis⟩⟩
                · show Goal X.kw _ σ (forgetO ρ) _ _ (Rep X.kw) (f2 (forgetO ρ)) _
                  rw [ef]
                  exact fun y H2 V2 st r2 => g y H2 V2 (E.step st.env.ext) r2
      | _ => exact False.elim g
end
end DL
set_option Elab.async false
set_option linter.all false
set_option maxRecDepth 100000
set_option maxHeartbeats 4000000
namespace G
open PySem PySem.Spec PyProof.Rows L2 DL
def b_is_whole : SM := (retO (andV (isi .int (vN 0)) (andV (notV (isi .bool (vN 0))) (chain gLe gLe (vN 1) (vN 0) (vN 2)))))
def m_is_whole : List PyData → R PyData := fnRun 3 3 b_is_whole
def b_is_word : SM := (retO (andV (isi .str (vN 0)) (andV (chain gLe gLe (cD (.int 1)) (opA gLen (aC (vN 0) aN)) (cD (.int 8))) (opA gAll (aC (lcM [1] (seqI (vN 0)) (setS 1) yesT (op2 gIn (vN 1) (cD (.str "abcdefghijklmnopqrstuvwxyz")))) aN)))))
def m_is_word : List PyData → R PyData := fnRun 1 2 b_is_word
def b_rise : SM := (retO (opA gAll (aC (lcM [1, 2] (opI gZip (aC (vN 0) (aC (slc (vN 0) (prt (cD (.int 1))) noPrt) aN))) (unT (gsC (setS 1) (gsC (setS 2) gsN))) yesT (op2 gLt (vN 1) (vN 2))) aN)))
def m_rise : List PyData → R PyData := fnRun 1 3 b_rise
def b_are_lines : SM := (retO (andV (isi .tuple (vN 0)) (andV (op2 gEq (opA gLen (aC (vN 0) aN)) (vN 1)) (opA gAll (aC (lcM [3] (seqI (vN 0)) (setS 3) yesT (callM m_is_whole (aC (vN 3) (aC (cD (.int 0)) (aC (op2 gSub (vN 2) (cD (.int 1))) aN))))) aN)))))
def m_are_lines : List PyData → R PyData := fnRun 3 4 b_are_lines
def b_is_ear : SM := (retO (andV (isi .tuple (vN 0)) (andV (op2 gEq (opA gLen (aC (vN 0) aN)) (cD (.int 2))) (andV (callM m_is_word (aC (op2 gIx (vN 0) (cD (.int 0))) aN)) (callM m_is_whole (aC (op2 gIx (vN 0) (cD (.int 1))) (aC (cD (.int 1)) (aC (cD (.int 3)) aN))))))))
def m_is_ear : List PyData → R PyData := fnRun 1 1 b_is_ear
def b_are_ears : SM := (retO (andV (isi .tuple (vN 0)) (andV (op2 gLe (opA gLen (aC (vN 0) aN)) (cD (.int 2))) (andV (opA gAll (aC (lcM [1] (seqI (vN 0)) (setS 1) yesT (callM m_is_ear (aC (vN 1) aN))) aN)) (callM m_rise (aC (vN 0) aN))))))
def m_are_ears : List PyData → R PyData := fnRun 1 2 b_are_ears
def b_places_for : SM := (retO (op2 gIx (opA gLstD (aC (cD (.int 1)) (aC (vN 0) (aC (op2 gMul (vN 0) (vN 0)) aN)))) (opA gLen (aC (vN 1) aN))))
def m_places_for : List PyData → R PyData := fnRun 2 2 b_places_for
def b_is_singer : SM := (seqO (ifO (orT (notT (tst (isi .tuple (vN 0)))) (orT (tst (op2 gNe (opA gLen (aC (vN 0) aN)) (cD (.int 3)))) (orT (notT (tst (callM m_is_word (aC (op2 gIx (vN 0) (cD (.int 0))) aN)))) (notT (tst (callM m_are_ears (aC (op2 gIx (vN 0) (cD (.int 1))) aN))))))) (retO (cD (.bool false))) nxO)
  (retO (callM m_are_lines (aC (op2 gIx (vN 0) (cD (.int 2))) (aC (callM m_places_for (aC (vN 1) (aC (op2 gIx (vN 0) (cD (.int 1))) aN))) (aC (vN 1) aN))))))
def m_is_singer : List PyData → R PyData := fnRun 2 2 b_is_singer
def b_is_choir : SM := (seqO (ifO (orT (notT (tst (isi .tuple (vN 0)))) (orT (tst (op2 gNe (opA gLen (aC (vN 0) aN)) (cD (.int 2)))) (notT (tst (callM m_is_whole (aC (op2 gIx (vN 0) (cD (.int 0))) (aC (cD (.int 2)) (aC (cD (.int 4)) aN)))))))) (retO (cD (.bool false))) nxO)
  (seqO (asgO (vN 0) (unT (gsC (setS 1) (gsC (setS 2) gsN))))
  (seqO (ifO (orT (notT (tst (isi .tuple (vN 2)))) (notT (tst (chain gLe gLe (cD (.int 1)) (opA gLen (aC (vN 2) aN)) (cD (.int 4)))))) (retO (cD (.bool false))) nxO)
  (seqO (ifO (orT (notT (tst (opA gAll (aC (lcM [4] (seqI (vN 2)) (setS 4) yesT (callM m_is_singer (aC (vN 4) (aC (vN 1) aN)))) aN)))) (notT (tst (callM m_rise (aC (lcM [4] (seqI (vN 2)) (setS 4) yesT (op2 gIx (vN 4) (cD (.int 0)))) aN))))) (retO (cD (.bool false))) nxO)
  (seqO (asgO (lcM [4] (seqI (vN 2)) (setS 4) yesT (op2 gIx (vN 4) (cD (.int 0)))) (setS 3))
  (retO (opA gAll (aC (lcM2 [4, 5] [5] (seqI (vN 2)) (setS 4) yesT (seqI (op2 gIx (vN 4) (cD (.int 1)))) (setS 5) yesT (op2 gIn (op2 gIx (vN 5) (cD (.int 0))) (vN 3))) aN))))))))
def m_is_choir : List PyData → R PyData := fnRun 1 6 b_is_choir
def b_need_choir : SM := (ifO (notT (tst (callM m_is_choir (aC (vN 0) aN)))) (raiseO "BadChoir") nxO)
def m_need_choir : List PyData → R PyData := fnRun 1 1 b_need_choir
def b_all_names : SM := (retO (lcM [1] (seqI (op2 gIx (vN 0) (cD (.int 1)))) (setS 1) yesT (op2 gIx (vN 1) (cD (.int 0)))))
def m_all_names : List PyData → R PyData := fnRun 1 2 b_all_names
def b_is_good_standing : SM := (seqO (ifO (orT (notT (tst (isi .tuple (vN 1)))) (tst (op2 gNe (opA gLen (aC (vN 1) aN)) (opA gLen (aC (op2 gIx (vN 0) (cD (.int 1))) aN))))) (retO (cD (.bool false))) nxO)
  (retO (opA gAll (aC (lcM [2] (seqI (vN 1)) (setS 2) yesT (callM m_are_lines (aC (vN 2) (aC (cD (.int 3)) (aC (op2 gIx (vN 0) (cD (.int 0))) aN))))) aN))))
def m_is_good_standing : List PyData → R PyData := fnRun 2 3 b_is_good_standing
def b_need_standing : SM := (ifO (notT (tst (callM m_is_good_standing (aC (vN 0) (aC (vN 1) aN))))) (raiseO "BadStanding") nxO)
def m_need_standing : List PyData → R PyData := fnRun 2 2 b_need_standing
def b_number_of : SM := (retO (opM gIndex (callM m_all_names (aC (vN 0) aN)) (aC (vN 1) aN)))
def m_number_of : List PyData → R PyData := fnRun 2 2 b_number_of
def b_heard_by : SM := (retO (opA gTuple (aC (lcM [3, 4] (seqI (op2 gIx (vN 2) (cD (.int 1)))) (unT (gsC (setS 3) (gsC (setS 4) gsN))) yesT (op2 gIx (op2 gIx (vN 1) (callM m_number_of (aC (vN 0) (aC (vN 3) aN)))) (op2 gSub (cD (.int 3)) (vN 4)))) aN)))
def m_heard_by : List PyData → R PyData := fnRun 3 5 b_heard_by
def b_place_of_L1 : SM := (asgO (op2 gAdd (op2 gMul (vN 2) (vN 0)) (vN 3)) (setS 2))
def b_place_of : SM := (seqO (asgO (cD (.int 0)) (setS 2))
  (seqO (forO (seqI (vN 1)) (setS 3) b_place_of_L1)
  (retO (vN 2))))
def m_place_of : List PyData → R PyData := fnRun 2 4 b_place_of
def b_table_line : SM := (retO (op2 gIx (op2 gIx (vN 2) (cD (.int 2))) (callM m_place_of (aC (op2 gIx (vN 0) (cD (.int 0))) (aC (callM m_heard_by (aC (vN 0) (aC (vN 1) (aC (vN 2) aN)))) aN)))))
def m_table_line : List PyData → R PyData := fnRun 3 3 b_table_line
def b_all_next : SM := (retO (opA gTuple (aC (lcM [2] (seqI (op2 gIx (vN 0) (cD (.int 1)))) (setS 2) yesT (callM m_table_line (aC (vN 0) (aC (vN 1) (aC (vN 2) aN))))) aN)))
def m_all_next : List PyData → R PyData := fnRun 2 3 b_all_next
def b_behind : SM := (retO (opA gTuple (aC (lcM [2, 3] (opI gZip (aC (vN 0) (aC (vN 1) aN))) (unT (gsC (setS 2) (gsC (setS 3) gsN))) yesT (op2 gAdd (slc (vN 2) (prt (cD (.int 1))) noPrt) (opA gTupD (aC (vN 3) aN)))) aN)))
def m_behind : List PyData → R PyData := fnRun 2 4 b_behind
def b_need_beats : SM := (ifO (notT (tst (callM m_is_whole (aC (vN 0) (aC (cD (.int 0)) (aC (cD (.int 500)) aN)))))) (raiseO "BadNumber") nxO)
def m_need_beats : List PyData → R PyData := fnRun 1 1 b_need_beats
def b_law_drawn : SM := (seqO (asgO (op2 gMod (op2 gAdd (op2 gMul (vN 0) (cD (.int 6364136223846793005))) (op2 gMul (op2 gAdd (vN 1) (cD (.int 1))) (cD (.int 1442695040888963407)))) (cD (.int 340282366920938463463374607431768211507))) (setS 2))
  (seqO (asgO (op2 gMod (op2 gMul (vN 2) (vN 2)) (cD (.int 340282366920938463463374607431768211297))) (setS 2))
  (seqO (asgO (op2 gMul (op2 gMul (op2 gAdd (op2 gMod (vN 2) (cD (.int 18446744073709551557))) (cD (.int 1))) (op2 gAdd (op2 gDiv (vN 2) (cD (.int 18446744073709551557))) (cD (.int 1)))) (vN 2)) (setS 2))
  (retO (op2 gMod (vN 2) (cD (.int 340282366920938463463374607431768211507)))))))
def m_law_drawn : List PyData → R PyData := fnRun 2 3 b_law_drawn
def b_law_roll : SM := (seqO (ifO (tst (op2 gGe (ixO 0 (cD (.int 0))) (op2 gPow (cD (.int 10)) (cD (.int 18))))) (seqO (asgO (op2 gMod (ixO 0 (cD (.int 0))) (vN 1)) (setS 2))
  (seqO (sixO 0 (cD (.int 0)) (op2 gDiv (ixO 0 (cD (.int 0))) (vN 1)))
  (retO (vN 2)))) nxO)
  (seqO (sixO 0 (cD (.int 1)) (op2 gAdd (ixO 0 (cD (.int 1))) (cD (.int 1))))
  (retO (op2 gMod (op2 gDiv (callM m_law_drawn (aC (ixO 0 (cD (.int 0))) (aC (ixO 0 (cD (.int 1))) aN))) (cD (.int 8))) (vN 1)))))
def m_law_roll : PyData → List PyData → R (PyData × PyData) := fnRunL 1 3 b_law_roll
def b_law_term (c : Str) : SM := (seqO (asgO (opA gLstD (aC (HD.isE c "BadChoir") (aC (HD.isE c "BadName") (aC (HD.isE c "BadStanding") (aC (HD.isE c "BadNumber") aN))))) (setS 1))
  (seqO (asgO (op2 gAdd (vN 1) (opA gLstD (aC (HD.isE c "BadRows") (aC (HD.isE c "BadLead") (aC (HD.isE c "BadWish") aN))))) (setS 1))
  (seqO (asgO (op2 gAdd (vN 1) (opA gLstD (aC (HD.isE c "Clash") (aC (HD.isE c "Nothing") (aC (HD.isE c "Full") (aC (HD.isE c "BadText") aN)))))) (setS 1))
  (seqO (asgO (opA gLstD (aC (cD (.str "BadChoir")) (aC (cD (.str "BadName")) (aC (cD (.str "BadStanding")) (aC (cD (.str "BadNumber")) (aC (cD (.str "BadRows")) (aC (cD (.str "BadLead")) (aC (cD (.str "BadWish")) aN)))))))) (setS 2))
  (seqO (asgO (op2 gAdd (vN 2) (opA gLstD (aC (cD (.str "Clash")) (aC (cD (.str "Nothing")) (aC (cD (.str "Full")) (aC (cD (.str "BadText")) aN)))))) (setS 2))
  (seqO (ifO (orT (tst (op2 gNe (opA gSum (aC (op1 HD.gIntsB (vN 1)) aN)) (cD (.int 1)))) (notT (tst (cD (.bool true))))) (retO (opA gTupD (aC (cD (.str "refused")) (aC (cD (.str "other")) aN)))) nxO)
  (retO (opA gTupD (aC (cD (.str "refused")) (aC (op2 gIx (vN 2) (opM gIndex (vN 1) (aC (cD (.bool true)) aN))) aN))))))))))
theorem v_law_term : ∀ c ∈ HD.excs, ∃ ρ', b_law_term c (List.replicate 4 .no) = .rt (HD.refusedD c) ρ' := by
  intro c hc
  simp only [HD.excs, List.mem_cons, List.not_mem_nil, or_false] at hc
  rcases hc with rfl | rfl | rfl | rfl | rfl | rfl | rfl | rfl | rfl | rfl <;> exact ⟨_, rfl⟩
def b_law_any_singers_L1 : SM := (seqO (asgO (opA gTupD (aC (op2 gIx (vN 2) (callL 0 m_law_roll (aC (opA gLen (aC (vN 2) aN)) aN))) (aC (op2 gAdd (cD (.int 1)) (callL 0 m_law_roll (aC (cD (.int 3)) aN))) aN))) (setS 8))
  (ifO (brwT true (tst (op2 gNotIn (vN 8) (vN 5)))) (appO 5 (vN 8)) nxO))
def b_law_any_singers_L2 : SM := (seqO (ownO 5 aN)
  (seqO (forO (opI rg1 (aC (callL 0 m_law_roll (aC (cD (.int 3)) aN)) aN)) (setS 6) b_law_any_singers_L1)
  (seqO (asgO (op2 gIx (opA gLstD (aC (cD (.int 1)) (aC (vN 1) (aC (op2 gMul (vN 1) (vN 1)) aN)))) (brw true (opA gLen (aC (vN 5) aN)))) (setS 7))
  (appO 3 (opA gTupD (aC (vN 4) (aC (brw true (opA gTuple (aC (opA gSorted (aC (vN 5) aN)) aN))) (aC (opA gTuple (aC (lcM [9] (opI rg1 (aC (vN 7) aN)) (setS 9) yesT (callL 0 m_law_roll (aC (vN 1) aN))) aN)) aN))))))))
def b_law_any_singers : SM := (seqO (ownO 3 aN)
  (seqO (forO (seqI (vN 2)) (setS 4) b_law_any_singers_L2)
  (retO (brw true (opA gTuple (aC (vN 3) aN))))))
def m_law_any_singers : PyData → List PyData → R (PyData × PyData) := fnRunL 2 10 b_law_any_singers
def b_law_any_choir : SM := (seqO (asgO (callL 0 m_law_roll (aC (cD (.int 6)) aN)) (setS 1))
  (seqO (asgO (op2 gIx (opA gLstD (aC (opA gTupD (aC (cD (.int 2)) (aC (cD (.int 1)) aN))) (aC (opA gTupD (aC (cD (.int 2)) (aC (cD (.int 2)) aN))) (aC (opA gTupD (aC (cD (.int 2)) (aC (cD (.int 3)) aN))) (aC (opA gTupD (aC (cD (.int 3)) (aC (cD (.int 1)) aN))) (aC (opA gTupD (aC (cD (.int 3)) (aC (cD (.int 2)) aN))) (aC (opA gTupD (aC (cD (.int 4)) (aC (cD (.int 1)) aN))) aN))))))) (vN 1)) (unT (gsC (setS 2) (gsC (setS 3) gsN))))
  (retO (opA gTupD (aC (vN 2) (aC (callL 0 m_law_any_singers (aC (vN 2) (aC (slc (opA gLstD (aC (cD (.str "ann")) (aC (cD (.str "bob")) (aC (cD (.str "cy")) aN)))) noPrt (prt (vN 3))) aN))) aN))))))
def m_law_any_choir : PyData → List PyData → R (PyData × PyData) := fnRunL 0 4 b_law_any_choir
def b_need_name : SM := (ifO (orT (notT (tst (isi .str (vN 1)))) (tst (op2 gNotIn (vN 1) (callM m_all_names (aC (vN 0) aN))))) (raiseO "BadName") nxO)
def m_need_name : List PyData → R PyData := fnRun 2 2 b_need_name
def b_law_any_standing_L1 : SM := (appO 2 (opA gTuple (aC (lcM [4] (opI rg1 (aC (cD (.int 3)) aN)) (setS 4) yesT (callL 0 m_law_roll (aC (op2 gIx (vN 1) (cD (.int 0))) aN))) aN)))
def b_law_any_standing : SM := (seqO (ownO 2 aN)
  (seqO (forO (seqI (op2 gIx (vN 1) (cD (.int 1)))) (setS 3) b_law_any_standing_L1)
  (retO (brw true (opA gTuple (aC (vN 2) aN))))))
def m_law_any_standing : PyData → List PyData → R (PyData × PyData) := fnRunL 1 5 b_law_any_standing
end G
set_option Elab.async false
set_option linter.all false
set_option maxRecDepth 100000
set_option maxHeartbeats 4000000
namespace G
open PySem PySem.Spec PyProof.Rows L2 DL
def b1_Running_init : SM := (dropO (callM m_need_choir (aC (vN 1) aN)))
def b2_Running_init : SM := (dropO (callM m_need_standing (aC (vN 1) (aC (vN 2) aN))))
def m_Running_init : List PyData → R Ob := initR 3 b1_Running_init b2_Running_init
def b_Running_remember : SA := (toB (seqO (appS 0 Ob.past (fun o ds => { o with past := ds }) (opA gTupD (aC (obM 0 fun o => .ok o.crew) (aC (obM 0 fun o => .ok o.stand) (aC (obM 0 fun o => .ok (.int (o.sung.length : Nat))) aN)))))
  (appS 0 Ob.deeds (fun o ds => { o with deeds := ds }) (vN 1))))
def i_Running_remember : Ob → List PyData → R (PyData × Ob) := fnRunI 1 2 b_Running_remember
def b_Running_need_leads : SM := (seqO (ifO (notT (tst (isi .dict (vN 1)))) (raiseO "BadLead") nxO)
  (seqO (asgO (callM m_all_names (aC (obM 0 fun o => .ok o.crew) aN)) (setS 2))
  (seqO (ifO (notT (tst (opA gAll (aC (lockD 1 (lcM [3] (dictI (vN 1)) (setS 3) yesT (andV (isi .str (vN 3)) (op2 gIn (vN 3) (vN 2)))) (lcM [3] (keysL 1) (setS 3) yesT (andV (isi .str (vN 3)) (op2 gIn (vN 3) (vN 2))))) aN)))) (raiseO "BadLead") nxO)
  (ifO (notT (tst (opA gAll (aC (lockD 1 (lcM [3] (dictI (vN 1)) (setS 3) yesT (callM m_is_whole (aC (op2 gIxX (vN 1) (vN 3)) (aC (cD (.int 0)) (aC (op2 gSub (op2 gIx (obM 0 fun o => .ok o.crew) (cD (.int 0))) (cD (.int 1))) aN))))) (lcM [3] (keysL 1) (setS 3) yesT (callM m_is_whole (aC (op2 gIxX (vN 1) (vN 3)) (aC (cD (.int 0)) (aC (op2 gSub (op2 gIx (obM 0 fun o => .ok o.crew) (cD (.int 0))) (cD (.int 1))) aN)))))) aN)))) (raiseO "BadLead") nxO))))
def m_Running_need_leads : Ob → List PyData → R PyData := fnRunO 1 4 b_Running_need_leads
def b_Running_sing : SA := (seqA (asgO (opA gLZip (aC (callM m_all_names (aC (obM 0 fun o => .ok o.crew) aN)) (aC (callM m_all_next (aC (obM 0 fun o => .ok o.crew) (aC (obM 0 fun o => .ok o.stand) aN))) aN))) (setS 2))
  (seqA (asgO (opA gTuple (aC (lcM [4, 5] (seqI (vN 2)) (unT (gsC (setS 4) (gsC (setS 5) gsN))) yesT (dget2 (vN 1) (vN 4) (vN 5))) aN)) (setS 3))
  (toB (seqO (setFO 0 (fun o d => { o with stand := d }) (callM m_behind (aC (obM 0 fun o => .ok o.stand) (aC (vN 3) aN))))
  (seqO (appS 0 Ob.sung (fun o ds => { o with sung := ds }) (vN 3))
  (retO (vN 3)))))))
def i_Running_sing : Ob → List PyData → R (PyData × Ob) := fnRunI 1 6 b_Running_sing
def b_Running_beat : SA := (seqA (dropO (methO 0 m_Running_need_leads (aC (vN 1) aN)))
  (toB (seqO badO
  (retO (methI 0 i_Running_sing (aC (vN 1) aN))))))
def i_Running_beat : Ob → List PyData → R (PyData × Ob) := fnRunI 1 2 b_Running_beat
def b_Running_lines : SM := (retO (obM 0 fun o => .ok (.list o.sung)))
def m_Running_lines : Ob → List PyData → R PyData := fnRunO 0 1 b_Running_lines
def b_Running_standing : SM := (retO (obM 0 fun o => .ok o.stand))
def m_Running_standing : Ob → List PyData → R PyData := fnRunO 0 1 b_Running_standing
def b_Running_choir : SM := (retO (obM 0 fun o => .ok o.crew))
def m_Running_choir : Ob → List PyData → R PyData := fnRunO 0 1 b_Running_choir
def b_Running_run_2_L1 : SM := (dropO (methI 0 i_Running_sing (aC (cD (.dict [])) aN)))
def b_Running_run_2 : SA := (seqA (dropO (callM m_need_beats (aC (vN 1) aN)))
  (toB (seqO (dropO (methI 0 i_Running_remember (aC (opA gTupD (aC (cD (.str "run")) (aC (vN 1) aN))) aN)))
  (forO (opI rg1 (aC (vN 1) aN)) (setS 2) b_Running_run_2_L1))))
def i_Running_run_2 : Ob → List PyData → R (PyData × Ob) := fnRunI 1 3 b_Running_run_2
def b_Running_replace_2 : SA := (seqA (dropO (callM m_need_name (aC (obM 0 fun o => .ok o.crew) (aC (vN 1) aN))))
  (seqA (asgO (opA gTuple (aC (lcM [5] (seqI (op2 gIx (obM 0 fun o => .ok o.crew) (cD (.int 1)))) (setS 5) yesT (ifV (tst (op2 gEq (op2 gIx (vN 5) (cD (.int 0))) (vN 1))) (opA gTupD (aC (vN 1) (aC (vN 2) (aC (vN 3) aN)))) (vN 5))) aN)) (setS 4))
  (seqA (ifO (notT (tst (callM m_is_choir (aC (opA gTupD (aC (op2 gIx (obM 0 fun o => .ok o.crew) (cD (.int 0))) (aC (vN 4) aN))) aN)))) (raiseO "BadChoir") nxO)
  (toB (seqO (dropO (methI 0 i_Running_remember (aC (opA gTupD (aC (cD (.str "replace")) (aC (vN 1) (aC (vN 2) (aC (vN 3) aN))))) aN)))
  (setFO 0 (fun o d => { o with crew := d }) (opA gTupD (aC (op2 gIx (obM 0 fun o => .ok o.crew) (cD (.int 0))) (aC (vN 4) aN)))))))))
def i_Running_replace_2 : Ob → List PyData → R (PyData × Ob) := fnRunI 3 6 b_Running_replace_2
def b_Running_undo_2 : SA := (seqA (ifO (tst (cmpS Ob.past 0 gEq (opA gLstD aN))) (raiseO "Nothing") nxO)
  (toB (seqO (undo1 0 1)
  (seqO (undo2 0 1)
  (undo3 0)))))
def i_Running_undo_2 : Ob → List PyData → R (PyData × Ob) := fnRunI 0 2 b_Running_undo_2
end G
set_option Elab.async false
set_option linter.all false
set_option maxRecDepth 100000
set_option maxHeartbeats 4000000
namespace G
open PySem PySem.Spec PyProof.Rows L2 DL
def b_law_L1 : SM := (ifO (tst (op2 gNe (toldI 5 i_Running_beat (aC (vN 8) aN)) (opA gTupD (aC (cD (.str "refused")) (aC (cD (.str "BadLead")) aN))))) (retO (cD (.bool false))) nxO)
def b_law_L2 : SM := (ifO (tst (op2 gNe (toldI 5 i_Running_run_2 (aC (vN 8) aN)) (opA gTupD (aC (cD (.str "refused")) (aC (cD (.str "BadNumber")) aN))))) (retO (cD (.bool false))) nxO)
def b_law_L3 : SM := (ifO (tst (op2 gNe (toldI 5 i_Running_replace_2 (aC (vN 8) (aC (cD .none) (aC (cD .none) aN)))) (opA gTupD (aC (cD (.str "refused")) (aC (cD (.str "BadName")) aN))))) (retO (cD (.bool false))) nxO)
def b_law_L4 : SM := (seqO (asgO (ifV (andT (tst (isi .tuple (vN 8))) (tst (op2 gEq (opA gLen (aC (vN 8) aN)) (cD (.int 2))))) (op2 gMul (vN 4) (vN 4)) (vN 4)) (setS 11))
  (ifO (tst (op2 gNe (toldI 5 i_Running_replace_2 (aC (cD (.str "ann")) (aC (vN 8) (aC (op2 gMul (opA gTupD (aC (cD (.int 0)) aN)) (vN 11)) aN)))) (opA gTupD (aC (cD (.str "refused")) (aC (cD (.str "BadChoir")) aN))))) (retO (cD (.bool false))) nxO))
def b_law_L5 : SM := (ifO (tst (op2 gNe (toldI 5 i_Running_replace_2 (aC (cD (.str "ann")) (aC (opA gTupD aN) (aC (vN 8) aN)))) (opA gTupD (aC (cD (.str "refused")) (aC (cD (.str "BadChoir")) aN))))) (retO (cD (.bool false))) nxO)
def b_law_L6 : SM := (ifO (tst (op2 gNe (HD.toldM (makeX m_Running_init (aC (vN 2) (aC (vN 8) aN)))) (opA gTupD (aC (cD (.str "refused")) (aC (cD (.str "BadStanding")) aN))))) (retO (cD (.bool false))) nxO)
def b_law : SM := (seqO (asgO (callL 1 m_law_any_choir aN) (setS 2))
  (seqO (par2 3 4 (aC (callL 1 m_law_any_standing (aC (vN 2) aN)) (aC (op2 gIx (vN 2) (cD (.int 0))) aN)))
  (seqO (newO 5 m_Running_init (aC (vN 2) (aC (vN 3) aN)))
  (seqO (dropO (methI 5 i_Running_run_2 (aC (callL 1 m_law_roll (aC (cD (.int 5)) aN)) aN)))
  (seqO (asgO (opA gTupD (aC (methO 5 m_Running_choir aN) (aC (methO 5 m_Running_standing aN) (aC (opA gList (aC (methO 5 m_Running_lines aN) aN)) aN)))) (setS 6))
  (seqO (asgO (opA gLstD (aC (cD .none) (aC (cD (.int 5)) (aC (opA gTupD aN) (aC (opA gLstD aN) (aC (op2 gD1 (cD (.str "zed")) (cD (.int 0))) (aC (op2 gD1 (cD (.int 5)) (cD (.int 0))) (aC (op2 gD1 (cD (.str "ann")) (vN 4)) (aC (op2 gD1 (cD (.str "ann")) (op1 gNeg (cD (.int 1)))) (aC (op2 gD1 (cD (.str "ann")) (cD (.bool true))) aN)))))))))) (setS 7))
  (seqO (asgO (op2 gAdd (vN 7) (opA gLstD (aC (op2 gD1 (cD (.str "ann")) (cD .none)) aN))) (setS 7))
  (seqO (forO (seqI (vN 7)) (setS 8) b_law_L1)
  (seqO (forO (seqI (opA gLstD (aC (op1 gNeg (cD (.int 1))) (aC (cD (.int 501)) (aC (cD (.bool true)) (aC (cD .none) (aC (cD (.str "5")) aN))))))) (setS 8) b_law_L2)
  (seqO (forO (seqI (opA gLstD (aC (cD .none) (aC (cD (.int 5)) (aC (cD (.str "zed")) (aC (opA gTupD (aC (cD (.str "ann")) aN)) aN)))))) (setS 8) b_law_L3)
  (seqO (asgO (opA gLstD (aC (cD .none) (aC (cD (.int 5)) (aC (opA gLstD aN) (aC (opA gTupD (aC (opA gTupD (aC (cD (.str "zed")) (aC (cD (.int 1)) aN))) aN)) (aC (opA gTupD (aC (opA gTupD (aC (cD (.str "ann")) (aC (cD (.int 0)) aN))) aN)) (aC (opA gTupD (aC (opA gTupD (aC (cD (.str "ann")) (aC (cD (.int 4)) aN))) aN)) (aC (opA gTupD (aC (opA gTupD (aC (cD (.str "ann")) (aC (cD (.int 1)) aN))) (aC (opA gTupD (aC (cD (.str "ann")) (aC (cD (.int 1)) aN))) aN))) aN)))))))) (setS 9))
  (seqO (asgO (op2 gAdd (vN 9) (opA gLstD (aC (opA gTupD (aC (opA gTupD (aC (cD (.str "ann")) (aC (cD (.int 2)) aN))) (aC (opA gTupD (aC (cD (.str "ann")) (aC (cD (.int 1)) aN))) aN))) (aC (opA gTupD (aC (cD (.str "ann")) (aC (cD (.int 1)) aN))) aN)))) (setS 9))
  (seqO (forO (seqI (vN 9)) (setS 8) b_law_L4)
  (seqO (forO (seqI (opA gLstD (aC (cD .none) (aC (cD (.int 5)) (aC (opA gTupD aN) (aC (opA gLstD (aC (cD (.int 0)) aN)) (aC (opA gTupD (aC (cD (.int 0)) (aC (cD (.int 0)) aN))) (aC (opA gTupD (aC (vN 4) aN)) (aC (opA gTupD (aC (cD (.bool true)) aN)) (aC (opA gTupD (aC (op1 gNeg (cD (.int 1))) aN)) aN)))))))))) (setS 8) b_law_L5)
  (seqO (ifO (tst (op2 gNe (opA gTupD (aC (methO 5 m_Running_choir aN) (aC (methO 5 m_Running_standing aN) (aC (methO 5 m_Running_lines aN) aN)))) (vN 6))) (retO (cD (.bool false))) nxO)
  (seqO (forO (seqI (opA gLstD (aC (cD .none) (aC (cD (.int 5)) (aC (opA gTupD aN) (aC (op2 gAdd (vN 3) (opA gTupD (aC (opA gTupD (aC (cD (.int 0)) (aC (cD (.int 0)) (aC (cD (.int 0)) aN)))) aN))) (aC (op2 gMul (opA gTupD (aC (opA gTupD (aC (cD (.int 0)) (aC (cD (.int 0)) (aC (vN 4) aN)))) aN)) (opA gLen (aC (vN 3) aN))) aN))))))) (setS 8) b_law_L6)
  (seqO (linesO 5 10)
  (seqO (appO 10 (cD (.str "more")))
  (ifO (orT (tst (op2 gNe (methO 5 m_Running_lines aN) (op2 gIx (vN 6) (cD (.int 2))))) (orT (tst (op2 gIsNot (methI 5 i_Running_undo_2 aN) (cD .none))) (tst (op2 gNe (methO 5 m_Running_standing aN) (vN 3))))) (retO (cD (.bool false))) nxO)))))))))))))))))))
abbrev law_n : Nat := 12
abbrev law_di : Nat := 1
end G
set_option Elab.async false
set_option linter.all false
set_option maxRecDepth 100000
set_option maxHeartbeats 4000000
namespace G
open PySem PySem.Spec PyProof.Rows L2 DL
variable [TabCtx]
structure Tx (K : PySem.W.Frag) (mg : Str → Option Value) : Prop where
  f_is_whole : ∃ fd, FunD K "is_whole" "is_whole" (defArgs s_is_whole) (defBody s_is_whole) (defScope s_is_whole) [] [] (He.ga K "is_whole") fd
  g_is_whole : mg "is_whole" = some (.ref (He.ga K "is_whole"))
  f_is_word : ∃ fd, FunD K "is_word" "is_word" (defArgs s_is_word) (defBody s_is_word) (defScope s_is_word) [] [] (He.ga K "is_word") fd
  g_is_word : mg "is_word" = some (.ref (He.ga K "is_word"))
  f_rise : ∃ fd, FunD K "rise" "rise" (defArgs s_rise) (defBody s_rise) (defScope s_rise) [] [] (He.ga K "rise") fd
  g_rise : mg "rise" = some (.ref (He.ga K "rise"))
  f_are_lines : ∃ fd, FunD K "are_lines" "are_lines" (defArgs s_are_lines) (defBody s_are_lines) (defScope s_are_lines) [] [] (He.ga K "are_lines") fd
  g_are_lines : mg "are_lines" = some (.ref (He.ga K "are_lines"))
  f_is_ear : ∃ fd, FunD K "is_ear" "is_ear" (defArgs s_is_ear) (defBody s_is_ear) (defScope s_is_ear) [] [] (He.ga K "is_ear") fd
  g_is_ear : mg "is_ear" = some (.ref (He.ga K "is_ear"))
  f_are_ears : ∃ fd, FunD K "are_ears" "are_ears" (defArgs s_are_ears) (defBody s_are_ears) (defScope s_are_ears) [] [] (He.ga K "are_ears") fd
  g_are_ears : mg "are_ears" = some (.ref (He.ga K "are_ears"))
  f_places_for : ∃ fd, FunD K "places_for" "places_for" (defArgs s_places_for) (defBody s_places_for) (defScope s_places_for) [] [] (He.ga K "places_for") fd
  g_places_for : mg "places_for" = some (.ref (He.ga K "places_for"))
  f_is_singer : ∃ fd, FunD K "is_singer" "is_singer" (defArgs s_is_singer) (defBody s_is_singer) (defScope s_is_singer) [] [] (He.ga K "is_singer") fd
  g_is_singer : mg "is_singer" = some (.ref (He.ga K "is_singer"))
  f_is_choir : ∃ fd, FunD K "is_choir" "is_choir" (defArgs s_is_choir) (defBody s_is_choir) (defScope s_is_choir) [] [] (He.ga K "is_choir") fd
  g_is_choir : mg "is_choir" = some (.ref (He.ga K "is_choir"))
  f_need_choir : ∃ fd, FunD K "need_choir" "need_choir" (defArgs s_need_choir) (defBody s_need_choir) (defScope s_need_choir) [] [] (He.ga K "need_choir") fd
  g_need_choir : mg "need_choir" = some (.ref (He.ga K "need_choir"))
  f_all_names : ∃ fd, FunD K "all_names" "all_names" (defArgs s_all_names) (defBody s_all_names) (defScope s_all_names) [] [] (He.ga K "all_names") fd
  g_all_names : mg "all_names" = some (.ref (He.ga K "all_names"))
  f_is_good_standing : ∃ fd, FunD K "is_good_standing" "is_good_standing" (defArgs s_is_good_standing) (defBody s_is_good_standing) (defScope s_is_good_standing) [] [] (He.ga K "is_good_standing") fd
  g_is_good_standing : mg "is_good_standing" = some (.ref (He.ga K "is_good_standing"))
  f_need_standing : ∃ fd, FunD K "need_standing" "need_standing" (defArgs s_need_standing) (defBody s_need_standing) (defScope s_need_standing) [] [] (He.ga K "need_standing") fd
  g_need_standing : mg "need_standing" = some (.ref (He.ga K "need_standing"))
  f_need_name : ∃ fd, FunD K "need_name" "need_name" (defArgs s_need_name) (defBody s_need_name) (defScope s_need_name) [] [] (He.ga K "need_name") fd
  g_need_name : mg "need_name" = some (.ref (He.ga K "need_name"))
  f_number_of : ∃ fd, FunD K "number_of" "number_of" (defArgs s_number_of) (defBody s_number_of) (defScope s_number_of) [] [] (He.ga K "number_of") fd
  g_number_of : mg "number_of" = some (.ref (He.ga K "number_of"))
  f_heard_by : ∃ fd, FunD K "heard_by" "heard_by" (defArgs s_heard_by) (defBody s_heard_by) (defScope s_heard_by) [] [] (He.ga K "heard_by") fd
  g_heard_by : mg "heard_by" = some (.ref (He.ga K "heard_by"))
  f_place_of : ∃ fd, FunD K "place_of" "place_of" (defArgs s_place_of) (defBody s_place_of) (defScope s_place_of) [] [] (He.ga K "place_of") fd
  g_place_of : mg "place_of" = some (.ref (He.ga K "place_of"))
  f_table_line : ∃ fd, FunD K "table_line" "table_line" (defArgs s_table_line) (defBody s_table_line) (defScope s_table_line) [] [] (He.ga K "table_line") fd
  g_table_line : mg "table_line" = some (.ref (He.ga K "table_line"))
  f_all_next : ∃ fd, FunD K "all_next" "all_next" (defArgs s_all_next) (defBody s_all_next) (defScope s_all_next) [] [] (He.ga K "all_next") fd
  g_all_next : mg "all_next" = some (.ref (He.ga K "all_next"))
  f_behind : ∃ fd, FunD K "behind" "behind" (defArgs s_behind) (defBody s_behind) (defScope s_behind) [] [] (He.ga K "behind") fd
  g_behind : mg "behind" = some (.ref (He.ga K "behind"))
  f_need_beats : ∃ fd, FunD K "need_beats" "need_beats" (defArgs s_need_beats) (defBody s_need_beats) (defScope s_need_beats) [] [] (He.ga K "need_beats") fd
  g_need_beats : mg "need_beats" = some (.ref (He.ga K "need_beats"))
  f_law_cell : ∃ fd, FunD K "_law_cell" "_law_cell" (defArgs s_law_cell) (defBody s_law_cell) (defScope s_law_cell) [] [] (He.ga K "_law_cell") fd
  g_law_cell : mg "_law_cell" = some (.ref (He.ga K "_law_cell"))
  f_law_drawn : ∃ fd, FunD K "_law_drawn" "_law_drawn" (defArgs s_law_drawn) (defBody s_law_drawn) (defScope s_law_drawn) [] [] (He.ga K "_law_drawn") fd
  g_law_drawn : mg "_law_drawn" = some (.ref (He.ga K "_law_drawn"))
  f_law_roll : ∃ fd, FunD K "_law_roll" "_law_roll" (defArgs s_law_roll) (defBody s_law_roll) (defScope s_law_roll) [] [] (He.ga K "_law_roll") fd
  g_law_roll : mg "_law_roll" = some (.ref (He.ga K "_law_roll"))
  f_law_rounds : ∃ fd, FunD K "_law_rounds" "_law_rounds" (defArgs s_law_rounds) (defBody s_law_rounds) (defScope s_law_rounds) [] [] (He.ga K "_law_rounds") fd
  g_law_rounds : mg "_law_rounds" = some (.ref (He.ga K "_law_rounds"))
  f_law_term : ∃ fd, FunD K "_law_term" "_law_term" (defArgs s_law_term) (defBody s_law_term) (defScope s_law_term) [] [] (He.ga K "_law_term") fd
  g_law_term : mg "_law_term" = some (.ref (He.ga K "_law_term"))
  f_law_told : ∃ fd, FunD K "_law_told" "_law_told" (defArgs s_law_told) (defBody s_law_told) (defScope s_law_told) [] [] (He.ga K "_law_told") fd
  g_law_told : mg "_law_told" = some (.ref (He.ga K "_law_told"))
  f_law_any_singers : ∃ fd, FunD K "_law_any_singers" "_law_any_singers" (defArgs s_law_any_singers) (defBody s_law_any_singers) (defScope s_law_any_singers) [] [] (He.ga K "_law_any_singers") fd
  g_law_any_singers : mg "_law_any_singers" = some (.ref (He.ga K "_law_any_singers"))
  f_law_any_choir : ∃ fd, FunD K "_law_any_choir" "_law_any_choir" (defArgs s_law_any_choir) (defBody s_law_any_choir) (defScope s_law_any_choir) [] [] (He.ga K "_law_any_choir") fd
  g_law_any_choir : mg "_law_any_choir" = some (.ref (He.ga K "_law_any_choir"))
  f_law_any_standing : ∃ fd, FunD K "_law_any_standing" "_law_any_standing" (defArgs s_law_any_standing) (defBody s_law_any_standing) (defScope s_law_any_standing) [] [] (He.ga K "_law_any_standing") fd
  g_law_any_standing : mg "_law_any_standing" = some (.ref (He.ga K "_law_any_standing"))
  f_law : ∃ fd, FunD K "law" "law" (defArgs s_law) (defBody s_law) (defScope s_law) [] [] (He.ga K "law") fd
  g_law : mg "law" = some (.ref (He.ga K "law"))
  rk : RunK K
  f_Running_init : ∃ fd, FunD K "__init__" "Running.__init__" (defArgs s_Running_init) (defBody s_Running_init) (defScope s_Running_init) [] [] (aMet K "__init__") fd
  f_Running_len : ∃ fd, FunD K "__len__" "Running.__len__" (defArgs s_Running_len) (defBody s_Running_len) (defScope s_Running_len) [] [] (aMet K "__len__") fd
  f_Running_remember : ∃ fd, FunD K "remember" "Running.remember" (defArgs s_Running_remember) (defBody s_Running_remember) (defScope s_Running_remember) [] [] (aMet K "remember") fd
  f_Running_need_leads : ∃ fd, FunD K "need_leads" "Running.need_leads" (defArgs s_Running_need_leads) (defBody s_Running_need_leads) (defScope s_Running_need_leads) [] [] (aMet K "need_leads") fd
  f_Running_sing : ∃ fd, FunD K "sing" "Running.sing" (defArgs s_Running_sing) (defBody s_Running_sing) (defScope s_Running_sing) [] [] (aMet K "sing") fd
  f_Running_beat : ∃ fd, FunD K "beat" "Running.beat" (defArgs s_Running_beat) (defBody s_Running_beat) (defScope s_Running_beat) [] [] (aMet K "beat") fd
  f_Running_run_2 : ∃ fd, FunD K "run" "Running.run" (defArgs s_Running_run_2) (defBody s_Running_run_2) (defScope s_Running_run_2) [] [] (aMet K "run") fd
  f_Running_replace_2 : ∃ fd, FunD K "replace" "Running.replace" (defArgs s_Running_replace_2) (defBody s_Running_replace_2) (defScope s_Running_replace_2) [] [] (aMet K "replace") fd
  f_Running_lines : ∃ fd, FunD K "lines" "Running.lines" (defArgs s_Running_lines) (defBody s_Running_lines) (defScope s_Running_lines) [] [] (aMet K "lines") fd
  f_Running_standing : ∃ fd, FunD K "standing" "Running.standing" (defArgs s_Running_standing) (defBody s_Running_standing) (defScope s_Running_standing) [] [] (aMet K "standing") fd
  f_Running_choir : ∃ fd, FunD K "choir" "Running.choir" (defArgs s_Running_choir) (defBody s_Running_choir) (defScope s_Running_choir) [] [] (aMet K "choir") fd
  f_Running_undo_2 : ∃ fd, FunD K "undo" "Running.undo" (defArgs s_Running_undo_2) (defBody s_Running_undo_2) (defScope s_Running_undo_2) [] [] (aMet K "undo") fd
  x_SongError : ExcF K mg "SongError"
  x_BadChoir : ExcF K mg "BadChoir"
  x_BadName : ExcF K mg "BadName"
  x_BadStanding : ExcF K mg "BadStanding"
  x_BadNumber : ExcF K mg "BadNumber"
  x_BadRows : ExcF K mg "BadRows"
  x_BadLead : ExcF K mg "BadLead"
  x_BadWish : ExcF K mg "BadWish"
  k_Clash : mg "Clash" = some (.ref (He.ga K "Clash"))
  x_Nothing : ExcF K mg "Nothing"
  x_Full : ExcF K mg "Full"
  x_BadText : ExcF K mg "BadText"
  k_Running : mg "Running" = some (.ref (He.ga K "Running"))
  c_SMALL : ∃ t, mg "SMALL" = some (.str "abcdefghijklmnopqrstuvwxyz" t)
  c_LONGEST : ∃ t, mg "LONGEST" = some (.int 500 t)
  z_ValueError : mg "ValueError" = none
  z_all : mg "all" = none
  z_bool : mg "bool" = none
  z_dict : mg "dict" = none
  z_int : mg "int" = none
  z_isinstance : mg "isinstance" = none
  z_len : mg "len" = none
  z_list : mg "list" = none
  z_max : mg "max" = none
  z_min : mg "min" = none
  z_range : mg "range" = none
  z_sorted : mg "sorted" = none
  z_str : mg "str" = none
  z_sum : mg "sum" = none
  z_tuple : mg "tuple" = none
  z_zip : mg "zip" = none
abbrev N_is_whole : List Str := ["thing", "low", "high"]
theorem sc_is_whole : FnScope N_is_whole ["thing", "low", "high"] (defScope s_is_whole) := ⟨rfl, rfl, rfl, by decide +kernel, rfl, by decide +kernel, by decide +kernel⟩
theorem ok_is_whole {P : Program} {w : World} {K : PySem.W.Frag} {mg : Str → Option Value} {base : Heap} (T : Tx K mg) : FnD P w K mg base 1 "is_whole" ["thing", "low", "high"] m_is_whole := by
  obtain ⟨fd, D⟩ := T.f_is_whole
  exact fn_mk D T.g_is_whole sc_is_whole (fun _ _ _ _ _ _ us hl => match us, hl with | [_, _, _], _ => rfl) (by decide) fun cdv A outer s H V E hr => (pms_one (pms_ret (pm_and (pm_isi .int T.z_isinstance T.z_int (pm_var 0)) (pm_and (pm_not (pm_isi .bool T.z_isinstance T.z_bool (pm_var 0))) (pm_one (pm_chain op_le od_le op_le od_le (pm_var 1) (pm_var 0) (pm_var 2)))))))
abbrev N_is_word : List Str := ["thing", "sign"]
theorem sc_is_word : FnScope N_is_word ["thing"] (defScope s_is_word) := ⟨rfl, rfl, rfl, by decide +kernel, rfl, by decide +kernel, by decide +kernel⟩
theorem ok_is_word {P : Program} {w : World} {K : PySem.W.Frag} {mg : Str → Option Value} {base : Heap} (T : Tx K mg) : FnD P w K mg base 1 "is_word" ["thing"] m_is_word := by
  obtain ⟨fd, D⟩ := T.f_is_word
  exact fn_mk D T.g_is_word sc_is_word (fun _ _ _ _ _ _ us hl => match us, hl with | [_], _ => rfl) (by decide) fun cdv A outer s H V E hr => (pms_one (pms_ret (pm_and (pm_isi .str T.z_isinstance T.z_str (pm_var 0)) (pm_and (pm_chain op_le od_le op_le od_le pm_int (pm_callB call_len cd_len T.z_len (pma_cons (pm_var 0) pma_nil)) pm_int) (pm_one (pm_callB (cr_all rfl) cd_all T.z_all (pma_cons (pm_lc [("sign", 1)] (pmi_seq (pm_var 0)) (blkOk_by (N := N_is_word) (sc := defScope s_is_word) (by decide +kernel)) sc_is_word.nd (fun _ _ _ _ _ => (pmg_name 1 sc_is_word.nd)) (fun _ _ _ _ _ => pmts_nil) (fun _ _ _ _ _ => (pm_cmp (op_inAll (u65 hr)) od_in (pm_var 1) (pm_gstr T.c_SMALL)))) pma_nil)))))))
abbrev N_rise : List Str := ["rows", "one", "other"]
theorem sc_rise : FnScope N_rise ["rows"] (defScope s_rise) := ⟨rfl, rfl, rfl, by decide +kernel, rfl, by decide +kernel, by decide +kernel⟩
theorem ok_rise {P : Program} {w : World} {K : PySem.W.Frag} {mg : Str → Option Value} {base : Heap} (T : Tx K mg) : FnD P w K mg base 1 "rise" ["rows"] m_rise := by
  obtain ⟨fd, D⟩ := T.f_rise
  exact fn_mk D T.g_rise sc_rise (fun _ _ _ _ _ _ us hl => match us, hl with | [_], _ => rfl) (by decide) fun cdv A outer s H V E hr => (pms_one (pms_ret (pm_callB (cr_all rfl) cd_all T.z_all (pma_cons (pm_lc [("one", 1), ("other", 2)] (pmi_zip T.z_zip (pma_cons (pm_var 0) (pma_cons (pm_slice (pm_var 0) (pmo_some pm_int) pmo_none) pma_nil))) (blkOk_by (N := N_rise) (sc := defScope s_rise) (by decide +kernel)) sc_rise.nd (fun _ _ _ _ _ => (pmg_tup (pmgs_cons (pmg_name 1 sc_rise.nd) (pmgs_cons (pmg_name 2 sc_rise.nd) pmgs_nil)) (gsC_len (gsC_len (fun _ _ _ h => gsN_len h))))) (fun _ _ _ _ _ => pmts_nil) (fun _ _ _ _ _ => (pm_cmp (op_ltAll hr.units0) od_lt (pm_var 1) (pm_var 2)))) pma_nil))))
abbrev N_are_lines : List Str := ["thing", "size", "many", "one"]
theorem sc_are_lines : FnScope N_are_lines ["thing", "size", "many"] (defScope s_are_lines) := ⟨rfl, rfl, rfl, by decide +kernel, rfl, by decide +kernel, by decide +kernel⟩
theorem ok_are_lines {P : Program} {w : World} {K : PySem.W.Frag} {mg : Str → Option Value} {base : Heap} (T : Tx K mg) : FnD P w K mg base 2 "are_lines" ["thing", "size", "many"] m_are_lines := by
  obtain ⟨fd, D⟩ := T.f_are_lines
  exact fn_mk D T.g_are_lines sc_are_lines (fun _ _ _ _ _ _ us hl => match us, hl with | [_, _, _], _ => rfl) (by decide) fun cdv A outer s H V E hr => (pms_one (pms_ret (pm_and (pm_isi .tuple T.z_isinstance T.z_tuple (pm_var 0)) (pm_and (pm_cmp (op_eqD hr.units) od_eq (pm_callB call_len cd_len T.z_len (pma_cons (pm_var 0) pma_nil)) (pm_var 1)) (pm_one (pm_callB (cr_all rfl) cd_all T.z_all (pma_cons (pm_lc [("one", 3)] (pmi_seq (pm_var 0)) (blkOk_by (N := N_are_lines) (sc := defScope s_are_lines) (by decide +kernel)) sc_are_lines.nd (fun _ _ _ _ _ => (pmg_name 3 sc_are_lines.nd)) (fun _ _ _ _ _ => pmts_nil) (fun _ _ _ _ _ => (pm_call (ok_is_whole T) (hr.mono (by decide)) tk_nox (pma_cons (pm_var 3) (pma_cons pm_int (pma_cons (pm_op op_sub od_sub (pm_var 2) pm_int) pma_nil)))))) pma_nil)))))))
abbrev N_is_ear : List Str := ["thing"]
theorem sc_is_ear : FnScope N_is_ear ["thing"] (defScope s_is_ear) := ⟨rfl, rfl, rfl, by decide +kernel, rfl, by decide +kernel, by decide +kernel⟩
theorem ok_is_ear {P : Program} {w : World} {K : PySem.W.Frag} {mg : Str → Option Value} {base : Heap} (T : Tx K mg) : FnD P w K mg base 2 "is_ear" ["thing"] m_is_ear := by
  obtain ⟨fd, D⟩ := T.f_is_ear
  exact fn_mk D T.g_is_ear sc_is_ear (fun _ _ _ _ _ _ us hl => match us, hl with | [_], _ => rfl) (by decide) fun cdv A outer s H V E hr => (pms_one (pms_ret (pm_and (pm_isi .tuple T.z_isinstance T.z_tuple (pm_var 0)) (pm_and (pm_cmp (op_eqD hr.units) od_eq (pm_callB call_len cd_len T.z_len (pma_cons (pm_var 0) pma_nil)) pm_int) (pm_and (pm_call (ok_is_word T) (hr.mono (by decide)) tk_fn (pma_cons (pm_ix ix_seq od_ix (pm_var 0) pm_int) pma_nil)) (pm_one (pm_call (ok_is_whole T) (hr.mono (by decide)) tk_fn (pma_cons (pm_ix ix_seq od_ix (pm_var 0) pm_int) (pma_cons pm_int (pma_cons pm_int pma_nil))))))))))
abbrev N_are_ears : List Str := ["thing", "one"]
theorem sc_are_ears : FnScope N_are_ears ["thing"] (defScope s_are_ears) := ⟨rfl, rfl, rfl, by decide +kernel, rfl, by decide +kernel, by decide +kernel⟩
theorem ok_are_ears {P : Program} {w : World} {K : PySem.W.Frag} {mg : Str → Option Value} {base : Heap} (T : Tx K mg) : FnD P w K mg base 3 "are_ears" ["thing"] m_are_ears := by
  obtain ⟨fd, D⟩ := T.f_are_ears
  exact fn_mk D T.g_are_ears sc_are_ears (fun _ _ _ _ _ _ us hl => match us, hl with | [_], _ => rfl) (by decide) fun cdv A outer s H V E hr => (pms_one (pms_ret (pm_and (pm_isi .tuple T.z_isinstance T.z_tuple (pm_var 0)) (pm_and (pm_cmp op_le od_le (pm_callB call_len cd_len T.z_len (pma_cons (pm_var 0) pma_nil)) pm_int) (pm_and (pm_callB (cr_all rfl) cd_all T.z_all (pma_cons (pm_lc [("one", 1)] (pmi_seq (pm_var 0)) (blkOk_by (N := N_are_ears) (sc := defScope s_are_ears) (by decide +kernel)) sc_are_ears.nd (fun _ _ _ _ _ => (pmg_name 1 sc_are_ears.nd)) (fun _ _ _ _ _ => pmts_nil) (fun _ _ _ _ _ => (pm_call (ok_is_ear T) (hr.mono (by decide)) tk_nox (pma_cons (pm_var 1) pma_nil)))) pma_nil)) (pm_one (pm_call (ok_rise T) (hr.mono (by decide)) tk_fn (pma_cons (pm_var 0) pma_nil))))))))
abbrev N_places_for : List Str := ["many", "ears"]
theorem sc_places_for : FnScope N_places_for ["many", "ears"] (defScope s_places_for) := ⟨rfl, rfl, rfl, by decide +kernel, rfl, by decide +kernel, by decide +kernel⟩
theorem ok_places_for {P : Program} {w : World} {K : PySem.W.Frag} {mg : Str → Option Value} {base : Heap} (T : Tx K mg) : FnD P w K mg base 1 "places_for" ["many", "ears"] m_places_for := by
  obtain ⟨fd, D⟩ := T.f_places_for
  exact fn_mk D T.g_places_for sc_places_for (fun _ _ _ _ _ _ us hl => match us, hl with | [_, _], _ => rfl) (by decide) fun cdv A outer s H V E hr => (pms_one (pms_ret (pm_ix ix_seq od_ix (pm_lst (pma_cons pm_int (pma_cons (pm_var 0) (pma_cons (pm_op op_mulD od_mul (pm_var 0) (pm_var 0)) pma_nil)))) (pm_callB call_len cd_len T.z_len (pma_cons (pm_var 1) pma_nil)))))
abbrev N_is_singer : List Str := ["thing", "many"]
theorem sc_is_singer : FnScope N_is_singer ["thing", "many"] (defScope s_is_singer) := ⟨rfl, rfl, rfl, by decide +kernel, rfl, by decide +kernel, by decide +kernel⟩
theorem ok_is_singer {P : Program} {w : World} {K : PySem.W.Frag} {mg : Str → Option Value} {base : Heap} (T : Tx K mg) : FnD P w K mg base 4 "is_singer" ["thing", "many"] m_is_singer := by
  obtain ⟨fd, D⟩ := T.f_is_singer
  exact fn_mk D T.g_is_singer sc_is_singer (fun _ _ _ _ _ _ us hl => match us, hl with | [_, _], _ => rfl) (by decide) fun cdv A outer s H V E hr => (pms_cons (pms_if (pmt_w (pmw_or (pmt_not (pmt_val (pm_isi .tuple T.z_isinstance T.z_tuple (pm_var 0)))) (pmw_or (pmt_cmp (op_neD hr.units) od_ne (pm_callB call_len cd_len T.z_len (pma_cons (pm_var 0) pma_nil)) pm_int) (pmw_or (pmt_not (pmt_val (pm_call (ok_is_word T) (hr.mono (by decide)) tk_fn (pma_cons (pm_ix ix_seq od_ix (pm_var 0) pm_int) pma_nil)))) (pmw_or1 (pmt_not (pmt_val (pm_call (ok_are_ears T) (hr.mono (by decide)) tk_fn (pma_cons (pm_ix ix_seq od_ix (pm_var 0) pm_int) pma_nil))))))))) (pms_one (pms_ret pm_bl)) pms_nil)
  (pms_one (pms_ret (pm_call (ok_are_lines T) (hr.mono (by decide)) tk_fn (pma_cons (pm_ix ix_seq od_ix (pm_var 0) pm_int) (pma_cons (pm_call (ok_places_for T) (hr.mono (by decide)) tk_fn (pma_cons (pm_var 1) (pma_cons (pm_ix ix_seq od_ix (pm_var 0) pm_int) pma_nil))) (pma_cons (pm_var 1) pma_nil)))))))
abbrev N_is_choir : List Str := ["thing", "many", "singers", "some", "one", "ear"]
theorem sc_is_choir : FnScope N_is_choir ["thing"] (defScope s_is_choir) := ⟨rfl, rfl, rfl, by decide +kernel, rfl, by decide +kernel, by decide +kernel⟩
theorem ok_is_choir {P : Program} {w : World} {K : PySem.W.Frag} {mg : Str → Option Value} {base : Heap} (T : Tx K mg) : FnD P w K mg base 5 "is_choir" ["thing"] m_is_choir := by
  obtain ⟨fd, D⟩ := T.f_is_choir
  exact fn_mk D T.g_is_choir sc_is_choir (fun _ _ _ _ _ _ us hl => match us, hl with | [_], _ => rfl) (by decide) fun cdv A outer s H V E hr => (pms_cons (pms_if (pmt_w (pmw_or (pmt_not (pmt_val (pm_isi .tuple T.z_isinstance T.z_tuple (pm_var 0)))) (pmw_or (pmt_cmp (op_neD hr.units) od_ne (pm_callB call_len cd_len T.z_len (pma_cons (pm_var 0) pma_nil)) pm_int) (pmw_or1 (pmt_not (pmt_val (pm_call (ok_is_whole T) (hr.mono (by decide)) tk_fn (pma_cons (pm_ix ix_seq od_ix (pm_var 0) pm_int) (pma_cons pm_int (pma_cons pm_int pma_nil)))))))))) (pms_one (pms_ret pm_bl)) pms_nil)
  (pms_cons (pms_asg (pm_var 0) (pmg_tup (pmgs_cons (pmg_name 1 sc_is_choir.nd) (pmgs_cons (pmg_name 2 sc_is_choir.nd) pmgs_nil)) (gsC_len (gsC_len (fun _ _ _ h => gsN_len h)))))
  (pms_cons (pms_if (pmt_w (pmw_or (pmt_not (pmt_val (pm_isi .tuple T.z_isinstance T.z_tuple (pm_var 2)))) (pmw_or1 (pmt_not (pmt_chain op_le od_le op_le od_le pm_int (pm_callB call_len cd_len T.z_len (pma_cons (pm_var 2) pma_nil)) pm_int))))) (pms_one (pms_ret pm_bl)) pms_nil)
  (pms_cons (pms_if (pmt_w (pmw_or (pmt_not (pmt_val (pm_callB (cr_all rfl) cd_all T.z_all (pma_cons (pm_lc [("one", 4)] (pmi_seq (pm_var 2)) (blkOk_by (N := N_is_choir) (sc := defScope s_is_choir) (by decide +kernel)) sc_is_choir.nd (fun _ _ _ _ _ => (pmg_name 4 sc_is_choir.nd)) (fun _ _ _ _ _ => pmts_nil) (fun _ _ _ _ _ => (pm_call (ok_is_singer T) (hr.mono (by decide)) tk_nox (pma_cons (pm_var 4) (pma_cons (pm_var 1) pma_nil))))) pma_nil)))) (pmw_or1 (pmt_not (pmt_val (pm_call (ok_rise T) (hr.mono (by decide)) tk_fn (pma_cons (pm_lc [("one", 4)] (pmi_seq (pm_var 2)) (blkOk_by (N := N_is_choir) (sc := defScope s_is_choir) (by decide +kernel)) sc_is_choir.nd (fun _ _ _ _ _ => (pmg_name 4 sc_is_choir.nd)) (fun _ _ _ _ _ => pmts_nil) (fun _ _ _ _ _ => (pm_ix ix_seq od_ix (pm_var 4) pm_int))) pma_nil))))))) (pms_one (pms_ret pm_bl)) pms_nil)
  (pms_cons (pms_set 3 (pm_lc [("one", 4)] (pmi_seq (pm_var 2)) (blkOk_by (N := N_is_choir) (sc := defScope s_is_choir) (by decide +kernel)) sc_is_choir.nd (fun _ _ _ _ _ => (pmg_name 4 sc_is_choir.nd)) (fun _ _ _ _ _ => pmts_nil) (fun _ _ _ _ _ => (pm_ix ix_seq od_ix (pm_var 4) pm_int))) sc_is_choir.nd)
  (pms_one (pms_ret (pm_callB (cr_all rfl) cd_all T.z_all (pma_cons (pm_lc2 [("one", 4), ("ear", 5)] [5] (pmi_seq (pm_var 2)) (blkOk_by (N := N_is_choir) (sc := defScope s_is_choir) (by decide +kernel)) sc_is_choir.nd (fun _ _ _ _ _ => (pmg_name 4 sc_is_choir.nd)) (fun _ _ _ _ _ => pmts_nil) (fun _ _ _ _ _ => (pmi_seq (pm_ix ix_seq od_ix (pm_var 4) pm_int))) (fun _ _ _ _ _ => (pmg_name 5 sc_is_choir.nd)) (fun _ _ _ _ _ => pmts_nil) (fun _ _ _ _ _ => (pm_cmp (op_inAll (u65 hr)) od_in (pm_ix ix_seq od_ix (pm_var 5) pm_int) (pm_var 3)))) pma_nil)))))))))
abbrev N_need_choir : List Str := ["thing"]
theorem sc_need_choir : FnScope N_need_choir ["thing"] (defScope s_need_choir) := ⟨rfl, rfl, rfl, by decide +kernel, rfl, by decide +kernel, by decide +kernel⟩
theorem ok_need_choir {P : Program} {w : World} {K : PySem.W.Frag} {mg : Str → Option Value} {base : Heap} (T : Tx K mg) : FnD P w K mg base 6 "need_choir" ["thing"] m_need_choir := by
  obtain ⟨fd, D⟩ := T.f_need_choir
  exact fn_mk D T.g_need_choir sc_need_choir (fun _ _ _ _ _ _ us hl => match us, hl with | [_], _ => rfl) (by decide) fun cdv A outer s H V E hr => (pms_one (pms_if (pmt_not (pmt_val (pm_call (ok_is_choir T) (hr.mono (by decide)) tk_fn (pma_cons (pm_var 0) pma_nil)))) (pms_one (pms_raise T.x_BadChoir tk_fn)) pms_nil))
abbrev N_all_names : List Str := ["choir", "one"]
theorem sc_all_names : FnScope N_all_names ["choir"] (defScope s_all_names) := ⟨rfl, rfl, rfl, by decide +kernel, rfl, by decide +kernel, by decide +kernel⟩
theorem ok_all_names {P : Program} {w : World} {K : PySem.W.Frag} {mg : Str → Option Value} {base : Heap} (T : Tx K mg) : FnD P w K mg base 1 "all_names" ["choir"] m_all_names := by
  obtain ⟨fd, D⟩ := T.f_all_names
  exact fn_mk D T.g_all_names sc_all_names (fun _ _ _ _ _ _ us hl => match us, hl with | [_], _ => rfl) (by decide) fun cdv A outer s H V E hr => (pms_one (pms_ret (pm_lc [("one", 1)] (pmi_seq (pm_ix ix_seq od_ix (pm_var 0) pm_int)) (blkOk_by (N := N_all_names) (sc := defScope s_all_names) (by decide +kernel)) sc_all_names.nd (fun _ _ _ _ _ => (pmg_name 1 sc_all_names.nd)) (fun _ _ _ _ _ => pmts_nil) (fun _ _ _ _ _ => (pm_ix ix_seq od_ix (pm_var 1) pm_int)))))
abbrev N_is_good_standing : List Str := ["choir", "thing", "one"]
theorem sc_is_good_standing : FnScope N_is_good_standing ["choir", "thing"] (defScope s_is_good_standing) := ⟨rfl, rfl, rfl, by decide +kernel, rfl, by decide +kernel, by decide +kernel⟩
theorem ok_is_good_standing {P : Program} {w : World} {K : PySem.W.Frag} {mg : Str → Option Value} {base : Heap} (T : Tx K mg) : FnD P w K mg base 3 "is_good_standing" ["choir", "thing"] m_is_good_standing := by
  obtain ⟨fd, D⟩ := T.f_is_good_standing
  exact fn_mk D T.g_is_good_standing sc_is_good_standing (fun _ _ _ _ _ _ us hl => match us, hl with | [_, _], _ => rfl) (by decide) fun cdv A outer s H V E hr => (pms_cons (pms_if (pmt_w (pmw_or (pmt_not (pmt_val (pm_isi .tuple T.z_isinstance T.z_tuple (pm_var 1)))) (pmw_or1 (pmt_cmp (op_neD hr.units) od_ne (pm_callB call_len cd_len T.z_len (pma_cons (pm_var 1) pma_nil)) (pm_callB call_len cd_len T.z_len (pma_cons (pm_ix ix_seq od_ix (pm_var 0) pm_int) pma_nil)))))) (pms_one (pms_ret pm_bl)) pms_nil)
  (pms_one (pms_ret (pm_callB (cr_all rfl) cd_all T.z_all (pma_cons (pm_lc [("one", 2)] (pmi_seq (pm_var 1)) (blkOk_by (N := N_is_good_standing) (sc := defScope s_is_good_standing) (by decide +kernel)) sc_is_good_standing.nd (fun _ _ _ _ _ => (pmg_name 2 sc_is_good_standing.nd)) (fun _ _ _ _ _ => pmts_nil) (fun _ _ _ _ _ => (pm_call (ok_are_lines T) (hr.mono (by decide)) tk_nox (pma_cons (pm_var 2) (pma_cons pm_int (pma_cons (pm_ix ix_seq od_ix (pm_var 0) pm_int) pma_nil)))))) pma_nil)))))
abbrev N_need_standing : List Str := ["choir", "thing"]
theorem sc_need_standing : FnScope N_need_standing ["choir", "thing"] (defScope s_need_standing) := ⟨rfl, rfl, rfl, by decide +kernel, rfl, by decide +kernel, by decide +kernel⟩
theorem ok_need_standing {P : Program} {w : World} {K : PySem.W.Frag} {mg : Str → Option Value} {base : Heap} (T : Tx K mg) : FnD P w K mg base 4 "need_standing" ["choir", "thing"] m_need_standing := by
  obtain ⟨fd, D⟩ := T.f_need_standing
  exact fn_mk D T.g_need_standing sc_need_standing (fun _ _ _ _ _ _ us hl => match us, hl with | [_, _], _ => rfl) (by decide) fun cdv A outer s H V E hr => (pms_one (pms_if (pmt_not (pmt_val (pm_call (ok_is_good_standing T) (hr.mono (by decide)) tk_fn (pma_cons (pm_var 0) (pma_cons (pm_var 1) pma_nil))))) (pms_one (pms_raise T.x_BadStanding tk_fn)) pms_nil))
abbrev N_need_name : List Str := ["choir", "name"]
theorem sc_need_name : FnScope N_need_name ["choir", "name"] (defScope s_need_name) := ⟨rfl, rfl, rfl, by decide +kernel, rfl, by decide +kernel, by decide +kernel⟩
theorem ok_need_name {P : Program} {w : World} {K : PySem.W.Frag} {mg : Str → Option Value} {base : Heap} (T : Tx K mg) : FnD P w K mg base 2 "need_name" ["choir", "name"] m_need_name := by
  obtain ⟨fd, D⟩ := T.f_need_name
  exact fn_mk D T.g_need_name sc_need_name (fun _ _ _ _ _ _ us hl => match us, hl with | [_, _], _ => rfl) (by decide) fun cdv A outer s H V E hr => (pms_one (pms_if (pmt_w (pmw_or (pmt_not (pmt_val (pm_isi .str T.z_isinstance T.z_str (pm_var 1)))) (pmw_or1 (pmt_cmp (op_notInAll (u65 hr)) od_notIn (pm_var 1) (pm_call (ok_all_names T) (hr.mono (by decide)) tk_fn (pma_cons (pm_var 0) pma_nil)))))) (pms_one (pms_raise T.x_BadName tk_fn)) pms_nil))
abbrev N_number_of : List Str := ["choir", "name"]
theorem sc_number_of : FnScope N_number_of ["choir", "name"] (defScope s_number_of) := ⟨rfl, rfl, rfl, by decide +kernel, rfl, by decide +kernel, by decide +kernel⟩
theorem ok_number_of {P : Program} {w : World} {K : PySem.W.Frag} {mg : Str → Option Value} {base : Heap} (T : Tx K mg) : FnD P w K mg base 2 "number_of" ["choir", "name"] m_number_of := by
  obtain ⟨fd, D⟩ := T.f_number_of
  exact fn_mk D T.g_number_of sc_number_of (fun _ _ _ _ _ _ us hl => match us, hl with | [_, _], _ => rfl) (by decide) fun cdv A outer s H V E hr => (pms_one (pms_ret (pm_index (u65 hr) (pm_call (ok_all_names T) (hr.mono (by decide)) tk_fn (pma_cons (pm_var 0) pma_nil)) (pma_cons (pm_var 1) pma_nil))))
abbrev N_heard_by : List Str := ["choir", "standing", "singer", "name", "ago"]
theorem sc_heard_by : FnScope N_heard_by ["choir", "standing", "singer"] (defScope s_heard_by) := ⟨rfl, rfl, rfl, by decide +kernel, rfl, by decide +kernel, by decide +kernel⟩
theorem ok_heard_by {P : Program} {w : World} {K : PySem.W.Frag} {mg : Str → Option Value} {base : Heap} (T : Tx K mg) : FnD P w K mg base 3 "heard_by" ["choir", "standing", "singer"] m_heard_by := by
  obtain ⟨fd, D⟩ := T.f_heard_by
  exact fn_mk D T.g_heard_by sc_heard_by (fun _ _ _ _ _ _ us hl => match us, hl with | [_, _, _], _ => rfl) (by decide) fun cdv A outer s H V E hr => (pms_one (pms_ret (pm_callTy call_tuple_of cd_tuple T.z_tuple (pma_cons (pm_lc [("name", 3), ("ago", 4)] (pmi_seq (pm_ix ix_seq od_ix (pm_var 2) pm_int)) (blkOk_by (N := N_heard_by) (sc := defScope s_heard_by) (by decide +kernel)) sc_heard_by.nd (fun _ _ _ _ _ => (pmg_tup (pmgs_cons (pmg_name 3 sc_heard_by.nd) (pmgs_cons (pmg_name 4 sc_heard_by.nd) pmgs_nil)) (gsC_len (gsC_len (fun _ _ _ h => gsN_len h))))) (fun _ _ _ _ _ => pmts_nil) (fun _ _ _ _ _ => (pm_ix ix_seq od_ix (pm_ix ix_seq od_ix (pm_var 1) (pm_call (ok_number_of T) (hr.mono (by decide)) tk_nox (pma_cons (pm_var 0) (pma_cons (pm_var 3) pma_nil)))) (pm_op op_sub od_sub pm_int (pm_var 4))))) pma_nil))))
abbrev N_place_of : List Str := ["many", "some", "found", "line"]
theorem sc_place_of : FnScope N_place_of ["many", "some"] (defScope s_place_of) := ⟨rfl, rfl, rfl, by decide +kernel, rfl, by decide +kernel, by decide +kernel⟩
theorem ok_place_of {P : Program} {w : World} {K : PySem.W.Frag} {mg : Str → Option Value} {base : Heap} (T : Tx K mg) : FnD P w K mg base 1 "place_of" ["many", "some"] m_place_of := by
  obtain ⟨fd, D⟩ := T.f_place_of
  exact fn_mk D T.g_place_of sc_place_of (fun _ _ _ _ _ _ us hl => match us, hl with | [_, _], _ => rfl) (by decide) fun cdv A outer s H V E hr => (pms_cons (pms_set 2 pm_int sc_place_of.nd)
  (pms_cons (pms_for (passes_of rfl) (pmi_seq (pm_var 1)) (pmg_name 3 sc_place_of.nd)
  (pms_one (pms_set 2 (pm_op op_addD od_add (pm_op op_mulD od_mul (pm_var 2) (pm_var 0)) (pm_var 3)) sc_place_of.nd)))
  (pms_one (pms_ret (pm_var 2)))))
abbrev N_table_line : List Str := ["choir", "standing", "singer"]
theorem sc_table_line : FnScope N_table_line ["choir", "standing", "singer"] (defScope s_table_line) := ⟨rfl, rfl, rfl, by decide +kernel, rfl, by decide +kernel, by decide +kernel⟩
theorem ok_table_line {P : Program} {w : World} {K : PySem.W.Frag} {mg : Str → Option Value} {base : Heap} (T : Tx K mg) : FnD P w K mg base 4 "table_line" ["choir", "standing", "singer"] m_table_line := by
  obtain ⟨fd, D⟩ := T.f_table_line
  exact fn_mk D T.g_table_line sc_table_line (fun _ _ _ _ _ _ us hl => match us, hl with | [_, _, _], _ => rfl) (by decide) fun cdv A outer s H V E hr => (pms_one (pms_ret (pm_ix ix_seq od_ix (pm_ix ix_seq od_ix (pm_var 2) pm_int) (pm_call (ok_place_of T) (hr.mono (by decide)) tk_fn (pma_cons (pm_ix ix_seq od_ix (pm_var 0) pm_int) (pma_cons (pm_call (ok_heard_by T) (hr.mono (by decide)) tk_fn (pma_cons (pm_var 0) (pma_cons (pm_var 1) (pma_cons (pm_var 2) pma_nil)))) pma_nil))))))
abbrev N_all_next : List Str := ["choir", "standing", "singer"]
theorem sc_all_next : FnScope N_all_next ["choir", "standing"] (defScope s_all_next) := ⟨rfl, rfl, rfl, by decide +kernel, rfl, by decide +kernel, by decide +kernel⟩
theorem ok_all_next {P : Program} {w : World} {K : PySem.W.Frag} {mg : Str → Option Value} {base : Heap} (T : Tx K mg) : FnD P w K mg base 5 "all_next" ["choir", "standing"] m_all_next := by
  obtain ⟨fd, D⟩ := T.f_all_next
  exact fn_mk D T.g_all_next sc_all_next (fun _ _ _ _ _ _ us hl => match us, hl with | [_, _], _ => rfl) (by decide) fun cdv A outer s H V E hr => (pms_one (pms_ret (pm_callTy call_tuple_of cd_tuple T.z_tuple (pma_cons (pm_lc [("singer", 2)] (pmi_seq (pm_ix ix_seq od_ix (pm_var 0) pm_int)) (blkOk_by (N := N_all_next) (sc := defScope s_all_next) (by decide +kernel)) sc_all_next.nd (fun _ _ _ _ _ => (pmg_name 2 sc_all_next.nd)) (fun _ _ _ _ _ => pmts_nil) (fun _ _ _ _ _ => (pm_call (ok_table_line T) (hr.mono (by decide)) tk_nox (pma_cons (pm_var 0) (pma_cons (pm_var 1) (pma_cons (pm_var 2) pma_nil)))))) pma_nil))))
abbrev N_behind : List Str := ["standing", "lines", "row", "line"]
theorem sc_behind : FnScope N_behind ["standing", "lines"] (defScope s_behind) := ⟨rfl, rfl, rfl, by decide +kernel, rfl, by decide +kernel, by decide +kernel⟩
theorem ok_behind {P : Program} {w : World} {K : PySem.W.Frag} {mg : Str → Option Value} {base : Heap} (T : Tx K mg) : FnD P w K mg base 1 "behind" ["standing", "lines"] m_behind := by
  obtain ⟨fd, D⟩ := T.f_behind
  exact fn_mk D T.g_behind sc_behind (fun _ _ _ _ _ _ us hl => match us, hl with | [_, _], _ => rfl) (by decide) fun cdv A outer s H V E hr => (pms_one (pms_ret (pm_callTy call_tuple_of cd_tuple T.z_tuple (pma_cons (pm_lc [("row", 2), ("line", 3)] (pmi_zip T.z_zip (pma_cons (pm_var 0) (pma_cons (pm_var 1) pma_nil))) (blkOk_by (N := N_behind) (sc := defScope s_behind) (by decide +kernel)) sc_behind.nd (fun _ _ _ _ _ => (pmg_tup (pmgs_cons (pmg_name 2 sc_behind.nd) (pmgs_cons (pmg_name 3 sc_behind.nd) pmgs_nil)) (gsC_len (gsC_len (fun _ _ _ h => gsN_len h))))) (fun _ _ _ _ _ => pmts_nil) (fun _ _ _ _ _ => (pm_op op_addD od_add (pm_slice (pm_var 2) (pmo_some pm_int) pmo_none) (pm_tup (pma_cons (pm_var 3) pma_nil))))) pma_nil))))
abbrev N_need_beats : List Str := ["beats"]
theorem sc_need_beats : FnScope N_need_beats ["beats"] (defScope s_need_beats) := ⟨rfl, rfl, rfl, by decide +kernel, rfl, by decide +kernel, by decide +kernel⟩
theorem ok_need_beats {P : Program} {w : World} {K : PySem.W.Frag} {mg : Str → Option Value} {base : Heap} (T : Tx K mg) : FnD P w K mg base 2 "need_beats" ["beats"] m_need_beats := by
  obtain ⟨fd, D⟩ := T.f_need_beats
  exact fn_mk D T.g_need_beats sc_need_beats (fun _ _ _ _ _ _ us hl => match us, hl with | [_], _ => rfl) (by decide) fun cdv A outer s H V E hr => (pms_one (pms_if (pmt_not (pmt_val (pm_call (ok_is_whole T) (hr.mono (by decide)) tk_fn (pma_cons (pm_var 0) (pma_cons pm_int (pma_cons (pm_gint T.c_LONGEST) pma_nil)))))) (pms_one (pms_raise T.x_BadNumber tk_fn)) pms_nil))
abbrev N_Running_init : List Str := ["self", "choir", "standing"]
theorem sc_Running_init : FnScope N_Running_init ["self", "choir", "standing"] (defScope s_Running_init) := ⟨rfl, rfl, rfl, by decide +kernel, rfl, by decide +kernel, by decide +kernel⟩
theorem ok_Running_init {P : Program} {w : World} {K : PySem.W.Frag} {mg : Str → Option Value} {base : Heap} (T : Tx K mg) : FnN P w K mg base 7 m_Running_init := by
  obtain ⟨fd, D⟩ := T.f_Running_init
  exact fn_mkN D sc_Running_init (fun _ _ _ _ _ _ us hl => match us, hl with | [_, _, _], _ => rfl) (by decide) (fun cdv A outer s H V a E hr => (pms_expr (pm_call (ok_need_choir T) (hr.mono (by decide)) tk_nw (pma_cons (pm_var 1) pma_nil)))) (fun cdv A outer s H V a E hr => (pms_expr (pm_call (ok_need_standing T) (hr.mono (by decide)) tk_nw (pma_cons (pm_var 1) (pma_cons (pm_var 2) pma_nil))))) (fun cdv A outer s H E => pss_born T.rk)
abbrev N_Running_remember : List Str := ["self", "deed"]
theorem sc_Running_remember : FnScope N_Running_remember ["self", "deed"] (defScope s_Running_remember) := ⟨rfl, rfl, rfl, by decide +kernel, rfl, by decide +kernel, by decide +kernel⟩
theorem oki_Running_remember {P : Program} {w : World} {K : PySem.W.Frag} {mg : Str → Option Value} {base : Heap} (T : Tx K mg) : FnI P w K mg base 1 (aMet K "remember") ["self", "deed"] i_Running_remember := by
  obtain ⟨fd, D⟩ := T.f_Running_remember
  exact fn_mkI D sc_Running_remember (fun _ _ _ _ _ _ us hl => match us, hl with | [_, _], _ => rfl) (by decide) (by decide) fun cdv A outer s H V a E o ho sv hr => (pia_toB rfl ho sv (pis_cons (pis_appF 0 luPast T.rk (fun _ _ _ => (pm_tup (pma_cons (pm_crew 0 T.rk) (pma_cons (pm_stand 0 T.rk) (pma_cons (pm_lenF 0 lfSung T.rk T.z_len) pma_nil))))))
  (pis_one (pis_appF 0 luDeeds T.rk (fun _ _ _ => (pm_var 1))))))
abbrev N_Running_need_leads : List Str := ["self", "leads", "some", "name"]
theorem sc_Running_need_leads : FnScope N_Running_need_leads ["self", "leads"] (defScope s_Running_need_leads) := ⟨rfl, rfl, rfl, by decide +kernel, rfl, by decide +kernel, by decide +kernel⟩
theorem ok_Running_need_leads {P : Program} {w : World} {K : PySem.W.Frag} {mg : Str → Option Value} {base : Heap} (T : Tx K mg) : FnO P w K mg base 2 (aMet K "need_leads") ["self", "leads"] m_Running_need_leads := by
  obtain ⟨fd, D⟩ := T.f_Running_need_leads
  exact fn_mkO D sc_Running_need_leads (fun _ _ _ _ _ _ us hl => match us, hl with | [_, _], _ => rfl) (by decide) (by decide) fun cdv A outer s H V a E hr => (pms_cons (pms_if (pmt_not (pmt_val (pm_isi .dict T.z_isinstance T.z_dict (pm_var 1)))) (pms_one (pms_raise T.x_BadLead tk_m)) pms_nil)
  (pms_cons (pms_set 2 (pm_call (ok_all_names T) (hr.mono (by decide)) tk_m (pma_cons (pm_crew 0 T.rk) pma_nil)) sc_Running_need_leads.nd)
  (pms_cons (pms_if (pmt_not (pmt_val (pm_callB (cr_all rfl) cd_all T.z_all (pma_cons (pm_lockD 1 (pm_lc [("name", 3)] (pmi_dict (pm_var 1)) (blkOk_by (N := N_Running_need_leads) (sc := defScope s_Running_need_leads) (by decide +kernel)) sc_Running_need_leads.nd (fun _ _ _ _ _ => (pmg_name 3 sc_Running_need_leads.nd)) (fun _ _ _ _ _ => pmts_nil) (fun _ _ _ _ _ => (pm_and (pm_isi .str T.z_isinstance T.z_str (pm_var 3)) (pm_one (pm_cmp (op_inAll (u65 hr)) od_in (pm_var 3) (pm_var 2)))))) (fun F' lk => pm_lc [("name", 3)] (pmi_dictL 1 lk) (blkOk_by (N := N_Running_need_leads) (sc := defScope s_Running_need_leads) (by decide +kernel)) sc_Running_need_leads.nd (fun _ _ _ _ _ => (pmg_name 3 sc_Running_need_leads.nd (hl := lk.ne (by decide)))) (fun _ _ _ _ _ => pmts_nil) (fun _ _ _ _ _ => (pm_and (pm_isi .str T.z_isinstance T.z_str (pm_var 3)) (pm_one (pm_cmp (op_inAll (u65 hr)) od_in (pm_var 3) (pm_var 2))))) (hl := lk.nm (by decide)))) pma_nil)))) (pms_one (pms_raise T.x_BadLead tk_m)) pms_nil)
  (pms_one (pms_if (pmt_not (pmt_val (pm_callB (cr_all rfl) cd_all T.z_all (pma_cons (pm_lockD 1 (pm_lc [("name", 3)] (pmi_dict (pm_var 1)) (blkOk_by (N := N_Running_need_leads) (sc := defScope s_Running_need_leads) (by decide +kernel)) sc_Running_need_leads.nd (fun _ _ _ _ _ => (pmg_name 3 sc_Running_need_leads.nd)) (fun _ _ _ _ _ => pmts_nil) (fun _ _ _ _ _ => (pm_call (ok_is_whole T) (hr.mono (by decide)) tk_nox (pma_cons (pm_dix hr.units (pm_var 1) (pm_var 3)) (pma_cons pm_int (pma_cons (pm_op op_sub od_sub (pm_ix ix_seq od_ix (pm_crew 0 T.rk) pm_int) pm_int) pma_nil)))))) (fun F' lk => pm_lc [("name", 3)] (pmi_dictL 1 lk) (blkOk_by (N := N_Running_need_leads) (sc := defScope s_Running_need_leads) (by decide +kernel)) sc_Running_need_leads.nd (fun _ _ _ _ _ => (pmg_name 3 sc_Running_need_leads.nd (hl := lk.ne (by decide)))) (fun _ _ _ _ _ => pmts_nil) (fun _ _ _ _ _ => (pm_call (ok_is_whole T) (hr.mono (by decide)) tk_nox (pma_cons (pm_dix hr.units (pm_var 1) (pm_var 3)) (pma_cons pm_int (pma_cons (pm_op op_sub od_sub (pm_ix ix_seq od_ix (pm_crew 0 T.rk) pm_int) pm_int) pma_nil))))) (hl := lk.nm (by decide)))) pma_nil)))) (pms_one (pms_raise T.x_BadLead tk_m)) pms_nil)))))
abbrev N_Running_sing : List Str := ["self", "leads", "pairs", "found", "name", "line"]
theorem sc_Running_sing : FnScope N_Running_sing ["self", "leads"] (defScope s_Running_sing) := ⟨rfl, rfl, rfl, by decide +kernel, rfl, by decide +kernel, by decide +kernel⟩
theorem oki_Running_sing {P : Program} {w : World} {K : PySem.W.Frag} {mg : Str → Option Value} {base : Heap} (T : Tx K mg) : FnI P w K mg base 6 (aMet K "sing") ["self", "leads"] i_Running_sing := by
  obtain ⟨fd, D⟩ := T.f_Running_sing
  exact fn_mkI D sc_Running_sing (fun _ _ _ _ _ _ us hl => match us, hl with | [_, _], _ => rfl) (by decide) (by decide) fun cdv A outer s H V a E o ho sv hr => (pia_cons (pms_set 2 (pm_lzip T.z_list T.z_zip (pma_cons (pm_call (ok_all_names T) (hr.mono (by decide)) tk_m (pma_cons (pm_crew 0 T.rk) pma_nil)) (pma_cons (pm_call (ok_all_next T) (hr.mono (by decide)) tk_m (pma_cons (pm_crew 0 T.rk) (pma_cons (pm_stand 0 T.rk) pma_nil))) pma_nil))) sc_Running_sing.nd)
  (pia_cons (pms_set 3 (pm_callTy call_tuple_of cd_tuple T.z_tuple (pma_cons (pm_lc [("name", 4), ("line", 5)] (pmi_seq (pm_var 2)) (blkOk_by (N := N_Running_sing) (sc := defScope s_Running_sing) (by decide +kernel)) sc_Running_sing.nd (fun _ _ _ _ _ => (pmg_tup (pmgs_cons (pmg_name 4 sc_Running_sing.nd) (pmgs_cons (pmg_name 5 sc_Running_sing.nd) pmgs_nil)) (gsC_len (gsC_len (fun _ _ _ h => gsN_len h))))) (fun _ _ _ _ _ => pmts_nil) (fun _ _ _ _ _ => (pm_dget2 hr.units (pm_var 1) (pm_var 4) (pm_var 5)))) pma_nil)) sc_Running_sing.nd)
  (pia_toB rfl ho sv (pis_cons (pis_stand 0 T.rk (pie_up fun _ _ _ => (pm_call (ok_behind T) (hr.mono (by decide)) (tk_no rfl) (pma_cons (pm_stand 0 T.rk) (pma_cons (pm_var 3) pma_nil)))))
  (pis_cons (pis_appF 0 luSung T.rk (fun _ _ _ => (pm_var 3)))
  (pis_one (pis_up fun _ _ _ => (pms_ret (pm_var 3)))))))))
abbrev N_Running_beat : List Str := ["self", "leads"]
theorem sc_Running_beat : FnScope N_Running_beat ["self", "leads"] (defScope s_Running_beat) := ⟨rfl, rfl, rfl, by decide +kernel, rfl, by decide +kernel, by decide +kernel⟩
theorem oki_Running_beat {P : Program} {w : World} {K : PySem.W.Frag} {mg : Str → Option Value} {base : Heap} (T : Tx K mg) : FnI P w K mg base 7 (aMet K "beat") ["self", "leads"] i_Running_beat := by
  obtain ⟨fd, D⟩ := T.f_Running_beat
  exact fn_mkI D sc_Running_beat (fun _ _ _ _ _ _ us hl => match us, hl with | [_, _], _ => rfl) (by decide) (by decide) fun cdv A outer s H V a E o ho sv hr => (pia_cons (pms_expr (pm_meth 0 T.rk (by decide) (ok_Running_need_leads T) (hr.mono (by decide)) tk_m (pma_cons (pm_var 1) pma_nil)))
  (pia_toB rfl ho sv (pis_cons pis_bad
  (pis_one (pis_ret (pie_meth 0 T.rk (by decide) (oki_Running_sing T) (hr.mono (by decide)) (tk_no rfl) (pir_up fun _ _ _ => (pma_cons (pm_var 1) pma_nil))))))))
abbrev N_Running_run_2 : List Str := ["self", "beats", "turn"]
theorem sc_Running_run_2 : FnScope N_Running_run_2 ["self", "beats"] (defScope s_Running_run_2) := ⟨rfl, rfl, rfl, by decide +kernel, rfl, by decide +kernel, by decide +kernel⟩
theorem oki_Running_run_2 {P : Program} {w : World} {K : PySem.W.Frag} {mg : Str → Option Value} {base : Heap} (T : Tx K mg) : FnI P w K mg base 7 (aMet K "run") ["self", "beats"] i_Running_run_2 := by
  obtain ⟨fd, D⟩ := T.f_Running_run_2
  exact fn_mkI D sc_Running_run_2 (fun _ _ _ _ _ _ us hl => match us, hl with | [_, _], _ => rfl) (by decide) (by decide) fun cdv A outer s H V a E o ho sv hr => (pia_cons (pms_expr (pm_call (ok_need_beats T) (hr.mono (by decide)) tk_m (pma_cons (pm_var 1) pma_nil)))
  (pia_toB rfl ho sv (pis_cons (pis_expr (pie_meth 0 T.rk (by decide) (oki_Running_remember T) (hr.mono (by decide)) (tk_no rfl) (pir_up fun _ _ _ => (pma_cons (pm_tup (pma_cons pm_str (pma_cons (pm_var 1) pma_nil))) pma_nil))))
  (pis_one (pis_for (passes_of rfl) (pii_up fun _ _ _ => (pmi_range1 T.z_range (pma_cons (pm_var 1) pma_nil))) (pig_up fun _ _ _ => (pmg_name 2 sc_Running_run_2.nd))
  (pis_one (pis_expr (pie_meth 0 T.rk (by decide) (oki_Running_sing T) (hr.mono (by decide)) (tk_no rfl) (pir_up fun _ _ _ => (pma_cons pm_dnew pma_nil))))))))))
abbrev N_Running_replace_2 : List Str := ["self", "name", "ears", "table", "some", "one"]
theorem sc_Running_replace_2 : FnScope N_Running_replace_2 ["self", "name", "ears", "table"] (defScope s_Running_replace_2) := ⟨rfl, rfl, rfl, by decide +kernel, rfl, by decide +kernel, by decide +kernel⟩
theorem oki_Running_replace_2 {P : Program} {w : World} {K : PySem.W.Frag} {mg : Str → Option Value} {base : Heap} (T : Tx K mg) : FnI P w K mg base 6 (aMet K "replace") ["self", "name", "ears", "table"] i_Running_replace_2 := by
  obtain ⟨fd, D⟩ := T.f_Running_replace_2
  exact fn_mkI D sc_Running_replace_2 (fun _ _ _ _ _ _ us hl => match us, hl with | [_, _, _, _], _ => rfl) (by decide) (by decide) fun cdv A outer s H V a E o ho sv hr => (pia_cons (pms_expr (pm_call (ok_need_name T) (hr.mono (by decide)) tk_m (pma_cons (pm_crew 0 T.rk) (pma_cons (pm_var 1) pma_nil))))
  (pia_cons (pms_set 4 (pm_callTy call_tuple_of cd_tuple T.z_tuple (pma_cons (pm_lc [("one", 5)] (pmi_seq (pm_ix ix_seq od_ix (pm_crew 0 T.rk) pm_int)) (blkOk_by (N := N_Running_replace_2) (sc := defScope s_Running_replace_2) (by decide +kernel)) sc_Running_replace_2.nd (fun _ _ _ _ _ => (pmg_name 5 sc_Running_replace_2.nd)) (fun _ _ _ _ _ => pmts_nil) (fun _ _ _ _ _ => (pm_if (pmt_cmp (op_eqD hr.units) od_eq (pm_ix ix_seq od_ix (pm_var 5) pm_int) (pm_var 1)) (pm_tup (pma_cons (pm_var 1) (pma_cons (pm_var 2) (pma_cons (pm_var 3) pma_nil)))) (pm_var 5)))) pma_nil)) sc_Running_replace_2.nd)
  (pia_cons (pms_if (pmt_not (pmt_val (pm_call (ok_is_choir T) (hr.mono (by decide)) tk_m (pma_cons (pm_tup (pma_cons (pm_ix ix_seq od_ix (pm_crew 0 T.rk) pm_int) (pma_cons (pm_var 4) pma_nil))) pma_nil)))) (pms_one (pms_raise T.x_BadChoir tk_m)) pms_nil)
  (pia_toB rfl ho sv (pis_cons (pis_expr (pie_meth 0 T.rk (by decide) (oki_Running_remember T) (hr.mono (by decide)) (tk_no rfl) (pir_up fun _ _ _ => (pma_cons (pm_tup (pma_cons pm_str (pma_cons (pm_var 1) (pma_cons (pm_var 2) (pma_cons (pm_var 3) pma_nil))))) pma_nil))))
  (pis_one (pis_crew 0 T.rk (pie_up fun _ _ _ => (pm_tup (pma_cons (pm_ix ix_seq od_ix (pm_crew 0 T.rk) pm_int) (pma_cons (pm_var 4) pma_nil)))))))))))
abbrev N_Running_lines : List Str := ["self"]
theorem sc_Running_lines : FnScope N_Running_lines ["self"] (defScope s_Running_lines) := ⟨rfl, rfl, rfl, by decide +kernel, rfl, by decide +kernel, by decide +kernel⟩
theorem ok_Running_lines {P : Program} {w : World} {K : PySem.W.Frag} {mg : Str → Option Value} {base : Heap} (T : Tx K mg) : FnO P w K mg base 1 (aMet K "lines") ["self"] m_Running_lines := by
  obtain ⟨fd, D⟩ := T.f_Running_lines
  exact fn_mkO D sc_Running_lines (fun _ _ _ _ _ _ us hl => match us, hl with | [_], _ => rfl) (by decide) (by decide) fun cdv A outer s H V a E hr => (pms_one (pms_ret (pm_listF 0 lfSung T.rk T.z_list)))
theorem okn_Running_lines {P : Program} {w : World} {K : PySem.W.Frag} {mg : Str → Option Value} {base : Heap} (T : Tx K mg) : FnLn P w K mg base 1 := by
  obtain ⟨fd, D⟩ := T.f_Running_lines
  exact fn_mkLn D sc_Running_lines (fun _ _ _ _ _ _ us hl => match us, hl with | [_], _ => rfl) fun cdv A outer s H E => pss_ln T.rk T.z_list
abbrev N_Running_standing : List Str := ["self"]
theorem sc_Running_standing : FnScope N_Running_standing ["self"] (defScope s_Running_standing) := ⟨rfl, rfl, rfl, by decide +kernel, rfl, by decide +kernel, by decide +kernel⟩
theorem ok_Running_standing {P : Program} {w : World} {K : PySem.W.Frag} {mg : Str → Option Value} {base : Heap} (T : Tx K mg) : FnO P w K mg base 1 (aMet K "standing") ["self"] m_Running_standing := by
  obtain ⟨fd, D⟩ := T.f_Running_standing
  exact fn_mkO D sc_Running_standing (fun _ _ _ _ _ _ us hl => match us, hl with | [_], _ => rfl) (by decide) (by decide) fun cdv A outer s H V a E hr => (pms_one (pms_ret (pm_stand 0 T.rk)))
abbrev N_Running_choir : List Str := ["self"]
theorem sc_Running_choir : FnScope N_Running_choir ["self"] (defScope s_Running_choir) := ⟨rfl, rfl, rfl, by decide +kernel, rfl, by decide +kernel, by decide +kernel⟩
theorem ok_Running_choir {P : Program} {w : World} {K : PySem.W.Frag} {mg : Str → Option Value} {base : Heap} (T : Tx K mg) : FnO P w K mg base 1 (aMet K "choir") ["self"] m_Running_choir := by
  obtain ⟨fd, D⟩ := T.f_Running_choir
  exact fn_mkO D sc_Running_choir (fun _ _ _ _ _ _ us hl => match us, hl with | [_], _ => rfl) (by decide) (by decide) fun cdv A outer s H V a E hr => (pms_one (pms_ret (pm_crew 0 T.rk)))
abbrev N_Running_undo_2 : List Str := ["self", "many"]
theorem sc_Running_undo_2 : FnScope N_Running_undo_2 ["self"] (defScope s_Running_undo_2) := ⟨rfl, rfl, rfl, by decide +kernel, rfl, by decide +kernel, by decide +kernel⟩
theorem oki_Running_undo_2 {P : Program} {w : World} {K : PySem.W.Frag} {mg : Str → Option Value} {base : Heap} (T : Tx K mg) : FnI P w K mg base 1 (aMet K "undo") ["self"] i_Running_undo_2 := by
  obtain ⟨fd, D⟩ := T.f_Running_undo_2
  exact fn_mkI D sc_Running_undo_2 (fun _ _ _ _ _ _ us hl => match us, hl with | [_], _ => rfl) (by decide) (by decide) fun cdv A outer s H V a E o ho sv hr => (pia_cons (pms_if (pt_cmpF 0 lfPast T.rk (op_eqD hr.units) od_eq (pm_lst pma_nil)) (pms_one (pms_raise T.x_Nothing tk_m)) pms_nil)
  (pia_toB rfl ho sv (pis_cons (pis_undo1 0 1 T.rk sc_Running_undo_2.nd)
  (pis_cons (pis_undo2 0 1 T.rk)
  (pis_one (pis_undo3 0 T.rk))))))
abbrev N_law_drawn : List Str := ["cell", "k", "more"]
theorem sc_law_drawn : FnScope N_law_drawn ["cell", "k"] (defScope s_law_drawn) := ⟨rfl, rfl, rfl, by decide +kernel, rfl, by decide +kernel, by decide +kernel⟩
theorem ok_law_drawn {P : Program} {w : World} {K : PySem.W.Frag} {mg : Str → Option Value} {base : Heap} (T : Tx K mg) : FnD P w K mg base 1 "_law_drawn" ["cell", "k"] m_law_drawn := by
  obtain ⟨fd, D⟩ := T.f_law_drawn
  exact fn_mk D T.g_law_drawn sc_law_drawn (fun _ _ _ _ _ _ us hl => match us, hl with | [_, _], _ => rfl) (by decide) fun cdv A outer s H V E hr => (pms_cons (pms_set 2 (pm_op op_mod od_mod (pm_op op_addD od_add (pm_op op_mulD od_mul (pm_var 0) pm_int) (pm_op op_mulD od_mul (pm_op op_addD od_add (pm_var 1) pm_int) pm_int)) pm_int) sc_law_drawn.nd)
  (pms_cons (pms_set 2 (pm_op op_mod od_mod (pm_op op_mulD od_mul (pm_var 2) (pm_var 2)) pm_int) sc_law_drawn.nd)
  (pms_cons (pms_set 2 (pm_op op_mulD od_mul (pm_op op_mulD od_mul (pm_op op_addD od_add (pm_op op_mod od_mod (pm_var 2) pm_int) pm_int) (pm_op op_addD od_add (pm_op op_fdivW od_div (pm_var 2) pm_int) pm_int)) (pm_var 2)) sc_law_drawn.nd)
  (pms_one (pms_ret (pm_op op_mod od_mod (pm_var 2) pm_int))))))
abbrev N_law_roll : List Str := ["dice", "many", "told"]
theorem sc_law_roll : FnScope N_law_roll ["dice", "many"] (defScope s_law_roll) := ⟨rfl, rfl, rfl, by decide +kernel, rfl, by decide +kernel, by decide +kernel⟩
theorem ok_law_roll {P : Program} {w : World} {K : PySem.W.Frag} {mg : Str → Option Value} {base : Heap} (T : Tx K mg) : FnL P w K mg base 2 "_law_roll" ["dice", "many"] m_law_roll := by
  obtain ⟨fd, D⟩ := T.f_law_roll
  exact fn_mkL D T.g_law_roll sc_law_roll (fun _ _ _ _ _ _ us hl => match us, hl with | [_, _], _ => rfl) (by decide) (by decide) fun cdv A outer s H V a E hr => (pms_cons (pms_if (pmt_cmp op_ge od_ge (pm_ixO 0 pm_int) (pm_op op_pow od_pow pm_int pm_int)) (pms_cons (pms_set 2 (pm_op op_mod od_mod (pm_ixO 0 pm_int) (pm_var 1)) sc_law_roll.nd)
  (pms_cons (pms_six 0 (pm_op op_fdivW od_div (pm_ixO 0 pm_int) (pm_var 1)) pm_int)
  (pms_one (pms_ret (pm_var 2))))) pms_nil)
  (pms_cons (pms_six 0 (pm_op op_addD od_add (pm_ixO 0 pm_int) pm_int) pm_int)
  (pms_one (pms_ret (pm_op op_mod od_mod (pm_op op_fdivW od_div (pm_call (ok_law_drawn T) (hr.mono (by decide)) tk_fn (pma_cons (pm_ixO 0 pm_int) (pma_cons (pm_ixO 0 pm_int) pma_nil))) pm_int) (pm_var 1))))))
abbrev N_law_term : List Str := ["e", "flags", "kinds", "flag"]
theorem sc_law_term : FnScope N_law_term ["e"] (defScope s_law_term) := ⟨rfl, rfl, rfl, by decide +kernel, rfl, by decide +kernel, by decide +kernel⟩
theorem ok_law_term {P : Program} {w : World} {K : PySem.W.Frag} {mg : Str → Option Value} (T : Tx K mg) (EX : HD.ExcT K) : ∃ fd, (∀ (base : Heap) (CX : CXT) (k : Nat), HD.FnHP P w K mg base CX (k + 1) (He.ga K "_law_term") fd ["e"] (HD.spTerm ⟨K, w⟩ (· ∈ HD.excs))) ∧ L2.Binds K fd ["e"] [] ∧ PySem.W.keepIn K (.ref (He.ga K "_law_term")) = true := by
  obtain ⟨fd, D⟩ := T.f_law_term
  refine ⟨fd, fun base CX k => HD.term_mk D sc_law_term rfl (fun c cdv A outer s H V E p hc hz hf hot hr => (pms_cons (pms_set 1 (pm_lst (pma_cons (HD.pm_isC List.mem_cons_self (EX.c c hc) hz hf rfl T.z_isinstance T.x_BadChoir.g (EX.k c hc "BadChoir" (by decide))) (pma_cons (HD.pm_isC List.mem_cons_self (EX.c c hc) hz hf rfl T.z_isinstance T.x_BadName.g (EX.k c hc "BadName" (by decide))) (pma_cons (HD.pm_isC List.mem_cons_self (EX.c c hc) hz hf rfl T.z_isinstance T.x_BadStanding.g (EX.k c hc "BadStanding" (by decide))) (pma_cons (HD.pm_isC List.mem_cons_self (EX.c c hc) hz hf rfl T.z_isinstance T.x_BadNumber.g (EX.k c hc "BadNumber" (by decide))) pma_nil))))) sc_law_term.nd)
  (pms_cons (pms_set 1 (pm_op op_addD od_add (pm_var 1) (pm_lst (pma_cons (HD.pm_isC List.mem_cons_self (EX.c c hc) hz hf rfl T.z_isinstance T.x_BadRows.g (EX.k c hc "BadRows" (by decide))) (pma_cons (HD.pm_isC List.mem_cons_self (EX.c c hc) hz hf rfl T.z_isinstance T.x_BadLead.g (EX.k c hc "BadLead" (by decide))) (pma_cons (HD.pm_isC List.mem_cons_self (EX.c c hc) hz hf rfl T.z_isinstance T.x_BadWish.g (EX.k c hc "BadWish" (by decide))) pma_nil))))) sc_law_term.nd)
  (pms_cons (pms_set 1 (pm_op op_addD od_add (pm_var 1) (pm_lst (pma_cons (HD.pm_isC List.mem_cons_self (EX.c c hc) hz hf rfl T.z_isinstance T.k_Clash (EX.k c hc "Clash" (by decide))) (pma_cons (HD.pm_isC List.mem_cons_self (EX.c c hc) hz hf rfl T.z_isinstance T.x_Nothing.g (EX.k c hc "Nothing" (by decide))) (pma_cons (HD.pm_isC List.mem_cons_self (EX.c c hc) hz hf rfl T.z_isinstance T.x_Full.g (EX.k c hc "Full" (by decide))) (pma_cons (HD.pm_isC List.mem_cons_self (EX.c c hc) hz hf rfl T.z_isinstance T.x_BadText.g (EX.k c hc "BadText" (by decide))) pma_nil)))))) sc_law_term.nd)
  (pms_cons (pms_set 2 (pm_lst (pma_cons pm_str (pma_cons pm_str (pma_cons pm_str (pma_cons pm_str (pma_cons pm_str (pma_cons pm_str (pma_cons pm_str pma_nil)))))))) sc_law_term.nd)
  (pms_cons (pms_set 2 (pm_op op_addD od_add (pm_var 2) (pm_lst (pma_cons pm_str (pma_cons pm_str (pma_cons pm_str (pma_cons pm_str pma_nil)))))) sc_law_term.nd)
  (pms_cons (pms_if (pmt_w (pmw_or (pmt_cmp (op_neD hr.units) od_ne (pm_callB (HD.cr_sumH ⟨p, hot, List.mem_cons_self⟩) cd_sum T.z_sum (pma_cons (HD.pm_ints 3 hot List.mem_cons_self T.z_int sc_law_term.nd (pm_var 1) (blkOk_by (N := N_law_term) (sc := defScope s_law_term) (by decide +kernel))) pma_nil)) pm_int) (pmw_or1 (pmt_not (pmt_val (HD.pm_isB (c := "ValueError") (t := "") List.mem_cons_self (EX.c c hc) hz hf rfl T.z_isinstance T.z_ValueError (by decide +kernel) (EX.v c hc))))))) (pms_one (pms_ret (pm_tup (pma_cons pm_str (pma_cons pm_str pma_nil))))) pms_nil)
  (pms_one (pms_ret (pm_tup (pma_cons pm_str (pma_cons (pm_ix ix_seq od_ix (pm_var 2) (pm_index (HD.u65H hr) (pm_var 1) (pma_cons pm_bl pma_nil))) pma_nil)))))))))))) v_law_term, D.bindsN (fun _ _ _ _ _ _ us hl => match us, hl with | [_], _ => rfl), D.kp⟩
theorem sc_law_told : FnScope ["deed", "e"] ["deed"] (defScope s_law_told) := ⟨rfl, rfl, rfl, by decide +kernel, rfl, by decide +kernel, by decide +kernel⟩
theorem pm_told_law {X : Cx} {F : Fr} {x : Str} {params : Arguments} {body : Expr} {scope : Scope} {fb : M PyData} {k : Nat} {c Pt : Addr} {p lpos pos : Pos} (T : Tx X.K X.mg) (EX : HD.ExcT X.K)
    (LA : HD.LamAt X.K X.mg X.base x X.env.code c Pt) (hq : X.env.qual = x ++ ".<locals>.") (hr : Room (k + 2) X.A) (L : LamX.LamS X.env.scope scope)
    (hb : ∀ (A : Around) (outer : List Env) (s : Shared) (H : Hp) (E : XK) (f c' : Addr) (H' V : Hp), Room k (A.deeper (LamX.lamEnv X scope s.heap.objs.size f c')) → PM (HD.lamN X A outer s H E scope f c') (mkF H' V E) body fb)
    (hg : Gl X "_law_told" := by rfl) (hdef : defaultsOf params X.env = ([], []) := by rfl)
    (hbind : ∀ (q : Str) (cl : List (Str × Addr)) (pm cv ctv : Value), bindArgs (PySem.W.kla_fn "<lambda>" q params body scope cl pm cv ctv) ⟨[], []⟩ = pure [] := by intros; rfl) :
    PM X F (.Call (.Name "_law_told" p) [.Lambda params body scope lpos] [] pos) (HD.toldM fb) := by
  obtain ⟨fdt, D⟩ := T.f_law_told
  obtain ⟨ft, F1, F2, F3⟩ := ok_law_term (P := X.prog) (w := X.w) T EX
  exact HD.pm_told D T.g_law_told (fun _ _ _ _ _ _ us hl => match us, hl with | [_], _ => rfl) sc_law_told (Or.inl rfl) (fun cdv => HD.told_N (fun k => F1 X.base C8.CX0 k) F2 F3 T.g_law_term rfl rfl rfl rfl T.k_Clash T.x_SongError.g EX.m) LA hq hr L hb hg hdef hbind
theorem pie_told_law {X : Cx} {Gr : Fr} {x m : Str} {params : Arguments} {body : Expr} {scope : Scope} {fs : M (List PyData)} {k lvl : Nat} {ps : List Str} {mi : Ob → List PyData → R (PyData × Ob)} {c Pt : Addr} {p lpos pos : Pos} (i : Nat) (Gf : FnI X.prog X.w X.K X.mg X.base lvl (aMet X.K m) ps mi) (T : Tx X.K X.mg) (EX : HD.ExcT X.K)
    (LA : HD.LamAt X.K X.mg X.base x X.env.code c Pt) (hq : X.env.qual = x ++ ".<locals>.") (hr : Room (k + 2) X.A) (L : LamX.LamS X.env.scope scope)
    (hb : ∀ (A : Around) (outer : List Env) (s : Shared) (H : Hp) (E : XK) (f c' : Addr) (H' V : Hp) (obs : Addr → Prop), Room k (A.deeper (LamX.lamEnv X scope s.heap.objs.size f c')) → ∃ t : TA, PE (HD.lamN X A outer s H E scope f c') body (tMe (aRun X.K) m (spI X.kw ps.length mi) i (fun _ => E) t) ∧ ∀ σ H1 Q, tMA X.kw (mkFO H' V E obs) fs σ H1 Q → t σ H1 Q)
    (hmn : m ∉ obNames := by decide) (hg : Gl X "_law_told" := by rfl) (hdef : defaultsOf params X.env = ([], []) := by rfl)
    (hbind : ∀ (q : Str) (cl : List (Str × Addr)) (pm cv ctv : Value), bindArgs (PySem.W.kla_fn "<lambda>" q params body scope cl pm cv ctv) ⟨[], []⟩ = pure [] := by intros; rfl) :
    PIE X Gr (.Call (.Name "_law_told" p) [.Lambda params body scope lpos] [] pos) (toldI i mi fs) := by
  obtain ⟨fdt, D⟩ := T.f_law_told
  obtain ⟨ft, F1, F2, F3⟩ := ok_law_term (P := X.prog) (w := X.w) T EX
  obtain ⟨_, _, _, hn⟩ := Gf
  exact pie_told D T.g_law_told (fun _ _ _ _ _ _ us hl => match us, hl with | [_], _ => rfl) sc_law_told (Or.inl rfl) (fun cdv => HD.told_N (fun k => F1 X.base C8.CX0 k) F2 F3 T.g_law_term rfl rfl rfl rfl T.k_Clash T.x_SongError.g EX.m) LA hq hr L hmn hn hb hg hdef hbind
abbrev N_law_any_singers : List Str := ["dice", "many", "crew", "found", "name", "ears", "turn", "size", "ear", "place"]
theorem sc_law_any_singers : FnScope N_law_any_singers ["dice", "many", "crew"] (defScope s_law_any_singers) := ⟨rfl, rfl, rfl, by decide +kernel, rfl, by decide +kernel, by decide +kernel⟩
theorem ok_law_any_singers {P : Program} {w : World} {K : PySem.W.Frag} {mg : Str → Option Value} {base : Heap} (T : Tx K mg) : FnL P w K mg base 3 "_law_any_singers" ["dice", "many", "crew"] m_law_any_singers := by
  obtain ⟨fd, D⟩ := T.f_law_any_singers
  exact fn_mkL D T.g_law_any_singers sc_law_any_singers (fun _ _ _ _ _ _ us hl => match us, hl with | [_, _, _], _ => rfl) (by decide) (by decide) fun cdv A outer s H V a E hr => (pms_cons (pms_own 3 pma_nil sc_law_any_singers.nd)
  (pms_cons (pms_for (passes_of rfl) (pmi_seq (pm_var 2)) (pmg_name 4 sc_law_any_singers.nd)
  (pms_cons (pms_own 5 pma_nil sc_law_any_singers.nd)
  (pms_cons (pms_for (passes_of rfl) (pmi_range1 T.z_range (pma_cons (pm_callL 0 (ok_law_roll T) (hr.mono (by decide)) tk_fn (pma_cons pm_int pma_nil)) pma_nil)) (pmg_name 6 sc_law_any_singers.nd)
  (pms_cons (pms_set 8 (pm_tup (pma_cons (pm_ix ix_seq od_ix (pm_var 2) (pm_callL 0 (ok_law_roll T) (hr.mono (by decide)) tk_fn (pma_cons (pm_callB call_len cd_len T.z_len (pma_cons (pm_var 2) pma_nil)) pma_nil))) (pma_cons (pm_op op_addD od_add pm_int (pm_callL 0 (ok_law_roll T) (hr.mono (by decide)) tk_fn (pma_cons pm_int pma_nil))) pma_nil))) sc_law_any_singers.nd)
  (pms_one (pms_if (pmt_brw true (pmt_cmp (op_notInAll (u65 hr)) od_notIn (pm_var 8) (pm_var 5))) (pms_one (pms_app 5 (pm_var 8))) pms_nil))))
  (pms_cons (pms_set 7 (pm_ix ix_seq od_ix (pm_lst (pma_cons pm_int (pma_cons (pm_var 1) (pma_cons (pm_op op_mulD od_mul (pm_var 1) (pm_var 1)) pma_nil)))) (pm_brw true (pm_callB call_len cd_len T.z_len (pma_cons (pm_var 5) pma_nil)))) sc_law_any_singers.nd)
  (pms_one (pms_app 3 (pm_tup (pma_cons (pm_var 4) (pma_cons (pm_brw true (pm_callTy call_tuple_of cd_tuple T.z_tuple (pma_cons (pm_callB cr_sortAll cd_sorted T.z_sorted (pma_cons (pm_var 5) pma_nil)) pma_nil))) (pma_cons (pm_callTy call_tuple_of cd_tuple T.z_tuple (pma_cons (pm_lc [("place", 9)] (pmi_range1 T.z_range (pma_cons (pm_var 7) pma_nil)) (blkOk_by (N := N_law_any_singers) (sc := defScope s_law_any_singers) (by decide +kernel)) sc_law_any_singers.nd (fun _ _ _ _ _ => (pmg_name 9 sc_law_any_singers.nd)) (fun _ _ _ _ _ => pmts_nil) (fun _ _ _ _ _ => (pm_callL 0 (ok_law_roll T) (hr.mono (by decide)) tk_nox (pma_cons (pm_var 1) pma_nil)))) pma_nil)) pma_nil))))))))))
  (pms_one (pms_ret (pm_brw true (pm_callTy call_tuple_of cd_tuple T.z_tuple (pma_cons (pm_var 3) pma_nil)))))))
abbrev N_law_any_choir : List Str := ["dice", "act", "many", "size"]
theorem sc_law_any_choir : FnScope N_law_any_choir ["dice"] (defScope s_law_any_choir) := ⟨rfl, rfl, rfl, by decide +kernel, rfl, by decide +kernel, by decide +kernel⟩
theorem ok_law_any_choir {P : Program} {w : World} {K : PySem.W.Frag} {mg : Str → Option Value} {base : Heap} (T : Tx K mg) : FnL P w K mg base 4 "_law_any_choir" ["dice"] m_law_any_choir := by
  obtain ⟨fd, D⟩ := T.f_law_any_choir
  exact fn_mkL D T.g_law_any_choir sc_law_any_choir (fun _ _ _ _ _ _ us hl => match us, hl with | [_], _ => rfl) (by decide) (by decide) fun cdv A outer s H V a E hr => (pms_cons (pms_set 1 (pm_callL 0 (ok_law_roll T) (hr.mono (by decide)) tk_fn (pma_cons pm_int pma_nil)) sc_law_any_choir.nd)
  (pms_cons (pms_asg (pm_ix ix_seq od_ix (pm_lst (pma_cons (pm_tup (pma_cons pm_int (pma_cons pm_int pma_nil))) (pma_cons (pm_tup (pma_cons pm_int (pma_cons pm_int pma_nil))) (pma_cons (pm_tup (pma_cons pm_int (pma_cons pm_int pma_nil))) (pma_cons (pm_tup (pma_cons pm_int (pma_cons pm_int pma_nil))) (pma_cons (pm_tup (pma_cons pm_int (pma_cons pm_int pma_nil))) (pma_cons (pm_tup (pma_cons pm_int (pma_cons pm_int pma_nil))) pma_nil))))))) (pm_var 1)) (pmg_tup (pmgs_cons (pmg_name 2 sc_law_any_choir.nd) (pmgs_cons (pmg_name 3 sc_law_any_choir.nd) pmgs_nil)) (gsC_len (gsC_len (fun _ _ _ h => gsN_len h)))))
  (pms_one (pms_ret (pm_tup (pma_cons (pm_var 2) (pma_cons (pm_callL 0 (ok_law_any_singers T) (hr.mono (by decide)) tk_fn (pma_cons (pm_var 2) (pma_cons (pm_slice (pm_lst (pma_cons pm_str (pma_cons pm_str (pma_cons pm_str pma_nil)))) pmo_none (pmo_some (pm_var 3))) pma_nil))) pma_nil)))))))
abbrev N_law_any_standing : List Str := ["dice", "choir", "found", "singer", "turn"]
theorem sc_law_any_standing : FnScope N_law_any_standing ["dice", "choir"] (defScope s_law_any_standing) := ⟨rfl, rfl, rfl, by decide +kernel, rfl, by decide +kernel, by decide +kernel⟩
theorem ok_law_any_standing {P : Program} {w : World} {K : PySem.W.Frag} {mg : Str → Option Value} {base : Heap} (T : Tx K mg) : FnL P w K mg base 3 "_law_any_standing" ["dice", "choir"] m_law_any_standing := by
  obtain ⟨fd, D⟩ := T.f_law_any_standing
  exact fn_mkL D T.g_law_any_standing sc_law_any_standing (fun _ _ _ _ _ _ us hl => match us, hl with | [_, _], _ => rfl) (by decide) (by decide) fun cdv A outer s H V a E hr => (pms_cons (pms_own 2 pma_nil sc_law_any_standing.nd)
  (pms_cons (pms_for (passes_of rfl) (pmi_seq (pm_ix ix_seq od_ix (pm_var 1) pm_int)) (pmg_name 3 sc_law_any_standing.nd)
  (pms_one (pms_app 2 (pm_callTy call_tuple_of cd_tuple T.z_tuple (pma_cons (pm_lc [("turn", 4)] (pmi_range1 T.z_range (pma_cons pm_int pma_nil)) (blkOk_by (N := N_law_any_standing) (sc := defScope s_law_any_standing) (by decide +kernel)) sc_law_any_standing.nd (fun _ _ _ _ _ => (pmg_name 4 sc_law_any_standing.nd)) (fun _ _ _ _ _ => pmts_nil) (fun _ _ _ _ _ => (pm_callL 0 (ok_law_roll T) (hr.mono (by decide)) tk_nox (pma_cons (pm_ix ix_seq od_ix (pm_var 1) pm_int) pma_nil)))) pma_nil)))))
  (pms_one (pms_ret (pm_brw true (pm_callTy call_tuple_of cd_tuple T.z_tuple (pma_cons (pm_var 2) pma_nil)))))))
abbrev N_law_cell : List Str := ["script", "k"]
theorem sc_law_cell : FnScope N_law_cell ["script", "k"] (defScope s_law_cell) := ⟨rfl, rfl, rfl, by decide +kernel, rfl, by decide +kernel, by decide +kernel⟩
theorem ok_law_cell {P : Program} {w : World} {K : PySem.W.Frag} {mg : Str → Option Value} {base : Heap} (T : Tx K mg) : ∃ fd, FnOk P w K mg base (L2N.CX P w) 1 (He.ga K "_law_cell") fd ["script", "k"] (DL.spCell ⟨K, w⟩) ∧ Binds K fd ["script", "k"] [] ∧ PySem.W.keepIn K (.ref (He.ga K "_law_cell")) = true := by
  obtain ⟨fd, D⟩ := T.f_law_cell
  refine ⟨fd, D.ok (CX := L2N.CX P w) sc_law_cell (fun vs H Q E h => ?_) (fun cdv A outer s H vs Q E hr h => ⟨DL.t_cell ⟨K, w⟩, ?_, DL.pure_cell vs H Q E h⟩), D.bindsN (fun _ _ _ _ _ _ us hl => match us, hl with | [_, _], _ => rfl), D.kp⟩
  · obtain ⟨a, ns, k, rfl, _⟩ := h
    rfl
  · exact pss_cons (ps_if (pt_cmpR (op_eqD hr.units) (pv 0) (pe_lst pa_nil) (nomark _)) (pss_one (ps_ret (pe_op op_mul (pv 1) pe_int))) pss_nil)
      (pss_one (ps_ret (pe_op op_add (pe_ix ix_list (pv 0) (pe_op op_mod (pv 1) (pe_callB call_len rfl T.z_len (by decide +kernel) (pa_cons (pv 0) pa_nil))) (fun _ _ => rfl)) (pe_op op_mul (pe_op op_fdivW (pv 1) (pe_callB call_len rfl T.z_len (by decide +kernel) (pa_cons (pv 0) pa_nil))) pe_int))))
abbrev N_law_rounds : List Str := ["script", "high", "k"]
theorem sc_law_rounds : FnScope N_law_rounds ["script", "high"] (defScope s_law_rounds) := ⟨rfl, rfl, rfl, by decide +kernel, rfl, by decide +kernel, by decide +kernel⟩
theorem ok_law_rounds {P : Program} {w : World} {K : PySem.W.Frag} {mg : Str → Option Value} {base : Heap} (T : Tx K mg) : ∃ fd, FnOk P w K mg base (L2N.CX P w) 2 (He.ga K "_law_rounds") fd ["script", "high"] (DL.spRounds ⟨K, w⟩) ∧ Binds K fd ["script", "high"] [] ∧ PySem.W.keepIn K (.ref (He.ga K "_law_rounds")) = true := by
  obtain ⟨fd, D⟩ := T.f_law_rounds
  refine ⟨fd, D.ok (CX := L2N.CX P w) sc_law_rounds (fun vs H Q E h => ?_) (fun cdv A outer s H vs Q E hr h => ⟨DL.t_rounds ⟨K, w⟩ E, ?_, DL.pure_rounds vs H Q E h⟩), D.bindsN (fun _ _ _ _ _ _ us hl => match us, hl with | [_, _], _ => rfl), D.kp⟩
  · obtain ⟨a, ns, k, rfl, _⟩ := h
    rfl
  · obtain ⟨fc, G1, G2, G3⟩ := ok_law_cell (P := P) (w := w) (base := base) T
    exact pss_one (ps_ret (pe_lc (own := [("k", 2)]) rfl sc_law_rounds.nd
      (pi_range1 rfl T.z_range (pa_cons (pe_callB (call_max2 rfl) rfl T.z_max (by decide +kernel) (pa_cons pe_int (pa_cons (pe_callB (call_min2 rfl) rfl T.z_min (by decide +kernel) (pa_cons (pv 1) (pa_cons (pe_callB call_len rfl T.z_len (by decide +kernel) (pa_cons (pv 0) pa_nil)) pa_nil))) pa_nil))) pa_nil))
      (blkOk_by (N := N_law_rounds) (sc := defScope s_law_rounds) (by decide +kernel)) (fun _ _ _ _ _ => pg_name (i := 2) sc_law_rounds.nd rfl (Or.inl rfl)) (fun _ _ _ _ _ => pts_nil)
      (fun _ _ _ _ _ => pe_lst (pa_cons (pe_callS (k := 1) (E := fun _ _ _ _ => False) G1 (hr.mono (by decide)) rfl T.g_law_cell G3 G2 (fun σ => L2N.passAt takesN0 σ) (pa_cons (pv 0) (pa_cons (pv 2) pa_nil))) (pa_cons pe_int pa_nil)))))
abbrev N_law : List Str := ["script", "dice", "choir", "standing", "many", "running", "kept", "cases", "bad", "ears", "rows", "size"]
theorem sc_law : FnScope N_law ["script"] (defScope s_law) := ⟨rfl, rfl, rfl, by decide +kernel, rfl, by decide +kernel, by decide +kernel⟩
theorem ok_law {P : Program} {w : World} {K : PySem.W.Frag} {mg : Str → Option Value} (T : Tx K mg) (EX : HD.ExcT K) (hb : ∀ c : Int, ∃ ρ', b_law (init law_n law_di c) = .nx ρ' ∧ ρ'.length = law_n) : ∃ fd, (∀ base : Heap, HD.LamKs K mg base lams → FnOk P w K mg base (L2N.CX P w) 11 (He.ga K "law") fd ["script"] (DL.spLaw ⟨K, w⟩)) ∧ ∀ (s : Shared) (v : Value), BindsTo s fd ⟨[v], []⟩ [("script", v)] := by
  obtain ⟨fd, D⟩ := T.f_law
  have hbb := fun s v => FunD.bindsA (ps := ["script"]) D (fun _ _ _ _ _ _ us hl => match us, hl with | [_], _ => rfl) s [v] rfl
  obtain ⟨oc, od, dV, kV, doc, pm, an, cdv, ct, osl, rfl, lk, hcd, _, _⟩ := D.ex
  refine ⟨_, fun base LM => fn_of (CX := L2N.CX P w) lk hcd sc_law (fun vs H Q E h => ?_) (fun A outer s H vs Q E hr h => ⟨DL.t_lawI ⟨K, w⟩ 4 1 b_law, ?_, DL.pure_lawI (N := N_law) (by decide) (by decide) (by decide) hb vs H Q E h (fun _ => rfl) (fun _ => rfl)⟩), hbb⟩
  · obtain ⟨_, a, ns, rfl, _⟩ := h
    rfl
  · obtain ⟨c, Pt, LA⟩ := LM "law" (by decide) _ _ _ _ lk
    obtain ⟨fr, G1, G2, G3⟩ := ok_law_rounds (P := P) (w := w) (base := base) T
    exact pss_cons (ps_for (passes_of rfl) rfl (pi_list (pe_callS (k := 2) (E := fun _ _ _ _ => False) G1 (hr.mono (by decide)) rfl T.g_law_rounds G3 G2 (fun σ => L2N.passAt takesN0 σ) (pa_cons (pv 0) (pa_cons pe_int pa_nil)))) (pg_name (i := 1) sc_law.nd rfl (by first | exact Or.inl rfl | exact Or.inr rfl))
      (pss_bodyI fun H a => (pis_cons (pis_up fun _ _ _ => (pms_set 2 (pm_callL 1 (ok_law_any_choir T) (hr.mono (by decide)) (tk_no rfl) pma_nil) sc_law.nd))
  (pis_cons (pis_up fun _ _ _ => (pms_par 3 4 (pma_cons (pm_callL 1 (ok_law_any_standing T) (hr.mono (by decide)) (tk_no rfl) (pma_cons (pm_var 2) pma_nil)) (pma_cons (pm_ix ix_seq od_ix (pm_var 2) pm_int) pma_nil)) sc_law.nd))
  (pis_cons (pis_new 5 T.rk (ok_Running_init T) (hr.mono (by decide)) (tk_no rfl) (pir_up fun _ _ _ => (pma_cons (pm_var 2) (pma_cons (pm_var 3) pma_nil))) T.k_Running sc_law.nd)
  (pis_cons (pis_expr (pie_meth 5 T.rk (by decide) (oki_Running_run_2 T) (hr.mono (by decide)) (tk_no rfl) (pir_up fun _ _ _ => (pma_cons (pm_callL 1 (ok_law_roll T) (hr.mono (by decide)) (tk_no rfl) (pma_cons pm_int pma_nil)) pma_nil))))
  (pis_cons (pis_up fun _ _ _ => (pms_set 6 (pm_tup (pma_cons (pm_meth0 5 T.rk (by decide) (ok_Running_choir T) (hr.mono (by decide)) (tk_no rfl)) (pma_cons (pm_meth0 5 T.rk (by decide) (ok_Running_standing T) (hr.mono (by decide)) (tk_no rfl)) (pma_cons (pm_callTy call_list_of cd_list T.z_list (pma_cons (pm_meth0 5 T.rk (by decide) (ok_Running_lines T) (hr.mono (by decide)) (tk_no rfl)) pma_nil)) pma_nil)))) sc_law.nd))
  (pis_cons (pis_up fun _ _ _ => (pms_set 7 (pm_lst (pma_cons pm_non (pma_cons pm_int (pma_cons (pm_tup pma_nil) (pma_cons (pm_lst pma_nil) (pma_cons (pm_d1 hr.units pm_str pm_int) (pma_cons (pm_d1 hr.units pm_int pm_int) (pma_cons (pm_d1 hr.units pm_str (pm_var 4)) (pma_cons (pm_d1 hr.units pm_str (pm_un un_neg od_neg pm_int)) (pma_cons (pm_d1 hr.units pm_str pm_bl) pma_nil)))))))))) sc_law.nd))
  (pis_cons (pis_up fun _ _ _ => (pms_set 7 (pm_op op_addD od_add (pm_var 7) (pm_lst (pma_cons (pm_d1 hr.units pm_str pm_non) pma_nil))) sc_law.nd))
  (pis_cons (pis_for (passes_of rfl) (pii_up fun _ _ _ => (pmi_seq (pm_var 7))) (pig_up fun _ _ _ => (pmg_name 8 sc_law.nd))
  (pis_one (pis_if (pit_cmp (op_neD hr.units) od_ne (pie_told_law 5 (k := 7) (oki_Running_beat T) T EX LA rfl (hr.mono (by decide)) (LamX.lamS_by (sc := defScope s_law) (by decide +kernel)) (fun A outer s H E f c' H' V obs hr => ⟨_, pe_meL 5 T.rk (by decide) (oki_Running_beat T) (hr.mono (by decide)) tk_lamE (pma_cons (pm_var 8) pma_nil), fun _ _ _ z => z⟩)) (pie_up fun _ _ _ => (pm_tup (pma_cons pm_str (pma_cons pm_str pma_nil))))) (pis_one (pis_up fun _ _ _ => (pms_ret pm_bl))) pis_nil)))
  (pis_cons (pis_for (passes_of rfl) (pii_up fun _ _ _ => (pmi_seq (pm_lst (pma_cons (pm_un un_neg od_neg pm_int) (pma_cons pm_int (pma_cons pm_bl (pma_cons pm_non (pma_cons pm_str pma_nil)))))))) (pig_up fun _ _ _ => (pmg_name 8 sc_law.nd))
  (pis_one (pis_if (pit_cmp (op_neD hr.units) od_ne (pie_told_law 5 (k := 7) (oki_Running_run_2 T) T EX LA rfl (hr.mono (by decide)) (LamX.lamS_by (sc := defScope s_law) (by decide +kernel)) (fun A outer s H E f c' H' V obs hr => ⟨_, pe_meL 5 T.rk (by decide) (oki_Running_run_2 T) (hr.mono (by decide)) tk_lamE (pma_cons (pm_var 8) pma_nil), fun _ _ _ z => z⟩)) (pie_up fun _ _ _ => (pm_tup (pma_cons pm_str (pma_cons pm_str pma_nil))))) (pis_one (pis_up fun _ _ _ => (pms_ret pm_bl))) pis_nil)))
  (pis_cons (pis_for (passes_of rfl) (pii_up fun _ _ _ => (pmi_seq (pm_lst (pma_cons pm_non (pma_cons pm_int (pma_cons pm_str (pma_cons (pm_tup (pma_cons pm_str pma_nil)) pma_nil))))))) (pig_up fun _ _ _ => (pmg_name 8 sc_law.nd))
  (pis_one (pis_if (pit_cmp (op_neD hr.units) od_ne (pie_told_law 5 (k := 6) (oki_Running_replace_2 T) T EX LA rfl (hr.mono (by decide)) (LamX.lamS_by (sc := defScope s_law) (by decide +kernel)) (fun A outer s H E f c' H' V obs hr => ⟨_, pe_meL 5 T.rk (by decide) (oki_Running_replace_2 T) (hr.mono (by decide)) tk_lamE (pma_cons (pm_var 8) (pma_cons pm_non (pma_cons pm_non pma_nil))), fun _ _ _ z => z⟩)) (pie_up fun _ _ _ => (pm_tup (pma_cons pm_str (pma_cons pm_str pma_nil))))) (pis_one (pis_up fun _ _ _ => (pms_ret pm_bl))) pis_nil)))
  (pis_cons (pis_up fun _ _ _ => (pms_set 9 (pm_lst (pma_cons pm_non (pma_cons pm_int (pma_cons (pm_lst pma_nil) (pma_cons (pm_tup (pma_cons (pm_tup (pma_cons pm_str (pma_cons pm_int pma_nil))) pma_nil)) (pma_cons (pm_tup (pma_cons (pm_tup (pma_cons pm_str (pma_cons pm_int pma_nil))) pma_nil)) (pma_cons (pm_tup (pma_cons (pm_tup (pma_cons pm_str (pma_cons pm_int pma_nil))) pma_nil)) (pma_cons (pm_tup (pma_cons (pm_tup (pma_cons pm_str (pma_cons pm_int pma_nil))) (pma_cons (pm_tup (pma_cons pm_str (pma_cons pm_int pma_nil))) pma_nil))) pma_nil)))))))) sc_law.nd))
  (pis_cons (pis_up fun _ _ _ => (pms_set 9 (pm_op op_addD od_add (pm_var 9) (pm_lst (pma_cons (pm_tup (pma_cons (pm_tup (pma_cons pm_str (pma_cons pm_int pma_nil))) (pma_cons (pm_tup (pma_cons pm_str (pma_cons pm_int pma_nil))) pma_nil))) (pma_cons (pm_tup (pma_cons pm_str (pma_cons pm_int pma_nil))) pma_nil)))) sc_law.nd))
  (pis_cons (pis_for (passes_of rfl) (pii_up fun _ _ _ => (pmi_seq (pm_var 9))) (pig_up fun _ _ _ => (pmg_name 8 sc_law.nd))
  (pis_cons (pis_up fun _ _ _ => (pms_set 11 (pm_if (pmt_w (pmw_and (pmt_val (pm_isi .tuple T.z_isinstance T.z_tuple (pm_var 8))) (pmw_and1 (pmt_cmp (op_eqD hr.units) od_eq (pm_callB call_len cd_len T.z_len (pma_cons (pm_var 8) pma_nil)) pm_int)))) (pm_op op_mulD od_mul (pm_var 4) (pm_var 4)) (pm_var 4)) sc_law.nd))
  (pis_one (pis_if (pit_cmp (op_neD hr.units) od_ne (pie_told_law 5 (k := 6) (oki_Running_replace_2 T) T EX LA rfl (hr.mono (by decide)) (LamX.lamS_by (sc := defScope s_law) (by decide +kernel)) (fun A outer s H E f c' H' V obs hr => ⟨_, pe_meL 5 T.rk (by decide) (oki_Running_replace_2 T) (hr.mono (by decide)) tk_lamE (pma_cons pm_str (pma_cons (pm_var 8) (pma_cons (pm_op op_mulD od_mul (pm_tup (pma_cons pm_int pma_nil)) (pm_var 11)) pma_nil))), fun _ _ _ z => z⟩)) (pie_up fun _ _ _ => (pm_tup (pma_cons pm_str (pma_cons pm_str pma_nil))))) (pis_one (pis_up fun _ _ _ => (pms_ret pm_bl))) pis_nil))))
  (pis_cons (pis_for (passes_of rfl) (pii_up fun _ _ _ => (pmi_seq (pm_lst (pma_cons pm_non (pma_cons pm_int (pma_cons (pm_tup pma_nil) (pma_cons (pm_lst (pma_cons pm_int pma_nil)) (pma_cons (pm_tup (pma_cons pm_int (pma_cons pm_int pma_nil))) (pma_cons (pm_tup (pma_cons (pm_var 4) pma_nil)) (pma_cons (pm_tup (pma_cons pm_bl pma_nil)) (pma_cons (pm_tup (pma_cons (pm_un un_neg od_neg pm_int) pma_nil)) pma_nil))))))))))) (pig_up fun _ _ _ => (pmg_name 8 sc_law.nd))
  (pis_one (pis_if (pit_cmp (op_neD hr.units) od_ne (pie_told_law 5 (k := 6) (oki_Running_replace_2 T) T EX LA rfl (hr.mono (by decide)) (LamX.lamS_by (sc := defScope s_law) (by decide +kernel)) (fun A outer s H E f c' H' V obs hr => ⟨_, pe_meL 5 T.rk (by decide) (oki_Running_replace_2 T) (hr.mono (by decide)) tk_lamE (pma_cons pm_str (pma_cons (pm_tup pma_nil) (pma_cons (pm_var 8) pma_nil))), fun _ _ _ z => z⟩)) (pie_up fun _ _ _ => (pm_tup (pma_cons pm_str (pma_cons pm_str pma_nil))))) (pis_one (pis_up fun _ _ _ => (pms_ret pm_bl))) pis_nil)))
  (pis_cons (pis_up fun _ _ _ => (pms_if (pmt_cmp (op_neD hr.units) od_ne (pm_tup (pma_cons (pm_meth0 5 T.rk (by decide) (ok_Running_choir T) (hr.mono (by decide)) (tk_no rfl)) (pma_cons (pm_meth0 5 T.rk (by decide) (ok_Running_standing T) (hr.mono (by decide)) (tk_no rfl)) (pma_cons (pm_meth0 5 T.rk (by decide) (ok_Running_lines T) (hr.mono (by decide)) (tk_no rfl)) pma_nil)))) (pm_var 6)) (pms_one (pms_ret pm_bl)) pms_nil))
  (pis_cons (pis_up fun _ _ _ => (pms_for (passes_of rfl) (pmi_seq (pm_lst (pma_cons pm_non (pma_cons pm_int (pma_cons (pm_tup pma_nil) (pma_cons (pm_op op_addD od_add (pm_var 3) (pm_tup (pma_cons (pm_tup (pma_cons pm_int (pma_cons pm_int (pma_cons pm_int pma_nil)))) pma_nil))) (pma_cons (pm_op op_mulD od_mul (pm_tup (pma_cons (pm_tup (pma_cons pm_int (pma_cons pm_int (pma_cons (pm_var 4) pma_nil)))) pma_nil)) (pm_callB call_len cd_len T.z_len (pma_cons (pm_var 3) pma_nil))) pma_nil))))))) (pmg_name 8 sc_law.nd)
  (pms_one (pms_if (pmt_cmp (op_neD hr.units) od_ne (pm_told_law (k := 8) T EX LA rfl (hr.mono (by decide)) (LamX.lamS_by (sc := defScope s_law) (by decide +kernel)) (fun A outer s H E f c' H' V hr => (pm_makeX T.rk (ok_Running_init T) (hr.mono (by decide)) HD.tk_lam (pma_cons (pm_var 2) (pma_cons (pm_var 8) pma_nil)) T.k_Running))) (pm_tup (pma_cons pm_str (pma_cons pm_str pma_nil)))) (pms_one (pms_ret pm_bl)) pms_nil))))
  (pis_cons (pis_lines 5 10 T.rk (okn_Running_lines T) (hr.mono (by decide)) (tk_no rfl) sc_law.nd)
  (pis_cons (pis_up fun _ _ _ => (pms_app 10 pm_str))
  (pis_one (pis_if (pit_w (piw_or (pit_up fun _ _ _ => (pmt_cmp (op_neD hr.units) od_ne (pm_meth0 5 T.rk (by decide) (ok_Running_lines T) (hr.mono (by decide)) (tk_no rfl)) (pm_ix ix_seq od_ix (pm_var 6) pm_int))) (piw_or (pit_cmp op_isNotD od_isNot (pie_meth0 5 T.rk (by decide) (oki_Running_undo_2 T) (hr.mono (by decide)) (tk_no rfl)) (pie_up fun _ _ _ => pm_non)) (piw_or1 (pit_up fun _ _ _ => (pmt_cmp (op_neD hr.units) od_ne (pm_meth0 5 T.rk (by decide) (ok_Running_standing T) (hr.mono (by decide)) (tk_no rfl)) (pm_var 3))))))) (pis_one (pis_up fun _ _ _ => (pms_ret pm_bl))) pis_nil)))))))))))))))))))))) (pss_one (ps_ret pe_bl))
end G
set_option Elab.async false
set_option linter.all false
set_option maxRecDepth 100000
set_option maxHeartbeats 1000000
namespace G
open PySem DL
local instance : DL.TabCtx := ⟨[]⟩
inductive P : Nat → PyData → Prop
  | none {k} : P k .none
  | int {k} (i : Int) : P k (.int i)
  | str {k} {s : Str} (h : (PyData.str s).canLay0 = true) : P k (.str s)
  | tuple {k} {xs : List PyData} (h : ∀ x ∈ xs, P k x) : P (k + 1) (.tuple xs)
  | list {k} {xs : List PyData} (h : ∀ x ∈ xs, P k x) : P (k + 1) (.list xs)
theorem P.mono {j : Nat} {d : PyData} (h : P j d) : ∀ {k : Nat}, j ≤ k → P k d := by
  induction h with
  | none => exact fun _ => .none
  | int i => exact fun _ => .int i
  | str h => exact fun _ => .str h
  | tuple _ ih => intro k hk; cases k with
    | zero => omega
    | succ k => exact .tuple fun x hx => ih x hx (by omega)
  | list _ ih => intro k hk; cases k with
    | zero => omega
    | succ k => exact .list fun x hx => ih x hx (by omega)
theorem lay_all : ∀ {xs : List PyData}, (∀ x ∈ xs, x.canLay0 = true) → PyData.canLayAll0 xs = true
  | [], _ => rfl
  | x :: xs, h => by
    show (PyData.canLay0 x && PyData.canLayAll0 xs) = true
    rw [h x (List.mem_cons_self ..), lay_all fun y hy => h y (List.mem_cons_of_mem _ hy)]
    rfl
theorem depth_all {k : Nat} : ∀ {xs : List PyData}, (∀ x ∈ xs, x.depth ≤ k) → PyData.depthAll xs ≤ k
  | [], _ => by simp [PyData.depthAll]
  | x :: xs, h => by
    have h1 := h x (List.mem_cons_self ..)
    have h2 := depth_all fun y hy => h y (List.mem_cons_of_mem _ hy)
    simp only [PyData.depthAll]
    omega
theorem P.lay {k : Nat} {d : PyData} (h : P k d) : d.canLay0 = true ∧ d.depth ≤ k := by
  induction h with
  | none => exact ⟨by rw [PyData.canLay0], by rw [PyData.depth]; omega⟩
  | int i => exact ⟨by rw [PyData.canLay0], by rw [PyData.depth]; omega⟩
  | str h => exact ⟨h, by rw [PyData.depth]; omega⟩
  | tuple _ ih => exact ⟨by rw [PyData.canLay0]; exact lay_all fun x hx => (ih x hx).1, by rw [PyData.depth]; have := depth_all fun x hx => (ih x hx).2; omega⟩
  | list _ ih => exact ⟨by rw [PyData.canLay0]; exact lay_all fun x hx => (ih x hx).1, by rw [PyData.depth]; have := depth_all fun x hx => (ih x hx).2; omega⟩
theorem P.shaped {k : Nat} {d : PyData} (h : P k d) (hk : k ≤ 64) : SeqAt.shaped d = true := by
  obtain ⟨h1, h2⟩ := h.lay
  unfold SeqAt.shaped
  rw [h1, decide_eq_true (Nat.le_trans h2 hk)]
  rfl
theorem eqv_all : ∀ {xs ys : List PyData}, (∀ x ∈ xs, ∀ y ∈ ys, x.eqv y = true ↔ x = y) → (PyData.eqvAll xs ys = true ↔ xs = ys)
  | [], [], _ => by simp [PyData.eqvAll]
  | [], _ :: _, _ => by simp [PyData.eqvAll]
  | _ :: _, [], _ => by simp [PyData.eqvAll]
  | x :: xs, y :: ys, h => by
    have h1 := h x (List.mem_cons_self ..) y (List.mem_cons_self ..)
    have h2 := eqv_all (xs := xs) (ys := ys) fun a ha b hb => h a (List.mem_cons_of_mem _ ha) b (List.mem_cons_of_mem _ hb)
    simp only [PyData.eqvAll, Bool.and_eq_true, h1, h2, List.cons.injEq]
theorem P.eqv {j : Nat} {a : PyData} (ha : P j a) : ∀ {k : Nat} {b : PyData}, P k b → (a.eqv b = true ↔ a = b) := by
  induction ha with
  | none => intro k b hb; cases hb <;> simp [PyData.eqv]
  | int i => intro k b hb; cases hb <;> simp [PyData.eqv]
  | str h => intro k b hb; cases hb <;> simp [PyData.eqv]
  | tuple _ ih =>
    intro k b hb
    cases hb with
    | tuple h2 => simp only [PyData.eqv, PyData.tuple.injEq]; exact eqv_all fun x hx y hy => ih x hx (h2 y hy)
    | _ => simp [PyData.eqv]
  | list _ ih =>
    intro k b hb
    cases hb with
    | list h2 => simp only [PyData.eqv, PyData.list.injEq]; exact eqv_all fun x hx y hy => ih x hx (h2 y hy)
    | _ => simp [PyData.eqv]
theorem gEq_P {j k : Nat} {a b : PyData} (ha : P j a) (hb : P k b) (p : Prop) [Decidable p] (hp : a = b ↔ p) (hj : j ≤ 64 := by decide) (hk : k ≤ 64 := by decide) : gEq a b = some (.bool (decide p)) := by
  unfold gEq
  rw [ha.shaped hj, hb.shaped hk]
  have : a.eqv b = decide p := by
    rw [Bool.eq_iff_iff, ha.eqv hb, hp, decide_eq_true_iff]
  rw [this]
  rfl
theorem gNe_P {j k : Nat} {a b : PyData} (ha : P j a) (hb : P k b) (p : Prop) [Decidable p] (hp : a = b ↔ p) (hj : j ≤ 64 := by decide) (hk : k ≤ 64 := by decide) : gNe a b = some (.bool (!decide p)) := by
  unfold gNe
  rw [ha.shaped hj, hb.shaped hk]
  have : a.eqv b = decide p := by
    rw [Bool.eq_iff_iff, ha.eqv hb, hp, decide_eq_true_iff]
  rw [this]
  rfl
@[simp] theorem gEq_int (i j : Int) : gEq (.int i) (.int j) = some (.bool (decide (i = j))) := gEq_P (j := 0) (k := 0) (.int i) (.int j) _ (by simp)
@[simp] theorem gNe_int (i j : Int) : gNe (.int i) (.int j) = some (.bool (!decide (i = j))) := gNe_P (j := 0) (k := 0) (.int i) (.int j) _ (by simp)
section
variable {ρ : Rho} {d x y z : PyData} {ds : List PyData} {i j : Nat} {α β : Type} {a b c : M PyData} {s t : M Bool} {as : M (List PyData)} {f g : SM}
@[simp] theorem e_bind {f : M α} {k : α → M β} : M.bind f k ρ = match f ρ with
  | .ok (a, ρ') => k a ρ'
  | .exc c => .exc c
  | .bad => .bad := rfl
@[simp] theorem e_pure {v : α} : M.pure v ρ = .ok (v, ρ) := rfl
@[simp] theorem e_lift {r : R α} : M.lift r ρ = match r with
  | .ok a => .ok (a, ρ)
  | .exc c => .exc c
  | .bad => .bad := rfl
@[simp] theorem e_some {v : α} : M.opt (some v) ρ = .ok (v, ρ) := rfl
@[simp] theorem e_vN : vN i ρ = match ρ[i]? with
  | some (.sh d) => .ok (d, ρ)
  | _ => .bad := rfl
@[simp] theorem e_cD : cD d ρ = .ok (d, ρ) := rfl
@[simp] theorem e_op1 {g : PyData → Option PyData} : op1 g a ρ = (M.bind a fun x => M.opt (g x)) ρ := rfl
@[simp] theorem e_op2 {g : PyData → PyData → Option PyData} : op2 g a b ρ = (M.bind a fun x => M.bind b fun y => M.opt (g x y)) ρ := rfl
@[simp] theorem e_aN : aN ρ = .ok ([], ρ) := rfl
@[simp] theorem e_aC : aC a as ρ = (M.bind a fun x => M.bind as fun xs => M.pure (x :: xs)) ρ := rfl
@[simp] theorem e_opA {g : List PyData → Option PyData} : opA g as ρ = (M.bind as fun ds => M.opt (g ds)) ρ := rfl
@[simp] theorem e_callM {m : List PyData → R PyData} : callM m as ρ = (M.bind as fun ds => M.lift (m ds)) ρ := rfl
@[simp] theorem e_tst : tst a ρ = (M.bind a fun x => M.opt (asB x)) ρ := rfl
@[simp] theorem e_asB {b : Bool} : asB (.bool b) = some b := rfl
@[simp] theorem e_asI {i : Int} : asI (.int i) = some i := rfl
@[simp] theorem e_asL : asL (.list ds) = some ds := rfl
@[simp] theorem e_andT : andT s t ρ = (M.bind s fun x => if x = true then t else M.pure false) ρ := rfl
@[simp] theorem e_orT : orT s t ρ = (M.bind s fun x => if x = true then M.pure true else t) ρ := rfl
@[simp] theorem e_notT : notT s ρ = (M.bind s fun x => M.pure (!x)) ρ := rfl
@[simp] theorem e_andV : andV a b ρ = (M.bind a fun x => M.bind (M.opt (asB x)) fun c => if c = true then b else M.pure (.bool false)) ρ := rfl
@[simp] theorem e_orV : orV a b ρ = (M.bind a fun x => M.bind (M.opt (asB x)) fun c => if c = true then M.pure (.bool true) else b) ρ := rfl
@[simp] theorem e_notV : notV a ρ = (M.bind a fun x => M.opt ((asB x).map fun b => .bool (!b))) ρ := rfl
@[simp] theorem e_ifV : ifV s a b ρ = (M.bind s fun c => if c = true then a else b) ρ := rfl
@[simp] theorem e_chain {g g' : PyData → PyData → Option PyData} : chain g g' a b c ρ = (M.bind a fun x => M.bind b fun y => M.bind (M.opt ((g x y).bind asB)) fun k => if k = true then M.bind c fun z => M.opt (g' y z) else M.pure (.bool false)) ρ := rfl
@[simp] theorem e_prt : prt a ρ = (M.bind a fun x => M.bind (M.opt (asI x)) fun i => M.pure (some i)) ρ := rfl
@[simp] theorem e_noPrt : noPrt ρ = .ok (none, ρ) := rfl
@[simp] theorem e_slc {l h : M (Option Int)} : slc a l h ρ = (M.bind a fun x => M.bind l fun l => M.bind h fun h => M.opt (gCut l h x)) ρ := rfl
@[simp] theorem e_seqI : seqI a ρ = (M.bind a fun d => M.opt (itemsD d)) ρ := rfl
@[simp] theorem e_opI {g : List PyData → Option (List PyData)} : opI g as ρ = (M.bind as fun ds => M.opt (g ds)) ρ := rfl
@[simp] theorem e_isi {T : Ty} : isi T a ρ = (M.bind a fun d => M.opt (some (.bool (isD T d)))) ρ := rfl
@[simp] theorem e_opM {g : PyData → List PyData → Option PyData} : opM g a as ρ = (M.bind a fun x => M.bind (M.opt (asL x)) fun _ => M.bind as fun xs => M.opt (g x xs)) ρ := rfl
@[simp] theorem e_yes : yesT ρ = .ok (true, ρ) := rfl
@[simp] theorem e_seqO : seqO f g ρ = match f ρ with
  | .nx ρ' => g ρ'
  | o => o := rfl
@[simp] theorem e_exO {f : M α} {k : α → SM} : exO f k ρ = match f ρ with
  | .ok (a, ρ') => k a ρ'
  | .exc c => .exc c
  | .bad => .bad := rfl
@[simp] theorem e_nxO : nxO ρ = .nx ρ := rfl
@[simp] theorem e_dropO : dropO a ρ = (exO a fun _ => nxO) ρ := rfl
@[simp] theorem e_retO : retO a ρ = (exO a fun d ρ => .rt d ρ) ρ := rfl
@[simp] theorem e_ifO : ifO s f g ρ = (exO s fun b => if b = true then f else g) ρ := rfl
@[simp] theorem e_raiseO {c : Str} : raiseO c ρ = .exc c := rfl
@[simp] theorem e_asgO {g : GM} : asgO a g ρ = (exO a fun d ρ => match g d ρ with
  | .ok ρ' => .nx ρ'
  | .exc c => .bad
  | .bad => .bad) ρ := rfl
@[simp] theorem e_setS : setS i d ρ = if i < ρ.length then .ok (ρ.set i (.sh d)) else .bad := rfl
@[simp] theorem e_unT {gs : List PyData → Rho → R Rho} : unT gs (.tuple ds) ρ = gs ds ρ := rfl
@[simp] theorem e_gsN : gsN [] ρ = .ok ρ := rfl
@[simp] theorem e_gsC {g : GM} {gs : List PyData → Rho → R Rho} : gsC g gs (d :: ds) ρ = R.bind (g d ρ) fun ρ' => gs ds ρ' := rfl
@[simp] theorem e_Rbind {r : R α} {k : α → R β} : R.bind r k = match r with
  | .ok a => k a
  | .exc c => .exc c
  | .bad => .bad := rfl
@[simp] theorem e_par2 : par2 i j as ρ = (exO as fun ds ρ => match ds with
  | [x, y] => if i < ρ.length ∧ j < ρ.length then .nx ((ρ.set i (.sh x)).set j (.sh y)) else .bad
  | _ => .bad) ρ := rfl
@[simp] theorem e_forO {g : GM} : forO as g f ρ = (exO as fun ds => loopO g f ds) ρ := rfl
@[simp] theorem e_items_t : itemsD (.tuple ds) = some ds := rfl
@[simp] theorem e_items_l : itemsD (.list ds) = some ds := rfl
@[simp] theorem e_ix_t {k : Int} : gIx (.tuple ds) (.int k) = atD ds k := rfl
@[simp] theorem e_ix_l {k : Int} : gIx (.list ds) (.int k) = atD ds k := rfl
@[simp] theorem e_at {k : Nat} : atD ds ((k : Nat) : Int) = ds[k]? := by
  unfold atD; rw [if_pos (by omega)]; rfl
@[simp] theorem e_at0 : atD ds 0 = ds[0]? := e_at (k := 0)
@[simp] theorem e_at1 : atD ds 1 = ds[1]? := e_at (k := 1)
@[simp] theorem e_at2 : atD ds 2 = ds[2]? := e_at (k := 2)
@[simp] theorem e_len_t : gLen [.tuple ds] = some (.int ds.length) := rfl
@[simp] theorem e_len_l : gLen [.list ds] = some (.int ds.length) := rfl
@[simp] theorem e_tuple_l : gTuple [.list ds] = some (.tuple ds) := rfl
@[simp] theorem e_tuple_t : gTuple [.tuple ds] = some (.tuple ds) := rfl
@[simp] theorem e_le {k l : Int} : gLe (.int k) (.int l) = some (.bool (decide (k ≤ l))) := rfl
@[simp] theorem e_ge {k l : Int} : gGe (.int k) (.int l) = some (.bool (decide (l ≤ k))) := rfl
@[simp] theorem e_add {k l : Int} : gAdd (.int k) (.int l) = some (.int (k + l)) := rfl
@[simp] theorem e_sub {k l : Int} : gSub (.int k) (.int l) = some (.int (k - l)) := rfl
@[simp] theorem e_isNot {k l : Bool} : gIsNot (.bool k) (.bool l) = some (.bool (!decide (k = l))) := rfl
theorem e_mul {k l : Int} (h : -(2 ^ 64) < l ∧ l < 2 ^ 64) : gMul (.int k) (.int l) = some (.int (k * l)) := if_pos (.inl (.inr h))
theorem e_mod {k l : Int} (h : 0 < l) : gMod (.int k) (.int l) = some (.int (k % l)) := if_pos h
theorem e_div {k l : Int} (h : 0 < l ∧ l < 2 ^ 200) : gDiv (.int k) (.int l) = some (.int (k / l)) := if_pos h
@[simp] theorem e_LIM : LIM = 1000000 := rfl
@[simp] theorem e_tupD : gTupD ds = if ds.length ≤ LIM then some (.tuple ds) else none := rfl
@[simp] theorem e_lstD : gLstD ds = if ds.length ≤ LIM then some (.list ds) else none := rfl
theorem e_rg1 {n : Nat} (h : n ≤ 1000000) : rg1 [.int (n : Nat)] = some (rangeD 0 n) := by
  have h1 : -(2 ^ 62) ≤ ((n : Nat) : Int) ∧ ((n : Nat) : Int) < 2 ^ 62 := by omega
  simp only [rg1]
  rw [if_pos h1, Int.toNat_natCast]
@[simp] theorem e_wipe0 {ρ : Rho} : wipeR ρ [] = ρ := rfl
@[simp] theorem e_wipe {ρ : Rho} {v : Nat} {vs : List Nat} : wipeR ρ (v :: vs) = (wipeR ρ vs).set v .no := rfl
end
theorem rangeD_map (n : Nat) : rangeD 0 n = (List.range n).map fun i => PyData.int (i : Nat) := by
  unfold rangeD; congr; funext i; rw [Int.zero_add]
theorem resR_wipe {ρ ρ' : Rho} : ∀ {vs : List Nat}, wipeR ρ' vs = wipeR ρ vs → resR ρ ρ' vs = ρ := by
  intro vs h
  have hl : ρ'.length = ρ.length := by rw [← wipeR_len ρ' vs, h, wipeR_len]
  have len : ∀ ws, (resR ρ ρ' ws).length = ρ.length := by
    intro ws
    induction ws with
    | nil => exact hl
    | cons w ws ih => unfold resR; rw [List.length_set, ih]
  have get : ∀ ws i, i ∈ ws → i < ρ.length → (resR ρ ρ' ws)[i]? = ρ[i]? := by
    intro ws
    induction ws with
    | nil => intro i hi; cases hi
    | cons w ws ih =>
      intro i hi hlt
      unfold resR
      by_cases e : w = i
      · subst e
        rw [List.getElem?_set_self (by rw [len]; exact hlt), List.getD_eq_getElem?_getD, List.getElem?_eq_getElem hlt]
        rfl
      · rw [List.getElem?_set_ne e]
        rcases List.mem_cons.mp hi with z | z
        · exact absurd z.symm e
        · exact ih i z hlt
  have out : ∀ ws i, i ∉ ws → (resR ρ ρ' ws)[i]? = ρ'[i]? := by
    intro ws
    induction ws with
    | nil => intro i _; rfl
    | cons w ws ih =>
      intro i hi
      unfold resR
      rw [List.getElem?_set_ne (fun e => hi (by rw [e]; exact List.mem_cons_self ..))]
      exact ih i fun z => hi (List.mem_cons_of_mem _ z)
  apply List.ext_getElem?
  intro i
  by_cases hi : i ∈ vs
  · by_cases hlt : i < ρ.length
    · exact get vs i hi hlt
    · rw [List.getElem?_eq_none (by rw [len]; omega), List.getElem?_eq_none (by omega)]
  · rw [out vs i hi]
    have := congrArg (fun l => l[i]?) h
    simp only [wipeR_out hi] at this
    exact this
theorem lcLoop_map {α : Type} {vs : List Nat} {g : GM} {t : M Bool} {e : M PyData} {ρ : Rho} {enc out : α → PyData} {p : α → Bool} : ∀ {xs : List α}, (∀ x ∈ xs, ∃ ρ1, g (enc x) (wipeR ρ vs) = .ok ρ1 ∧ t ρ1 = .ok (p x, ρ1) ∧ (p x = true → e ρ1 = .ok (out x, ρ1)) ∧ wipeR ρ1 vs = wipeR ρ vs) →
    ∀ {ρc : Rho} {acc : List PyData}, wipeR ρc vs = wipeR ρ vs → xs.length + acc.length ≤ LIM → ∃ ρ', lcLoop vs g t e (xs.map enc) ρc acc = .ok (acc ++ (xs.filter p).map out, ρ') ∧ wipeR ρ' vs = wipeR ρ vs
  | [], _, ρc, acc, h, _ => ⟨ρc, by simp [lcLoop], h⟩
  | x :: xs, hs, ρc, acc, h, hl => by
    obtain ⟨ρ1, h1, h2, h3, h4⟩ := hs x (List.mem_cons_self ..)
    have hr : ∀ y ∈ xs, _ := fun y hy => hs y (List.mem_cons_of_mem _ hy)
    simp only [List.length_cons] at hl
    cases hp : p x with
    | false =>
      obtain ⟨ρ', k1, k2⟩ := lcLoop_map hr (ρc := ρ1) (acc := acc) h4 (by omega)
      refine ⟨ρ', ?_, k2⟩
      rw [List.map_cons, List.filter_cons, hp]
      unfold lcLoop
      rw [h, h1]
      simp only [h2, hp]
      exact k1
    | true =>
      obtain ⟨ρ', k1, k2⟩ := lcLoop_map hr (ρc := ρ1) (acc := acc ++ [out x]) h4 (by rw [List.length_append]; simp only [List.length_cons, List.length_nil]; omega)
      refine ⟨ρ', ?_, k2⟩
      rw [List.map_cons, List.filter_cons, hp]
      unfold lcLoop
      rw [h, h1]
      simp only [h2, hp, h3 hp]
      rw [if_pos (by omega), k1]
      simp
theorem lc_filt {α : Type} {vs : List Nat} {a : M (List PyData)} {g : GM} {t : M Bool} {e : M PyData} {ρ : Rho} (xs : List α) (enc out : α → PyData) (p : α → Bool) (ha : a ρ = .ok (xs.map enc, ρ)) (ho : (vs.any fun i => isOw ρ[i]?) = false) (hl : xs.length ≤ LIM)
    (hs : ∀ x ∈ xs, ∃ ρ1, g (enc x) (wipeR ρ vs) = .ok ρ1 ∧ t ρ1 = .ok (p x, ρ1) ∧ (p x = true → e ρ1 = .ok (out x, ρ1)) ∧ wipeR ρ1 vs = wipeR ρ vs) : lcM vs a g t e ρ = .ok (.list ((xs.filter p).map out), ρ) := by
  obtain ⟨ρ', k1, k2⟩ := lcLoop_map hs (acc := []) rfl (by simpa using hl)
  unfold lcM M.bind
  simp only [ha, ho, k1]
  rw [if_neg Bool.false_ne_true, resR_wipe k2]
  rfl
theorem lc_map {α : Type} {vs : List Nat} {a : M (List PyData)} {g : GM} {e : M PyData} {ρ : Rho} (xs : List α) (enc out : α → PyData) (ha : a ρ = .ok (xs.map enc, ρ)) (ho : (vs.any fun i => isOw ρ[i]?) = false) (hl : xs.length ≤ LIM)
    (hs : ∀ x ∈ xs, ∃ ρ1, g (enc x) (wipeR ρ vs) = .ok ρ1 ∧ e ρ1 = .ok (out x, ρ1) ∧ wipeR ρ1 vs = wipeR ρ vs) : lcM vs a g yesT e ρ = .ok (.list (xs.map out), ρ) := by
  have := lc_filt (vs := vs) (t := yesT) (e := e) xs enc out (fun _ => true) ha ho hl fun x hx => by
    obtain ⟨ρ1, h1, h2, h3⟩ := hs x hx
    exact ⟨ρ1, h1, rfl, fun _ => h2, h3⟩
  rw [this, List.filter_eq_self.mpr fun _ _ => rfl]
theorem loop_inv {g : GM} {fb : SM} (I : Nat → Rho → Prop) {ds : List PyData} (h : ∀ (i : Nat) (d : PyData) (ρ : Rho), ds[i]? = some d → I i ρ → ∃ ρ1 ρ2, g d ρ = .ok ρ1 ∧ fb ρ1 = .nx ρ2 ∧ I (i + 1) ρ2) {ρ : Rho} (h0 : I 0 ρ) : ∃ ρ', loopO g fb ds ρ = .nx ρ' ∧ I ds.length ρ' := by
  induction ds generalizing I ρ with
  | nil => exact ⟨ρ, rfl, h0⟩
  | cons d ds ih =>
    obtain ⟨ρ1, ρ2, h1, h2, h3⟩ := h 0 d ρ rfl h0
    obtain ⟨ρ', k1, k2⟩ := ih (fun i => I (i + 1)) (fun i d ρ hd hi => h (i + 1) d ρ hd hi) h3
    refine ⟨ρ', ?_, k2⟩
    unfold loopO
    rw [h1]
    simp only [h2]
    exact k1
theorem bools_map {α : Type} (p : α → Bool) : ∀ xs : List α, boolsD (xs.map fun x => .bool (p x)) = some (xs.map p)
  | [] => rfl
  | x :: xs => by rw [List.map_cons, boolsD, bools_map p xs]; rfl
theorem all_map {α : Type} (p : α → Bool) (xs : List α) : gAll [.list (xs.map fun x => .bool (p x))] = some (.bool (xs.all p)) := by
  show (boolsD _).map _ = _
  rw [bools_map]
  show some (PyData.bool ((xs.map p).all id)) = _
  rw [List.all_map]; rfl
theorem is_whole_int (a lo hi : Int) : m_is_whole [.int a, .int lo, .int hi] = .ok (.bool (decide (lo ≤ a) && decide (a ≤ hi))) := by
  by_cases h : lo ≤ a <;> simp [m_is_whole, b_is_whole, fnRun, start0, isD, h]
theorem are_lines_ints (ns : List Int) (k many : Int) (hl : ns.length ≤ LIM) : m_are_lines [.tuple (ns.map .int), .int k, .int many] = .ok (.bool (decide ((ns.length : Int) = k) && ns.all fun n => decide (0 ≤ n) && decide (n ≤ many - 1))) := by
  by_cases h : (ns.length : Int) = k
  · simp [m_are_lines, b_are_lines, fnRun, start0, isD, h]
    rw [lc_map ns .int (fun n => .bool (decide (0 ≤ n) && decide (n ≤ many - 1)))]
    · simp [all_map]
    · simp
    · rfl
    · exact hl
    · intro n hn
      exact ⟨_, rfl, by simp [is_whole_int], rfl⟩
  · simp [m_are_lines, b_are_lines, fnRun, start0, isD, h]
end G
set_option Elab.async false
set_option linter.all false
set_option maxRecDepth 100000
set_option maxHeartbeats 1000000
namespace G
open PySem DL
local instance : DL.TabCtx := ⟨[]⟩
theorem cut_from (ds : List PyData) (k : Nat) : cutD ds (some (k : Int)) none = ds.drop k := by
  unfold cutD
  rw [HT.sIx_nat, HT.sIx_none]
  by_cases h : k ≤ ds.length
  · rw [Nat.min_eq_left h, List.take_of_length_le (by simp)]
  · rw [Nat.min_eq_right (by omega), Nat.sub_self, List.take_zero, List.drop_eq_nil_of_le (by omega)]
theorem cut_to (ds : List PyData) (k : Nat) : cutD ds none (some (k : Int)) = ds.take k := by
  unfold cutD
  rw [HT.sIx_nat, HT.sIx_none, Nat.sub_zero, List.drop_zero]
  by_cases h : k ≤ ds.length
  · rw [Nat.min_eq_left h]
  · rw [Nat.min_eq_right (by omega), List.take_of_length_le (by omega), List.take_of_length_le (by omega)]
@[simp] theorem cut_from1 (ds : List PyData) : cutD ds (some 1) none = ds.drop 1 := cut_from ds 1
@[simp] theorem cut_to1 (ds : List PyData) : cutD ds none (some 1) = ds.take 1 := cut_to ds 1
@[simp] theorem e_cut_t {lo hi : Option Int} {ds : List PyData} : gCut lo hi (.tuple ds) = some (.tuple (cutD ds lo hi)) := rfl
@[simp] theorem e_cut_l {lo hi : Option Int} {ds : List PyData} : gCut lo hi (.list ds) = some (.list (cutD ds lo hi)) := rfl
theorem any_eqv {j k : Nat} {x : PyData} (hx : P j x) {ds : List PyData} (hd : ∀ y ∈ ds, P k y) (p : Prop) [Decidable p] (hp : x ∈ ds ↔ p) : (ds.any fun z => PyData.eqv z x) = decide p := by
  rw [Bool.eq_iff_iff, List.any_eq_true, decide_eq_true_iff, ← hp]
  constructor
  · rintro ⟨y, hy, he⟩
    rw [((hd y hy).eqv hx).mp he] at hy
    exact hy
  · exact fun h => ⟨x, h, (hx.eqv hx).mpr rfl⟩
theorem gIn_P {j k : Nat} {x : PyData} (hx : P j x) {ds : List PyData} (hd : ∀ y ∈ ds, P k y) (p : Prop) [Decidable p] (hp : x ∈ ds ↔ p) (hj : j ≤ 64 := by decide) (hk : k + 1 ≤ 64 := by decide) : gIn x (.list ds) = some (.bool (decide p)) := by
  have : gIn x (.list ds) = if (SeqAt.shaped x && SeqAt.shaped (.list ds)) = true then some (.bool (ds.any fun z => PyData.eqv z x)) else none := by cases x <;> rfl
  rw [this, hx.shaped hj, (P.list hd).shaped hk, any_eqv hx hd p hp]
  rfl
theorem gNotIn_P {j k : Nat} {x : PyData} (hx : P j x) {ds : List PyData} (hd : ∀ y ∈ ds, P k y) (p : Prop) [Decidable p] (hp : x ∈ ds ↔ p) (hj : j ≤ 64 := by decide) (hk : k + 1 ≤ 64 := by decide) : gNotIn x (.list ds) = some (.bool (!decide p)) := by
  have : gNotIn x (.list ds) = if (SeqAt.shaped x && SeqAt.shaped (.list ds)) = true then some (.bool (!ds.any fun z => PyData.eqv z x)) else none := by cases x <;> rfl
  rw [this, hx.shaped hj, (P.list hd).shaped hk, any_eqv hx hd p hp]
  rfl
theorem lcLoop2_map {α β : Type} {vs vs1 : List Nat} {g g1 : GM} {fi1 : M (List PyData)} {e : M PyData} {ρ : Rho} {enc : α → PyData} {ys : α → List β} {enc1 : β → PyData} {out : α → β → PyData} (hsub : ∀ i ∈ vs1, i ∈ vs) : ∀ {xs : List α}, (∀ x ∈ xs, ∃ ρ1, g (enc x) (wipeR ρ vs) = .ok ρ1 ∧ wipeR ρ1 vs = wipeR ρ vs ∧ fi1 ρ1 = .ok ((ys x).map enc1, ρ1) ∧
      ∀ y ∈ ys x, ∃ ρ2, g1 (enc1 y) (wipeR ρ1 vs1) = .ok ρ2 ∧ e ρ2 = .ok (out x y, ρ2) ∧ wipeR ρ2 vs1 = wipeR ρ1 vs1) →
    ∀ {ρc : Rho} {acc : List PyData}, wipeR ρc vs = wipeR ρ vs → (xs.flatMap ys).length + acc.length ≤ LIM → ∃ ρ', lcLoop2 vs vs1 g yesT fi1 g1 yesT e (xs.map enc) ρc acc = .ok (acc ++ xs.flatMap (fun x => (ys x).map (out x)), ρ') ∧ wipeR ρ' vs = wipeR ρ vs
  | [], _, ρc, acc, h, _ => ⟨ρc, by simp [lcLoop2], h⟩
  | x :: xs, hs, ρc, acc, h, hl => by
    obtain ⟨ρ1, h1, h2, h3, h4⟩ := hs x (List.mem_cons_self ..)
    have hr : ∀ y ∈ xs, _ := fun y hy => hs y (List.mem_cons_of_mem _ hy)
    simp only [List.flatMap_cons, List.length_append] at hl
    obtain ⟨ρ3, k1, k2⟩ := lcLoop_map (vs := vs1) (g := g1) (t := yesT) (e := e) (ρ := ρ1) (enc := enc1) (out := out x) (p := fun _ => true) (xs := ys x) (fun y hy => by
      obtain ⟨ρ2, a1, a2, a3⟩ := h4 y hy
      exact ⟨ρ2, a1, rfl, fun _ => a2, a3⟩) (ρc := ρ1) (acc := acc) rfl (by omega)
    have k3 : wipeR ρ3 vs = wipeR ρ vs := by rw [← wipeR_sub ρ3 hsub, k2, wipeR_sub ρ1 hsub, h2]
    rw [List.filter_eq_self.mpr fun _ _ => rfl] at k1
    obtain ⟨ρ', l1, l2⟩ := lcLoop2_map hsub hr (ρc := ρ3) (acc := acc ++ (ys x).map (out x)) k3 (by rw [List.length_append, List.length_map]; omega)
    refine ⟨ρ', ?_, l2⟩
    rw [List.map_cons]
    unfold lcLoop2
    rw [h, h1]
    simp only [e_yes, h3, k1]
    rw [l1]
    simp
theorem lc2_map {α β : Type} {vs vs1 : List Nat} {a : M (List PyData)} {g g1 : GM} {fi1 : M (List PyData)} {e : M PyData} {ρ : Rho} (xs : List α) (enc : α → PyData) (ys : α → List β) (enc1 : β → PyData) (out : α → β → PyData) (ha : a ρ = .ok (xs.map enc, ρ)) (ho : (vs.any fun i => isOw ρ[i]?) = false) (hl : (xs.flatMap ys).length ≤ LIM) (hsub : ∀ i ∈ vs1, i ∈ vs)
    (hs : ∀ x ∈ xs, ∃ ρ1, g (enc x) (wipeR ρ vs) = .ok ρ1 ∧ wipeR ρ1 vs = wipeR ρ vs ∧ fi1 ρ1 = .ok ((ys x).map enc1, ρ1) ∧
      ∀ y ∈ ys x, ∃ ρ2, g1 (enc1 y) (wipeR ρ1 vs1) = .ok ρ2 ∧ e ρ2 = .ok (out x y, ρ2) ∧ wipeR ρ2 vs1 = wipeR ρ1 vs1) : lcM2 vs vs1 a g yesT fi1 g1 yesT e ρ = .ok (.list (xs.flatMap fun x => (ys x).map (out x)), ρ) := by
  obtain ⟨ρ', k1, k2⟩ := lcLoop2_map hsub hs (acc := []) rfl (by simpa using hl)
  unfold lcM2 M.bind
  simp only [ha, ho, k1]
  rw [if_neg Bool.false_ne_true, resR_wipe k2]
  rfl
structure Sg where
  name : Str
  ears : List (Str × Int)
  tab : List Int
deriving DecidableEq
def Sg.d (s : Sg) : PyData := .tuple [.str s.name, .tuple (s.ears.map siD), .tuple (s.tab.map .int)]
def chD (many : Int) (ss : List Sg) : PyData := .tuple [.int many, .tuple (ss.map Sg.d)]
def Wd (s : Str) : Prop := m_is_word [.str s] = .ok (.bool true) ∧ (PyData.str s).canLay0 = true
theorem wd_ann : Wd "ann" := ⟨rfl, by decide +kernel⟩
theorem wd_bob : Wd "bob" := ⟨rfl, by decide +kernel⟩
theorem wd_cy : Wd "cy" := ⟨rfl, by decide +kernel⟩
def rising {α : Type} (lt : α → α → Bool) (xs : List α) : Bool := (xs.zip xs.tail).all fun p => lt p.1 p.2
structure GSg (many : Int) (names : List Str) (s : Sg) : Prop where
  word : Wd s.name
  elen : s.ears.length ≤ 2
  ear : ∀ e ∈ s.ears, Wd e.1 ∧ e.1 ∈ names ∧ 1 ≤ e.2 ∧ e.2 ≤ 3
  rise : rising SrtQ.lexS s.ears = true
  tlen : (s.tab.length : Int) = many ^ s.ears.length
  tab : ∀ t ∈ s.tab, 0 ≤ t ∧ t < many
structure Good (many : Int) (ss : List Sg) : Prop where
  m2 : 2 ≤ many
  m4 : many ≤ 4
  l1 : 1 ≤ ss.length
  l4 : ss.length ≤ 4
  sg : ∀ s ∈ ss, GSg many (ss.map (·.name)) s
  rise : rising SrtQ.ltS (ss.map (·.name)) = true
theorem siD_inj {a b : Str × Int} : siD a = siD b ↔ a = b := by
  unfold siD; constructor
  · intro h; injection h with h; injection h with h1 h2; injection h1 with h1; injection h2 with h2 _; injection h2 with h2; exact Prod.ext h1 h2
  · rintro rfl; rfl
theorem P_ints {k : Nat} (ns : List Int) : ∀ x ∈ ns.map PyData.int, P k x := fun x hx => by
  obtain ⟨n, _, rfl⟩ := List.mem_map.mp hx; exact .int n
theorem P_ear {k : Nat} {e : Str × Int} (h : Wd e.1) : P (k + 1) (siD e) := .tuple fun x hx => by
  simp at hx; rcases hx with rfl | rfl
  · exact .str h.2
  · exact .int _
theorem P_sg {k : Nat} {s : Sg} (h : Wd s.name) (he : ∀ e ∈ s.ears, Wd e.1) : P (k + 3) s.d := .tuple fun x hx => by
  simp at hx; rcases hx with rfl | rfl | rfl
  · exact .str h.2
  · exact .tuple fun x hx => by obtain ⟨e, h1, rfl⟩ := List.mem_map.mp hx; exact P_ear (he e h1)
  · exact .tuple (P_ints _)
theorem P_ch {k : Nat} {m : Int} {ss : List Sg} (h : ∀ s ∈ ss, Wd s.name ∧ ∀ e ∈ s.ears, Wd e.1) : P (k + 5) (chD m ss) := .tuple fun x hx => by
  simp at hx; rcases hx with rfl | rfl
  · exact .int _
  · exact .tuple fun x hx => by obtain ⟨s, h1, rfl⟩ := List.mem_map.mp hx; exact P_sg (h s h1).1 (h s h1).2
theorem GSg.p {k : Nat} {many : Int} {names : List Str} {s : Sg} (h : GSg many names s) : P (k + 3) s.d := P_sg h.word fun e he => (h.ear e he).1
theorem Good.p {k : Nat} {many : Int} {ss : List Sg} (h : Good many ss) : P (k + 5) (chD many ss) := P_ch fun s hs => ⟨(h.sg s hs).word, fun e he => ((h.sg s hs).ear e he).1⟩
theorem zipD_map {α : Type} (enc : α → PyData) (xs ys : List α) : zipD (xs.map enc) (ys.map enc) = (xs.zip ys).map fun p => .tuple [enc p.1, enc p.2] := by
  unfold zipD
  rw [List.zip_map, List.map_map]; rfl
theorem rise_l {α : Type} (enc : α → PyData) (lt : α → α → Bool) (h : ∀ a b, gLt (enc a) (enc b) = some (.bool (lt a b))) (xs : List α) (hl : xs.length ≤ LIM) : m_rise [.list (xs.map enc)] = .ok (.bool (rising lt xs)) := by
  simp [m_rise, b_rise, fnRun, start0]
  rw [lc_map (xs.zip xs.tail) (fun p => .tuple [enc p.1, enc p.2]) (fun p => .bool (lt p.1 p.2))]
  · simp [all_map, rising]
  · simp [gZip]; rw [← List.map_tail, zipD_map]
  · rfl
  · rw [List.length_zip]; exact Nat.le_trans (Nat.min_le_left _ _) hl
  · intro p _
    exact ⟨_, rfl, by simp [h], rfl⟩
theorem rise_t {α : Type} (enc : α → PyData) (lt : α → α → Bool) (h : ∀ a b, gLt (enc a) (enc b) = some (.bool (lt a b))) (xs : List α) (hl : xs.length ≤ LIM) : m_rise [.tuple (xs.map enc)] = .ok (.bool (rising lt xs)) := by
  simp [m_rise, b_rise, fnRun, start0]
  rw [lc_map (xs.zip xs.tail) (fun p => .tuple [enc p.1, enc p.2]) (fun p => .bool (lt p.1 p.2))]
  · simp [all_map, rising]
  · simp [gZip]; rw [← List.map_tail, zipD_map]
  · rfl
  · rw [List.length_zip]; exact Nat.le_trans (Nat.min_le_left _ _) hl
  · intro p _
    exact ⟨_, rfl, by simp [h], rfl⟩
theorem lt_str (a b : Str) : gLt (.str a) (.str b) = some (.bool (SrtQ.ltS a b)) := rfl
theorem lt_ear (a b : Str × Int) : gLt (siD a) (siD b) = some (.bool (SrtQ.lexS a b)) := by
  unfold siD SrtQ.lexS
  simp only [gLt, lexD, flatLt, Option.bind_some, Option.map_some, PyData.eqv, beq_iff_eq]
  congr 2
  by_cases h : a.1 = b.1
  · simp [h]
    intro h2; omega
  · simp [h]
theorem is_ear_ok {e : Str × Int} (h : Wd e.1) (h1 : 1 ≤ e.2) (h3 : e.2 ≤ 3) : m_is_ear [siD e] = .ok (.bool true) := by
  simp [m_is_ear, b_is_ear, fnRun, start0, isD, siD, h.1, is_whole_int, h1, h3]
theorem are_ears_ok {es : List (Str × Int)} (hl : es.length ≤ 2) (he : ∀ e ∈ es, Wd e.1 ∧ 1 ≤ e.2 ∧ e.2 ≤ 3) (hr : rising SrtQ.lexS es = true) : m_are_ears [.tuple (es.map siD)] = .ok (.bool true) := by
  have h2 : (es.length : Int) ≤ 2 := by omega
  simp [m_are_ears, b_are_ears, fnRun, start0, isD, h2]
  rw [lc_map es siD (fun _ => .bool true)]
  · simp [all_map, rise_t siD SrtQ.lexS lt_ear es (by rw [e_LIM]; omega), hr]
  · simp
  · rfl
  · rw [e_LIM]; omega
  · intro e h
    obtain ⟨a, b, c⟩ := he e h
    exact ⟨_, rfl, by simp [is_ear_ok a b c], rfl⟩
theorem places_ok {many : Int} {ds : List PyData} (h2 : 2 ≤ many) (h4 : many ≤ 4) (hl : ds.length ≤ 2) : m_places_for [.int many, .tuple ds] = .ok (.int (many ^ ds.length)) := by
  have hm : gMul (.int many) (.int many) = some (.int (many * many)) := e_mul (by omega)
  match hd : ds.length, hl with
  | 0, _ => simp [m_places_for, b_places_for, fnRun, start0, hm, hd]
  | 1, _ => simp [m_places_for, b_places_for, fnRun, start0, hm, hd, Int.pow_succ]
  | 2, _ => simp [m_places_for, b_places_for, fnRun, start0, hm, hd, Int.pow_succ]
theorem pow_le {many : Int} (h2 : 2 ≤ many) (h4 : many ≤ 4) {n : Nat} (hn : n ≤ 2) : 1 ≤ many ^ n ∧ many ^ n ≤ 16 := by
  have : many = 2 ∨ many = 3 ∨ many = 4 := by omega
  have h : n = 0 ∨ n = 1 ∨ n = 2 := by omega
  rcases this with rfl | rfl | rfl <;> rcases h with rfl | rfl | rfl <;> decide
theorem is_singer_ok {many : Int} {names : List Str} {s : Sg} (h2 : 2 ≤ many) (h4 : many ≤ 4) (h : GSg many names s) : m_is_singer [s.d, .int many] = .ok (.bool true) := by
  have h1 := are_ears_ok h.elen (fun e he => ⟨(h.ear e he).1, (h.ear e he).2.2⟩) h.rise
  have h3 := places_ok (ds := s.ears.map siD) h2 h4 (by rw [List.length_map]; exact h.elen)
  have hw := h.word.1
  have hl : s.tab.length ≤ LIM := by
    have := h.tlen; have := (pow_le h2 h4 h.elen).2; rw [e_LIM]; omega
  have h5 := are_lines_ints s.tab (many ^ s.ears.length) many hl
  have h6 : (s.tab.all fun n => decide (0 ≤ n) && decide (n ≤ many - 1)) = true := by
    rw [List.all_eq_true]; intro t ht
    have := h.tab t ht
    rw [decide_eq_true this.1, decide_eq_true (by omega)]; rfl
  rw [h6, h.tlen, decide_eq_true rfl] at h5
  rw [List.length_map] at h3
  simp [m_is_singer, b_is_singer, fnRun, start0, isD, Sg.d, hw, h1, h3, h5]
theorem is_choir_ok {many : Int} {ss : List Sg} (h : Good many ss) : m_is_choir [chD many ss] = .ok (.bool true) := by
  have h2 := h.m2
  have h4 := h.m4
  have h1 := h.l1
  have hl4 := h.l4
  have hl : ss.length ≤ LIM := by rw [e_LIM]; omega
  have a1 : (1 : Int) ≤ ss.length := by omega
  have a2 : (ss.length : Int) ≤ 4 := by omega
  have hr := rise_l PyData.str SrtQ.ltS lt_str (ss.map (·.name)) (by rw [List.length_map]; exact hl)
  rw [List.map_map, h.rise] at hr
  have hr : m_rise [.list (ss.map fun s => .str s.name)] = .ok (.bool true) := hr
  simp [m_is_choir, b_is_choir, fnRun, start0, isD, chD, is_whole_int, h2, h4, a1, a2]
  rw [lc_map ss Sg.d (fun _ => .bool true)]
  rotate_left
  · simp
  · rfl
  · exact hl
  · exact fun s hs => ⟨_, rfl, by simp [is_singer_ok h2 h4 (h.sg s hs)], rfl⟩
  simp [all_map]
  rw [lc_map ss Sg.d (fun s => .str s.name)]
  rotate_left
  · simp
  · rfl
  · exact hl
  · exact fun s hs => ⟨_, rfl, by simp [Sg.d], rfl⟩
  simp [hr]
  rw [lc_map ss Sg.d (fun s => .str s.name)]
  rotate_left
  · simp
  · rfl
  · exact hl
  · exact fun s hs => ⟨_, rfl, by simp [Sg.d], rfl⟩
  simp
  rw [lc2_map ss Sg.d (fun s => s.ears) siD (fun _ _ => .bool true)]
  · have : (ss.flatMap fun x => x.ears.map fun _ => PyData.bool true) = (ss.flatMap fun x => x.ears).map fun _ => PyData.bool true := by rw [List.map_flatMap]
    rw [this]
    simp [all_map]
  · simp
  · rfl
  · have : ∀ xs : List Sg, (∀ s ∈ xs, s.ears.length ≤ 2) → (xs.flatMap fun s => s.ears).length ≤ 2 * xs.length := by
      intro xs
      induction xs with
      | nil => intro _; simp
      | cons x xs ih =>
        intro hh
        have b1 := hh x (List.mem_cons_self ..)
        have b2 := ih fun y hy => hh y (List.mem_cons_of_mem _ hy)
        simp only [List.flatMap_cons, List.length_append, List.length_cons]
        omega
    have := this ss fun s hs => (h.sg s hs).elen
    rw [e_LIM]; omega
  · decide
  · intro s hs
    refine ⟨_, rfl, rfl, by simp [Sg.d], fun e he => ⟨_, rfl, ?_, rfl⟩⟩
    obtain ⟨b1, b2, _⟩ := (h.sg s hs).ear e he
    have := gIn_P (j := 0) (k := 0) (x := .str e.1) (ds := ss.map fun s => .str s.name) (.str b1.2) (fun y hy => by obtain ⟨s, h1, rfl⟩ := List.mem_map.mp hy; exact .str (h.sg s h1).word.2) True (by
      simp only [iff_true]
      obtain ⟨s, h1, h2⟩ := List.mem_map.mp b2
      exact List.mem_map.mpr ⟨s, h1, by rw [h2]⟩)
    simp [siD, this]
theorem need_choir_ok {many : Int} {ss : List Sg} (h : Good many ss) : m_need_choir [chD many ss] = .ok .none := by
  simp [m_need_choir, b_need_choir, fnRun, start0, is_choir_ok h]
theorem all_names_ok {many : Int} {ss : List Sg} (hl : ss.length ≤ LIM) : m_all_names [chD many ss] = .ok (.list (ss.map fun s => .str s.name)) := by
  simp [m_all_names, b_all_names, fnRun, start0, chD]
  rw [lc_map ss Sg.d (fun s => .str s.name)]
  · simp
  · rfl
  · exact hl
  · exact fun s hs => ⟨_, rfl, by simp [Sg.d], rfl⟩
end G
set_option Elab.async false
set_option linter.all false
set_option maxRecDepth 100000
set_option maxHeartbeats 1000000
namespace G
open PySem DL
local instance : DL.TabCtx := ⟨[]⟩
section
variable {ρ : Rho} {d x y z : PyData} {ds : List PyData} {i j : Nat} {a b c : M PyData} {t : M Bool} {as : M (List PyData)} {f g : SM}
@[simp] theorem e_ownO : ownO i as ρ = (exO as fun ds ρ => if ds.length ≤ LIM then .nx (ρ.set i (.ow (.list ds))) else .bad) ρ := rfl
@[simp] theorem e_appO : appO i a ρ = match ρ[i]? with
  | some (.ow (.list _)) => exO a (fun d ρ => match ρ[i]? with
    | some (.ow (.list ds)) => if ds.length < LIM then .nx (ρ.set i (.ow (.list (ds ++ [d])))) else .bad
    | _ => .bad) ρ
  | _ => .bad := rfl
@[simp] theorem e_isOw {d : PyData} : isOw (some (.ow d)) = true := rfl
@[simp] theorem e_isOwn1 {d : PyData} : isOwn1 (some (.ow d)) = true := rfl
@[simp] theorem e_ixO : ixO i a ρ = if isOwn1 ρ[i]? = true then ixI i a ρ else .bad := rfl
def ixK (i : Nat) (k : PyData) : M PyData := fun ρ => match ρ[i]?, k with
  | some (.ow (.list ds)), .int j => (match atD ds j with
    | some z => .ok (z, ρ)
    | none => .bad)
  | _, _ => .bad
@[simp] theorem e_ixI : ixI i a ρ = (M.bind a (ixK i)) ρ := rfl
@[simp] theorem e_ixK {k : Int} (h : ρ[i]? = some (.ow (.list ds))) : ixK i (.int k) ρ = match atD ds k with
    | some z => .ok (z, ρ)
    | none => .bad := by unfold ixK; rw [h]
@[simp] theorem e_sixO : sixO i b a ρ = (exO a fun d ρ => if isOwn1 ρ[i]? = true then exO b (fun j ρ => match ρ[i]?, j with
  | some (.ow (.list ds)), .int j => (match L2.ixN ds.length j with
    | some n => .nx (ρ.set i (.ow (.list (ds.set n d))))
    | none => .bad)
  | _, _ => .bad) ρ else .bad) ρ := rfl
@[simp] theorem e_callL {m : PyData → List PyData → R (PyData × PyData)} : callL i m as ρ = if isOwn1 ρ[i]? = true then callI i m as ρ else .bad := rfl
def callK (i : Nat) (m : PyData → List PyData → R (PyData × PyData)) (ds : List PyData) : M PyData := fun ρ => match ρ[i]? with
  | some (.ow dd) => (match m dd ds with
    | .ok (d, dd') => .ok (d, ρ.set i (.ow dd'))
    | .exc c => .exc c
    | .bad => .bad)
  | _ => .bad
@[simp] theorem e_callI {m : PyData → List PyData → R (PyData × PyData)} : callI i m as ρ = (M.bind as (callK i m)) ρ := rfl
@[simp] theorem e_callK {m : PyData → List PyData → R (PyData × PyData)} : callK i m ds ρ = match ρ[i]? with
  | some (.ow dd) => (match m dd ds with
    | .ok (d, dd') => .ok (d, ρ.set i (.ow dd'))
    | .exc c => .exc c
    | .bad => .bad)
  | _ => .bad := rfl
@[simp] theorem e_demR1 {s : Sl} : demR true (s :: ρ) = s :: ρ.map demSl := rfl
@[simp] theorem e_demR0 : demR false ρ = ρ.map demSl := rfl
@[simp] theorem e_demOw : demSl (.ow d) = .sh d := rfl
@[simp] theorem e_demSh : demSl (.sh d) = .sh d := rfl
@[simp] theorem e_demNo : demSl .no = .no := rfl
@[simp] theorem e_back1 {s s' : Sl} {ρ' : Rho} : backR true (s :: ρ) (s' :: ρ') = if immSl s' = true then some (s' :: ρ) else none := rfl
@[simp] theorem e_back0 {ρ' : Rho} : backR false ρ ρ' = some ρ := rfl
@[simp] theorem e_brw {b : Bool} : brw b a ρ = match a (demR b ρ) with
  | .ok (d, ρ') => if imm d = true then (match backR b ρ ρ' with
    | some ρ'' => .ok (d, ρ'')
    | none => .bad) else .bad
  | .exc c => .exc c
  | .bad => .bad := rfl
@[simp] theorem e_brwT {b : Bool} : brwT b t ρ = match t (demR b ρ) with
  | .ok (d, ρ') => (match backR b ρ ρ' with
    | some ρ'' => .ok (d, ρ'')
    | none => .bad)
  | .exc c => .exc c
  | .bad => .bad := rfl
@[simp] theorem e_demO {b : Bool} : demO b f ρ = f (demR b ρ) := rfl
end
def dcD (s : Int × Int) : PyData := .list [.int s.1, .int s.2]
@[simp] theorem imm_dc (s : Int × Int) : immSl (.ow (dcD s)) = true := rfl
theorem drawn_ok (c k : Int) : ∃ v : Int, m_law_drawn [.int c, .int k] = .ok (.int v) := by
  have p1 : ∀ x : Int, gMul (.int x) (.int 6364136223846793005) = some (.int (x * 6364136223846793005)) := fun x => e_mul (by decide)
  have p2 : ∀ x : Int, gMul (.int x) (.int 1442695040888963407) = some (.int (x * 1442695040888963407)) := fun x => e_mul (by decide)
  have p3 : ∀ x : Int, gMod (.int x) (.int 340282366920938463463374607431768211507) = some (.int (x % 340282366920938463463374607431768211507)) := fun x => e_mod (by decide)
  have p4 : ∀ x : Int, gMod (.int x) (.int 340282366920938463463374607431768211297) = some (.int (x % 340282366920938463463374607431768211297)) := fun x => e_mod (by decide)
  have p5 : ∀ x : Int, gMod (.int x) (.int 18446744073709551557) = some (.int (x % 18446744073709551557)) := fun x => e_mod (by decide)
  have p6 : ∀ x : Int, gDiv (.int x) (.int 18446744073709551557) = some (.int (x / 18446744073709551557)) := fun x => e_div (by decide)
  have lt : ∀ {x : Int} {n : Nat}, 0 ≤ x → x < 2 ^ n → n ≤ 2000 → x.natAbs < 2 ^ 2000 := fun {x n} h0 h1 h2 => by
    have : x.natAbs < 2 ^ n := by
      have e : ((x.natAbs : Nat) : Int) = x := Int.natAbs_of_nonneg h0
      have : ((x.natAbs : Nat) : Int) < ((2 ^ n : Nat) : Int) := by rw [e]; push_cast; exact h1
      exact Int.ofNat_lt.mp this
    exact Nat.lt_of_lt_of_le this (Nat.pow_le_pow_right (by decide) h2)
  have mul : ∀ {x y : Int}, x.natAbs < 2 ^ 2000 → y.natAbs < 2 ^ 2000 → gMul (.int x) (.int y) = some (.int (x * y)) := fun h1 h2 => if_pos (.inr ⟨h1, h2⟩)
  generalize ha : (c * 6364136223846793005 + (k + 1) * 1442695040888963407) % 340282366920938463463374607431768211507 = a
  have a0 : 0 ≤ a := by rw [← ha]; exact Int.emod_nonneg _ (by decide)
  have a1 : a < 2 ^ 130 := Int.lt_trans (by rw [← ha]; exact Int.emod_lt_of_pos _ (by decide)) (by decide : (340282366920938463463374607431768211507 : Int) < 2 ^ 130)
  have q1 : gMul (.int a) (.int a) = some (.int (a * a)) := mul (lt a0 a1 (by decide)) (lt a0 a1 (by decide))
  generalize hb : a * a % 340282366920938463463374607431768211297 = b
  have b0 : 0 ≤ b := by rw [← hb]; exact Int.emod_nonneg _ (by decide)
  have b1 : b < 2 ^ 130 := Int.lt_trans (by rw [← hb]; exact Int.emod_lt_of_pos _ (by decide)) (by decide : (340282366920938463463374607431768211297 : Int) < 2 ^ 130)
  have c0 : 0 ≤ b % 18446744073709551557 + 1 := by have := Int.emod_nonneg b (by decide : (18446744073709551557 : Int) ≠ 0); omega
  have c1 : b % 18446744073709551557 + 1 < 2 ^ 130 := by have := Int.emod_lt_of_pos b (by decide : (0 : Int) < 18446744073709551557); omega
  have d0 : 0 ≤ b / 18446744073709551557 + 1 := by omega
  have d1 : b / 18446744073709551557 + 1 < 2 ^ 131 := by omega
  have q2 : gMul (.int (b % 18446744073709551557 + 1)) (.int (b / 18446744073709551557 + 1)) = some (.int ((b % 18446744073709551557 + 1) * (b / 18446744073709551557 + 1))) := mul (lt c0 c1 (by decide)) (lt d0 d1 (by decide))
  have q3 : gMul (.int ((b % 18446744073709551557 + 1) * (b / 18446744073709551557 + 1))) (.int b) = some (.int ((b % 18446744073709551557 + 1) * (b / 18446744073709551557 + 1) * b)) := by
    refine mul ?_ (lt b0 b1 (by decide))
    refine lt (n := 261) (Int.mul_nonneg c0 d0) ?_ (by decide)
    have := Int.mul_lt_mul c1 (Int.le_of_lt d1) (by omega) (by decide : (0 : Int) ≤ 2 ^ 130)
    rw [← Int.pow_add] at this
    exact this
  refine ⟨_, by simp only [m_law_drawn, b_law_drawn, fnRun, start0]; simp [p1, p2, p3, ha, q1, p4, hb, p5, p6, q2, q3]; rfl⟩
theorem roll_ex (s : Int × Int) (n : Int) (h0 : 0 < n) (h1 : n < 2 ^ 200) : ∃ (r : Int) (s' : Int × Int), m_law_roll (dcD s) [.int n] = .ok (.int r, dcD s') ∧ 0 ≤ r ∧ r < n := by
  have p1 : gPow (.int 10) (.int 18) = some (.int (10 ^ 18)) := rfl
  have p2 : ∀ x : Int, gMod (.int x) (.int n) = some (.int (x % n)) := fun x => e_mod h0
  have p3 : ∀ x : Int, gDiv (.int x) (.int n) = some (.int (x / n)) := fun x => e_div ⟨h0, h1⟩
  have p4 : ∀ x : Int, gDiv (.int x) (.int 8) = some (.int (x / 8)) := fun x => e_div (by decide)
  have n0 : L2.ixN 2 0 = some 0 := rfl
  have n1 : L2.ixN 2 1 = some 1 := rfl
  obtain ⟨c, k⟩ := s
  by_cases h : (10 ^ 18 : Int) ≤ c
  · refine ⟨c % n, (c / n, k), ?_, Int.emod_nonneg _ (by omega), Int.emod_lt_of_pos _ h0⟩
    have h' : (1000000000000000000 : Int) ≤ c := h
    simp [m_law_roll, b_law_roll, fnRunL, start1, dcD, p1, p2, p3, n0, h']
  · obtain ⟨v, hv⟩ := drawn_ok c (k + 1)
    refine ⟨v / 8 % n, (c, k + 1), ?_, Int.emod_nonneg _ (by omega), Int.emod_lt_of_pos _ h0⟩
    have h' : ¬ (1000000000000000000 : Int) ≤ c := h
    simp [m_law_roll, b_law_roll, fnRunL, start1, dcD, p1, p2, p4, n1, h', hv]
end G
set_option Elab.async false
set_option linter.all false
set_option maxRecDepth 100000
set_option maxHeartbeats 1000000
namespace G
open PySem DL
local instance : DL.TabCtx := ⟨[]⟩
theorem immL_map {α : Type} {enc : α → PyData} : ∀ {xs : List α}, (∀ x ∈ xs, imm (enc x) = true) → immL (xs.map enc) = true
  | [], _ => rfl
  | x :: xs, h => by
    show (imm (enc x) && immL (xs.map enc)) = true
    rw [h x (List.mem_cons_self ..), immL_map fun y hy => h y (List.mem_cons_of_mem _ hy)]; rfl
theorem imm_int (i : Int) : imm (.int i) = true := rfl
theorem imm_si (e : Str × Int) : imm (siD e) = true := rfl
theorem imm_ints (ns : List Int) : imm (.tuple (ns.map .int)) = true := immL_map fun _ _ => rfl
theorem imm_ears (es : List (Str × Int)) : imm (.tuple (es.map siD)) = true := immL_map fun e _ => imm_si e
theorem imm_sg (s : Sg) : imm s.d = true := by
  show (true && (imm (.tuple (s.ears.map siD)) && (imm (.tuple (s.tab.map .int)) && true))) = true
  rw [imm_ears, imm_ints]; rfl
theorem imm_sgs (ss : List Sg) : imm (.tuple (ss.map Sg.d)) = true := immL_map fun s _ => imm_sg s
theorem lcLoop_dice {β : Type} {vs : List Nat} {g : GM} {e : M PyData} (I : Int × Int → Rho) (enc : β → PyData) (Q : β → Prop) : ∀ (ds : List PyData), (∀ d ∈ ds, ∀ s, ∃ b s' ρ1 ρ2, g d (wipeR (I s) vs) = .ok ρ1 ∧ e ρ1 = .ok (enc b, ρ2) ∧ Q b ∧ wipeR ρ2 vs = wipeR (I s') vs) →
    ∀ (s : Int × Int) (ρc : Rho) (acc : List PyData), wipeR ρc vs = wipeR (I s) vs → ds.length + acc.length ≤ LIM → ∃ (bs : List β) (s' : Int × Int) (ρ' : Rho), lcLoop vs g yesT e ds ρc acc = .ok (acc ++ bs.map enc, ρ') ∧ wipeR ρ' vs = wipeR (I s') vs ∧ bs.length = ds.length ∧ ∀ b ∈ bs, Q b
  | [], _, s, ρc, acc, h, _ => ⟨[], s, ρc, by simp [lcLoop], h, rfl, fun b hb => by cases hb⟩
  | d :: ds, hs, s, ρc, acc, h, hl => by
    obtain ⟨b, s1, ρ1, ρ2, h1, h2, h3, h4⟩ := hs d (List.mem_cons_self ..) s
    simp only [List.length_cons] at hl
    obtain ⟨bs, s', ρ', k1, k2, k3, k4⟩ := lcLoop_dice I enc Q ds (fun y hy => hs y (List.mem_cons_of_mem _ hy)) s1 ρ2 (acc ++ [enc b]) h4 (by rw [List.length_append]; simp only [List.length_cons, List.length_nil]; omega)
    refine ⟨b :: bs, s', ρ', ?_, k2, by simp [k3], fun x hx => ?_⟩
    · unfold lcLoop
      rw [h, h1]
      simp only [e_yes, h2]
      rw [if_pos (by omega), k1]
      simp
    · rcases List.mem_cons.mp hx with rfl | hx
      · exact h3
      · exact k4 x hx
theorem resR_eq {ρ ρ' ρ2 : Rho} : ∀ {vs : List Nat}, (∀ v ∈ vs, ρ[v]? = ρ2[v]?) → resR ρ ρ' vs = resR ρ2 ρ' vs
  | [], _ => rfl
  | v :: vs, h => by
    unfold resR
    rw [resR_eq fun w hw => h w (List.mem_cons_of_mem _ hw), List.getD_eq_getElem?_getD, List.getD_eq_getElem?_getD, h v (List.mem_cons_self ..)]
theorem lc_dice {β : Type} {vs : List Nat} {a : M (List PyData)} {g : GM} {e : M PyData} (I : Int × Int → Rho) (enc : β → PyData) (Q : β → Prop) (ds : List PyData) (s : Int × Int) (ha : a (I s) = .ok (ds, I s)) (ho : (vs.any fun i => isOw (I s)[i]?) = false) (hl : ds.length ≤ LIM) (hI : ∀ s s', ∀ v ∈ vs, (I s)[v]? = (I s')[v]?)
    (hs : ∀ d ∈ ds, ∀ s, ∃ b s' ρ1 ρ2, g d (wipeR (I s) vs) = .ok ρ1 ∧ e ρ1 = .ok (enc b, ρ2) ∧ Q b ∧ wipeR ρ2 vs = wipeR (I s') vs) : ∃ (bs : List β) (s' : Int × Int), lcM vs a g yesT e (I s) = .ok (.list (bs.map enc), I s') ∧ bs.length = ds.length ∧ ∀ b ∈ bs, Q b := by
  obtain ⟨bs, s', ρ', k1, k2, k3, k4⟩ := lcLoop_dice I enc Q ds hs s (I s) [] rfl (by simpa using hl)
  refine ⟨bs, s', ?_, k3, k4⟩
  unfold lcM M.bind
  simp only [ha, ho, k1]
  rw [if_neg Bool.false_ne_true, resR_eq (hI s s'), resR_wipe k2]
  rfl
theorem mapM_si_map : ∀ es : List (Str × Int), (es.map siD).mapM siOf = some es
  | [] => rfl
  | e :: es => by
    rw [List.map_cons, List.mapM_cons, mapM_si_map es]; rfl
theorem sorted_ears (es : List (Str × Int)) : gSorted [.list (es.map siD)] = some (.list ((SrtQ.isort SrtQ.lexS es).map siD)) := by
  show ((es.map siD).mapM siOf).map _ = _
  rw [mapM_si_map]; rfl
theorem rising_sort {es : List (Str × Int)} (hl : es.length ≤ 2) (hn : es.Nodup) : rising SrtQ.lexS (SrtQ.isort SrtQ.lexS es) = true := by
  match es, hl with
  | [], _ => rfl
  | [a], _ => rfl
  | [a, b], _ =>
    show rising SrtQ.lexS (if SrtQ.lexS a b = true then [a, b] else [b, a]) = true
    cases h : SrtQ.lexS a b with
    | true => simp [rising, h]
    | false =>
      have hab : a ≠ b := by simpa using hn
      cases h2 : SrtQ.lexS b a with
      | true => simp [rising, h2]
      | false => exact absurd (SrtQ.lexS_tri h h2) hab
abbrev crewL (crew : List Str) : List PyData := crew.map PyData.str
def earsI (many : Int) (crew : List Str) (x3 x4 x7 : Sl) (i : Nat) (ρ : Rho) : Prop := ∃ (s' : Int × Int) (es : List (Str × Int)) (x6 x8 : Sl), ρ = [.ow (dcD s'), .sh (.int many), .sh (.list (crewL crew)), x3, x4, .ow (.list (es.map siD)), x6, x7, x8, .no] ∧ es.length ≤ i ∧ es.Nodup ∧ ∀ e ∈ es, Wd e.1 ∧ e.1 ∈ crew ∧ 1 ≤ e.2 ∧ e.2 ≤ 3
theorem singers_ears {many : Int} {crew : List Str} (hc1 : 1 ≤ crew.length) (hc3 : crew.length ≤ 3) (hw : ∀ x ∈ crew, Wd x) (n : Nat) (hn : n ≤ 2) (s : Int × Int) (x3 x4 x6 x7 x8 : Sl) :
    ∃ ρ', loopO (setS 6) b_law_any_singers_L1 (rangeD 0 n) [.ow (dcD s), .sh (.int many), .sh (.list (crewL crew)), x3, x4, .ow (.list []), x6, x7, x8, .no] = .nx ρ' ∧ earsI many crew x3 x4 x7 n ρ' := by
  have hl : (rangeD 0 n).length = n := by simp [rangeD]
  have step : ∀ (i : Nat) (d : PyData) (ρ : Rho), (rangeD 0 n)[i]? = some d → earsI many crew x3 x4 x7 i ρ → ∃ ρ1 ρ2, setS 6 d ρ = .ok ρ1 ∧ b_law_any_singers_L1 ρ1 = .nx ρ2 ∧ earsI many crew x3 x4 x7 (i + 1) ρ2 := by
    intro i d ρ hd hI
    obtain ⟨s1, es, y6, y8, rfl, hl, hnd, he⟩ := hI
    have hin : i < n := by
      have := (List.getElem?_eq_some_iff.mp hd).1
      simpa [rangeD] using this
    obtain ⟨r, s2, k1, k2, k3⟩ := roll_ex s1 crew.length (by omega) (by omega)
    obtain ⟨r2, s3, l1, l2, l3⟩ := roll_ex s2 3 (by decide) (by decide)
    obtain ⟨nm, hat, hmem⟩ : ∃ nm : Str, atD (crewL crew) r = some (.str nm) ∧ nm ∈ crew := by
      refine ⟨crew[r.toNat]'(by omega), ?_, List.getElem_mem _⟩
      unfold atD
      rw [if_pos k2, List.getElem?_map, List.getElem?_eq_getElem (by omega)]; rfl
    have hin' := gNotIn_P (j := 1) (k := 1) (x := siD (nm, 1 + r2)) (ds := es.map siD) (P_ear (hw _ hmem)) (fun y hy => by obtain ⟨e, h1, rfl⟩ := List.mem_map.mp hy; exact P_ear (he e h1).1) ((nm, 1 + r2) ∈ es) (by
      constructor
      · intro h; obtain ⟨e, h1, h2⟩ := List.mem_map.mp h; rw [← siD_inj.mp h2]; exact h1
      · exact fun h => List.mem_map.mpr ⟨_, h, rfl⟩)
    have esl : es.length < 1000000 := by omega
    have hin'' : gNotIn (.tuple [.str (nm), .int (1 + r2)]) (.list (es.map siD)) = _ := hin'
    by_cases hm : (nm, 1 + r2) ∈ es
    · rw [decide_eq_true hm] at hin''
      refine ⟨_, [.ow (dcD s3), .sh (.int many), .sh (.list (crewL crew)), x3, x4, .ow (.list (es.map siD)), .sh d, x7, .sh (siD (nm, 1 + r2)), .no], rfl, ?_, s3, es, _, _, rfl, by omega, hnd, he⟩
      simp only [b_law_any_singers_L1]
      simp [k1, l1, hat, hin'', siD]
    · rw [decide_eq_false hm] at hin''
      refine ⟨_, [.ow (dcD s3), .sh (.int many), .sh (.list (crewL crew)), x3, x4, .ow (.list ((es ++ [(nm, 1 + r2)]).map siD)), .sh d, x7, .sh (siD (nm, 1 + r2)), .no], rfl, ?_, s3, es ++ [(nm, 1 + r2)], _, _, rfl, by simp; omega, ?_, fun e h => ?_⟩
      · simp only [b_law_any_singers_L1]
        simp [k1, l1, hat, hin'', esl, siD]
      · rw [List.nodup_append]
        exact ⟨hnd, by simp, fun x hx y hy z => hm (by rw [List.mem_singleton.mp hy] at z; rw [← z]; exact hx)⟩
      · rcases List.mem_append.mp h with h | h
        · exact he e h
        · cases List.mem_singleton.mp h
          exact ⟨hw _ hmem, hmem, by omega, by omega⟩
  obtain ⟨ρ', h1, h2⟩ := loop_inv (earsI many crew x3 x4 x7) step (ρ := [.ow (dcD s), .sh (.int many), .sh (.list (crewL crew)), x3, x4, .ow (.list []), x6, x7, x8, .no]) ⟨s, [], x6, x8, rfl, Nat.le_refl 0, List.nodup_nil, fun e he => by cases he⟩
  rw [hl] at h2
  exact ⟨ρ', h1, h2⟩
end G
set_option Elab.async false
set_option linter.all false
set_option maxRecDepth 100000
set_option maxHeartbeats 1000000
namespace G
open PySem DL
local instance : DL.TabCtx := ⟨[]⟩
theorem rg1_int {r : Int} (h0 : 0 ≤ r) (h1 : r ≤ 1000000) : rg1 [.int r] = some (rangeD 0 r.toNat) := by
  have := e_rg1 (n := r.toNat) (by omega)
  rw [Int.toNat_of_nonneg h0] at this
  exact this
def singersI (many : Int) (crew : List Str) (i : Nat) (ρ : Rho) : Prop := ∃ (s : Int × Int) (ss : List Sg) (x4 x5 x6 x7 x8 : Sl), ρ = [.ow (dcD s), .sh (.int many), .sh (.list (crewL crew)), .ow (.list (ss.map Sg.d)), x4, x5, x6, x7, x8, .no] ∧ ss.map (·.name) = crew.take i ∧ ∀ s ∈ ss, GSg many crew s
theorem sort_mem {es : List (Str × Int)} {e : Str × Int} : e ∈ SrtQ.isort SrtQ.lexS es ↔ e ∈ es := (SrtQ.isort_perm es).mem_iff
theorem sort_len {es : List (Str × Int)} : (SrtQ.isort SrtQ.lexS es).length = es.length := (SrtQ.isort_perm es).length_eq
theorem places_at {many : Int} {n : Nat} (hn : n ≤ 2) : atD [.int 1, .int many, .int (many * many)] (n : Int) = some (.int (many ^ n)) := by
  have : n = 0 ∨ n = 1 ∨ n = 2 := by omega
  rcases this with rfl | rfl | rfl <;> simp [Int.pow_succ]
theorem singers_step {many : Int} (h2 : 2 ≤ many) (h4 : many ≤ 4) {crew : List Str} (hc1 : 1 ≤ crew.length) (hc3 : crew.length ≤ 3) (hw : ∀ x ∈ crew, Wd x) (i : Nat) (d : PyData) (ρ : Rho) (hd : (crewL crew)[i]? = some d) (hI : singersI many crew i ρ) :
    ∃ ρ1 ρ2, setS 4 d ρ = .ok ρ1 ∧ b_law_any_singers_L2 ρ1 = .nx ρ2 ∧ singersI many crew (i + 1) ρ2 := by
  obtain ⟨s0, ss, x4, x5, x6, x7, x8, rfl, hn, hg⟩ := hI
  rw [List.getElem?_map] at hd
  obtain ⟨nm, hnm, rfl⟩ := Option.map_eq_some_iff.mp hd
  have hi : i < crew.length := (List.getElem?_eq_some_iff.mp hnm).1
  obtain ⟨r, s1, k1, k2, k3⟩ := roll_ex s0 3 (by decide) (by decide)
  obtain ⟨ρ', l1, s2, es, y6, y8, rfl, e1, e2, e3⟩ := singers_ears (many := many) hc1 hc3 hw r.toNat (by omega) s1 (.ow (.list (ss.map Sg.d))) (.sh (.str nm)) x6 x7 x8
  have hel : es.length ≤ 2 := by omega
  have hp := pow_le h2 h4 hel
  have hm : gMul (.int many) (.int many) = some (.int (many * many)) := e_mul (by omega)
  have hrg := rg1_int (r := many ^ es.length) (by omega) (by omega)
  have hrl : (rangeD 0 (many ^ es.length).toNat).length = (many ^ es.length).toNat := by simp [rangeD]
  obtain ⟨ns, s3, m1, m2, m3⟩ := lc_dice (vs := [9]) (a := opI rg1 (aC (vN 7) aN)) (g := setS 9) (e := callL 0 m_law_roll (aC (vN 1) aN)) (fun s => [.ow (dcD s), .sh (.int many), .sh (.list (crewL crew)), .ow (.list (ss.map Sg.d)), .sh (.str nm), .ow (.list (es.map siD)), y6, .sh (.int (many ^ es.length)), y8, .no]) PyData.int (fun n => 0 ≤ n ∧ n < many) (rangeD 0 (many ^ es.length).toNat) s2 (by simp [hrg]) rfl (by rw [hrl, e_LIM]; omega) (fun _ _ v hv => by simp at hv; subst hv; rfl) (fun d _ s => by
    obtain ⟨r, s', q1, q2, q3⟩ := roll_ex s many (by omega) (by omega)
    refine ⟨r, s', _, [.ow (dcD s'), .sh (.int many), .sh (.list (crewL crew)), .ow (.list (ss.map Sg.d)), .sh (.str nm), .ow (.list (es.map siD)), y6, .sh (.int (many ^ es.length)), y8, .sh d], rfl, ?_, ⟨q2, q3⟩, rfl⟩
    simp [q1])
  rw [hrl] at m2
  have sl : ss.length < 1000000 := by
    have := congrArg List.length hn
    rw [List.length_map, List.length_take] at this
    omega
  have hrg2 := rg1_int (r := r) k2 (by omega)
  refine ⟨_, [.ow (dcD s3), .sh (.int many), .sh (.list (crewL crew)), .ow (.list ((ss ++ [Sg.mk nm (SrtQ.isort SrtQ.lexS es) ns]).map Sg.d)), .sh (.str nm), .ow (.list (es.map siD)), y6, .sh (.int (many ^ es.length)), y8, .no], rfl, ?_, s3, ss ++ [Sg.mk nm (SrtQ.isort SrtQ.lexS es) ns], _, _, _, _, _, rfl, ?_, ?_⟩
  · simp only [b_law_any_singers_L2]
    simp [k1, hrg2, l1, hm, places_at hel, sorted_ears, imm_ears, imm_int, m1, sl, Sg.d]
  · rw [List.map_append, hn, List.take_succ, hnm]; rfl
  · intro s hs
    rcases List.mem_append.mp hs with h | h
    · exact hg s h
    · cases List.mem_singleton.mp h
      exact ⟨hw _ (List.mem_of_getElem? hnm), by rw [sort_len]; exact hel, fun e he => e3 e (sort_mem.mp he), rising_sort hel e2, by show ((ns.length : Nat) : Int) = many ^ (SrtQ.isort SrtQ.lexS es).length; rw [sort_len, m2]; omega, m3⟩
theorem any_singers_ok {many : Int} (h2 : 2 ≤ many) (h4 : many ≤ 4) {crew : List Str} (hc1 : 1 ≤ crew.length) (hc3 : crew.length ≤ 3) (hw : ∀ x ∈ crew, Wd x) (s : Int × Int) :
    ∃ (ss : List Sg) (s' : Int × Int), m_law_any_singers (dcD s) [.int many, .list (crewL crew)] = .ok (.tuple (ss.map Sg.d), dcD s') ∧ ss.map (·.name) = crew ∧ ∀ s ∈ ss, GSg many crew s := by
  obtain ⟨ρ', l1, s', ss, x4, x5, x6, x7, x8, rfl, hn, hg⟩ := loop_inv (singersI many crew) (singers_step h2 h4 hc1 hc3 hw) (ρ := [.ow (dcD s), .sh (.int many), .sh (.list (crewL crew)), .ow (.list []), .no, .no, .no, .no, .no, .no]) ⟨s, [], _, _, _, _, _, rfl, rfl, fun s hs => by cases hs⟩
  rw [List.length_map, List.take_length] at hn
  refine ⟨ss, s', ?_, hn, hg⟩
  simp [m_law_any_singers, b_law_any_singers, fnRunL, start1, l1, imm_sgs]
def crew3 : List Str := ["ann", "bob", "cy"]
theorem any_choir_ok (s : Int × Int) : ∃ (many : Int) (ss : List Sg) (s' : Int × Int), m_law_any_choir (dcD s) [] = .ok (chD many ss, dcD s') ∧ Good many ss ∧ ss.map (·.name) = crew3.take ss.length ∧ (many = 2 ∧ ss.length ≤ 3 ∨ many = 3 ∧ ss.length ≤ 2 ∨ many = 4 ∧ ss.length = 1) := by
  obtain ⟨r, s1, k1, k2, k3⟩ := roll_ex s 6 (by decide) (by decide)
  have fin : ∀ (many : Int) (size : Nat), 2 ≤ many → many ≤ 4 → 1 ≤ size → size ≤ 3 → ∃ (ss : List Sg) (s' : Int × Int), m_law_any_singers (dcD s1) [.int many, .list ((crewL ["ann", "bob", "cy"]).take size)] = .ok (.tuple (ss.map Sg.d), dcD s') ∧ ss.map (·.name) = (["ann", "bob", "cy"] : List Str).take size ∧ Good many ss := by
    intro many size a1 a2 a3 a4
    have hcl : ((["ann", "bob", "cy"] : List Str).take size).length = size := by rw [List.length_take]; exact Nat.min_eq_left a4
    obtain ⟨ss, s', b1, b2, b3⟩ := any_singers_ok a1 a2 (crew := (["ann", "bob", "cy"] : List Str).take size) (by omega) (by omega) (fun x hx => by
      have := List.mem_of_mem_take hx
      simp at this
      rcases this with rfl | rfl | rfl
      · exact wd_ann
      · exact wd_bob
      · exact wd_cy) s1
    have hsl : ss.length = size := by rw [← hcl, ← b2, List.length_map]
    refine ⟨ss, s', ?_, b2, a1, a2, by omega, by omega, fun s hs => by rw [b2]; exact b3 s hs, ?_⟩
    · rw [← b1]; unfold crewL; rw [List.map_take]
    · rw [b2]
      have : size = 1 ∨ size = 2 ∨ size = 3 := by omega
      rcases this with rfl | rfl | rfl <;> decide +kernel
  have hr : r = 0 ∨ r = 1 ∨ r = 2 ∨ r = 3 ∨ r = 4 ∨ r = 5 := by omega
  have c1 : ∀ ds : List PyData, cutD ds none (some 2) = ds.take 2 := fun ds => cut_to ds 2
  have c2 : ∀ ds : List PyData, cutD ds none (some 3) = ds.take 3 := fun ds => cut_to ds 3
  have go : ∀ (many : Int) (size : Nat), atD [.tuple [.int 2, .int 1], .tuple [.int 2, .int 2], .tuple [.int 2, .int 3], .tuple [.int 3, .int 1], .tuple [.int 3, .int 2], .tuple [.int 4, .int 1]] r = some (.tuple [.int many, .int size]) → 2 ≤ many → many ≤ 4 → 1 ≤ size → size ≤ 3 →
      ∃ (ss : List Sg) (s' : Int × Int), m_law_any_choir (dcD s) [] = .ok (chD many ss, dcD s') ∧ Good many ss ∧ ss.map (·.name) = (["ann", "bob", "cy"] : List Str).take size := by
    intro many size hat a1 a2 a3 a4
    obtain ⟨ss, s', b1, b2, b3⟩ := fin many size a1 a2 a3 a4
    refine ⟨ss, s', ?_, b3, b2⟩
    have b1 : m_law_any_singers (dcD s1) [.int many, .list (cutD [.str "ann", .str "bob", .str "cy"] none (some (size : Int)))] = .ok (.tuple (ss.map Sg.d), dcD s') := by rw [cut_to]; exact b1
    simp [m_law_any_choir, b_law_any_choir, fnRunL, start1, k1, hat, b1, chD]
  have wrap : ∀ (many : Int) (size : Nat), (many = 2 ∧ size ≤ 3 ∨ many = 3 ∧ size ≤ 2 ∨ many = 4 ∧ size = 1) → size ≤ 3 → (∃ (ss : List Sg) (s' : Int × Int), m_law_any_choir (dcD s) [] = .ok (chD many ss, dcD s') ∧ Good many ss ∧ ss.map (·.name) = (["ann", "bob", "cy"] : List Str).take size) → ∃ (many : Int) (ss : List Sg) (s' : Int × Int), m_law_any_choir (dcD s) [] = .ok (chD many ss, dcD s') ∧ Good many ss ∧ ss.map (·.name) = crew3.take ss.length ∧ (many = 2 ∧ ss.length ≤ 3 ∨ many = 3 ∧ ss.length ≤ 2 ∨ many = 4 ∧ ss.length = 1) := by
    rintro many size h hs ⟨ss, s', a, b, c⟩
    have hl : ss.length = size := by
      have := congrArg List.length c
      rw [List.length_map, List.length_take] at this
      rw [this]; exact Nat.min_eq_left hs
    exact ⟨many, ss, s', a, b, by rw [hl]; exact c, by rw [hl]; exact h⟩
  rcases hr with rfl | rfl | rfl | rfl | rfl | rfl
  · exact wrap 2 1 (.inl ⟨rfl, by decide⟩) (by decide) (go 2 1 rfl (by decide) (by decide) (by decide) (by decide))
  · exact wrap 2 2 (.inl ⟨rfl, by decide⟩) (by decide) (go 2 2 rfl (by decide) (by decide) (by decide) (by decide))
  · exact wrap 2 3 (.inl ⟨rfl, by decide⟩) (by decide) (go 2 3 rfl (by decide) (by decide) (by decide) (by decide))
  · exact wrap 3 1 (.inr (.inl ⟨rfl, by decide⟩)) (by decide) (go 3 1 rfl (by decide) (by decide) (by decide) (by decide))
  · exact wrap 3 2 (.inr (.inl ⟨rfl, by decide⟩)) (by decide) (go 3 2 rfl (by decide) (by decide) (by decide) (by decide))
  · exact wrap 4 1 (.inr (.inr ⟨rfl, rfl⟩)) (by decide) (go 4 1 rfl (by decide) (by decide) (by decide) (by decide))
end G
set_option Elab.async false
set_option linter.all false
set_option maxRecDepth 100000
set_option maxHeartbeats 1000000
namespace G
open PySem DL
local instance : DL.TabCtx := ⟨[]⟩
abbrev natD (n : Nat) : PyData := .int (n : Nat)
abbrev rowD (r : List Nat) : PyData := .tuple (r.map natD)
def stD (st : List (List Nat)) : PyData := .tuple (st.map rowD)
structure GSt (m n : Nat) (st : List (List Nat)) : Prop where
  len : st.length = n
  row : ∀ r ∈ st, r.length = 3 ∧ ∀ x ∈ r, x < m
theorem natD_inj {a b : Nat} : natD a = natD b ↔ a = b := by unfold natD; rw [PyData.int.injEq]; omega
theorem P_row {k : Nat} (r : List Nat) : P (k + 1) (rowD r) := .tuple fun x hx => by obtain ⟨n, _, rfl⟩ := List.mem_map.mp hx; exact .int _
theorem P_st {k : Nat} (st : List (List Nat)) : P (k + 2) (stD st) := .tuple fun x hx => by obtain ⟨r, _, rfl⟩ := List.mem_map.mp hx; exact P_row r
theorem are_lines_nats (ns : List Nat) (k many : Int) (hl : ns.length ≤ LIM) : m_are_lines [rowD ns, .int k, .int many] = .ok (.bool (decide ((ns.length : Int) = k) && ns.all fun n => decide ((n : Int) ≤ many - 1))) := by
  have := are_lines_ints (ns.map fun n : Nat => (n : Int)) k many (by rw [List.length_map]; exact hl)
  rw [List.map_map, List.length_map, List.all_map] at this
  have e : ((fun n : Int => decide (0 ≤ n) && decide (n ≤ many - 1)) ∘ fun n : Nat => (n : Int)) = fun n : Nat => decide ((n : Int) ≤ many - 1) := by
    funext n
    show (decide ((0 : Int) ≤ (n : Int)) && decide ((n : Int) ≤ many - 1)) = _
    rw [decide_eq_true (by omega)]; rfl
  rw [e] at this
  exact this
theorem good_standing_ok {many : Int} {m : Nat} (hm : many = m) {ss : List Sg} {st : List (List Nat)} (hl : ss.length ≤ 4) (h : GSt m ss.length st) : m_is_good_standing [chD many ss, stD st] = .ok (.bool true) := by
  have e : ((st.length : Nat) : Int) = ((ss.length : Nat) : Int) := by rw [h.len]
  simp [m_is_good_standing, b_is_good_standing, fnRun, start0, isD, chD, stD, e]
  rw [lc_map st rowD (fun _ => .bool true)]
  · simp [all_map]
  · simp
  · rfl
  · rw [h.len, e_LIM]; omega
  · intro r hr
    obtain ⟨h1, h2⟩ := h.row r hr
    have := are_lines_nats r 3 many (by rw [h1, e_LIM]; decide)
    have h3 : (r.all fun n => decide ((n : Int) ≤ many - 1)) = true := by
      rw [List.all_eq_true]; intro x hx; have := h2 x hx; exact decide_eq_true (by omega)
    rw [h1, h3, decide_eq_true (by decide)] at this
    exact ⟨_, rfl, by simp [this], rfl⟩
theorem need_standing_ok {many : Int} {m : Nat} (hm : many = m) {ss : List Sg} {st : List (List Nat)} (hl : ss.length ≤ 4) (h : GSt m ss.length st) : m_need_standing [chD many ss, stD st] = .ok .none := by
  simp [m_need_standing, b_need_standing, fnRun, start0, good_standing_ok hm hl h]
def nOf (ss : List Sg) (x : Str) : Nat := (ss.map (·.name)).idxOf x
theorem findD_str (x : Str) : ∀ xs : List Str, x ∈ xs → findD (.str x) (xs.map PyData.str) = some (xs.idxOf x)
  | y :: ys, h => by
    rw [List.map_cons, findD, List.idxOf_cons]
    by_cases e : y = x
    · subst e; simp [PyData.eqv]
    · have hx : x ∈ ys := by
        rcases List.mem_cons.mp h with z | z
        · exact absurd z.symm e
        · exact z
      have hb : (y == x) = false := by simpa using e
      simp [PyData.eqv, e, findD_str x ys hx, hb]
theorem number_ok {many : Int} {ss : List Sg} {x : Str} (hl : ss.length ≤ LIM) (hw : ∀ s ∈ ss, Wd s.name) (hx : x ∈ ss.map (·.name)) : m_number_of [chD many ss, .str x] = .ok (.int (nOf ss x : Nat)) := by
  have hP : ∀ y ∈ (ss.map fun s => PyData.str s.name), P 0 y := fun y hy => by obtain ⟨s, h1, rfl⟩ := List.mem_map.mp hy; exact .str (hw s h1).2
  have hxw : Wd x := by obtain ⟨s, h1, rfl⟩ := List.mem_map.mp hx; exact hw s h1
  have : gIndex (.list (ss.map fun s => PyData.str s.name)) [.str x] = some (.int (nOf ss x : Nat)) := by
    show (if (SeqAt.shaped (.str x) && SeqAt.shaped (.list (ss.map fun s => PyData.str s.name))) = true then (findD (.str x) (ss.map fun s => PyData.str s.name)).map fun j => PyData.int (j : Nat) else none) = _
    have h1 : (ss.map fun s => PyData.str s.name) = (ss.map (·.name)).map PyData.str := by rw [List.map_map]; rfl
    rw [(P.str (k := 0) hxw.2).shaped (by decide), (P.list hP).shaped (by decide), h1, findD_str x _ hx]
    rfl
  simp [m_number_of, b_number_of, fnRun, start0, all_names_ok hl, this]
/-- what is heard of an ear -/
def hrd (ss : List Sg) (st : List (List Nat)) (e : Str × Int) : Nat := (st.getD (nOf ss e.1) []).getD (3 - e.2).toNat 0
def plc (m : Nat) (xs : List Nat) : Nat := xs.foldl (fun a x => a * m + x) 0
theorem heard_ok {many : Int} {m : Nat} {ss : List Sg} {st : List (List Nat)} {s : Sg} (hl : ss.length ≤ LIM) (hw : ∀ s ∈ ss, Wd s.name) (hst : GSt m ss.length st) (hel : s.ears.length ≤ 2) (he : ∀ e ∈ s.ears, e.1 ∈ ss.map (·.name) ∧ 1 ≤ e.2 ∧ e.2 ≤ 3) : m_heard_by [chD many ss, stD st, s.d] = .ok (rowD (s.ears.map (hrd ss st))) := by
  simp [m_heard_by, b_heard_by, fnRun, start0, Sg.d, stD]
  rw [lc_map s.ears siD (fun e => natD (hrd ss st e))]
  · simp
  · simp
  · rfl
  · rw [e_LIM]; omega
  · intro e h
    obtain ⟨h1, h2, h3⟩ := he e h
    have h4 := number_ok (many := many) hl hw h1
    have h5 : nOf ss e.1 < st.length := by rw [hst.len, ← List.length_map (f := (·.name)) (as := ss)]; exact List.idxOf_lt_length_of_mem h1
    obtain ⟨r, h6⟩ : ∃ r, st[nOf ss e.1]? = some r := ⟨_, List.getElem?_eq_getElem h5⟩
    have h7 := (hst.row r (List.mem_of_getElem? h6)).1
    have h8 : atD (r.map natD) (3 - e.2) = some (natD (hrd ss st e)) := by
      unfold atD hrd
      have h9 : (3 - e.2).toNat < r.length := by omega
      rw [if_pos (by omega), List.getElem?_map, List.getD_eq_getElem?_getD, List.getD_eq_getElem?_getD, h6, List.getElem?_eq_getElem h9]
      show _ = some (natD ((r[(3 - e.2).toNat]?).getD 0))
      rw [List.getElem?_eq_getElem h9]; rfl
    refine ⟨_, rfl, ?_, rfl⟩
    simp [siD, h4, h6, h8]
theorem place_stepI (m a x : Int) (x1 : Sl) (hmul : gMul (.int a) (.int m) = some (.int (a * m))) : b_place_of_L1 [.sh (.int m), x1, .sh (.int a), .sh (.int x)] = .nx [.sh (.int m), x1, .sh (.int (a * m + x)), .sh (.int x)] := by
  simp [b_place_of_L1, hmul]
theorem place_loop {m : Int} (hm : -(2 ^ 64) < m ∧ m < 2 ^ 64) (x1 : Sl) (xs : List Int) : ∀ (a : Int) (x3 : Sl), ∃ x3', loopO (setS 3) b_place_of_L1 (xs.map .int) [.sh (.int m), x1, .sh (.int a), x3] = .nx [.sh (.int m), x1, .sh (.int (xs.foldl (fun a x => a * m + x) a)), x3'] := by
  induction xs with
  | nil => exact fun a x3 => ⟨x3, rfl⟩
  | cons x xs ih =>
    intro a x3
    obtain ⟨y, h⟩ := ih (a * m + x) (.sh (.int x))
    refine ⟨y, ?_⟩
    have hs : setS 3 (.int x) [.sh (.int m), x1, .sh (.int a), x3] = .ok [.sh (.int m), x1, .sh (.int a), .sh (.int x)] := rfl
    rw [List.map_cons, loopO]
    simp only [hs, place_stepI m a x x1 (e_mul hm)]
    exact h
theorem place_int {m : Int} (hm : -(2 ^ 64) < m ∧ m < 2 ^ 64) (xs : List Int) : m_place_of [.int m, .tuple (xs.map .int)] = .ok (.int (xs.foldl (fun a x => a * m + x) 0)) := by
  obtain ⟨y, h⟩ := place_loop hm (.sh (.tuple (xs.map .int))) xs 0 .no
  simp [m_place_of, b_place_of, fnRun, start0, h]
theorem foldl_cast (m : Nat) : ∀ (xs : List Nat) (a : Nat), (xs.map fun n : Nat => (n : Int)).foldl (fun a x => a * (m : Int) + x) (a : Int) = ((xs.foldl (fun a x => a * m + x) a : Nat) : Int)
  | [], a => rfl
  | x :: xs, a => by
    rw [List.map_cons, List.foldl_cons, List.foldl_cons, ← foldl_cast m xs]
    congr 1
theorem place_ok {many : Int} {m : Nat} (hm : many = m) (hm4 : m ≤ 4) (xs : List Nat) : m_place_of [.int many, rowD xs] = .ok (natD (plc m xs)) := by
  have h := place_int (m := many) (by omega) (xs.map fun n : Nat => (n : Int))
  rw [List.map_map] at h
  have e := foldl_cast m xs 0
  rw [← hm] at e
  rw [show ((0 : Nat) : Int) = 0 from rfl] at e
  rw [e] at h
  exact h
theorem plc_lt {m : Nat} {xs : List Nat} (h : ∀ x ∈ xs, x < m) : plc m xs < m ^ xs.length := by
  have : ∀ (xs : List Nat) (a k : Nat), (∀ x ∈ xs, x < m) → a < m ^ k → xs.foldl (fun a x => a * m + x) a < m ^ (k + xs.length) := by
    intro xs
    induction xs with
    | nil => intro a k _ h; simpa using h
    | cons x xs ih =>
      intro a k hx ha
      have h1 := hx x (List.mem_cons_self ..)
      have h2 : a * m + x < m ^ (k + 1) := by
        rw [Nat.pow_succ]
        have : (a + 1) * m ≤ m ^ k * m := Nat.mul_le_mul_right m ha
        rw [Nat.add_mul, Nat.one_mul] at this
        omega
      have := ih (a * m + x) (k + 1) (fun y hy => hx y (List.mem_cons_of_mem _ hy)) h2
      rw [List.foldl_cons, List.length_cons]
      rw [show k + (xs.length + 1) = k + 1 + xs.length by omega]
      exact this
  have := this xs 0 0 h (by simp)
  rw [Nat.zero_add] at this
  exact this
/-- a singer's line, by what is heard -/
def sem (m : Nat) (s : Sg) (h : Str × Int → Nat) : Int := s.tab.getD (plc m (s.ears.map h)) 0
theorem tab_at {many : Int} {m : Nat} (hm : many = m) {names : List Str} {s : Sg} (hs : GSg many names s) {xs : List Nat} (hx : ∀ x ∈ xs, x < m) (hl : xs.length = s.ears.length) : (s.tab.map PyData.int)[plc m xs]? = some (.int (s.tab.getD (plc m xs) 0)) := by
  have h1 := plc_lt hx
  have h2 := hs.tlen
  have h3 : plc m xs < s.tab.length := by
    rw [hl] at h1
    rw [hm] at h2
    have : ((m ^ s.ears.length : Nat) : Int) = (m : Int) ^ s.ears.length := by push_cast; rfl
    omega
  rw [List.getElem?_map, List.getD_eq_getElem?_getD, List.getElem?_eq_getElem h3]; rfl
theorem hrd_lt {m : Nat} {ss : List Sg} {st : List (List Nat)} (hst : GSt m ss.length st) (hm : 0 < m) (e : Str × Int) : hrd ss st e < m := by
  unfold hrd
  rw [List.getD_eq_getElem?_getD, List.getD_eq_getElem?_getD]
  cases h : st[nOf ss e.1]? with
  | none => simpa using hm
  | some r =>
    have hr := (hst.row r (List.mem_of_getElem? h)).2
    show ((r[(3 - e.2).toNat]?).getD 0) < m
    cases h2 : r[(3 - e.2).toNat]? with
    | none => simpa using hm
    | some x => exact hr x (List.mem_of_getElem? h2)
theorem table_line_ok {many : Int} {m : Nat} (hm : many = m) {ss : List Sg} (h : Good many ss) {st : List (List Nat)} (hst : GSt m ss.length st) {s : Sg} (hs : s ∈ ss) : m_table_line [chD many ss, stD st, s.d] = .ok (.int (sem m s (hrd ss st))) := by
  have h4 := h.l4
  have hg := h.sg s hs
  have m2 := h.m2
  have m4 := h.m4
  have h1 := heard_ok (many := many) (m := m) (ss := ss) (st := st) (s := s) (by rw [e_LIM]; omega) (fun s hs => (h.sg s hs).word) hst hg.elen (fun e he => (hg.ear e he).2)
  have h2 := place_ok hm (by omega) (s.ears.map (hrd ss st))
  have h3 := tab_at hm hg (xs := s.ears.map (hrd ss st)) (fun x hx => by obtain ⟨e, _, rfl⟩ := List.mem_map.mp hx; exact hrd_lt hst (by omega) e) (List.length_map ..)
  have e1 : m_heard_by [.tuple [.int many, .tuple (ss.map Sg.d)], stD st, .tuple [.str s.name, .tuple (s.ears.map siD), .tuple (s.tab.map .int)]] = _ := h1
  simp [m_table_line, b_table_line, fnRun, start0, chD, Sg.d, e1, h2]
  rw [← List.getElem?_map, h3]
  simp [sem]
def nxt (m : Nat) (ss : List Sg) (st : List (List Nat)) : List Int := ss.map fun s => sem m s (hrd ss st)
theorem all_next_ok {many : Int} {m : Nat} (hm : many = m) {ss : List Sg} (h : Good many ss) {st : List (List Nat)} (hst : GSt m ss.length st) : m_all_next [chD many ss, stD st] = .ok (.tuple ((nxt m ss st).map .int)) := by
  have h4 := h.l4
  simp [m_all_next, b_all_next, fnRun, start0]
  rw [lc_map ss Sg.d (fun s => .int (sem m s (hrd ss st)))]
  · simp [nxt, Function.comp_def]
  · simp [chD]
  · rfl
  · rw [e_LIM]; omega
  · exact fun s hs => ⟨_, rfl, by simp [table_line_ok hm h hst hs], rfl⟩
end G
set_option Elab.async false
set_option linter.all false
set_option maxRecDepth 100000
set_option maxHeartbeats 1000000
namespace G
open PySem DL
local instance : DL.TabCtx := ⟨[]⟩
def pr (at_ : Nat) (line other : Nat) : List Nat := if at_ = 0 then [line, other] else [other, line]
theorem tab_ex {many : Int} {m : Nat} (hm : many = m) {names : List Str} {s : Sg} (hs : GSg many names s) {xs : List Nat} (hx : ∀ x ∈ xs, x < m) (hl : xs.length = s.ears.length) : ∃ v, s.tab[plc m xs]? = some v := by
  have h1 := plc_lt hx
  have h2 := hs.tlen
  have h3 : plc m xs < s.tab.length := by
    rw [hl] at h1
    rw [hm] at h2
    have : ((m ^ s.ears.length : Nat) : Int) = (m : Int) ^ s.ears.length := by push_cast; rfl
    omega
  exact ⟨_, List.getElem?_eq_getElem h3⟩
end G
set_option Elab.async false
set_option linter.all false
set_option maxRecDepth 100000
set_option maxHeartbeats 1000000
namespace G
open PySem DL
local instance : DL.TabCtx := ⟨[]⟩
end G
set_option Elab.async false
set_option linter.all false
set_option maxRecDepth 100000
set_option maxHeartbeats 1000000
namespace G
open PySem DL
local instance : DL.TabCtx := ⟨[]⟩
/-- within the lines -/
def Rng (m : Nat) (h : Str × Int → Nat) : Prop := ∀ e, h e < m
/-- the line hangs on an ear -/
def Dep (m : Nat) (s : Sg) (e : Str × Int) : Prop := ∃ h h' : Str × Int → Nat, Rng m h ∧ Rng m h' ∧ (∀ f, f ≠ e → h f = h' f) ∧ sem m s h ≠ sem m s h'
theorem sem_congr {m : Nat} {s : Sg} {h h' : Str × Int → Nat} (he : ∀ e ∈ s.ears, h e = h' e) : sem m s h = sem m s h' := by
  unfold sem; rw [List.map_congr_left he]
theorem Dep.mem {m : Nat} {s : Sg} {e : Str × Int} (h : Dep m s e) : e ∈ s.ears := by
  obtain ⟨a, b, _, _, hf, hn⟩ := h
  refine Classical.byContradiction fun hc => hn (sem_congr fun f hf' => hf f fun z => hc (by rw [← z]; exact hf'))
def asg2 (e f : Str × Int) (x y : Nat) : Str × Int → Nat := fun g => if g = e then x else if g = f then y else 0
end G
set_option Elab.async false
set_option linter.all false
set_option maxRecDepth 100000
set_option maxHeartbeats 1000000
namespace G
open PySem DL
local instance : DL.TabCtx := ⟨[]⟩
/-- the table, by what is sung -/
def tabOf (m : Nat) (s : Sg) : List (Str × Int) → List Int
  | [] => [sem m s fun _ => 0]
  | [e] => (List.range m).map fun x => sem m s (asg2 e e x 0)
  | e :: f :: _ => (List.range (m * m)).map fun i => sem m s (asg2 e f (i / m) (i % m))
theorem sem_rng {many : Int} {m : Nat} (hm : many = m) {names : List Str} {s : Sg} (hs : GSg many names s) {h : Str × Int → Nat} (r : Rng m h) : 0 ≤ sem m s h ∧ sem m s h < many := by
  obtain ⟨v, hv⟩ := tab_ex hm hs (xs := s.ears.map h) (fun x hx => by obtain ⟨e, _, rfl⟩ := List.mem_map.mp hx; exact r e) (List.length_map ..)
  have : sem m s h = v := by unfold sem; rw [List.getD_eq_getElem?_getD, hv]; rfl
  rw [this]
  exact hs.tab v (List.mem_of_getElem? hv)
end G
set_option Elab.async false
set_option linter.all false
set_option maxRecDepth 100000
set_option maxHeartbeats 1000000
namespace G
open PySem DL
local instance : DL.TabCtx := ⟨[]⟩
theorem imm_row (r : List Nat) : imm (rowD r) = true := immL_map fun _ _ => rfl
theorem imm_st (st : List (List Nat)) : imm (stD st) = true := immL_map fun r _ => imm_row r
theorem standing_step {many : Int} {m : Nat} (hm : many = m) (h2 : 2 ≤ many) (h4 : many ≤ 4) (ss : List Sg) (s : Int × Int) (st : List (List Nat)) (hl : st.length < 1000) (d : PyData) : ∃ (s' : Int × Int) (r : List Nat), b_law_any_standing_L1 [.ow (dcD s), .sh (chD many ss), .ow (.list (st.map rowD)), .sh d, .no] = .nx [.ow (dcD s'), .sh (chD many ss), .ow (.list ((st ++ [r]).map rowD)), .sh d, .no] ∧ r.length = 3 ∧ ∀ x ∈ r, x < m := by
  have hrg : rg1 [.int 3] = some (rangeD 0 3) := rfl
  have i0 : gIx (chD many ss) (.int 0) = some (.int many) := rfl
  obtain ⟨bs, s', h1, h2, h3⟩ := lc_dice (vs := [4]) (a := opI rg1 (aC (cD (.int 3)) aN)) (g := setS 4) (e := callL 0 m_law_roll (aC (op2 gIx (vN 1) (cD (.int 0))) aN)) (fun s => [.ow (dcD s), .sh (chD many ss), .ow (.list (st.map rowD)), .sh d, .no]) natD (fun b => b < m) (rangeD 0 3) s (by simp [hrg]) rfl (by decide) (fun _ _ v hv => by simp at hv; subst hv; rfl) (fun d' _ s => by
    obtain ⟨r, s', q1, q2, q3⟩ := roll_ex s many (by omega) (by omega)
    refine ⟨r.toNat, s', _, [.ow (dcD s'), .sh (chD many ss), .ow (.list (st.map rowD)), .sh d, .sh d'], rfl, ?_, by omega, rfl⟩
    have e : natD r.toNat = .int r := by unfold natD; rw [Int.toNat_of_nonneg q2]
    rw [e]
    simp [i0, q1])
  refine ⟨s', bs, ?_, h2, h3⟩
  have al : st.length < 1000000 := by omega
  simp [b_law_any_standing_L1, h1, al]
theorem any_standing_ok {many : Int} {m : Nat} (hm : many = m) (h2 : 2 ≤ many) (h4 : many ≤ 4) (ss : List Sg) (hl : ss.length ≤ 4) (s : Int × Int) : ∃ (st : List (List Nat)) (s' : Int × Int), m_law_any_standing (dcD s) [chD many ss] = .ok (stD st, dcD s') ∧ GSt m ss.length st := by
  obtain ⟨ρ', h1, s', st, x3, rfl, hlen, hrow⟩ := loop_inv (g := setS 3) (fb := b_law_any_standing_L1) (ds := ss.map Sg.d) (fun i ρ => ∃ (s' : Int × Int) (st : List (List Nat)) (x3 : Sl), ρ = [.ow (dcD s'), .sh (chD many ss), .ow (.list (st.map rowD)), x3, .no] ∧ st.length = i ∧ ∀ r ∈ st, r.length = 3 ∧ ∀ x ∈ r, x < m) (fun i d ρ hd hI => by
    obtain ⟨s1, st, x3, rfl, h3, h4'⟩ := hI
    have hi : i < ss.length := by have := (List.getElem?_eq_some_iff.mp hd).1; rw [List.length_map] at this; exact this
    obtain ⟨s2, r, k1, k2, k3⟩ := standing_step hm h2 h4 ss s1 st (by omega) d
    refine ⟨_, _, rfl, k1, s2, st ++ [r], .sh d, rfl, by simp [h3], fun q hq => ?_⟩
    rcases List.mem_append.mp hq with h | h
    · exact h4' q h
    · rw [List.mem_singleton.mp h]; exact ⟨k2, k3⟩) (ρ := [.ow (dcD s), .sh (chD many ss), .ow (.list []), .no, .no]) ⟨s, [], .no, rfl, rfl, fun r hr => by cases hr⟩
  rw [List.length_map] at hlen
  have i1 : gIx (chD many ss) (.int 1) = some (.tuple (ss.map Sg.d)) := rfl
  have him : imm (.tuple (st.map rowD)) = true := imm_st st
  refine ⟨st, s', ?_, hlen, hrow⟩
  simp [m_law_any_standing, b_law_any_standing, fnRunL, start1, i1, h1, him, stD]
theorem zipD_map2 {α β : Type} (f : α → PyData) (g : β → PyData) (xs : List α) (ys : List β) : zipD (xs.map f) (ys.map g) = (xs.zip ys).map fun p => .tuple [f p.1, g p.2] := by
  unfold zipD
  rw [List.zip_map, List.map_map]; rfl
def beh (st : List (List Nat)) (ls : List Nat) : List (List Nat) := (st.zip ls).map fun p => p.1.drop 1 ++ [p.2]
theorem behind_ok {st : List (List Nat)} {ls : List Nat} (hl : st.length ≤ 1000) (hr : ∀ r ∈ st, r.length ≤ 1000) : m_behind [stD st, rowD ls] = .ok (stD (beh st ls)) := by
  have hz : gZip [.tuple (st.map rowD), .tuple (ls.map natD)] = some ((st.zip ls).map fun p => .tuple [rowD p.1, natD p.2]) := by
    show some (zipD (st.map rowD) (ls.map natD)) = _
    rw [zipD_map2]
  simp only [m_behind, b_behind, fnRun, start0, stD]
  simp
  rw [lc_map (st.zip ls) (fun p => .tuple [rowD p.1, natD p.2]) (fun p => rowD (p.1.drop 1 ++ [p.2]))]
  · simp [beh, Function.comp_def]
  · simp [hz]
  · rfl
  · rw [List.length_zip, e_LIM]; omega
  · intro p hp
    have h1 := hr p.1 (List.of_mem_zip hp).1
    have h2 : gAdd (.tuple ((p.1.map natD).drop 1)) (.tuple [natD p.2]) = some (rowD (p.1.drop 1 ++ [p.2])) := by
      have : ((p.1.map natD).drop 1).length + [natD p.2].length ≤ LIM := by simp; omega
      rw [show gAdd (.tuple ((p.1.map natD).drop 1)) (.tuple [natD p.2]) = if ((p.1.map natD).drop 1).length + [natD p.2].length ≤ LIM then some (.tuple ((p.1.map natD).drop 1 ++ [natD p.2])) else none from rfl, if_pos this]
      unfold rowD; rw [List.map_append, List.map_drop]; rfl
    refine ⟨_, rfl, ?_, rfl⟩
    simp only [rowD] at h2 ⊢
    simp
    rw [← List.drop_one, h2]
    simp
def nxN (m : Nat) (ss : List Sg) (st : List (List Nat)) : List Nat := (nxt m ss st).map Int.toNat
theorem nxN_d {many : Int} {m : Nat} (hm : many = m) {ss : List Sg} (h : Good many ss) {st : List (List Nat)} (hst : GSt m ss.length st) : (PyData.tuple ((nxt m ss st).map .int)) = rowD (nxN m ss st) := by
  unfold rowD nxN nxt
  rw [List.map_map, List.map_map, List.map_map]
  congr 1
  refine List.map_congr_left fun s hs => ?_
  have m2 := h.m2
  have := (sem_rng hm (h.sg s hs) fun e => hrd_lt hst (by omega) e).1
  show PyData.int _ = natD (Int.toNat _)
  unfold natD; rw [Int.toNat_of_nonneg this]
def onV (m : Nat) (ss : List Sg) (st : List (List Nat)) : List (List Nat) := beh st (nxN m ss st)
theorem nxN_len {m : Nat} {ss : List Sg} {st : List (List Nat)} : (nxN m ss st).length = ss.length := by unfold nxN nxt; rw [List.length_map, List.length_map]
theorem onV_good {many : Int} {m : Nat} (hm : many = m) {ss : List Sg} (h : Good many ss) {st : List (List Nat)} (hst : GSt m ss.length st) : GSt m ss.length (onV m ss st) := by
  refine ⟨by unfold onV beh; rw [List.length_map, List.length_zip, nxN_len, hst.len, Nat.min_self], fun r hr => ?_⟩
  obtain ⟨p, hp, rfl⟩ := List.mem_map.mp hr
  obtain ⟨h1, h2⟩ := hst.row p.1 (List.of_mem_zip hp).1
  have m2 := h.m2
  refine ⟨by rw [List.length_append, List.length_drop, h1]; rfl, fun x hx => ?_⟩
  rcases List.mem_append.mp hx with hx | hx
  · exact h2 x (List.mem_of_mem_drop hx)
  · rw [List.mem_singleton.mp hx]
    obtain ⟨v, hv, e⟩ := List.mem_map.mp (List.of_mem_zip hp).2
    obtain ⟨s, hs, rfl⟩ := List.mem_map.mp hv
    have := sem_rng hm (h.sg s hs) fun e => hrd_lt hst (by omega) e
    rw [← e]; omega
def stAt (m : Nat) (ss : List Sg) (st : List (List Nat)) : Nat → List (List Nat)
  | 0 => st
  | n + 1 => onV m ss (stAt m ss st n)
theorem stAt_good {many : Int} {m : Nat} (hm : many = m) {ss : List Sg} (h : Good many ss) {st : List (List Nat)} (hst : GSt m ss.length st) : ∀ n, GSt m ss.length (stAt m ss st n)
  | 0 => hst
  | n + 1 => onV_good hm h (stAt_good hm h hst n)
def rowsV (m : Nat) (ss : List Sg) (st : List (List Nat)) (n : Nat) : List (List Nat) := (List.range n).map fun i => nxN m ss (stAt m ss st i)
theorem gEq_str {a b : Str} (ha : Wd a) (hb : Wd b) : gEq (.str a) (.str b) = some (.bool (decide (a = b))) := gEq_P (j := 0) (k := 0) (.str ha.2) (.str hb.2) _ (by simp)
end G
set_option Elab.async false
set_option linter.all false
set_option maxRecDepth 100000
set_option maxHeartbeats 1000000
namespace G
open PySem DL
local instance : DL.TabCtx := ⟨[]⟩
def tups (m : Nat) : Nat → List (List Nat)
  | 0 => [[]]
  | k + 1 => (tups m k).flatMap fun o => (List.range m).map fun l => o ++ [l]
end G
set_option Elab.async false
set_option linter.all false
set_option maxRecDepth 100000
set_option maxHeartbeats 1000000
namespace G
open PySem DL
local instance : DL.TabCtx := ⟨[]⟩
section
variable {ρ : Rho} {d x y z : PyData} {ds : List PyData} {i j : Nat} {a b c : M PyData} {t : M Bool} {as : M (List PyData)} {ss : M (List Sl)} {f g : SM}
@[simp] theorem e_xN : xN ρ = .ok ([], ρ) := rfl
@[simp] theorem e_xSh : xSh a ss ρ = (M.bind a fun x => M.bind ss fun xs => M.pure (.sh x :: xs)) ρ := rfl
@[simp] theorem e_xOw : xOw a ss ρ = (M.bind a fun x => M.bind ss fun xs => M.pure (.ow x :: xs)) ρ := rfl
@[simp] theorem e_parO {is : List Nat} : parO is ss ρ = (exO ss fun ss ρ => if ss.length = is.length then .nx (setL is ss ρ) else .bad) ρ := rfl
@[simp] theorem e_setL {k : Nat} {ks : List Nat} {s : Sl} {ss : List Sl} : setL (k :: ks) (s :: ss) ρ = setL ks ss (ρ.set k s) := rfl
@[simp] theorem e_setL0 : setL [] [] ρ = ρ := rfl
@[simp] theorem e_ownFO : ownFO i a ρ = (exO a fun d ρ => .nx (ρ.set i (.ow d))) ρ := rfl
@[simp] theorem e_retF : retF a ρ = (exO a fun d ρ => .rf d ρ) ρ := rfl
@[simp] theorem e_callF {m : List PyData → R PyData} : callF m as ρ = (M.bind as fun ds => M.lift (immR (m ds))) ρ := rfl
@[simp] theorem e_slcL {l h : M (Option Int)} : slcL a l h ρ = (M.bind a fun x => M.bind l fun l => M.bind h fun h => M.opt (gCutL l h x)) ρ := rfl
@[simp] theorem e_cutL {lo hi : Option Int} : gCutL lo hi (.list ds) = some (.list (cutD ds lo hi)) := rfl
@[simp] theorem e_dsetO : dsetO i b a ρ = (exO a fun dv ρ => if isOwn1 ρ[i]? = true then exO b (fun dk ρ => match ρ[i]? with
  | some (.ow (.dict ps)) => if keyOk ps dk = true ∧ ps.length < LIM then .nx (ρ.set i (.ow (.dict (dput ps dk dv)))) else .bad
  | _ => .bad) ρ else .bad) ρ := rfl
@[simp] theorem e_isDict {ps : List (PyData × PyData)} : isDict (.dict ps) = true := rfl
@[simp] theorem e_dget1 : dget1 a b ρ = (M.bind a fun d => if isDict d = true then M.bind b fun k => M.opt (gGet1 d k) else fun _ => .bad) ρ := rfl
@[simp] theorem e_dget2 : dget2 a b c ρ = (M.bind a fun d => if isDict d = true then M.bind b fun k => M.bind c fun x => M.opt (gGet2 d k x) else fun _ => .bad) ρ := rfl
@[simp] theorem e_neg {k : Int} : gNeg (.int k) = some (.int (-k)) := rfl
end
end G
set_option Elab.async false
set_option linter.all false
set_option maxRecDepth 100000
set_option maxHeartbeats 1000000
namespace G
open PySem DL
local instance : DL.TabCtx := ⟨[]⟩
@[simp] theorem imm_intS (i : Int) : imm (.int i) = true := rfl
def knownD (f : Nat → List (List Nat)) (i : Nat) : List (PyData × PyData) := (List.range i).map fun j => (stD (f j), natD j)
def rowSt (f : Nat → List (List Nat)) (i : Nat) : List PyData := (List.range i).map fun j => stD (f j)
@[simp] theorem rowSt_len (f : Nat → List (List Nat)) (i : Nat) : (rowSt f i).length = i := by unfold rowSt; simp
@[simp] theorem knownD_len (f : Nat → List (List Nat)) (i : Nat) : (knownD f i).length = i := by unfold knownD; simp
end G
set_option Elab.async false
set_option linter.all false
set_option maxRecDepth 100000
set_option maxHeartbeats 1000000
namespace G
open PySem DL
local instance : DL.TabCtx := ⟨[]⟩
def col (st : List (List Nat)) (j : Nat) : List Nat := st.map fun r => r.getD j 0
/-- what is heard of an ear by a history -/
def hh (ss : List Sg) (hs : List (List Nat)) (b : Nat) (e : Str × Int) : Nat := (hs.getD ((b : Int) + 3 - e.2).toNat []).getD (nOf ss e.1) 0
section
variable (m : Nat) (ss : List Sg) (ld : Nat → Str → Option Nat)
def lrow (b : Nat) (st : List (List Nat)) : List Nat := ss.map fun s => (ld b s.name).getD (sem m s (hrd ss st)).toNat
end
end G
set_option Elab.async false
set_option linter.all false
set_option maxRecDepth 100000
set_option maxHeartbeats 1000000
namespace G
open PySem DL
local instance : DL.TabCtx := ⟨[]⟩
@[simp] theorem immR_ok {d : PyData} (h : immC d = true) : immR (.ok d) = .ok d := if_pos h
theorem fn_rt {k n : Nat} {f : SM} {ds : List PyData} {d : PyData} {ρ' : Rho} (hk : ds.length = k) (h : f (start0 n ds) = .rt d ρ') : fnRun k n f ds = .ok d := by
  unfold fnRun; rw [if_pos hk, h]
theorem seq_nx {f g : SM} {ρ ρ' : Rho} (h : f ρ = .nx ρ') : seqO f g ρ = g ρ' := by unfold seqO; rw [h]
theorem asg_set {a : M PyData} {i : Nat} {d : PyData} {ρ ρ' : Rho} (h : a ρ = .ok (d, ρ')) (hi : i < ρ'.length) : asgO a (setS i) ρ = .nx (ρ'.set i (.sh d)) := by
  unfold asgO exO; rw [h]
  show (match setS i d ρ' with | .ok ρ' => O.nx ρ' | .exc _ => .bad | .bad => .bad) = _
  unfold setS; rw [if_pos hi]
theorem ret_ok {a : M PyData} {d : PyData} {ρ ρ' : Rho} (h : a ρ = .ok (d, ρ')) : retO a ρ = .rt d ρ' := by unfold retO exO; rw [h]
theorem opA_ok {g : List PyData → Option PyData} {as : M (List PyData)} {ds : List PyData} {z : PyData} {ρ ρ' : Rho} (h : as ρ = .ok (ds, ρ')) (hg : g ds = some z) : opA g as ρ = .ok (z, ρ') := by
  unfold opA M.bind; rw [h]; show M.opt (g ds) ρ' = _; rw [hg]; rfl
theorem aC1 {a : M PyData} {d : PyData} {ρ ρ' : Rho} (h : a ρ = .ok (d, ρ')) : aC a aN ρ = .ok ([d], ρ') := by unfold aC M.bind; rw [h]; rfl
theorem op2_ok {g : PyData → PyData → Option PyData} {a b : M PyData} {x y z : PyData} {ρ ρ1 ρ2 : Rho} (ha : a ρ = .ok (x, ρ1)) (hb : b ρ1 = .ok (y, ρ2)) (hg : g x y = some z) : op2 g a b ρ = .ok (z, ρ2) := by
  simp [ha, hb, hg]
theorem seq_rt {f g : SM} {ρ ρ' : Rho} {d : PyData} (h : f ρ = .rt d ρ') : seqO f g ρ = .rt d ρ' := by unfold seqO; rw [h]
theorem seq_exc {f g : SM} {ρ : Rho} {c : Str} (h : f ρ = .exc c) : seqO f g ρ = .exc c := by unfold seqO; rw [h]
theorem tst_ok {a : M PyData} {b : Bool} {ρ ρ' : Rho} (h : a ρ = .ok (.bool b, ρ')) : tst a ρ = .ok (b, ρ') := by simp [h]
theorem vN_ok {i : Nat} {d : PyData} {ρ : Rho} (h : ρ[i]? = some (.sh d)) : vN i ρ = .ok (d, ρ) := by simp [h]
theorem cD_ok {d : PyData} {ρ : Rho} : cD d ρ = .ok (d, ρ) := rfl
theorem aC_ok {a : M PyData} {as : M (List PyData)} {d : PyData} {ds : List PyData} {ρ ρ1 ρ2 : Rho} (h : a ρ = .ok (d, ρ1)) (hs : as ρ1 = .ok (ds, ρ2)) : aC a as ρ = .ok (d :: ds, ρ2) := by simp [h, hs]
theorem aN_ok {ρ : Rho} : aN ρ = .ok ([], ρ) := rfl
theorem callM_ok {m : List PyData → R PyData} {as : M (List PyData)} {ds : List PyData} {z : PyData} {ρ ρ' : Rho} (h : as ρ = .ok (ds, ρ')) (hm : m ds = .ok z) : callM m as ρ = .ok (z, ρ') := by simp [h, hm]
theorem callM_exc {m : List PyData → R PyData} {as : M (List PyData)} {ds : List PyData} {c : Str} {ρ ρ' : Rho} (h : as ρ = .ok (ds, ρ')) (hm : m ds = .exc c) : callM m as ρ = .exc c := by simp [h, hm]
theorem ifO_t {t : M Bool} {f g : SM} {ρ ρ' : Rho} (h : t ρ = .ok (true, ρ')) : ifO t f g ρ = f ρ' := by simp [h]
theorem ifO_f {t : M Bool} {f g : SM} {ρ ρ' : Rho} (h : t ρ = .ok (false, ρ')) : ifO t f g ρ = g ρ' := by simp [h]
theorem drop_nx {a : M PyData} {d : PyData} {ρ ρ' : Rho} (h : a ρ = .ok (d, ρ')) : dropO a ρ = .nx ρ' := by simp [h]
theorem drop_exc {a : M PyData} {c : Str} {ρ : Rho} (h : a ρ = .exc c) : dropO a ρ = .exc c := by simp [h]
theorem for_ok {as : M (List PyData)} {g : GM} {f : SM} {ds : List PyData} {ρ ρ' : Rho} (h : as ρ = .ok (ds, ρ')) : forO as g f ρ = loopO g f ds ρ' := by simp [h]
theorem opI_ok {g : List PyData → Option (List PyData)} {as : M (List PyData)} {ds zs : List PyData} {ρ ρ' : Rho} (h : as ρ = .ok (ds, ρ')) (hg : g ds = some zs) : opI g as ρ = .ok (zs, ρ') := by simp [h, hg]
theorem seqI_l {a : M PyData} {ds : List PyData} {ρ ρ' : Rho} (h : a ρ = .ok (.list ds, ρ')) : seqI a ρ = .ok (ds, ρ') := by simp [h]
theorem seqI_t {a : M PyData} {ds : List PyData} {ρ ρ' : Rho} (h : a ρ = .ok (.tuple ds, ρ')) : seqI a ρ = .ok (ds, ρ') := by simp [h]
theorem op1_ok {g : PyData → Option PyData} {a : M PyData} {x z : PyData} {ρ ρ1 : Rho} (ha : a ρ = .ok (x, ρ1)) (hg : g x = some z) : op1 g a ρ = .ok (z, ρ1) := by simp [ha, hg]
theorem slc_ok {a : M PyData} {l h : M (Option Int)} {x z : PyData} {lo hi : Option Int} {ρ ρ1 ρ2 ρ3 : Rho} (ha : a ρ = .ok (x, ρ1)) (hl : l ρ1 = .ok (lo, ρ2)) (hh : h ρ2 = .ok (hi, ρ3)) (hg : gCut lo hi x = some z) : slc a l h ρ = .ok (z, ρ3) := by simp [ha, hl, hh, hg]
theorem prt_ok {a : M PyData} {i : Int} {ρ ρ1 : Rho} (ha : a ρ = .ok (.int i, ρ1)) : prt a ρ = .ok (some i, ρ1) := by simp [ha]
theorem noPrt_ok {ρ : Rho} : noPrt ρ = .ok (none, ρ) := rfl
theorem fn_rt' {k n : Nat} {f : SM} {ds : List PyData} {d : PyData} {ρ0 ρ' : Rho} (hk : ds.length = k) (h0 : start0 n ds = ρ0) (h : f ρ0 = .rt d ρ') : fnRun k n f ds = .ok d := by
  subst h0; exact fn_rt hk h
end G
set_option Elab.async false
set_option linter.all false
set_option maxRecDepth 100000
set_option maxHeartbeats 1000000
namespace G
open PySem DL
local instance : DL.TabCtx := ⟨[]⟩
end G
set_option Elab.async false
set_option linter.all false
set_option maxRecDepth 100000
set_option maxHeartbeats 1000000
namespace G
open PySem DL
local instance : DL.TabCtx := ⟨[]⟩
section
variable {many : Int} {m : Nat} {ss : List Sg} {st : List (List Nat)}
theorem nname_ok (h : Good many ss) {x : Str} (hx : x ∈ ss.map (·.name)) : m_need_name [chD many ss, .str x] = .ok .none := by
  have h4 := h.l4
  have n1 := all_names_ok (many := many) (ss := ss) (by rw [e_LIM]; omega)
  have hxw : Wd x := by obtain ⟨s, q1, q2⟩ := List.mem_map.mp hx; rw [← q2]; exact (h.sg s q1).word
  have : gNotIn (.str x) (.list (ss.map fun s => .str s.name)) = some (.bool false) := by
    have := gNotIn_P (j := 0) (k := 0) (x := .str x) (ds := ss.map fun s => .str s.name) (.str hxw.2) (fun y hy => by obtain ⟨s, h1, rfl⟩ := List.mem_map.mp hy; exact .str (h.sg s h1).word.2) True (by
      simp only [iff_true]
      obtain ⟨s, h1, h2⟩ := List.mem_map.mp hx
      exact List.mem_map.mpr ⟨s, h1, by rw [h2]⟩)
    rw [this]; rfl
  simp [m_need_name, b_need_name, fnRun, start0, isD, n1, this]
theorem all_nextR (hm : many = m) (h : Good many ss) (hst : GSt m ss.length st) : m_all_next [chD many ss, stD st] = .ok (rowD (nxN m ss st)) := by
  rw [all_next_ok hm h hst, nxN_d hm h hst]
end
end G
set_option Elab.async false
set_option linter.all false
set_option maxRecDepth 100000
set_option maxHeartbeats 1000000
namespace G
open PySem DL
local instance : DL.TabCtx := ⟨[]⟩
end G
set_option Elab.async false
set_option linter.all false
set_option maxRecDepth 100000
set_option maxHeartbeats 1000000
namespace G
open PySem DL
local instance : DL.TabCtx := ⟨[]⟩
theorem gNe_nat (a b : Nat) : gNe (natD a) (natD b) = some (.bool (!decide (a = b))) := gNe_P (j := 0) (k := 0) (.int _) (.int _) _ natD_inj
end G
set_option Elab.async false
set_option linter.all false
set_option maxRecDepth 100000
set_option maxHeartbeats 1000000
namespace G
open PySem DL
local instance : DL.TabCtx := ⟨[]⟩
theorem notT_ok {t : M Bool} {b : Bool} {ρ ρ' : Rho} (h : t ρ = .ok (b, ρ')) : notT t ρ = .ok (!b, ρ') := by simp [h]
theorem orT_f {t u : M Bool} {b : Bool} {ρ ρ1 ρ2 : Rho} (h : t ρ = .ok (false, ρ1)) (h2 : u ρ1 = .ok (b, ρ2)) : orT t u ρ = .ok (b, ρ2) := by simp [h, h2]
theorem orT_t {t u : M Bool} {ρ ρ1 : Rho} (h : t ρ = .ok (true, ρ1)) : orT t u ρ = .ok (true, ρ1) := by simp [h]
theorem andT_t {t u : M Bool} {b : Bool} {ρ ρ1 ρ2 : Rho} (h : t ρ = .ok (true, ρ1)) (h2 : u ρ1 = .ok (b, ρ2)) : andT t u ρ = .ok (b, ρ2) := by simp [h, h2]
theorem andT_f {t u : M Bool} {ρ ρ1 : Rho} (h : t ρ = .ok (false, ρ1)) : andT t u ρ = .ok (false, ρ1) := by simp [h]
end G
set_option Elab.async false
set_option linter.all false
set_option maxRecDepth 100000
set_option maxHeartbeats 1000000
namespace G
open PySem DL
local instance : DL.TabCtx := ⟨[]⟩
def bts (k : Nat) : List Nat := List.range' 3 k
section
variable {α : Type} [DecidableEq α]
/-- the first beat ahead that clashes with a beat -/
def clA (P : Nat → α) (L : Nat → Nat) (k : Nat) : Option Nat := (bts k).find? fun b => decide (P b = P (3 + k) ∧ L b ≠ L (3 + k))
/-- the first two beats that clash -/
def clO (P : Nat → α) (L : Nat → Nat) : Nat → Option (Nat × Nat)
  | 0 => none
  | k + 1 => match clO P L k with
    | some c => some c
    | none => (clA P L k).map fun b => (b, 3 + k)
def fndO (P : Nat → α) (L : Nat → Nat) (k : Nat) (q : α) : Option Nat := ((bts k).find? fun b => decide (P b = q)).map L
end
end G
set_option Elab.async false
set_option linter.all false
set_option maxRecDepth 100000
set_option maxHeartbeats 1000000
namespace G
open PySem DL
local instance : DL.TabCtx := ⟨[]⟩
end G
set_option Elab.async false
set_option linter.all false
set_option maxRecDepth 100000
set_option maxHeartbeats 1000000
namespace G
open PySem DL
local instance : DL.TabCtx := ⟨[]⟩
theorem ex_ok {a : M PyData} {f : PyData → SM} {d : PyData} {ρ ρ' : Rho} (h : a ρ = .ok (d, ρ')) : exO a f ρ = f d ρ' := by unfold exO; rw [h]
theorem ifN_f {t : M Bool} {f : SM} {ρ ρ' : Rho} (h : t ρ = .ok (false, ρ')) : ifO t f nxO ρ = .nx ρ' := (ifO_f h).trans rfl
end G
set_option Elab.async false
set_option linter.all false
set_option maxRecDepth 100000
set_option maxHeartbeats 1000000
namespace G
open PySem DL
local instance : DL.TabCtx := ⟨[]⟩
end G
set_option Elab.async false
set_option linter.all false
set_option maxRecDepth 100000
set_option maxHeartbeats 1000000
namespace G
open PySem DL
local instance : DL.TabCtx := ⟨[]⟩
theorem app_ok {i : Nat} {a : M PyData} {d : PyData} {ds : List PyData} {ρ ρ' : Rho} (h0 : ρ[i]? = some (.ow (.list ds))) (ha : a ρ = .ok (d, ρ')) (h1 : ρ'[i]? = some (.ow (.list ds))) (hl : ds.length < LIM) : appO i a ρ = .nx (ρ'.set i (.ow (.list (ds ++ [d])))) := by
  unfold appO
  rw [h0]
  simp only []
  rw [ex_ok ha]
  simp only [h1]
  exact if_pos hl
theorem add_l {a b : List PyData} (h : a.length + b.length ≤ 1000000) : gAdd (.list a) (.list b) = some (.list (a ++ b)) := by
  rw [show gAdd (.list a) (.list b) = if a.length + b.length ≤ LIM then some (.list (a ++ b)) else none from rfl, if_pos (by rw [e_LIM]; exact h)]
def prO (m : Nat) (os : List (Option Nat)) (a : Nat) : Nat := os.foldl (fun a o => a * if o.isNone = true then m else 1) a
section
variable {many : Int} {m : Nat} {ss : List Sg} {R : List (List Nat)} {es : List (Str × Int)}
def hmT (m : Nat) (P L : Nat → Nat) (Q K : Nat) : Nat := match clO P L K with
  | some _ => 0
  | none => prO m ((List.range Q).map fun q => fndO P L K q) 1
end
end G
set_option Elab.async false
set_option linter.all false
set_option maxRecDepth 100000
set_option maxHeartbeats 1000000
namespace G
open PySem DL
local instance : DL.TabCtx := ⟨[]⟩
end G
set_option Elab.async false
set_option linter.all false
set_option maxRecDepth 100000
set_option maxHeartbeats 1000000
namespace G
open PySem DL
local instance : DL.TabCtx := ⟨[]⟩
end G
set_option Elab.async false
set_option linter.all false
set_option maxRecDepth 100000
set_option maxHeartbeats 1000000
namespace G
open PySem DL
local instance : DL.TabCtx := ⟨[]⟩
theorem callL_ok {i : Nat} {m : PyData → List PyData → R (PyData × PyData)} {as : M (List PyData)} {ds : List PyData} {d dd dd' : PyData} {ρ : Rho} (h : ρ[i]? = some (.ow dd)) (ha : as ρ = .ok (ds, ρ)) (hm : m dd ds = .ok (d, dd')) : callL i m as ρ = .ok (d, ρ.set i (.ow dd')) := by
  simp [h, ha, hm]
end G
set_option Elab.async false
set_option linter.all false
set_option maxRecDepth 100000
set_option maxHeartbeats 1000000
namespace G
open PySem DL
local instance : DL.TabCtx := ⟨[]⟩
theorem xSh_ok {a : M PyData} {r : M (List Sl)} {d : PyData} {ss : List Sl} {ρ ρ1 ρ2 : Rho} (ha : a ρ = .ok (d, ρ1)) (hr : r ρ1 = .ok (ss, ρ2)) : xSh a r ρ = .ok (.sh d :: ss, ρ2) := by
  rw [e_xSh]; unfold M.bind; rw [ha]; simp only [hr]; rfl
theorem xN_ok {ρ : Rho} : xN ρ = .ok ([], ρ) := rfl
theorem par2_ok {i j : Nat} {a : M (List PyData)} {x y : PyData} {ρ ρ1 : Rho} (h : a ρ = .ok ([x, y], ρ1)) (hi : i < ρ1.length) (hj : j < ρ1.length) : par2 i j a ρ = .nx ((ρ1.set i (.sh x)).set j (.sh y)) := by
  unfold par2 exO; rw [h]; exact if_pos ⟨hi, hj⟩
theorem add_t {a b : List PyData} (h : a.length + b.length ≤ 1000000) : gAdd (.tuple a) (.tuple b) = some (.tuple (a ++ b)) := by
  rw [show gAdd (.tuple a) (.tuple b) = if a.length + b.length ≤ LIM then some (.tuple (a ++ b)) else none from rfl, if_pos (by rw [e_LIM]; exact h)]
section
variable {many : Int} {m : Nat} {ss : List Sg}
theorem roll_nat (s : Int × Int) {n : Nat} (h0 : 0 < n) (h1 : n < 1000000) : ∃ (r : Nat) (s' : Int × Int), m_law_roll (dcD s) [natD n] = .ok (natD r, dcD s') ∧ r < n := by
  obtain ⟨r, s', q1, q2, q3⟩ := roll_ex s (n : Int) (by omega) (by omega)
  refine ⟨r.toNat, s', ?_, by omega⟩
  have e : natD r.toNat = .int r := by unfold natD; rw [Int.toNat_of_nonneg q2]
  rw [e]; exact q1
end
end G
set_option Elab.async false
set_option linter.all false
set_option maxRecDepth 100000
set_option maxHeartbeats 1000000
namespace G
open PySem DL
local instance : DL.TabCtx := ⟨[]⟩
end G
set_option Elab.async false
set_option linter.all false
set_option maxRecDepth 100000
set_option maxHeartbeats 1000000
namespace G
open PySem DL
local instance : DL.TabCtx := ⟨[]⟩
theorem seq_ex {f g : SM} {ρ ρ1 : Rho} {Q : Rho → Prop} (h : f ρ = .nx ρ1) (k : ∃ ρ', g ρ1 = .nx ρ' ∧ Q ρ') : ∃ ρ', seqO f g ρ = .nx ρ' ∧ Q ρ' := by rw [seq_nx h]; exact k
theorem one_ex {f : SM} {ρ ρ1 : Rho} {Q : Rho → Prop} (h : f ρ = .nx ρ1) (k : Q ρ1) : ∃ ρ', f ρ = .nx ρ' ∧ Q ρ' := ⟨_, h, k⟩
theorem fn_exc {k n : Nat} {f : SM} {ds : List PyData} {c : Str} {ρ0 : Rho} (hk : ds.length = k) (h0 : start0 n ds = ρ0) (h : f ρ0 = .exc c) : fnRun k n f ds = .exc c := by
  subst h0; unfold fnRun; rw [if_pos hk, h]
theorem told_exc {f : M PyData} {c : Str} {ρ : Rho} (h : f (HD.forget ρ) = .exc c) (hc : c ∈ HD.excs := by decide) : HD.toldM f ρ = .ok (HD.refusedD c, ρ) := by
  unfold HD.toldM; rw [h]; exact if_pos hc
theorem if_exc {t : M Bool} {g : SM} {c : Str} {ρ ρ' : Rho} (h : t ρ = .ok (true, ρ')) : ifO t (raiseO c) g ρ = .exc c := by rw [ifO_t h]; rfl
theorem isi_ok {T : Ty} {a : M PyData} {d : PyData} {ρ ρ' : Rho} (h : a ρ = .ok (d, ρ')) : isi T a ρ = .ok (.bool (isD T d), ρ') := by rw [e_isi, e_bind, h]; rfl
theorem isi_b {T : Ty} {a : M PyData} {d : PyData} {b : Bool} {ρ ρ' : Rho} (h : a ρ = .ok (d, ρ')) (hb : isD T d = b) : isi T a ρ = .ok (.bool b, ρ') := by rw [← hb]; exact isi_ok h
theorem andV_f {a b : M PyData} {ρ ρ1 : Rho} (h : a ρ = .ok (.bool false, ρ1)) : andV a b ρ = .ok (.bool false, ρ1) := by simp [h]
theorem andV_t {a b : M PyData} {d : PyData} {ρ ρ1 ρ2 : Rho} (h : a ρ = .ok (.bool true, ρ1)) (h2 : b ρ1 = .ok (d, ρ2)) : andV a b ρ = .ok (d, ρ2) := by simp [h, h2]
theorem notV_ok {a : M PyData} {b : Bool} {ρ ρ1 : Rho} (h : a ρ = .ok (.bool b, ρ1)) : notV a ρ = .ok (.bool (!b), ρ1) := by simp [h]
theorem ne_same {k : Nat} {d : PyData} (h : P k d) (hk : k ≤ 64 := by decide) : gNe d d = some (.bool false) := gNe_P h h True (by simp) hk hk
theorem P_ref {c : Str} (h : (PyData.str c).canLay0 = true := by decide +kernel) : P 1 (HD.refusedD c) := .tuple fun x hx => by
  rcases List.mem_cons.mp hx with rfl | hx
  · exact .str (by decide +kernel)
  · rcases List.mem_cons.mp hx with rfl | hx
    · exact .str h
    · cases hx
section
variable {many : Int} {m : Nat} {ss : List Sg} {R : List (List Nat)}
theorem name_exc1 {C x : PyData} (h : isD .str x = false) : m_need_name [C, x] = .exc "BadName" := by
  refine fn_exc (ρ0 := [.sh C, .sh x]) rfl rfl ?_
  rw [b_need_name]
  exact if_exc (orT_t (notT_ok (b := false) (tst_ok (isi_b (vN_ok rfl) h))))
theorem name_exc2 (h : Good many ss) {x : Str} (hp : (PyData.str x).canLay0 = true) (hx : x ∉ ss.map (·.name)) : m_need_name [chD many ss, .str x] = .exc "BadName" := by
  have k := all_names_ok (many := many) (ss := ss) (by have := h.l4; rw [e_LIM]; omega)
  have n1 : gNotIn (.str x) (.list (ss.map fun s => .str s.name)) = some (.bool (!decide False)) := by
    refine gNotIn_P (j := 0) (k := 0) (.str hp) (fun y hy => ?_) False ?_
    · obtain ⟨s, hs, rfl⟩ := List.mem_map.mp hy
      exact .str (h.sg s hs).word.2
    · constructor
      · intro hm
        obtain ⟨s, hs, e⟩ := List.mem_map.mp hm
        cases e
        exact hx (List.mem_map.mpr ⟨s, hs, rfl⟩)
      · exact False.elim
  generalize chD many ss = C at *
  refine fn_exc (ρ0 := [.sh C, .sh (.str x)]) rfl rfl ?_
  rw [b_need_name]
  exact if_exc (orT_f (notT_ok (b := true) (tst_ok (isi_b (vN_ok rfl) rfl))) (tst_ok (op2_ok (vN_ok rfl) (callM_ok (aC1 (vN_ok rfl)) k) n1)))
end
end G
set_option Elab.async false
set_option linter.all false
set_option maxRecDepth 100000
set_option maxHeartbeats 1000000
namespace G
open PySem DL
local instance : DL.TabCtx := ⟨[]⟩
end G
set_option Elab.async false
set_option linter.all false
set_option maxRecDepth 100000
set_option maxHeartbeats 1000000
namespace G
open PySem DL
local instance : DL.TabCtx := ⟨[]⟩
theorem whole_no {d : PyData} (h : isD .int d = false ∨ isD .bool d = true) (a b : PyData) : m_is_whole [d, a, b] = .ok (.bool false) := by
  refine fn_rt' (ρ0 := [.sh d, .sh a, .sh b]) rfl rfl (ρ' := [.sh d, .sh a, .sh b]) ?_
  rw [b_is_whole]
  cases hi : isD .int d with
  | false => exact ret_ok (andV_f (isi_b (vN_ok rfl) hi))
  | true =>
    rcases h with h | h
    · rw [hi] at h; cases h
    · exact ret_ok (andV_t (isi_b (vN_ok rfl) hi) (andV_f (notV_ok (b := true) (isi_b (vN_ok rfl) h))))
theorem lines_map {α : Type} (xs : List α) (enc : α → PyData) (p : α → Bool) (k many : Int) (hl : xs.length ≤ 1000) (h : ∀ x ∈ xs, m_is_whole [enc x, .int 0, .int (many - 1)] = .ok (.bool (p x))) :
    m_are_lines [.tuple (xs.map enc), .int k, .int many] = .ok (.bool (decide ((xs.length : Int) = k) && xs.all p)) := by
  have ln : gLen [PyData.tuple (xs.map enc)] = some (.int (xs.length : Nat)) := by rw [e_len_t, List.length_map]
  have ge : gEq (.int (xs.length : Nat)) (.int k) = some (.bool (decide ((xs.length : Int) = k))) := gEq_int _ _
  have lc : lcM [3] (seqI (vN 0)) (setS 3) yesT (callM m_is_whole (aC (vN 3) (aC (cD (.int 0)) (aC (op2 gSub (vN 2) (cD (.int 1))) aN)))) [.sh (.tuple (xs.map enc)), .sh (.int k), .sh (.int many), .no] = .ok (.list (xs.map fun x => .bool (p x)), [.sh (.tuple (xs.map enc)), .sh (.int k), .sh (.int many), .no]) := by
    refine lc_map xs enc (fun x => .bool (p x)) (seqI_t (vN_ok rfl)) rfl (by rw [e_LIM]; omega) fun x hx => ?_
    exact ⟨[.sh (.tuple (xs.map enc)), .sh (.int k), .sh (.int many), .sh (enc x)], rfl, callM_ok (aC_ok (vN_ok rfl) (aC_ok cD_ok (aC1 (op2_ok (vN_ok rfl) cD_ok rfl)))) (h x hx), rfl⟩
  have al := all_map p xs
  refine fn_rt' (ρ0 := [.sh (.tuple (xs.map enc)), .sh (.int k), .sh (.int many), .no]) rfl rfl (ρ' := [.sh (.tuple (xs.map enc)), .sh (.int k), .sh (.int many), .no]) ?_
  rw [b_are_lines]
  refine ret_ok (andV_t (isi_b (T := .tuple) (vN_ok rfl) rfl) ?_)
  cases hd : decide ((xs.length : Int) = k) with
  | false =>
    rw [hd] at ge
    exact andV_f (op2_ok (opA_ok (aC1 (vN_ok rfl)) ln) (vN_ok rfl) ge)
  | true =>
    rw [hd] at ge
    exact andV_t (op2_ok (opA_ok (aC1 (vN_ok rfl)) ln) (vN_ok rfl) ge) (opA_ok (aC1 lc) al)
theorem lines_no {d : PyData} (h : isD .tuple d = false) (a b : PyData) : m_are_lines [d, a, b] = .ok (.bool false) := by
  refine fn_rt' (ρ0 := [.sh d, .sh a, .sh b, .no]) rfl rfl (ρ' := [.sh d, .sh a, .sh b, .no]) ?_
  rw [b_are_lines]
  exact ret_ok (andV_f (isi_b (vN_ok rfl) h))
/-- numbers, or other things: which are lines -/
theorem lines_opt (xs : List (Option Int)) (k many : Int) (hl : xs.length ≤ 1000) {z : PyData} (hz : isD .int z = false ∨ isD .bool z = true) :
    m_are_lines [.tuple (xs.map fun o => match o with | some i => .int i | none => z), .int k, .int many] = .ok (.bool (decide ((xs.length : Int) = k) && xs.all fun o => match o with | some i => decide (0 ≤ i) && decide (i ≤ many - 1) | none => false)) := by
  refine lines_map xs _ _ k many hl fun o _ => ?_
  cases o with
  | some i => exact is_whole_int i 0 (many - 1)
  | none => exact whole_no hz _ _
section
variable {many : Int} {m : Nat} {ss : List Sg}
theorem gst_no (C : PyData) {d : PyData} (h : isD .tuple d = false) : m_is_good_standing [C, d] = .ok (.bool false) := by
  refine fn_rt' (ρ0 := [.sh C, .sh d, .no]) rfl rfl (ρ' := [.sh C, .sh d, .no]) ?_
  rw [b_is_good_standing]
  exact seq_rt ((ifO_t (orT_t (notT_ok (b := false) (tst_ok (isi_b (vN_ok rfl) h))))).trans (ret_ok cD_ok))
theorem gst_len {ds : List PyData} (hl : ds.length ≠ ss.length) : m_is_good_standing [chD many ss, .tuple ds] = .ok (.bool false) := by
  have ln2 : gLen [.tuple (ss.map Sg.d)] = some (natD ss.length) := by rw [e_len_t, List.length_map]
  have ln1 : gLen [PyData.tuple ds] = some (natD ds.length) := e_len_t
  have i1 : gIx (chD many ss) (.int 1) = some (.tuple (ss.map Sg.d)) := rfl
  have ne : gNe (natD ds.length) (natD ss.length) = some (.bool true) := by rw [gNe_nat, decide_eq_false hl]; rfl
  refine fn_rt' (ρ0 := [.sh (chD many ss), .sh (.tuple ds), .no]) rfl rfl (ρ' := [.sh (chD many ss), .sh (.tuple ds), .no]) ?_
  rw [b_is_good_standing]
  exact seq_rt ((ifO_t (orT_f (notT_ok (b := true) (tst_ok (isi_b (T := .tuple) (vN_ok rfl) rfl))) (tst_ok (op2_ok (opA_ok (aC1 (vN_ok rfl)) ln1) (opA_ok (aC1 (op2_ok (vN_ok rfl) cD_ok i1)) ln2) ne)))).trans (ret_ok cD_ok))
theorem gst_rep (h1 : 1 ≤ ss.length) (h4 : ss.length ≤ 4) {x : PyData} (hx : m_are_lines [x, .int 3, .int many] = .ok (.bool false)) : m_is_good_standing [chD many ss, .tuple (List.replicate ss.length x)] = .ok (.bool false) := by
  have ln2 : gLen [.tuple (ss.map Sg.d)] = some (natD ss.length) := by rw [e_len_t, List.length_map]
  have ln1 : gLen [PyData.tuple (List.replicate ss.length x)] = some (natD ss.length) := by rw [e_len_t, List.length_replicate]
  have i1 : gIx (chD many ss) (.int 1) = some (.tuple (ss.map Sg.d)) := rfl
  have i0 : gIx (chD many ss) (.int 0) = some (.int many) := rfl
  have ne : gNe (natD ss.length) (natD ss.length) = some (.bool false) := by rw [gNe_nat, decide_eq_true rfl]; rfl
  have lc : lcM [2] (seqI (vN 1)) (setS 2) yesT (callM m_are_lines (aC (vN 2) (aC (cD (.int 3)) (aC (op2 gIx (vN 0) (cD (.int 0))) aN)))) [.sh (chD many ss), .sh (.tuple (List.replicate ss.length x)), .no] = .ok (.list ((List.replicate ss.length ()).map fun _ => .bool false), [.sh (chD many ss), .sh (.tuple (List.replicate ss.length x)), .no]) := by
    refine lc_map (List.replicate ss.length ()) (fun _ => x) (fun _ => .bool false) (seqI_t ?_) rfl (by rw [List.length_replicate, e_LIM]; omega) fun u _ => ?_
    · rw [List.map_replicate]; exact vN_ok rfl
    · exact ⟨[.sh (chD many ss), .sh (.tuple (List.replicate ss.length x)), .sh x], rfl, callM_ok (aC_ok (vN_ok rfl) (aC_ok cD_ok (aC1 (op2_ok (vN_ok rfl) cD_ok i0)))) hx, rfl⟩
  have al : gAll [.list ((List.replicate ss.length ()).map fun _ => .bool false)] = some (.bool false) := by
    rw [all_map (fun _ => false)]
    have : (List.replicate ss.length ()).all (fun _ => false) = false := by
      rw [List.all_eq_false]
      exact ⟨(), List.mem_replicate.mpr ⟨by omega, rfl⟩, by simp⟩
    rw [this]
  refine fn_rt' (ρ0 := [.sh (chD many ss), .sh (.tuple (List.replicate ss.length x)), .no]) rfl rfl (ρ' := [.sh (chD many ss), .sh (.tuple (List.replicate ss.length x)), .no]) ?_
  rw [b_is_good_standing, seq_nx (ifN_f (orT_f (notT_ok (b := true) (tst_ok (isi_b (T := .tuple) (vN_ok rfl) rfl))) (tst_ok (op2_ok (opA_ok (aC1 (vN_ok rfl)) ln1) (opA_ok (aC1 (op2_ok (vN_ok rfl) cD_ok i1)) ln2) ne))))]
  exact ret_ok (opA_ok (aC1 lc) al)
end
end G
set_option Elab.async false
set_option linter.all false
set_option maxRecDepth 100000
set_option maxHeartbeats 1000000
namespace G
open PySem DL
local instance : DL.TabCtx := ⟨[]⟩
abbrev Sh (d : PyData) : Prop := SeqAt.shaped d = true
theorem lay_mem : ∀ {xs : List PyData}, PyData.canLayAll0 xs = true → ∀ x ∈ xs, x.canLay0 = true
  | x :: xs, h, y, hy => by
    have h' : (PyData.canLay0 x && PyData.canLayAll0 xs) = true := h
    rw [Bool.and_eq_true] at h'
    rcases List.mem_cons.mp hy with rfl | hy
    · exact h'.1
    · exact lay_mem h'.2 y hy
theorem depth_mem : ∀ {xs : List PyData}, ∀ x ∈ xs, x.depth ≤ PyData.depthAll xs
  | x :: xs, y, hy => by
    simp only [PyData.depthAll]
    rcases List.mem_cons.mp hy with rfl | hy
    · omega
    · have := depth_mem y hy; omega
theorem Sh.mem {xs : List PyData} (h : Sh (.tuple xs)) : ∀ x ∈ xs, Sh x := fun x hx => by
  unfold Sh SeqAt.shaped at h ⊢
  rw [Bool.and_eq_true, decide_eq_true_iff, PyData.canLay0, PyData.depth] at h
  rw [Bool.and_eq_true, decide_eq_true_iff]
  exact ⟨lay_mem h.1 x hx, Nat.le_trans (depth_mem x hx) (by omega)⟩
def inR (many : Int) : PyData → Bool
  | .int i => decide (0 ≤ i) && decide (i ≤ many - 1)
  | _ => false
def inN (nm : List Str) : PyData → Bool
  | .str s => nm.any (· == s)
  | _ => false
def W (nm : List Str) (many : Int) : Nat → PyData → Bool
  | 0, _ => false
  | _ + 1, .tuple [.str s] => s == "one"
  | n + 1, .tuple [.str s, a] => s == "not" && W nm many n a
  | n + 1, .tuple [.str s, a, b] => if s = "sings" then inN nm a && inR many b else s == "both" && (W nm many n a && W nm many n b)
  | _ + 1, _ => false
end G
set_option Elab.async false
set_option linter.all false
set_option maxRecDepth 100000
set_option maxHeartbeats 1000000
namespace G
open PySem DL
local instance : DL.TabCtx := ⟨[]⟩
end G
set_option Elab.async false
set_option linter.all false
set_option maxRecDepth 100000
set_option maxHeartbeats 1000000
namespace G
open PySem DL
local instance : DL.TabCtx := ⟨[]⟩
end G
set_option Elab.async false
set_option linter.all false
set_option maxRecDepth 100000
set_option maxHeartbeats 1000000
namespace G
open PySem DL
local instance : DL.TabCtx := ⟨[]⟩
end G
set_option Elab.async false
set_option linter.all false
set_option maxRecDepth 100000
set_option maxHeartbeats 1000000
namespace G
open PySem DL
local instance : DL.TabCtx := ⟨[]⟩
end G
set_option Elab.async false
set_option linter.all false
set_option maxRecDepth 100000
set_option maxHeartbeats 1000000
namespace G
open PySem DL
local instance : DL.TabCtx := ⟨[]⟩
end G
set_option Elab.async false
set_option linter.all false
set_option maxRecDepth 100000
set_option maxHeartbeats 1000000
namespace G
open PySem DL
local instance : DL.TabCtx := ⟨[]⟩
end G
set_option Elab.async false
set_option linter.all false
set_option maxRecDepth 100000
set_option maxHeartbeats 1000000
namespace G
open PySem DL
local instance : DL.TabCtx := ⟨[]⟩
theorem dget2_ok {a b c : M PyData} {ps : List (PyData × PyData)} {k x : PyData} {ρ ρ1 ρ2 ρ3 : Rho} (ha : a ρ = .ok (.dict ps, ρ1)) (hb : b ρ1 = .ok (k, ρ2)) (hc : c ρ2 = .ok (x, ρ3)) (hk : keyOk ps k = true) : dget2 a b c ρ = .ok ((dlook ps k).getD x, ρ3) := by
  simp [ha, hb, hc, gGet2, hk]
theorem keyEq_str (a b : Str) : keyEqD (.str a) (.str b) = decide (a = b) := by
  unfold keyEqD
  rw [nkey, nkey]
  by_cases e : a = b
  · subst e; simp
  · rw [decide_eq_false e]; exact decide_eq_false fun z => e (by injection z with z; injection z)
def strP (p : Str × Nat) : PyData × PyData := (.str p.1, natD p.2)
theorem keyOk_strs (xs : List (Str × Nat)) (y : Str) : keyOk (xs.map strP) (.str y) = true := by
  unfold keyOk
  refine Bool.or_eq_true_iff.mpr (.inl (Bool.and_eq_true_iff.mpr ⟨rfl, ?_⟩))
  rw [List.all_eq_true]
  intro p hp
  obtain ⟨q, _, rfl⟩ := List.mem_map.mp hp
  rfl
theorem dlook_strs (xs : List (Str × Nat)) (y : Str) : dlook (xs.map strP) (.str y) = ((xs.find? fun p => decide (p.1 = y)).map (·.2)).map natD := by
  unfold dlook
  induction xs with
  | nil => rfl
  | cons x xs ih =>
    have ek : keyEqD (strP x).1 (.str y) = decide (x.1 = y) := keyEq_str _ _
    rw [List.map_cons]
    by_cases e : x.1 = y
    · rw [List.find?_cons_of_pos (by rw [ek, decide_eq_true e]), List.find?_cons_of_pos (by exact decide_eq_true e)]; rfl
    · rw [List.find?_cons_of_neg (by rw [ek, decide_eq_false e]; exact Bool.false_ne_true), List.find?_cons_of_neg (by rw [decide_eq_false e]; exact Bool.false_ne_true)]; exact ih
def ldOf (L : List Str) (t : List Nat) (x : Str) : Option Nat := ((L.zip t).find? fun p => decide (p.1 = x)).map (·.2)
def ldC (L : List Str) (t : List Nat) : Nat → Str → Option Nat := fun _ => ldOf L t
theorem gLZip_map {α β : Type} (f : α → PyData) (g : β → PyData) (xs : List α) (ys : List β) (hl : xs.length ≤ 1000000) : gLZip [.list (xs.map f), .tuple (ys.map g)] = some (.list ((xs.zip ys).map fun p => .tuple [f p.1, g p.2])) := by
  show (if (xs.map f).length ≤ LIM then some (PyData.list (zipD (xs.map f) (ys.map g))) else none) = _
  rw [if_pos (by rw [List.length_map, e_LIM]; exact hl), zipD_map2]
section
variable {many : Int} {m : Nat} {ss : List Sg} {st : List (List Nat)}
theorem zip_self {α β γ : Type} (f : α → β) (g : α → γ) (xs : List α) : (xs.map f).zip (xs.map g) = xs.map fun x => (f x, g x) := by
  induction xs with
  | nil => rfl
  | cons x xs ih => rw [List.map_cons, List.map_cons, List.zip_cons_cons, ih]; rfl
theorem names_next (m : Nat) (ss : List Sg) (st : List (List Nat)) (hl : ss.length ≤ 1000000) : gLZip [.list (ss.map fun s => .str s.name), rowD (nxN m ss st)] = some (.list (ss.map fun s => .tuple [.str s.name, natD (sem m s (hrd ss st)).toNat])) := by
  have e : nxN m ss st = ss.map fun s => (sem m s (hrd ss st)).toNat := by unfold nxN nxt; rw [List.map_map]; rfl
  rw [e]
  have := gLZip_map (fun s : Sg => PyData.str s.name) natD ss (ss.map fun s => (sem m s (hrd ss st)).toNat) hl
  rw [show (PyData.tuple ((ss.map fun s => (sem m s (hrd ss st)).toNat).map natD)) = rowD (ss.map fun s => (sem m s (hrd ss st)).toNat) from rfl] at this
  rw [this]
  have z := zip_self (fun s : Sg => s) (fun s => (sem m s (hrd ss st)).toNat) ss
  rw [List.map_id'] at z
  rw [z, List.map_map]; rfl
def nx (m : Nat) (ss : List Sg) (L : List Str) (st : List (List Nat)) (t : List Nat) : List (List Nat) := beh st (lrow m ss (ldC L t) 0 st)
end
end G
set_option Elab.async false
set_option linter.all false
set_option maxRecDepth 100000
set_option maxHeartbeats 1000000
namespace G
open PySem DL
local instance : DL.TabCtx := ⟨[]⟩
section
variable {many : Int} {m : Nat} {ss : List Sg} {st : List (List Nat)} {L : List Str}
abbrev St := List (List Nat)
end
end G
set_option Elab.async false
set_option linter.all false
set_option maxRecDepth 100000
set_option maxHeartbeats 1000000
namespace G
open PySem DL
local instance : DL.TabCtx := ⟨[]⟩
def fresh : List St → List St → List St
  | _, [] => []
  | F, s :: R => if s ∈ F then fresh F R else s :: fresh (F ++ [s]) R
end G
set_option Elab.async false
set_option linter.all false
set_option maxRecDepth 100000
set_option maxHeartbeats 1000000
namespace G
open PySem DL
local instance : DL.TabCtx := ⟨[]⟩
def foldE {α σ β : Type} (f : α → σ → β ⊕ σ) : List α → σ → β ⊕ σ
  | [], c => .inr c
  | a :: xs, c => match f a c with
    | .inl q => .inl q
    | .inr c' => foldE f xs c'
abbrev Pth := List (List Nat)
section
variable (good : St → List Nat → Bool) (nxt : St → List Nat → St) (T : List (List Nat))
def scan1 (p : Pth) (s : St) (t : List Nat) (c : List St × List (Pth × St)) : Pth ⊕ (List St × List (Pth × St)) :=
  if good s t = true then .inl (p ++ [t]) else if nxt s t ∈ c.1 then .inr c else .inr (c.1 ++ [nxt s t], c.2 ++ [(p ++ [t], nxt s t)])
def lvl (H : List (Pth × St)) (c : List St × List (Pth × St)) : Pth ⊕ (List St × List (Pth × St)) := foldE (fun e c => foldE (scan1 good nxt e.1 e.2) T c) H c
variable (P : St → Prop) (st : St)
variable {good nxt T P st}
end
end G
set_option Elab.async false
set_option linter.all false
set_option maxRecDepth 100000
set_option maxHeartbeats 1000000
namespace G
open PySem DL
local instance : DL.TabCtx := ⟨[]⟩
end G
set_option Elab.async false
set_option linter.all false
set_option maxRecDepth 100000
set_option maxHeartbeats 1000000
namespace G
open PySem DL
local instance : DL.TabCtx := ⟨[]⟩
end G
set_option Elab.async false
set_option linter.all false
set_option maxRecDepth 100000
set_option maxHeartbeats 1000000
namespace G
open PySem DL
local instance : DL.TabCtx := ⟨[]⟩
section
variable {many : Int} {m : Nat} {ss tt : List Sg} {st : St} {xs : List (Nat × Str × Nat)}
theorem need_beats_ok {N : Nat} (hN : N ≤ 500) : m_need_beats [natD N] = .ok .none := by
  show m_need_beats [.int (N : Nat)] = _
  have h0 : (0 : Int) ≤ (N : Nat) := by omega
  have h1 : ((N : Nat) : Int) ≤ 500 := by omega
  generalize ((N : Nat) : Int) = z at *
  simp [m_need_beats, b_need_beats, fnRun, start0, is_whole_int, h0, h1]
end
end G
set_option Elab.async false
set_option linter.all false
set_option maxRecDepth 100000
set_option maxHeartbeats 1000000
namespace G
open PySem DL
local instance : DL.TabCtx := ⟨[]⟩
end G
set_option Elab.async false
set_option linter.all false
set_option maxRecDepth 100000
set_option maxHeartbeats 1000000
namespace G
open PySem DL
local instance : DL.TabCtx := ⟨[]⟩
open PySem.W (keyToks keyToksAll alike alikeAll dataLe)
end G
set_option Elab.async false
set_option linter.all false
set_option maxRecDepth 100000
set_option maxHeartbeats 1000000
namespace G
open PySem DL
local instance : DL.TabCtx := ⟨[]⟩
section
variable (good : St → List Nat → Bool) (nxt : St → List Nat → St) (T : List (List Nat))
abbrev KX := List St × List (Pth × St)
variable {good nxt T}
end
end G
set_option Elab.async false
set_option linter.all false
set_option maxRecDepth 100000
set_option maxHeartbeats 1000000
namespace G
open PySem DL
local instance : DL.TabCtx := ⟨[]⟩
end G
set_option Elab.async false
set_option linter.all false
set_option maxRecDepth 100000
set_option maxHeartbeats 1000000
namespace G
open PySem DL
local instance : DL.TabCtx := ⟨[]⟩
section
variable {good : St → List Nat → Bool} {nxt : St → List Nat → St} {T : List (List Nat)} {P : St → Prop} {st : St} {fl : List Nat → List Nat}
structure DI (nxt : St → List Nat → St) (T : List (List Nat)) (P : St → Prop) (st : St) (fl : List Nat → List Nat) (d : Nat) (H : List (Pth × St)) (K : List St) : Prop where
  hd : ∀ e ∈ H, e.1.length ≤ d
  sc : ∀ w ∈ K, w = st ∨ ∃ s, P s ∧ ∃ t ∈ T, w = nxt s t ∧ ∀ u ∈ T, nxt s u ∈ K
  ln : 2 * d + 1 ≤ K.length ∨ (2 * d ≤ K.length ∧ ∃ s, P s ∧ ∃ t ∈ T, nxt s t ∈ K ∧ nxt s (fl t) = st)
end
end G
set_option Elab.async false
set_option linter.all false
set_option maxRecDepth 100000
set_option maxHeartbeats 1000000
namespace G
open PySem DL
local instance : DL.TabCtx := ⟨[]⟩
end G
set_option Elab.async false
set_option linter.all false
set_option maxRecDepth 100000
set_option maxHeartbeats 1000000
namespace G
open PySem DL
local instance : DL.TabCtx := ⟨[]⟩
end G
set_option Elab.async false
set_option linter.all false
set_option maxRecDepth 100000
set_option maxHeartbeats 1000000
namespace G
open PySem DL
local instance : DL.TabCtx := ⟨[]⟩
end G
set_option Elab.async false
set_option linter.all false
set_option maxRecDepth 100000
set_option maxHeartbeats 1000000
namespace G
open PySem DL
local instance : DL.TabCtx := ⟨[]⟩
open PySem.W (alike alikeAll)
end G
set_option Elab.async false
set_option linter.all false
set_option maxRecDepth 100000
set_option maxHeartbeats 1000000
namespace G
open PySem DL
local instance : DL.TabCtx := ⟨[]⟩
section
variable {ρ ρ1 ρ' : Rho} {i k n : Nat} {o o' : Ob} {d : PyData} {ds : List PyData} {c : Str}
theorem obM_ok {f : Ob → R PyData} (h : ρ[i]? = some (.ob o)) (hk : f o = .ok d) : obM i f ρ = .ok (d, ρ) := by
  unfold obM; rw [h]; show M.lift (f o) ρ = _; unfold M.lift; rw [hk]
theorem appS_ok {get : Ob → List PyData} {seto : Ob → List PyData → Ob} {a : M PyData} (h : ρ[i]? = some (.ob o)) (ha : a ρ = .ok (d, ρ)) (hl : (get o).length < LIM) : appS i get seto a ρ = .nx (ρ.set i (.ob (seto o (get o ++ [d])))) := by
  unfold appS; rw [h]; show exO a _ ρ = _; unfold exO; rw [ha]; show (match ρ[i]? with | some (.ob o) => _ | _ => _) = _
  rw [h]; exact if_pos hl
theorem setFO_ok {put : Ob → PyData → Ob} {a : M PyData} (h : ρ[i]? = some (.ob o)) (ha : a ρ = .ok (d, ρ)) : setFO i put a ρ = .nx (ρ.set i (.ob (put o d))) := by
  unfold setFO exO; rw [ha]; show (match ρ[i]? with | some (.ob o) => _ | _ => _) = _; rw [h]
theorem cmpS_ok {get : Ob → List PyData} {g : PyData → PyData → Option PyData} {b : M PyData} {y : PyData} {z : Bool} (h : ρ[i]? = some (.ob o)) (hb : b ρ = .ok (y, ρ)) (hg : g (.list (get o)) y = some (.bool z)) : cmpS get i g b ρ = .ok (.bool z, ρ) := by
  unfold cmpS M.bind
  rw [obM_ok (d := .list (get o)) h rfl]
  simp only [hb]
  show M.opt ((g (.list (get o)) y).bind onlyB) ρ = _
  rw [hg]; rfl
theorem methO_ok {m : Ob → List PyData → R PyData} {fs : M (List PyData)} (h : ρ[i]? = some (.ob o)) (ha : fs ρ = .ok (ds, ρ)) (hm : m o ds = .ok d) : methO i m fs ρ = .ok (d, ρ) := by
  unfold methO; rw [h]; show M.bind fs _ ρ = _; unfold M.bind; rw [ha]; exact obM_ok h hm
theorem methO_exc {m : Ob → List PyData → R PyData} {fs : M (List PyData)} (h : ρ[i]? = some (.ob o)) (ha : fs ρ = .ok (ds, ρ)) (hm : m o ds = .exc c) : methO i m fs ρ = .exc c := by
  unfold methO; rw [h]; show M.bind fs _ ρ = _; unfold M.bind; rw [ha]; show obM i _ ρ = _; unfold obM; rw [h]; show M.lift (m o ds) ρ = _; unfold M.lift; rw [hm]
theorem methI_ok {m : Ob → List PyData → R (PyData × Ob)} {fs : M (List PyData)} (h : ρ[i]? = some (.ob o)) (ha : fs ρ = .ok (ds, ρ)) (hm : m o ds = .ok (d, o')) : methI i m fs ρ = .ok (d, ρ.set i (.ob o')) := by
  unfold methI; rw [h]; show M.bind fs _ ρ = _; unfold M.bind; rw [ha]; show (match ρ[i]? with | some (.ob o) => _ | _ => _) = _; rw [h]; show (match m o ds with | .ok (d, o') => _ | .exc c => _ | .bad => _) = _; rw [hm]
theorem methI_okL {m : Ob → List PyData → R (PyData × Ob)} {fs : M (List PyData)} (h0 : ∃ o, ρ[i]? = some (.ob o)) (ha : fs ρ = .ok (ds, ρ1)) (h : ρ1[i]? = some (.ob o)) (hm : m o ds = .ok (d, o')) : methI i m fs ρ = .ok (d, ρ1.set i (.ob o')) := by
  obtain ⟨o0, h0⟩ := h0
  unfold methI; rw [h0]; show M.bind fs _ ρ = _; unfold M.bind; rw [ha]; show (match ρ1[i]? with | some (.ob o) => _ | _ => _) = _; rw [h]; show (match m o ds with | .ok (d, o') => _ | .exc c => _ | .bad => _) = _; rw [hm]
theorem newO_ok {m : List PyData → R Ob} {fs : M (List PyData)} (ha : fs ρ = .ok (ds, ρ)) (hm : m ds = .ok o) (hi : i < ρ.length) : newO i m fs ρ = .nx (ρ.set i (.ob o)) := by
  unfold newO exO; rw [ha]; show (match m ds with | .ok o => _ | .exc c => _ | .bad => _) = _; rw [hm]; exact if_pos hi
theorem makeX_exc {m : List PyData → R Ob} {fs : M (List PyData)} (ha : fs ρ = .ok (ds, ρ)) (hm : m ds = .exc c) : makeX m fs ρ = .exc c := by
  unfold makeX M.bind; rw [ha]; show (match m ds with | .exc c => _ | _ => _) = _; rw [hm]
theorem linesO_ok {j : Nat} (h : ρ[i]? = some (.ob o)) : linesO i j ρ = .nx (ρ.set j (.ow (.list o.sung))) := by
  unfold linesO; rw [h]
theorem toldI_exc {m : Ob → List PyData → R (PyData × Ob)} {fs : M (List PyData)} (h0 : ∃ o, ρ[i]? = some (.ob o)) (ha : fs (forgetO ρ) = .ok (ds, ρ1)) (h : ρ1[i]? = some (.ob o)) (hm : m o ds = .exc c) (hc : c ∈ HD.excs := by decide) : toldI i m fs ρ = .ok (HD.refusedD c, ρ) := by
  obtain ⟨o0, h0⟩ := h0
  unfold toldI; rw [h0]; show (match fs (forgetO ρ) with | .ok (ds, ρ1) => _ | _ => _) = _; rw [ha]; show (match ρ1[i]? with | some (.ob o) => _ | _ => _) = _; rw [h]
  show (match m o ds with | .ok (d, o') => _ | .exc c => _ | .bad => _) = _; rw [hm]; exact if_pos hc
theorem fnI_rt {f : SA} {ρ0 : Rho} (hk : ds.length = k) (h0 : startO n o ds = ρ0) (hf : f ρ0 = .b (.rt d ρ')) (hq : ρ'[0]? = some (.ob o')) : fnRunI k n f o ds = .ok (d, o') := by
  subst h0; unfold fnRunI; rw [if_pos hk, hf]; show endO ρ' d = _; unfold endO; rw [hq]
theorem fnI_nx {f : SA} {ρ0 : Rho} (hk : ds.length = k) (h0 : startO n o ds = ρ0) (hf : f ρ0 = .b (.nx ρ')) (hq : ρ'[0]? = some (.ob o')) : fnRunI k n f o ds = .ok (.none, o') := by
  subst h0; unfold fnRunI; rw [if_pos hk, hf]; show endO ρ' .none = _; unfold endO; rw [hq]
theorem fnI_exc {f : SA} {ρ0 : Rho} (hk : ds.length = k) (h0 : startO n o ds = ρ0) (hf : f ρ0 = .a (.exc c)) : fnRunI k n f o ds = .exc c := by
  subst h0; unfold fnRunI; rw [if_pos hk, hf]
theorem fnO_exc {f : SM} {ρ0 : Rho} (hk : ds.length = k) (h0 : startO n o ds = ρ0) (hf : f ρ0 = .exc c) : fnRunO k n f o ds = .exc c := by
  subst h0; unfold fnRunO; rw [if_pos hk, hf]
theorem seqA_nx {f : SM} {g : SA} (h : f ρ = .nx ρ') : seqA f g ρ = g ρ' := by unfold seqA; rw [h]
theorem seqA_exc {f : SM} {g : SA} (h : f ρ = .exc c) : seqA f g ρ = .a (.exc c) := by unfold seqA; rw [h]
theorem toB_ok {f : SM} {r : O} (h : f ρ = r) : toB f ρ = .b r := by unfold toB; rw [h]
end
theorem lines_ok (o : Ob) : m_Running_lines o [] = .ok (.list o.sung) := rfl
theorem standing_ok (o : Ob) : m_Running_standing o [] = .ok o.stand := rfl
theorem choir_ok (o : Ob) : m_Running_choir o [] = .ok o.crew := rfl
def remO (o : Ob) (d : PyData) : Ob := { o with past := o.past ++ [.tuple [o.crew, o.stand, natD o.sung.length]], deeds := o.deeds ++ [d] }
theorem remember_ok (o : Ob) (d : PyData) (h1 : o.past.length < LIM) (h2 : o.deeds.length < LIM) : i_Running_remember o [d] = .ok (.none, remO o d) := by
  refine fnI_nx rfl rfl (ρ0 := [.ob o, .sh d]) (ρ' := [.ob (remO o d), .sh d]) ?_ rfl
  rw [b_Running_remember]
  refine toB_ok ?_
  rw [seq_nx (appS_ok (o := o) (d := .tuple [o.crew, o.stand, natD o.sung.length]) rfl (opA_ok (aC_ok (obM_ok rfl rfl) (aC_ok (obM_ok rfl rfl) (aC1 (obM_ok rfl rfl)))) rfl) h1)]
  exact appS_ok (o := { o with past := o.past ++ [.tuple [o.crew, o.stand, natD o.sung.length]] }) rfl (vN_ok rfl) h2
section
variable {many : Int} {m : Nat} {ss : List Sg} {st : List (List Nat)}
/-- the lead of a name -/
def ldS (xs : List (Str × Nat)) : Nat → Str → Option Nat := fun _ x => (xs.find? fun p => decide (p.1 = x)).map (·.2)
theorem sing_ok (hm : many = m) (h : Good many ss) (hst : GSt m ss.length st) (o : Ob) (hc : o.crew = chD many ss) (hs : o.stand = stD st) (hl : o.sung.length < LIM) (xs : List (Str × Nat)) :
    i_Running_sing o [.dict (xs.map strP)] = .ok (rowD (lrow m ss (ldS xs) 0 st), { o with stand := stD (beh st (lrow m ss (ldS xs) 0 st)), sung := o.sung ++ [rowD (lrow m ss (ldS xs) 0 st)] }) := by
  have h4 := h.l4
  have k1 := all_names_ok (many := many) (ss := ss) (by rw [e_LIM]; omega)
  have k2 := all_nextR hm h hst
  have z2 := names_next m ss st (by omega)
  have k3 := behind_ok (st := st) (ls := lrow m ss (ldS xs) 0 st) (by rw [hst.len]; omega) (fun r hr => by rw [(hst.row r hr).1]; decide)
  have et : gTuple [.list (ss.map fun s => natD ((ldS xs 0 s.name).getD (sem m s (hrd ss st)).toNat))] = some (rowD (lrow m ss (ldS xs) 0 st)) := by
    rw [e_tuple_l]; unfold lrow; show _ = some (PyData.tuple (List.map natD (List.map _ ss))); rw [List.map_map]; rfl
  rw [← hc] at k1 k2
  rw [← hs] at k2 k3
  generalize hR : rowD (lrow m ss (ldS xs) 0 st) = R at *
  generalize hB : stD (beh st (lrow m ss (ldS xs) 0 st)) = B at *
  have lc : lcM [4, 5] (seqI (vN 2)) (unT (gsC (setS 4) (gsC (setS 5) gsN))) yesT (dget2 (vN 1) (vN 4) (vN 5)) [.ob o, .sh (.dict (xs.map strP)), .sh (.list (ss.map fun s => .tuple [.str s.name, natD (sem m s (hrd ss st)).toNat])), .no, .no, .no] = .ok (.list (ss.map fun s => natD ((ldS xs 0 s.name).getD (sem m s (hrd ss st)).toNat)), [.ob o, .sh (.dict (xs.map strP)), .sh (.list (ss.map fun s => .tuple [.str s.name, natD (sem m s (hrd ss st)).toNat])), .no, .no, .no]) := by
    refine lc_map ss (fun s => .tuple [.str s.name, natD (sem m s (hrd ss st)).toNat]) (fun s => natD ((ldS xs 0 s.name).getD (sem m s (hrd ss st)).toNat)) (seqI_l (vN_ok rfl)) rfl (by rw [e_LIM]; omega) fun s hs => ⟨[.ob o, .sh (.dict (xs.map strP)), .sh (.list (ss.map fun s => .tuple [.str s.name, natD (sem m s (hrd ss st)).toNat])), .no, .sh (.str s.name), .sh (natD (sem m s (hrd ss st)).toNat)], rfl, ?_, rfl⟩
    have := dget2_ok (a := vN 1) (b := vN 4) (c := vN 5) (ps := xs.map strP) (k := .str s.name) (ρ := [.ob o, .sh (.dict (xs.map strP)), .sh (.list (ss.map fun s => .tuple [.str s.name, natD (sem m s (hrd ss st)).toNat])), .no, .sh (.str s.name), .sh (natD (sem m s (hrd ss st)).toNat)]) (vN_ok rfl) (vN_ok rfl) (vN_ok rfl) (keyOk_strs xs s.name)
    rw [this, dlook_strs]
    unfold ldS
    cases (xs.find? fun p => decide (p.1 = s.name)).map (·.2) <;> rfl
  refine fnI_rt rfl rfl (ρ0 := [.ob o, .sh (.dict (xs.map strP)), .no, .no, .no, .no]) (ρ' := [.ob { o with stand := B, sung := o.sung ++ [R] }, .sh (.dict (xs.map strP)), .sh (.list (ss.map fun s => .tuple [.str s.name, natD (sem m s (hrd ss st)).toNat])), .sh R, .no, .no]) ?_ rfl
  rw [b_Running_sing, seqA_nx (asg_set (opA_ok (aC_ok (callM_ok (aC1 (obM_ok (o := o) rfl rfl)) k1) (aC1 (callM_ok (aC_ok (obM_ok (o := o) rfl rfl) (aC1 (obM_ok (o := o) rfl rfl))) k2))) z2) (by simp))]
  simp only [List.set_cons_zero, List.set_cons_succ]
  rw [seqA_nx (asg_set (opA_ok (aC1 lc) et) (by simp))]
  simp only [List.set_cons_zero, List.set_cons_succ]
  refine toB_ok ?_
  rw [seq_nx (setFO_ok (o := o) (d := B) rfl (callM_ok (aC_ok (obM_ok (o := o) rfl rfl) (aC1 (vN_ok rfl))) k3))]
  simp only [List.set_cons_zero, List.set_cons_succ]
  rw [seq_nx (appS_ok (o := { o with stand := B }) (d := R) rfl (vN_ok rfl) hl)]
  simp only [List.set_cons_zero, List.set_cons_succ]
  exact ret_ok (vN_ok rfl)
theorem lrow_nil (b : Nat) : lrow m ss (ldS []) b st = nxN m ss st := by
  unfold lrow nxN nxt; rw [List.map_map]; rfl
theorem sing0_ok (hm : many = m) (h : Good many ss) (hst : GSt m ss.length st) (o : Ob) (hc : o.crew = chD many ss) (hs : o.stand = stD st) (hl : o.sung.length < LIM) :
    i_Running_sing o [.dict []] = .ok (rowD (nxN m ss st), { o with stand := stD (onV m ss st), sung := o.sung ++ [rowD (nxN m ss st)] }) := by
  have := sing_ok hm h hst o hc hs hl []
  rw [lrow_nil] at this
  exact this
/-- a song after a run -/
def runO (m : Nat) (ss : List Sg) (st : List (List Nat)) (o : Ob) (k : Nat) : Ob := { remO o (.tuple [.str "run", natD k]) with stand := stD (stAt m ss st k), sung := o.sung ++ (rowsV m ss st k).map rowD }
theorem run_ok (hm : many = m) (h : Good many ss) (hst : GSt m ss.length st) (o : Ob) (hc : o.crew = chD many ss) (hs : o.stand = stD st) (h1 : o.past.length < LIM) (h2 : o.deeds.length < LIM) {k : Nat} (hk : k ≤ 500) (hl : o.sung.length + 500 < LIM) :
    i_Running_run_2 o [natD k] = .ok (.none, runO m ss st o k) := by
  have kb := need_beats_ok hk
  have kr := remember_ok o (.tuple [.str "run", natD k]) h1 h2
  have rg : rg1 [natD k] = some (rangeD 0 k) := e_rg1 (by omega)
  let S : Nat → Ob := fun i => { remO o (.tuple [.str "run", natD k]) with stand := stD (stAt m ss st i), sung := o.sung ++ (rowsV m ss st i).map rowD }
  have e0 : S 0 = remO o (.tuple [.str "run", natD k]) := by
    show (Ob.mk _ _ _ _ _ _ : Ob) = _
    unfold remO
    rw [show stAt m ss st 0 = st from rfl, show rowsV m ss st 0 = [] from rfl, hs, List.map_nil, List.append_nil]
  have step : ∀ i, i < k → i_Running_sing (S i) [.dict []] = .ok (rowD (nxN m ss (stAt m ss st i)), S (i + 1)) := fun i hi => by
    have hg := stAt_good hm h hst i
    have hl' : (S i).sung.length < LIM := by
      show (o.sung ++ (rowsV m ss st i).map rowD).length < LIM
      rw [List.length_append, List.length_map]
      unfold rowsV
      rw [List.length_map, List.length_range]
      omega
    rw [sing0_ok hm h hg (S i) hc rfl hl']
    have er : rowsV m ss st (i + 1) = rowsV m ss st i ++ [nxN m ss (stAt m ss st i)] := by
      unfold rowsV; rw [List.range_succ, List.map_append]; rfl
    show R.ok (_, (Ob.mk _ _ _ _ _ _ : Ob)) = R.ok (_, (Ob.mk _ _ _ _ _ _ : Ob))
    rw [er, List.map_append, ← List.append_assoc]
    rfl
  obtain ⟨ρe, he, x, ex⟩ := loop_inv (g := setS 2) (fb := b_Running_run_2_L1) (ds := rangeD 0 k) (fun i ρ => ∃ x : Sl, ρ = [.ob (S i), .sh (natD k), x]) (fun i d ρ hd hI => by
    obtain ⟨x, rfl⟩ := hI
    rw [rangeD_map, List.getElem?_map] at hd
    obtain ⟨j, hj, rfl⟩ := Option.map_eq_some_iff.mp hd
    have hlt : i < k := by
      have := (List.getElem?_eq_some_iff.mp hj).1
      rwa [List.length_range] at this
    refine ⟨_, _, rfl, ?_, .sh (.int (j : Nat)), rfl⟩
    rw [b_Running_run_2_L1]
    exact drop_nx (methI_ok (o := S i) rfl (by repeat' (first | with_reducible exact cD_ok | with_reducible exact aN_ok | with_reducible exact noPrt_ok | with_reducible exact xN_ok | (with_reducible apply vN_ok; rfl) | with_reducible assumption | with_reducible apply aC_ok | with_reducible apply op2_ok | with_reducible apply op1_ok | with_reducible apply opA_ok | with_reducible apply opI_ok | with_reducible apply callM_ok | with_reducible apply slc_ok | with_reducible apply prt_ok | with_reducible apply tst_ok | with_reducible apply isi_ok | with_reducible apply notT_ok | with_reducible apply xSh_ok | rfl)) (step i hlt))) (ρ := [.ob (S 0), .sh (natD k), .no]) ⟨_, rfl⟩
  have hlen : (rangeD 0 k).length = k := by rw [rangeD_map, List.length_map, List.length_range]
  rw [hlen] at ex
  subst ex
  refine fnI_nx rfl rfl (ρ0 := [.ob o, .sh (natD k), .no]) (ρ' := [.ob (S k), .sh (natD k), x]) ?_ rfl
  rw [b_Running_run_2, seqA_nx (drop_nx (callM_ok (by repeat' (first | with_reducible exact cD_ok | with_reducible exact aN_ok | with_reducible exact noPrt_ok | with_reducible exact xN_ok | (with_reducible apply vN_ok; rfl) | with_reducible assumption | with_reducible apply aC_ok | with_reducible apply op2_ok | with_reducible apply op1_ok | with_reducible apply opA_ok | with_reducible apply opI_ok | with_reducible apply callM_ok | with_reducible apply slc_ok | with_reducible apply prt_ok | with_reducible apply tst_ok | with_reducible apply isi_ok | with_reducible apply notT_ok | with_reducible apply xSh_ok | rfl)) kb))]
  refine toB_ok ?_
  rw [seq_nx (drop_nx (methI_ok (o := o) rfl (aC1 (opA_ok (aC_ok cD_ok (aC1 (vN_ok rfl))) rfl)) kr))]
  simp only [List.set_cons_zero, List.set_cons_succ]
  rw [← e0]
  exact (for_ok (opI_ok (aC1 (vN_ok rfl)) rg)).trans he
end
theorem undo_ok (o : Ob) {ps : List PyData} {c s : PyData} {k : Nat} (hp : o.past = ps ++ [.tuple [c, s, natD k]]) (hP : ∀ x ∈ o.past, P 12 x) (hd : o.deeds ≠ []) : i_Running_undo_2 o [] = .ok (.none, { o with crew := c, stand := s, past := ps, sung := o.sung.take k, deeds := o.deeds.dropLast }) := by
  have hpl : o.past.getLast? = some (.tuple [c, s, natD k]) := by rw [hp]; simp
  have hpd : o.past.dropLast = ps := by rw [hp]; simp
  have ge : gEq (.list o.past) (.list []) = some (.bool false) := by
    have := gEq_P (j := 13) (k := 1) (a := .list o.past) (b := .list []) (.list hP) (.list (fun x hx => nomatch hx)) False ⟨fun z => by injection z with z; rw [hp] at z; simp at z, False.elim⟩
    rw [this]; rfl
  refine fnI_nx rfl rfl (ρ0 := [.ob o, .no]) (ρ' := [.ob { o with crew := c, stand := s, past := ps, sung := o.sung.take k, deeds := o.deeds.dropLast }, .sh (natD k)]) ?_ rfl
  have t1 : tst (cmpS Ob.past 0 gEq (opA gLstD aN)) [.ob o, .no] = .ok (false, [.ob o, .no]) := by
    exact tst_ok (cmpS_ok (o := o) (y := .list []) rfl rfl ge)
  rw [b_Running_undo_2, seqA_nx (ifN_f t1)]
  refine toB_ok ?_
  have u1 : undo1 0 1 [.ob o, .no] = .nx [.ob { o with crew := c, stand := s, past := ps }, .sh (natD k)] := by
    show (match o.past.getLast? with | some (.tuple [x, y, z]) => _ | _ => _) = _
    rw [hpl]
    show (if (0 : Nat) ≠ 1 ∧ 1 < 2 then _ else _) = _
    rw [if_pos (by decide), hpd]; rfl
  rw [seq_nx u1]
  have u2 : undo2 0 1 [.ob { o with crew := c, stand := s, past := ps }, .sh (natD k)] = .nx [.ob { o with crew := c, stand := s, past := ps, sung := o.sung.take k }, .sh (natD k)] := by
    show O.nx [Sl.ob { o with crew := c, stand := s, past := ps, sung := cutD o.sung none (some (k : Int)) }, Sl.sh (natD k)] = _
    rw [cut_to]
  rw [seq_nx u2]
  cases el : o.deeds.getLast? with
  | none => exact absurd (List.getLast?_eq_none_iff.mp el) hd
  | some x =>
    show (match o.deeds.getLast? with | some _ => _ | none => _) = _
    rw [el]; rfl
section
variable {many : Int} {m : Nat} {ss : List Sg} {st : List (List Nat)}
def newS (C S : PyData) : Ob := ⟨.tuple [C, S], C, S, [], [], []⟩
theorem init_ok {C S : PyData} (hc : m_need_choir [C] = .ok .none) (hs : m_need_standing [C, S] = .ok .none) : m_Running_init [C, S] = .ok (newS C S) := by
  have e1 : b1_Running_init [.no, .sh C, .sh S] = .nx [.no, .sh C, .sh S] := by rw [b1_Running_init]; exact drop_nx (callM_ok (by repeat' (first | with_reducible exact cD_ok | with_reducible exact aN_ok | with_reducible exact noPrt_ok | with_reducible exact xN_ok | (with_reducible apply vN_ok; rfl) | with_reducible assumption | with_reducible apply aC_ok | with_reducible apply op2_ok | with_reducible apply op1_ok | with_reducible apply opA_ok | with_reducible apply opI_ok | with_reducible apply callM_ok | with_reducible apply slc_ok | with_reducible apply prt_ok | with_reducible apply tst_ok | with_reducible apply isi_ok | with_reducible apply notT_ok | with_reducible apply xSh_ok | rfl)) hc)
  have e2 : b2_Running_init [.no, .sh C, .sh S] = .nx [.no, .sh C, .sh S] := by rw [b2_Running_init]; exact drop_nx (callM_ok (by repeat' (first | with_reducible exact cD_ok | with_reducible exact aN_ok | with_reducible exact noPrt_ok | with_reducible exact xN_ok | (with_reducible apply vN_ok; rfl) | with_reducible assumption | with_reducible apply aC_ok | with_reducible apply op2_ok | with_reducible apply op1_ok | with_reducible apply opA_ok | with_reducible apply opI_ok | with_reducible apply callM_ok | with_reducible apply slc_ok | with_reducible apply prt_ok | with_reducible apply tst_ok | with_reducible apply isi_ok | with_reducible apply notT_ok | with_reducible apply xSh_ok | rfl)) hs)
  show initR 3 b1_Running_init b2_Running_init [C, S] = _
  unfold initR
  rw [if_pos (show ([C, S] : List PyData).length = 2 from rfl)]
  show (match b1_Running_init [.no, .sh C, .sh S] with | .nx ρ1 => _ | .exc c => _ | _ => _) = _
  rw [e1]
  show (match b2_Running_init [.no, .sh C, .sh S] with | .nx ρ1 => _ | .exc c => _ | _ => _) = _
  rw [e2]; rfl
theorem init_stand {C S : PyData} (hc : m_need_choir [C] = .ok .none) (hs : m_is_good_standing [C, S] = .ok (.bool false)) : m_Running_init [C, S] = .exc "BadStanding" := by
  have e1 : b1_Running_init [.no, .sh C, .sh S] = .nx [.no, .sh C, .sh S] := by rw [b1_Running_init]; exact drop_nx (callM_ok (by repeat' (first | with_reducible exact cD_ok | with_reducible exact aN_ok | with_reducible exact noPrt_ok | with_reducible exact xN_ok | (with_reducible apply vN_ok; rfl) | with_reducible assumption | with_reducible apply aC_ok | with_reducible apply op2_ok | with_reducible apply op1_ok | with_reducible apply opA_ok | with_reducible apply opI_ok | with_reducible apply callM_ok | with_reducible apply slc_ok | with_reducible apply prt_ok | with_reducible apply tst_ok | with_reducible apply isi_ok | with_reducible apply notT_ok | with_reducible apply xSh_ok | rfl)) hc)
  have hs' : m_need_standing [C, S] = .exc "BadStanding" := by
    refine fn_exc (ρ0 := [.sh C, .sh S]) rfl rfl ?_
    rw [b_need_standing]
    exact if_exc (notT_ok (b := false) (tst_ok (callM_ok (by repeat' (first | with_reducible exact cD_ok | with_reducible exact aN_ok | with_reducible exact noPrt_ok | with_reducible exact xN_ok | (with_reducible apply vN_ok; rfl) | with_reducible assumption | with_reducible apply aC_ok | with_reducible apply op2_ok | with_reducible apply op1_ok | with_reducible apply opA_ok | with_reducible apply opI_ok | with_reducible apply callM_ok | with_reducible apply slc_ok | with_reducible apply prt_ok | with_reducible apply tst_ok | with_reducible apply isi_ok | with_reducible apply notT_ok | with_reducible apply xSh_ok | rfl)) hs)))
  have e2 : b2_Running_init [.no, .sh C, .sh S] = .exc "BadStanding" := by rw [b2_Running_init]; exact drop_exc (callM_exc (by repeat' (first | with_reducible exact cD_ok | with_reducible exact aN_ok | with_reducible exact noPrt_ok | with_reducible exact xN_ok | (with_reducible apply vN_ok; rfl) | with_reducible assumption | with_reducible apply aC_ok | with_reducible apply op2_ok | with_reducible apply op1_ok | with_reducible apply opA_ok | with_reducible apply opI_ok | with_reducible apply callM_ok | with_reducible apply slc_ok | with_reducible apply prt_ok | with_reducible apply tst_ok | with_reducible apply isi_ok | with_reducible apply notT_ok | with_reducible apply xSh_ok | rfl)) hs')
  show initR 3 b1_Running_init b2_Running_init [C, S] = _
  unfold initR
  rw [if_pos (show ([C, S] : List PyData).length = 2 from rfl)]
  show (match b1_Running_init [.no, .sh C, .sh S] with | .nx ρ1 => _ | .exc c => _ | _ => _) = _
  rw [e1]
  show (match b2_Running_init [.no, .sh C, .sh S] with | .nx ρ1 => _ | .exc c => _ | _ => _) = _
  rw [e2]
end
end G
set_option Elab.async false
set_option linter.all false
set_option maxRecDepth 100000
set_option maxHeartbeats 1000000
namespace G
open PySem DL
local instance : DL.TabCtx := ⟨[]⟩
theorem lockD_ok {j : Nat} {f1 f2 : M PyData} {ρ ρ1 : Rho} {ps : List (PyData × PyData)} {d : PyData} (h : ρ[j]? = some (.sh (.dict ps))) (hp : (ps.all fun p => isTupD p.1) = false) (h2 : f2 (forgetO ρ) = .ok (d, ρ1)) : lockD j f1 f2 ρ = .ok (d, ρ) := by
  unfold lockD; rw [h]
  show (if (ps.all fun p => isTupD p.1) = true then f1 ρ else _) = _
  rw [hp, if_neg Bool.false_ne_true, h2]
theorem nl_type (o : Ob) {bad : PyData} (h : isD .dict bad = false) : m_Running_need_leads o [bad] = .exc "BadLead" := by
  refine fnO_exc rfl rfl (ρ0 := [.ob o, .sh bad, .no, .no]) ?_
  rw [b_Running_need_leads]
  exact seq_exc (if_exc (notT_ok (b := false) (tst_ok (isi_b (vN_ok rfl) h))))
section
variable {many : Int} {m : Nat} {ss : List Sg} {st : List (List Nat)}
theorem nl_name (o : Ob) {k v : PyData} {NS : PyData} (hk : isTupD k = false) (hc : m_all_names [o.crew] = .ok NS) (h : isD .str k = false ∨ (isD .str k = true ∧ gIn k NS = some (.bool false))) : m_Running_need_leads o [.dict [(k, v)]] = .exc "BadLead" := by
  refine fnO_exc rfl rfl (ρ0 := [.ob o, .sh (.dict [(k, v)]), .no, .no]) ?_
  have lc : lcM [3] (keysL 1) (setS 3) yesT (andV (isi .str (vN 3)) (op2 gIn (vN 3) (vN 2))) [.ob o, .sh (.dict [(k, v)]), .sh NS, .no] = .ok (.list [.bool false], [.ob o, .sh (.dict [(k, v)]), .sh NS, .no]) := by
    refine lc_map [()] (fun _ => k) (fun _ => .bool false) rfl rfl (by rw [e_LIM]; decide) fun x hx => ⟨[.ob o, .sh (.dict [(k, v)]), .sh NS, .sh k], rfl, ?_, rfl⟩
    rcases h with h | ⟨h1, h2⟩
    · exact andV_f (isi_b (vN_ok rfl) h)
    · exact andV_t (isi_b (vN_ok rfl) h1) (op2_ok (vN_ok rfl) (vN_ok rfl) h2)
  rw [b_Running_need_leads, seq_nx (ifN_f (notT_ok (b := true) (tst_ok (isi_b (vN_ok rfl) rfl)))), seq_nx (asg_set (callM_ok (aC1 (obM_ok (o := o) rfl rfl)) hc) (by simp))]
  simp only [List.set_cons_zero, List.set_cons_succ]
  refine seq_exc (if_exc (notT_ok (b := false) (tst_ok (opA_ok (aC1 (lockD_ok (ps := [(k, v)]) rfl (by simp [hk]) lc)) rfl))))
theorem nl_line (o : Ob) {v : PyData} {x : Str} {NS : PyData} {n : Int} (hc : m_all_names [o.crew] = .ok NS) (hi : gIn (.str x) NS = some (.bool true)) (h0 : gIx o.crew (.int 0) = some (.int n)) (hw : m_is_whole [v, .int 0, .int (n - 1)] = .ok (.bool false)) : m_Running_need_leads o [.dict [(.str x, v)]] = .exc "BadLead" := by
  refine fnO_exc rfl rfl (ρ0 := [.ob o, .sh (.dict [(.str x, v)]), .no, .no]) ?_
  have lc : lcM [3] (keysL 1) (setS 3) yesT (andV (isi .str (vN 3)) (op2 gIn (vN 3) (vN 2))) [.ob o, .sh (.dict [(.str x, v)]), .sh NS, .no] = .ok (.list [.bool true], [.ob o, .sh (.dict [(.str x, v)]), .sh NS, .no]) :=
    lc_map [()] (fun _ => .str x) (fun _ => .bool true) rfl rfl (by rw [e_LIM]; decide) fun _ _ => ⟨[.ob o, .sh (.dict [(.str x, v)]), .sh NS, .sh (.str x)], rfl, andV_t (isi_b (vN_ok rfl) rfl) (op2_ok (vN_ok rfl) (vN_ok rfl) hi), rfl⟩
  have gx : gIxX (.dict [(.str x, v)]) (.str x) = some v := by
    have e : keyEqD (.str x) (.str x) = true := by rw [keyEq_str]; simp
    show (if keyOk [(.str x, v)] (.str x) = true then dlook [(.str x, v)] (.str x) else none) = _
    rw [if_pos (by rfl)]
    unfold dlook
    rw [List.find?_cons_of_pos (by exact e)]; rfl
  have lc2 : lcM [3] (keysL 1) (setS 3) yesT (callM m_is_whole (aC (op2 gIxX (vN 1) (vN 3)) (aC (cD (.int 0)) (aC (op2 gSub (op2 gIx (obM 0 fun o => .ok o.crew) (cD (.int 0))) (cD (.int 1))) aN)))) [.ob o, .sh (.dict [(.str x, v)]), .sh NS, .no] = .ok (.list [.bool false], [.ob o, .sh (.dict [(.str x, v)]), .sh NS, .no]) :=
    lc_map [()] (fun _ => .str x) (fun _ => .bool false) rfl rfl (by rw [e_LIM]; decide) fun _ _ => ⟨[.ob o, .sh (.dict [(.str x, v)]), .sh NS, .sh (.str x)], rfl, callM_ok (aC_ok (op2_ok (vN_ok rfl) (vN_ok rfl) gx) (aC_ok cD_ok (aC1 (op2_ok (op2_ok (obM_ok (o := o) rfl rfl) cD_ok h0) cD_ok rfl)))) hw, rfl⟩
  rw [b_Running_need_leads, seq_nx (ifN_f (notT_ok (b := true) (tst_ok (isi_b (vN_ok rfl) rfl)))), seq_nx (asg_set (callM_ok (aC1 (obM_ok (o := o) rfl rfl)) hc) (by simp))]
  simp only [List.set_cons_zero, List.set_cons_succ]
  rw [seq_nx (ifN_f (notT_ok (b := true) (tst_ok (opA_ok (aC1 (lockD_ok (ps := [(.str x, v)]) rfl rfl lc)) rfl))))]
  exact if_exc (notT_ok (b := false) (tst_ok (opA_ok (aC1 (lockD_ok (ps := [(.str x, v)]) rfl rfl lc2)) rfl)))
theorem beat_exc' (o : Ob) {bad : PyData} (h : m_Running_need_leads o [bad] = .exc "BadLead") : i_Running_beat o [bad] = .exc "BadLead" := by
  refine fnI_exc rfl rfl (ρ0 := [.ob o, .sh bad]) ?_
  rw [b_Running_beat]
  exact seqA_exc (drop_exc (methO_exc (o := o) rfl (aC1 (vN_ok rfl)) h))
theorem run_exc (o : Ob) {bad : PyData} (h : m_is_whole [bad, .int 0, .int 500] = .ok (.bool false)) : i_Running_run_2 o [bad] = .exc "BadNumber" := by
  have hb : m_need_beats [bad] = .exc "BadNumber" := by
    refine fn_exc (ρ0 := [.sh bad]) rfl rfl ?_
    rw [b_need_beats]
    exact if_exc (notT_ok (b := false) (tst_ok (callM_ok (by repeat' (first | with_reducible exact cD_ok | with_reducible exact aN_ok | with_reducible exact noPrt_ok | with_reducible exact xN_ok | (with_reducible apply vN_ok; rfl) | with_reducible assumption | with_reducible apply aC_ok | with_reducible apply op2_ok | with_reducible apply op1_ok | with_reducible apply opA_ok | with_reducible apply opI_ok | with_reducible apply callM_ok | with_reducible apply slc_ok | with_reducible apply prt_ok | with_reducible apply tst_ok | with_reducible apply isi_ok | with_reducible apply notT_ok | with_reducible apply xSh_ok | rfl)) h)))
  refine fnI_exc rfl rfl (ρ0 := [.ob o, .sh bad, .no]) ?_
  rw [b_Running_run_2]
  exact seqA_exc (drop_exc (callM_exc (aC1 (vN_ok rfl)) hb))
theorem rep_name (o : Ob) {x e t : PyData} (h : m_need_name [o.crew, x] = .exc "BadName") : i_Running_replace_2 o [x, e, t] = .exc "BadName" := by
  refine fnI_exc rfl rfl (ρ0 := [.ob o, .sh x, .sh e, .sh t, .no, .no]) ?_
  rw [b_Running_replace_2]
  exact seqA_exc (drop_exc (callM_exc (aC_ok (obM_ok (o := o) rfl rfl) (aC1 (vN_ok rfl))) h))
/-- a singer in another's place -/
def subD (x : Str) (d : PyData) (ss : List Sg) : List PyData := ss.map fun s => if s.name = x then d else s.d
theorem rep_choir (o : Ob) (h : Good many ss) (hc : o.crew = chD many ss) {x : Str} (hw : Wd x) (hx : x ∈ ss.map (·.name)) {e t : PyData} (hb : m_is_choir [.tuple [.int many, .tuple (subD x (.tuple [.str x, e, t]) ss)]] = .ok (.bool false)) : i_Running_replace_2 o [.str x, e, t] = .exc "BadChoir" := by
  have k1 := nname_ok h hx
  have i1 : gIx o.crew (.int 1) = some (.tuple (ss.map Sg.d)) := by rw [hc]; rfl
  have i0 : gIx o.crew (.int 0) = some (.int many) := by rw [hc]; rfl
  rw [← hc] at k1
  have hl := h.l4
  refine fnI_exc rfl rfl (ρ0 := [.ob o, .sh (.str x), .sh e, .sh t, .no, .no]) ?_
  have lc : lcM [5] (seqI (op2 gIx (obM 0 fun o => .ok o.crew) (cD (.int 1)))) (setS 5) yesT (ifV (tst (op2 gEq (op2 gIx (vN 5) (cD (.int 0))) (vN 1))) (opA gTupD (aC (vN 1) (aC (vN 2) (aC (vN 3) aN)))) (vN 5)) [.ob o, .sh (.str x), .sh e, .sh t, .no, .no] = .ok (.list (subD x (.tuple [.str x, e, t]) ss), [.ob o, .sh (.str x), .sh e, .sh t, .no, .no]) := by
    refine lc_map ss Sg.d (fun s => if s.name = x then .tuple [.str x, e, t] else s.d) (seqI_t (op2_ok (obM_ok (o := o) rfl rfl) cD_ok i1)) rfl (by rw [e_LIM]; omega) fun s hs => ⟨[.ob o, .sh (.str x), .sh e, .sh t, .no, .sh s.d], rfl, ?_, rfl⟩
    have ge := gEq_str (h.sg s hs).word hw
    have s0 : gIx s.d (.int 0) = some (.str s.name) := rfl
    have tt : tst (op2 gEq (op2 gIx (vN 5) (cD (.int 0))) (vN 1)) [.ob o, .sh (.str x), .sh e, .sh t, .no, .sh s.d] = .ok (decide (s.name = x), [.ob o, .sh (.str x), .sh e, .sh t, .no, .sh s.d]) := tst_ok (op2_ok (op2_ok (vN_ok rfl) cD_ok s0) (vN_ok rfl) ge)
    unfold ifV M.bind
    rw [tt]
    by_cases hn : s.name = x
    · rw [if_pos hn, decide_eq_true hn]; rfl
    · rw [if_neg hn, decide_eq_false hn]; rfl
  rw [b_Running_replace_2, seqA_nx (drop_nx (callM_ok (aC_ok (obM_ok (o := o) rfl rfl) (aC1 (vN_ok rfl))) k1)), seqA_nx (asg_set (opA_ok (aC1 lc) rfl) (by simp))]
  simp only [List.set_cons_zero, List.set_cons_succ]
  exact seqA_exc (if_exc (notT_ok (b := false) (tst_ok (callM_ok (aC1 (opA_ok (aC_ok (op2_ok (obM_ok (o := o) rfl rfl) cD_ok i0) (aC1 (vN_ok rfl))) rfl)) hb))))
/-- a singer that is none -/
theorem choir_bad {ds : List PyData} (h2 : 2 ≤ many) (h4 : many ≤ 4) (l1 : 1 ≤ ds.length) (l4 : ds.length ≤ 4) (f : PyData → Bool) (hf : ∀ d ∈ ds, m_is_singer [d, .int many] = .ok (.bool (f d))) (hb : ds.all f = false) : m_is_choir [.tuple [.int many, .tuple ds]] = .ok (.bool false) := by
  have a1 : (1 : Int) ≤ ds.length := by omega
  have a2 : (ds.length : Int) ≤ 4 := by omega
  simp [m_is_choir, b_is_choir, fnRun, start0, isD, is_whole_int, h2, h4, a1, a2]
  rw [lc_map ds id (fun d => .bool (f d))]
  rotate_left
  · simp
  · rfl
  · rw [e_LIM]; omega
  · exact fun s hs => ⟨_, rfl, by simp [hf s hs], rfl⟩
  simp [all_map, hb]
end
end G
set_option Elab.async false
set_option linter.all false
set_option maxRecDepth 100000
set_option maxHeartbeats 1000000
namespace G
open PySem DL
local instance : DL.TabCtx := ⟨[]⟩
theorem mul_tupN (x : PyData) {k : Nat} (h1 : 1 ≤ k) (hk : k ≤ 1000) : gMul (.tuple [x]) (natD k) = some (.tuple (List.replicate k x)) := by
  have e : gMul (.tuple [x]) (natD k) = if [x] ≠ [] ∧ 1 ≤ ((k : Nat) : Int) ∧ ((k : Nat) : Int) ≤ 1000 ∧ [x].length ≤ 1000 then some (.tuple (List.replicate ((k : Nat) : Int).toNat [x]).flatten) else none := rfl
  rw [e, Int.toNat_natCast, if_pos ⟨by simp, by omega, by omega, by simp⟩]
  have f : ∀ n : Nat, (List.replicate n [x]).flatten = List.replicate n x := fun n => by
    induction n with
    | zero => rfl
    | succ n ih => rw [List.replicate_succ, List.replicate_succ, List.flatten_cons, ih]; rfl
  rw [f]
section
variable {many : Int} {m : Nat} {ss : List Sg} {st : List (List Nat)}
theorem choir_sub (h : Good many ss) {x : Str} (hx : x ∈ ss.map (·.name)) {d : PyData} (hd : m_is_singer [d, .int many] = .ok (.bool false)) : m_is_choir [.tuple [.int many, .tuple (subD x d ss)]] = .ok (.bool false) := by
  have hf : ∀ y, y ∈ subD x d ss → y = d ∨ ∃ s ∈ ss, y = s.d := fun y hy => by
    obtain ⟨s, hs, rfl⟩ := List.mem_map.mp hy
    by_cases hn : s.name = x
    · rw [if_pos hn]; exact .inl rfl
    · rw [if_neg hn]; exact .inr ⟨s, hs, rfl⟩
  refine choir_bad h.m2 h.m4 (by unfold subD; rw [List.length_map]; exact h.l1) (by unfold subD; rw [List.length_map]; exact h.l4) (fun y => match m_is_singer [y, .int many] with | .ok (.bool b) => b | _ => false) (fun y hy => ?_) ?_
  · rcases hf y hy with rfl | ⟨s, hs, rfl⟩
    · rw [hd]
    · rw [is_singer_ok h.m2 h.m4 (h.sg s hs)]
  · obtain ⟨s, hs, hn⟩ := List.mem_map.mp hx
    refine List.all_eq_false.mpr ⟨d, List.mem_map.mpr ⟨s, hs, if_pos hn⟩, ?_⟩
    rw [hd]; exact Bool.false_ne_true
theorem singer_ears {E T : PyData} (h : m_are_ears [E] = .ok (.bool false)) : m_is_singer [.tuple [.str "ann", E, T], .int many] = .ok (.bool false) := by
  have hw := wd_ann.1
  simp [m_is_singer, b_is_singer, fnRun, start0, isD, hw, h]
theorem singer_tab {T : PyData} (h : m_are_lines [T, .int 1, .int many] = .ok (.bool false)) (h2 : 2 ≤ many) (h4 : many ≤ 4) : m_is_singer [.tuple [.str "ann", .tuple [], T], .int many] = .ok (.bool false) := by
  have hw := wd_ann.1
  have he : m_are_ears [.tuple []] = .ok (.bool true) := rfl
  have hp := places_ok (many := many) (ds := []) h2 h4 (by simp)
  have hp : m_places_for [.int many, .tuple []] = .ok (.int 1) := by simpa using hp
  simp [m_is_singer, b_is_singer, fnRun, start0, isD, hw, he, hp, h]
theorem choir_ear {tt : List Sg} (m2 : 2 ≤ many) (m4 : many ≤ 4) (l1 : 1 ≤ tt.length) (l4 : tt.length ≤ 4) {names : List Str} (hsg : ∀ s ∈ tt, GSg many names s) (hrise : rising SrtQ.ltS (tt.map (·.name)) = true)
    (hbad : ∃ s ∈ tt, ∃ e ∈ s.ears, e.1 ∉ tt.map (·.name)) : m_is_choir [chD many tt] = .ok (.bool false) := by
  have hl : tt.length ≤ LIM := by rw [e_LIM]; omega
  have a1 : (1 : Int) ≤ tt.length := by omega
  have a2 : (tt.length : Int) ≤ 4 := by omega
  have hr := rise_l PyData.str SrtQ.ltS lt_str (tt.map (·.name)) (by rw [List.length_map]; exact hl)
  rw [List.map_map, hrise] at hr
  have hr : m_rise [.list (tt.map fun s => .str s.name)] = .ok (.bool true) := hr
  simp [m_is_choir, b_is_choir, fnRun, start0, isD, chD, is_whole_int, m2, m4, a1, a2]
  rw [lc_map tt Sg.d (fun _ => .bool true)]
  rotate_left
  · simp
  · rfl
  · exact hl
  · exact fun s hs => ⟨_, rfl, by simp [is_singer_ok m2 m4 (hsg s hs)], rfl⟩
  simp [all_map]
  rw [lc_map tt Sg.d (fun s => .str s.name)]
  rotate_left
  · simp
  · rfl
  · exact hl
  · exact fun s hs => ⟨_, rfl, by simp [Sg.d], rfl⟩
  simp [hr]
  rw [lc_map tt Sg.d (fun s => .str s.name)]
  rotate_left
  · simp
  · rfl
  · exact hl
  · exact fun s hs => ⟨_, rfl, by simp [Sg.d], rfl⟩
  simp
  rw [lc2_map tt Sg.d (fun s => s.ears) siD (fun _ e => .bool (decide (e.1 ∈ tt.map (·.name))))]
  · have : (tt.flatMap fun x => x.ears.map fun e => PyData.bool (decide (e.1 ∈ tt.map (·.name)))) = (tt.flatMap fun x => x.ears).map fun e => PyData.bool (decide (e.1 ∈ tt.map (·.name))) := by rw [List.map_flatMap]
    rw [this]
    simp [all_map]
    obtain ⟨s, hs, ⟨e1, e2⟩, he, hn⟩ := hbad
    exact ⟨s, hs, e1, ⟨e2, he⟩, fun t ht e => hn (List.mem_map.mpr ⟨t, ht, e⟩)⟩
  · simp
  · rfl
  · have : ∀ xs : List Sg, (∀ s ∈ xs, s.ears.length ≤ 2) → (xs.flatMap fun s => s.ears).length ≤ 2 * xs.length := by
      intro xs
      induction xs with
      | nil => intro _; simp
      | cons x xs ih =>
        intro hh
        have b1 := hh x (List.mem_cons_self ..)
        have b2 := ih fun y hy => hh y (List.mem_cons_of_mem _ hy)
        simp only [List.flatMap_cons, List.length_append, List.length_cons]
        omega
    have := this tt fun s hs => (hsg s hs).elen
    rw [e_LIM]; omega
  · decide
  · intro s hs
    refine ⟨_, rfl, rfl, by simp [Sg.d], fun e he => ⟨_, rfl, ?_, rfl⟩⟩
    obtain ⟨b1, b2, _⟩ := (hsg s hs).ear e he
    have := gIn_P (j := 0) (k := 0) (x := .str e.1) (ds := tt.map fun s => .str s.name) (.str b1.2) (fun y hy => by obtain ⟨s, h1, rfl⟩ := List.mem_map.mp hy; exact .str (hsg s h1).word.2) (e.1 ∈ tt.map (·.name)) (by
      constructor
      · intro hh
        obtain ⟨s, h1, h2⟩ := List.mem_map.mp hh
        injection h2 with h2
        exact List.mem_map.mpr ⟨s, h1, h2⟩
      · intro hh
        obtain ⟨s, h1, h2⟩ := List.mem_map.mp hh
        exact List.mem_map.mpr ⟨s, h1, by rw [h2]⟩)
    simp [siD, this]
theorem wd_zed : Wd "zed" := ⟨rfl, by decide +kernel⟩
theorem choir_zed (hm : many = m) (h : Good many ss) (hz : ("zed" : Str) ∉ ss.map (·.name)) (hx : ("ann" : Str) ∈ ss.map (·.name)) : m_is_choir [.tuple [.int many, .tuple (subD "ann" (.tuple [.str "ann", .tuple [.tuple [.str "zed", .int 1]], .tuple (List.replicate m (.int 0))]) ss)]] = .ok (.bool false) := by
  have m2 := h.m2
  let z : Sg := ⟨"ann", [("zed", 1)], List.replicate m 0⟩
  let tt : List Sg := ss.map fun s => if s.name = ("ann" : Str) then z else s
  have hd : subD "ann" (.tuple [.str "ann", .tuple [.tuple [.str "zed", .int 1]], .tuple (List.replicate m (.int 0))]) ss = tt.map Sg.d := by
    unfold subD
    rw [List.map_map]
    refine List.map_congr_left fun s _ => ?_
    show _ = Sg.d (if s.name = ("ann" : Str) then z else s)
    by_cases hn : s.name = ("ann" : Str)
    · rw [if_pos hn, if_pos hn]
      show _ = PyData.tuple [.str "ann", .tuple [siD ("zed", 1)], .tuple ((List.replicate m (0 : Int)).map .int)]
      rw [List.map_replicate]; rfl
    · rw [if_neg hn, if_neg hn]
  have hn : tt.map (·.name) = ss.map (·.name) := by
    show (ss.map _).map _ = _
    rw [List.map_map]
    refine List.map_congr_left fun s _ => ?_
    show (if s.name = ("ann" : Str) then z else s).name = s.name
    by_cases hn : s.name = ("ann" : Str)
    · rw [if_pos hn, hn]
    · rw [if_neg hn]
  rw [hd]
  refine choir_ear (names := "zed" :: ss.map (·.name)) h.m2 h.m4 (by show 1 ≤ (ss.map _).length; rw [List.length_map]; exact h.l1) (by show (ss.map _).length ≤ 4; rw [List.length_map]; exact h.l4) (fun s hs => ?_) (by rw [hn]; exact h.rise) ?_
  · obtain ⟨t, ht, rfl⟩ := List.mem_map.mp hs
    by_cases hn : t.name = ("ann" : Str)
    · simp only [if_pos hn]
      refine ⟨wd_ann, by show 1 ≤ 2; decide, fun e he => ?_, rfl, ?_, fun t ht => ?_⟩
      · have he : e ∈ [(("zed" : Str), (1 : Int))] := he
        rw [List.mem_singleton.mp he]
        exact ⟨wd_zed, List.mem_cons_self, by decide, by decide⟩
      · show ((List.replicate m (0 : Int)).length : Int) = many ^ 1
        rw [List.length_replicate, hm, Int.pow_succ, Int.pow_zero, Int.one_mul]
      · rw [List.eq_of_mem_replicate ht]; omega
    · simp only [if_neg hn]
      have g := h.sg t ht
      exact ⟨g.word, g.elen, fun e he => ⟨(g.ear e he).1, List.mem_cons_of_mem _ (g.ear e he).2.1, (g.ear e he).2.2⟩, g.rise, g.tlen, g.tab⟩
  · obtain ⟨s, hs, e⟩ := List.mem_map.mp hx
    exact ⟨z, List.mem_map.mpr ⟨s, hs, if_pos e⟩, ("zed", 1), List.mem_cons_self, by rw [hn]; exact hz⟩
end
/-- a refusal is told -/
theorem ref_nx {i : Nat} {mi : Ob → List PyData → DL.R (PyData × Ob)} {fs : M (List PyData)} {ρ ρ1 : Rho} {o o1 : Ob} {ds : List PyData} {c : Str} (h0 : ρ[i]? = some (.ob o)) (ha : fs (forgetO ρ) = .ok (ds, ρ1)) (h1 : ρ1[i]? = some (.ob o1)) (hm : mi o1 ds = .exc c) (hc : c ∈ HD.excs := by decide) (hp : (PyData.str c).canLay0 = true := by decide +kernel) :
    ifO (tst (op2 gNe (toldI i mi fs) (opA gTupD (aC (cD (.str "refused")) (aC (cD (.str c)) aN))))) (retO (cD (.bool false))) nxO ρ = .nx ρ :=
  ifN_f (tst_ok (op2_ok (toldI_exc ⟨o, h0⟩ ha h1 hm hc) (opA_ok (aC_ok cD_ok (aC1 cD_ok)) rfl) (ne_same (P_ref hp))))
end G
set_option Elab.async false
set_option linter.all false
set_option maxRecDepth 100000
set_option maxHeartbeats 1000000
namespace G
open PySem DL
local instance : DL.TabCtx := ⟨[]⟩
abbrev W21 (dc C S M : Sl) (O : Ob) (x6 x7 x8 x9 x10 x11 : Sl) : Rho := [.no, dc, C, S, M, .ob O, x6, x7, x8, x9, x10, x11]
section
variable {many : Int} {m : Nat} {ss : List Sg} {st : List (List Nat)} {O : Ob}
theorem l21_1 {ds : List PyData} (h : ∀ d ∈ ds, i_Running_beat O [d] = .exc "BadLead") (d1 : Int × Int) (C S M : PyData) (x6 x7 x8 : Sl) : ∃ x8', loopO (setS 8) b_law_L1 ds (W21 (.ow (dcD d1)) (.sh C) (.sh S) (.sh M) O x6 x7 x8 .no .no .no) = .nx (W21 (.ow (dcD d1)) (.sh C) (.sh S) (.sh M) O x6 x7 x8' .no .no .no) := by
  obtain ⟨ρe, he, x8', ex⟩ := loop_inv (g := setS 8) (fb := b_law_L1) (ds := ds) (fun _ ρ => ∃ x8, ρ = W21 (.ow (dcD d1)) (.sh C) (.sh S) (.sh M) O x6 x7 x8 .no .no .no) (fun j dd ρ hd hI => by
    obtain ⟨x8, rfl⟩ := hI
    refine ⟨_, _, rfl, ?_, .sh dd, rfl⟩
    rw [b_law_L1]
    exact ref_nx (o := O) (o1 := O) rfl (aC1 (vN_ok rfl)) rfl (h dd (List.mem_of_getElem? hd))) ⟨x8, rfl⟩
  subst ex
  exact ⟨x8', he⟩
theorem l21_2 {ds : List PyData} (h : ∀ d ∈ ds, i_Running_run_2 O [d] = .exc "BadNumber") (d1 : Int × Int) (C S M : PyData) (x6 x7 x8 : Sl) : ∃ x8', loopO (setS 8) b_law_L2 ds (W21 (.ow (dcD d1)) (.sh C) (.sh S) (.sh M) O x6 x7 x8 .no .no .no) = .nx (W21 (.ow (dcD d1)) (.sh C) (.sh S) (.sh M) O x6 x7 x8' .no .no .no) := by
  obtain ⟨ρe, he, x8', ex⟩ := loop_inv (g := setS 8) (fb := b_law_L2) (ds := ds) (fun _ ρ => ∃ x8, ρ = W21 (.ow (dcD d1)) (.sh C) (.sh S) (.sh M) O x6 x7 x8 .no .no .no) (fun j dd ρ hd hI => by
    obtain ⟨x8, rfl⟩ := hI
    refine ⟨_, _, rfl, ?_, .sh dd, rfl⟩
    rw [b_law_L2]
    exact ref_nx (o := O) (o1 := O) rfl (aC1 (vN_ok rfl)) rfl (h dd (List.mem_of_getElem? hd))) ⟨x8, rfl⟩
  subst ex
  exact ⟨x8', he⟩
theorem l21_3 {ds : List PyData} (h : ∀ d ∈ ds, i_Running_replace_2 O [d, .none, .none] = .exc "BadName") (d1 : Int × Int) (C S M : PyData) (x6 x7 x8 : Sl) : ∃ x8', loopO (setS 8) b_law_L3 ds (W21 (.ow (dcD d1)) (.sh C) (.sh S) (.sh M) O x6 x7 x8 .no .no .no) = .nx (W21 (.ow (dcD d1)) (.sh C) (.sh S) (.sh M) O x6 x7 x8' .no .no .no) := by
  obtain ⟨ρe, he, x8', ex⟩ := loop_inv (g := setS 8) (fb := b_law_L3) (ds := ds) (fun _ ρ => ∃ x8, ρ = W21 (.ow (dcD d1)) (.sh C) (.sh S) (.sh M) O x6 x7 x8 .no .no .no) (fun j dd ρ hd hI => by
    obtain ⟨x8, rfl⟩ := hI
    refine ⟨_, _, rfl, ?_, .sh dd, rfl⟩
    rw [b_law_L3]
    exact ref_nx (o := O) (o1 := O) rfl (aC_ok (vN_ok rfl) (aC_ok cD_ok (aC1 cD_ok))) rfl (h dd (List.mem_of_getElem? hd))) ⟨x8, rfl⟩
  subst ex
  exact ⟨x8', he⟩
theorem size_ok (hm : many = m) (h2 : 2 ≤ m) (h4 : m ≤ 4) (E : PyData) (ρ : Rho) (h4' : ρ[4]? = some (.sh (.int many))) (h8 : ρ[8]? = some (.sh E)) : ∃ sz : Nat, 1 ≤ sz ∧ sz ≤ 16 ∧ ifV (andT (tst (isi .tuple (vN 8))) (tst (op2 gEq (opA gLen (aC (vN 8) aN)) (cD (.int 2))))) (op2 gMul (vN 4) (vN 4)) (vN 4) ρ = .ok (natD sz, ρ) ∧ (∀ ds, E = .tuple ds → ds.length ≠ 2 → sz = m) := by
  have hM : PyData.int many = natD m := by rw [hm]
  have mm : gMul (.int many) (.int many) = some (natD (m * m)) := by rw [e_mul ⟨by omega, by omega⟩, hm]; rfl
  have no : ∀ {b : Bool}, andT (tst (isi .tuple (vN 8))) (tst (op2 gEq (opA gLen (aC (vN 8) aN)) (cD (.int 2)))) ρ = .ok (b, ρ) → ifV (andT (tst (isi .tuple (vN 8))) (tst (op2 gEq (opA gLen (aC (vN 8) aN)) (cD (.int 2))))) (op2 gMul (vN 4) (vN 4)) (vN 4) ρ = .ok (natD (if b = true then m * m else m), ρ) := fun {b} hb => by
    unfold ifV M.bind
    rw [hb]
    cases b with
    | true => exact op2_ok (vN_ok h4') (vN_ok h4') mm
    | false => exact (vN_ok (ρ := ρ) h4').trans (congrArg (fun d => DL.R.ok (d, ρ)) hM)
  have mm4 : m * m ≤ 16 := Nat.mul_le_mul h4 h4
  have mm1 : 1 ≤ m * m := Nat.le_trans (by decide) (Nat.mul_le_mul h2 h2)
  by_cases ht : isD .tuple E = true
  · cases E with
    | tuple ds =>
      have hb := andT_t (tst_ok (isi_b (T := .tuple) (vN_ok h8) rfl)) (tst_ok (op2_ok (opA_ok (aC1 (vN_ok h8)) e_len_t) cD_ok (gEq_int _ 2)))
      refine ⟨_, ?_, ?_, no hb, fun ds' e hne => ?_⟩
      · split <;> omega
      · split <;> omega
      · cases e
        rw [decide_eq_false (by omega)]
        exact if_neg Bool.false_ne_true
    | _ => cases ht
  · have hf : isD .tuple E = false := by simpa using ht
    refine ⟨_, ?_, ?_, no (andT_f (tst_ok (isi_b (T := .tuple) (vN_ok h8) hf))), fun ds' e _ => ?_⟩
    · split <;> omega
    · split <;> omega
    · rfl
theorem l21_4 (hm : many = m) (h2 : 2 ≤ m) (h4 : m ≤ 4) {ds : List PyData} (h : ∀ E ∈ ds, ∀ sz : Nat, (∀ es, E = .tuple es → es.length ≠ 2 → sz = m) → i_Running_replace_2 O [.str "ann", E, .tuple (List.replicate sz (.int 0))] = .exc "BadChoir") (d1 : Int × Int) (C S : PyData) (x6 x7 x8 x9 : Sl) : ∃ x8' x11, loopO (setS 8) b_law_L4 ds (W21 (.ow (dcD d1)) (.sh C) (.sh S) (.sh (.int many)) O x6 x7 x8 x9 .no .no) = .nx (W21 (.ow (dcD d1)) (.sh C) (.sh S) (.sh (.int many)) O x6 x7 x8' x9 .no x11) := by
  obtain ⟨ρe, he, x8', x11', ex⟩ := loop_inv (g := setS 8) (fb := b_law_L4) (ds := ds) (fun _ ρ => ∃ x8 x11, ρ = W21 (.ow (dcD d1)) (.sh C) (.sh S) (.sh (.int many)) O x6 x7 x8 x9 .no x11) (fun j E ρ hd hI => by
    obtain ⟨x8, x11, rfl⟩ := hI
    obtain ⟨sz, s1, s2, s3, s4⟩ := size_ok hm h2 h4 E (W21 (.ow (dcD d1)) (.sh C) (.sh S) (.sh (.int many)) O x6 x7 (.sh E) x9 .no x11) rfl rfl
    have mu := mul_tupN (.int 0) s1 (by omega)
    refine ⟨W21 (.ow (dcD d1)) (.sh C) (.sh S) (.sh (.int many)) O x6 x7 (.sh E) x9 .no x11, W21 (.ow (dcD d1)) (.sh C) (.sh S) (.sh (.int many)) O x6 x7 (.sh E) x9 .no (.sh (natD sz)), rfl, ?_, .sh E, .sh (natD sz), rfl⟩
    rw [b_law_L4, seq_nx (asg_set s3 (by simp))]
    simp only [List.set_cons_zero, List.set_cons_succ]
    exact ref_nx (o := O) (o1 := O) rfl (aC_ok cD_ok (aC_ok (vN_ok rfl) (aC1 (op2_ok (opA_ok (aC1 cD_ok) rfl) (vN_ok rfl) mu)))) rfl (h E (List.mem_of_getElem? hd) sz s4)) ⟨x8, .no, rfl⟩
  subst ex
  exact ⟨x8', x11', he⟩
theorem l21_5 {ds : List PyData} (h : ∀ d ∈ ds, i_Running_replace_2 O [.str "ann", .tuple [], d] = .exc "BadChoir") (d1 : Int × Int) (C S M : PyData) (x6 x7 x8 x9 x11 : Sl) : ∃ x8', loopO (setS 8) b_law_L5 ds (W21 (.ow (dcD d1)) (.sh C) (.sh S) (.sh M) O x6 x7 x8 x9 .no x11) = .nx (W21 (.ow (dcD d1)) (.sh C) (.sh S) (.sh M) O x6 x7 x8' x9 .no x11) := by
  obtain ⟨ρe, he, x8', ex⟩ := loop_inv (g := setS 8) (fb := b_law_L5) (ds := ds) (fun _ ρ => ∃ x8, ρ = W21 (.ow (dcD d1)) (.sh C) (.sh S) (.sh M) O x6 x7 x8 x9 .no x11) (fun j dd ρ hd hI => by
    obtain ⟨x8, rfl⟩ := hI
    refine ⟨_, _, rfl, ?_, .sh dd, rfl⟩
    rw [b_law_L5]
    exact ref_nx (o := O) (o1 := O) rfl (aC_ok cD_ok (aC_ok (opA_ok aN_ok rfl) (aC1 (vN_ok rfl)))) rfl (h dd (List.mem_of_getElem? hd))) ⟨x8, rfl⟩
  subst ex
  exact ⟨x8', he⟩
theorem l21_6 {C : PyData} {ds : List PyData} (h : ∀ d ∈ ds, m_Running_init [C, d] = .exc "BadStanding") (d1 : Int × Int) (S M : PyData) (x6 x7 x8 x9 x11 : Sl) : ∃ x8', loopO (setS 8) b_law_L6 ds (W21 (.ow (dcD d1)) (.sh C) (.sh S) (.sh M) O x6 x7 x8 x9 .no x11) = .nx (W21 (.ow (dcD d1)) (.sh C) (.sh S) (.sh M) O x6 x7 x8' x9 .no x11) := by
  obtain ⟨ρe, he, x8', ex⟩ := loop_inv (g := setS 8) (fb := b_law_L6) (ds := ds) (fun _ ρ => ∃ x8, ρ = W21 (.ow (dcD d1)) (.sh C) (.sh S) (.sh M) O x6 x7 x8 x9 .no x11) (fun j dd ρ hd hI => by
    obtain ⟨x8, rfl⟩ := hI
    refine ⟨_, _, rfl, ?_, .sh dd, rfl⟩
    rw [b_law_L6]
    exact ifN_f (tst_ok (op2_ok (told_exc (makeX_exc (aC_ok (vN_ok rfl) (aC1 (vN_ok rfl))) (h dd (List.mem_of_getElem? hd)))) (opA_ok (aC_ok cD_ok (aC1 cD_ok)) rfl) (ne_same (P_ref (c := "BadStanding")))))) ⟨x8, rfl⟩
  subst ex
  exact ⟨x8', he⟩
end
end G
set_option Elab.async false
set_option linter.all false
set_option maxRecDepth 100000
set_option maxHeartbeats 1000000
namespace G
open PySem DL
local instance : DL.TabCtx := ⟨[]⟩
section
variable {many : Int} {m : Nat} {ss : List Sg} {st : List (List Nat)} {O : Ob}
theorem names_in (h : Good many ss) {x : Str} (hp : (PyData.str x).canLay0 = true) (p : Prop) [Decidable p] (hx : x ∈ ss.map (·.name) ↔ p) : gIn (.str x) (.list (ss.map fun s => .str s.name)) = some (.bool (decide p)) := by
  refine gIn_P (j := 0) (k := 0) (.str hp) (fun y hy => ?_) p ?_
  · obtain ⟨s, hs, rfl⟩ := List.mem_map.mp hy
    exact .str (h.sg s hs).word.2
  · rw [← hx]
    constructor
    · intro hm
      obtain ⟨s, hs, e⟩ := List.mem_map.mp hm
      cases e
      exact List.mem_map.mpr ⟨s, hs, rfl⟩
    · intro hm
      obtain ⟨s, hs, e⟩ := List.mem_map.mp hm
      exact List.mem_map.mpr ⟨s, hs, by rw [e]⟩
theorem bad_leads (h : Good many ss) (hO : O.crew = chD many ss) (ha : ("ann" : Str) ∈ ss.map (·.name)) (hz : ("zed" : Str) ∉ ss.map (·.name)) :
    ∀ d ∈ ([.none, .int 5, .tuple [], .list [], .dict [(.str "zed", .int 0)], .dict [(.int 5, .int 0)], .dict [(.str "ann", .int many)], .dict [(.str "ann", .int (-1))], .dict [(.str "ann", .bool true)]] ++ [.dict [(.str "ann", .none)]] : List PyData), i_Running_beat O [d] = .exc "BadLead" := by
  intro d hd
  have k1 : m_all_names [O.crew] = .ok (.list (ss.map fun s => .str s.name)) := by rw [hO]; exact all_names_ok (by have := h.l4; rw [e_LIM]; omega)
  have i0 : gIx O.crew (.int 0) = some (.int many) := by rw [hO]; rfl
  have na := names_in h (x := "ann") (by decide +kernel) True (by simp [ha])
  have nz := names_in h (x := "zed") (by decide +kernel) False (by simp [hz])
  have m2 := h.m2
  simp only [List.cons_append, List.nil_append, List.mem_cons, List.not_mem_nil, or_false] at hd
  refine beat_exc' O ?_
  rcases hd with rfl | rfl | rfl | rfl | rfl | rfl | rfl | rfl | rfl | rfl
  · exact nl_type O rfl
  · exact nl_type O rfl
  · exact nl_type O rfl
  · exact nl_type O rfl
  · exact nl_name O rfl k1 (.inr ⟨rfl, nz⟩)
  · exact nl_name O rfl k1 (.inl rfl)
  · refine nl_line O k1 na i0 ?_
    rw [is_whole_int]
    have : decide (many ≤ many - 1) = false := decide_eq_false (by omega)
    rw [this, Bool.and_false]
  · refine nl_line O k1 na i0 ?_
    rw [is_whole_int]; rfl
  · exact nl_line O k1 na i0 (whole_no (.inr rfl) _ _)
  · exact nl_line O k1 na i0 (whole_no (.inl rfl) _ _)
theorem bad_runs : ∀ d ∈ ([.int (-1), .int 501, .bool true, .none, .str "5"] : List PyData), i_Running_run_2 O [d] = .exc "BadNumber" := by
  intro d hd
  simp only [List.mem_cons, List.not_mem_nil, or_false] at hd
  refine run_exc O ?_
  rcases hd with rfl | rfl | rfl | rfl | rfl
  · rw [is_whole_int]; rfl
  · rw [is_whole_int]; rfl
  · exact whole_no (.inr rfl) _ _
  · exact whole_no (.inl rfl) _ _
  · exact whole_no (.inl rfl) _ _
theorem bad_names (h : Good many ss) (hO : O.crew = chD many ss) (hz : ("zed" : Str) ∉ ss.map (·.name)) : ∀ d ∈ ([.none, .int 5, .str "zed", .tuple [.str "ann"]] : List PyData), i_Running_replace_2 O [d, .none, .none] = .exc "BadName" := by
  intro d hd
  simp only [List.mem_cons, List.not_mem_nil, or_false] at hd
  refine rep_name O ?_
  rw [hO]
  rcases hd with rfl | rfl | rfl | rfl
  · exact name_exc1 rfl
  · exact name_exc1 rfl
  · exact name_exc2 h (by decide +kernel) hz
  · exact name_exc1 rfl
theorem bad_ears (hm : many = m) (h : Good many ss) (hO : O.crew = chD many ss) (ha : ("ann" : Str) ∈ ss.map (·.name)) (hz : ("zed" : Str) ∉ ss.map (·.name)) :
    ∀ E ∈ ([.none, .int 5, .list [], .tuple [.tuple [.str "zed", .int 1]], .tuple [.tuple [.str "ann", .int 0]], .tuple [.tuple [.str "ann", .int 4]], .tuple [.tuple [.str "ann", .int 1], .tuple [.str "ann", .int 1]]] ++ [.tuple [.tuple [.str "ann", .int 2], .tuple [.str "ann", .int 1]], .tuple [.str "ann", .int 1]] : List PyData), ∀ sz : Nat, (∀ es, E = .tuple es → es.length ≠ 2 → sz = m) → i_Running_replace_2 O [.str "ann", E, .tuple (List.replicate sz (.int 0))] = .exc "BadChoir" := by
  intro E hE sz hs
  simp only [List.cons_append, List.nil_append, List.mem_cons, List.not_mem_nil, or_false] at hE
  refine rep_choir O h hO wd_ann ha ?_
  have no : m_are_ears [E] = .ok (.bool false) → m_is_choir [.tuple [.int many, .tuple (subD "ann" (.tuple [.str "ann", E, .tuple (List.replicate sz (.int 0))]) ss)]] = .ok (.bool false) := fun he => choir_sub h ha (singer_ears he)
  rcases hE with rfl | rfl | rfl | rfl | rfl | rfl | rfl | rfl | rfl
  · exact no rfl
  · exact no rfl
  · exact no rfl
  · rw [hs _ rfl (by decide)]
    exact choir_zed hm h hz ha
  · exact no rfl
  · exact no rfl
  · exact no rfl
  · exact no rfl
  · exact no rfl
theorem bad_tables (h : Good many ss) (hO : O.crew = chD many ss) (ha : ("ann" : Str) ∈ ss.map (·.name)) :
    ∀ T ∈ ([.none, .int 5, .tuple [], .list [.int 0], .tuple [.int 0, .int 0], .tuple [.int many], .tuple [.bool true], .tuple [.int (-1)]] : List PyData), i_Running_replace_2 O [.str "ann", .tuple [], T] = .exc "BadChoir" := by
  intro T hT
  simp only [List.mem_cons, List.not_mem_nil, or_false] at hT
  refine rep_choir O h hO wd_ann ha ?_
  have no : m_are_lines [T, .int 1, .int many] = .ok (.bool false) → m_is_choir [.tuple [.int many, .tuple (subD "ann" (.tuple [.str "ann", .tuple [], T]) ss)]] = .ok (.bool false) := fun he => choir_sub h ha (singer_tab he h.m2 h.m4)
  refine no ?_
  rcases hT with rfl | rfl | rfl | rfl | rfl | rfl | rfl | rfl
  · exact lines_no rfl _ _
  · exact lines_no rfl _ _
  · exact (lines_opt [] 1 many (by simp) (z := .none) (.inl rfl)).trans rfl
  · exact lines_no rfl _ _
  · exact (lines_opt [some 0, some 0] 1 many (by simp) (z := .none) (.inl rfl)).trans rfl
  · refine (lines_opt [some many] 1 many (by simp) (z := .none) (.inl rfl)).trans ?_
    have : decide (many ≤ many - 1) = false := decide_eq_false (by omega)
    simp [this]
  · refine (lines_opt [none] 1 many (by simp) (z := .bool true) (.inr rfl)).trans ?_
    simp
  · refine (lines_opt [some (-1)] 1 many (by simp) (z := .none) (.inl rfl)).trans ?_
    simp
theorem bad_stands (h : Good many ss) (hst : GSt m ss.length st) : ∀ d ∈ ([.none, .int 5, .tuple [], .tuple (st.map rowD ++ [.tuple [.int 0, .int 0, .int 0]]), .tuple (List.replicate ss.length (.tuple [.int 0, .int 0, .int many]))] : List PyData), m_Running_init [chD many ss, d] = .exc "BadStanding" := by
  intro d hd
  have l1 := h.l1
  simp only [List.mem_cons, List.not_mem_nil, or_false] at hd
  refine init_stand (need_choir_ok h) ?_
  rcases hd with rfl | rfl | rfl | rfl | rfl
  · exact gst_no _ rfl
  · exact gst_no _ rfl
  · exact gst_len (by simp; omega)
  · exact gst_len (by rw [List.length_append, List.length_map, hst.len]; simp)
  · refine gst_rep l1 h.l4 ((lines_opt [some 0, some 0, some many] 3 many (by simp) (z := .none) (.inl rfl)).trans ?_)
    have : decide (many ≤ many - 1) = false := decide_eq_false (by omega)
    simp [this]
end
theorem k21_main (c : Int) : ∃ ρ', b_law (DL.init law_n law_di c) = .nx ρ' ∧ ρ'.length = law_n := by
  obtain ⟨many, ss, d1, a1, hG, hc, hz⟩ := any_choir_ok (c, 0)
  have m2 := hG.m2
  have m4 := hG.m4
  have l1 := hG.l1
  have l4 := hG.l4
  have l3 : ss.length ≤ 3 := by omega
  obtain ⟨m, hm⟩ : ∃ m : Nat, many = m := ⟨many.toNat, by omega⟩
  obtain ⟨st, d2, a2, hst⟩ := any_standing_ok hm m2 m4 ss hG.l4 d1
  obtain ⟨r, d3, a3, hr⟩ := roll_nat d2 (n := 5) (by decide) (by decide)
  have a3 : m_law_roll (dcD d2) [.int 5] = .ok (natD r, dcD d3) := a3
  have i0 : gIx (chD many ss) (.int 0) = some (.int many) := rfl
  have i1 : gIx (chD many ss) (.int 1) = some (.tuple (ss.map Sg.d)) := rfl
  have ha : ("ann" : Str) ∈ ss.map (·.name) := by
    rw [hc]
    have : ss.length = 1 ∨ ss.length = 2 ∨ ss.length = 3 := by omega
    rcases this with e | e | e <;> rw [e] <;> decide
  have hzd : ("zed" : Str) ∉ ss.map (·.name) := by
    rw [hc]
    have : ss.length = 1 ∨ ss.length = 2 ∨ ss.length = 3 := by omega
    rcases this with e | e | e <;> rw [e] <;> decide
  have kin := init_ok (need_choir_ok hG) (need_standing_ok hm hG.l4 hst)
  have krun := run_ok hm hG hst (newS (chD many ss) (stD st)) rfl rfl (show 0 < LIM by decide) (show 0 < LIM by decide) (k := r) (by omega) (show 0 + 500 < LIM by decide)
  have hO1 : (runO m ss st (newS (chD many ss) (stD st)) r).crew = chD many ss := rfl
  have hO2 : (runO m ss st (newS (chD many ss) (stD st)) r).stand = stD (stAt m ss st r) := rfl
  have hO3 : (runO m ss st (newS (chD many ss) (stD st)) r).sung = (rowsV m ss st r).map rowD := rfl
  have hO4 : (runO m ss st (newS (chD many ss) (stD st)) r).past = [] ++ [.tuple [chD many ss, stD st, natD 0]] := rfl
  have hO5 : (runO m ss st (newS (chD many ss) (stD st)) r).deeds ≠ [] := by
    show ([] ++ [_] : List PyData) ≠ []
    simp
  generalize hO : runO m ss st (newS (chD many ss) (stD st)) r = O at krun hO1 hO2 hO3 hO4 hO5
  have kun := undo_ok O hO4 (fun x hx => by
    rw [hO4] at hx
    rw [List.mem_singleton.mp hx]
    exact .tuple fun y hy => by
      rcases List.mem_cons.mp hy with rfl | hy
      · exact (hG.p (k := 0)).mono (by decide)
      · rcases List.mem_cons.mp hy with rfl | hy
        · exact (P_st (k := 0) st).mono (by decide)
        · rw [List.mem_singleton.mp hy]; exact .int _) hO5
  have hPl : P 2 (.list O.sung) := by
    rw [hO3]
    exact .list fun x hx => by obtain ⟨r, _, rfl⟩ := List.mem_map.mp hx; exact P_row r
  have hPk : P 7 (.tuple [O.crew, O.stand, .list O.sung]) := .tuple fun x hx => by
    rcases List.mem_cons.mp hx with rfl | hx
    · rw [hO1]; exact (hG.p (k := 0)).mono (by decide)
    · rcases List.mem_cons.mp hx with rfl | hx
      · rw [hO2]; exact (P_st (k := 0) _).mono (by decide)
      · rw [List.mem_singleton.mp hx]; exact hPl.mono (by decide)
  have q1 := bad_leads (O := O) hG hO1 ha hzd
  have q2 := bad_runs (O := O)
  have q3 := bad_names (O := O) hG hO1 hzd
  have q4 := bad_ears (O := O) hm hG hO1 ha hzd
  have q5 := bad_tables (O := O) hG hO1 ha
  have q6 := bad_stands hG hst
  have nes := ne_same (P_st (k := 0) st)
  have nel := ne_same hPl
  have nek := ne_same hPk
  have ng : gNeg (.int 1) = some (.int (-1)) := rfl
  have ad6 : gAdd (stD st) (.tuple [.tuple [.int 0, .int 0, .int 0]]) = some (.tuple (st.map rowD ++ [.tuple [.int 0, .int 0, .int 0]])) := add_t (by rw [List.length_map, hst.len, List.length_singleton]; omega)
  have ln6 : gLen [stD st] = some (natD ss.length) := by
    show gLen [.tuple (st.map rowD)] = _
    rw [e_len_t, List.length_map, hst.len]
  have mu6 := mul_tupN (.tuple [.int 0, .int 0, .int many]) l1 (by omega : ss.length ≤ 1000)
  show ∃ ρ', b_law [.no, .ow (dcD (c, 0)), .no, .no, .no, .no, .no, .no, .no, .no, .no, .no] = .nx ρ' ∧ ρ'.length = 12
  rw [b_law]
  refine seq_ex (asg_set (callL_ok rfl aN_ok a1) (by simp)) ?_
  simp only [List.set_cons_zero, List.set_cons_succ]
  refine seq_ex (par2_ok (aC_ok (callL_ok rfl (by repeat' (first | with_reducible exact cD_ok | with_reducible exact aN_ok | with_reducible exact noPrt_ok | with_reducible exact xN_ok | (with_reducible apply vN_ok; rfl) | with_reducible assumption | with_reducible apply aC_ok | with_reducible apply op2_ok | with_reducible apply op1_ok | with_reducible apply opA_ok | with_reducible apply opI_ok | with_reducible apply callM_ok | with_reducible apply slc_ok | with_reducible apply prt_ok | with_reducible apply tst_ok | with_reducible apply isi_ok | with_reducible apply notT_ok | with_reducible apply xSh_ok | rfl)) a2) (aC1 (op2_ok (vN_ok rfl) cD_ok i0))) (by simp) (by simp)) ?_
  simp only [List.set_cons_zero, List.set_cons_succ]
  refine seq_ex (newO_ok (aC_ok (vN_ok rfl) (aC1 (vN_ok rfl))) kin (by simp)) ?_
  simp only [List.set_cons_zero, List.set_cons_succ]
  refine seq_ex (drop_nx (methI_okL ⟨_, rfl⟩ (aC1 (callL_ok rfl (by repeat' (first | with_reducible exact cD_ok | with_reducible exact aN_ok | with_reducible exact noPrt_ok | with_reducible exact xN_ok | (with_reducible apply vN_ok; rfl) | with_reducible assumption | with_reducible apply aC_ok | with_reducible apply op2_ok | with_reducible apply op1_ok | with_reducible apply opA_ok | with_reducible apply opI_ok | with_reducible apply callM_ok | with_reducible apply slc_ok | with_reducible apply prt_ok | with_reducible apply tst_ok | with_reducible apply isi_ok | with_reducible apply notT_ok | with_reducible apply xSh_ok | rfl)) a3)) rfl krun)) ?_
  simp only [List.set_cons_zero, List.set_cons_succ]
  refine seq_ex (asg_set (opA_ok (aC_ok (methO_ok (o := O) rfl aN_ok (choir_ok O)) (aC_ok (methO_ok (o := O) rfl aN_ok (standing_ok O)) (aC1 (opA_ok (aC1 (methO_ok (o := O) rfl aN_ok (lines_ok O))) rfl)))) rfl) (by simp)) ?_
  simp only [List.set_cons_zero, List.set_cons_succ]
  refine seq_ex (asg_set (d := .list [.none, .int 5, .tuple [], .list [], .dict [(.str "zed", .int 0)], .dict [(.int 5, .int 0)], .dict [(.str "ann", .int many)], .dict [(.str "ann", .int (-1))], .dict [(.str "ann", .bool true)]]) (by repeat' (first | with_reducible exact cD_ok | with_reducible exact aN_ok | with_reducible exact noPrt_ok | with_reducible exact xN_ok | (with_reducible apply vN_ok; rfl) | with_reducible assumption | with_reducible apply aC_ok | with_reducible apply op2_ok | with_reducible apply op1_ok | with_reducible apply opA_ok | with_reducible apply opI_ok | with_reducible apply callM_ok | with_reducible apply slc_ok | with_reducible apply prt_ok | with_reducible apply tst_ok | with_reducible apply isi_ok | with_reducible apply notT_ok | with_reducible apply xSh_ok | rfl)) (by simp)) ?_
  simp only [List.set_cons_zero, List.set_cons_succ]
  refine seq_ex (asg_set (op2_ok (vN_ok rfl) (opA_ok (aC1 (op2_ok cD_ok cD_ok rfl)) rfl) (add_l (by simp))) (by simp)) ?_
  simp only [List.set_cons_zero, List.set_cons_succ]
  obtain ⟨x8a, h8⟩ := l21_1 q1 d3 (chD many ss) (stD st) (.int many) (.sh (.tuple [O.crew, O.stand, .list O.sung])) (.sh (.list ([.none, .int 5, .tuple [], .list [], .dict [(.str "zed", .int 0)], .dict [(.int 5, .int 0)], .dict [(.str "ann", .int many)], .dict [(.str "ann", .int (-1))], .dict [(.str "ann", .bool true)]] ++ [.dict [(.str "ann", .none)]]))) .no
  refine seq_ex ((for_ok (seqI_l (vN_ok rfl))).trans h8) ?_
  generalize ([.none, .int 5, .tuple [], .list [], .dict [(.str "zed", .int 0)], .dict [(.int 5, .int 0)], .dict [(.str "ann", .int many)], .dict [(.str "ann", .int (-1))], .dict [(.str "ann", .bool true)]] ++ [.dict [(.str "ann", .none)]] : List PyData) = cases
  obtain ⟨x8b, h9⟩ := l21_2 q2 d3 (chD many ss) (stD st) (.int many) (.sh (.tuple [O.crew, O.stand, .list O.sung])) (.sh (.list cases)) x8a
  refine seq_ex ((for_ok (seqI_l (ds := [.int (-1), .int 501, .bool true, .none, .str "5"]) (by repeat' (first | with_reducible exact cD_ok | with_reducible exact aN_ok | with_reducible exact noPrt_ok | with_reducible exact xN_ok | (with_reducible apply vN_ok; rfl) | with_reducible assumption | with_reducible apply aC_ok | with_reducible apply op2_ok | with_reducible apply op1_ok | with_reducible apply opA_ok | with_reducible apply opI_ok | with_reducible apply callM_ok | with_reducible apply slc_ok | with_reducible apply prt_ok | with_reducible apply tst_ok | with_reducible apply isi_ok | with_reducible apply notT_ok | with_reducible apply xSh_ok | rfl)))).trans h9) ?_
  obtain ⟨x8c, h10⟩ := l21_3 q3 d3 (chD many ss) (stD st) (.int many) (.sh (.tuple [O.crew, O.stand, .list O.sung])) (.sh (.list cases)) x8b
  refine seq_ex ((for_ok (seqI_l (ds := [.none, .int 5, .str "zed", .tuple [.str "ann"]]) (by repeat' (first | with_reducible exact cD_ok | with_reducible exact aN_ok | with_reducible exact noPrt_ok | with_reducible exact xN_ok | (with_reducible apply vN_ok; rfl) | with_reducible assumption | with_reducible apply aC_ok | with_reducible apply op2_ok | with_reducible apply op1_ok | with_reducible apply opA_ok | with_reducible apply opI_ok | with_reducible apply callM_ok | with_reducible apply slc_ok | with_reducible apply prt_ok | with_reducible apply tst_ok | with_reducible apply isi_ok | with_reducible apply notT_ok | with_reducible apply xSh_ok | rfl)))).trans h10) ?_
  refine seq_ex (asg_set (d := .list [.none, .int 5, .list [], .tuple [.tuple [.str "zed", .int 1]], .tuple [.tuple [.str "ann", .int 0]], .tuple [.tuple [.str "ann", .int 4]], .tuple [.tuple [.str "ann", .int 1], .tuple [.str "ann", .int 1]]]) (by repeat' (first | with_reducible exact cD_ok | with_reducible exact aN_ok | with_reducible exact noPrt_ok | with_reducible exact xN_ok | (with_reducible apply vN_ok; rfl) | with_reducible assumption | with_reducible apply aC_ok | with_reducible apply op2_ok | with_reducible apply op1_ok | with_reducible apply opA_ok | with_reducible apply opI_ok | with_reducible apply callM_ok | with_reducible apply slc_ok | with_reducible apply prt_ok | with_reducible apply tst_ok | with_reducible apply isi_ok | with_reducible apply notT_ok | with_reducible apply xSh_ok | rfl)) (by simp)) ?_
  simp only [List.set_cons_zero, List.set_cons_succ]
  refine seq_ex (asg_set (op2_ok (vN_ok rfl) (show opA gLstD _ _ = .ok (.list [.tuple [.tuple [.str "ann", .int 2], .tuple [.str "ann", .int 1]], .tuple [.str "ann", .int 1]], _) from (by repeat' (first | with_reducible exact cD_ok | with_reducible exact aN_ok | with_reducible exact noPrt_ok | with_reducible exact xN_ok | (with_reducible apply vN_ok; rfl) | with_reducible assumption | with_reducible apply aC_ok | with_reducible apply op2_ok | with_reducible apply op1_ok | with_reducible apply opA_ok | with_reducible apply opI_ok | with_reducible apply callM_ok | with_reducible apply slc_ok | with_reducible apply prt_ok | with_reducible apply tst_ok | with_reducible apply isi_ok | with_reducible apply notT_ok | with_reducible apply xSh_ok | rfl))) (add_l (by simp))) (by simp)) ?_
  simp only [List.set_cons_zero, List.set_cons_succ]
  obtain ⟨x8d, x11, h11⟩ := l21_4 hm (by omega) (by omega) q4 d3 (chD many ss) (stD st) (.sh (.tuple [O.crew, O.stand, .list O.sung])) (.sh (.list cases)) x8c (.sh (.list ([.none, .int 5, .list [], .tuple [.tuple [.str "zed", .int 1]], .tuple [.tuple [.str "ann", .int 0]], .tuple [.tuple [.str "ann", .int 4]], .tuple [.tuple [.str "ann", .int 1], .tuple [.str "ann", .int 1]]] ++ [.tuple [.tuple [.str "ann", .int 2], .tuple [.str "ann", .int 1]], .tuple [.str "ann", .int 1]])))
  refine seq_ex ((for_ok (seqI_l (vN_ok rfl))).trans h11) ?_
  generalize ([.none, .int 5, .list [], .tuple [.tuple [.str "zed", .int 1]], .tuple [.tuple [.str "ann", .int 0]], .tuple [.tuple [.str "ann", .int 4]], .tuple [.tuple [.str "ann", .int 1], .tuple [.str "ann", .int 1]]] ++ [.tuple [.tuple [.str "ann", .int 2], .tuple [.str "ann", .int 1]], .tuple [.str "ann", .int 1]] : List PyData) = ears
  obtain ⟨x8e, h12⟩ := l21_5 q5 d3 (chD many ss) (stD st) (.int many) (.sh (.tuple [O.crew, O.stand, .list O.sung])) (.sh (.list cases)) x8d (.sh (.list ears)) x11
  refine seq_ex ((for_ok (seqI_l (ds := [.none, .int 5, .tuple [], .list [.int 0], .tuple [.int 0, .int 0], .tuple [.int many], .tuple [.bool true], .tuple [.int (-1)]]) (by repeat' (first | with_reducible exact cD_ok | with_reducible exact aN_ok | with_reducible exact noPrt_ok | with_reducible exact xN_ok | (with_reducible apply vN_ok; rfl) | with_reducible assumption | with_reducible apply aC_ok | with_reducible apply op2_ok | with_reducible apply op1_ok | with_reducible apply opA_ok | with_reducible apply opI_ok | with_reducible apply callM_ok | with_reducible apply slc_ok | with_reducible apply prt_ok | with_reducible apply tst_ok | with_reducible apply isi_ok | with_reducible apply notT_ok | with_reducible apply xSh_ok | rfl)))).trans h12) ?_
  refine seq_ex (ifN_f (tst_ok (op2_ok (opA_ok (aC_ok (methO_ok (o := O) rfl aN_ok (choir_ok O)) (aC_ok (methO_ok (o := O) rfl aN_ok (standing_ok O)) (aC1 (methO_ok (o := O) rfl aN_ok (lines_ok O))))) rfl) (vN_ok rfl) nek))) ?_
  obtain ⟨x8f, h13⟩ := l21_6 (O := O) q6 d3 (stD st) (.int many) (.sh (.tuple [O.crew, O.stand, .list O.sung])) (.sh (.list cases)) x8e (.sh (.list ears)) x11
  refine seq_ex ((for_ok (seqI_l (ds := [.none, .int 5, .tuple [], .tuple (st.map rowD ++ [.tuple [.int 0, .int 0, .int 0]]), .tuple (List.replicate ss.length (.tuple [.int 0, .int 0, .int many]))]) (by repeat' (first | with_reducible exact cD_ok | with_reducible exact aN_ok | with_reducible exact noPrt_ok | with_reducible exact xN_ok | (with_reducible apply vN_ok; rfl) | with_reducible assumption | with_reducible apply aC_ok | with_reducible apply op2_ok | with_reducible apply op1_ok | with_reducible apply opA_ok | with_reducible apply opI_ok | with_reducible apply callM_ok | with_reducible apply slc_ok | with_reducible apply prt_ok | with_reducible apply tst_ok | with_reducible apply isi_ok | with_reducible apply notT_ok | with_reducible apply xSh_ok | rfl)))).trans h13) ?_
  refine seq_ex (linesO_ok (o := O) rfl) ?_
  simp only [List.set_cons_zero, List.set_cons_succ]
  have hsl : O.sung.length < LIM := by
    rw [hO3, List.length_map]
    unfold rowsV
    rw [List.length_map, List.length_range, e_LIM]; omega
  refine seq_ex (app_ok rfl cD_ok rfl hsl) ?_
  simp only [List.set_cons_zero, List.set_cons_succ]
  refine one_ex (ifN_f (orT_f (tst_ok (op2_ok (methO_ok (o := O) rfl aN_ok (lines_ok O)) (op2_ok (vN_ok rfl) cD_ok (show gIx (.tuple [O.crew, O.stand, .list O.sung]) (.int 2) = some (.list O.sung) from rfl)) nel)) (orT_f (tst_ok (op2_ok (methI_ok (o := O) rfl aN_ok kun) cD_ok rfl)) (tst_ok (op2_ok (methO_ok rfl aN_ok (standing_ok _)) (vN_ok rfl) nes))))) ?_
  rfl
end G
namespace Law
theorem main : ∀ c : Int, ∃ ρ', G.b_law (DL.init G.law_n G.law_di c) = .nx ρ' ∧ ρ'.length = G.law_n := G.k21_main
end Law
set_option maxHeartbeats 0
namespace Head
open PySem PySem.Spec PyProof.Rows L2 DL G
theorem facts {K : PySem.W.Frag} {h : Heap} {mg : Str → Option Value} (X : K.In h) (G : h.Ns mainGlobals mg) (c : He.SaysD fa fn K) : Tx K mg where
  f_is_whole := c.def_ 0 (d := d_is_whole) rfl
  g_is_whole := He.glo_ok X G (c.fact 0 (f := .glo "is_whole") rfl)
  f_is_word := c.def_ 1 (d := d_is_word) rfl
  g_is_word := He.glo_ok X G (c.fact 1 (f := .glo "is_word") rfl)
  f_rise := c.def_ 2 (d := d_rise) rfl
  g_rise := He.glo_ok X G (c.fact 2 (f := .glo "rise") rfl)
  f_are_lines := c.def_ 3 (d := d_are_lines) rfl
  g_are_lines := He.glo_ok X G (c.fact 3 (f := .glo "are_lines") rfl)
  f_is_ear := c.def_ 4 (d := d_is_ear) rfl
  g_is_ear := He.glo_ok X G (c.fact 4 (f := .glo "is_ear") rfl)
  f_are_ears := c.def_ 5 (d := d_are_ears) rfl
  g_are_ears := He.glo_ok X G (c.fact 5 (f := .glo "are_ears") rfl)
  f_places_for := c.def_ 6 (d := d_places_for) rfl
  g_places_for := He.glo_ok X G (c.fact 6 (f := .glo "places_for") rfl)
  f_is_singer := c.def_ 7 (d := d_is_singer) rfl
  g_is_singer := He.glo_ok X G (c.fact 7 (f := .glo "is_singer") rfl)
  f_is_choir := c.def_ 8 (d := d_is_choir) rfl
  g_is_choir := He.glo_ok X G (c.fact 8 (f := .glo "is_choir") rfl)
  f_need_choir := c.def_ 9 (d := d_need_choir) rfl
  g_need_choir := He.glo_ok X G (c.fact 9 (f := .glo "need_choir") rfl)
  f_all_names := c.def_ 10 (d := d_all_names) rfl
  g_all_names := He.glo_ok X G (c.fact 10 (f := .glo "all_names") rfl)
  f_is_good_standing := c.def_ 11 (d := d_is_good_standing) rfl
  g_is_good_standing := He.glo_ok X G (c.fact 11 (f := .glo "is_good_standing") rfl)
  f_need_standing := c.def_ 12 (d := d_need_standing) rfl
  g_need_standing := He.glo_ok X G (c.fact 12 (f := .glo "need_standing") rfl)
  f_need_name := c.def_ 13 (d := d_need_name) rfl
  g_need_name := He.glo_ok X G (c.fact 13 (f := .glo "need_name") rfl)
  f_number_of := c.def_ 14 (d := d_number_of) rfl
  g_number_of := He.glo_ok X G (c.fact 14 (f := .glo "number_of") rfl)
  f_heard_by := c.def_ 15 (d := d_heard_by) rfl
  g_heard_by := He.glo_ok X G (c.fact 15 (f := .glo "heard_by") rfl)
  f_place_of := c.def_ 16 (d := d_place_of) rfl
  g_place_of := He.glo_ok X G (c.fact 16 (f := .glo "place_of") rfl)
  f_table_line := c.def_ 17 (d := d_table_line) rfl
  g_table_line := He.glo_ok X G (c.fact 17 (f := .glo "table_line") rfl)
  f_all_next := c.def_ 18 (d := d_all_next) rfl
  g_all_next := He.glo_ok X G (c.fact 18 (f := .glo "all_next") rfl)
  f_behind := c.def_ 19 (d := d_behind) rfl
  g_behind := He.glo_ok X G (c.fact 19 (f := .glo "behind") rfl)
  f_need_beats := c.def_ 20 (d := d_need_beats) rfl
  g_need_beats := He.glo_ok X G (c.fact 20 (f := .glo "need_beats") rfl)
  f_law_cell := c.def_ 21 (d := d_law_cell) rfl
  g_law_cell := He.glo_ok X G (c.fact 21 (f := .glo "_law_cell") rfl)
  f_law_drawn := c.def_ 22 (d := d_law_drawn) rfl
  g_law_drawn := He.glo_ok X G (c.fact 22 (f := .glo "_law_drawn") rfl)
  f_law_roll := c.def_ 23 (d := d_law_roll) rfl
  g_law_roll := He.glo_ok X G (c.fact 23 (f := .glo "_law_roll") rfl)
  f_law_rounds := c.def_ 24 (d := d_law_rounds) rfl
  g_law_rounds := He.glo_ok X G (c.fact 24 (f := .glo "_law_rounds") rfl)
  f_law_term := c.def_ 25 (d := d_law_term) rfl
  g_law_term := He.glo_ok X G (c.fact 25 (f := .glo "_law_term") rfl)
  f_law_told := c.def_ 26 (d := d_law_told) rfl
  g_law_told := He.glo_ok X G (c.fact 26 (f := .glo "_law_told") rfl)
  f_law_any_singers := c.def_ 27 (d := d_law_any_singers) rfl
  g_law_any_singers := He.glo_ok X G (c.fact 27 (f := .glo "_law_any_singers") rfl)
  f_law_any_choir := c.def_ 28 (d := d_law_any_choir) rfl
  g_law_any_choir := He.glo_ok X G (c.fact 28 (f := .glo "_law_any_choir") rfl)
  f_law_any_standing := c.def_ 29 (d := d_law_any_standing) rfl
  g_law_any_standing := He.glo_ok X G (c.fact 29 (f := .glo "_law_any_standing") rfl)
  f_law := c.def_ 30 (d := d_law) rfl
  g_law := He.glo_ok X G (c.fact 30 (f := .glo "law") rfl)
  f_Running_init := c.def_ 31 (d := d_Running_init) rfl
  f_Running_len := c.def_ 32 (d := d_Running_len) rfl
  f_Running_remember := c.def_ 33 (d := d_Running_remember) rfl
  f_Running_need_leads := c.def_ 34 (d := d_Running_need_leads) rfl
  f_Running_sing := c.def_ 35 (d := d_Running_sing) rfl
  f_Running_beat := c.def_ 36 (d := d_Running_beat) rfl
  f_Running_run_2 := c.def_ 37 (d := d_Running_run_2) rfl
  f_Running_replace_2 := c.def_ 38 (d := d_Running_replace_2) rfl
  f_Running_lines := c.def_ 39 (d := d_Running_lines) rfl
  f_Running_standing := c.def_ 40 (d := d_Running_standing) rfl
  f_Running_choir := c.def_ 41 (d := d_Running_choir) rfl
  f_Running_undo_2 := c.def_ 42 (d := d_Running_undo_2) rfl
  rk := ⟨He.cls_ok (c.fact 73 (f := .cls "Running") rfl), fun x hx => by
    simp only [obNames, List.mem_cons, List.not_mem_nil, or_false] at hx
    rcases hx with rfl | rfl | rfl | rfl | rfl | rfl
    · exact He.noat_ok (c.fact 75 (f := .noat "Running" "first") rfl)
    · exact He.noat_ok (c.fact 76 (f := .noat "Running" "crew") rfl)
    · exact He.noat_ok (c.fact 77 (f := .noat "Running" "stand") rfl)
    · exact He.noat_ok (c.fact 78 (f := .noat "Running" "sung") rfl)
    · exact He.noat_ok (c.fact 79 (f := .noat "Running" "deeds") rfl)
    · exact He.noat_ok (c.fact 80 (f := .noat "Running" "past") rfl), He.mkr_ok (c.fact 74 (f := .mkr "Running") rfl), fun x hx => by
    simp only [metNames, List.mem_cons, List.not_mem_nil, or_false] at hx
    rcases hx with rfl | rfl | rfl | rfl | rfl | rfl | rfl | rfl | rfl | rfl
    · exact He.meth_ok (c.fact 81 (f := .meth "Running" "remember") rfl)
    · exact He.meth_ok (c.fact 82 (f := .meth "Running" "need_leads") rfl)
    · exact He.meth_ok (c.fact 83 (f := .meth "Running" "sing") rfl)
    · exact He.meth_ok (c.fact 84 (f := .meth "Running" "beat") rfl)
    · exact He.meth_ok (c.fact 85 (f := .meth "Running" "run") rfl)
    · exact He.meth_ok (c.fact 86 (f := .meth "Running" "replace") rfl)
    · exact He.meth_ok (c.fact 87 (f := .meth "Running" "lines") rfl)
    · exact He.meth_ok (c.fact 88 (f := .meth "Running" "standing") rfl)
    · exact He.meth_ok (c.fact 89 (f := .meth "Running" "choir") rfl)
    · exact He.meth_ok (c.fact 90 (f := .meth "Running" "undo") rfl)⟩
  k_Clash := He.glo_ok X G (c.fact 39 (f := .glo "Clash") rfl)
  k_Running := He.glo_ok X G (c.fact 43 (f := .glo "Running") rfl)
  x_SongError := ⟨He.glo_ok X G (c.fact 31 (f := .glo "SongError") rfl), He.exc_ok (c.fact 44 (f := .exc "SongError") rfl)⟩
  x_BadChoir := ⟨He.glo_ok X G (c.fact 32 (f := .glo "BadChoir") rfl), He.exc_ok (c.fact 45 (f := .exc "BadChoir") rfl)⟩
  x_BadName := ⟨He.glo_ok X G (c.fact 33 (f := .glo "BadName") rfl), He.exc_ok (c.fact 46 (f := .exc "BadName") rfl)⟩
  x_BadStanding := ⟨He.glo_ok X G (c.fact 34 (f := .glo "BadStanding") rfl), He.exc_ok (c.fact 47 (f := .exc "BadStanding") rfl)⟩
  x_BadNumber := ⟨He.glo_ok X G (c.fact 35 (f := .glo "BadNumber") rfl), He.exc_ok (c.fact 48 (f := .exc "BadNumber") rfl)⟩
  x_BadRows := ⟨He.glo_ok X G (c.fact 36 (f := .glo "BadRows") rfl), He.exc_ok (c.fact 49 (f := .exc "BadRows") rfl)⟩
  x_BadLead := ⟨He.glo_ok X G (c.fact 37 (f := .glo "BadLead") rfl), He.exc_ok (c.fact 50 (f := .exc "BadLead") rfl)⟩
  x_BadWish := ⟨He.glo_ok X G (c.fact 38 (f := .glo "BadWish") rfl), He.exc_ok (c.fact 51 (f := .exc "BadWish") rfl)⟩
  x_Nothing := ⟨He.glo_ok X G (c.fact 40 (f := .glo "Nothing") rfl), He.exc_ok (c.fact 52 (f := .exc "Nothing") rfl)⟩
  x_Full := ⟨He.glo_ok X G (c.fact 41 (f := .glo "Full") rfl), He.exc_ok (c.fact 53 (f := .exc "Full") rfl)⟩
  x_BadText := ⟨He.glo_ok X G (c.fact 42 (f := .glo "BadText") rfl), He.exc_ok (c.fact 54 (f := .exc "BadText") rfl)⟩
  c_SMALL := He.str_ok X G (c.fact 55 (f := .str "SMALL" "abcdefghijklmnopqrstuvwxyz") rfl)
  c_LONGEST := He.int_ok X G (c.fact 56 (f := .int "LONGEST" 500) rfl)
  z_ValueError := He.free_ok X G (c.fact 57 (f := .free "ValueError") rfl)
  z_all := He.free_ok X G (c.fact 58 (f := .free "all") rfl)
  z_bool := He.free_ok X G (c.fact 59 (f := .free "bool") rfl)
  z_dict := He.free_ok X G (c.fact 60 (f := .free "dict") rfl)
  z_int := He.free_ok X G (c.fact 61 (f := .free "int") rfl)
  z_isinstance := He.free_ok X G (c.fact 62 (f := .free "isinstance") rfl)
  z_len := He.free_ok X G (c.fact 63 (f := .free "len") rfl)
  z_list := He.free_ok X G (c.fact 64 (f := .free "list") rfl)
  z_max := He.free_ok X G (c.fact 65 (f := .free "max") rfl)
  z_min := He.free_ok X G (c.fact 66 (f := .free "min") rfl)
  z_range := He.free_ok X G (c.fact 67 (f := .free "range") rfl)
  z_sorted := He.free_ok X G (c.fact 68 (f := .free "sorted") rfl)
  z_str := He.free_ok X G (c.fact 69 (f := .free "str") rfl)
  z_sum := He.free_ok X G (c.fact 70 (f := .free "sum") rfl)
  z_tuple := He.free_ok X G (c.fact 71 (f := .free "tuple") rfl)
  z_zip := He.free_ok X G (c.fact 72 (f := .free "zip") rfl)
end Head
open PySem PySem.W PySem.Calls PyProof.Rows
theorem PySem.Challenge.cw_hearsong_k21_running_refused_holds : PySem.Challenge.rw_hearsong_k21_running_refused.Holds := by
  w_on; o_law
  refine HandSHeadRun.head_any (r := OpenLaw.row PySem.Challenge.rw_hearsong_k21_running_refused) (q := view (OpenLaw.row PySem.Challenge.rw_hearsong_k21_running_refused).prog [50]) (H := Head.hk) (ob := Head.ob) (M := 9000) (loose := Head.loose) (d := HandSHeadRun.topDef (OpenLaw.row PySem.Challenge.rw_hearsong_k21_running_refused).prog 50) (kwd := []) Head.ob_eq
    (by kernel_rfl) (fun s => by kernel_rfl) Head.run (by kernel_rfl) (by kernel_rfl) (by kernel_rfl) (by kernel_rfl) (by first | assumption | decide +kernel) (by decide +kernel) ⟨by kernel_rfl, by kernel_rfl, by kernel_rfl, by kernel_rfl, by kernel_rfl, by decide +kernel⟩ ?hw ?hc
  case hw => w_witness2
  case hc =>
    refine LamX.walk_ofTsE (l := PySem.Challenge.rw_hearsong_k21_running_refused) (n := 63) (k := 11) (x := "script") (CX := fun w => L2N.CX (PySem.Challenge.rw_hearsong_k21_running_refused).prog w) rfl (by decide) (by kernel_rfl) ⟨rfl, by decide, by decide⟩ ?F (fun _ _ _ _ _ z => HD.cx_no z)
    intro w mg fa h Y Gn hmg0
    obtain ⟨K, KX, c, LS, ex⟩ := Y
    have hmg : mg ("law" : PySem.Str) = some (.ref fa) := by
      have e : (HandSHeadRun.topDef (OpenLaw.row PySem.Challenge.rw_hearsong_k21_running_refused).prog 50).name = ("law" : PySem.Str) := by kernel_rfl
      rw [← e]
      exact hmg0
    have T := Head.facts KX Gn c
    have e := hmg.symm.trans T.g_law
    cases e
    letI : DL.TabCtx := HD.ctxL K G.lams
    obtain ⟨fd, hF, hb⟩ := G.ok_law (P := (PySem.Challenge.rw_hearsong_k21_running_refused).prog) (w := w) T (ex rfl) Law.main
    exact ⟨K, KX, fd, HD.codesL K G.lams, DL.spLaw ⟨K, w⟩, fun p hp => (LS.tab p hp).1, fun p hp => (LS.tab p hp).2.1, fun p hp => (LS.tab p hp).2.2, hb, fun H a ns hl _ hH hS => ⟨HD.tabs_start hH, a, ns, rfl, hS, hl, fun _ => rfl⟩, fun base _ _ TB => hF base (HD.lamKs LS TB)⟩
