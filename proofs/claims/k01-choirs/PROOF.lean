import PyProof.Rows.All
import HandS.ForMost
import HandS.Exc
import HandS.ExcCtx
import HandS.HotCalls
import HandS.Lambda
import HandS.EndTab
import HandS.TryOnly
import HandS.ExcOwn
import HandS.WordsExc
import HandS.IsInst
import HandS.Deep
import HandS.TupAny
import HandS.TupMul
import HandS.TupLe
import HandS.Zip
import HandS.Style
import HandS.Wide
import HandS.HeadHook1
import HandS.HeadHook2
import KE.KDictKeyed
import HandS.SortRule
import KE.GoesEnum
import HandS.SetFor
import HandS.Ends
import HandS.HeadEnd
import HandS.Conv
import PyProof.DictDisplay
import HandS.Hot
import PyProof.Rows.SumAny
import HandS.ExcIs
import HandS.HeadWalk
import KE.GoesMore
import KE.KDictZip
import KE.KDictDisplayH
import KE.KDictPairs
import HandS.DictComp
import KE.SortData
import KE.KDictCopyH
import KE.KDictSum
import KE.KTupSum
import KE.DataMinMax
import PyProof.Rows.CallKwBuiltin
import KE.GoesRaise
import HandS.Text
import HandS.FStr
import KE.DataMinKey
import KE.DataFind
import HandS.Strs
import KE.KDictItemsList
import HandS.DictTup
import PyProof.ReprRoads
import PyProof.ReprBulk
import HandS.SetTxt0
import HandS.TupSets
import KE.KeyNested
import PyProof.Rows.SortShellK
import PyProof.Rows.SortStr
import Wide.All
import OpenK.AllK
import Wide.FinOn
import KE.KStateDown
import HandS.Base
import HandS.Call
import HandS.More
import HandS.Words
import HandS.Defaults
import HandS.Head0
import HandS.Head1
import HandS.Head2
import PySem.Challenge.RW_hearsong_k01_whole_choirs
set_option Elab.async false
set_option linter.all false
set_option maxRecDepth 100000
set_option maxHeartbeats 1000000
namespace DL
open PySem PySem.Spec PyProof.Rows L2
abbrev St := L2.St
/-- the text's frame and the world -/
structure KW where
  k : PySem.W.Frag
  w : World
instance : Coe KW PySem.W.Frag := ⟨KW.k⟩
abbrev _root_.L2.Cx.kw (X : Cx) : KW := ⟨X.K, X.w⟩
mutual
def nkey : PyData → Option NestedKey
  | .none => some .none
  | .bool b => some (.num (if b = true then 1 else 0))
  | .int i => some (.num i)
  | .str x => some (.text x)
  | .tuple ds => (nkeys ds).map .tup
  | .list _ => none
  | .dict _ => none
def nkeys : List PyData → Option (List NestedKey)
  | [] => some []
  | d :: ds => (nkey d).bind fun k => (nkeys ds).map fun ks => k :: ks
end
/-- at a stands an exact dict of the entries xs: key, the key's address, value -/
def XOk (w : World) (a : Addr) (xs : List (NestedKey × Addr × L2.V)) (ep : Nat) (h : Heap) : Prop := xs.length ≤ sizeLine ∧ (a == sysModules) = false ∧ (xs.map (·.1)).Nodup ∧ ∃ (us : List (NestedKey × Addr × Value)) (o : Obj) (es : Array DictEntry),
  Paired (fun (x : NestedKey × Addr × L2.V) (u : NestedKey × Addr × Value) => x.1 = u.1 ∧ x.2.1 = u.2.1 ∧ RelV x.2.2 u.2.2) xs us ∧ h.get? a = some o ∧ o.ExactDict ∧ o.data = .dict es ep ∧ es.toList = us.map fun u => ⟨u.1.hash w, .ref u.2.1, u.2.2⟩
def dX (w : World) (a : Addr) (xs : List (NestedKey × Addr × L2.V)) (ep : Nat) : HO := .ext (XOk w a xs ep)
theorem rd_same {H H' : Hp} (e : Same H H') {a : Addr} {u : HO} (h : L2.Rd H a u) : L2.Rd H' a u := h.elim (fun h => .inl (e _ _ h)) fun ⟨o, h⟩ => .inr ⟨o, e _ _ h⟩
def keyD : Key → PyData
  | .inl i => .int i
  | .inr x => .str x
mutual
inductive Rep (K : KW) (H : Hp) : V → PyData → Prop
  | non : Rep K H .non .none
  | bl (b : Bool) : Rep K H (.bl b) (.bool b)
  | int (i : Int) : Rep K H (.int i) (.int i)
  | str (x : Str) : Rep K H (.str x) (.str x)
  | lst {a : Addr} {xs : List V} {ds : List PyData} : H a = some (.lst xs) → RepL K H xs ds → Rep K H (.ref a) (.list ds)
  | tup {a : Addr} {xs : List V} {ds : List PyData} : H a = some (.tup xs) → RepL K H xs ds → Rep K H (.ref a) (.tuple ds)
  | dk {a : Addr} {kvs : List (Key × V)} {ps : List (PyData × PyData)} : L2.Rd H a (.dK kvs) → RepK K H kvs ps → ps ≠ [] → Rep K H (.ref a) (.dict ps)
  | dt {a : Addr} {xs : List (NestedKey × Addr × V)} {ep : Nat} {ps : List (PyData × PyData)} : H a = some (dX K.w a xs ep) → RepT K H xs ps → Rep K H (.ref a) (.dict ps)
inductive RepL (K : KW) (H : Hp) : List V → List PyData → Prop
  | nil : RepL K H [] []
  | cons {v : V} {vs : List V} {d : PyData} {ds : List PyData} : Rep K H v d → RepL K H vs ds → RepL K H (v :: vs) (d :: ds)
inductive RepK (K : KW) (H : Hp) : List (Key × V) → List (PyData × PyData) → Prop
  | nil : RepK K H [] []
  | cons {k : Key} {v : V} {kvs : List (Key × V)} {d : PyData} {ps : List (PyData × PyData)} : Rep K H v d → RepK K H kvs ps → RepK K H ((k, v) :: kvs) ((keyD k, d) :: ps)
inductive RepT (K : KW) (H : Hp) : List (NestedKey × Addr × V) → List (PyData × PyData) → Prop
  | nil : RepT K H [] []
  | cons {k : NestedKey} {b : Addr} {v : V} {xs : List (NestedKey × Addr × V)} {dk d : PyData} {ps : List (PyData × PyData)} : Rep K H (.ref b) dk → nkey dk = some k → k.depth ≤ 8 → Rep K H v d → RepT K H xs ps → RepT K H ((k, b, v) :: xs) ((dk, d) :: ps)
end
theorem sqt {K : PySem.W.Frag} {V H : Hp} {a : Addr} {xs : List L2.V} (e : Same V H) (h : V a = some (.tup xs)) : SqT K H a xs := .inl (.inl (e _ _ h))
mutual
theorem Rep.mono {K : KW} {H H' : Hp} (e : Same H H') : ∀ {v : V} {d : PyData}, Rep K H v d → Rep K H' v d
  | _, _, .non => .non
  | _, _, .bl b => .bl b
  | _, _, .int i => .int i
  | _, _, .str x => .str x
  | _, _, .lst h r => .lst (e _ _ h) (RepL.mono e r)
  | _, _, .tup h r => .tup (e _ _ h) (RepL.mono e r)
  | _, _, .dk h r n => .dk (rd_same e h) (RepK.mono e r) n
  | _, _, .dt h r => .dt (e _ _ h) (RepT.mono e r)
theorem RepL.mono {K : KW} {H H' : Hp} (e : Same H H') : ∀ {vs : List V} {ds : List PyData}, RepL K H vs ds → RepL K H' vs ds
  | _, _, .nil => .nil
  | _, _, .cons r t => .cons (Rep.mono e r) (RepL.mono e t)
theorem RepK.mono {K : KW} {H H' : Hp} (e : Same H H') : ∀ {vs : List (Key × V)} {ds : List (PyData × PyData)}, RepK K H vs ds → RepK K H' vs ds
  | _, _, .nil => .nil
  | _, _, .cons r t => .cons (Rep.mono e r) (RepK.mono e t)
theorem RepT.mono {K : KW} {H H' : Hp} (e : Same H H') : ∀ {vs : List (NestedKey × Addr × V)} {ds : List (PyData × PyData)}, RepT K H vs ds → RepT K H' vs ds
  | _, _, .nil => .nil
  | _, _, .cons q n z r t => .cons (Rep.mono e q) n z (Rep.mono e r) (RepT.mono e t)
end
theorem RepL.length {K : KW} {H : Hp} : ∀ {vs : List V} {ds : List PyData}, RepL K H vs ds → vs.length = ds.length
  | _, _, .nil => rfl
  | _, _, .cons _ t => by simp [RepL.length t]
theorem RepL.get {K : KW} {H : Hp} : ∀ {vs : List V} {ds : List PyData} (i : Nat) {d : PyData}, RepL K H vs ds → ds[i]? = some d → ∃ v, vs[i]? = some v ∧ Rep K H v d
  | _, _, _, _, .nil, h => by simp at h
  | _, _, 0, _, .cons r t, h => by simp at h; subst h; exact ⟨_, rfl, r⟩
  | _, _, i + 1, _, .cons r t, h => by
    obtain ⟨v, h1, h2⟩ := RepL.get i t (by simpa using h)
    exact ⟨v, by simpa using h1, h2⟩
theorem RepL.append {K : KW} {H : Hp} : ∀ {vs us : List V} {ds es : List PyData}, RepL K H vs ds → RepL K H us es → RepL K H (vs ++ us) (ds ++ es)
  | _, _, _, _, .nil, h => h
  | _, _, _, _, .cons r t, h => .cons r (RepL.append t h)
theorem RepL.drop {K : KW} {H : Hp} : ∀ (n : Nat) {vs : List V} {ds : List PyData}, RepL K H vs ds → RepL K H (vs.drop n) (ds.drop n)
  | 0, _, _, h => h
  | _ + 1, _, _, .nil => .nil
  | n + 1, _, _, .cons _ t => RepL.drop n t
theorem RepL.take {K : KW} {H : Hp} : ∀ (n : Nat) {vs : List V} {ds : List PyData}, RepL K H vs ds → RepL K H (vs.take n) (ds.take n)
  | 0, _, _, _ => .nil
  | _ + 1, _, _, .nil => .nil
  | n + 1, _, _, .cons r t => .cons r (RepL.take n t)
theorem RepL.set {K : KW} {H : Hp} {v : V} {d : PyData} (r : Rep K H v d) : ∀ (i : Nat) {vs : List V} {ds : List PyData}, RepL K H vs ds → RepL K H (vs.set i v) (ds.set i d)
  | _, _, _, .nil => .nil
  | 0, _, _, .cons _ t => .cons r t
  | i + 1, _, _, .cons q t => .cons q (RepL.set r i t)
theorem RepL.rep {K : KW} {H : Hp} {vs : List V} {ds : List PyData} (h : RepL K H vs ds) : ∀ n : Nat, RepL K H (List.replicate n vs).flatten (List.replicate n ds).flatten
  | 0 => .nil
  | n + 1 => by
    rw [List.replicate_succ, List.replicate_succ]
    exact h.append (h.rep n)
mutual
def imm : PyData → Bool
  | .none => true
  | .bool _ => true
  | .int _ => true
  | .str _ => true
  | .tuple ds => immL ds
  | .list _ => false
  | .dict _ => false
def immL : List PyData → Bool
  | [] => true
  | d :: ds => imm d && immL ds
end
/-- every tuple of H stands in H' -/
def SameT (H H' : Hp) : Prop := (∀ b xs, H b = some (.tup xs) → H' b = some (.tup xs)) ∧ ∀ b o xs, H b = some (.frz o (.tup xs)) → H' b = some (.frz o (.tup xs))
mutual
theorem Rep.imm {K : KW} {H H' : Hp} (e : SameT H H') : ∀ {v : V} {d : PyData}, Rep K H v d → imm d = true → Rep K H' v d
  | _, _, .non, _ => .non
  | _, _, .bl b, _ => .bl b
  | _, _, .int i, _ => .int i
  | _, _, .str x, _ => .str x
  | _, _, .lst h r, q => by simp [DL.imm] at q
  | _, _, .tup h r, q => .tup (e.1 _ _ h) (RepL.imm e r (by simpa [DL.imm] using q))
  | _, _, .dk h r _, q => by simp [DL.imm] at q
  | _, _, .dt h r, q => by simp [DL.imm] at q
theorem RepL.imm {K : KW} {H H' : Hp} (e : SameT H H') : ∀ {vs : List V} {ds : List PyData}, RepL K H vs ds → immL ds = true → RepL K H' vs ds
  | _, _, .nil, _ => .nil
  | _, _, .cons r t, q => by
    have q' := Bool.and_eq_true_iff.mp q
    exact .cons (Rep.imm e r q'.1) (RepL.imm e t q'.2)
end
mutual
theorem Rep.dp {K : KW} {H : Hp} : ∀ {v : V} {d : PyData}, Rep K H v d → d.canLay0 = true → Dp K H v d
  | _, _, .non, _ => .non
  | _, _, .bl b, _ => .bl b
  | _, _, .int i, _ => .int i
  | _, _, .str x, _ => .str x
  | _, _, .lst h r, q => .lst (.inl (.inl h)) (RepL.dp r (by simpa [PyData.canLay0] using q))
  | _, _, .tup h r, q => .tup (.inl (.inl h)) (RepL.dp r (by simpa [PyData.canLay0] using q))
  | _, _, .dk h r _, q => by simp [PyData.canLay0] at q
  | _, _, .dt h r, q => by simp [PyData.canLay0] at q
theorem RepL.dp {K : KW} {H : Hp} : ∀ {vs : List V} {ds : List PyData}, RepL K H vs ds → PyData.canLayAll0 ds = true → DpAll K H vs ds
  | _, _, .nil, _ => .nil
  | _, _, .cons r t, q => by
    have q' := Bool.and_eq_true_iff.mp q
    exact .cons (Rep.dp r q'.1) (RepL.dp t q'.2)
end
/-- defs that make lambdas -/
def lamNames : List Str := ["law", "_law_names_refused", "_law_rows_refused", "silent_from", "all_soonest", "found_leading", "parting"]
/-- a def's code object and its table -/
def tabOf (K : PySem.W.Frag) (x : Str) : Option (Addr × Addr) := match K.lookup (He.ga K x) with
  | some ⟨_, _, .func fd, _⟩ => (match fd.code with
    | .ref c => (match K.lookup c with
      | some ⟨_, _, .fields vs, _⟩ => (match (vs[11]? : Option Value) with
        | some (Value.ref p) => some (c, p)
        | _ => none)
      | _ => none)
    | _ => none)
  | _ => none
def tabs (K : PySem.W.Frag) : List (Addr × Str) := lamNames.filterMap fun x => (tabOf K x).map fun q => (q.2, x ++ ".<locals>.<lambda>")
abbrev nT (o : HO) : Prop := ∀ ps, o ≠ .tbl ps
/-- no table, no code object -/
structure Plain (o : HO) : Prop where
  t : nT o
  c : ∀ c q, o ≠ LamX.CodeO c q
theorem plain_lst {xs : List V} : Plain (.lst xs) := ⟨fun _ z => (by cases z), fun _ _ z => (by unfold LamX.CodeO at z; cases z)⟩
theorem plain_dK {xs : List (Key × V)} : Plain (.dK xs) := ⟨fun _ z => (by cases z), fun _ _ z => (by unfold LamX.CodeO at z; cases z)⟩
theorem plain_dX {w : World} {a : Addr} {xs : List (NestedKey × Addr × V)} {ep : Nat} : Plain (dX w a xs ep) := by
  refine ⟨fun _ z => (by unfold dX at z; cases z), fun c q z => ?_⟩
  unfold LamX.CodeO dX at z
  have e := HO.ext.inj z
  have e2 := congrFun e { objs := Array.replicate (c + 1) { cls := .none, data := .fields #[.none, .str q 0] } }
  have k : XOk w a xs ep { objs := Array.replicate (c + 1) { cls := .none, data := .fields #[.none, .str q 0] } } := by
    rw [e2]
    refine ⟨{ cls := .none, data := .fields #[.none, .str q 0] }, #[.none, .str q 0], 0, ?_, rfl, rfl⟩
    simp [Heap.get?]
  obtain ⟨_, _, _, us, o, es, _, ho, _, hd, _⟩ := k
  unfold Heap.get? at ho
  simp only [Array.getElem?_replicate] at ho
  split at ho
  · cases ho
  · split at ho
    · cases ho; cases hd
    · cases ho
theorem tabs_upd {T : List (Addr × Str)} {H : Hp} {p : Addr} {o : HO} (h : ∀ x, H p = some x → Plain x) (t : LamX.Tabs T H) : LamX.Tabs T (upd H p o) := fun q hq => by
  obtain ⟨ps, h1, h2, h3⟩ := t q hq
  refine ⟨ps, ?_, h2, fun pos cv hc => ?_⟩
  · rw [upd_ne (fun z => (h _ (by rw [← z]; exact h1)).t _ rfl)]; exact h1
  · obtain ⟨c, e1, e2⟩ := h3 pos cv hc
    refine ⟨c, e1, ?_⟩
    rw [upd_ne (fun z => (h _ (by rw [← z]; exact e2)).c _ _ rfl)]; exact e2
/-- the tables, each with the name of its code objects -/
class TabCtx where
  T : List (Addr × Str)
variable [TabCtx]
abbrev TBS : List (Addr × Str) := TabCtx.T
def TabV (H V : Hp) : Prop := LamX.Tabs TBS H ∧ ∀ p ∈ TBS, V p.1 = none
structure Ext (H V H' V' : Hp) : Prop where
  h : LamX.ExtN H H'
  v : Same V V'
  s : Same V' H'
  f : ∀ b, V b = none → H b ≠ none → V' b = none
  th : ∀ b, H b ≠ none → H' b ≠ none
  t : LamX.Tabs TBS H → LamX.Tabs TBS H'
theorem Same.th {H H' : Hp} (e : Same H H') (b : Addr) (h : H b ≠ none) : H' b ≠ none := by
  cases q : H b with
  | none => exact absurd q h
  | some o => rw [e b o q]; exact fun z => nomatch z
theorem Ext.of {H V H' V' : Hp} (h : Same H H') (v : Same V V') (s : Same V' H') (f : ∀ b, V b = none → H b ≠ none → V' b = none) : Ext H V H' V' :=
  ⟨LamX.ExtN.of h, v, s, f, Same.th h, fun t => t.ext h⟩
theorem Ext.refl {H V : Hp} (s : Same V H) : Ext H V H V := .of (Same.refl _) (Same.refl _) s fun _ h _ => h
theorem Ext.trans {H V H1 V1 H2 V2 : Hp} (a : Ext H V H1 V1) (b : Ext H1 V1 H2 V2) : Ext H V H2 V2 :=
  ⟨a.h.trans b.h, a.v.trans b.v, b.s, (fun c h1 h2 => b.f c (a.f c h1 h2) (a.th c h2)), (fun c h => b.th c (a.th c h)), fun t => b.t (a.t t)⟩
theorem Ext.free {H V H' V' : Hp} (x : Ext H V H' V') {b : Addr} (h : H' b = none) : H b = none := by
  cases e : H b with
  | none => rfl
  | some o => exact absurd h (x.th b (by rw [e]; exact fun z => nomatch z))
theorem same_new {H : Hp} {p : Addr} {o : HO} (h : H p = none) : Same H (upd H p o) := fun b x e => by
  rw [upd_ne (ne_of_none e h)]
  exact e
theorem Ext.new {H V : Hp} {p : Addr} {o : HO} (s : Same V H) (h : H p = none) : Ext H V (upd H p o) (upd V p o) := by
  have hv : V p = none := s.free h
  refine .of (same_new h) (same_new hv) (fun b x e => ?_) (fun b h1 h2 => ?_)
  · by_cases q : b = p
    · subst q; rw [upd_same] at e ⊢; exact e
    · rw [upd_ne q] at e ⊢; exact s b x e
  · rw [upd_ne (fun q => h2 (by rw [q]; exact h))]; exact h1
/-- a new cell that is not seen -/
theorem Ext.hid {H V : Hp} {p : Addr} {o : HO} (s : Same V H) (h : H p = none) : Ext H V (upd H p o) V :=
  .of (same_new h) (Same.refl _) (s.trans (same_new h)) fun _ h1 _ => h1
inductive R (α : Type) where
  | ok (a : α)
  | exc (c : Str)
  | bad
def R.bind {α β : Type} (r : R α) (k : α → R β) : R β := match r with
  | .ok a => k a
  | .exc c => .exc c
  | .bad => .bad
instance : Monad R where
  pure := R.ok
  bind := R.bind
/-- a running song: what it was made of, choir and standing now, what was sung, its deeds, what undo needs -/
structure Ob where
  first : PyData
  crew : PyData
  stand : PyData
  sung : List PyData
  deeds : List PyData
  past : List PyData
/-- a slot: nothing, data that may be shared, a list or a dict that this slot alone knows, a running song -/
inductive Sl where
  | no
  | sh (d : PyData)
  | ow (d : PyData)
  | ob (o : Ob)
abbrev Rho := List Sl
def M (α : Type) : Type := Rho → R (α × Rho)
def M.pure {α : Type} (a : α) : M α := fun ρ => .ok (a, ρ)
def M.bind {α β : Type} (f : M α) (k : α → M β) : M β := fun ρ => match f ρ with
  | .ok (a, ρ') => k a ρ'
  | .exc c => .exc c
  | .bad => .bad
instance : Monad M where
  pure := M.pure
  bind := M.bind
/-- an answer, the slots as they are -/
def M.lift {α : Type} (r : R α) : M α := fun ρ => match r with
  | .ok a => .ok (a, ρ)
  | .exc c => .exc c
  | .bad => .bad
def M.opt {α : Type} (r : Option α) : M α := fun ρ => match r with
  | some a => .ok (a, ρ)
  | none => .bad
/-- what is wanted of exceptions; the frame's entry: all of the heap, what is seen; the slot 0's own address, where it is lent -/
structure Fr where
  H0 : Hp
  V0 : Hp
  lent : Option Addr
  W : Value → St → Hp → Prop
  /-- the slot that is lent -/
  ls : Nat
  /-- the running songs that slots may hold -/
  obs : Addr → Prop
theorem ne_ls {i l : Nat} (h : Nat.beq i l = false) : i ≠ l := fun z => by subst z; rw [Nat.beq_refl] at h; cases h
theorem nm_ls {l : Nat} {vs : List Nat} (h : vs.contains l = false) : l ∉ vs := fun z => by
  have := List.contains_iff_mem.mpr z
  rw [h] at this; cases this
def OwnAt (K : KW) (V H : Hp) (a : Addr) : PyData → Prop
  | .list ds => ∃ vs, H a = some (.lst vs) ∧ RepL K V vs ds
  | .dict ps => (∃ kvs, H a = some (.dK kvs) ∧ RepK K V kvs ps ∧ ps ≠ []) ∨ ∃ xs ep, H a = some (dX K.w a xs ep) ∧ RepT K V xs ps
  | _ => False
theorem OwnAt.there {K : KW} {V H : Hp} {a : Addr} {d : PyData} (h : OwnAt K V H a d) : ∃ o, H a = some o ∧ (∀ xs, o ≠ .tup xs) ∧ (∀ u xs, o ≠ .frz u (.tup xs)) ∧ Plain o := by
  cases d with
  | list ds => obtain ⟨vs, e, _⟩ := h; exact ⟨_, e, (fun _ z => nomatch z), (fun _ _ z => nomatch z), plain_lst⟩
  | dict ps =>
    rcases h with ⟨kvs, e, _⟩ | ⟨kvs, ep, e, _⟩
    · exact ⟨_, e, (fun _ z => nomatch z), (fun _ _ z => nomatch z), plain_dK⟩
    · exact ⟨_, e, (fun _ z => nomatch z), (fun _ _ z => nomatch z), plain_dX⟩
  | _ => exact h.elim
theorem OwnAt.plain {K : KW} {V H : Hp} {a : Addr} {d : PyData} (h : OwnAt K V H a d) : ∀ x, H a = some x → Plain x := fun x e => by
  obtain ⟨o, ho, _, _, p⟩ := h.there
  rw [e] at ho; cases ho; exact p
theorem OwnAt.mono {K : KW} {V H V' H' : Hp} {a : Addr} {d : PyData} (h : OwnAt K V H a d) (v : Same V V') (k : ∀ o, H a = some o → nT o → H' a = some o) : OwnAt K V' H' a d := by
  cases d with
  | list ds => obtain ⟨vs, e, r⟩ := h; exact ⟨vs, k _ e plain_lst.t, r.mono v⟩
  | dict ps =>
    rcases h with ⟨kvs, e, r, n⟩ | ⟨kvs, ep, e, r⟩
    · exact .inl ⟨kvs, k _ e plain_dK.t, r.mono v, n⟩
    · exact .inr ⟨kvs, ep, k _ e plain_dX.t, r.mono v⟩
  | _ => exact h.elim
/-- an own thing that is let go of is data like others -/
theorem OwnAt.rep {K : KW} {V H : Hp} {a : Addr} {d : PyData} (h : OwnAt K V H a d) (v : Same V H) : Rep K H (.ref a) d := by
  cases d with
  | list ds => obtain ⟨vs, e, r⟩ := h; exact .lst e (r.mono v)
  | dict ps =>
    rcases h with ⟨kvs, e, r, n⟩ | ⟨kvs, ep, e, r⟩
    · exact .dk (.inl e) (r.mono v) n
    · exact .dt e (r.mono v)
  | _ => exact h.elim
/-- the lists of a running song are its own -/
def obF : List Str := ["sung", "deeds", "past"]
/-- an object's own cells -/
def Foot (H : Hp) (a b : Addr) : Prop := b = a ∨ ∃ C dx fs, H a = some (.ins C dx fs) ∧ (b = dx ∨ ∃ f ∈ obF, fs.lookup f = some (.ref b))
/-- a running song at a: its cells are not seen -/
structure ObAt (K : KW) (V H : Hp) (a : Addr) (o : Ob) : Prop where
  ins : ∃ dx ls ld lp v1 v2 v3 xs ys zs fs, H a = some (.ins (He.ga K.k "Running") dx fs) ∧ H dx = some (.own a) ∧ (fs.lookup ("first" : Str) = some v1 ∧ fs.lookup ("crew" : Str) = some v2 ∧ fs.lookup ("stand" : Str) = some v3 ∧ fs.lookup ("sung" : Str) = some (.ref ls) ∧ fs.lookup ("deeds" : Str) = some (.ref ld) ∧ fs.lookup ("past" : Str) = some (.ref lp)) ∧
    (∀ f, f ∉ (["first", "crew", "stand", "sung", "deeds", "past"] : List Str) → fs.lookup f = none) ∧ fs.length ≤ 20 ∧ (H ls = some (.lst xs) ∧ H ld = some (.lst ys) ∧ H lp = some (.lst zs)) ∧ (ls ≠ ld ∧ ls ≠ lp ∧ ld ≠ lp) ∧
    (Rep K V v1 o.first ∧ Rep K V v2 o.crew ∧ Rep K V v3 o.stand) ∧ RepL K V xs o.sung ∧ RepL K V ys o.deeds ∧ RepL K V zs o.past
  hid : ∀ b, Foot H a b → V b = none
/-- what slots hold of running songs -/
structure ObE (K : KW) (F : Fr) (σ : St) (ρ : Rho) : Prop where
  at_ : ∀ (i : Nat) (o : Ob), ρ[i]? = some (.ob o) → ∃ a, σ[i]? = some (some (.ref a)) ∧ F.obs a ∧ ObAt K F.V0 F.H0 a o
  dis : ∀ (i j : Nat) (a : Addr) (o p : Ob), ρ[i]? = some (.ob o) → ρ[j]? = some (.ob p) → σ[i]? = some (some (.ref a)) → σ[j]? = some (some (.ref a)) → i = j
theorem ObE.sub {K : KW} {F : Fr} {σ σ' : St} {ρ ρ' : Rho} (E : ObE K F σ ρ) (h : ∀ (i : Nat) (o : Ob), ρ'[i]? = some (.ob o) → ρ[i]? = some (.ob o) ∧ σ'[i]? = σ[i]?) : ObE K F σ' ρ' := by
  refine ⟨fun i o e => ?_, fun i j a o p e1 e2 e3 e4 => ?_⟩
  · obtain ⟨h1, h2⟩ := h i o e
    rw [h2]; exact E.at_ i o h1
  · obtain ⟨h1, h2⟩ := h i o e1
    obtain ⟨h3, h4⟩ := h j p e2
    rw [h2] at e3
    rw [h4] at e4
    exact E.dis i j a o p h1 h3 e3 e4
theorem ObE.non {K : KW} {F : Fr} {σ : St} {ρ : Rho} (h : ∀ (i : Nat) (o : Ob), ρ[i]? ≠ some (.ob o)) : ObE K F σ ρ := ⟨fun i o e => absurd e (h i o), fun i _ _ o _ e => absurd e (h i o)⟩
/-- a slot is given what is no running song -/
theorem ObE.set {K : KW} {F : Fr} {σ : St} {ρ : Rho} (E : ObE K F σ ρ) {i : Nat} {x : Option L2.V} {s : Sl} (hs : ∀ o, s ≠ .ob o) : ObE K F (σ.set i x) (ρ.set i s) := E.sub fun j o e => by
  by_cases h : i = j
  · subst h
    by_cases hi : i < ρ.length
    · rw [List.getElem?_set_self hi] at e
      exact absurd (Option.some.inj e) (hs o)
    · rw [List.getElem?_eq_none (by simpa using hi)] at e; cases e
  · rw [List.getElem?_set_ne h] at e ⊢
    exact ⟨e, rfl⟩
theorem ObE.setR {K : KW} {F : Fr} {σ : St} {ρ : Rho} (E : ObE K F σ ρ) {i : Nat} {s : Sl} (hs : ∀ o, s ≠ .ob o) : ObE K F σ (ρ.set i s) := E.sub fun j o e => by
  by_cases h : i = j
  · subst h
    by_cases hi : i < ρ.length
    · rw [List.getElem?_set_self hi] at e
      exact absurd (Option.some.inj e) (hs o)
    · rw [List.getElem?_eq_none (by simpa using hi)] at e; cases e
  · rw [List.getElem?_set_ne h] at e
    exact ⟨e, rfl⟩
structure EnvR (K : KW) (F : Fr) (H V : Hp) (σ : St) (ρ : Rho) : Prop where
  len : σ.length = ρ.length
  ext : Ext F.H0 F.V0 H V
  sh : ∀ (i : Nat) (d : PyData), ρ[i]? = some (.sh d) → ∃ v, σ[i]? = some (some v) ∧ Rep K V v d
  ow : ∀ (i : Nat) (d : PyData), ρ[i]? = some (.ow d) → ∃ a, σ[i]? = some (some (.ref a)) ∧ V a = none ∧ F.H0 a = none ∧ OwnAt K V H a d
  dis : ∀ (i j : Nat) (a : Addr) (d e : PyData), ρ[i]? = some (.ow d) → ρ[j]? = some (.ow e) → σ[i]? = some (some (.ref a)) → σ[j]? = some (some (.ref a)) → i = j
  lent : ∀ a, F.lent = some a → σ[F.ls]? = some (some (.ref a))
  tab : TabV F.H0 F.V0
  ob : ObE K F σ ρ
theorem EnvR.tabs {K : KW} {F : Fr} {H V : Hp} {σ : St} {ρ : Rho} (E : EnvR K F H V σ ρ) : TabV H V := ⟨E.ext.t E.tab.1, fun p hp => E.ext.f p.1 (E.tab.2 p hp) (by
  obtain ⟨ps, h, _⟩ := E.tab.1 p hp
  rw [h]; exact fun z => nomatch z)⟩
def IsOwn (σ : St) (ρ : Rho) (b : Addr) : Prop := ∃ (i : Nat) (d : PyData), ρ[i]? = some (.ow d) ∧ σ[i]? = some (some (.ref b))
/-- what an expression does -/
structure Stp (K : KW) (F : Fr) (σ : St) (ρ ρ' : Rho) (H V H' V' : Hp) : Prop where
  env : EnvR K F H' V' σ ρ'
  v : Same V V'
  keep : ∀ b o, H b = some o → nT o → ¬ IsOwn σ ρ b → H' b = some o
  own : ∀ b, IsOwn σ ρ' b → IsOwn σ ρ b
  shs : ∀ (i : Nat) (d : PyData), ρ'[i]? = some (.sh d) → ρ[i]? = some (.sh d)
  f : ∀ b, V b = none → H b ≠ none → V' b = none
  th : ∀ b, H b ≠ none → H' b ≠ none
section
variable {K : KW} {F : Fr} {σ : St} {ρ ρ1 ρ2 : Rho} {H V H1 V1 H2 V2 : Hp}
theorem Stp.trans (a : Stp K F σ ρ ρ1 H V H1 V1) (b : Stp K F σ ρ1 ρ2 H1 V1 H2 V2) : Stp K F σ ρ ρ2 H V H2 V2 :=
  ⟨b.env, a.v.trans b.v, fun c o e nt n => b.keep c o (a.keep c o e nt n) nt fun q => n (a.own c q), (fun c q => a.own c (b.own c q)), (fun i d q => a.shs i d (b.shs i d q)), (fun c h1 h2 => b.f c (a.f c h1 h2) (a.th c h2)), fun c h => b.th c (a.th c h)⟩
theorem EnvR.grow (E : EnvR K F H V σ ρ) (e : Ext H V H1 V1) : EnvR K F H1 V1 σ ρ := by
  refine ⟨E.len, E.ext.trans e, fun i d h => ?_, fun i d h => ?_, E.dis, E.lent, E.tab, E.ob⟩
  · obtain ⟨v, h1, h2⟩ := E.sh i d h
    exact ⟨v, h1, h2.mono e.v⟩
  · obtain ⟨a, h1, h2, h3, h4⟩ := E.ow i d h
    obtain ⟨o, ho, _⟩ := h4.there
    exact ⟨a, h1, e.f a h2 (by rw [ho]; exact fun q => nomatch q), h3, h4.mono e.v fun o q n => e.h _ _ q n⟩
theorem EnvR.step (E : EnvR K F H V σ ρ) (e : Ext H V H1 V1) : Stp K F σ ρ ρ H V H1 V1 := ⟨E.grow e, e.v, (fun b o q n _ => e.h b o q n), (fun _ q => q), (fun _ _ q => q), e.f, e.th⟩
theorem EnvR.refl (E : EnvR K F H V σ ρ) : Stp K F σ ρ ρ H V H V := ⟨E, Same.refl _, (fun _ _ q _ _ => q), (fun _ q => q), (fun _ _ q => q), (fun _ h _ => h), fun _ h => h⟩
theorem EnvR.sub (E : EnvR K F H V σ ρ) : Same V H := E.ext.s
/-- what is wanted behind an expression -/
def Goal {α β : Type} (K : KW) (F : Fr) (σ : St) (ρ : Rho) (H V : Hp) (rep : Hp → β → α → Prop) (r : R (α × Rho)) (Q : β → Hp → Prop) : Prop := match r with
  | .ok (a, ρ') => ∀ b H' V', Stp K F σ ρ ρ' H V H' V' → rep V' b a → Q b H'
  | .exc c => ∀ H' V', Ext F.H0 F.V0 H' V' → F.W (.ref (He.ga K c)) σ H'
  | .bad => False
theorem Goal.after {α β : Type} {rep : Hp → β → α → Prop} {r : R (α × Rho)} {Q : β → Hp → Prop} (st : Stp K F σ ρ ρ1 H V H1 V1) (g : Goal K F σ ρ H V rep r Q) : Goal K F σ ρ1 H1 V1 rep r Q := by
  cases r with
  | ok p => exact fun b H' V' s => g b H' V' (st.trans s)
  | exc c => exact g
  | bad => exact g
theorem Goal.bind {α β α' β' : Type} {rep1 : Hp → β → α → Prop} {rep2 : Hp → β' → α' → Prop} {f : M α} {k : α → M α'} {Q : β' → Hp → Prop} {Q1 : β → Hp → Prop}
    (g : Goal K F σ ρ H V rep2 (M.bind f k ρ) Q)
    (h : ∀ b a H' V' ρ', Stp K F σ ρ ρ' H V H' V' → rep1 V' b a → Goal K F σ ρ' H' V' rep2 (k a ρ') Q → Q1 b H') : Goal K F σ ρ H V rep1 (f ρ) Q1 := by
  unfold M.bind at g
  cases e : f ρ with
  | ok p =>
    obtain ⟨a, ρ'⟩ := p
    rw [e] at g
    exact fun b H' V' st r => h b a H' V' ρ' st r (Goal.after st g)
  | exc c => rw [e] at g; exact g
  | bad => rw [e] at g; exact g
end
section
variable (K : KW) (F : Fr)
def tM (f : M PyData) : TE := fun σ H Q => ∃ V ρ, EnvR K F H V σ ρ ∧ Goal K F σ ρ H V (Rep K) (f ρ) Q
def tMA (f : M (List PyData)) : TA := fun σ H Q => ∃ V ρ, EnvR K F H V σ ρ ∧ Goal K F σ ρ H V (RepL K) (f ρ) Q
def tMT (f : M Bool) : TT := fun σ H Q => ∃ V ρ, EnvR K F H V σ ρ ∧ Goal K F σ ρ H V (fun _ b a => b = a) (f ρ) Q
end
def PM (X : Cx) (F : Fr) (e : Expr) (f : M PyData) : Prop := PE X e (tM X.kw F f)
def PMA (X : Cx) (F : Fr) (es : List Expr) (f : M (List PyData)) : Prop := PA X es (tMA X.kw F f)
def PMT (X : Cx) (F : Fr) (e : Expr) (f : M Bool) : Prop := PT X e (tMT X.kw F f)
def PMW (X : Cx) (F : Fr) (e : Expr) (f : M Bool) : Prop := PW X e (tMT X.kw F f)
theorem PE.imp {X : Cx} {e : Expr} {t u : TE} (h : PE X e t) (i : ∀ σ H Q, u σ H Q → t σ H Q) : PE X e u := ⟨fun pins s σ H Q I q => h.run pins s σ H Q I (i σ H Q q)⟩
theorem PT.imp {X : Cx} {e : Expr} {t u : TT} (h : PT X e t) (i : ∀ σ H Q, u σ H Q → t σ H Q) : PT X e u := ⟨fun pins s σ H Q I q => h.run pins s σ H Q I (i σ H Q q)⟩
theorem PW.imp {X : Cx} {e : Expr} {t u : TT} (h : PW X e t) (i : ∀ σ H Q, u σ H Q → t σ H Q) : PW X e u := ⟨fun wh pins s σ H Q I q => h.run wh pins s σ H Q I (i σ H Q q)⟩
theorem PA.imp {X : Cx} {e : List Expr} {t u : TA} (h : PA X e t) (i : ∀ σ H Q, u σ H Q → t σ H Q) : PA X e u := ⟨fun pos pins s σ H Q I q => h.run pos pins s σ H Q I (i σ H Q q)⟩
theorem PS.imp {X : Cx} {e : Stmt} {t u : TS} (h : PS X e t) (i : ∀ D σ H, u D σ H → t D σ H) : PS X e u := ⟨fun pins s σ H D I q => h.run pins s σ H D I (i D σ H q)⟩
theorem PSs.imp {X : Cx} {e : List Stmt} {t u : TS} (h : PSs X e t) (i : ∀ D σ H, u D σ H → t D σ H) : PSs X e u := ⟨fun pins s σ H D I q => h.run pins s σ H D I (i D σ H q)⟩
end DL
set_option Elab.async false
set_option linter.all false
set_option maxRecDepth 100000
set_option maxHeartbeats 1000000
namespace DL
open PySem PySem.Spec PyProof.Rows L2
variable [TabCtx]
def LIM : Nat := 1000000
theorem lim_le : LIM ≤ sizeLine := by rw [sizeLine_eq]; decide
theorem lim_lt : LIM < sizeLine := by rw [sizeLine_eq]; decide
def vN (i : Nat) : M PyData := fun ρ => match ρ[i]? with
  | some (.sh d) => .ok (d, ρ)
  | _ => .bad
def cD (d : PyData) : M PyData := M.pure d
def op1 (g : PyData → Option PyData) (a : M PyData) : M PyData := M.bind a fun x => M.opt (g x)
def op2 (g : PyData → PyData → Option PyData) (a b : M PyData) : M PyData := M.bind a fun x => M.bind b fun y => M.opt (g x y)
def aN : M (List PyData) := M.pure []
def aC (a : M PyData) (r : M (List PyData)) : M (List PyData) := M.bind a fun x => M.bind r fun xs => M.pure (x :: xs)
def opA (g : List PyData → Option PyData) (a : M (List PyData)) : M PyData := M.bind a fun ds => M.opt (g ds)
def callM (m : List PyData → R PyData) (a : M (List PyData)) : M PyData := M.bind a fun ds => M.lift (m ds)
def gTupD (ds : List PyData) : Option PyData := if ds.length ≤ LIM then some (.tuple ds) else none
def gLstD (ds : List PyData) : Option PyData := if ds.length ≤ LIM then some (.list ds) else none
def asB : PyData → Option Bool
  | .bool b => some b
  | _ => none
def tst (a : M PyData) : M Bool := M.bind a fun x => M.opt (asB x)
def andT (a b : M Bool) : M Bool := M.bind a fun x => if x = true then b else M.pure false
def orT (a b : M Bool) : M Bool := M.bind a fun x => if x = true then M.pure true else b
def notT (a : M Bool) : M Bool := M.bind a fun x => M.pure (!x)
def andV (a b : M PyData) : M PyData := M.bind a fun x => M.bind (M.opt (asB x)) fun c => if c = true then b else M.pure (.bool false)
def orV (a b : M PyData) : M PyData := M.bind a fun x => M.bind (M.opt (asB x)) fun c => if c = true then M.pure (.bool true) else b
def notV (a : M PyData) : M PyData := op1 (fun x => (asB x).map fun b => .bool (!b)) a
def ifV (t : M Bool) (a b : M PyData) : M PyData := M.bind t fun c => if c = true then a else b
def chain (g g' : PyData → PyData → Option PyData) (a b c : M PyData) : M PyData := M.bind a fun x => M.bind b fun y => M.bind (M.opt ((g x y).bind asB)) fun k => if k = true then M.bind c fun z => M.opt (g' y z) else M.pure (.bool false)
def OpD (K : KW) (r : R2) (g : PyData → PyData → Option PyData) : Prop := ∀ (x y : V) (dx dy z : PyData) (H V : Hp) (Q : VK), Same V H → Rep K V x dx → Rep K V y dy → g dx dy = some z →
  (∀ v H' V', Ext H V H' V' → Rep K V' v z → Q v H') → r x y H Q
def CallD (K : KW) (r : List V → Hp → VK → Prop) (g : List PyData → Option PyData) : Prop := ∀ (xs : List V) (ds : List PyData) (z : PyData) (H V : Hp) (Q : VK), Same V H → RepL K V xs ds → g ds = some z →
  (∀ v H' V', Ext H V H' V' → Rep K V' v z → Q v H') → r xs H Q
section
variable {K : KW} {F : Fr} {σ : St} {ρ : Rho} {H V : Hp} {Q : VK}
theorem Goal.opt {α β : Type} {rep : Hp → β → α → Prop} {Q : β → Hp → Prop} {o : Option α} (E : EnvR K F H V σ ρ) (g : Goal K F σ ρ H V rep (M.opt o ρ) Q) : ∃ z, o = some z ∧ ∀ v H' V', Ext H V H' V' → rep V' v z → Q v H' := by
  cases o with
  | none => exact False.elim g
  | some z => exact ⟨z, rfl, fun v H' V' e r => g v H' V' (E.step e) r⟩
theorem Goal.pure {α β : Type} {rep : Hp → β → α → Prop} {Q : β → Hp → Prop} {a : α} (E : EnvR K F H V σ ρ) (g : Goal K F σ ρ H V rep (M.pure a ρ) Q) : ∀ v H' V', Ext H V H' V' → rep V' v a → Q v H' :=
  fun v H' V' e r => g v H' V' (E.step e) r
theorem Goal.pure0 {α β : Type} {rep : Hp → β → α → Prop} {Q : β → Hp → Prop} {a : α} {v : β} (E : EnvR K F H V σ ρ) (g : Goal K F σ ρ H V rep (M.pure a ρ) Q) (r : rep V v a) : Q v H :=
  Goal.pure E g v H V (Ext.refl E.sub) r
end
section
variable {X : Cx} {F : Fr} {e a b c : Expr} {es : List Expr} {pos : Pos} {fa fb fc : M PyData} {fs : M (List PyData)} {ft fu : M Bool}
theorem pm_var (i : Nat) {x : Str} (hN : X.N[i]? = some x := by rfl) (hv : Vis X.env.scope x := by first | exact Or.inl rfl | exact Or.inr (Or.inl rfl) | exact Or.inr (Or.inr rfl)) (hd : (x == ("__debug__" : Str)) = false := by decide)
    (hcd : (x == ("__classdict__" : Str)) = false := by decide) : PM X F (.Name x pos) (vN i) := by
  refine PE.imp (pe_var hN hv hd hcd) fun σ H Q ⟨V, ρ, E, g⟩ => ?_
  unfold vN at g
  cases e : ρ[i]? with
  | none => rw [e] at g; exact False.elim g
  | some s =>
    rw [e] at g
    cases s with
    | sh d =>
      obtain ⟨v, h1, h2⟩ := E.sh i d e
      exact ⟨v, h1, g v H V E.refl h2⟩
    | no => exact False.elim g
    | ob _ => exact False.elim g
    | ow d => exact False.elim g
theorem pm_const {d : PyData} {v : V} (h : PE X e (tC v)) (r : ∀ V, Rep X.kw V v d) : PM X F e (cD d) := PE.imp h fun σ H Q ⟨V, ρ, E, g⟩ => Goal.pure0 E g (r V)
theorem pm_int {i j} : PM X F (.Constant (.int i) j pos) (cD (.int i)) := pm_const pe_int fun _ => .int i
theorem pm_bl {i j} : PM X F (.Constant (.bool i) j pos) (cD (.bool i)) := pm_const pe_bl fun _ => .bl i
theorem pm_non {j} : PM X F (.Constant .none j pos) (cD .none) := pm_const pe_non fun _ => .non
theorem pm_str {i j} : PM X F (.Constant (.str i) j pos) (cD (.str i)) := pm_const pe_str fun _ => .str i
theorem pm_gint {x : Str} {i : Int} (hm : ∃ t, X.mg x = some (.int i t)) (hg : Gl X x := by rfl) (hd : (x == ("__debug__" : Str)) = false := by decide) : PM X F (.Name x pos) (cD (.int i)) := by
  obtain ⟨t, hm⟩ := hm
  exact pm_const (v := .int i) (pe_glob hg hm ⟨t, rfl⟩ hd) fun _ => .int i
theorem pm_gstr {x z : Str} (hm : ∃ t, X.mg x = some (.str z t)) (hg : Gl X x := by rfl) (hd : (x == ("__debug__" : Str)) = false := by decide) : PM X F (.Name x pos) (cD (.str z)) := by
  obtain ⟨t, hm⟩ := hm
  exact pm_const (v := .str z) (pe_glob hg hm ⟨t, rfl⟩ hd) fun _ => .str z
theorem tOp_of {K : KW} {r : R2} {g : PyData → PyData → Option PyData} (od : OpD K r g) {σ : St} {H : Hp} {Q : VK} (h : tM K F (op2 g fa fb) σ H Q) : tOp r (tM K F fa) (tM K F fb) σ H Q := by
  obtain ⟨V, ρ, E, g0⟩ := h
  refine ⟨V, ρ, E, Goal.bind g0 fun x dx H1 V1 ρ1 st1 r1 g1 => ⟨V1, ρ1, st1.env, Goal.bind g1 fun y dy H2 V2 ρ2 st2 r2 g2 => ?_⟩⟩
  obtain ⟨z, ez, q⟩ := Goal.opt st2.env g2
  exact od x y dx dy z H2 V2 Q st2.env.sub (r1.mono st2.v) r2 ez q
theorem pm_op {op : Operator} {r : R2} {g : PyData → PyData → Option PyData} (ho : OpR X (binaryOp op) r) (od : OpD X.kw r g) (ha : PM X F a fa) (hb : PM X F b fb) : PM X F (.BinOp a op b pos) (op2 g fa fb) :=
  PE.imp (pe_op ho ha hb) fun _ _ _ h => tOp_of od h
theorem pm_cmp {op : CmpOp} {r : R2} {g : PyData → PyData → Option PyData} (ho : OpR X (compareOp op) r) (od : OpD X.kw r g) (ha : PM X F a fa) (hb : PM X F b fb) (hm : behindInMarks op b = false := by first | exact nomark _ | rfl) : PM X F (.Compare a [op] [b] pos) (op2 g fa fb) :=
  PE.imp (pe_cmpR ho ha hb hm) fun _ _ _ h => tOp_of od h
theorem pm_ix {r : R2} {g : PyData → PyData → Option PyData} (hr : IxR X r) (od : OpD X.kw r g) (ha : PM X F a fa) (hb : PM X F b fb) (hs : PlainIx b := by exact fun _ _ => rfl) : PM X F (.Subscript a b pos) (op2 g fa fb) :=
  PE.imp (pe_ix hr ha hb hs) fun _ _ _ h => tOp_of od h
theorem pma_nil : PMA X F [] aN := PA.imp pa_nil fun σ H Q ⟨V, ρ, E, g⟩ => Goal.pure0 E g .nil
theorem pma_cons (ha : PM X F e fa) (hr : PMA X F es fs) (hs : starEach (e :: es) X.env = (false, eval e X.env) :: starEach es X.env := by rfl) : PMA X F (e :: es) (aC fa fs) := by
  refine PA.imp (pa_cons ha hr hs) fun σ H Q ⟨V, ρ, E, g0⟩ => ⟨V, ρ, E, Goal.bind g0 fun x dx H1 V1 ρ1 st1 r1 g1 => ⟨V1, ρ1, st1.env, Goal.bind g1 fun y dy H2 V2 ρ2 st2 r2 g2 => ?_⟩⟩
  exact Goal.pure0 st2.env g2 (.cons (r1.mono st2.v) r2)
theorem pm_tup {x1} (h : PMA X F es fs) : PM X F (.Tuple es x1 pos) (opA gTupD fs) := by
  refine PE.imp (pe_tup h) fun σ H Q ⟨V, ρ, E, g0⟩ => ⟨V, ρ, E, Goal.bind g0 fun xs ds H1 V1 ρ1 st1 r1 g1 => ?_⟩
  obtain ⟨z, ez, q⟩ := Goal.opt st1.env g1
  unfold gTupD at ez
  split at ez
  · rename_i hl
    cases ez
    exact ⟨by rw [r1.length]; exact Nat.le_trans hl lim_le, fun p hp => q _ _ _ (Ext.new st1.env.sub hp) (.tup upd_same (r1.mono (same_new (st1.env.sub.free hp))))⟩
  · cases ez
theorem pm_lst (h : PMA X F es fs) : PM X F (.List es pos) (opA gLstD fs) := by
  refine PE.imp (pe_lst h) fun σ H Q ⟨V, ρ, E, g0⟩ => ⟨V, ρ, E, Goal.bind g0 fun xs ds H1 V1 ρ1 st1 r1 g1 => ?_⟩
  obtain ⟨z, ez, q⟩ := Goal.opt st1.env g1
  unfold gLstD at ez
  split at ez
  · rename_i hl
    cases ez
    exact ⟨by rw [r1.length]; exact Nat.le_trans hl lim_le, fun p hp => q _ _ _ (Ext.new st1.env.sub hp) (.lst upd_same (r1.mono (same_new (st1.env.sub.free hp))))⟩
  · cases ez
theorem tCB_of {K : KW} {r : List V → Hp → VK → Prop} {g : List PyData → Option PyData} (od : CallD K r g) {σ : St} {H : Hp} {Q : VK} (h : tM K F (opA g fs) σ H Q) : tCB r (tMA K F fs) σ H Q := by
  obtain ⟨V, ρ, E, g0⟩ := h
  refine ⟨V, ρ, E, Goal.bind g0 fun x dx H1 V1 ρ1 st1 r1 g1 => ?_⟩
  obtain ⟨z, ez, q⟩ := Goal.opt st1.env g1
  exact od x dx z H1 V1 Q st1.env.sub r1 ez q
theorem pm_callB {id : String} {x : Str} {p : Pos} {r : List V → Hp → VK → Prop} {g : List PyData → Option PyData} (hc : CallR X (.builtin id) r) (od : CallD X.kw r g) (hm : X.mg x = none) (ha : PMA X F (e :: es) fs) (hv : bootBuiltins x = some (.builtin id) := by decide +kernel) (hg : Gl X x := by rfl)
    (hn : x ≠ "__name__" := by decide) (hdb : (x == ("__debug__" : Str)) = false := by decide)
    (he : starEach (e :: es) X.env = (false, eval e X.env) :: starEach es X.env := by rfl) (hpl : (backTo pos (starEach es X.env)).any (·.1) = false := by rfl) : PM X F (.Call (.Name x p) (e :: es) [] pos) (opA g fs) :=
  PE.imp (pe_callB hc hg hm hv ha hn hdb he hpl) fun _ _ _ h => tCB_of od h
theorem pm_callTy {T : String} {x : Str} {p : Pos} {r : List V → Hp → VK → Prop} {g : List PyData → Option PyData} (hc : CallR X (.type T) r) (od : CallD X.kw r g) (hm : X.mg x = none) (ha : PMA X F (e :: es) fs) (hv : bootBuiltins x = some (.type T) := by decide +kernel) (hg : Gl X x := by rfl)
    (hn : x ≠ "__name__" := by decide) (hdb : (x == ("__debug__" : Str)) = false := by decide)
    (he : starEach (e :: es) X.env = (false, eval e X.env) :: starEach es X.env := by rfl) (hpl : (backTo pos (starEach es X.env)).any (·.1) = false := by rfl) : PM X F (.Call (.Name x p) (e :: es) [] pos) (opA g fs) :=
  PE.imp (pe_callTy hc hg hm hv ha hn hdb he hpl) fun _ _ _ h => tCB_of od h
theorem pmt_val (h : PM X F e fa) (he : ∀ whole, isTrue e X.env whole = (do let v ← whole; standAt e.pos; holding [v] (truthy v)) := by intro _; rfl) : PMT X F e (tst fa) := by
  refine PT.imp (pt_val h he) fun σ H Q ⟨V, ρ, E, g0⟩ => ⟨V, ρ, E, Goal.bind g0 fun x dx H1 V1 ρ1 st1 r1 g1 => ?_⟩
  obtain ⟨z, ez, q⟩ := Goal.opt st1.env g1
  cases r1 with
  | bl b => cases ez; exact ⟨_, rfl, q _ _ _ (Ext.refl st1.env.sub) rfl⟩
  | _ => cases ez
theorem pmt_cmp {op : CmpOp} {r : R2} {g : PyData → PyData → Option PyData} (ho : OpR X (compareOp op) r) (od : OpD X.kw r g) (ha : PM X F a fa) (hb : PM X F b fb) (hm : behindInMarks op b = false := by first | exact nomark _ | rfl) : PMT X F (.Compare a [op] [b] pos) (tst (op2 g fa fb)) := by
  refine PT.imp (pt_cmpR ho ha hb hm) fun σ H Q h => ?_
  have h2 : tM X.kw F (op2 g fa fb) σ H fun x H' => ∃ k, x = .bl k ∧ Q k H' := by
    obtain ⟨V, ρ, E, g0⟩ := h
    refine ⟨V, ρ, E, Goal.bind g0 fun x dx H1 V1 ρ1 st1 r1 g1 => ?_⟩
    obtain ⟨z, ez, q⟩ := Goal.opt st1.env g1
    cases r1 with
    | bl b => cases ez; exact ⟨_, rfl, q _ _ _ (Ext.refl st1.env.sub) rfl⟩
    | _ => cases ez
  exact tOp_of od h2
theorem pmw_or1 (ha : PMT X F a ft) : PMW X F (.BoolOp .Or [a] pos) ft := pw_or1 ha
theorem pmw_or {rest : List Expr} (ha : PMT X F a ft) (hb : PMW X F (.BoolOp .Or (b :: rest) pos) fu) : PMW X F (.BoolOp .Or (a :: b :: rest) pos) (orT ft fu) := by
  refine PW.imp (pw_or ha hb) fun σ H Q ⟨V, ρ, E, g0⟩ => ⟨V, ρ, E, Goal.bind g0 fun x dx H1 V1 ρ1 st1 r1 g1 => ?_⟩
  subst r1
  cases x with
  | true => exact Goal.pure0 st1.env g1 rfl
  | false => exact ⟨V1, ρ1, st1.env, g1⟩
theorem pmt_w (h : PMW X F e ft) : PMT X F e ft := PW.pt h
theorem pmt_not (ha : PMT X F a ft) : PMT X F (.UnaryOp .Not a pos) (notT ft) := by
  refine PT.imp (pt_not ha) fun σ H Q ⟨V, ρ, E, g0⟩ => ⟨V, ρ, E, Goal.bind g0 fun x dx H1 V1 ρ1 st1 r1 g1 => ?_⟩
  subst r1
  exact Goal.pure0 st1.env g1 rfl
theorem pm_one {op} (h : PM X F a fa) : PM X F (.BoolOp op [a] pos) fa := pe_one h
theorem pm_and {rest : List Expr} (ha : PM X F a fa) (hb : PM X F (.BoolOp .And (b :: rest) pos) fb) : PM X F (.BoolOp .And (a :: b :: rest) pos) (andV fa fb) := by
  refine PE.imp (pe_and ha hb) fun σ H Q ⟨V, ρ, E, g0⟩ => ⟨V, ρ, E, Goal.bind g0 fun x dx H1 V1 ρ1 st1 r1 g1 => ?_⟩
  cases r1 with
  | bl b =>
    refine ⟨b, rfl, ?_⟩
    cases b with
    | true => exact ⟨V1, ρ1, st1.env, g1⟩
    | false => exact Goal.pure0 st1.env g1 (.bl false)
  | _ => exact False.elim g1
theorem pm_not (ha : PM X F a fa) : PM X F (.UnaryOp .Not a pos) (notV fa) := by
  refine PE.imp (pe_not ha) fun σ H Q ⟨V, ρ, E, g0⟩ => ⟨V, ρ, E, Goal.bind g0 fun x dx H1 V1 ρ1 st1 r1 g1 => ?_⟩
  obtain ⟨z, ez, q⟩ := Goal.opt st1.env g1
  cases r1 with
  | bl b => cases ez; exact ⟨b, rfl, q _ _ _ (Ext.refl st1.env.sub) (.bl _)⟩
  | _ => cases ez
theorem pm_if (hc : PMT X F c ft) (ha : PM X F a fa) (hb : PM X F b fb) : PM X F (.IfExp c a b pos) (ifV ft fa fb) := by
  refine PE.imp (pe_ifExp hc ha hb) fun σ H Q ⟨V, ρ, E, g0⟩ => ⟨V, ρ, E, Goal.bind g0 fun x dx H1 V1 ρ1 st1 r1 g1 => ?_⟩
  subst r1
  cases x with
  | true => exact ⟨V1, ρ1, st1.env, g1⟩
  | false => exact ⟨V1, ρ1, st1.env, g1⟩
theorem tChain_of {K : KW} {r r' : R2} {g g' : PyData → PyData → Option PyData} (od : OpD K r g) (od' : OpD K r' g') {σ : St} {H : Hp} {Q : VK} (h : tM K F (chain g g' fa fb fc) σ H Q) : tChain r r' (tM K F fa) (tM K F fb) (tM K F fc) σ H Q := by
  obtain ⟨V, ρ, E, g0⟩ := h
  refine ⟨V, ρ, E, Goal.bind g0 fun x dx H1 V1 ρ1 st1 r1 g1 => ⟨V1, ρ1, st1.env, Goal.bind g1 fun y dy H2 V2 ρ2 st2 r2 g2 => ?_⟩⟩
  cases e : g dx dy with
  | none =>
    unfold M.bind M.opt at g2
    rw [e] at g2
    exact False.elim g2
  | some w =>
    unfold M.bind at g2
    rw [e] at g2
    cases w with
    | bool k =>
      refine od x y dx dy (.bool k) H2 V2 _ st2.env.sub (r1.mono st2.v) r2 e fun v H3 V3 ex rv => ?_
      have E3 := st2.env.step ex
      have g3 : Goal K F σ ρ2 H2 V2 (Rep K) ((if k = true then M.bind fc fun z => M.opt (g' dy z) else M.pure (.bool false)) ρ2) Q := g2
      cases rv
      refine ⟨k, rfl, ?_⟩
      have g4 := Goal.after E3 g3
      cases k with
      | false => exact Goal.pure0 E3.env g4 (.bl false)
      | true =>
        rw [if_pos rfl]
        refine ⟨V3, ρ2, E3.env, Goal.bind g4 fun z dz H4 V4 ρ4 st4 r4 g5 => ?_⟩
        obtain ⟨z', ez, q⟩ := Goal.opt st4.env g5
        exact od' y z dy dz z' H4 V4 Q st4.env.sub ((r2.mono ex.v).mono st4.v) r4 ez q
    | _ => exact False.elim g2
theorem pm_chain {op op' : CmpOp} {r r' : R2} {g g' : PyData → PyData → Option PyData} (ho : OpR X (compareOp op) r) (od : OpD X.kw r g) (ho' : OpR X (compareOp op') r') (od' : OpD X.kw r' g') (ha : PM X F a fa) (hb : PM X F b fb) (hc : PM X F c fc)
    (hm : lastMarks [op, op'] [b, c] = false := by with_unfolding_all rfl) : PM X F (.Compare a [op, op'] [b, c] pos) (chain g g' fa fb fc) := PE.imp (pe_chain ho ho' ha hb hc hm) fun _ _ _ h => tChain_of od od' h
theorem pmt_chain {op op' : CmpOp} {r r' : R2} {g g' : PyData → PyData → Option PyData} (ho : OpR X (compareOp op) r) (od : OpD X.kw r g) (ho' : OpR X (compareOp op') r') (od' : OpD X.kw r' g') (ha : PM X F a fa) (hb : PM X F b fb) (hc : PM X F c fc)
    (hm : lastMarks [op, op'] [b, c] = false := by with_unfolding_all rfl) : PMT X F (.Compare a [op, op'] [b, c] pos) (tst (chain g g' fa fb fc)) := by
  refine PT.imp (pt_chain ho ho' ha hb hc hm) fun σ H Q h => ?_
  have h2 : tM X.kw F (chain g g' fa fb fc) σ H fun x H' => ∃ k, x = .bl k ∧ Q k H' := by
    obtain ⟨V, ρ, E, g0⟩ := h
    refine ⟨V, ρ, E, Goal.bind g0 fun x dx H1 V1 ρ1 st1 r1 g1 => ?_⟩
    obtain ⟨z, ez, q⟩ := Goal.opt st1.env g1
    cases r1 with
    | bl b => cases ez; exact ⟨_, rfl, q _ _ _ (Ext.refl st1.env.sub) rfl⟩
    | _ => cases ez
  exact tChain_of od od' h2
end
end DL
set_option Elab.async false
set_option linter.all false
set_option maxRecDepth 100000
set_option maxHeartbeats 1000000
namespace DL
open PySem PySem.Spec PyProof.Rows L2
variable [TabCtx]
theorem ite_some {c : Prop} [Decidable c] {a z : PyData} (h : (if c then some a else none) = some z) : c ∧ a = z := by
  by_cases hc : c
  · rw [if_pos hc] at h; exact ⟨hc, Option.some.inj h⟩
  · rw [if_neg hc] at h; cases h
section
variable {K : KW} {H V : Hp}
theorem new_tup {xs : List L2.V} {ds : List PyData} {p : Addr} (s : Same V H) (hp : H p = none) (r : RepL K V xs ds) : Rep K (upd V p (.tup xs)) (.ref p) (.tuple ds) := .tup upd_same (r.mono (same_new (s.free hp)))
theorem new_lst {xs : List L2.V} {ds : List PyData} {p : Addr} (s : Same V H) (hp : H p = none) (r : RepL K V xs ds) : Rep K (upd V p (.lst xs)) (.ref p) (.list ds) := .lst upd_same (r.mono (same_new (s.free hp)))
end
def gAdd : PyData → PyData → Option PyData
  | .int i, .int j => some (.int (i + j))
  | .tuple a, .tuple b => if a.length + b.length ≤ LIM then some (.tuple (a ++ b)) else none
  | .list a, .list b => if a.length + b.length ≤ LIM then some (.list (a ++ b)) else none
  | .str a, .str b => if a.length + b.length ≤ LIM then some (.str (a ++ b)) else none
  | _, _ => none
def rAddD (K : KW) : R2 := fun x y H Q => (rI0 fun i j => .int (i + j)) x y H Q ∨ (rCatA K x y H Q ∨ (rCat x y H Q ∨ ∃ i j, x = .str i ∧ y = .str j ∧ i.length + j.length ≤ sizeLine ∧ Q (.str (i ++ j)) H))
theorem op_addD {X : Cx} : OpR X (binaryOp .Add) (rAddD X.kw) := op_add.or (op_catA.or (op_cat.or op_add_str))
theorem od_add {K : KW} : OpD K (rAddD K) gAdd := by
  intro x y dx dy z H V Q s rx ry e q
  cases rx with
  | int i =>
    cases ry with
    | int j => cases e; exact .inl ⟨i, j, rfl, rfl, q _ _ _ (Ext.refl s) (.int _)⟩
    | _ => cases e
  | str i =>
    cases ry with
    | str j =>
      obtain ⟨hl, rfl⟩ := ite_some e
      exact .inr (.inr (.inr ⟨i, j, rfl, rfl, Nat.le_trans hl lim_le, q _ _ _ (Ext.refl s) (.str _)⟩))
    | _ => cases e
  | @lst a xs ds ha ra =>
    cases ry with
    | @lst b ys es hb rb =>
      obtain ⟨hl, rfl⟩ := ite_some e
      refine .inr (.inr (.inl ⟨a, b, xs, ys, rfl, rfl, s _ _ ha, s _ _ hb, ?_, fun p hp => q _ _ _ (Ext.new s hp) (new_lst s hp (ra.append rb))⟩))
      rw [ra.length, rb.length]; exact Nat.le_trans hl lim_le
    | _ => cases e
  | @tup a xs ds ha ra =>
    cases ry with
    | @tup b ys es hb rb =>
      obtain ⟨hl, rfl⟩ := ite_some e
      refine .inr (.inl ⟨a, b, xs, ys, rfl, rfl, sqt s ha, sqt s hb, ?_, fun hx => ?_, fun hx hy => ?_, fun hx hy p hp => q _ _ _ (Ext.new s hp) (new_tup s hp (ra.append rb))⟩)
      · rw [ra.length, rb.length]; exact Nat.le_trans hl lim_le
      · subst hx; cases ra; exact q _ _ _ (Ext.refl s) (.tup hb rb)
      · subst hy; cases rb; exact q _ _ _ (Ext.refl s) (by rw [List.append_nil]; exact .tup ha ra)
    | _ => cases e
  | _ => cases e
def gSub : PyData → PyData → Option PyData
  | .int i, .int j => some (.int (i - j))
  | _, _ => none
theorem od_sub {K : KW} : OpD K (rI0 fun i j => .int (i - j)) gSub := by
  intro x y dx dy z H V Q s rx ry e q
  cases rx with
  | int i =>
    cases ry with
    | int j => cases e; exact ⟨i, j, rfl, rfl, q _ _ _ (Ext.refl s) (.int _)⟩
    | _ => cases e
  | _ => cases e
def gMod : PyData → PyData → Option PyData
  | .int i, .int j => if 0 < j then some (.int (i % j)) else none
  | _, _ => none
theorem od_mod {K : KW} : OpD K (rI (fun _ j => 0 < j) fun i j => .int (i % j)) gMod := by
  intro x y dx dy z H V Q s rx ry e q
  cases rx with
  | int i =>
    cases ry with
    | int j =>
      obtain ⟨hj, rfl⟩ := ite_some e
      exact ⟨i, j, rfl, rfl, hj, q _ _ _ (Ext.refl s) (.int _)⟩
    | _ => cases e
  | _ => cases e
def gDiv : PyData → PyData → Option PyData
  | .int i, .int j => if 0 < j ∧ j < 2 ^ 200 then some (.int (i / j)) else none
  | _, _ => none
theorem od_div {K : KW} : OpD K (rI CDivW fun i j => .int (i / j)) gDiv := by
  intro x y dx dy z H V Q s rx ry e q
  cases rx with
  | int i =>
    cases ry with
    | int j =>
      obtain ⟨hj, rfl⟩ := ite_some e
      exact ⟨i, j, rfl, rfl, wide_div (b := 200) hj.1 (by have h1 := hj.1; have h2 := hj.2; omega) (by decide) (by decide), q _ _ _ (Ext.refl s) (.int _)⟩
    | _ => cases e
  | _ => cases e
def gMul : PyData → PyData → Option PyData
  | .int i, .int j => if ((-(2 ^ 64) < i ∧ i < 2 ^ 64) ∨ (-(2 ^ 64) < j ∧ j < 2 ^ 64)) ∨ (i.natAbs < 2 ^ 2000 ∧ j.natAbs < 2 ^ 2000) then some (.int (i * j)) else none
  | .list a, .int k => if -(2 ^ 63) ≤ k ∧ k < 2 ^ 63 ∧ a.length * k.toNat ≤ LIM then some (.list (List.replicate k.toNat a).flatten) else none
  | .tuple a, .int k => if a ≠ [] ∧ 1 ≤ k ∧ k ≤ 1000 ∧ a.length ≤ 1000 then some (.tuple (List.replicate k.toNat a).flatten) else none
  | _, _ => none
theorem tuple_mul1 (l : Addr) (items : Array Value) (n : Nat) (dd : Option Addr) (sl : Array (Option Value)) (u : Tok) :
    Meets (Builtin.«tuple.__mul__» ⟨[.ref l, .int 1 u], []⟩) (fun _ R s => s.heap.get? l = some { cls := .type "tuple", dict := dd, data := .seq items n, slots := sl } ∧
      R (.ok (.ret (Value.ref l))) s) :=
  .of_wp fun prog w A R s h => by
    obtain ⟨hp, g, d, tk, os⟩ := s
    obtain ⟨hl, h⟩ := h
    have f1 := AutoSeq1.idx_int
    wp_walk using wpAny_loadPart' hl
    exact ⟨_, rfl, h⟩
def rRepT1 (K : PySem.W.Frag) : R2 := fun x y H Q => ∃ l xs, x = .ref l ∧ y = .int 1 ∧ SqT K H l xs ∧ Q (.ref l) H
theorem op_repT1 {X : Cx} : OpR X (binaryOp .Mult) (rRepT1 X.K) := by
  intro pins s σ H x y v u Q I rx ry h
  obtain ⟨l, xs, rfl, rfl, hT, q⟩ := h
  cases rx
  obtain ⟨t, rfl⟩ := ry
  obtain ⟨its, r, ⟨⟨cls, dd, data, sl⟩, ho, hc, n, hd⟩, hs⟩ := I.tuple hT
  simp only at hc hd
  subst hc hd
  exact wpAny_binaryOp_repeat_ref (T := "tuple") (U := "int") (by decide) ⟨_, ho, rfl⟩ (fun s' => typeIs_int s' 1 t) noFill_tuple_mul F.fills_int_mul F.slot_int_rmul repeat_tuple F.slot_int_index.lookup
    (call_meets F.slot_int_rmul (typeIs_int s 1 t) F.entry_int_rmul (F.args_int_rmul_2 _ _) (int_rmul_tuple 1 t l its.toArray n dd sl)
      ⟨ho, rfl, ⟨_, ho, rfl⟩, call_meets F.slot_tuple_mul ⟨_, ho, rfl⟩ F.entry_tuple_mul (F.args_tuple_mul_2 _ _) (tuple_mul1 l its.toArray n dd sl t) ⟨ho, .ref l, H, I, rfl, q⟩⟩)
def rMulD (K : KW) : R2 := fun x y H Q => (rI CMul fun i j => .int (i * j)) x y H Q ∨ ((rI CMulW fun i j => .int (i * j)) x y H Q ∨ (rRep x y H Q ∨ (rRepT K x y H Q ∨ rRepT1 K x y H Q)))
theorem op_mulD {X : Cx} : OpR X (binaryOp .Mult) (rMulD X.kw) := op_mul.or (op_mulW.or (op_rep.or (op_repT.or op_repT1)))
theorem od_mul {K : KW} : OpD K (rMulD K) gMul := by
  intro x y dx dy z H V Q s rx ry e q
  cases rx with
  | int i =>
    cases ry with
    | int j =>
      obtain ⟨hj, rfl⟩ := ite_some e
      rcases hj with hj | hj
      · exact .inl ⟨i, j, rfl, rfl, hj, q _ _ _ (Ext.refl s) (.int _)⟩
      · exact .inr (.inl ⟨i, j, rfl, rfl, wide_mul hj.1 hj.2 (by decide) (by decide) (by decide), q _ _ _ (Ext.refl s) (.int _)⟩)
    | _ => cases e
  | @lst a xs ds ha ra =>
    cases ry with
    | int k =>
      obtain ⟨hl, rfl⟩ := ite_some e
      exact .inr (.inr (.inl ⟨a, k, xs, rfl, rfl, s _ _ ha, hl.1, hl.2.1, by rw [ra.length]; exact Nat.le_trans hl.2.2 lim_le, fun p hp => q _ _ _ (Ext.new s hp) (new_lst s hp (ra.rep _))⟩))
    | _ => cases e
  | @tup a xs ds ha ra =>
    cases ry with
    | int k =>
      obtain ⟨hl, rfl⟩ := ite_some e
      by_cases hk : k = 1
      · subst hk
        refine .inr (.inr (.inr (.inr ⟨a, xs, rfl, rfl, sqt s ha, q _ _ _ (Ext.refl s) ?_⟩)))
        have e1 : (List.replicate (1 : Int).toNat ds).flatten = ds := by simp
        rw [e1]
        exact .tup ha ra
      · refine .inr (.inr (.inr (.inl ⟨a, k, xs, rfl, rfl, sqt s ha, fun h => hl.1 ?_, by have := hl.2.1; omega, hl.2.2.1, by rw [ra.length]; exact hl.2.2.2, fun p hp => q _ _ _ (Ext.new s hp) (new_tup s hp (ra.rep _))⟩)))
        subst h; cases ra; rfl
    | _ => cases e
  | _ => cases e
def gPow : PyData → PyData → Option PyData
  | .int i, .int j => if 0 ≤ j ∧ j ≤ 1000 ∧ i.natAbs < 2 ^ 64 then some (.int (i ^ j.toNat)) else none
  | _, _ => none
theorem od_pow {K : KW} : OpD K (rI CPow fun i j => .int (i ^ j.toNat)) gPow := by
  intro x y dx dy z H V Q s rx ry e q
  cases rx with
  | int i =>
    cases ry with
    | int j =>
      obtain ⟨hj, rfl⟩ := ite_some e
      exact ⟨i, j, rfl, rfl, ⟨hj.1, by have := hj.2.1; omega, hj.2.2⟩, q _ _ _ (Ext.refl s) (.int _)⟩
    | _ => cases e
  | _ => cases e
def gCmpI (p : Int → Int → Bool) : PyData → PyData → Option PyData
  | .int i, .int j => some (.bool (p i j))
  | _, _ => none
theorem od_cmpI {K : KW} {p : Int → Int → Bool} : OpD K (rI0 fun i j => .bl (p i j)) (gCmpI p) := by
  intro x y dx dy z H V Q s rx ry e q
  cases rx with
  | int i =>
    cases ry with
    | int j => cases e; exact ⟨i, j, rfl, rfl, q _ _ _ (Ext.refl s) (.bl _)⟩
    | _ => cases e
  | _ => cases e
def gLe := gCmpI fun i j => decide (i ≤ j)
def gGt := gCmpI fun i j => decide (j < i)
def gGe := gCmpI fun i j => decide (j ≤ i)
theorem od_le {K : KW} : OpD K (rI0 fun i j => .bl (decide (i ≤ j))) gLe := od_cmpI
theorem od_gt {K : KW} : OpD K (rI0 fun i j => .bl (decide (j < i))) gGt := od_cmpI
theorem od_ge {K : KW} : OpD K (rI0 fun i j => .bl (decide (j ≤ i))) gGe := od_cmpI
def gEq (x y : PyData) : Option PyData := if (SeqAt.shaped x && SeqAt.shaped y) = true then some (.bool (PyData.eqv x y)) else none
def gNe (x y : PyData) : Option PyData := if (SeqAt.shaped x && SeqAt.shaped y) = true then some (.bool (!PyData.eqv x y)) else none
theorem od_eq {K : KW} : OpD K (rEqD K) gEq := by
  intro x y dx dy z H V Q s rx ry e q
  obtain ⟨h, rfl⟩ := ite_some e
  obtain ⟨h1, h2⟩ := Bool.and_eq_true_iff.mp h
  exact ⟨dx, dy, (rx.mono s).dp (SeqAt.canLay_of_shaped h1), (ry.mono s).dp (SeqAt.canLay_of_shaped h2), h1, h2, q _ _ _ (Ext.refl s) (.bl _)⟩
theorem od_ne {K : KW} : OpD K (rNeD K) gNe := by
  intro x y dx dy z H V Q s rx ry e q
  obtain ⟨h, rfl⟩ := ite_some e
  obtain ⟨h1, h2⟩ := Bool.and_eq_true_iff.mp h
  exact ⟨dx, dy, (rx.mono s).dp (SeqAt.canLay_of_shaped h1), (ry.mono s).dp (SeqAt.canLay_of_shaped h2), h1, h2, q _ _ _ (Ext.refl s) (.bl _)⟩
def isNone : PyData → Bool
  | .none => true
  | _ => false
def gIsNot : PyData → PyData → Option PyData
  | x, .none => some (.bool (!isNone x))
  | .bool a, .bool b => some (.bool (!decide (a = b)))
  | _, _ => none
theorem isNone_rep {K : KW} {V : Hp} {x : L2.V} {d : PyData} (r : Rep K V x d) : decide (x = .non) = isNone d := by
  cases r <;> rfl
def rIsNotD : R2 := fun x y H Q => (y = .non ∧ Q (.bl (!decide (x = .non))) H) ∨ ∃ a b, x = .bl a ∧ y = .bl b ∧ Q (.bl (!decide (a = b))) H
theorem op_isNotD {X : Cx} : OpR X (compareOp .IsNot) rIsNotD := op_notN.or op_isnot_bl
theorem od_isNot {K : KW} : OpD K rIsNotD gIsNot := by
  intro x y dx dy z H V Q s rx ry e q
  cases ry with
  | non =>
    have e2 : z = .bool (!isNone dx) := by cases dx <;> exact (Option.some.inj e).symm
    subst e2
    exact .inl ⟨rfl, by rw [isNone_rep rx]; exact q _ _ _ (Ext.refl s) (.bl _)⟩
  | bl b =>
    cases rx with
    | bl a => cases e; exact .inr ⟨a, b, rfl, rfl, q _ _ _ (Ext.refl s) (.bl _)⟩
    | _ => cases e
  | _ => cases rx <;> cases e
def gIn : PyData → PyData → Option PyData
  | x, .list ds => if (SeqAt.shaped x && SeqAt.shaped (.list ds)) = true then some (.bool (ds.any fun z => PyData.eqv z x)) else none
  | x, .tuple ds => if (SeqAt.shaped x && SeqAt.shaped (.tuple ds)) = true then some (.bool (ds.any fun z => PyData.eqv z x)) else none
  | .str x, .str z => match x.cps.toList with
    | [c] => some (.bool (decide (c ∈ z.cps.toList)))
    | _ => none
  | _, _ => none
def gNotIn : PyData → PyData → Option PyData
  | x, .list ds => if (SeqAt.shaped x && SeqAt.shaped (.list ds)) = true then some (.bool (!ds.any fun z => PyData.eqv z x)) else none
  | x, .tuple ds => if (SeqAt.shaped x && SeqAt.shaped (.tuple ds)) = true then some (.bool (!ds.any fun z => PyData.eqv z x)) else none
  | _, _ => none
/-- in a tuple -/
def rInT (K : KW) : R2 := fun x y H Q => ∃ dx es, Dp K H x dx ∧ Dp K H y (.tuple es) ∧ SeqAt.shaped dx = true ∧ SeqAt.shaped (.tuple es) = true ∧ Q (.bl (es.any fun z => PyData.eqv z dx)) H
def rNotInT (K : KW) : R2 := fun x y H Q => ∃ dx es, Dp K H x dx ∧ Dp K H y (.tuple es) ∧ SeqAt.shaped dx = true ∧ SeqAt.shaped (.tuple es) = true ∧ Q (.bl (!es.any fun z => PyData.eqv z dx)) H
theorem op_inT {X : Cx} (hu : X.A.units + 65 < cLine) : OpR X (compareOp .In) (rInT X.kw) := by
  intro pins s σ H x y v u Q I rx ry ⟨dx, es, h1, h2, s1, s2, q⟩
  obtain ⟨as, r1⟩ := Dp.reads I dx x v h1 rx
  obtain ⟨bs, r2⟩ := Dp.reads I (.tuple es) y u h2 ry
  exact SeqAt.in_tuple_reads r2 r1 (by have := SeqAt.canLay_of_shaped s2; rw [PyData.canLay0] at this; exact this) (SeqAt.canLay_of_shaped s1) (room_in_shaped s1 hu) ⟨.bl _, H, I, rfl, q⟩
theorem op_notInT {X : Cx} (hu : X.A.units + 65 < cLine) : OpR X (compareOp .NotIn) (rNotInT X.kw) := by
  intro pins s σ H x y v u Q I rx ry ⟨dx, es, h1, h2, s1, s2, q⟩
  obtain ⟨as, r1⟩ := Dp.reads I dx x v h1 rx
  obtain ⟨bs, r2⟩ := Dp.reads I (.tuple es) y u h2 ry
  exact SeqAt.notIn_tuple_reads r2 r1 (by have := SeqAt.canLay_of_shaped s2; rw [PyData.canLay0] at this; exact this) (SeqAt.canLay_of_shaped s1) (room_in_shaped s1 hu) ⟨.bl _, H, I, rfl, q⟩
def rSign : R2 := fun x y H Q => ∃ (c : Nat) (z : Str), x = .str ⟨#[c]⟩ ∧ y = .str z ∧ Q (.bl (decide (c ∈ z.cps.toList))) H
def rInAll (K : KW) : R2 := fun x y H Q => rInD K x y H Q ∨ (rInT K x y H Q ∨ rSign x y H Q)
theorem op_inAll {X : Cx} (hu : X.A.units + 65 < cLine) : OpR X (compareOp .In) (rInAll X.kw) := (op_inD hu).or ((op_inT hu).or op_in_sign)
def rNotInAll (K : KW) : R2 := fun x y H Q => rNotInD K x y H Q ∨ rNotInT K x y H Q
theorem op_notInAll {X : Cx} (hu : X.A.units + 65 < cLine) : OpR X (compareOp .NotIn) (rNotInAll X.kw) := (op_notInD hu).or (op_notInT hu)
theorem od_in {K : KW} : OpD K (rInAll K) gIn := by
  intro x y dx dy z H V Q s rx ry e q
  cases ry with
  | @lst a xs ds ha ra =>
    have e2 : (if (SeqAt.shaped dx && SeqAt.shaped (.list ds)) = true then some (PyData.bool (ds.any fun z => PyData.eqv z dx)) else none) = some z := by cases dx <;> exact e
    obtain ⟨h, rfl⟩ := ite_some e2
    obtain ⟨h1, h2⟩ := Bool.and_eq_true_iff.mp h
    exact .inl ⟨dx, ds, (rx.mono s).dp (SeqAt.canLay_of_shaped h1), ((Rep.lst ha ra).mono s).dp (SeqAt.canLay_of_shaped h2), h1, h2, q _ _ _ (Ext.refl s) (.bl _)⟩
  | @tup a xs ds ha ra =>
    have e2 : (if (SeqAt.shaped dx && SeqAt.shaped (.tuple ds)) = true then some (PyData.bool (ds.any fun z => PyData.eqv z dx)) else none) = some z := by cases dx <;> exact e
    obtain ⟨h, rfl⟩ := ite_some e2
    obtain ⟨h1, h2⟩ := Bool.and_eq_true_iff.mp h
    exact .inr (.inl ⟨dx, ds, (rx.mono s).dp (SeqAt.canLay_of_shaped h1), ((Rep.tup ha ra).mono s).dp (SeqAt.canLay_of_shaped h2), h1, h2, q _ _ _ (Ext.refl s) (.bl _)⟩)
  | str w =>
    cases rx with
    | str u =>
      obtain ⟨l⟩ := u
      obtain ⟨l⟩ := l
      match l, e with
      | [c], e =>
        cases e
        exact .inr (.inr ⟨c, w, rfl, rfl, q _ _ _ (Ext.refl s) (.bl _)⟩)
      | [], e => cases e
      | _ :: _ :: _, e => cases e
    | _ => cases e
  | _ => cases rx <;> cases e
theorem od_notIn {K : KW} : OpD K (rNotInAll K) gNotIn := by
  intro x y dx dy z H V Q s rx ry e q
  cases ry with
  | @lst a xs ds ha ra =>
    have e2 : (if (SeqAt.shaped dx && SeqAt.shaped (.list ds)) = true then some (PyData.bool (!ds.any fun z => PyData.eqv z dx)) else none) = some z := by cases dx <;> exact e
    obtain ⟨h, rfl⟩ := ite_some e2
    obtain ⟨h1, h2⟩ := Bool.and_eq_true_iff.mp h
    exact .inl ⟨dx, ds, (rx.mono s).dp (SeqAt.canLay_of_shaped h1), ((Rep.lst ha ra).mono s).dp (SeqAt.canLay_of_shaped h2), h1, h2, q _ _ _ (Ext.refl s) (.bl _)⟩
  | @tup a xs ds ha ra =>
    have e2 : (if (SeqAt.shaped dx && SeqAt.shaped (.tuple ds)) = true then some (PyData.bool (!ds.any fun z => PyData.eqv z dx)) else none) = some z := by cases dx <;> exact e
    obtain ⟨h, rfl⟩ := ite_some e2
    obtain ⟨h1, h2⟩ := Bool.and_eq_true_iff.mp h
    exact .inr ⟨dx, ds, (rx.mono s).dp (SeqAt.canLay_of_shaped h1), ((Rep.tup ha ra).mono s).dp (SeqAt.canLay_of_shaped h2), h1, h2, q _ _ _ (Ext.refl s) (.bl _)⟩
  | _ => cases rx <;> cases e
def atD (ds : List PyData) (i : Int) : Option PyData := if 0 ≤ i then ds[i.toNat]? else if -(ds.length : Int) ≤ i then ds[(i + ds.length).toNat]? else none
def gIx : PyData → PyData → Option PyData
  | .list ds, .int i => atD ds i
  | .tuple ds, .int i => atD ds i
  | _, _ => none
theorem atD_get {K : KW} {V : Hp} {xs : List L2.V} {ds : List PyData} {i : Int} {z : PyData} (r : RepL K V xs ds) (h : atD ds i = some z) : ∃ v, atI xs i = some v ∧ Rep K V v z := by
  unfold atD at h
  unfold atI ixN
  have hl := r.length
  by_cases h0 : 0 ≤ i
  · rw [if_pos h0] at h ⊢
    obtain ⟨hlt, _⟩ := List.getElem?_eq_some_iff.mp h
    obtain ⟨v, h1, h2⟩ := r.get _ h
    rw [if_pos (by omega)]
    exact ⟨v, h1, h2⟩
  · rw [if_neg h0] at h ⊢
    by_cases hn : -(ds.length : Int) ≤ i
    · rw [if_pos hn] at h
      rw [if_pos (by omega)]
      obtain ⟨v, h1, h2⟩ := r.get _ h
      exact ⟨v, by rw [hl]; exact h1, h2⟩
    · rw [if_neg hn] at h; cases h
theorem od_ix {K : KW} : OpD K (rIx K) gIx := by
  intro x y dx dy z H V Q s rx ry e q
  cases rx with
  | @lst a xs ds ha ra =>
    cases ry with
    | int i =>
      obtain ⟨v, h1, h2⟩ := atD_get ra e
      exact .inl ⟨a, xs, i, v, rfl, rfl, .inl (.inl (s _ _ ha)), h1, q _ _ _ (Ext.refl s) h2⟩
    | _ => cases e
  | @tup a xs ds ha ra =>
    cases ry with
    | int i =>
      obtain ⟨v, h1, h2⟩ := atD_get ra e
      exact .inr (.inl ⟨a, xs, i, v, rfl, rfl, sqt s ha, h1, q _ _ _ (Ext.refl s) h2⟩)
    | _ => cases e
  | _ => cases ry <;> cases e
def cutD (ds : List PyData) (lo hi : Option Int) : List PyData := (ds.drop (HT.sIx ds.length 0 lo)).take (HT.sIx ds.length ds.length hi - HT.sIx ds.length 0 lo)
theorem cut_rep {K : KW} {V : Hp} {xs : List L2.V} {ds : List PyData} (r : RepL K V xs ds) (lo hi : Option Int) : RepL K V (cutV xs lo hi) (cutD ds lo hi) := by
  unfold cutV cutD
  rw [r.length]
  exact (r.drop _).take _
def gCut (lo hi : Option Int) : PyData → Option PyData
  | .list ds => some (.list (cutD ds lo hi))
  | .tuple ds => some (.tuple (cutD ds lo hi))
  | _ => none
def asI : PyData → Option Int
  | .int i => some i
  | _ => none
/-- a part of a slice -/
def prt (a : M PyData) : M (Option Int) := M.bind a fun x => M.bind (M.opt (asI x)) fun i => M.pure (some i)
def noPrt : M (Option Int) := M.pure none
def slc (a : M PyData) (lo hi : M (Option Int)) : M PyData := M.bind a fun x => M.bind lo fun l => M.bind hi fun h => M.opt (gCut l h x)
def tMO (K : KW) (F : Fr) (f : M (Option Int)) : TO := fun σ H Q => ∃ V ρ, EnvR K F H V σ ρ ∧ Goal K F σ ρ H V (fun _ b a => b = a) (f ρ) Q
def PMO (X : Cx) (F : Fr) (e : Option Expr) (f : M (Option Int)) : Prop := PO X e (tMO X.kw F f)
theorem PO.imp {X : Cx} {e : Option Expr} {t u : TO} (h : PO X e t) (i : ∀ σ H Q, u σ H Q → t σ H Q) : PO X e u := by
  obtain ⟨r⟩ := h
  exact ⟨fun pins s σ H Q I q => r pins s σ H Q I (i σ H Q q)⟩
section
variable {X : Cx} {F : Fr} {e : Expr} {fa : M PyData} {fl fh : M (Option Int)}
theorem pmo_none : PMO X F none noPrt := PO.imp po_none fun σ H Q ⟨V, ρ, E, g⟩ => Goal.pure0 E g rfl
theorem pmo_some (h : PM X F e fa) : PMO X F (some e) (prt fa) := by
  refine PO.imp (po_some h) fun σ H Q ⟨V, ρ, E, g0⟩ => ⟨V, ρ, E, Goal.bind g0 fun x dx H1 V1 ρ1 st1 r1 g1 => ?_⟩
  cases r1 with
  | int i => exact ⟨i, rfl, Goal.pure0 st1.env g1 rfl⟩
  | _ => exact False.elim g1
theorem pm_slice {lo hi : Option Expr} {p2 pos : Pos} (he : PM X F e fa) (hl : PMO X F lo fl) (hh : PMO X F hi fh) : PM X F (.Subscript e (.Slice lo hi none p2) pos) (slc fa fl fh) := by
  refine PE.imp (pe_slice (sl_list.or sl_tupA) he hl hh) fun σ H Q ⟨V, ρ, E, g0⟩ => ⟨V, ρ, E, Goal.bind g0 fun x dx H1 V1 ρ1 st1 r1 g1 =>
    ⟨V1, ρ1, st1.env, Goal.bind g1 fun l l' H2 V2 ρ2 st2 r2 g2 => ⟨V2, ρ2, st2.env, Goal.bind g2 fun h h' H3 V3 ρ3 st3 r3 g3 => ?_⟩⟩⟩
  subst r2 r3
  obtain ⟨z, ez, q⟩ := Goal.opt st3.env g3
  have rx := (r1.mono st2.v).mono st3.v
  have s := st3.env.sub
  cases rx with
  | @lst a xs ds ha ra =>
    cases ez
    exact .inl ⟨a, xs, rfl, .inl (.inl (s _ _ ha)), fun p hp => q _ _ _ (Ext.new s hp) (new_lst s hp (cut_rep ra l h))⟩
  | @tup a xs ds ha ra =>
    cases ez
    refine .inr ⟨a, xs, rfl, sqt s ha, fun hw => ?_, fun hw p hp => q _ _ _ (Ext.new s hp) (new_tup s hp (cut_rep ra l h))⟩
    refine q _ _ _ (Ext.refl s) ?_
    have e2 : cutD ds l h = ds := by
      unfold cutD
      rw [← ra.length, hw.1, hw.2, List.drop_zero, Nat.sub_zero, ra.length]
      exact List.take_length
    rw [e2]
    exact .tup ha ra
  | _ => cases ez
end
def gLen : List PyData → Option PyData
  | [.list ds] => some (.int ds.length)
  | [.tuple ds] => some (.int ds.length)
  | [.str x] => if x.length ≤ LIM then some (.int x.length) else none
  | _ => none
theorem cd_len {K : KW} : CallD K (fun xs H Q => ∃ x n, xs = [x] ∧ LenV K x H n ∧ Q (.int n) H) gLen := by
  intro xs ds z H V Q s r e q
  cases r with
  | nil => cases e
  | cons r1 r2 =>
    cases r2 with
    | cons _ _ => cases r1 <;> cases e
    | nil =>
      cases r1 with
      | @lst a ys es ha ra => cases e; exact ⟨_, ys.length, rfl, .inl ⟨ys, .inl (.inl (s _ _ ha)), rfl⟩, by rw [ra.length]; exact q _ _ _ (Ext.refl s) (.int _)⟩
      | @tup a ys es ha ra => cases e; exact ⟨_, ys.length, rfl, .inr ⟨ys, sqt s ha, rfl⟩, by rw [ra.length]; exact q _ _ _ (Ext.refl s) (.int _)⟩
      | str x =>
        obtain ⟨h, rfl⟩ := ite_some e
        exact ⟨_, _, rfl, ⟨Nat.le_trans h lim_le, rfl⟩, q _ _ _ (Ext.refl s) (.int _)⟩
      | _ => cases e
end DL
set_option Elab.async false
set_option linter.all false
set_option maxRecDepth 100000
set_option maxHeartbeats 1000000
namespace DL
open PySem PySem.Spec PyProof.Rows L2
variable [TabCtx]
inductive O where
  | nx (ρ : Rho)
  | rt (d : PyData) (ρ : Rho)
  | rf (d : PyData) (ρ : Rho)
  | bk (ρ : Rho)
  | ct (ρ : Rho)
  | exc (c : Str)
  | bad
abbrev SM := Rho → O
def seqO (f g : SM) : SM := fun ρ => match f ρ with
  | .nx ρ' => g ρ'
  | o => o
def nxO : SM := fun ρ => .nx ρ
section
variable {K : KW} {F : Fr} {σ : St} {ρ ρ1 : Rho} {H V H1 V1 : Hp}
/-- a value that is new since the frame began -/
def Fsh (F : Fr) (v : L2.V) : Prop := ∀ p, v = .ref p → F.H0 p = none ∧ F.lent ≠ some p
/-- what is wanted behind a statement -/
def GoalS (K : KW) (F : Fr) (V : Hp) (o : O) (D : Ends) : Prop := match o with
  | .nx ρ' => ∀ σ' H' V', EnvR K F H' V' σ' ρ' → Same V V' → D.nx σ' H'
  | .rt d ρ' => ∀ v σ' H' V', EnvR K F H' V' σ' ρ' → Same V V' → Rep K V' v d → D.rt v H'
  | .rf d ρ' => ∀ v σ' H' V', EnvR K F H' V' σ' ρ' → Same V V' → Rep K V' v d → Fsh F v → D.rt v H'
  | .bk ρ' => ∀ σ' H' V', EnvR K F H' V' σ' ρ' → Same V V' → D.bk σ' H'
  | .ct ρ' => ∀ σ' H' V', EnvR K F H' V' σ' ρ' → Same V V' → D.ct σ' H'
  | .exc c => ∀ σ' H' V', Ext F.H0 F.V0 H' V' → F.W (.ref (He.ga K c)) σ' H'
  | .bad => False
def tS (K : KW) (F : Fr) (f : SM) : TS := fun D σ H => ∃ V ρ, EnvR K F H V σ ρ ∧ GoalS K F V (f ρ) D
theorem GoalS.mono {o : O} {D : Ends} (v : Same V V1) (g : GoalS K F V o D) : GoalS K F V1 o D := by
  cases o with
  | nx ρ' => exact fun σ' H' V' E s => g σ' H' V' E (v.trans s)
  | rt d ρ' => exact fun x σ' H' V' E s => g x σ' H' V' E (v.trans s)
  | rf d ρ' => exact fun x σ' H' V' E s => g x σ' H' V' E (v.trans s)
  | bk ρ' => exact fun σ' H' V' E s => g σ' H' V' E (v.trans s)
  | ct ρ' => exact fun σ' H' V' E s => g σ' H' V' E (v.trans s)
  | exc c => exact g
  | bad => exact g
/-- an expression ahead of a statement's end -/
def exO {α : Type} (f : M α) (k : α → SM) : SM := fun ρ => match f ρ with
  | .ok (a, ρ') => k a ρ'
  | .exc c => .exc c
  | .bad => .bad
theorem Goal.ex {α β : Type} {rep1 : Hp → β → α → Prop} {f : M α} {k : α → SM} {D : Ends} {Q1 : β → Hp → Prop}
    (g : GoalS K F V (exO f k ρ) D)
    (h : ∀ b a H' V' ρ', Stp K F σ ρ ρ' H V H' V' → rep1 V' b a → GoalS K F V' (k a ρ') D → Q1 b H') : Goal K F σ ρ H V rep1 (f ρ) Q1 := by
  unfold exO at g
  cases e : f ρ with
  | ok p =>
    obtain ⟨a, ρ'⟩ := p
    rw [e] at g
    exact fun b H' V' st r => h b a H' V' ρ' st r (GoalS.mono st.v g)
  | exc c => rw [e] at g; exact fun H' V' x => g σ H' V' x
  | bad => rw [e] at g; exact g
end
def PMS (X : Cx) (F : Fr) (st : Stmt) (f : SM) : Prop := PS X st (tS X.kw F f)
def PMSs (X : Cx) (F : Fr) (st : List Stmt) (f : SM) : Prop := PSs X st (tS X.kw F f)
section
variable {X : Cx} {F : Fr} {st : Stmt} {rest sts : List Stmt} {f g : SM} {e : Expr} {fa : M PyData} {ft : M Bool} {pos : Pos}
theorem pms_nil : PMSs X F [] nxO := PSs.imp pss_nil fun D σ H ⟨V, ρ, E, g⟩ => g σ H V E (Same.refl _)
theorem pms_cons (h1 : PMS X F st f) (h2 : PMSs X F rest g) : PMSs X F (st :: rest) (seqO f g) := by
  refine PSs.imp (pss_cons h1 h2) fun D σ H ⟨V, ρ, E, g0⟩ => ⟨V, ρ, E, ?_⟩
  unfold seqO at g0
  cases e : f ρ with
  | nx ρ' => rw [e] at g0; exact fun σ' H' V' E' v => ⟨V', ρ', E', GoalS.mono v g0⟩
  | rt d ρ' => rw [e] at g0; exact g0
  | rf d ρ' => rw [e] at g0; exact g0
  | bk ρ' => rw [e] at g0; exact g0
  | ct ρ' => rw [e] at g0; exact g0
  | exc c => rw [e] at g0; exact g0
  | bad => rw [e] at g0; exact g0
theorem pms_one (h1 : PMS X F st f) : PMSs X F [st] f := pss_one h1
def dropO (a : M PyData) : SM := exO a fun _ => nxO
theorem pms_expr (h : PM X F e fa) (hs : swapsWith e none pos.line X.env = pure false := by rfl) : PMS X F (.Expr e pos) (dropO fa) :=
  PS.imp (ps_expr h hs) fun D σ H ⟨V, ρ, E, g⟩ => ⟨V, ρ, E, Goal.ex g fun v d H1 V1 ρ1 st1 r1 g1 => g1 σ H1 V1 st1.env (Same.refl _)⟩
def retO (a : M PyData) : SM := exO a fun d ρ => .rt d ρ
theorem pms_ret (h : PM X F e fa) : PMS X F (.Return (some e) pos) (retO fa) :=
  PS.imp (ps_ret h) fun D σ H ⟨V, ρ, E, g⟩ => ⟨V, ρ, E, Goal.ex g fun v d H1 V1 ρ1 st1 r1 g1 => g1 v σ H1 V1 st1.env (Same.refl _) r1⟩
def ifO (t : M Bool) (f g : SM) : SM := exO t fun b => if b = true then f else g
theorem pms_if {c : Expr} {a b : List Stmt} (hc : PMT X F c ft) (ha : PMSs X F a f) (hb : PMSs X F b g) : PMS X F (.If c a b pos) (ifO ft f g) := by
  refine PS.imp (ps_if hc ha hb) fun D σ H ⟨V, ρ, E, g⟩ => ⟨V, ρ, E, Goal.ex g fun v d H1 V1 ρ1 st1 r1 g1 => ?_⟩
  subst r1
  cases v with
  | true => exact ⟨V1, ρ1, st1.env, g1⟩
  | false => exact ⟨V1, ρ1, st1.env, g1⟩
/-- an exception: raise C('..') -/
def raiseO (c : Str) : SM := fun _ => .exc c
theorem takesN0 {X : Cx} : L2N.Takes X (fun _ _ _ _ => False) := fun _ _ ⟨_, _, _, _, _, _, _, _, _, _, _, _, _, _, _, _, w⟩ => w.elim
/-- what the context asks: exceptions reach the frame's wish -/
def Tk (X : Cx) (F : Fr) : Prop := L2N.Takes X fun cls d σ H => d = none ∧ F.W cls σ H
structure ExcF (K : PySem.W.Frag) (mg : Str → Option Value) (c : Str) : Prop where
  g : mg c = some (.ref (He.ga K c))
  x : PySem.W.excIn K (He.ga K c) He.veBase "ValueError.__new__" = true ∧ PySem.W.keepIn K (.ref (He.ga K c)) = true ∧ PySem.W.subIn K (.ref (He.ga K c)) (.type "BaseException") = some true ∧ PySem.W.typeIn K (.ref (He.ga K c)) = some (.type "type")
theorem pms_raise {c m : Str} {j : Nat} {p p2 pos2 : Pos} (T : ExcF X.K X.mg c) (tk : Tk X F) (hc : X.calm = true := by rfl) (hg : Gl X c := by rfl) (hdb : (c == ("__debug__" : Str)) = false := by decide) : PMS X F (.Raise (some (.Call (.Name c p) [.Constant (.str m) j p2] [] pos2)) none pos) (raiseO c) := by
  refine PS.imp (L2N.ps_raise hc tk (L2N.pmk_own PySem.F.excBase_ValueError T.x.1 T.g T.x.2.1 (raises_own T.x.2.2.1 T.x.2.2.2) hg hdb)) fun D σ H ⟨V, ρ, E, g⟩ => ?_
  exact ⟨rfl, g σ H V E.ext⟩
end
def GM := PyData → Rho → R Rho
def tGM (K : KW) (F : Fr) (is : List Nat) (g : GM) : TG := fun v σ H Q => ∃ V ρ d, EnvR K F H V σ ρ ∧ Rep K V v d ∧ match g d ρ with
  | .ok ρ' => ∀ σ' H' V', EnvR K F H' V' σ' ρ' → Ext H V H' V' → (∀ vs : List Nat, (∀ i ∈ is, i ∈ vs) → wipe σ' vs = wipe σ vs) → (∀ b, IsOwn σ' ρ' b → IsOwn σ ρ b) → (∀ (i : Nat) (d : PyData), i ∉ is → ρ'[i]? = some (.sh d) → ρ[i]? = some (.sh d)) → Q σ' H'
  | .exc _ => False
  | .bad => False
def PMG (X : Cx) (F : Fr) (tg : Expr) (is : List Nat) (g : GM) : Prop := PG X tg (tGM X.kw F is g)
def PMGs (X : Cx) (F : Fr) (tgs : List Expr) (is : List Nat) (g : List PyData → Rho → R Rho) : Prop := PGs X tgs fun vs σ H Q => ∃ V ρ ds, EnvR X.kw F H V σ ρ ∧ RepL X.kw V vs ds ∧ match g ds ρ with
  | .ok ρ' => ∀ σ' H' V', EnvR X.kw F H' V' σ' ρ' → Ext H V H' V' → (∀ vs : List Nat, (∀ i ∈ is, i ∈ vs) → wipe σ' vs = wipe σ vs) → (∀ b, IsOwn σ' ρ' b → IsOwn σ ρ b) → (∀ (i : Nat) (d : PyData), i ∉ is → ρ'[i]? = some (.sh d) → ρ[i]? = some (.sh d)) → Q σ' H'
  | .exc _ => False
  | .bad => False
theorem PG.imp {X : Cx} {e : Expr} {t u : TG} (h : PG X e t) (i : ∀ v σ H Q, u v σ H Q → t v σ H Q) : PG X e u := ⟨fun pins s σ H v w Q I r q => h.run pins s σ H v w Q I r (i v σ H Q q)⟩
theorem PGs.imp {X : Cx} {e : List Expr} {t u : TGs} (h : PGs X e t) (i : ∀ v σ H Q, u v σ H Q → t v σ H Q) : PGs X e u := ⟨fun pins s σ H v w Q I r q => h.run pins s σ H v w Q I r (i v σ H Q q)⟩
/-- a slot is given data -/
def setS (i : Nat) : GM := fun d ρ => if i < ρ.length then .ok (ρ.set i (.sh d)) else .bad
section
variable {K : KW} {F : Fr} {σ : St} {ρ ρ1 : Rho} {H V H1 V1 : Hp} {X : Cx} {pos : Pos}
theorem EnvR.setSh (E : EnvR K F H V σ ρ) {i : Nat} {v : L2.V} {d : PyData} (r : Rep K V v d) (hl : i ≠ F.ls ∨ F.lent = none) : EnvR K F H V (σ.set i (some v)) (ρ.set i (.sh d)) := by
  have hlen := E.len
  refine ⟨by simp [hlen], E.ext, fun j e h => ?_, fun j e h => ?_, fun j k a e e' h1 h2 h3 h4 => ?_, fun a ha => ?_, E.tab, E.ob.set fun _ z => nomatch z⟩
  · by_cases hj : i = j
    · subst hj
      by_cases hi : i < ρ.length
      · rw [List.getElem?_set_self hi] at h
        cases h
        exact ⟨v, List.getElem?_set_self (by omega), r⟩
      · rw [List.getElem?_eq_none (by simpa using hi)] at h; cases h
    · rw [List.getElem?_set_ne hj] at h ⊢
      exact E.sh j e h
  · by_cases hj : i = j
    · subst hj
      by_cases hi : i < ρ.length
      · rw [List.getElem?_set_self hi] at h; cases h
      · rw [List.getElem?_eq_none (by simpa using hi)] at h; cases h
    · rw [List.getElem?_set_ne hj] at h ⊢
      exact E.ow j e h
  · have ne : ∀ {m : Nat} {x : PyData}, (ρ.set i (.sh d))[m]? = some (.ow x) → i ≠ m := fun {m x} q z => by
      subst z
      by_cases hi : i < ρ.length
      · rw [List.getElem?_set_self hi] at q; cases q
      · rw [List.getElem?_eq_none (by simpa using hi)] at q; cases q
    have n1 := ne h1
    have n2 := ne h2
    rw [List.getElem?_set_ne n1] at h1 h3
    rw [List.getElem?_set_ne n2] at h2 h4
    exact E.dis j k a e e' h1 h2 h3 h4
  · rcases hl with hl | hl
    · rw [List.getElem?_set_ne hl]; exact E.lent a ha
    · rw [hl] at ha; cases ha
theorem wipe_set {σ : St} {i : Nat} {x : Option L2.V} : ∀ {vs : List Nat}, i ∈ vs → wipe (σ.set i x) vs = wipe σ vs
  | [], h => by cases h
  | v :: vs, h => by
    show (wipe (σ.set i x) vs).set v none = (wipe σ vs).set v none
    by_cases e : i ∈ vs
    · rw [wipe_set e]
    · have e2 : i = v := by
        rcases List.mem_cons.mp h with z | z
        · exact z
        · exact absurd z e
      subst e2
      have key : ∀ {ws : List Nat}, i ∉ ws → wipe (σ.set i x) ws = (wipe σ ws).set i x := by
        intro ws
        induction ws with
        | nil => intro _; rfl
        | cons w ws ih =>
          intro hn
          show (wipe (σ.set i x) ws).set w none = ((wipe σ ws).set w none).set i x
          rw [ih fun z => hn (List.mem_cons_of_mem _ z), List.set_comm _ _ (fun z => hn (by rw [z]; exact List.mem_cons_self))]
      rw [key e, List.set_set]
theorem isOwn_set {σ : St} {ρ : Rho} {i : Nat} {d : PyData} {v : Option L2.V} {b : Addr} (h : IsOwn (σ.set i v) (ρ.set i (.sh d)) b) : IsOwn σ ρ b := by
  obtain ⟨j, e, h1, h2⟩ := h
  have ne : i ≠ j := fun z => by
    subst z
    by_cases hi : i < ρ.length
    · rw [List.getElem?_set_self hi] at h1; cases h1
    · rw [List.getElem?_eq_none (by simpa using hi)] at h1; cases h1
  rw [List.getElem?_set_ne ne] at h1 h2
  exact ⟨j, e, h1, h2⟩
theorem pmg_name (i : Nat) {x : Str} (hN : X.N.Nodup) (hi : X.N[i]? = some x := by rfl) (hx : Loc X.env.scope x := by first | exact Or.inl rfl | exact Or.inr rfl) (hl : i ≠ F.ls ∨ F.lent = none := by first | exact Or.inr rfl | exact Or.inl (ne_ls rfl))
    (hf : X.fn x = true ∨ X.env.scope.names.lookup x = some .local := by first | exact .inl rfl | exact .inr rfl | assumption) : PMG X F (.Name x pos) [i] (setS i) := by
  refine PG.imp (pg_name hN hi hx hf) fun v σ H Q ⟨V, ρ, d, E, r, g⟩ => ?_
  unfold setS at g
  by_cases hlt : i < ρ.length
  · rw [if_pos hlt] at g
    exact g _ _ _ (E.setSh r hl) (Ext.refl E.sub) (fun vs hv => wipe_set (hv i (List.mem_singleton.mpr rfl))) (fun b hb => isOwn_set hb) fun j e hj q => by
      rw [List.getElem?_set_ne (fun z => hj (List.mem_singleton.mpr z.symm))] at q
      exact q
  · rw [if_neg hlt] at g
    exact False.elim g
def gsN : List PyData → Rho → R Rho := fun ds ρ => match ds with
  | [] => .ok ρ
  | _ => .bad
def gsC (g : GM) (gs : List PyData → Rho → R Rho) : List PyData → Rho → R Rho := fun ds ρ => match ds with
  | d :: ds => R.bind (g d ρ) fun ρ' => gs ds ρ'
  | [] => .bad
theorem pmgs_nil : PMGs X F [] [] gsN := by
  refine PGs.imp pgs_nil fun vs σ H Q ⟨V, ρ, ds, E, r, g⟩ => ?_
  cases r with
  | nil => exact ⟨rfl, g _ _ _ E (Ext.refl E.sub) (fun _ _ => rfl) (fun _ h => h) fun _ _ _ h => h⟩
  | cons _ _ => exact False.elim g
theorem pmgs_cons {e : Expr} {es : List Expr} {is js : List Nat} {g : GM} {gs : List PyData → Rho → R Rho} (h1 : PMG X F e is g) (h2 : PMGs X F es js gs)
    (hs : (assignEach (e :: es) X.env).map (·.2) = assign e X.env :: (assignEach es X.env).map (·.2) := by rfl) : PMGs X F (e :: es) (is ++ js) (gsC g gs) := by
  refine PGs.imp (pgs_cons h1 h2 hs) fun vs σ H Q ⟨V, ρ, ds, E, r, g0⟩ => ?_
  cases r with
  | nil => exact False.elim g0
  | @cons v vs d ds r1 r2 =>
    refine ⟨v, vs, rfl, V, ρ, d, E, r1, ?_⟩
    have g0 : (match R.bind (g d ρ) fun ρ' => gs ds ρ' with
      | .ok ρ' => ∀ σ' H' V', EnvR X.kw F H' V' σ' ρ' → Ext H V H' V' → (∀ vs : List Nat, (∀ i ∈ is ++ js, i ∈ vs) → wipe σ' vs = wipe σ vs) → (∀ b, IsOwn σ' ρ' b → IsOwn σ ρ b) → (∀ (i : Nat) (d : PyData), i ∉ is ++ js → ρ'[i]? = some (.sh d) → ρ[i]? = some (.sh d)) → Q σ' H'
      | .exc _ => False
      | .bad => False) := g0
    cases e1 : g d ρ with
    | ok ρ1 =>
      rw [e1] at g0
      intro σ1 H1 V1 E1 x1 w1 o1 p1
      refine ⟨V1, ρ1, ds, E1, r2.mono x1.v, ?_⟩
      have g0 : (match gs ds ρ1 with
        | .ok ρ' => ∀ σ' H' V', EnvR X.kw F H' V' σ' ρ' → Ext H V H' V' → (∀ vs : List Nat, (∀ i ∈ is ++ js, i ∈ vs) → wipe σ' vs = wipe σ vs) → (∀ b, IsOwn σ' ρ' b → IsOwn σ ρ b) → (∀ (i : Nat) (d : PyData), i ∉ is ++ js → ρ'[i]? = some (.sh d) → ρ[i]? = some (.sh d)) → Q σ' H'
        | .exc _ => False
        | .bad => False) := g0
      cases e2 : gs ds ρ1 with
      | ok ρ2 =>
        rw [e2] at g0
        intro σ2 H2 V2 E2 x2 w2 o2 p2
        exact g0 σ2 H2 V2 E2 (x1.trans x2) (fun vs hv => (w2 vs fun i hi => hv i (List.mem_append_right _ hi)).trans (w1 vs fun i hi => hv i (List.mem_append_left _ hi))) (fun b hb => o1 b (o2 b hb)) fun i d hi q => p1 i d (fun z => hi (List.mem_append_left _ z)) (p2 i d (fun z => hi (List.mem_append_right _ z)) q)
      | exc c => rw [e2] at g0; exact g0
      | bad => rw [e2] at g0; exact g0
    | exc c => rw [e1] at g0; exact g0
    | bad => rw [e1] at g0; exact g0
/-- a tuple taken apart -/
def unT (gs : List PyData → Rho → R Rho) : GM := fun d ρ => match d with
  | .tuple ds => gs ds ρ
  | _ => .bad
theorem pmg_tup {es : List Expr} {k : Nat} {is : List Nat} {gs : List PyData → Rho → R Rho} {n : Nat} (h : PMGs X F es is gs) (hgn : ∀ ds ρ ρ', gs ds ρ = .ok ρ' → ds.length = n) (hc : X.calm = true := by rfl)
    (hn : (assignEach es X.env).length = n := by rfl) (hst : (assignEach es X.env).findIdx? (·.1) = none := by rfl) : PMG X F (.Tuple es k pos) is (unT gs) := by
  refine PG.imp (pg_tup hc h hn hst) fun v σ H Q ⟨V, ρ, d, E, r, g⟩ => ?_
  cases r with
  | @tup a xs ds ha ra =>
    have g : (match gs ds ρ with
      | .ok ρ' => ∀ σ' H' V', EnvR X.kw F H' V' σ' ρ' → Ext H V H' V' → (∀ vs : List Nat, (∀ i ∈ is, i ∈ vs) → wipe σ' vs = wipe σ vs) → (∀ b, IsOwn σ' ρ' b → IsOwn σ ρ b) → (∀ (i : Nat) (d : PyData), i ∉ is → ρ'[i]? = some (.sh d) → ρ[i]? = some (.sh d)) → Q σ' H'
      | .exc _ => False
      | .bad => False) := g
    refine ⟨a, xs, rfl, sqt E.sub ha, ?_, V, ρ, ds, E, ra, g⟩
    cases e : gs ds ρ with
    | ok ρ' => rw [ra.length]; exact hgn ds ρ ρ' e
    | exc c => rw [e] at g; exact False.elim g
    | bad => rw [e] at g; exact False.elim g
  | _ => exact False.elim g
/-- assignment -/
def asgO (a : M PyData) (g : GM) : SM := exO a fun d ρ => match g d ρ with
  | .ok ρ' => .nx ρ'
  | .exc c => .bad
  | .bad => .bad
theorem asg_goal {D : Ends} {is : List Nat} {g : GM} {d : PyData} {v : L2.V} (E : EnvR K F H V σ ρ) (r : Rep K V v d) (g1 : GoalS K F V (match g d ρ with
  | .ok ρ' => .nx ρ'
  | .exc c => .bad
  | .bad => .bad) D) : tGM K F is g v σ H D.nx := by
  refine ⟨V, ρ, d, E, r, ?_⟩
  cases e : g d ρ with
  | ok ρ' => rw [e] at g1; exact fun σ' H' V' E' x _ _ _ => g1 σ' H' V' E' x.v
  | exc c => rw [e] at g1; exact g1
  | bad => rw [e] at g1; exact g1
theorem pms_asg {tg e : Expr} {fa : M PyData} {is : List Nat} {g : GM} (he : PM X F e fa) (hg : PMG X F tg is g) (hs : swapsWithSole [tg] e pos.line X.env = pure false := by rfl) (hw : swappedStores [tg] e X.env = pure none := by rfl)
    (h1 : (assignEach [tg] X.env).map (·.2) = [assign tg X.env] := by rfl) : PMS X F (.Assign [tg] e pos) (asgO fa g) :=
  PS.imp (ps_asg he hg hs hw h1) fun D σ H ⟨V, ρ, E, g⟩ => ⟨V, ρ, E, Goal.ex g fun v d H1 V1 ρ1 st1 r1 g1 => asg_goal st1.env r1 g1⟩
theorem pms_set (i : Nat) {x : Str} {e : Expr} {fa : M PyData} {pos' : Pos} (he : PM X F e fa) (hN : X.N.Nodup) (hi : X.N[i]? = some x := by rfl) (hx : Loc X.env.scope x := by first | exact Or.inl rfl | exact Or.inr rfl) (hl : i ≠ F.ls ∨ F.lent = none := by first | exact Or.inr rfl | exact Or.inl (ne_ls rfl))
    (hs : swapsWith e (some (.Name x pos')) pos.line X.env = pure false := by rfl) (hf : X.fn x = true ∨ X.env.scope.names.lookup x = some .local := by first | exact .inl rfl | exact .inr rfl | assumption) :
    PMS X F (.Assign [.Name x pos'] e pos) (asgO fa (setS i)) := by
  refine PS.imp (ps_set hN hi hx he hs hf) fun D σ H ⟨V, ρ, E, g⟩ => ⟨V, ρ, E, Goal.ex g fun v d H1 V1 ρ1 st1 r1 g1 => ?_⟩
  unfold setS at g1
  by_cases hlt : i < ρ1.length
  · rw [if_pos hlt] at g1
    exact g1 _ _ _ (st1.env.setSh r1 hl) (Same.refl _)
  · rw [if_neg hlt] at g1
    exact False.elim g1
/-- a, b = x, y -/
def par2 (i j : Nat) (a : M (List PyData)) : SM := exO a fun ds ρ => match ds with
  | [x, y] => if i < ρ.length ∧ j < ρ.length then .nx ((ρ.set i (.sh x)).set j (.sh y)) else .bad
  | _ => .bad
theorem pms_par (i j : Nat) {x y : Str} {a b : Expr} {fs : M (List PyData)} {px py pt : Pos} {kt k2 pt2} (ha : PMA X F [a, b] fs) (hN : X.N.Nodup) (hi : X.N[i]? = some x := by rfl) (hj : X.N[j]? = some y := by rfl) (hij : i ≠ j := by decide)
    (hx : X.env.scope.names.lookup x = some .local := by rfl) (hy : X.env.scope.names.lookup y = some .local := by rfl) (hli : i ≠ F.ls ∨ F.lent = none := by first | exact Or.inr rfl | exact Or.inl (ne_ls rfl)) (hlj : j ≠ F.ls ∨ F.lent = none := by first | exact Or.inr rfl | exact Or.inl (ne_ls rfl))
    (hw : swappedStores [.Tuple [.Name x px, .Name y py] kt pt] (.Tuple [a, b] k2 pt2) X.env = pure (some [x, y]) := by rfl)
    (hs : swapsWithSole [.Tuple [.Name x px, .Name y py] kt pt] (.Tuple [a, b] k2 pt2) pos.line X.env = pure false := by rfl) (hc : X.calm = true := by rfl) :
    PMS X F (.Assign [.Tuple [.Name x px, .Name y py] kt pt] (.Tuple [a, b] k2 pt2) pos) (par2 i j fs) := by
  refine PS.imp (ps_par hc hN hi hj hij hx hy ha hw hs) fun D σ H ⟨V, ρ, E, g⟩ => ⟨V, ρ, E, Goal.ex g fun vs ds H1 V1 ρ1 st1 r1 g1 => ?_⟩
  cases r1 with
  | nil => exact False.elim g1
  | @cons v vs d ds r1 r2 =>
    cases r2 with
    | nil => exact False.elim g1
    | @cons v2 vs d2 ds r2 r3 =>
      cases r3 with
      | cons _ _ => exact False.elim g1
      | nil =>
        have g1 : GoalS X.kw F V1 (if i < ρ1.length ∧ j < ρ1.length then .nx ((ρ1.set i (.sh d)).set j (.sh d2)) else .bad) D := g1
        by_cases hlt : i < ρ1.length ∧ j < ρ1.length
        · rw [if_pos hlt] at g1
          exact ⟨v, v2, rfl, g1 _ _ _ ((st1.env.setSh r1 hli).setSh r2 hlj) (Same.refl _)⟩
        · rw [if_neg hlt] at g1
          exact False.elim g1
end
end DL
set_option Elab.async false
set_option linter.all false
set_option maxRecDepth 100000
set_option maxHeartbeats 1000000
namespace DL
open PySem PySem.Spec PyProof.Rows L2
variable [TabCtx]
/-- it walks ds, whatever comes beside what is seen at V -/
def ItD (K : KW) (J : It) (V : Hp) (ds : List PyData) : Prop := ∀ (i : Nat) (H' V' : Hp), Same V V' → Same V' H' →
  (∀ d, ds[i]? = some d → J.go i H' ∧ ∀ x H'', J.yld i H' x H'' → ∃ V'', Ext H' V' H'' V'' ∧ Rep K V'' x d) ∧ (i = ds.length → J.stop i H')
theorem ItD.mono {K : KW} {J : It} {V V1 : Hp} {ds : List PyData} (h : ItD K J V ds) (v : Same V V1) : ItD K J V1 ds := fun i H' V' s1 s2 => h i H' V' (v.trans s1) s2
def tI (K : KW) (F : Fr) (f : M (List PyData)) : TI := fun σ H R => ∃ V ρ, EnvR K F H V σ ρ ∧ Goal K F σ ρ H V (fun V' (J : It) ds => ItD K J V' ds) (f ρ) R
def PMI (X : Cx) (F : Fr) (tg iter : Expr) (f : M (List PyData)) : Prop := PI X tg iter (tI X.kw F f)
theorem PI.imp {X : Cx} {tg e : Expr} {t u : TI} (h : PI X tg e t) (i : ∀ σ H Q, u σ H Q → t σ H Q) : PI X tg e u := ⟨fun pins s σ H R I q => h.run pins s σ H R I (i σ H R q)⟩
def itL {K : KW} {a : Addr} {xs : List L2.V} {V : Hp} {ds : List PyData} (h : V a = some (.lst xs)) (r : RepL K V xs ds) : ItD K (Itl K a) V ds := by
  intro i H' V' s1 s2
  have hq : SqL K H' a xs := .inl (.inl (s2 _ _ (s1 _ _ h)))
  refine ⟨fun d hd => ?_, fun e => ⟨xs, hq, by rw [r.length, e]; exact Nat.le_refl _⟩⟩
  obtain ⟨v, h1, h2⟩ := r.get i hd
  refine ⟨⟨xs, v, hq, h1⟩, fun x H'' hy => ?_⟩
  obtain ⟨e, hy⟩ := hy
  subst e
  have e2 : v = x := Option.some.inj (h1.symm.trans (hy xs hq))
  subst e2
  exact ⟨V', Ext.refl s2, h2.mono s1⟩
def itT {K : KW} {a : Addr} {xs : List L2.V} {V : Hp} {ds : List PyData} (h : V a = some (.tup xs)) (r : RepL K V xs ds) : ItD K (Itt K a) V ds := by
  intro i H' V' s1 s2
  have hq : SqT K H' a xs := sqt s2 (s1 _ _ h)
  refine ⟨fun d hd => ?_, fun e => ⟨xs, hq, by rw [r.length, e]; exact Nat.le_refl _⟩⟩
  obtain ⟨v, h1, h2⟩ := r.get i hd
  refine ⟨⟨xs, v, hq, h1⟩, fun x H'' hy => ?_⟩
  obtain ⟨e, hy⟩ := hy
  subst e
  have e2 : v = x := Option.some.inj (h1.symm.trans (hy xs hq))
  subst e2
  exact ⟨V', Ext.refl s2, h2.mono s1⟩
def signD (c : Nat) : PyData := .str ⟨#[c]⟩
def itS {K : KW} {x : Str} {V : Hp} : ItD K (Its x) V (x.cps.toList.map signD) := by
  intro i H' V' s1 s2
  refine ⟨fun d hd => ?_, fun e => ?_⟩
  · rw [List.getElem?_map] at hd
    obtain ⟨c, hc, ed⟩ := Option.map_eq_some_iff.mp hd
    subst ed
    have hlt : i < x.cps.toList.length := (List.getElem?_eq_some_iff.mp hc).1
    refine ⟨by show i < x.cps.size; simpa using hlt, fun v H'' hy => ?_⟩
    obtain ⟨e, c', hc', ev⟩ := hy
    subst e ev
    have e2 : c = c' := by
      rw [← Array.getElem?_toList] at hc'
      exact Option.some.inj (hc.symm.trans hc')
    subst e2
    exact ⟨V', Ext.refl s2, .str _⟩
  · show x.cps.size ≤ i
    rw [e, List.length_map, Array.length_toList]
    exact Nat.le_refl _
def rangeD (lo : Int) (n : Nat) : List PyData := (List.range n).map fun i => .int (lo + (i : Nat))
def itR {K : KW} {lo : Int} {n : Nat} {V : Hp} : ItD K (Itr lo n) V (rangeD lo n) := by
  intro i H' V' s1 s2
  unfold rangeD
  refine ⟨fun d hd => ?_, fun e => ?_⟩
  · rw [List.getElem?_map] at hd
    obtain ⟨c, hc, ed⟩ := Option.map_eq_some_iff.mp hd
    obtain ⟨h1, h2⟩ := List.getElem?_eq_some_iff.mp hc
    rw [List.length_range] at h1
    rw [List.getElem_range] at h2
    subst h2 ed
    refine ⟨h1, fun v H'' hy => ?_⟩
    obtain ⟨e, ev⟩ := hy
    subst e ev
    exact ⟨V', Ext.refl s2, .int _⟩
  · show n ≤ i
    rw [e, List.length_map, List.length_range]
    exact Nat.le_refl _
/-- a list, a tuple, a text -/
def itemsD : PyData → Option (List PyData)
  | .list ds => some ds
  | .tuple ds => some ds
  | .str x => some (x.cps.toList.map signD)
  | _ => none
def seqI (a : M PyData) : M (List PyData) := M.bind a fun d => M.opt (itemsD d)
def iSeq (K : KW) (tl : TE) : TI := fun σ H R => tl σ H fun x H1 => (∃ a, x = .ref a ∧ (∃ xs, SqL K H1 a xs) ∧ R (Itl K a) H1) ∨ (∃ a, x = .ref a ∧ (∃ xs, SqT K H1 a xs) ∧ R (Itt K a) H1) ∨ ∃ z, x = .str z ∧ R (Its z) H1
section
variable {X : Cx} {F : Fr} {tg l e e2 : Expr} {pos : Pos} {fa fb : M PyData} {fs : M (List PyData)}
theorem pi_seq {tl : TE} (hl : PE X l tl) : PI X tg l (iSeq X.kw tl) := by
  refine ⟨fun pins s σ H R I h => ?_⟩
  refine thn (hl.run pins s σ H _ I h) fun v s1 ⟨x, H1, I1, r1, q1⟩ => ?_
  rcases q1 with ⟨a, e, ⟨xs, hq⟩, q⟩ | ⟨a, e, ⟨xs, hq⟩, q⟩ | ⟨z, e, q⟩
  · subst e
    cases r1
    obtain ⟨its, rv, p, hz⟩ := I1.list hq
    refine wpAny_pyIter_list p.isList ?_
    refine ⟨s1.heap.objs.size, [s1.heap.objs.size], _, _, H1, rfl, I1.kept (t' := s1.toks) fun b o e => Heap.get?_push_of_some _ e, turn_list a _, ⟨_, Heap.get?_push_size _ rfl, rfl, rfl⟩, fun b hb => ?_, q⟩
    have e : b = s1.heap.objs.size := by simpa using hb
    subst e
    exact I1.fpOk (Nat.le_refl _) (I1.hok.fresh (Nat.le_refl _))
  · subst e
    cases r1
    obtain ⟨its, rv, p, hz⟩ := I1.tuple hq
    refine wpAny_pyIter_tuple (show s1.heap.IsTuple a its.toArray from p) ?_
    refine ⟨s1.heap.objs.size, [s1.heap.objs.size], _, _, H1, rfl, I1.kept (t' := s1.toks) fun b o e => Heap.get?_push_of_some _ e, turn_tuple a _, ⟨_, Heap.get?_push_size _ rfl, rfl, rfl⟩, fun b hb => ?_, q⟩
    have e : b = s1.heap.objs.size := by simpa using hb
    subst e
    exact I1.fpOk (Nat.le_refl _) (I1.hok.fresh (Nat.le_refl _))
  · subst e
    obtain ⟨t, rfl⟩ := r1
    cases ha : z.cps.all (· < 128)
    · exact wpAny_pyIter_wide ha (pi_one (tk := s1.toks) I1 _ (turn_str _ z t "str_iterator" (.inr rfl)) ⟨_, Heap.get?_push_size _ rfl, rfl, rfl⟩ q)
    · exact wpAny_pyIter_ascii ha (pi_one (tk := s1.toks) I1 _ (turn_str _ z t "str_ascii_iterator" (.inl rfl)) ⟨_, Heap.get?_push_size _ rfl, rfl, rfl⟩ q)
theorem pmi_seq (h : PM X F l fa) : PMI X F tg l (seqI fa) := by
  refine PI.imp (pi_seq h) fun σ H R ⟨V, ρ, E, g0⟩ => ⟨V, ρ, E, Goal.bind g0 fun x dx H1 V1 ρ1 st1 r1 g1 => ?_⟩
  obtain ⟨z, ez, q⟩ := Goal.opt st1.env g1
  have s := st1.env.sub
  cases r1 with
  | @lst a xs ds ha ra => cases ez; exact .inl ⟨a, rfl, ⟨xs, .inl (.inl (s _ _ ha))⟩, q _ _ _ (Ext.refl s) (itL ha ra)⟩
  | @tup a xs ds ha ra => cases ez; exact .inr (.inl ⟨a, rfl, ⟨xs, sqt s ha⟩, q _ _ _ (Ext.refl s) (itT ha ra)⟩)
  | str x => cases ez; exact .inr (.inr ⟨x, rfl, q _ _ _ (Ext.refl s) itS⟩)
  | _ => cases ez
def rg1 : List PyData → Option (List PyData)
  | [.int j] => if -(2 ^ 62) ≤ j ∧ j < 2 ^ 62 then some (rangeD 0 j.toNat) else none
  | _ => none
def opI (g : List PyData → Option (List PyData)) (a : M (List PyData)) : M (List PyData) := M.bind a fun ds => M.opt (g ds)
theorem ite_someL {α : Type} {c : Prop} [Decidable c] {a z : α} (h : (if c then some a else none) = some z) : c ∧ a = z := by
  by_cases hc : c
  · rw [if_pos hc] at h; exact ⟨hc, Option.some.inj h⟩
  · rw [if_neg hc] at h; cases h
theorem pmi_range1 {p : Pos} (hm : X.mg "range" = none) (ha : PMA X F [e] fs) (hg : Gl X "range" := by rfl) (hs : starEach [e] X.env = [(false, eval e X.env)] := by rfl) : PMI X F tg (.Call (.Name "range" p) [e] [] pos) (opI rg1 fs) := by
  refine PI.imp (pi_range1 hg hm ha hs) fun σ H R ⟨V, ρ, E, g0⟩ => ⟨V, ρ, E, Goal.bind g0 fun x dx H1 V1 ρ1 st1 r1 g1 => ?_⟩
  obtain ⟨z, ez, q⟩ := Goal.opt st1.env g1
  cases r1 with
  | nil => cases ez
  | cons r1 r2 =>
    cases r2 with
    | cons _ _ => cases r1 <;> cases ez
    | nil =>
      cases r1 with
      | int j =>
        obtain ⟨h, rfl⟩ := ite_someL ez
        exact ⟨j, rfl, h.1, h.2, q _ _ _ (Ext.refl st1.env.sub) itR⟩
      | _ => cases ez
def zipD (a b : List PyData) : List PyData := (a.zip b).map fun p => .tuple [p.1, p.2]
def gZip : List PyData → Option (List PyData)
  | [.list a, .list b] => some (zipD a b)
  | [.tuple a, .tuple b] => some (zipD a b)
  | _ => none
theorem zipD_get {a b : List PyData} {i : Nat} {d : PyData} (h : (zipD a b)[i]? = some d) : ∃ x y, a[i]? = some x ∧ b[i]? = some y ∧ d = .tuple [x, y] := by
  unfold zipD at h
  rw [List.getElem?_map] at h
  obtain ⟨⟨x, y⟩, h1, h2⟩ := Option.map_eq_some_iff.mp h
  obtain ⟨h3, h4⟩ := List.getElem?_zip_eq_some.mp h1
  exact ⟨x, y, h3, h4, h2.symm⟩
theorem zipD_len {a b : List PyData} : (zipD a b).length = min a.length b.length := by
  unfold zipD
  rw [List.length_map, List.length_zip]
theorem itZ {K : KW} {a b : Addr} {xs ys : List L2.V} {V : Hp} {ds es : List PyData} (ha : V a = some (.lst xs)) (ra : RepL K V xs ds) (hb : V b = some (.lst ys)) (rb : RepL K V ys es) : ItD K (Itz K a b) V (zipD ds es) := by
  intro i H' V' s1 s2
  have q1 : SqL K H' a xs := .inl (.inl (s2 _ _ (s1 _ _ ha)))
  have q2 : SqL K H' b ys := .inl (.inl (s2 _ _ (s1 _ _ hb)))
  refine ⟨fun d hd => ?_, fun e => ⟨xs, ys, q1, q2, ?_⟩⟩
  · obtain ⟨x, y, hx, hy, rfl⟩ := zipD_get hd
    obtain ⟨v, h1, h2⟩ := ra.get i hx
    obtain ⟨u, h3, h4⟩ := rb.get i hy
    refine ⟨⟨xs, ys, v, u, q1, q2, h1, h3⟩, fun z H'' hyl => ?_⟩
    obtain ⟨T, x', y', rfl, hT, rfl, f1, f2⟩ := hyl
    have e1 : v = x' := Option.some.inj (h1.symm.trans (f1 xs q1))
    have e2 : u = y' := Option.some.inj (h3.symm.trans (f2 ys q2))
    subst e1 e2
    exact ⟨_, Ext.new s2 hT, new_tup s2 hT (.cons (h2.mono s1) (.cons (h4.mono s1) .nil))⟩
  · rw [zipD_len] at e
    rw [ra.length, rb.length]
    omega
theorem itZT {K : KW} {a b : Addr} {xs ys : List L2.V} {V : Hp} {ds es : List PyData} (ha : V a = some (.tup xs)) (ra : RepL K V xs ds) (hb : V b = some (.tup ys)) (rb : RepL K V ys es) : ItD K (RZ.ItzT K a b) V (zipD ds es) := by
  intro i H' V' s1 s2
  have q1 : SqT K H' a xs := sqt s2 (s1 _ _ ha)
  have q2 : SqT K H' b ys := sqt s2 (s1 _ _ hb)
  refine ⟨fun d hd => ?_, fun e => ⟨xs, ys, q1, q2, ?_⟩⟩
  · obtain ⟨x, y, hx, hy, rfl⟩ := zipD_get hd
    obtain ⟨v, h1, h2⟩ := ra.get i hx
    obtain ⟨u, h3, h4⟩ := rb.get i hy
    refine ⟨⟨xs, ys, v, u, q1, q2, h1, h3⟩, fun z H'' hyl => ?_⟩
    obtain ⟨T, x', y', rfl, hT, rfl, f1, f2⟩ := hyl
    have e1 : v = x' := Option.some.inj (h1.symm.trans (f1 xs q1))
    have e2 : u = y' := Option.some.inj (h3.symm.trans (f2 ys q2))
    subst e1 e2
    exact ⟨_, Ext.new s2 hT, new_tup s2 hT (.cons (h2.mono s1) (.cons (h4.mono s1) .nil))⟩
  · rw [zipD_len] at e
    rw [ra.length, rb.length]
    omega
theorem pmi_zip {elts : List Expr} {kk : Nat} {tpos p : Pos} (hm : X.mg "zip" = none) (ha : PMA X F [e, e2] fs) (hg : Gl X "zip" := by rfl) (hs : starEach [e, e2] X.env = (false, eval e X.env) :: starEach [e2] X.env := by rfl) (hpl : (backTo pos (starEach [e2] X.env)).any (·.1) = false := by rfl) :
    PMI X F (.Tuple elts kk tpos) (.Call (.Name "zip" p) [e, e2] [] pos) (opI gZip fs) := by
  refine PI.imp (RZ.pi_zipA hg hm ha hs hpl) fun σ H R ⟨V, ρ, E, g0⟩ => ⟨V, ρ, E, Goal.bind g0 fun x dx H1 V1 ρ1 st1 r1 g1 => ?_⟩
  obtain ⟨z, ez, q⟩ := Goal.opt st1.env g1
  have s := st1.env.sub
  cases r1 with
  | nil => cases ez
  | cons r1 r2 =>
    cases r2 with
    | nil => cases r1 <;> cases ez
    | cons r2 r3 =>
      cases r3 with
      | cons _ _ => cases r1 <;> cases r2 <;> cases ez
      | nil =>
        cases r1 with
        | @lst a xs ds ha ra =>
          cases r2 with
          | @lst b ys es hb rb => cases ez; exact ⟨a, b, xs, ys, rfl, .inl ⟨.inl (.inl (s _ _ ha)), .inl (.inl (s _ _ hb)), q _ _ _ (Ext.refl s) (itZ ha ra hb rb)⟩⟩
          | _ => cases ez
        | @tup a xs ds ha ra =>
          cases r2 with
          | @tup b ys es hb rb => cases ez; exact ⟨a, b, xs, ys, rfl, .inr ⟨sqt s ha, sqt s hb, q _ _ _ (Ext.refl s) (itZT ha ra hb rb)⟩⟩
          | _ => cases ez
        | _ => cases r2 <;> cases ez
end
def loopO (g : GM) (body : SM) : List PyData → Rho → O
  | [], ρ => .nx ρ
  | d :: ds, ρ => match g d ρ with
    | .ok ρ1 => (match body ρ1 with
      | .nx ρ2 => loopO g body ds ρ2
      | .ct ρ2 => loopO g body ds ρ2
      | .bk ρ2 => .nx ρ2
      | .rt x ρ2 => .rt x ρ2
      | .rf x ρ2 => .rf x ρ2
      | .exc c => .exc c
      | .bad => .bad)
    | .exc _ => .bad
    | .bad => .bad
def forO (a : M (List PyData)) (g : GM) (body : SM) : SM := exO a fun ds => loopO g body ds
section
variable {X : Cx} {F : Fr} {tg iter : Expr} {body : List Stmt} {pos : Pos} {fi : M (List PyData)} {is : List Nat} {g : GM} {fb : SM}
theorem pms_for (hp : PassesOwn (model X.prog X.w) X.A X.env X.xe) (hi : PMI X F tg iter fi) (hg : PMG X F tg is g) (hb : PMSs X F body fb) (hc : X.calm = true := by rfl)
    (hs : ∀ x, foldedSetIterable iter X.env x = pure x := by intro _; rfl) : PMS X F (.For tg iter body [] pos) (forO fi g fb) := by
  refine PS.imp (ps_for hp hc hi hg hb hs) fun D σ H ⟨V, ρ, E, g0⟩ => ⟨V, ρ, E, Goal.ex g0 fun J ds H1 V1 ρ1 st1 it g1 => ?_⟩
  refine ⟨fun i m σ' H' => m = ds.length - i ∧ i ≤ ds.length ∧ ∃ V' ρ', EnvR X.kw F H' V' σ' ρ' ∧ Same V1 V' ∧ GoalS X.kw F V' (loopO g fb (ds.drop i) ρ') D,
    ⟨ds.length, rfl, Nat.zero_le _, V1, ρ1, st1.env, Same.refl _, g1⟩, ?_⟩
  rintro i m σ' H' ⟨rfl, hle, V', ρ', E', sv, gl⟩
  obtain ⟨h1, h2⟩ := it i H' V' sv E'.sub
  by_cases hlt : i < ds.length
  · have hd : ds[i]? = some ds[i] := List.getElem?_eq_getElem hlt
    obtain ⟨go, yl⟩ := h1 _ hd
    rw [List.drop_eq_getElem_cons hlt] at gl
    refine .inr ⟨go, fun σ2 H2 => ∃ V2 ρ2, EnvR X.kw F H2 V2 σ2 ρ2 ∧ Same V1 V2 ∧ GoalS X.kw F V2 (loopO g fb (ds.drop (i + 1)) ρ2) D, fun σ2 H2 h => ⟨ds.length - (i + 1), by omega, rfl, hlt, h⟩, fun x H2 y => ?_⟩
    obtain ⟨V2, x2, r2⟩ := yl x H2 y
    refine ⟨V2, ρ', ds[i], E'.grow x2, r2, ?_⟩
    unfold loopO at gl
    cases eg : g ds[i] ρ' with
    | exc c => rw [eg] at gl; exact gl
    | bad => rw [eg] at gl; exact gl
    | ok ρ3 =>
      rw [eg] at gl
      intro σ3 H3 V3 E3 x3 _ _ _
      refine ⟨V3, ρ3, E3, ?_⟩
      have v3 : Same V' V3 := x2.v.trans x3.v
      have gl : GoalS X.kw F V' (match fb ρ3 with
        | .nx ρ2 => loopO g fb (ds.drop (i + 1)) ρ2
        | .ct ρ2 => loopO g fb (ds.drop (i + 1)) ρ2
        | .bk ρ2 => .nx ρ2
        | .rt x ρ2 => .rt x ρ2
        | .rf x ρ2 => .rf x ρ2
        | .exc c => .exc c
        | .bad => .bad) D := gl
      cases eb : fb ρ3 with
      | nx ρ4 => rw [eb] at gl; exact fun σ4 H4 V4 E4 v4 => ⟨V4, ρ4, E4, (sv.trans v3).trans v4, GoalS.mono (v3.trans v4) gl⟩
      | ct ρ4 => rw [eb] at gl; exact fun σ4 H4 V4 E4 v4 => ⟨V4, ρ4, E4, (sv.trans v3).trans v4, GoalS.mono (v3.trans v4) gl⟩
      | bk ρ4 => rw [eb] at gl; exact fun σ4 H4 V4 E4 v4 => gl σ4 H4 V4 E4 (v3.trans v4)
      | rt x ρ4 => rw [eb] at gl; exact fun v σ4 H4 V4 E4 v4 => gl v σ4 H4 V4 E4 (v3.trans v4)
      | rf x ρ4 => rw [eb] at gl; exact fun v σ4 H4 V4 E4 v4 => gl v σ4 H4 V4 E4 (v3.trans v4)
      | exc c => rw [eb] at gl; exact gl
      | bad => rw [eb] at gl; exact gl
  · have e : i = ds.length := by omega
    subst e
    rw [List.drop_length] at gl
    exact .inl ⟨h2 rfl, gl σ' H' V' E' (Same.refl _)⟩
end
end DL
set_option Elab.async false
set_option linter.all false
set_option maxRecDepth 100000
set_option maxHeartbeats 1000000
namespace DL
open PySem PySem.Spec PyProof.Rows L2
variable [TabCtx]
def start0 (n : Nat) (ds : List PyData) : Rho := ds.map .sh ++ List.replicate (n - ds.length) .no
/-- a def of k parameters, n slots -/
def fnRun (k n : Nat) (f : SM) (ds : List PyData) : R PyData := if ds.length = k then (match f (start0 n ds) with
  | .rt d _ => .ok d
  | .rf d _ => .ok d
  | .nx _ => .ok .none
  | .exc c => .exc c
  | _ => .bad) else .bad
def spF (K : KW) (n : Nat) (m : List PyData → R PyData) : Sp := fun vs H Q E => vs.length = n ∧ ∃ V ds, TabV H V ∧ Same V H ∧ RepL K V vs ds ∧ match m ds with
  | .ok d => ∀ v H' V', Ext H V H' V' → Rep K V' v d → Q v H'
  | .exc c => ∀ H' V', Ext H V H' V' → E (.ref (He.ga K c)) none H'
  | .bad => False
def FnD (P : Program) (w : World) (K : PySem.W.Frag) (mg : Str → Option Value) (base : Heap) (lvl : Nat) (x : Str) (ps : List Str) (m : List PyData → R PyData) : Prop :=
  ∃ fd, FnOk P w K mg base (L2N.CX P w) lvl (He.ga K x) fd ps (spF ⟨K, w⟩ ps.length m) ∧ Binds K fd ps [] ∧ PySem.W.keepIn K (.ref (He.ga K x)) = true ∧ mg x = some (.ref (He.ga K x)) ∧ ∀ ds, m ds ≠ .bad → ds.length = ps.length
theorem FnD.mono {P : Program} {w : World} {K : PySem.W.Frag} {mg : Str → Option Value} {base : Heap} {j k : Nat} {x : Str} {ps : List Str} {m : List PyData → R PyData} (F : FnD P w K mg base j x ps m) (h : j ≤ k) : FnD P w K mg base k x ps m := by
  obtain ⟨fd, h1, h2⟩ := F
  exact ⟨fd, h1.mono h, h2⟩
theorem start0_ob {n : Nat} {ds : List PyData} {i : Nat} {o : Ob} (h : (start0 n ds)[i]? = some (.ob o)) : False := by
  unfold start0 at h
  by_cases hi : i < ds.length
  · rw [List.getElem?_append_left (by simpa using hi), List.getElem?_map] at h
    obtain ⟨d', h1, h2⟩ := Option.map_eq_some_iff.mp h
    cases h2
  · rw [List.getElem?_append_right (by simpa using hi), List.getElem?_replicate] at h
    split at h <;> cases h
abbrev mkF (H V : Hp) (E : XK) : Fr := ⟨H, V, none, fun cls _ H' => E cls none H', 0, fun _ => False⟩
theorem repL_get {K : KW} {V : Hp} {vs : List L2.V} {ds : List PyData} (r : RepL K V vs ds) {n : Nat} {N : List Str} (hn : N.length = n) (hle : vs.length ≤ n) {H : Hp} {E : XK} (s : Same V H) (ht : TabV H V) : EnvR K (mkF H V E) H V (L2.start N vs) (start0 n ds) := by
  have hl := r.length
  refine ⟨by simp [L2.start, start0, hl, hn], Ext.refl s, fun i d h => ?_, fun i d h => ?_, fun i j a d e h => ?_, (fun a h => by cases h), ht, ObE.non fun i o h => start0_ob h⟩
  · unfold start0 at h
    unfold L2.start
    by_cases hi : i < ds.length
    · rw [List.getElem?_append_left (by simpa using hi), List.getElem?_map] at h
      obtain ⟨d', h1, h2⟩ := Option.map_eq_some_iff.mp h
      cases h2
      obtain ⟨v, h3, h4⟩ := r.get i h1
      exact ⟨v, by rw [List.getElem?_append_left (by rw [List.length_map]; omega), List.getElem?_map, h3]; rfl, h4⟩
    · rw [List.getElem?_append_right (by simpa using hi), List.getElem?_replicate] at h
      split at h <;> cases h
  · unfold start0 at h
    by_cases hi : i < ds.length
    · rw [List.getElem?_append_left (by simpa using hi), List.getElem?_map] at h
      obtain ⟨d', h1, h2⟩ := Option.map_eq_some_iff.mp h
      cases h2
    · rw [List.getElem?_append_right (by simpa using hi), List.getElem?_replicate] at h
      split at h <;> cases h
  · unfold start0 at h
    by_cases hi : i < ds.length
    · rw [List.getElem?_append_left (by simpa using hi), List.getElem?_map] at h
      obtain ⟨d', h1, h2⟩ := Option.map_eq_some_iff.mp h
      cases h2
    · rw [List.getElem?_append_right (by simpa using hi), List.getElem?_replicate] at h
      split at h <;> cases h
section
variable {P : Program} {w : World} {K : PySem.W.Frag} {mg : Str → Option Value} {base : Heap} {x : Str} {params : Arguments} {body : List Stmt} {scope : Scope} {fd : FuncData}
abbrev cxF (P : Program) (w : World) (K : PySem.W.Frag) (mg : Str → Option Value) (base : Heap) (N : List Str) (x : Str) (scope : Scope) (cdv : Value) (A : Around) (outer : List Env) (s : Shared) (H : Hp) (E : XK) : Cx := cxOf (L2N.CX P w) P w K mg base N x scope (He.ga K x) cdv A outer s H E
theorem tk_fn {N : List Str} {cdv : Value} {A : Around} {outer : List Env} {s : Shared} {H : Hp} {E : XK} {H0 V0 : Hp} {l : Option Addr} {n0 : Nat} {ob0 : Addr → Prop} : Tk (cxF P w K mg base N x scope cdv A outer s H E) ⟨H0, V0, l, fun cls _ H' => E cls none H', n0, ob0⟩ := by
  have t : L2N.Takes (cxF P w K mg base N x scope cdv A outer s H E) (fun cls d _ H' => E cls d H') := L2N.takes_of rfl rfl rfl rfl
  refine t.imp fun c d σ H' ⟨h1, h2⟩ => ?_
  rw [h1]
  exact h2
theorem fn_mk {N ps : List Str} {k : Nat} {f : SM} (D : FunD K x x params body scope [] [] (He.ga K x) fd) (hx : mg x = some (.ref (He.ga K x))) (S : FnScope N ps scope)
    (hbd : ∀ (kV doc pm : Value) (an : Option Addr) (cdv ct : Value) (us : List Value), us.length = ps.length → bindArgs (PySem.W.fnOf x x params body scope .none kV doc pm an cdv ct) ⟨us, []⟩ = pure (ps.zip us))
    (hps : ps.length ≤ N.length)
    (hb : ∀ (cdv : Value) (A : Around) (outer : List Env) (s : Shared) (H V : Hp) (E : XK), Room k (A.deeper (envOfC x scope s.heap.objs.size (He.ga K x) cdv)) → PMSs (cxF P w K mg base N x scope cdv A outer s H E) (mkF H V E) body f) :
    FnD P w K mg base (k + 1) x ps (fnRun ps.length N.length f) := by
  refine ⟨fd, D.ok (CX := L2N.CX P w) S (fun vs H Q E h => h.1) fun cdv A outer s H vs Q E hr h => ?_, D.bindsN hbd, D.kp, hx, fun ds h => ?_⟩
  · obtain ⟨hl, V, ds, ht, sv, r, g⟩ := h
    refine ⟨_, hb cdv A outer s H V E hr, V, start0 N.length ds, repL_get r rfl (by omega) sv ht, ?_⟩
    unfold fnRun at g
    rw [if_pos (by rw [← r.length]; exact hl)] at g
    show GoalS ⟨K, w⟩ (mkF H V E) V (f (start0 N.length ds)) _
    cases e : f (start0 N.length ds) with
    | rt d ρ' => rw [e] at g; exact fun v σ' H' V' E' _ r' => g v H' V' E'.ext r'
    | rf d ρ' => rw [e] at g; exact fun v σ' H' V' E' _ r' _ => g v H' V' E'.ext r'
    | nx ρ' => rw [e] at g; exact fun σ' H' V' E' _ => g .non H' V' E'.ext .non
    | exc c => rw [e] at g; exact fun σ' H' V' x => g H' V' x
    | bk ρ' => rw [e] at g; exact False.elim g
    | ct ρ' => rw [e] at g; exact False.elim g
    | bad => rw [e] at g; exact False.elim g
  · unfold fnRun at h
    by_cases hl : ds.length = ps.length
    · exact hl
    · rw [if_neg hl] at h; exact absurd rfl h
end
section
variable {X : Cx} {F : Fr} {e : Expr} {es : List Expr} {fs : M (List PyData)} {pos p : Pos}
/-- f(..) -/
theorem pm_call {lvl : Nat} {x : Str} {ps : List Str} {m : List PyData → R PyData} (G : FnD X.prog X.w X.K X.mg X.base lvl x ps m) (hr : Room lvl X.A) (tk : Tk X F) (ha : PMA X F (e :: es) fs) (hg : Gl X x := by rfl)
    (hdb : (x == ("__debug__" : Str)) = false := by decide) (he : starEach (e :: es) X.env = (false, eval e X.env) :: starEach es X.env := by rfl) (hpl : (backTo pos (starEach es X.env)).any (·.1) = false := by rfl) : PM X F (.Call (.Name x p) (e :: es) [] pos) (callM m fs) := by
  obtain ⟨fd, G1, G2, G3, G4, G5⟩ := G
  refine PE.imp (pe_callS G1 hr hg G4 G3 G2 (fun σ => L2N.passAt tk σ) ha hdb he hpl) fun σ H Q ⟨V, ρ, E, g0⟩ => ⟨V, ρ, E, Goal.bind g0 fun vs ds H1 V1 ρ1 st1 r1 g1 => ?_⟩
  unfold M.lift at g1
  cases em : m ds with
  | ok d =>
    rw [em] at g1
    refine ⟨by rw [r1.length]; exact G5 ds (by rw [em]; exact fun z => nomatch z), V1, ds, st1.env.tabs, st1.env.sub, r1, ?_⟩
    rw [em]
    exact fun v H' V' x r => g1 v H' V' (st1.env.step x) r
  | exc c =>
    rw [em] at g1
    refine ⟨by rw [r1.length]; exact G5 ds (by rw [em]; exact fun z => nomatch z), V1, ds, st1.env.tabs, st1.env.sub, r1, ?_⟩
    rw [em]
    exact fun H' V' x => ⟨rfl, g1 H' V' (st1.env.ext.trans x)⟩
  | bad => rw [em] at g1; exact False.elim g1
end
def Fr.nox (F : Fr) : Fr := { F with W := fun _ _ _ => False }
theorem EnvR.nox {K : KW} {F : Fr} {H V : Hp} {σ : St} {ρ : Rho} (E : EnvR K F H V σ ρ) : EnvR K F.nox H V σ ρ := ⟨E.len, E.ext, E.sh, E.ow, E.dis, E.lent, E.tab, ⟨E.ob.at_, E.ob.dis⟩⟩
theorem EnvR.unnox {K : KW} {F : Fr} {H V : Hp} {σ : St} {ρ : Rho} (E : EnvR K F.nox H V σ ρ) : EnvR K F H V σ ρ := ⟨E.len, E.ext, E.sh, E.ow, E.dis, E.lent, E.tab, ⟨E.ob.at_, E.ob.dis⟩⟩
theorem Stp.unnox {K : KW} {F : Fr} {σ : St} {ρ ρ' : Rho} {H V H' V' : Hp} (s : Stp K F.nox σ ρ ρ' H V H' V') : Stp K F σ ρ ρ' H V H' V' := ⟨s.env.unnox, s.v, s.keep, s.own, s.shs, s.f, s.th⟩
theorem tk_nox {X : Cx} {F : Fr} : Tk X F.nox := L2N.Takes.imp takesN0 fun _ _ _ _ h => h.2
def wipeR (ρ : Rho) : List Nat → Rho
  | [] => ρ
  | v :: vs => (wipeR ρ vs).set v .no
def isOw : Option Sl → Bool
  | some (.ow _) => true
  | some (.ob _) => true
  | _ => false
def isOwn1 : Option Sl → Bool
  | some (.ow _) => true
  | _ => false
/-- the slots vs of ρ, the others of ρ' -/
def resR (ρ ρ' : Rho) : List Nat → Rho
  | [] => ρ'
  | v :: vs => (resR ρ ρ' vs).set v (ρ.getD v .no)
def lcLoop (vs : List Nat) (g : GM) (t : M Bool) (e : M PyData) : List PyData → Rho → List PyData → R (List PyData × Rho)
  | [], ρ, acc => .ok (acc, ρ)
  | d :: ds, ρ, acc => match g d (wipeR ρ vs) with
    | .ok ρ1 => (match t ρ1 with
      | .ok (true, ρ2) => (match e ρ2 with
        | .ok (y, ρ3) => if acc.length < LIM then lcLoop vs g t e ds ρ3 (acc ++ [y]) else .bad
        | _ => .bad)
      | .ok (false, ρ2) => lcLoop vs g t e ds ρ2 acc
      | _ => .bad)
    | _ => .bad
def lcM (vs : List Nat) (a : M (List PyData)) (g : GM) (t : M Bool) (e : M PyData) : M PyData := M.bind a fun ds ρ => if vs.any (fun i => isOw ρ[i]?) = true then .bad else (match lcLoop vs g t e ds ρ [] with
  | .ok (acc, ρ') => .ok (.list acc, resR ρ ρ' vs)
  | _ => .bad)
theorem wipeR_len (ρ : Rho) : ∀ vs, (wipeR ρ vs).length = ρ.length
  | [] => rfl
  | v :: vs => by unfold wipeR; rw [List.length_set, wipeR_len ρ vs]
theorem wipeR_some {ρ : Rho} {i : Nat} {s : Sl} : s ≠ .no → ∀ {vs : List Nat}, (wipeR ρ vs)[i]? = some s → ρ[i]? = some s ∧ i ∉ vs
  | hs, [], h => ⟨h, by simp⟩
  | hs, v :: vs, h => by
    unfold wipeR at h
    by_cases hi : v = i
    · subst hi
      by_cases hv : v < (wipeR ρ vs).length
      · rw [List.getElem?_set_self hv] at h; cases h; exact absurd rfl hs
      · rw [List.getElem?_eq_none (by simpa using hv)] at h; cases h
    · rw [List.getElem?_set_ne hi] at h
      obtain ⟨h1, h2⟩ := wipeR_some hs h
      exact ⟨h1, by simp only [List.mem_cons, not_or]; exact ⟨fun e => hi e.symm, h2⟩⟩
theorem wipeR_out {ρ : Rho} {i : Nat} : ∀ {vs : List Nat}, i ∉ vs → (wipeR ρ vs)[i]? = ρ[i]?
  | [], _ => rfl
  | v :: vs, h => by
    unfold wipeR
    rw [List.getElem?_set_ne (fun e => h (by rw [e]; exact List.mem_cons_self)), wipeR_out fun z => h (List.mem_cons_of_mem _ z)]
theorem wipe_outL {σ : St} {i : Nat} : ∀ {vs : List Nat}, i ∉ vs → (wipe σ vs)[i]? = σ[i]?
  | [], _ => rfl
  | v :: vs, h => by
    unfold wipe
    rw [List.getElem?_set_ne (fun e => h (by rw [e]; exact List.mem_cons_self)), wipe_outL fun z => h (List.mem_cons_of_mem _ z)]
theorem wipe_in {σ : St} {i : Nat} : ∀ {vs : List Nat}, i ∈ vs → i < σ.length → (wipe σ vs)[i]? = some none
  | v :: vs, h, hl => by
    unfold wipe
    by_cases e : v = i
    · subst e; exact List.getElem?_set_self (by rw [wipe_length]; exact hl)
    · rw [List.getElem?_set_ne e]
      rcases List.mem_cons.mp h with z | z
      · exact absurd z.symm e
      · exact wipe_in z hl
theorem wipe_wipe (σ : St) (vs : List Nat) : wipe (wipe σ vs) vs = wipe σ vs := by
  apply List.ext_getElem?
  intro i
  by_cases h : i ∈ vs
  · by_cases hl : i < σ.length
    · rw [wipe_in h (by rw [wipe_length]; exact hl), wipe_in h hl]
    · rw [List.getElem?_eq_none (by simp only [wipe_length]; omega), List.getElem?_eq_none (by simp only [wipe_length]; omega)]
  · rw [wipe_outL h]
theorem resR_len (ρ ρ' : Rho) : ∀ vs, (resR ρ ρ' vs).length = ρ'.length
  | [] => rfl
  | v :: vs => by unfold resR; rw [List.length_set, resR_len ρ ρ' vs]
theorem resR_out {ρ ρ' : Rho} {i : Nat} : ∀ {vs : List Nat}, i ∉ vs → (resR ρ ρ' vs)[i]? = ρ'[i]?
  | [], _ => rfl
  | v :: vs, h => by
    unfold resR
    rw [List.getElem?_set_ne (fun e => h (by rw [e]; exact List.mem_cons_self)), resR_out fun z => h (List.mem_cons_of_mem _ z)]
theorem resR_in {ρ ρ' : Rho} {i : Nat} : ∀ {vs : List Nat}, i ∈ vs → i < ρ'.length → (resR ρ ρ' vs)[i]? = some (ρ.getD i .no)
  | v :: vs, h, hl => by
    unfold resR
    by_cases e : v = i
    · subst e; exact List.getElem?_set_self (by rw [resR_len]; exact hl)
    · rw [List.getElem?_set_ne e]
      rcases List.mem_cons.mp h with z | z
      · exact absurd z.symm e
      · exact resR_in z hl
section
variable {K : KW} {F : Fr} {σ : St} {ρ ρ1 : Rho} {H V H1 V1 : Hp}
theorem EnvR.wipe (E : EnvR K F H V σ ρ) {vs : List Nat} (hl : F.ls ∉ vs ∨ F.lent = none) : EnvR K F H V (wipe σ vs) (wipeR ρ vs) := by
  refine ⟨by rw [wipe_length, wipeR_len, E.len], E.ext, fun i d h => ?_, fun i d h => ?_, fun i j a d e h1 h2 h3 h4 => ?_, fun a ha => ?_, E.tab, E.ob.sub fun i o h => by
    obtain ⟨h1, h2⟩ := wipeR_some (by intro z; cases z) h
    exact ⟨h1, wipe_outL h2⟩⟩
  · obtain ⟨h1, h2⟩ := wipeR_some (by intro z; cases z) h
    rw [wipe_outL h2]
    exact E.sh i d h1
  · obtain ⟨h1, h2⟩ := wipeR_some (by intro z; cases z) h
    rw [wipe_outL h2]
    exact E.ow i d h1
  · obtain ⟨h1, n1⟩ := wipeR_some (by intro z; cases z) h1
    obtain ⟨h2, n2⟩ := wipeR_some (by intro z; cases z) h2
    rw [wipe_outL n1] at h3
    rw [wipe_outL n2] at h4
    exact E.dis i j a d e h1 h2 h3 h4
  · rcases hl with hl | hl
    · rw [wipe_outL hl]; exact E.lent a ha
    · rw [hl] at ha; cases ha
theorem isOwn_wipe {vs : List Nat} {b : Addr} (h : IsOwn (L2.wipe σ vs) (wipeR ρ vs) b) : IsOwn σ ρ b := by
  obtain ⟨i, d, h1, h2⟩ := h
  obtain ⟨h1, n1⟩ := wipeR_some (by intro z; cases z) h1
  rw [wipe_outL n1] at h2
  exact ⟨i, d, h1, h2⟩
/-- a cell beside: not seen, of no slot -/
theorem EnvR.beside (E : EnvR K F H V σ ρ) {p : Addr} {o : HO} (hp : ∀ x, H p = some x → Plain x) (h1 : V p = none) (h2 : F.H0 p = none) (h3 : ¬ IsOwn σ ρ p) : EnvR K F (upd H p o) V σ ρ := by
  refine ⟨E.len, ⟨fun b x e n => ?_, E.ext.v, fun b x e => ?_, E.ext.f, fun b h => ?_, fun t => tabs_upd hp (E.ext.t t)⟩, E.sh, fun i d h => ?_, E.dis, E.lent, E.tab, E.ob⟩
  · rw [upd_ne (fun z => by rw [z, h2] at e; cases e)]; exact E.ext.h b x e n
  · rw [upd_ne (fun z => by rw [z, h1] at e; cases e)]; exact E.ext.s b x e
  · rw [upd_ne (fun z => h (by rw [z]; exact h2))]; exact E.ext.th b h
  · obtain ⟨a, q1, q2, q3, q4⟩ := E.ow i d h
    refine ⟨a, q1, q2, q3, q4.mono (Same.refl _) fun o e _ => ?_⟩
    rw [upd_ne (fun z => h3 ⟨i, d, h, by rw [← z]; exact q1⟩)]
    exact e
/-- .. that comes to be seen -/
theorem EnvR.show (E : EnvR K F H V σ ρ) {p : Addr} {o : HO} (h0 : H p = some o) (h1 : V p = none) (h2 : F.H0 p = none) (h3 : ¬ IsOwn σ ρ p) : EnvR K F H (upd V p o) σ ρ := by
  have sv : Same V (upd V p o) := same_new h1
  refine ⟨E.len, ⟨E.ext.h, E.ext.v.trans sv, fun b x e => ?_, fun b q1 q2 => ?_, E.ext.th, E.ext.t⟩, fun i d h => ?_, fun i d h => ?_, E.dis, E.lent, E.tab, E.ob⟩
  · by_cases hb : b = p
    · subst hb; rw [upd_same] at e; cases e; exact h0
    · rw [upd_ne hb] at e; exact E.ext.s b x e
  · rw [upd_ne (fun z => q2 (by rw [z]; exact h2))]; exact E.ext.f b q1 q2
  · obtain ⟨v, q1, q2⟩ := E.sh i d h
    exact ⟨v, q1, q2.mono sv⟩
  · obtain ⟨a, q1, q2, q3, q4⟩ := E.ow i d h
    exact ⟨a, q1, by rw [upd_ne (fun z => h3 ⟨i, d, h, by rw [← z]; exact q1⟩)]; exact q2, q3, q4.mono sv fun _ e _ => e⟩
theorem EnvR.restore (E : EnvR K F H V σ ρ) (E1 : EnvR K F H1 V1 (L2.wipe σ vs) (wipeR ρ1 vs)) (v : Same V V1) (hv : ∀ i ∈ vs, isOw ρ[i]? = false) : EnvR K F H1 V1 σ (resR ρ ρ1 vs) := by
  have l1 : σ.length = ρ1.length := by
    have := E1.len
    rw [wipe_length, wipeR_len] at this
    exact this
  have ob1 : ∀ (i : Nat) (o : Ob), (resR ρ ρ1 vs)[i]? = some (.ob o) → (wipeR ρ1 vs)[i]? = some (.ob o) ∧ σ[i]? = (L2.wipe σ vs)[i]? := fun i o h => by
    have hi : i ∉ vs := fun hi => by
      by_cases hl : i < ρ1.length
      · rw [resR_in hi hl] at h
        have h' : ρ.getD i .no = .ob o := Option.some.inj h
        rw [List.getD_eq_getElem?_getD] at h'
        have q0 := hv i hi
        cases q : ρ[i]? with
        | none => rw [q] at h'; cases h'
        | some s =>
          rw [q] at h' q0
          have h' : s = .ob o := h'
          subst h'
          cases q0
      · rw [List.getElem?_eq_none (by rw [resR_len]; omega)] at h; cases h
    rw [resR_out hi] at h
    exact ⟨by rw [wipeR_out hi]; exact h, (wipe_outL hi).symm⟩
  refine ⟨by rw [resR_len]; exact l1, E1.ext, fun i d h => ?_, fun i d h => ?_, fun i j a d e h1 h2 h3 h4 => ?_, E.lent, E.tab, E1.ob.sub ob1⟩
  · by_cases hi : i ∈ vs
    · by_cases hl : i < ρ1.length
      · rw [resR_in hi hl] at h
        have h' : ρ.getD i .no = .sh d := Option.some.inj h
        rw [List.getD_eq_getElem?_getD] at h'
        cases q : ρ[i]? with
        | none => rw [q] at h'; cases h'
        | some s =>
          rw [q] at h'
          have h' : s = .sh d := h'
          subst h'
          obtain ⟨x, q1, q2⟩ := E.sh i d q
          exact ⟨x, q1, q2.mono v⟩
      · rw [List.getElem?_eq_none (by rw [resR_len]; omega)] at h; cases h
    · rw [resR_out hi] at h
      obtain ⟨x, q1, q2⟩ := E1.sh i d (by rw [wipeR_out hi]; exact h)
      rw [wipe_outL hi] at q1
      exact ⟨x, q1, q2⟩
  · have hi : i ∉ vs := fun hi => by
      by_cases hl : i < ρ1.length
      · rw [resR_in hi hl] at h
        have h' : ρ.getD i .no = .ow d := Option.some.inj h
        rw [List.getD_eq_getElem?_getD] at h'
        have q := hv i hi
        cases q' : ρ[i]? with
        | none => rw [q'] at h'; cases h'
        | some s =>
          rw [q'] at h' q
          have h' : s = .ow d := h'
          subst h'
          cases q
      · rw [List.getElem?_eq_none (by rw [resR_len]; omega)] at h; cases h
    rw [resR_out hi] at h
    obtain ⟨x, q1, q2⟩ := E1.ow i d (by rw [wipeR_out hi]; exact h)
    rw [wipe_outL hi] at q1
    exact ⟨x, q1, q2⟩
  · have no : ∀ {i : Nat} {d : PyData}, (resR ρ ρ1 vs)[i]? = some (.ow d) → i ∉ vs := fun {i d} h hi => by
      by_cases hl : i < ρ1.length
      · rw [resR_in hi hl] at h
        have h' : ρ.getD i .no = .ow d := Option.some.inj h
        rw [List.getD_eq_getElem?_getD] at h'
        have q := hv i hi
        cases q' : ρ[i]? with
        | none => rw [q'] at h'; cases h'
        | some s =>
          rw [q'] at h' q
          have h' : s = .ow d := h'
          subst h'
          cases q
      · rw [List.getElem?_eq_none (by rw [resR_len]; omega)] at h; cases h
    have n1 := no h1
    have n2 := no h2
    rw [resR_out n1] at h1
    rw [resR_out n2] at h2
    exact E1.dis i j a d e (by rw [wipeR_out n1]; exact h1) (by rw [wipeR_out n2]; exact h2) (by rw [wipe_outL n1]; exact h3) (by rw [wipe_outL n2]; exact h4)
end
section
variable {X : Cx} {F : Fr}
def PMTs (X : Cx) (F : Fr) (ifs : List Expr) (f : M Bool) : Prop := PTs X ifs (tMT X.kw F f)
def yesT : M Bool := M.pure true
theorem PTs.imp {X : Cx} {e : List Expr} {t u : TT} (h : PTs X e t) (i : ∀ σ H Q, u σ H Q → t σ H Q) : PTs X e u := by
  obtain ⟨r⟩ := h
  exact ⟨fun pins s σ H Q I q => r pins s σ H Q I (i σ H Q q)⟩
theorem pmts_nil : PMTs X F [] yesT := PTs.imp pts_nil fun σ H Q ⟨V, ρ, E, g⟩ => Goal.pure0 E g rfl
theorem pmts_one {c : Expr} {ft : M Bool} (h : PMT X F c ft) : PMTs X F [c] ft := pts_one h
/-- what holds of a comprehension's new list at D, its values ys, data acc, within the block: slots σ', data ρ' -/
structure LI (K : KW) (F : Fr) (vs : List Nat) (σ : St) (ρ1 : Rho) (H1 V1 : Hp) (D : Addr) (σ' : St) (ρ' : Rho) (H' V' : Hp) (ys : List L2.V) (acc : List PyData) : Prop where
  env : EnvR K F H' V' σ' ρ'
  sv : Same V1 V'
  hD : H' D = some (.lst ys)
  rl : RepL K V' ys acc
  vD : V' D = none
  ho : ∀ b, IsOwn σ' ρ' b → IsOwn σ ρ1 b
  kp : ∀ b o, H1 b = some o → nT o → ¬ IsOwn σ ρ1 b → H' b = some o
  sh : ∀ (j : Nat) (d : PyData), j ∉ vs → ρ'[j]? = some (.sh d) → ρ1[j]? = some (.sh d)
  fr : ∀ b, V1 b = none → H1 b ≠ none → V' b = none
  th : ∀ b, H1 b ≠ none → H' b ≠ none
  nD : ¬ IsOwn σ ρ1 D
  h0 : F.H0 D = none
  h1 : H1 D = none
section
variable {K : KW} {F : Fr} {vs : List Nat} {σ : St} {ρ1 : Rho} {H1 V1 : Hp} {D : Addr} {σ' σ2 : St} {ρ' ρ2 : Rho} {H' V' H2 V2 : Hp} {ys : List L2.V} {acc : List PyData}
theorem LI.start (E : EnvR K F H1 V1 σ ρ1) (hD : H1 D = none) : LI K F vs σ ρ1 H1 V1 D σ ρ1 (upd H1 D (.lst [])) V1 [] [] where
  env := E.grow (Ext.hid E.sub hD)
  sv := Same.refl _
  hD := upd_same
  rl := .nil
  vD := E.sub.free hD
  ho := fun _ h => h
  kp := fun b o q _ _ => same_new hD b o q
  sh := fun _ _ _ q => q
  fr := fun _ q _ => q
  th := Same.th (same_new hD)
  nD := fun h => by
    obtain ⟨i, d, h1, h2⟩ := h
    obtain ⟨a, q1, q2, q3, q4⟩ := E.ow i d h1
    have e : a = D := by rw [h2] at q1; exact (L2.V.ref.inj (Option.some.inj (Option.some.inj q1))).symm
    obtain ⟨o, q5, _⟩ := q4.there
    rw [e, hD] at q5
    cases q5
  h0 := E.ext.free hD
  h1 := hD
theorem LI.someD (I : LI K F vs σ ρ1 H1 V1 D σ' ρ' H' V' ys acc) : H' D ≠ none := by rw [I.hD]; exact fun z => nomatch z
theorem LI.wipe (I : LI K F vs σ ρ1 H1 V1 D σ' ρ' H' V' ys acc) (ws : List Nat) (hl : F.ls ∉ ws ∨ F.lent = none) : LI K F vs σ ρ1 H1 V1 D (L2.wipe σ' ws) (wipeR ρ' ws) H' V' ys acc :=
  { I with env := I.env.wipe hl, ho := fun b h => I.ho b (isOwn_wipe h), sh := fun j d hj q => I.sh j d hj (wipeR_some (by intro z; cases z) q).1 }
theorem LI.ext (I : LI K F vs σ ρ1 H1 V1 D σ' ρ' H' V' ys acc) (x : Ext H' V' H2 V2) : LI K F vs σ ρ1 H1 V1 D σ' ρ' H2 V2 ys acc :=
  { I with env := I.env.grow x, sv := I.sv.trans x.v, hD := x.h _ _ I.hD plain_lst.t, rl := I.rl.mono x.v, vD := x.f D I.vD I.someD, kp := fun b o q n m => x.h _ _ (I.kp b o q n m) n, fr := fun b h1 h2 => x.f b (I.fr b h1 h2) (I.th b h2), th := fun b h => x.th b (I.th b h) }
theorem LI.tgt {is : List Nat} (I : LI K F vs σ ρ1 H1 V1 D σ' ρ' H' V' ys acc) (E : EnvR K F H2 V2 σ2 ρ2) (x : Ext H' V' H2 V2) (o : ∀ b, IsOwn σ2 ρ2 b → IsOwn σ' ρ' b) (p : ∀ (i : Nat) (d : PyData), i ∉ is → ρ2[i]? = some (.sh d) → ρ'[i]? = some (.sh d)) (his : ∀ i ∈ is, i ∈ vs) :
    LI K F vs σ ρ1 H1 V1 D σ2 ρ2 H2 V2 ys acc :=
  { I.ext x with env := E, ho := fun b h => I.ho b (o b h), sh := fun j d hj q => I.sh j d hj (p j d (fun z => hj (his j z)) q) }
theorem LI.stp (I : LI K F vs σ ρ1 H1 V1 D σ' ρ' H' V' ys acc) (s : Stp K F σ' ρ' ρ2 H' V' H2 V2) : LI K F vs σ ρ1 H1 V1 D σ' ρ2 H2 V2 ys acc where
  env := s.env
  sv := I.sv.trans s.v
  hD := s.keep _ _ I.hD plain_lst.t fun h => I.nD (I.ho D h)
  rl := I.rl.mono s.v
  vD := s.f D I.vD I.someD
  ho := fun b h => I.ho b (s.own b h)
  kp := fun b o q n m => s.keep b o (I.kp b o q n m) n fun h => m (I.ho b h)
  sh := fun j d hj q => I.sh j d hj (s.shs j d q)
  fr := fun b h1 h2 => s.f b (I.fr b h1 h2) (I.th b h2)
  th := fun b h => s.th b (I.th b h)
  nD := I.nD
  h0 := I.h0
  h1 := I.h1
theorem LI.app {y : L2.V} {d : PyData} (I : LI K F vs σ ρ1 H1 V1 D σ' ρ' H' V' ys acc) (r : Rep K V' y d) : LI K F vs σ ρ1 H1 V1 D σ' ρ' (upd H' D (.lst (ys ++ [y]))) V' (ys ++ [y]) (acc ++ [d]) := by
  refine ⟨I.env.beside (fun x e => by rw [I.hD] at e; cases e; exact plain_lst) I.vD I.h0 fun h => I.nD (I.ho D h), I.sv, upd_same, I.rl.append (.cons r .nil), I.vD, I.ho, fun b o q n m => ?_, I.sh, I.fr, fun b h => ?_, I.nD, I.h0, I.h1⟩
  · rw [upd_ne (fun z => by rw [z, I.h1] at q; cases q)]
    exact I.kp b o q n m
  · rw [upd_ne (fun z => h (by rw [z]; exact I.h1))]
    exact I.th b h
theorem resR_ow {ρ1 ρ' : Rho} {vs : List Nat} (hv : ∀ i ∈ vs, isOw ρ1[i]? = false) {j : Nat} {d : PyData} (h : (resR ρ1 ρ' vs)[j]? = some (.ow d)) : j ∉ vs := fun hj => by
  by_cases hl : j < ρ'.length
  · rw [resR_in hj hl] at h
    have h' : ρ1.getD j .no = .ow d := Option.some.inj h
    rw [List.getD_eq_getElem?_getD] at h'
    have q := hv j hj
    cases q' : ρ1[j]? with
    | none => rw [q'] at h'; cases h'
    | some s =>
      rw [q'] at h' q
      have h' : s = .ow d := h'
      subst h'
      cases q
  · rw [List.getElem?_eq_none (by rw [resR_len]; omega)] at h; cases h
/-- the list is done -/
theorem LI.done (E : EnvR K F H1 V1 σ ρ1) (I : LI K F vs σ ρ1 H1 V1 D (L2.wipe σ vs) (wipeR ρ' vs) H' V' ys acc) (hv : ∀ i ∈ vs, isOw ρ1[i]? = false) :
    Stp K F σ ρ1 (resR ρ1 ρ' vs) H1 V1 H' (upd V' D (.lst ys)) ∧ Rep K (upd V' D (.lst ys)) (.ref D) (.list acc) := by
  have nD : ¬ IsOwn (L2.wipe σ vs) (wipeR ρ' vs) D := fun h => I.nD (I.ho D h)
  have Es : EnvR K F H' (upd V' D (.lst ys)) (L2.wipe σ vs) (wipeR ρ' vs) := I.env.show I.hD I.vD I.h0 nD
  have svD : Same V' (upd V' D (.lst ys)) := same_new I.vD
  refine ⟨⟨E.restore Es (I.sv.trans svD) hv, I.sv.trans svD, I.kp, fun b h => ?_, fun j d q => ?_, fun b h1 h2 => ?_, I.th⟩, .lst upd_same (I.rl.mono svD)⟩
  · obtain ⟨j, d, h1, h2⟩ := h
    have nj := resR_ow hv h1
    rw [resR_out nj] at h1
    exact I.ho b ⟨j, d, by rw [wipeR_out nj]; exact h1, by rw [wipe_outL nj]; exact h2⟩
  · by_cases hj : j ∈ vs
    · by_cases hl : j < ρ'.length
      · rw [resR_in hj hl] at q
        have h' : ρ1.getD j .no = .sh d := Option.some.inj q
        rw [List.getD_eq_getElem?_getD] at h'
        cases q' : ρ1[j]? with
        | none => rw [q'] at h'; cases h'
        | some s =>
          rw [q'] at h'
          have h' : s = .sh d := h'
          rw [h']
      · rw [List.getElem?_eq_none (by rw [resR_len]; omega)] at q; cases q
    · rw [resR_out hj] at q
      exact I.sh j d hj (by rw [wipeR_out hj]; exact q)
  · rw [upd_ne (fun z => h2 (by rw [z]; exact I.h1))]
    exact I.fr b h1 h2
end
theorem lcM_run {vs : List Nat} {l : R (List PyData × Rho)} {K : KW} {σ : St} {ρ1 : Rho} {H1 V1 : Hp} {Q : VK} (g1 : Goal K F σ ρ1 H1 V1 (Rep K) (if (vs.any fun i => isOw ρ1[i]?) = true then .bad else (match l with
      | .ok (acc, ρ') => .ok (.list acc, resR ρ1 ρ' vs)
      | _ => .bad)) Q) : ∃ acc ρ', l = .ok (acc, ρ') ∧ (∀ i ∈ vs, isOw ρ1[i]? = false) ∧ ∀ b H' V', Stp K F σ ρ1 (resR ρ1 ρ' vs) H1 V1 H' V' → Rep K V' b (.list acc) → Q b H' := by
  by_cases hany : (vs.any fun i => isOw ρ1[i]?) = true
  · rw [if_pos hany] at g1
    exact False.elim g1
  · rw [if_neg hany] at g1
    have hv : ∀ i ∈ vs, isOw ρ1[i]? = false := fun i hi => by
      cases q : isOw ρ1[i]? with
      | false => rfl
      | true => exact absurd (List.any_eq_true.mpr ⟨i, hi, q⟩) hany
    cases l with
    | exc c => exact False.elim g1
    | bad => exact False.elim g1
    | ok pr =>
      obtain ⟨acc, ρ'⟩ := pr
      exact ⟨acc, ρ', rfl, hv, g1⟩
theorem lc_of {K : KW} {vs is : List Nat} {fi : M (List PyData)} {g : GM} {ft : M Bool} {fe : M PyData} (his : ∀ i ∈ is, i ∈ vs) (hl : F.ls ∉ vs ∨ F.lent = none) {σ : St} {H : Hp} {Q : VK} (h : tM K F (lcM vs fi g ft fe) σ H Q) :
    tLc (tI K F fi) (tGM K F.nox is g) (tMT K F.nox ft) (tM K F.nox fe) vs σ H Q := by
  obtain ⟨V, ρ, E, g0⟩ := h
  refine ⟨V, ρ, E, Goal.bind g0 fun J ds H1 V1 ρ1 st1 it g1 => fun D hD => ?_⟩
  obtain ⟨acc, ρ', hL, hv, q⟩ := lcM_run g1
  refine ⟨fun i m H' => m = ds.length - i ∧ i ≤ ds.length ∧ ∃ V' ρc ys accd, LI K F vs σ ρ1 H1 V1 D (L2.wipe σ vs) (wipeR ρc vs) H' V' ys accd ∧ lcLoop vs g ft fe (ds.drop i) ρc accd = .ok (acc, ρ'),
    ⟨ds.length, rfl, Nat.zero_le _, V1, ρ1, [], [], (LI.start st1.env hD).wipe vs hl, hL⟩, ?_⟩
  rintro i m H' ⟨rfl, hle, V', ρc, ys, accd, I, hE⟩
  obtain ⟨i1, i2⟩ := it i H' V' I.sv I.env.sub
  by_cases hlt : i < ds.length
  · obtain ⟨go, yl⟩ := i1 _ (List.getElem?_eq_getElem hlt)
    rw [List.drop_eq_getElem_cons hlt] at hE
    refine .inr ⟨go, fun H2 => ∃ V' ρc ys accd, LI K F vs σ ρ1 H1 V1 D (L2.wipe σ vs) (wipeR ρc vs) H2 V' ys accd ∧ lcLoop vs g ft fe (ds.drop (i + 1)) ρc accd = .ok (acc, ρ'), fun H2 h => ⟨ds.length - (i + 1), by omega, rfl, hlt, h⟩, fun x H2 y => ?_⟩
    obtain ⟨V2, x2, r2⟩ := yl x H2 y
    have I2 := I.ext x2
    refine ⟨V2, wipeR ρc vs, ds[i], I2.env.nox, r2, ?_⟩
    unfold lcLoop at hE
    cases eg : g ds[i] (wipeR ρc vs) with
    | exc c => rw [eg] at hE; cases hE
    | bad => rw [eg] at hE; cases hE
    | ok ρ3 =>
      rw [eg] at hE
      intro σ3 H3 V3 E3 x3 w3 o3 p3
      have ew : L2.wipe σ3 vs = L2.wipe σ vs := (w3 vs his).trans (wipe_wipe σ vs)
      have I3 := I2.tgt E3.unnox x3 o3 p3 his
      refine ⟨ew, V3, ρ3, E3, ?_⟩
      have hE : (match ft ρ3 with
        | .ok (true, ρ2) => (match fe ρ2 with
          | .ok (y, ρ3) => if accd.length < LIM then lcLoop vs g ft fe (ds.drop (i + 1)) ρ3 (accd ++ [y]) else .bad
          | _ => .bad)
        | .ok (false, ρ2) => lcLoop vs g ft fe (ds.drop (i + 1)) ρ2 accd
        | _ => .bad) = .ok (acc, ρ') := hE
      show Goal K F.nox σ3 ρ3 H3 V3 (fun _ (b : Bool) a => b = a) (ft ρ3) _
      cases et : ft ρ3 with
      | exc c => rw [et] at hE; cases hE
      | bad => rw [et] at hE; cases hE
      | ok pt =>
        obtain ⟨bt, ρ4⟩ := pt
        rw [et] at hE
        intro b' H4 V4 st4 eb
        subst eb
        have I4 := I3.stp st4.unnox
        cases b' with
        | false =>
          show if false = true then _ else _
          rw [if_neg Bool.false_ne_true]
          have I5 := I4.wipe vs hl
          rw [ew] at I5
          exact ⟨V4, ρ4, ys, accd, I5, hE⟩
        | true =>
          rw [if_pos rfl]
          refine ⟨V4, ρ4, st4.env, ?_⟩
          have hE : (match fe ρ4 with
            | .ok (y, ρ3) => if accd.length < LIM then lcLoop vs g ft fe (ds.drop (i + 1)) ρ3 (accd ++ [y]) else .bad
            | _ => .bad) = .ok (acc, ρ') := hE
          cases ee : fe ρ4 with
          | exc c => rw [ee] at hE; cases hE
          | bad => rw [ee] at hE; cases hE
          | ok pe =>
            obtain ⟨yd, ρ5⟩ := pe
            rw [ee] at hE
            have hE : (if accd.length < LIM then lcLoop vs g ft fe (ds.drop (i + 1)) ρ5 (accd ++ [yd]) else .bad) = .ok (acc, ρ') := hE
            intro yv H5 V5 st5 ry
            by_cases hlm : accd.length < LIM
            · rw [if_pos hlm] at hE
              have I5 := I4.stp st5.unnox
              have I6 := (I5.app ry).wipe vs hl
              rw [ew] at I6
              exact ⟨ys, I5.hD, by rw [I5.rl.length]; exact Nat.lt_trans hlm lim_lt, V5, ρ5, _, _, I6, hE⟩
            · rw [if_neg hlm] at hE; cases hE
  · have ei : i = ds.length := by omega
    subst ei
    rw [List.drop_length] at hE
    have hE : R.ok (accd, ρc) = R.ok (acc, ρ') := hE
    injection hE with hE
    injection hE with ea er
    subst ea er
    obtain ⟨s1, s2⟩ := LI.done st1.env I hv
    exact .inl ⟨i2 rfl, q _ _ _ s1 s2⟩
abbrev Blk (X : Cx) (scope : Scope) (P : Cx → Prop) : Prop := ∀ (s : Shared) (H : Hp) (C : Addr) (cl : List (Str × Addr)) (fp : List Addr), P (X.blk s H scope (compEnvC scope cl C X.env) fp)
theorem pm_lc {elt tg iter : Expr} {ifs : List Expr} {scope : Scope} {pos : Pos} {fi : M (List PyData)} {is : List Nat} {g : GM} {ft : M Bool} {fe : M PyData} (own : List (Str × Nat)) (hi : PMI X F tg iter fi) (ok : BlkOk X.N X.env.scope scope own) (hN : X.N.Nodup)
    (hg : Blk X scope fun Y => PMG Y F.nox tg is g) (ht : Blk X scope fun Y => PMTs Y F.nox ifs ft) (he : Blk X scope fun Y => PM Y F.nox elt fe)
    (his : ∀ i ∈ is, i ∈ own.map (·.2) := by decide) (hl : F.ls ∉ own.map (·.2) ∨ F.lent = none := by first | exact Or.inr rfl | exact Or.inl (nm_ls rfl)) (hc : X.calm = true := by rfl) (hs : ∀ x, foldedSetIterable iter X.env x = pure x := by intro _; rfl) :
    PM X F (.ListComp elt [⟨tg, iter, ifs, 0⟩] scope pos) (lcM (own.map (·.2)) fi g ft fe) :=
  PE.imp (pe_lc (g := tGM X.kw F.nox is g) (tt := tMT X.kw F.nox ft) (te := tM X.kw F.nox fe) hc hN hi ok hg ht he hs) fun _ _ _ h => lc_of his hl h
theorem asg_of {f : M PyData} {i : Nat} {D : Ends} {σ : St} {H : Hp} {K : KW} (hl : i ≠ F.ls ∨ F.lent = none) (h : tS K F (asgO f (setS i)) D σ H) : tM K F f σ H fun x H1 => gName i x σ H1 D.nx := by
  obtain ⟨V, ρ, E, g⟩ := h
  refine ⟨V, ρ, E, Goal.ex g fun v d H1 V1 ρ1 st1 r1 g1 => ?_⟩
  unfold setS at g1
  by_cases hlt : i < ρ1.length
  · rw [if_pos hlt] at g1
    exact g1 _ _ _ (st1.env.setSh r1 hl) (Same.refl _)
  · rw [if_neg hlt] at g1
    exact False.elim g1
theorem pms_setLc (i : Nat) {y : Str} {py spos : Pos} {elt tg iter : Expr} {ifs : List Expr} {scope : Scope} {pos : Pos} {fi : M (List PyData)} {is : List Nat} {g : GM} {ft : M Bool} {fe : M PyData} (own : List (Str × Nat)) (hi : PMI X F tg iter fi) (ok : BlkOk X.N X.env.scope scope own) (hN : X.N.Nodup)
    (hg : Blk X scope fun Y => PMG Y F.nox tg is g) (ht : Blk X scope fun Y => PMTs Y F.nox ifs ft) (he : Blk X scope fun Y => PM Y F.nox elt fe)
    (hy : X.N[i]? = some y := by rfl) (hyl : X.env.scope.names.lookup y = some .local := by rfl)
    (hsw : swapsWith (.ListComp elt [⟨tg, iter, ifs, 0⟩] scope pos) (some (.Name y py)) spos.line X.env = pure true := by exact sw_true rfl rfl rfl (by decide +kernel))
    (his : ∀ i ∈ is, i ∈ own.map (·.2) := by decide) (hl : F.ls ∉ own.map (·.2) ∨ F.lent = none := by first | exact Or.inr rfl | exact Or.inl (nm_ls rfl)) (hli : i ≠ F.ls ∨ F.lent = none := by first | exact Or.inr rfl | exact Or.inl (ne_ls rfl)) (hc : X.calm = true := by rfl) (hs : ∀ x, foldedSetIterable iter X.env x = pure x := by intro _; rfl) :
    PMS X F (.Assign [.Name y py] (.ListComp elt [⟨tg, iter, ifs, 0⟩] scope pos) spos) (asgO (lcM (own.map (·.2)) fi g ft fe) (setS i)) :=
  PS.imp (ps_setLc (g := tGM X.kw F.nox is g) (tt := tMT X.kw F.nox ft) (te := tM X.kw F.nox fe) hc hN hy hyl hsw hi ok hg ht he hs) fun _ _ _ h => lc_of his hl (asg_of hli h)
end
end DL
set_option Elab.async false
set_option linter.all false
set_option maxRecDepth 100000
set_option maxHeartbeats 1000000
namespace DL
open PySem PySem.Spec PyProof.Rows L2
variable [TabCtx]
def lcLoop2 (vs vs1 : List Nat) (g : GM) (t : M Bool) (fi1 : M (List PyData)) (g1 : GM) (t1 : M Bool) (e : M PyData) : List PyData → Rho → List PyData → R (List PyData × Rho)
  | [], ρ, acc => .ok (acc, ρ)
  | d :: ds, ρ, acc => match g d (wipeR ρ vs) with
    | .ok ρ1 => (match t ρ1 with
      | .ok (true, ρ2) => (match fi1 ρ2 with
        | .ok (ds1, ρ3) => (match lcLoop vs1 g1 t1 e ds1 ρ3 acc with
          | .ok (acc', ρ4) => lcLoop2 vs vs1 g t fi1 g1 t1 e ds ρ4 acc'
          | _ => .bad)
        | _ => .bad)
      | .ok (false, ρ2) => lcLoop2 vs vs1 g t fi1 g1 t1 e ds ρ2 acc
      | _ => .bad)
    | _ => .bad
def lcM2 (vs vs1 : List Nat) (a : M (List PyData)) (g : GM) (t : M Bool) (fi1 : M (List PyData)) (g1 : GM) (t1 : M Bool) (e : M PyData) : M PyData := M.bind a fun ds ρ => if vs.any (fun i => isOw ρ[i]?) = true then .bad else (match lcLoop2 vs vs1 g t fi1 g1 t1 e ds ρ [] with
  | .ok (acc, ρ') => .ok (.list acc, resR ρ ρ' vs)
  | _ => .bad)
theorem wipe_sub (σ : St) {vs ws : List Nat} (h : ∀ i ∈ ws, i ∈ vs) : L2.wipe (L2.wipe σ ws) vs = L2.wipe σ vs := by
  apply List.ext_getElem?
  intro i
  by_cases hi : i ∈ vs
  · by_cases hl : i < σ.length
    · rw [wipe_in hi (by rw [wipe_length]; exact hl), wipe_in hi hl]
    · rw [List.getElem?_eq_none (by simp only [wipe_length]; omega), List.getElem?_eq_none (by simp only [wipe_length]; omega)]
  · rw [wipe_outL hi, wipe_outL hi, wipe_outL fun z => hi (h i z)]
theorem wipeR_in {ρ : Rho} {i : Nat} : ∀ {vs : List Nat}, i ∈ vs → i < ρ.length → (wipeR ρ vs)[i]? = some .no
  | v :: vs, h, hl => by
    unfold wipeR
    by_cases e : v = i
    · subst e; exact List.getElem?_set_self (by rw [wipeR_len]; exact hl)
    · rw [List.getElem?_set_ne e]
      rcases List.mem_cons.mp h with z | z
      · exact absurd z.symm e
      · exact wipeR_in z hl
theorem wipeR_sub (ρ : Rho) {vs ws : List Nat} (h : ∀ i ∈ ws, i ∈ vs) : wipeR (wipeR ρ ws) vs = wipeR ρ vs := by
  apply List.ext_getElem?
  intro i
  by_cases hi : i ∈ vs
  · by_cases hl : i < ρ.length
    · rw [wipeR_in hi (by rw [wipeR_len]; exact hl), wipeR_in hi hl]
    · rw [List.getElem?_eq_none (by simp only [wipeR_len]; omega), List.getElem?_eq_none (by simp only [wipeR_len]; omega)]
  · rw [wipeR_out hi, wipeR_out hi, wipeR_out fun z => hi (h i z)]
section
variable {X : Cx} {F : Fr}
theorem lc2_of {K : KW} {vs vs1 is is1 : List Nat} {fi fi1 : M (List PyData)} {g g1 : GM} {ft ft1 : M Bool} {fe : M PyData} (his : ∀ i ∈ is, i ∈ vs) (his1 : ∀ i ∈ is1, i ∈ vs1) (hv1 : ∀ i ∈ vs1, i ∈ vs) (hl : F.ls ∉ vs ∨ F.lent = none) {σ : St} {H : Hp} {Q : VK} (h : tM K F (lcM2 vs vs1 fi g ft fi1 g1 ft1 fe) σ H Q) :
    tLc2 (tI K F fi) (tGM K F.nox is g) (tMT K F.nox ft) (tI K F.nox fi1) (tGM K F.nox is1 g1) (tMT K F.nox ft1) (tM K F.nox fe) vs vs1 σ H Q := by
  obtain ⟨V, ρ, E, g0⟩ := h
  refine ⟨V, ρ, E, Goal.bind g0 fun J ds H1 V1 ρ1 st1 it g1' => fun D hD => ?_⟩
  obtain ⟨acc, ρ', hL, hv, q⟩ := lcM_run g1'
  have hl1 : F.ls ∉ vs1 ∨ F.lent = none := hl.imp (fun h z => h (hv1 _ z)) id
  have LD : ∀ ds' ρ acc, lcLoop2 vs vs1 g ft fi1 g1 ft1 fe (ds' : List PyData) ρ acc = lcLoop2 vs vs1 g ft fi1 g1 ft1 fe ds' ρ acc := fun _ _ _ => rfl
  refine ⟨fun i m H' => m = ds.length - i ∧ i ≤ ds.length ∧ ∃ V' ρc ys accd, LI K F vs σ ρ1 H1 V1 D (L2.wipe σ vs) (wipeR ρc vs) H' V' ys accd ∧ lcLoop2 vs vs1 g ft fi1 g1 ft1 fe (ds.drop i) ρc accd = .ok (acc, ρ'),
    ⟨ds.length, rfl, Nat.zero_le _, V1, ρ1, [], [], (LI.start st1.env hD).wipe vs hl, hL⟩, ?_⟩
  rintro i m H' ⟨rfl, hle, V', ρc, ys, accd, I, hE⟩
  obtain ⟨i1, i2⟩ := it i H' V' I.sv I.env.sub
  by_cases hlt : i < ds.length
  · obtain ⟨go, yl⟩ := i1 _ (List.getElem?_eq_getElem hlt)
    rw [List.drop_eq_getElem_cons hlt] at hE
    refine .inr ⟨go, fun H2 => ∃ V' ρc ys accd, LI K F vs σ ρ1 H1 V1 D (L2.wipe σ vs) (wipeR ρc vs) H2 V' ys accd ∧ lcLoop2 vs vs1 g ft fi1 g1 ft1 fe (ds.drop (i + 1)) ρc accd = .ok (acc, ρ'), fun H2 h => ⟨ds.length - (i + 1), by omega, rfl, hlt, h⟩, fun x H2 y => ?_⟩
    obtain ⟨V2, x2, r2⟩ := yl x H2 y
    have I2 := I.ext x2
    refine ⟨V2, wipeR ρc vs, ds[i], I2.env.nox, r2, ?_⟩
    unfold lcLoop2 at hE
    cases eg : g ds[i] (wipeR ρc vs) with
    | exc c => rw [eg] at hE; cases hE
    | bad => rw [eg] at hE; cases hE
    | ok ρ3 =>
      rw [eg] at hE
      intro σ3 H3 V3 E3 x3 w3 o3 p3
      have ew : L2.wipe σ3 vs = L2.wipe σ vs := (w3 vs his).trans (wipe_wipe σ vs)
      have I3 := I2.tgt E3.unnox x3 o3 p3 his
      refine ⟨ew, V3, ρ3, E3, ?_⟩
      have hE : (match ft ρ3 with
        | .ok (true, ρ2) => (match fi1 ρ2 with
          | .ok (ds1, ρ3) => (match lcLoop vs1 g1 ft1 fe ds1 ρ3 accd with
            | .ok (acc', ρ4) => lcLoop2 vs vs1 g ft fi1 g1 ft1 fe (ds.drop (i + 1)) ρ4 acc'
            | _ => .bad)
          | _ => .bad)
        | .ok (false, ρ2) => lcLoop2 vs vs1 g ft fi1 g1 ft1 fe (ds.drop (i + 1)) ρ2 accd
        | _ => .bad) = .ok (acc, ρ') := hE
      show Goal K F.nox σ3 ρ3 H3 V3 (fun _ (b : Bool) a => b = a) (ft ρ3) _
      cases et : ft ρ3 with
      | exc c => rw [et] at hE; cases hE
      | bad => rw [et] at hE; cases hE
      | ok pt =>
        obtain ⟨bt, ρ4⟩ := pt
        rw [et] at hE
        intro b' H4 V4 st4 eb
        subst eb
        have I4 := I3.stp st4.unnox
        cases b' with
        | false =>
          show if false = true then _ else _
          rw [if_neg Bool.false_ne_true]
          have I5 := I4.wipe vs hl
          rw [ew] at I5
          exact ⟨V4, ρ4, ys, accd, I5, hE⟩
        | true =>
          rw [if_pos rfl]
          refine ⟨V4, ρ4, st4.env, ?_⟩
          have hE : (match fi1 ρ4 with
            | .ok (ds1, ρ3) => (match lcLoop vs1 g1 ft1 fe ds1 ρ3 accd with
              | .ok (acc', ρ4) => lcLoop2 vs vs1 g ft fi1 g1 ft1 fe (ds.drop (i + 1)) ρ4 acc'
              | _ => .bad)
            | _ => .bad) = .ok (acc, ρ') := hE
          cases ei : fi1 ρ4 with
          | exc c => rw [ei] at hE; cases hE
          | bad => rw [ei] at hE; cases hE
          | ok pi =>
            obtain ⟨ds1, ρ5⟩ := pi
            rw [ei] at hE
            have hE : (match lcLoop vs1 g1 ft1 fe ds1 ρ5 accd with
              | .ok (acc', ρ4) => lcLoop2 vs vs1 g ft fi1 g1 ft1 fe (ds.drop (i + 1)) ρ4 acc'
              | _ => .bad) = .ok (acc, ρ') := hE
            intro J1 H5 V5 st5 it1
            have I5 := I4.stp st5.unnox
            cases el : lcLoop vs1 g1 ft1 fe ds1 ρ5 accd with
            | exc c => rw [el] at hE; cases hE
            | bad => rw [el] at hE; cases hE
            | ok pl =>
              obtain ⟨acc', ρ6⟩ := pl
              rw [el] at hE
              have hE : lcLoop2 vs vs1 g ft fi1 g1 ft1 fe (ds.drop (i + 1)) ρ6 acc' = .ok (acc, ρ') := hE
              refine ⟨fun j k H' => k = ds1.length - j ∧ j ≤ ds1.length ∧ ∃ V' ρc ys accd, LI K F vs σ ρ1 H1 V1 D (L2.wipe σ3 vs1) (wipeR ρc vs1) H' V' ys accd ∧ Same V5 V' ∧ lcLoop vs1 g1 ft1 fe (ds1.drop j) ρc accd = .ok (acc', ρ6),
                ⟨ds1.length, rfl, Nat.zero_le _, V5, ρ5, ys, accd, I5.wipe vs1 hl1, Same.refl _, el⟩, ?_⟩
              rintro j k Hj ⟨rfl, hlj, Vj, ρj, yj, aj, Ij, svj, ej⟩
              obtain ⟨j1, j2⟩ := it1 j Hj Vj svj Ij.env.sub
              by_cases hltj : j < ds1.length
              · obtain ⟨go1, yl1⟩ := j1 _ (List.getElem?_eq_getElem hltj)
                rw [List.drop_eq_getElem_cons hltj] at ej
                refine .inr ⟨go1, fun H2 => ∃ V' ρc ys accd, LI K F vs σ ρ1 H1 V1 D (L2.wipe σ3 vs1) (wipeR ρc vs1) H2 V' ys accd ∧ Same V5 V' ∧ lcLoop vs1 g1 ft1 fe (ds1.drop (j + 1)) ρc accd = .ok (acc', ρ6), fun H2 h => ⟨ds1.length - (j + 1), by omega, rfl, hltj, h⟩, fun xj H6 yyj => ?_⟩
                obtain ⟨V6, x6, r6⟩ := yl1 xj H6 yyj
                have I6 := Ij.ext x6
                refine ⟨V6, wipeR ρj vs1, ds1[j], I6.env.nox, r6, ?_⟩
                unfold lcLoop at ej
                cases eg1 : g1 ds1[j] (wipeR ρj vs1) with
                | exc c => rw [eg1] at ej; cases ej
                | bad => rw [eg1] at ej; cases ej
                | ok ρ7 =>
                  rw [eg1] at ej
                  intro σ7 H7 V7 E7 x7 w7 o7 p7
                  have ew7 : L2.wipe σ7 vs1 = L2.wipe σ3 vs1 := (w7 vs1 his1).trans (wipe_wipe σ3 vs1)
                  have I7 := I6.tgt E7.unnox x7 o7 p7 (fun i hi => hv1 i (his1 i hi))
                  have sv7 : Same V5 V7 := (svj.trans x6.v).trans x7.v
                  refine ⟨ew7, V7, ρ7, E7, ?_⟩
                  have ej : (match ft1 ρ7 with
                    | .ok (true, ρ2) => (match fe ρ2 with
                      | .ok (y, ρ3) => if aj.length < LIM then lcLoop vs1 g1 ft1 fe (ds1.drop (j + 1)) ρ3 (aj ++ [y]) else .bad
                      | _ => .bad)
                    | .ok (false, ρ2) => lcLoop vs1 g1 ft1 fe (ds1.drop (j + 1)) ρ2 aj
                    | _ => .bad) = .ok (acc', ρ6) := ej
                  show Goal K F.nox σ7 ρ7 H7 V7 (fun _ (b : Bool) a => b = a) (ft1 ρ7) _
                  cases et1 : ft1 ρ7 with
                  | exc c => rw [et1] at ej; cases ej
                  | bad => rw [et1] at ej; cases ej
                  | ok pt1 =>
                    obtain ⟨bt1, ρ8⟩ := pt1
                    rw [et1] at ej
                    intro b1 H8 V8 st8 eb1
                    subst eb1
                    have I8 := I7.stp st8.unnox
                    cases b1 with
                    | false =>
                      show if false = true then _ else _
                      rw [if_neg Bool.false_ne_true]
                      have I9 := I8.wipe vs1 hl1
                      rw [ew7] at I9
                      exact ⟨V8, ρ8, yj, aj, I9, sv7.trans st8.v, ej⟩
                    | true =>
                      rw [if_pos rfl]
                      refine ⟨V8, ρ8, st8.env, ?_⟩
                      have ej : (match fe ρ8 with
                        | .ok (y, ρ3) => if aj.length < LIM then lcLoop vs1 g1 ft1 fe (ds1.drop (j + 1)) ρ3 (aj ++ [y]) else .bad
                        | _ => .bad) = .ok (acc', ρ6) := ej
                      cases ee : fe ρ8 with
                      | exc c => rw [ee] at ej; cases ej
                      | bad => rw [ee] at ej; cases ej
                      | ok pe =>
                        obtain ⟨yd, ρ9⟩ := pe
                        rw [ee] at ej
                        have ej : (if aj.length < LIM then lcLoop vs1 g1 ft1 fe (ds1.drop (j + 1)) ρ9 (aj ++ [yd]) else .bad) = .ok (acc', ρ6) := ej
                        intro yv H9 V9 st9 ry
                        by_cases hlm : aj.length < LIM
                        · rw [if_pos hlm] at ej
                          have I9 := I8.stp st9.unnox
                          have I10 := (I9.app ry).wipe vs1 hl1
                          rw [ew7] at I10
                          exact ⟨yj, I9.hD, by rw [I9.rl.length]; exact Nat.lt_trans hlm lim_lt, V9, ρ9, _, _, I10, (sv7.trans st8.v).trans st9.v, ej⟩
                        · rw [if_neg hlm] at ej; cases ej
              · have ejj : j = ds1.length := by omega
                subst ejj
                rw [List.drop_length] at ej
                have ej : R.ok (aj, ρj) = R.ok (acc', ρ6) := ej
                injection ej with ej
                injection ej with ea er
                subst ea er
                have I6 := Ij.wipe vs hl
                rw [wipe_sub σ3 hv1, wipeR_sub ρj hv1, ew] at I6
                exact .inl ⟨j2 rfl, Vj, ρj, yj, aj, I6, hE⟩
  · have ei : i = ds.length := by omega
    subst ei
    rw [List.drop_length] at hE
    have hE : R.ok (accd, ρc) = R.ok (acc, ρ') := hE
    injection hE with hE
    injection hE with ea er
    subst ea er
    obtain ⟨s1, s2⟩ := LI.done st1.env I hv
    exact .inl ⟨i2 rfl, q _ _ _ s1 s2⟩
theorem pm_lc2 {elt tg iter tg1 iter1 : Expr} {ifs ifs1 : List Expr} {scope : Scope} {pos : Pos} {fi fi1 : M (List PyData)} {is is1 : List Nat} {g g1 : GM} {ft ft1 : M Bool} {fe : M PyData} (own : List (Str × Nat)) (vs1 : List Nat) (hi : PMI X F tg iter fi) (ok : BlkOk X.N X.env.scope scope own) (hN : X.N.Nodup)
    (hg : Blk X scope fun Y => PMG Y F.nox tg is g) (ht : Blk X scope fun Y => PMTs Y F.nox ifs ft) (hi1 : Blk X scope fun Y => PMI Y F.nox tg1 iter1 fi1) (hg1 : Blk X scope fun Y => PMG Y F.nox tg1 is1 g1) (ht1 : Blk X scope fun Y => PMTs Y F.nox ifs1 ft1) (he : Blk X scope fun Y => PM Y F.nox elt fe)
    (his : ∀ i ∈ is, i ∈ own.map (·.2) := by decide) (his1 : ∀ i ∈ is1, i ∈ vs1 := by decide) (hv1 : ∀ i ∈ vs1, i ∈ own.map (·.2) := by decide) (hl : F.ls ∉ own.map (·.2) ∨ F.lent = none := by first | exact Or.inr rfl | exact Or.inl (nm_ls rfl)) (hc : X.calm = true := by rfl) (hs : ∀ x, foldedSetIterable iter X.env x = pure x := by intro _; rfl) (hs1 : ∀ env x, foldedSetIterable iter1 env x = pure x := by intro _ _; rfl) :
    PM X F (.ListComp elt [⟨tg, iter, ifs, 0⟩, ⟨tg1, iter1, ifs1, 0⟩] scope pos) (lcM2 (own.map (·.2)) vs1 fi g ft fi1 g1 ft1 fe) :=
  PE.imp (pe_lc2 (wi1 := tI X.kw F.nox fi1) (g := tGM X.kw F.nox is g) (tt := tMT X.kw F.nox ft) (g1 := tGM X.kw F.nox is1 g1) (tt1 := tMT X.kw F.nox ft1) (te := tM X.kw F.nox fe) hc hN hi ok hv1 hg ht hi1 hg1 ht1 he hs hs1) fun _ _ _ h => lc2_of his his1 hv1 hl h
end
end DL
set_option Elab.async false
set_option linter.all false
set_option maxRecDepth 100000
set_option maxHeartbeats 1000000
namespace DL
open PySem PySem.Spec PyProof.Rows L2
variable [TabCtx]
section
variable {K : KW} {F : Fr} {σ : St} {ρ ρ1 : Rho} {H V H1 V1 : Hp}
theorem getElem_set_some {α : Type} {l : List α} {i j : Nat} {x y : α} (h : (l.set i x)[j]? = some y) : (i = j ∧ x = y ∧ i < l.length) ∨ (i ≠ j ∧ l[j]? = some y) := by
  by_cases e : i = j
  · subst e
    by_cases hi : i < l.length
    · rw [List.getElem?_set_self hi] at h
      exact .inl ⟨rfl, Option.some.inj h, hi⟩
    · rw [List.getElem?_eq_none (by simpa using hi)] at h; cases h
  · rw [List.getElem?_set_ne e] at h
    exact .inr ⟨e, h⟩
/-- a slot is given a new own thing -/
theorem EnvR.setOw (E : EnvR K F H V σ ρ) {i : Nat} {p : Addr} {o : HO} {d : PyData} (hp : H p = none) (r : OwnAt K V (upd H p o) p d) (hl : i ≠ F.ls ∨ F.lent = none) : EnvR K F (upd H p o) V (σ.set i (some (.ref p))) (ρ.set i (.ow d)) := by
  have hlen := E.len
  have E1 := E.grow (Ext.hid (o := o) E.sub hp)
  have np : ∀ {j : Nat} {e : PyData} {a : Addr}, ρ[j]? = some (.ow e) → σ[j]? = some (some (.ref a)) → a ≠ p := fun {j e a} h1 h2 z => by
    obtain ⟨b, q1, q2, q3, q4⟩ := E.ow j e h1
    rw [h2] at q1
    cases q1
    obtain ⟨o, q5, _⟩ := q4.there
    rw [z, hp] at q5
    cases q5
  refine ⟨by simp [hlen], E1.ext, fun j e h => ?_, fun j e h => ?_, fun j k a e e' h1 h2 h3 h4 => ?_, fun a ha => ?_, E.tab, E.ob.set fun _ z => nomatch z⟩
  · rcases getElem_set_some h with ⟨_, q, _⟩ | ⟨n, q⟩
    · cases q
    · rw [List.getElem?_set_ne n]; exact E1.sh j e q
  · rcases getElem_set_some h with ⟨rfl, q, hi⟩ | ⟨n, q⟩
    · cases q
      exact ⟨p, List.getElem?_set_self (by omega), E.sub.free hp, E.ext.free hp, r⟩
    · rw [List.getElem?_set_ne n]; exact E1.ow j e q
  · rcases getElem_set_some h1 with ⟨rfl, _, _⟩ | ⟨n1, q1⟩
    · rcases getElem_set_some h2 with ⟨rfl, _, _⟩ | ⟨n2, q2⟩
      · rfl
      · rcases getElem_set_some h3 with ⟨_, q3, _⟩ | ⟨n3, _⟩
        · rcases getElem_set_some h4 with ⟨z, _, _⟩ | ⟨_, q4⟩
          · exact absurd z n2
          · exact absurd (L2.V.ref.inj (Option.some.inj q3)).symm (np q2 q4)
        · exact absurd rfl n3
    · rcases getElem_set_some h2 with ⟨rfl, _, _⟩ | ⟨n2, q2⟩
      · rcases getElem_set_some h4 with ⟨_, q4, _⟩ | ⟨n3, _⟩
        · rcases getElem_set_some h3 with ⟨z, _, _⟩ | ⟨_, q3⟩
          · exact absurd z n1
          · exact absurd (L2.V.ref.inj (Option.some.inj q4)).symm (np q1 q3)
        · exact absurd rfl n3
      · rw [List.getElem?_set_ne n1] at h3
        rw [List.getElem?_set_ne n2] at h4
        exact E.dis j k a e e' q1 q2 h3 h4
  · rcases hl with hl | hl
    · rw [List.getElem?_set_ne hl]; exact E.lent a ha
    · rw [hl] at ha; cases ha
/-- an own thing is changed -/
theorem EnvR.updOw (E : EnvR K F H V σ ρ) {i : Nat} {p : Addr} {o : HO} {d d' : PyData} (h0 : ρ[i]? = some (.ow d)) (h1 : σ[i]? = some (some (.ref p))) (r : OwnAt K V (upd H p o) p d') : EnvR K F (upd H p o) V σ (ρ.set i (.ow d')) := by
  obtain ⟨b, q1, q2, q3, q4⟩ := E.ow i d h0
  rw [h1] at q1
  cases q1
  refine ⟨by simp [E.len], ⟨fun b x e n => ?_, E.ext.v, fun b x e => ?_, E.ext.f, fun b h => ?_, fun t => tabs_upd q4.plain (E.ext.t t)⟩, fun j e h => ?_, fun j e h => ?_, fun j k a e e' h1' h2 h3 h4 => ?_, E.lent, E.tab, E.ob.setR fun _ z => nomatch z⟩
  · rw [upd_ne (fun z => by rw [z, q3] at e; cases e)]; exact E.ext.h b x e n
  · rw [upd_ne (fun z => by rw [z, q2] at e; cases e)]; exact E.ext.s b x e
  · rw [upd_ne (fun z => h (by rw [z]; exact q3))]; exact E.ext.th b h
  · rcases getElem_set_some h with ⟨_, q, _⟩ | ⟨n, q⟩
    · cases q
    · exact E.sh j e q
  · rcases getElem_set_some h with ⟨rfl, q, hi⟩ | ⟨n, q⟩
    · cases q
      exact ⟨p, h1, q2, q3, r⟩
    · obtain ⟨a, w1, w2, w3, w4⟩ := E.ow j e q
      refine ⟨a, w1, w2, w3, w4.mono (Same.refl _) fun o' e' _ => ?_⟩
      rw [upd_ne (fun z => n (by rw [z] at w1; exact E.dis i j p d e h0 q h1 w1))]
      exact e'
  · have f : ∀ {j : Nat} {e : PyData}, (ρ.set i (.ow d'))[j]? = some (.ow e) → ∃ e, ρ[j]? = some (.ow e) := fun {j e} h => by
      rcases getElem_set_some h with ⟨rfl, q, hi⟩ | ⟨n, q⟩
      · exact ⟨d, h0⟩
      · exact ⟨e, q⟩
    obtain ⟨e1, w1⟩ := f h1'
    obtain ⟨e2, w2⟩ := f h2
    exact E.dis j k a e1 e2 w1 w2 h3 h4
end
def ownO (i : Nat) (a : M (List PyData)) : SM := exO a fun ds ρ => if ds.length ≤ LIM then .nx (ρ.set i (.ow (.list ds))) else .bad
def appO (i : Nat) (a : M PyData) : SM := fun ρ => match ρ[i]? with
  | some (.ow (.list _)) => exO a (fun d ρ => match ρ[i]? with
    | some (.ow (.list ds)) => if ds.length < LIM then .nx (ρ.set i (.ow (.list (ds ++ [d])))) else .bad
    | _ => .bad) ρ
  | _ => .bad
/-- o[k] of an own list -/
def ixI (i : Nat) (a : M PyData) : M PyData := M.bind a fun k ρ => match ρ[i]?, k with
  | some (.ow (.list ds)), .int j => (match atD ds j with
    | some z => .ok (z, ρ)
    | none => .bad)
  | _, _ => .bad
def ixO (i : Nat) (a : M PyData) : M PyData := fun ρ => if isOwn1 ρ[i]? = true then ixI i a ρ else .bad
/-- o[k] = e of an own list -/
def sixI (i : Nat) (d : PyData) (k : M PyData) : SM := exO k fun j ρ => match ρ[i]?, j with
  | some (.ow (.list ds)), .int j => (match ixN ds.length j with
    | some n => .nx (ρ.set i (.ow (.list (ds.set n d))))
    | none => .bad)
  | _, _ => .bad
def sixO (i : Nat) (k a : M PyData) : SM := exO a fun d ρ => if isOwn1 ρ[i]? = true then sixI i d k ρ else .bad
section
variable {X : Cx} {F : Fr} {e k : Expr} {es : List Expr} {fa fk : M PyData} {fs : M (List PyData)} {pos : Pos}
theorem pms_own (i : Nat) {x : Str} {pos' posl : Pos} (ha : PMA X F es fs) (hN : X.N.Nodup) (hi : X.N[i]? = some x := by rfl) (hx : Loc X.env.scope x := by first | exact Or.inl rfl | exact Or.inr rfl) (hl : i ≠ F.ls ∨ F.lent = none := by first | exact Or.inr rfl | exact Or.inl (ne_ls rfl))
    (hs : swapsWith (.List es posl) (some (.Name x pos')) pos.line X.env = pure false := by rfl) (hf : X.fn x = true ∨ X.env.scope.names.lookup x = some .local := by first | exact .inl rfl | exact .inr rfl | assumption) :
    PMS X F (.Assign [.Name x pos'] (.List es posl) pos) (ownO i fs) := by
  refine PS.imp (ps_set hN hi hx (pe_lst ha) hs hf) fun D σ H ⟨V, ρ, E, g⟩ => ⟨V, ρ, E, Goal.ex g fun xs ds H1 V1 ρ1 st1 r1 g1 => ?_⟩
  by_cases hlm : ds.length ≤ LIM
  · have g1 : GoalS X.kw F V1 (if ds.length ≤ LIM then .nx (ρ1.set i (.ow (.list ds))) else .bad) D := g1
    rw [if_pos hlm] at g1
    refine ⟨by rw [r1.length]; exact Nat.le_trans hlm lim_le, fun p hp => ?_⟩
    exact g1 _ _ _ (st1.env.setOw hp ⟨xs, upd_same, r1⟩ hl) (Same.refl _)
  · have g1 : GoalS X.kw F V1 (if ds.length ≤ LIM then .nx (ρ1.set i (.ow (.list ds))) else .bad) D := g1
    rw [if_neg hlm] at g1
    exact False.elim g1
theorem pms_app (i : Nat) {x : Str} {px apos cpos : Pos} (ha : PM X F e fa) (hN : X.N[i]? = some x := by rfl) (hv : Vis X.env.scope x := by first | exact Or.inl rfl | exact Or.inr (Or.inl rfl) | exact Or.inr (Or.inr rfl)) (hd : (x == ("__debug__" : Str)) = false := by decide) (hcd : (x == ("__classdict__" : Str)) = false := by decide)
    (hbase : attributeBase (.Name x px) "append" X.env (eval (.Name x px) X.env) = eval (.Name x px) X.env := by rfl)
    (hfew : ((backTo cpos (starEach [e] X.env)).all (fun x => !x.1) && (backToKw cpos (keywordEach [] X.env)).all (fun x => x.1.isSome) && decide ([e].length + ([] : List Keyword).length + (if ([] : List Keyword).isEmpty then 0 else 1) < 30)) = true := by rfl)
    (hline : (apos.endLine == cpos.line) = true := by rfl) (hs : starEach [e] X.env = (false, eval e X.env) :: starEach [] X.env := by rfl) (hplain : (backTo cpos (starEach [] X.env)).any (·.1) = false := by rfl)
    (hsw : swapsWith (.Call (.Attribute (.Name x px) "append" apos) [e] [] cpos) none pos.line X.env = pure false := by rfl) :
    PMS X F (.Expr (.Call (.Attribute (.Name x px) "append" apos) [e] [] cpos) pos) (appO i fa) := by
  refine PS.imp (ps_expr (pe_bm PySem.F.plainAttrs_list PySem.F.slot_list_append PySem.F.type_list_append mt_append (pe_var hN hv hd hcd) (pa_cons ha pa_nil hs) hbase hfew hline hs hplain) hsw) fun D σ H ⟨V, ρ, E, g⟩ => ?_
  unfold appO at g
  cases eo : ρ[i]? with
  | none => rw [eo] at g; exact False.elim g
  | some s =>
    rw [eo] at g
    cases s with
    | no => exact False.elim g
    | ob _ => exact False.elim g
    | sh d => exact False.elim g
    | ow d =>
      cases d with
      | list ds0 =>
        obtain ⟨a, h1, h2, h3, xs0, h4, h5⟩ := E.ow i _ eo
        refine ⟨.ref a, h1, .inl ⟨rfl, xs0, .inl (.inl h4)⟩, V, ρ, E, Goal.ex g fun v d H1 V1 ρ1 st1 r1 g1 => ?_⟩
        cases eo1 : ρ1[i]? with
        | none => rw [eo1] at g1; exact False.elim g1
        | some s1 =>
          rw [eo1] at g1
          cases s1 with
          | no => exact False.elim g1
          | ob _ => exact False.elim g1
          | sh d => exact False.elim g1
          | ow d1 =>
            cases d1 with
            | list ds =>
              have g1 : GoalS X.kw F V1 (if ds.length < LIM then .nx (ρ1.set i (.ow (.list (ds ++ [d])))) else .bad) D := g1
              obtain ⟨a', q1, q2, q3, xs, q4, q5⟩ := st1.env.ow i _ eo1
              have ea : a' = a := by rw [h1] at q1; exact (L2.V.ref.inj (Option.some.inj (Option.some.inj q1))).symm
              subst ea
              by_cases hlm : ds.length < LIM
              · rw [if_pos hlm] at g1
                refine ⟨a', xs, v, rfl, rfl, q4, by rw [q5.length]; exact Nat.lt_trans hlm lim_lt, ?_⟩
                exact g1 _ _ _ (st1.env.updOw eo1 q1 ⟨_, upd_same, q5.append (.cons r1 .nil)⟩) (Same.refl _)
              · rw [if_neg hlm] at g1
                exact False.elim g1
            | _ => exact False.elim g1
      | _ => exact False.elim g
theorem pm_ixO (i : Nat) {x : Str} {px : Pos} (hk : PM X F k fk) (hN : X.N[i]? = some x := by rfl) (hv : Vis X.env.scope x := by first | exact Or.inl rfl | exact Or.inr (Or.inl rfl) | exact Or.inr (Or.inr rfl)) (hd : (x == ("__debug__" : Str)) = false := by decide) (hcd : (x == ("__classdict__" : Str)) = false := by decide)
    (hs : PlainIx k := by exact fun _ _ => rfl) : PM X F (.Subscript (.Name x px) k pos) (ixO i fk) := by
  refine PE.imp (pe_ix ix_list (pe_var hN hv hd hcd) hk hs) fun σ H Q ⟨V, ρ, E, g⟩ => ?_
  have g : Goal X.kw F σ ρ H V (Rep X.kw) (if isOwn1 ρ[i]? = true then ixI i fk ρ else .bad) Q := g
  by_cases hio : isOwn1 ρ[i]? = true
  · rw [if_pos hio] at g
    cases eo : ρ[i]? with
    | none => rw [eo] at hio; cases hio
    | some s =>
      cases s with
      | no => rw [eo] at hio; cases hio
      | ob _ => rw [eo] at hio; cases hio
      | sh d => rw [eo] at hio; cases hio
      | ow d0 =>
        obtain ⟨a, h1, h2, h3, h4⟩ := E.ow i _ eo
        refine ⟨.ref a, h1, V, ρ, E, Goal.bind g fun v d H1 V1 ρ1 st1 r1 g1 => ?_⟩
        cases eo1 : ρ1[i]? with
        | none => rw [eo1] at g1; exact False.elim g1
        | some s1 =>
          rw [eo1] at g1
          cases s1 with
          | no => exact False.elim g1
          | ob _ => exact False.elim g1
          | sh d => exact False.elim g1
          | ow d1 =>
            cases d1 with
            | list ds =>
              cases r1 with
              | int j =>
                have g1 : Goal X.kw F σ ρ1 H1 V1 (Rep X.kw) (match atD ds j with
                  | some z => .ok (z, ρ1)
                  | none => .bad) Q := g1
                obtain ⟨a', q1, q2, q3, xs, q4, q5⟩ := st1.env.ow i _ eo1
                have ea : a' = a := by rw [h1] at q1; exact (L2.V.ref.inj (Option.some.inj (Option.some.inj q1))).symm
                subst ea
                cases ez : atD ds j with
                | none => rw [ez] at g1; exact False.elim g1
                | some z =>
                  rw [ez] at g1
                  obtain ⟨u, w1, w2⟩ := atD_get q5 ez
                  exact ⟨a', xs, j, u, rfl, rfl, .inl (.inl q4), w1, g1 u H1 V1 st1.env.refl w2⟩
              | _ => exact False.elim g1
            | _ => exact False.elim g1
  · rw [if_neg hio] at g
    exact False.elim g
theorem pms_six (i : Nat) {x : Str} {px spos : Pos} (ha : PM X F e fa) (hk : PM X F k fk) (hN : X.N[i]? = some x := by rfl) (hv : Vis X.env.scope x := by first | exact Or.inl rfl | exact Or.inr (Or.inl rfl) | exact Or.inr (Or.inr rfl)) (hd : (x == ("__debug__" : Str)) = false := by decide) (hcd : (x == ("__classdict__" : Str)) = false := by decide)
    (has : ∀ v, assign (.Subscript (.Name x px) k spos) X.env v = (do
      let ov ← holding [v] (eval (.Name x px) X.env)
      let iv ← holding [v, ov] (eval k X.env)
      standAt spos
      holding [v, ov, iv] (setItem ov iv v)
      release [v, ov, iv] []) := by intro _; rfl) (hs : swapsWithSole [.Subscript (.Name x px) k spos] e pos.line X.env = pure false := by rfl) (hw : swappedStores [.Subscript (.Name x px) k spos] e X.env = pure none := by rfl)
    (h1 : (assignEach [.Subscript (.Name x px) k spos] X.env).map (·.2) = [assign (.Subscript (.Name x px) k spos) X.env] := by rfl) :
    PMS X F (.Assign [.Subscript (.Name x px) k spos] e pos) (sixO i fk fa) := by
  refine PS.imp (ps_asg ha (pg_sub (pe_var hN hv hd hcd) hk set_list has) hs hw h1) fun D σ H ⟨V, ρ, E, g⟩ => ⟨V, ρ, E, Goal.ex g fun v d H1 V1 ρ1 st1 r1 g1 => ?_⟩
  have g1 : GoalS X.kw F V1 (if isOwn1 ρ1[i]? = true then sixI i d fk ρ1 else .bad) D := g1
  by_cases hio : isOwn1 ρ1[i]? = true
  · rw [if_pos hio] at g1
    cases eo : ρ1[i]? with
    | none => rw [eo] at hio; cases hio
    | some s =>
      cases s with
      | no => rw [eo] at hio; cases hio
      | ob _ => rw [eo] at hio; cases hio
      | sh d => rw [eo] at hio; cases hio
      | ow d0 =>
        obtain ⟨a, h1, h2, h3, h4⟩ := st1.env.ow i _ eo
        refine ⟨.ref a, h1, V1, ρ1, st1.env, Goal.ex g1 fun j dj H2 V2 ρ2 st2 r2 g2 => ?_⟩
        cases eo1 : ρ2[i]? with
        | none => rw [eo1] at g2; exact False.elim g2
        | some s1 =>
          rw [eo1] at g2
          cases s1 with
          | no => exact False.elim g2
          | ob _ => exact False.elim g2
          | sh d => exact False.elim g2
          | ow d1 =>
            cases d1 with
            | list ds =>
              cases r2 with
              | int j =>
                have g2 : GoalS X.kw F V2 (match ixN ds.length j with
                  | some n => .nx (ρ2.set i (.ow (.list (ds.set n d))))
                  | none => .bad) D := g2
                obtain ⟨a', q1, q2, q3, xs, q4, q5⟩ := st2.env.ow i _ eo1
                have ea : a' = a := by rw [h1] at q1; exact (L2.V.ref.inj (Option.some.inj (Option.some.inj q1))).symm
                subst ea
                cases ez : ixN ds.length j with
                | none => rw [ez] at g2; exact False.elim g2
                | some n =>
                  rw [ez] at g2
                  exact ⟨a', xs, j, n, rfl, rfl, q4, by rw [q5.length]; exact ez, g2 _ _ _ (st2.env.updOw eo1 q1 ⟨_, upd_same, q5.set (r1.mono st2.v) n⟩) (Same.refl _)⟩
              | _ => exact False.elim g2
            | _ => exact False.elim g2
  · rw [if_neg hio] at g1
    exact False.elim g1
end
def hide (H : Hp) (a : Addr) : Hp := fun b => if b = a then none else H b
theorem hide_ne {H : Hp} {a b : Addr} (h : b ≠ a) : hide H a b = H b := by unfold hide; rw [if_neg h]
theorem hide_eq {H : Hp} {a : Addr} : hide H a a = none := by unfold hide; rw [if_pos rfl]
theorem hide_same {H : Hp} {a : Addr} : Same (hide H a) H := fun b o e => by
  by_cases h : b = a
  · rw [h, hide_eq] at e; cases e
  · rw [hide_ne h] at e; exact e
theorem tabs_hide {T : List (Addr × Str)} {H : Hp} {a : Addr} (h : ∀ x, H a = some x → Plain x) (t : LamX.Tabs T H) : LamX.Tabs T (hide H a) := fun q hq => by
  obtain ⟨ps, h1, h2, h3⟩ := t q hq
  refine ⟨ps, ?_, h2, fun pos cv hc => ?_⟩
  · rw [hide_ne (fun z => (h _ (by rw [← z]; exact h1)).t _ rfl)]; exact h1
  · obtain ⟨c, e1, e2⟩ := h3 pos cv hc
    refine ⟨c, e1, ?_⟩
    rw [hide_ne (fun z => (h _ (by rw [← z]; exact e2)).c _ _ rfl)]; exact e2
def start1 (n : Nat) (dd : PyData) (ds : List PyData) : Rho := .ow dd :: (ds.map .sh ++ List.replicate (n - 1 - ds.length) .no)
/-- a def of k parameters besides the lent one, n slots -/
def fnRunL (k n : Nat) (f : SM) (dd : PyData) (ds : List PyData) : R (PyData × PyData) := if ds.length = k then (match f (start1 n dd ds) with
  | .rt d ρ => (match ρ[0]? with
    | some (Sl.ow dd') => .ok (d, dd')
    | _ => .bad)
  | .rf d ρ => (match ρ[0]? with
    | some (Sl.ow dd') => .ok (d, dd')
    | _ => .bad)
  | .nx ρ => (match ρ[0]? with
    | some (Sl.ow dd') => .ok (.none, dd')
    | _ => .bad)
  | .exc c => .exc c
  | _ => .bad) else .bad
def spL (K : KW) (n : Nat) (m : PyData → List PyData → R (PyData × PyData)) : Sp := fun vs H Q E => vs.length = n ∧ ∃ a vs' V dd ds, TabV H V ∧ vs = .ref a :: vs' ∧ Same V H ∧ V a = none ∧ OwnAt K V H a dd ∧ RepL K V vs' ds ∧ match m dd ds with
  | .ok (d, dd') => ∀ v H' V', Ext (hide H a) V H' V' → V' a = none → OwnAt K V' H' a dd' → Rep K V' v d → Q v H'
  | .exc c => ∀ H' V', Ext (hide H a) V H' V' → E (.ref (He.ga K c)) none H'
  | .bad => False
def FnL (P : Program) (w : World) (K : PySem.W.Frag) (mg : Str → Option Value) (base : Heap) (lvl : Nat) (x : Str) (ps : List Str) (m : PyData → List PyData → R (PyData × PyData)) : Prop :=
  ∃ fd, FnOk P w K mg base (L2N.CX P w) lvl (He.ga K x) fd ps (spL ⟨K, w⟩ ps.length m) ∧ Binds K fd ps [] ∧ PySem.W.keepIn K (.ref (He.ga K x)) = true ∧ mg x = some (.ref (He.ga K x)) ∧ ∀ dd ds, m dd ds ≠ .bad → ds.length + 1 = ps.length
abbrev mkL (H V : Hp) (a : Addr) (E : XK) : Fr := ⟨hide H a, V, some a, fun cls _ H' => E cls none H', 0, fun _ => False⟩
section
variable {P : Program} {w : World} {K : PySem.W.Frag} {mg : Str → Option Value} {base : Heap} {x : Str} {params : Arguments} {body : List Stmt} {scope : Scope} {fd : FuncData}
theorem env_lent {V H : Hp} {vs : List L2.V} {ds : List PyData} {a : Addr} {dd : PyData} (r : RepL ⟨K, w⟩ V vs ds) {N : List Str} (hle : vs.length + 1 ≤ N.length) {E : XK} (s : Same V H) (hv : V a = none) (ho : OwnAt ⟨K, w⟩ V H a dd) (ht : TabV H V) : EnvR ⟨K, w⟩ (mkL H V a E) H V (L2.start N (.ref a :: vs)) (start1 N.length dd ds) := by
  have hl := r.length
  have f : ∀ {i : Nat} {t : Sl}, (start1 N.length dd ds)[i]? = some t → (i = 0 ∧ t = .ow dd) ∨ (∃ j d, i = j + 1 ∧ ds[j]? = some d ∧ t = .sh d) ∨ t = .no := fun {i t} h => by
    unfold start1 at h
    cases i with
    | zero => exact .inl ⟨rfl, (Option.some.inj h).symm⟩
    | succ j =>
      rw [List.getElem?_cons_succ] at h
      by_cases hi : j < ds.length
      · rw [List.getElem?_append_left (by simpa using hi), List.getElem?_map] at h
        obtain ⟨d', h1, h2⟩ := Option.map_eq_some_iff.mp h
        exact .inr (.inl ⟨j, d', rfl, h1, h2.symm⟩)
      · rw [List.getElem?_append_right (by simpa using hi), List.getElem?_replicate] at h
        split at h
        · exact .inr (.inr (Option.some.inj h).symm)
        · cases h
  refine ⟨?_, .of hide_same (Same.refl _) s (fun _ h _ => h), fun i d h => ?_, fun i d h => ?_, fun i j b d e h1 h2 _ _ => ?_, fun b h => ?_, ⟨tabs_hide ho.plain ht.1, ht.2⟩, ObE.non fun i o h => by
    rcases f h with ⟨_, z⟩ | ⟨_, _, _, _, z⟩ | z <;> cases z⟩
  · simp only [L2.start, start1, List.length_append, List.length_map, List.length_cons, List.length_replicate, hl]
    omega
  · rcases f h with ⟨_, z⟩ | ⟨j, d', rfl, hj, z⟩ | z
    · cases z
    · cases z
      obtain ⟨v, h3, h4⟩ := r.get j hj
      refine ⟨v, ?_, h4⟩
      unfold L2.start
      have hj' : j < vs.length := (List.getElem?_eq_some_iff.mp h3).1
      rw [List.getElem?_append_left (by simp only [List.length_map, List.length_cons]; omega), List.getElem?_map, List.getElem?_cons_succ, h3]
      rfl
    · cases z
  · rcases f h with ⟨rfl, z⟩ | ⟨j, d', rfl, hj, z⟩ | z
    · cases z
      exact ⟨a, rfl, hv, hide_eq, ho⟩
    · cases z
    · cases z
  · rcases f h1 with ⟨rfl, _⟩ | ⟨j, d', _, _, z⟩ | z
    · rcases f h2 with ⟨rfl, _⟩ | ⟨j, d', _, _, z⟩ | z
      · rfl
      · cases z
      · cases z
    · cases z
    · cases z
  · cases h
    rfl
theorem fn_mkL {N ps : List Str} {k : Nat} {f : SM} (D : FunD K x x params body scope [] [] (He.ga K x) fd) (hx : mg x = some (.ref (He.ga K x))) (S : FnScope N ps scope)
    (hbd : ∀ (kV doc pm : Value) (an : Option Addr) (cdv ct : Value) (us : List Value), us.length = ps.length → bindArgs (PySem.W.fnOf x x params body scope .none kV doc pm an cdv ct) ⟨us, []⟩ = pure (ps.zip us))
    (hps : ps.length ≤ N.length) (hp0 : 0 < ps.length)
    (hb : ∀ (cdv : Value) (A : Around) (outer : List Env) (s : Shared) (H V : Hp) (a : Addr) (E : XK), Room k (A.deeper (envOfC x scope s.heap.objs.size (He.ga K x) cdv)) → PMSs (cxF P w K mg base N x scope cdv A outer s H E) (mkL H V a E) body f) :
    FnL P w K mg base (k + 1) x ps (fnRunL (ps.length - 1) N.length f) := by
  refine ⟨fd, D.ok (CX := L2N.CX P w) S (fun vs H Q E h => h.1) fun cdv A outer s H vs Q E hr h => ?_, D.bindsN hbd, D.kp, hx, fun dd ds h => ?_⟩
  · obtain ⟨hl, a, vs', V, dd, ds, ht, rfl, sv, va, ho, r, g⟩ := h
    rw [List.length_cons] at hl
    refine ⟨_, hb cdv A outer s H V a E hr, V, start1 N.length dd ds, env_lent r (by omega) sv va ho ht, ?_⟩
    unfold fnRunL at g
    rw [if_pos (by rw [← r.length]; omega)] at g
    show GoalS ⟨K, w⟩ (mkL H V a E) V (f (start1 N.length dd ds)) _
    have fin : ∀ {v : L2.V} {d : PyData} {ρ' : Rho} {σ' : St} {H' V' : Hp}, EnvR ⟨K, w⟩ (mkL H V a E) H' V' σ' ρ' → Rep ⟨K, w⟩ V' v d → (match (match ρ'[0]? with
        | some (.ow dd') => (.ok (d, dd') : R (PyData × PyData))
        | _ => .bad) with
      | .ok (d, dd') => ∀ v H' V', Ext (hide H a) V H' V' → V' a = none → OwnAt ⟨K, w⟩ V' H' a dd' → Rep ⟨K, w⟩ V' v d → Q v H'
      | .exc c => ∀ H' V', Ext (hide H a) V H' V' → E (.ref (He.ga K c)) none H'
      | .bad => False) → Q v H' := fun {v d ρ' σ' H' V'} E' r' g => by
      cases e0 : ρ'[0]? with
      | none => rw [e0] at g; exact False.elim g
      | some t =>
        rw [e0] at g
        cases t with
        | no => exact False.elim g
        | ob _ => exact False.elim g
        | sh d => exact False.elim g
        | ow dd' =>
          obtain ⟨b, q1, q2, q3, q4⟩ := E'.ow 0 dd' e0
          have eb : b = a := by
            have := E'.lent a rfl
            rw [q1] at this
            exact L2.V.ref.inj (Option.some.inj (Option.some.inj this))
          subst eb
          exact g v H' V' E'.ext q2 q4 r'
    cases e : f (start1 N.length dd ds) with
    | rt d ρ' => rw [e] at g; exact fun v σ' H' V' E' _ r' => fin E' r' g
    | rf d ρ' => rw [e] at g; exact fun v σ' H' V' E' _ r' _ => fin E' r' g
    | nx ρ' => rw [e] at g; exact fun σ' H' V' E' _ => fin E' .non g
    | exc c => rw [e] at g; exact fun σ' H' V' x => g H' V' x
    | bk ρ' => rw [e] at g; exact False.elim g
    | ct ρ' => rw [e] at g; exact False.elim g
    | bad => rw [e] at g; exact False.elim g
  · unfold fnRunL at h
    by_cases hl : ds.length = ps.length - 1
    · omega
    · rw [if_neg hl] at h; exact absurd rfl h
end
/-- f(d, ..), d an own list in slot i -/
def callI (i : Nat) (m : PyData → List PyData → R (PyData × PyData)) (a : M (List PyData)) : M PyData := M.bind a fun ds ρ => match ρ[i]? with
  | some (.ow dd) => (match m dd ds with
    | .ok (d, dd') => .ok (d, ρ.set i (.ow dd'))
    | .exc c => .exc c
    | .bad => .bad)
  | _ => .bad
def callL (i : Nat) (m : PyData → List PyData → R (PyData × PyData)) (a : M (List PyData)) : M PyData := fun ρ => if isOwn1 ρ[i]? = true then callI i m a ρ else .bad
theorem EnvR.lendX {K : KW} {F : Fr} {σ : St} {ρ : Rho} {H V H' V' : Hp} (E : EnvR K F H V σ ρ) {i : Nat} {a : Addr} {dd : PyData} (h0 : ρ[i]? = some (.ow dd)) (h1 : σ[i]? = some (some (.ref a))) (x : Ext (hide H a) V H' V') : Ext F.H0 F.V0 H' V' := by
  obtain ⟨b, q1, q2, q3, q4⟩ := E.ow i dd h0
  rw [h1] at q1
  cases q1
  have ne : ∀ {b : Addr}, F.H0 b ≠ none → b ≠ a := fun {b} e z => e (by rw [z]; exact q3)
  exact ⟨fun b o e n => x.h b o (by rw [hide_ne (ne (by rw [e]; exact fun z => nomatch z))]; exact E.ext.h b o e n) n, E.ext.v.trans x.v, x.s, (fun b e1 e2 => x.f b (E.ext.f b e1 e2) (by rw [hide_ne (ne e2)]; exact E.ext.th b e2)), (fun b h => x.th b (by rw [hide_ne (ne h)]; exact E.ext.th b h)), fun t => x.t (tabs_hide q4.plain (E.ext.t t))⟩
theorem EnvR.lend {K : KW} {F : Fr} {σ : St} {ρ : Rho} {H V H' V' : Hp} (E : EnvR K F H V σ ρ) {i : Nat} {a : Addr} {dd dd' : PyData} (h0 : ρ[i]? = some (.ow dd)) (h1 : σ[i]? = some (some (.ref a))) (x : Ext (hide H a) V H' V') (va : V' a = none) (ho : OwnAt K V' H' a dd') : Stp K F σ ρ (ρ.set i (.ow dd')) H V H' V' := by
  obtain ⟨b, q1, q2, q3, q4⟩ := E.ow i dd h0
  rw [h1] at q1
  cases q1
  have hil : i < ρ.length := (List.getElem?_eq_some_iff.mp h0).1
  have ne : ∀ {b : Addr} {o : HO}, F.H0 b = some o → b ≠ a := fun {b o} e z => by rw [z, q3] at e; cases e
  have kx : ∀ b o, H b = some o → nT o → b ≠ a → H' b = some o := fun b o e nt n => x.h b o (by rw [hide_ne n]; exact e) nt
  have fx : ∀ b, V b = none → H b ≠ none → V' b = none := fun b e1 e2 => by
    by_cases n : b = a
    · rw [n]; exact va
    · exact x.f b e1 (by rw [hide_ne n]; exact e2)
  have ext : Ext F.H0 F.V0 H' V' := E.lendX h0 h1 x
  have ow : ∀ {j : Nat} {e : PyData}, (ρ.set i (.ow dd'))[j]? = some (.ow e) → ∃ e, ρ[j]? = some (.ow e) := fun {j e} h => by
    rcases getElem_set_some h with ⟨rfl, q, hi⟩ | ⟨n, q⟩
    · exact ⟨dd, h0⟩
    · exact ⟨e, q⟩
  refine ⟨⟨by simp [E.len], ext, fun j e h => ?_, fun j e h => ?_, fun j k b e e' w1 w2 w3 w4 => ?_, E.lent, E.tab, E.ob.setR fun _ z => nomatch z⟩, x.v, fun b o e nt n => kx b o e nt fun z => n ⟨i, dd, h0, by rw [z]; exact h1⟩, fun b h => ?_, fun j e h => ?_, fx, fun b h => ?_⟩
  · rcases getElem_set_some h with ⟨_, q, _⟩ | ⟨n, q⟩
    · cases q
    · obtain ⟨v, w1, w2⟩ := E.sh j e q
      exact ⟨v, w1, w2.mono x.v⟩
  · rcases getElem_set_some h with ⟨rfl, q, hi⟩ | ⟨n, q⟩
    · cases q
      exact ⟨a, h1, va, q3, ho⟩
    · obtain ⟨b, w1, w2, w3, w4⟩ := E.ow j e q
      have nb : b ≠ a := fun z => n (by rw [z] at w1; exact E.dis i j a dd e h0 q h1 w1)
      obtain ⟨o, w5, _⟩ := w4.there
      exact ⟨b, w1, fx b w2 (by rw [w5]; exact fun z => nomatch z), w3, w4.mono x.v fun o e nt => kx b o e nt nb⟩
  · obtain ⟨e1, u1⟩ := ow w1
    obtain ⟨e2, u2⟩ := ow w2
    exact E.dis j k b e1 e2 u1 u2 w3 w4
  · obtain ⟨j, e, w1, w2⟩ := h
    obtain ⟨e1, u1⟩ := ow w1
    exact ⟨j, e1, u1, w2⟩
  · rcases getElem_set_some h with ⟨_, q, _⟩ | ⟨n, q⟩
    · cases q
    · exact q
  · by_cases n : b = a
    · rw [n]
      obtain ⟨o, w5, _⟩ := ho.there
      rw [w5]
      exact fun z => nomatch z
    · exact x.th b (by rw [hide_ne n]; exact h)
section
variable {X : Cx} {F : Fr} {es : List Expr} {fs : M (List PyData)} {pos p : Pos}
theorem pm_callL (i : Nat) {y : Str} {py : Pos} {lvl : Nat} {x : Str} {ps : List Str} {m : PyData → List PyData → R (PyData × PyData)} (G : FnL X.prog X.w X.K X.mg X.base lvl x ps m) (hr : Room lvl X.A) (tk : Tk X F) (ha : PMA X F es fs) (hg : Gl X x := by rfl)
    (hN : X.N[i]? = some y := by rfl) (hv : Vis X.env.scope y := by first | exact Or.inl rfl | exact Or.inr (Or.inl rfl) | exact Or.inr (Or.inr rfl)) (hd : (y == ("__debug__" : Str)) = false := by decide) (hcd : (y == ("__classdict__" : Str)) = false := by decide)
    (hdb : (x == ("__debug__" : Str)) = false := by decide) (he : starEach (.Name y py :: es) X.env = (false, eval (.Name y py) X.env) :: starEach es X.env := by rfl) (hpl : (backTo pos (starEach es X.env)).any (·.1) = false := by rfl) : PM X F (.Call (.Name x p) (.Name y py :: es) [] pos) (callL i m fs) := by
  obtain ⟨fd, G1, G2, G3, G4, G5⟩ := G
  refine PE.imp (pe_callS G1 hr hg G4 G3 G2 (fun σ => L2N.passAt tk σ) (pa_cons (pe_var hN hv hd hcd) ha he) hdb he hpl) fun σ H Q ⟨V, ρ, E, g0⟩ => ?_
  have g0 : Goal X.kw F σ ρ H V (Rep X.kw) (if isOwn1 ρ[i]? = true then callI i m fs ρ else .bad) Q := g0
  by_cases hio : isOwn1 ρ[i]? = true
  · rw [if_pos hio] at g0
    cases eo : ρ[i]? with
    | none => rw [eo] at hio; cases hio
    | some s =>
      cases s with
      | no => rw [eo] at hio; cases hio
      | ob _ => rw [eo] at hio; cases hio
      | sh d => rw [eo] at hio; cases hio
      | ow d0 =>
        obtain ⟨a, h1, h2, h3, h4⟩ := E.ow i _ eo
        refine ⟨.ref a, h1, V, ρ, E, Goal.bind g0 fun vs ds H1 V1 ρ1 st1 r1 g1 => ?_⟩
        cases eo1 : ρ1[i]? with
        | none => rw [eo1] at g1; exact False.elim g1
        | some s1 =>
          rw [eo1] at g1
          cases s1 with
          | no => exact False.elim g1
          | ob _ => exact False.elim g1
          | sh d => exact False.elim g1
          | ow dd =>
            obtain ⟨a', q1, q2, q3, q4⟩ := st1.env.ow i _ eo1
            have ea : a' = a := by rw [h1] at q1; exact (L2.V.ref.inj (Option.some.inj (Option.some.inj q1))).symm
            subst ea
            have g1 : Goal X.kw F σ ρ1 H1 V1 (Rep X.kw) (match m dd ds with
              | .ok (d, dd') => .ok (d, ρ1.set i (.ow dd'))
              | .exc c => .exc c
              | .bad => .bad) Q := g1
            have len : ∀ (h : m dd ds ≠ .bad), (L2.V.ref a' :: vs).length = ps.length := fun h => by rw [List.length_cons, r1.length]; exact G5 dd ds h
            cases em : m dd ds with
            | ok pr =>
              obtain ⟨d, dd'⟩ := pr
              rw [em] at g1
              refine ⟨len (by rw [em]; exact fun z => nomatch z), a', vs, V1, dd, ds, st1.env.tabs, rfl, st1.env.sub, q2, q4, r1, ?_⟩
              rw [em]
              exact fun v H' V' x va ho r => g1 v H' V' (st1.env.lend eo1 q1 x va ho) r
            | exc c =>
              rw [em] at g1
              refine ⟨len (by rw [em]; exact fun z => nomatch z), a', vs, V1, dd, ds, st1.env.tabs, rfl, st1.env.sub, q2, q4, r1, ?_⟩
              rw [em]
              exact fun H' V' x => ⟨rfl, g1 H' V' (st1.env.lendX eo1 q1 x)⟩
            | bad => rw [em] at g1; exact False.elim g1
  · rw [if_neg hio] at g0
    exact False.elim g0
end
end DL
set_option Elab.async false
set_option linter.all false
set_option maxRecDepth 100000
set_option maxHeartbeats 1000000
namespace DL
open PySem PySem.Spec PyProof.Rows L2
variable [TabCtx]
def demSl : Sl → Sl
  | .ow d => .sh d
  | s => s
/-- true: slot 0 (a lent thing) stays own -/
def demR : Bool → Rho → Rho
  | false, ρ => ρ.map demSl
  | true, [] => []
  | true, s :: ρ => s :: ρ.map demSl
def immSl : Sl → Bool
  | .ow (.list ds) => immL ds
  | .no => true
  | _ => false
def backR : Bool → Rho → Rho → Option Rho
  | false, ρ, _ => some ρ
  | true, _ :: r, s :: _ => if immSl s = true then some (s :: r) else none
  | true, _, _ => none
def brw (b : Bool) (f : M PyData) : M PyData := fun ρ => match f (demR b ρ) with
  | .ok (d, ρ') => if imm d = true then (match backR b ρ ρ' with
    | some ρ'' => .ok (d, ρ'')
    | none => .bad) else .bad
  | .exc c => .exc c
  | .bad => .bad
theorem demR_len (b : Bool) (ρ : Rho) : (demR b ρ).length = ρ.length := by
  cases b with
  | false => exact List.length_map ..
  | true => cases ρ with
    | nil => rfl
    | cons s r => simp [demR]
theorem demR_ow {b : Bool} {ρ : Rho} {i : Nat} {d : PyData} (h : (demR b ρ)[i]? = some (.ow d)) : i = 0 ∧ b = true ∧ ρ[i]? = some (.ow d) := by
  have m : ∀ {r : Rho} {i : Nat}, (r.map demSl)[i]? ≠ some (.ow d) := fun {r i} h => by
    rw [List.getElem?_map] at h
    obtain ⟨s, _, h2⟩ := Option.map_eq_some_iff.mp h
    cases s <;> cases h2
  cases b with
  | false => exact absurd h m
  | true => cases ρ with
    | nil => cases h
    | cons s r =>
      cases i with
      | zero => exact ⟨rfl, rfl, h⟩
      | succ i => exact absurd (show (r.map demSl)[i]? = some (.ow d) from h) m
theorem demR_sh {b : Bool} {ρ : Rho} {i : Nat} {d : PyData} (h : (demR b ρ)[i]? = some (.sh d)) : ρ[i]? = some (.sh d) ∨ (ρ[i]? = some (.ow d) ∧ (b = true → i ≠ 0)) := by
  have m : ∀ {r : Rho} {i : Nat}, (r.map demSl)[i]? = some (.sh d) → r[i]? = some (.sh d) ∨ r[i]? = some (.ow d) := fun {r i} h => by
    rw [List.getElem?_map] at h
    obtain ⟨s, h1, h2⟩ := Option.map_eq_some_iff.mp h
    cases s with
    | no => cases h2
    | ob _ => cases h2
    | sh e => cases h2; exact .inl h1
    | ow e => cases h2; exact .inr h1
  cases b with
  | false => exact (m h).imp id fun q => ⟨q, fun z => nomatch z⟩
  | true => cases ρ with
    | nil => cases h
    | cons s r =>
      cases i with
      | zero => exact .inl h
      | succ i => exact (m (show (r.map demSl)[i]? = some (.sh d) from h)).imp id fun q => ⟨q, fun _ => Nat.succ_ne_zero i⟩
theorem demR_ob {b : Bool} {ρ : Rho} {i : Nat} {o : Ob} (h : (demR b ρ)[i]? = some (.ob o)) : ρ[i]? = some (.ob o) := by
  have m : ∀ {r : Rho} {i : Nat}, (r.map demSl)[i]? = some (.ob o) → r[i]? = some (.ob o) := fun {r i} h => by
    rw [List.getElem?_map] at h
    obtain ⟨s, h1, h2⟩ := Option.map_eq_some_iff.mp h
    cases s with
    | ob e => cases h2; exact h1
    | no => cases h2
    | sh e => cases h2
    | ow e => cases h2
  cases b with
  | false => exact m h
  | true => cases ρ with
    | nil => cases h
    | cons s r =>
      cases i with
      | zero => exact h
      | succ i => exact m (show (r.map demSl)[i]? = some (.ob o) from h)
theorem demR_keep {ρ : Rho} {d : PyData} (h : ρ[0]? = some (.ow d)) : (demR true ρ)[0]? = some (.ow d) := by
  cases ρ with
  | nil => cases h
  | cons s r => exact h
open Classical in
/-- what is seen if own things are -/
noncomputable def shown (P : Addr → Prop) (V H : Hp) : Hp := fun c => if P c then H c else V c
open Classical in
noncomputable def veiled (P : Addr → Prop) (V : Hp) : Hp := fun c => if P c then none else V c
section
variable {K : KW} {F : Fr} {σ : St} {ρ ρ' ρ'' : Rho} {H V H' V' : Hp}
theorem shown_p {P : Addr → Prop} {c : Addr} (h : P c) : shown P V H c = H c := by unfold shown; rw [if_pos h]
theorem shown_n {P : Addr → Prop} {c : Addr} (h : ¬ P c) : shown P V H c = V c := by unfold shown; rw [if_neg h]
theorem veiled_p {P : Addr → Prop} {c : Addr} (h : P c) : veiled P V c = none := by unfold veiled; rw [if_pos h]
theorem veiled_n {P : Addr → Prop} {c : Addr} (h : ¬ P c) : veiled P V c = V c := by unfold veiled; rw [if_neg h]
def Let (σ : St) (ρ : Rho) (b : Bool) (c : Addr) : Prop := IsOwn σ ρ c ∧ ¬ IsOwn σ (demR b ρ) c
theorem EnvR.own_at (E : EnvR K F H V σ ρ) {c : Addr} (h : IsOwn σ ρ c) : V c = none ∧ F.H0 c = none ∧ ∃ o, H c = some o ∧ (∀ xs, o ≠ .tup xs) ∧ (∀ u xs, o ≠ .frz u (.tup xs)) ∧ Plain o := by
  obtain ⟨i, d, h1, h2⟩ := h
  obtain ⟨a, q1, q2, q3, q4⟩ := E.ow i d h1
  rw [h2] at q1
  cases q1
  exact ⟨q2, q3, q4.there⟩
theorem EnvR.let_at (E : EnvR K F H V σ ρ) {b : Bool} {i : Nat} {d : PyData} {a : Addr} (h : ρ[i]? = some (.ow d)) (h2 : σ[i]? = some (some (.ref a))) (hb : b = true → i ≠ 0) : Let σ ρ b a := by
  refine ⟨⟨i, d, h, h2⟩, fun ⟨j, e, q1, q2⟩ => ?_⟩
  obtain ⟨rfl, hb', q3⟩ := demR_ow q1
  exact hb hb' (E.dis i 0 a d e h q3 h2 q2)
theorem EnvR.dem (E : EnvR K F H V σ ρ) (b : Bool) : EnvR K F H (shown (Let σ ρ b) V H) σ (demR b ρ) := by
  have sv : Same V (shown (Let σ ρ b) V H) := fun c o e => by
    rw [shown_n (fun h => by rw [(E.own_at h.1).1] at e; cases e)]; exact e
  refine ⟨by rw [demR_len]; exact E.len, ⟨E.ext.h, E.ext.v.trans sv, fun c o e => ?_, fun c h1 h2 => ?_, E.ext.th, E.ext.t⟩, fun i d h => ?_, fun i d h => ?_, fun i j a d e h1 h2 h3 h4 => ?_, E.lent, E.tab, E.ob.sub fun i o h => ⟨demR_ob h, rfl⟩⟩
  · by_cases h : Let σ ρ b c
    · rw [shown_p h] at e; exact e
    · rw [shown_n h] at e; exact E.sub c o e
  · rw [shown_n (fun h => h2 (E.own_at h.1).2.1)]; exact E.ext.f c h1 h2
  · rcases demR_sh h with q | ⟨q, hb⟩
    · obtain ⟨v, w1, w2⟩ := E.sh i d q
      exact ⟨v, w1, w2.mono sv⟩
    · obtain ⟨a, w1, w2, w3, w4⟩ := E.ow i d q
      refine ⟨.ref a, w1, ?_⟩
      have el : shown (Let σ ρ b) V H a = H a := shown_p (E.let_at q w1 hb)
      cases d with
      | list ds => obtain ⟨vs, e, r⟩ := w4; exact .lst (el.trans e) (r.mono sv)
      | dict ps =>
        rcases w4 with ⟨kvs, e, r, n⟩ | ⟨kvs, ep, e, r⟩
        · exact .dk (.inl (el.trans e)) (r.mono sv) n
        · exact .dt (el.trans e) (r.mono sv)
      | _ => exact w4.elim
  · obtain ⟨rfl, hb, q⟩ := demR_ow h
    obtain ⟨a, w1, w2, w3, w4⟩ := E.ow 0 d q
    exact ⟨a, w1, by rw [shown_n (fun z => z.2 ⟨0, d, h, w1⟩)]; exact w2, w3, w4.mono sv fun _ e _ => e⟩
  · exact E.dis i j a d e (demR_ow h1).2.2 (demR_ow h2).2.2 h3 h4
theorem immL_mono {K : KW} {V V' H : Hp} {a : Addr} {s : Sl} {d : PyData} (e : s = .ow d) (h : immSl s = true) (o : OwnAt K V H a d) (t : SameT V V') : OwnAt K V' H a d := by
  subst e
  cases d with
  | list ds => obtain ⟨vs, e, r⟩ := o; exact ⟨vs, e, r.imm t h⟩
  | _ => cases h
theorem EnvR.back (E : EnvR K F H V σ ρ) {b : Bool} (st : Stp K F σ (demR b ρ) ρ' H (shown (Let σ ρ b) V H) H' V') (hb : backR b ρ ρ' = some ρ'') :
    Stp K F σ ρ ρ'' H V H' (veiled (Let σ ρ b) V') ∧ SameT V' (veiled (Let σ ρ b) V') := by
  have sT : SameT V' (veiled (Let σ ρ b) V') := by
    have no : ∀ c, Let σ ρ b c → ∃ o, V' c = some o ∧ (∀ xs, o ≠ .tup xs) ∧ ∀ u xs, o ≠ .frz u (.tup xs) := fun c h => by
      obtain ⟨_, _, o, q1, q2, q3, _⟩ := E.own_at h.1
      exact ⟨o, st.v c o (by rw [shown_p h]; exact q1), q2, q3⟩
    refine ⟨fun c xs e => ?_, fun c u xs e => ?_⟩
    · rw [veiled_n (fun h => by obtain ⟨o, q1, q2, _⟩ := no c h; rw [q1] at e; exact q2 xs (Option.some.inj e))]; exact e
    · rw [veiled_n (fun h => by obtain ⟨o, q1, _, q2⟩ := no c h; rw [q1] at e; exact q2 u xs (Option.some.inj e))]; exact e
  have sv : Same V (veiled (Let σ ρ b) V') := fun c o e => by
    have n : ¬ Let σ ρ b c := fun h => by rw [(E.own_at h.1).1] at e; cases e
    rw [veiled_n n]
    exact st.v c o (by rw [shown_n n]; exact e)
  have kp : ∀ c o, H c = some o → nT o → ¬ IsOwn σ (demR b ρ) c → H' c = some o := st.keep
  have od : ∀ {c}, IsOwn σ (demR b ρ) c → IsOwn σ ρ c := fun {c} ⟨i, d, h1, h2⟩ => ⟨i, d, (demR_ow h1).2.2, h2⟩
  -- the slots behind
  have sl : ∀ {i : Nat} {t : Sl}, ρ''[i]? = some t → (ρ[i]? = some t ∧ (b = true → i ≠ 0)) ∨ (i = 0 ∧ b = true ∧ ρ'[0]? = some t ∧ immSl t = true) := fun {i t} h => by
    cases b with
    | false =>
      cases hb
      exact .inl ⟨h, fun z => nomatch z⟩
    | true =>
      cases ρ with
      | nil => cases ρ' <;> cases hb
      | cons s r =>
        cases ρ' with
        | nil => cases hb
        | cons s' r' =>
          have hb : (if immSl s' = true then some (s' :: r) else none) = some ρ'' := hb
          by_cases hi : immSl s' = true
          · rw [if_pos hi] at hb
            cases hb
            cases i with
            | zero =>
              have e : s' = t := Option.some.inj h
              subst e
              exact .inr ⟨rfl, rfl, rfl, hi⟩
            | succ i => exact .inl ⟨h, fun _ => Nat.succ_ne_zero i⟩
          · rw [if_neg hi] at hb; cases hb
  have len : ρ''.length = ρ.length := by
    cases b with
    | false => cases hb; rfl
    | true =>
      cases ρ with
      | nil => cases ρ' <;> cases hb
      | cons s r =>
        cases ρ' with
        | nil => cases hb
        | cons s' r' =>
          have hb : (if immSl s' = true then some (s' :: r) else none) = some ρ'' := hb
          by_cases hi : immSl s' = true
          · rw [if_pos hi] at hb; cases hb; rfl
          · rw [if_neg hi] at hb; cases hb
  have ow0 : ∀ {d : PyData}, ρ'[0]? = some (.ow d) → ∃ e, ρ[0]? = some (.ow e) := fun {d} h => by
    obtain ⟨a, w1, _⟩ := st.env.ow 0 d h
    obtain ⟨j, e, q1, q2⟩ := st.own a ⟨0, d, h, w1⟩
    obtain ⟨rfl, _, q3⟩ := demR_ow q1
    exact ⟨e, q3⟩
  have owf : ∀ {i : Nat} {d : PyData}, ρ''[i]? = some (.ow d) → ∃ e, ρ[i]? = some (.ow e) := fun {i d} h => by
    rcases sl h with ⟨q, _⟩ | ⟨rfl, _, q, _⟩
    · exact ⟨d, q⟩
    · exact ow0 q
  refine ⟨⟨⟨by rw [len]; exact E.len, ⟨st.env.ext.h, E.ext.v.trans sv, fun c o e => ?_, fun c h1 h2 => ?_, st.env.ext.th, st.env.ext.t⟩, fun i d h => ?_, fun i d h => ?_, fun i j a d e h1 h2 h3 h4 => ?_, E.lent, E.tab, E.ob.sub fun i o h => by
    rcases sl h with ⟨q, _⟩ | ⟨_, _, _, q⟩
    · exact ⟨q, rfl⟩
    · cases q⟩, sv, fun c o e nt n => kp c o e nt fun z => n (od z), fun c h => ?_, fun i d h => ?_, fun c h1 h2 => ?_, st.th⟩, sT⟩
  · by_cases h : Let σ ρ b c
    · rw [veiled_p h] at e; cases e
    · rw [veiled_n h] at e; exact st.env.ext.s c o e
  · by_cases h : Let σ ρ b c
    · exact veiled_p h
    · rw [veiled_n h]; exact st.env.ext.f c h1 h2
  · rcases sl h with ⟨q, _⟩ | ⟨_, _, _, q⟩
    · obtain ⟨v, w1, w2⟩ := E.sh i d q
      exact ⟨v, w1, w2.mono sv⟩
    · cases q
  · rcases sl h with ⟨q, hb'⟩ | ⟨rfl, hb', q, hi⟩
    · obtain ⟨a, w1, w2, w3, w4⟩ := E.ow i d q
      have la := E.let_at q w1 hb'
      exact ⟨a, w1, veiled_p la, w3, w4.mono sv fun o e nt => kp a o e nt la.2⟩
    · obtain ⟨a, w1, w2, w3, w4⟩ := st.env.ow 0 d q
      obtain ⟨e, q2⟩ := ow0 q
      have n : ¬ Let σ ρ b a := fun h => h.2 (by subst hb'; exact ⟨0, e, demR_keep q2, w1⟩)
      exact ⟨a, w1, by rw [veiled_n n]; exact w2, w3, immL_mono rfl hi w4 sT⟩
  · obtain ⟨e1, q1⟩ := owf h1
    obtain ⟨e2, q2⟩ := owf h2
    exact E.dis i j a e1 e2 q1 q2 h3 h4
  · obtain ⟨i, d, h1, h2⟩ := h
    obtain ⟨e, q⟩ := owf h1
    exact ⟨i, e, q, h2⟩
  · rcases sl h with ⟨q, _⟩ | ⟨_, _, _, q⟩
    · exact q
    · cases q
  · by_cases h : Let σ ρ b c
    · exact veiled_p h
    · rw [veiled_n h]; exact st.f c (by rw [shown_n h]; exact h1) h2
end
section
variable {X : Cx} {F : Fr} {e : Expr} {fa : M PyData} {pos : Pos}
theorem pm_brw (b : Bool) (h : PM X F e fa) : PM X F e (brw b fa) := by
  refine PE.imp h fun σ H Q ⟨V, ρ, E, g⟩ => ⟨shown (Let σ ρ b) V H, demR b ρ, E.dem b, ?_⟩
  have g : Goal X.kw F σ ρ H V (Rep X.kw) (match fa (demR b ρ) with
    | .ok (d, ρ') => if imm d = true then (match backR b ρ ρ' with
      | some ρ'' => .ok (d, ρ'')
      | none => .bad) else .bad
    | .exc c => .exc c
    | .bad => .bad) Q := g
  cases ef : fa (demR b ρ) with
  | exc c => rw [ef] at g; exact g
  | bad => rw [ef] at g; exact g
  | ok pr =>
    obtain ⟨d, ρ'⟩ := pr
    rw [ef] at g
    have g : Goal X.kw F σ ρ H V (Rep X.kw) (if imm d = true then (match backR b ρ ρ' with
      | some ρ'' => .ok (d, ρ'')
      | none => .bad) else .bad) Q := g
    by_cases hi : imm d = true
    · rw [if_pos hi] at g
      intro v H' V' st r
      cases eb : backR b ρ ρ' with
      | none => rw [eb] at g; exact False.elim g
      | some ρ'' =>
        rw [eb] at g
        obtain ⟨s1, s2⟩ := E.back st eb
        exact g v H' _ s1 (r.imm s2 hi)
    · rw [if_neg hi] at g
      exact False.elim g
/-- a statement that lets own things go -/
def demO (b : Bool) (f : SM) : SM := fun ρ => f (demR b ρ)
theorem pms_dem (b : Bool) {st : Stmt} {f : SM} (h : PMS X F st f) : PMS X F st (demO b f) := by
  refine PS.imp h fun D σ H ⟨V, ρ, E, g⟩ => ⟨shown (Let σ ρ b) V H, demR b ρ, E.dem b, GoalS.mono (fun c o e => ?_) g⟩
  rw [shown_n (fun h => by rw [(E.own_at h.1).1] at e; cases e)]
  exact e
end
end DL
set_option Elab.async false
set_option linter.all false
set_option maxRecDepth 100000
set_option maxHeartbeats 1000000
namespace SrtQ
open PySem PyProof.Rows Srt
open SrtO hiding Str
def ltS (a b : Str) : Bool := decide (a.cps.toList < b.cps.toList)
def lexS (p q : Str × Int) : Bool := if p.1 = q.1 then decide (p.2 < q.2) else ltS p.1 q.1
theorem str_ext {a b : Str} (h : a.cps.toList = b.cps.toList) : a = b := by
  obtain ⟨a⟩ := a
  obtain ⟨b⟩ := b
  have h : a = b := by
    obtain ⟨a⟩ := a
    obtain ⟨b⟩ := b
    exact congrArg Array.mk h
  rw [h]
theorem ltS_irrefl (a : Str) : ltS a a = false := decide_eq_false (List.lt_irrefl _)
theorem ltS_asym {a b : Str} (h : ltS a b = true) : ltS b a = false := decide_eq_false (List.lt_asymm (of_decide_eq_true h))
theorem ltS_tri {a b : Str} (h1 : ltS a b = false) (h2 : ltS b a = false) : a = b := by
  have h1 := of_decide_eq_false h1
  have h2 := of_decide_eq_false h2
  exact str_ext (List.le_antisymm (List.not_lt.mp h2) (List.not_lt.mp h1))
theorem ltS_trans {a b c : Str} (h1 : ltS a b = true) (h2 : ltS b c = true) : ltS a c = true := decide_eq_true (List.lt_trans (of_decide_eq_true h1) (of_decide_eq_true h2))
theorem lexS_asym {p q : Str × Int} (h : lexS p q = true) : lexS q p = false := by
  unfold lexS at *
  by_cases e : p.1 = q.1
  · rw [if_pos e] at h
    rw [if_pos e.symm]
    have := of_decide_eq_true h
    exact decide_eq_false (by omega)
  · rw [if_neg e] at h
    rw [if_neg (fun z => e z.symm)]
    exact ltS_asym h
theorem lexS_tri {p q : Str × Int} (h1 : lexS p q = false) (h2 : lexS q p = false) : p = q := by
  unfold lexS at *
  by_cases e : p.1 = q.1
  · rw [if_pos e] at h1
    rw [if_pos e.symm] at h2
    have := of_decide_eq_false h1
    have := of_decide_eq_false h2
    exact Prod.ext e (by omega)
  · rw [if_neg e] at h1
    rw [if_neg (fun z => e z.symm)] at h2
    exact absurd (ltS_tri h1 h2) e
theorem lexS_trans {p q r : Str × Int} (h1 : lexS p q = true) (h2 : lexS q r = true) : lexS p r = true := by
  unfold lexS at *
  by_cases e : p.1 = q.1
  · rw [if_pos e] at h1
    by_cases e2 : q.1 = r.1
    · rw [if_pos e2] at h2
      rw [if_pos (e.trans e2)]
      have := of_decide_eq_true h1
      have := of_decide_eq_true h2
      exact decide_eq_true (by omega)
    · rw [if_neg e2] at h2
      rw [if_neg (fun z => e2 (e.symm.trans z)), e]
      exact h2
  · rw [if_neg e] at h1
    by_cases e2 : q.1 = r.1
    · rw [if_neg (fun z => e (z.trans e2.symm)), ← e2]
      exact h1
    · rw [if_neg e2] at h2
      have h3 := ltS_trans h1 h2
      by_cases e3 : p.1 = r.1
      · rw [e3] at h3; rw [ltS_irrefl] at h3; cases h3
      · rw [if_neg e3]; exact h3
theorem swo_lexS' : Swo lexS := by
  refine ⟨fun x y h => lexS_asym h, fun x y z h1 h2 => ?_⟩
  rcases bcase (lexS z x) with h | h
  · rcases bcase (lexS x y) with q | q
    · have := lexS_trans h q
      rw [this] at h2; cases h2
    · have e := lexS_tri q h1
      subst e
      exact h2
  · exact h
theorem swo_lexS {α : Type} (k : α → Str × Int) : Swo fun v u => lexS (k v) (k u) := ⟨fun x y h => swo_lexS'.asym _ _ h, fun x y z h1 h2 => swo_lexS'.tr _ _ _ h1 h2⟩
section
variable {prog : Program} {w : World} {A : Around} {E : Value → Shared → Prop} {s : Shared}
/-- v is a tuple of a text and an int -/
def IsSI (h : Heap) (v : Value) (x : Str) (y : Int) : Prop := ∃ a o t u n, v = .ref a ∧ h.get? a = some o ∧ o.cls = .type "tuple" ∧ o.data = .seq #[.str x t, .int y u] n
theorem IsSI.keeps {h h' : Heap} {v : Value} {x : Str} {y : Int} (p : IsSI h v x y) (k : ∀ b o, h.get? b = some o → o.cls = .type "tuple" → h'.get? b = some o) : IsSI h' v x y := by
  obtain ⟨a, o, t, u, n, e, ho, hc, hd⟩ := p
  exact ⟨a, o, t, u, n, e, k _ _ ho hc, hc, hd⟩
theorem si_cmp {vs : List Value} {k : Value → Str × Int} (hp : ∀ v ∈ vs, IsSI s.heap v (k v).1 (k v).2) : Cmp prog w A s (tuples' true) (fun p => p.1 ∈ vs) (lt2 fun v u => lexS (k v) (k u)) := by
  intro p q hm hm'
  have h1 := hp _ hm
  have h2 := hp _ hm'
  show wpAny (model prog w) A (keyLt' (tuples' true) p.1 q.1) (fun r s' => s' = s ∧ r = lexS (k p.1) (k q.1)) (fun _ _ => False) s
  unfold lexS
  generalize (k p.1).1 = x at h1 ⊢
  generalize (k p.1).2 = y at h1 ⊢
  generalize (k q.1).1 = x' at h2 ⊢
  generalize (k q.1).2 = y' at h2 ⊢
  obtain ⟨a, o, t, u, n, e, ho, hc, hd⟩ := h1
  obtain ⟨a', o', t', u', n', e', ho', hc', hd'⟩ := h2
  rw [e, e']
  refine PySem.W.kat_lt ho hd ho' hd' ?_
  show PySem.W.KatLex prog w A true (decide (2 < 2)) _ [(.str x t, .str x' t'), (.int y u, .int y' u')] 0 s
  refine PySem.W.kat_cons (SeqAt.EqAt.str_str x t x' t' prog w _ _ ?_)
  refine PySem.W.kat_go (fun e1 => ?_) (fun e1 => ?_)
  · have ex : x = x' := by simpa using e1
    refine PySem.W.kat_yes (PySem.W.kat_cons (SeqAt.EqAt.int_int y u y' u' prog w _ _ ?_))
    refine PySem.W.kat_go (fun e2 => ?_) (fun e2 => ?_)
    · have ey : y = y' := by simpa using e2
      have e3 : (if x = x' then decide (y < y') else ltS x x') = false := by
        rw [if_pos ex, ey]
        exact decide_eq_false (Int.lt_irrefl _)
      exact PySem.W.kat_yes (PySem.W.kat_nil ⟨rfl, e3.symm⟩)
    · have e3 : (if x = x' then decide (y < y') else ltS x x') = decide (y < y') := if_pos ex
      refine PySem.W.kat_no (PySem.W.kat_one _ _ (PyProof.Rows.lt_int ?_))
      exact (show s = s ∧ decide (y < y') = (if x = x' then decide (y < y') else ltS x x') from ⟨rfl, e3.symm⟩)
  · have ex : ¬ x = x' := by simpa using e1
    have e3 : (if x = x' then decide (y < y') else ltS x x') = ltS x x' := if_neg ex
    exact PySem.W.kat_no (oneLt_str ⟨rfl, e3.symm⟩)
theorem si_firsts {h : Heap} : ∀ {vs : List Value}, (∀ v ∈ vs, ∃ x y, IsSI h v x y) → ∃ fs : List Value, PySem.W.KatTups h vs fs ∧ fs.length = vs.length ∧ ∀ f ∈ fs, ∃ x t, f = Value.str x t
  | [], _ => ⟨[], PySem.W.KatTups.nil, rfl, fun _ hm => by simp at hm⟩
  | v :: vs, hp => by
    obtain ⟨fs, h1, h2, h3⟩ := si_firsts (vs := vs) fun v' hm => hp v' (List.mem_cons_of_mem _ hm)
    obtain ⟨x, y, a, o, t, u, n, e, ho, hc, hd⟩ := hp v (List.mem_cons_self ..)
    subst e
    refine ⟨.str x t :: fs, PySem.W.KatTups.cons ho hc hd rfl h1, by rw [List.length_cons, List.length_cons, h2], fun f hm => ?_⟩
    rcases List.mem_cons.mp hm with rfl | hm
    · exact ⟨x, t, rfl⟩
    · exact h3 f hm
theorem si_sortable {a : Addr} {vs : List Value} {k : Value → Str × Int} (h0 : 0 < vs.length) (hp : ∀ v ∈ vs, IsSI s.heap v (k v).1 (k v).2) (ha : ∀ o, s.heap.get? a = some o → o.cls ≠ .type "tuple") : SortableO prog w A s a vs fun v u => lexS (k v) (k u) := by
  intro h' keep
  have hp' : ∀ v ∈ vs, IsSI h' v (k v).1 (k v).2 := fun v hm => (hp v hm).keeps fun b o e c => keep b o (fun z => by subst z; exact ha o e c) e
  obtain ⟨fs, h1, h2, h3⟩ := si_firsts fun v hm => ⟨_, _, hp' v hm⟩
  refine ⟨tuples' true, fun Q E hq => ?_, si_cmp hp'⟩
  refine PySem.W.kat_kind (T := .type "str") h1 (by omega) (fun f hm => ?_) (by rfl) ?_
  · obtain ⟨x, t, rfl⟩ := h3 f hm
    exact PySem.W.Looks.now
  · have e : (Value.type "str" != Value.type "tuple") = true := by first | decide +kernel | rfl | decide
    rw [e]
    exact hq
/-- sorted of a list or a tuple of pairs -/
theorem sorted_sq {l : Addr} {T : String} {o : Obj} {vs : List Value} {n : Nat} {k : Value → Str × Int} {Q : Value → Shared → Prop} (hT : T = "list" ∨ T = "tuple") (ho : s.heap.get? l = some o) (hc : o.cls = .type T) (hd : o.data = .seq vs.toArray n) (hz : vs.length ≤ sizeLine) (hp : ∀ v ∈ vs, IsSI s.heap v (k v).1 (k v).2)
    (fin : ∀ (h0 h1 : Heap) (d : Addr) (out : List Value), (∀ b o, s.heap.get? b = some o → h0.get? b = some o) → Srtd (fun v u => lexS (k v) (k u)) out → Stb (fun v u => lexS (k v) (k u)) out vs → (∀ b o, h0.get? b = some o → h1.get? b = some o) → h0.objs.size ≤ d → (∃ n, h1.get? d = some (seqObj "list" out.toArray n)) → Q (.ref d) { s with heap := h1 }) :
    wpAny (model prog w) A (call (.builtin "sorted") [.ref l]) Q E s := by
  refine Calls.call_function_entry kind_sorted plain_sorted entry_sorted (args_sorted1 (.ref l)) ?_
  unfold Builtin.«sorted»
  refine wpAny_bind (m := checkCount "sorted" 1 1 _) (wpAny_pure (wpAny_bind (wpAny_collect_seq l hT ho hc hd (fun h0 k0 => ?_) (by rw [List.size_toArray]; exact hz))))
  show wpAny _ _ _ _ _ { s with heap := h0 }
  have e0 : vs.toArray.toList = vs := by simp
  rw [e0]
  refine wpAny_bind (wpAny_newList (s := { s with heap := h0 }) ?_ hz)
  have hat : (h0.push (seqObj "list" vs.toArray 0)).get? h0.objs.size = some (seqObj "list" vs.toArray 0) := Heap.get?_push_size _ rfl
  have k1 : ∀ b o, h0.get? b = some o → b ≠ h0.objs.size ∧ (h0.push (seqObj "list" vs.toArray 0)).get? b = some o := fun b o q => ⟨Nat.ne_of_lt (Heap.lt_size q), Heap.get?_push_of_some _ q⟩
  show wpAny _ _ _ _ _ { s with heap := h0.push (seqObj "list" vs.toArray 0) }
  refine wpAny_bind (wpAny_holding (wpAny_call_entry slot_list_sort ⟨_, hat, rfl⟩ entry_list_sort (list_sort_ord (s := { s with heap := h0.push (seqObj "list" vs.toArray 0) }) (swo_lexS k) hat hz (fun h2 => ?_) fun out hs hb => ⟨_, rfl, ?_⟩) (args_list_sort _)))
  · refine si_sortable (s := { s with heap := h0.push (seqObj "list" vs.toArray 0) }) (by omega) (fun v hm => (hp v hm).keeps fun b o e _ => (k1 b o (k0 b o e)).2) fun o e => ?_
    have e' : some o = some (seqObj "list" vs.toArray 0) := e.symm.trans hat
    cases e'
    exact fun c => absurd (Value.type.inj c) (by decide)
  · refine wpAny_pure ⟨_, rfl, fin h0 _ _ out k0 hs hb (fun b o e => ?_) (Nat.le_refl _) (sortedHeap_at (n := 0) hat)⟩
    obtain ⟨z1, z2⟩ := k1 b o e
    rw [sortedHeap_old z1 (by rw [size_push']; exact Nat.lt_succ_of_lt (Heap.lt_size e))]
    exact z2
theorem sorted_si {l : Addr} {vs : List Value} {k : Value → Str × Int} {Q : Value → Shared → Prop} (hl : s.heap.IsList l vs.toArray) (hz : vs.length ≤ sizeLine) (hp : ∀ v ∈ vs, IsSI s.heap v (k v).1 (k v).2)
    (h : ∀ (h' : Heap) (d : Addr) (out : List Value), Srtd (fun v u => lexS (k v) (k u)) out → Stb (fun v u => lexS (k v) (k u)) out vs → (∀ b o, s.heap.get? b = some o → h'.get? b = some o) → s.heap.objs.size ≤ d → (∃ n, h'.get? d = some (seqObj "list" out.toArray n)) → Q (.ref d) { s with heap := h' }) :
    wpAny (model prog w) A (call (.builtin "sorted") [.ref l]) Q E s := by
  refine sorted_ord (swo_lexS k) hl hz (fun h2 h₁ a ha kk => ?_) fun out hs hb => ?_
  · refine si_sortable (s := { s with heap := h₁ }) (by omega) (fun v hm => (hp v hm).keeps fun b o e _ => (kk b o e).2) fun o e => ?_
    have e' : some o = some (seqObj "list" vs.toArray 0) := e.symm.trans ha
    cases e'
    intro c
    exact absurd (Value.type.inj c) (by decide)
  · exact h _ _ out hs hb (fun b o e => sortedAll_old e) (Nat.le_succ _) (sortedAll_at s.heap vs out.toArray)
end
/-- insertion -/
def ins {α : Type} (lt : α → α → Bool) (x : α) : List α → List α
  | [] => [x]
  | y :: l => if lt x y = true then x :: y :: l else y :: ins lt x l
def isort {α : Type} (lt : α → α → Bool) : List α → List α
  | [] => []
  | x :: l => ins lt x (isort lt l)
theorem ins_perm {α : Type} {lt : α → α → Bool} {x : α} : ∀ l : List α, (ins lt x l).Perm (x :: l)
  | [] => .refl _
  | y :: l => by
    unfold ins
    by_cases h : lt x y = true
    · rw [if_pos h]
    · rw [if_neg h]
      exact ((ins_perm l).cons y).trans (.swap ..)
theorem isort_perm {α : Type} {lt : α → α → Bool} : ∀ l : List α, (isort lt l).Perm l
  | [] => .refl _
  | x :: l => (ins_perm _).trans ((isort_perm l).cons x)
theorem ins_srtd {α : Type} {lt : α → α → Bool} (O : Swo lt) {x : α} : ∀ {l : List α}, Srtd lt l → Srtd lt (ins lt x l)
  | [], _ => srtd_one x
  | y :: l, h => by
    unfold ins
    by_cases q : lt x y = true
    · rw [if_pos q]
      exact List.pairwise_cons.mpr ⟨fun z hz => O.asym _ _ (O.lt_all h q z hz), h⟩
    · rw [if_neg q]
      have hq : lt x y = false := by cases e : lt x y; rfl; exact absurd e q
      refine List.pairwise_cons.mpr ⟨fun z hz => ?_, ins_srtd O (List.pairwise_cons.mp h).2⟩
      rcases List.mem_cons.mp ((ins_perm l).mem_iff.mp hz) with e | hz
      · rw [e]; exact hq
      · exact srtd_head h z hz
theorem isort_srtd {α : Type} {lt : α → α → Bool} (O : Swo lt) : ∀ l : List α, Srtd lt (isort lt l)
  | [] => List.Pairwise.nil
  | x :: l => ins_srtd O (isort_srtd O l)
theorem perm_uniq {α : Type} {lt : α → α → Bool} (O : Swo lt) (tri : ∀ x y, lt x y = false → lt y x = false → x = y) : ∀ {l m : List α}, Srtd lt l → Srtd lt m → l.Perm m → l = m
  | [], m, _, _, h => (List.Perm.eq_nil h.symm).symm
  | x :: l, [], _, _, h => absurd h.length_eq (by simp)
  | x :: l, y :: m, hl, hm, h => by
    have h1 : lt x y = false := by
      rcases List.mem_cons.mp (h.mem_iff.mp (List.mem_cons_self (a := x) (l := l))) with e | hx
      · rw [e]; exact O.refl y
      · exact srtd_head hm x hx
    have h2 : lt y x = false := by
      rcases List.mem_cons.mp (h.mem_iff.mpr (List.mem_cons_self (a := y) (l := m))) with e | hy
      · rw [e]; exact O.refl x
      · exact srtd_head hl y hy
    have e := tri x y h1 h2
    subst e
    rw [perm_uniq O tri (List.pairwise_cons.mp hl).2 (List.pairwise_cons.mp hm).2 h.cons_inv]
end SrtQ
namespace DL
open PySem PySem.Spec PyProof.Rows L2
variable [TabCtx]
/-- sorted of pairs of a text and an int -/
def rSortSI (K : KW) : List L2.V → Hp → VK → Prop := fun vs H Q => ∃ (a : Addr) (xs : List L2.V) (k : L2.V → Str × Int), vs = [V.ref a] ∧ SqL K H a xs ∧ (∀ x ∈ xs, ∃ t, x = V.ref t ∧ SqT K H t [.str (k x).1, .int (k x).2]) ∧
  ∀ ys p, SrtO.Srtd (fun x y => SrtQ.lexS (k x) (k y)) ys → ys.Perm xs → H p = none → Q (.ref p) (upd H p (.lst ys))
theorem cr_sortSI {X : Cx} : CallR X (.builtin "sorted") (rSortSI X.kw) := by
  intro pins s σ H vs us Q I r h
  obtain ⟨a, xs, k, rfl, hs, hx, q⟩ := h
  obtain ⟨its, rv, hl, hz⟩ := I.list hs
  obtain ⟨u, rfl, ru⟩ := vals1 r
  obtain rfl : u = Value.ref a := ru
  obtain ⟨e1, e2⟩ := refs_back rv fun x m => by
    obtain ⟨t, e, _⟩ := hx x m
    exact ⟨t, e⟩
  refine SrtQ.sorted_si (k := fun u => k (backV u)) hl.isList (by rw [← rv.length]; exact hz) (fun v hv => ?_) fun h' d out h1 h2 kp hd hn => ?_
  · obtain ⟨t, rfl⟩ := e2 v hv
    have hm : V.ref t ∈ xs := by rw [e1]; exact List.mem_map.mpr ⟨_, hv, rfl⟩
    obtain ⟨t', e, ht⟩ := hx _ hm
    cases e
    obtain ⟨its2, r2, ⟨o, ho, hc, n, hd⟩, _⟩ := I.tuple ht
    obtain ⟨u1, u2, rfl, ri, rj⟩ := vals2 r2
    obtain ⟨t1, rfl⟩ := ri
    obtain ⟨t2, rfl⟩ := rj
    exact ⟨t, o, t1, t2, n, rfl, ho, hc, hd⟩
  · have h3 : ∀ u ∈ out, ∃ a, u = Value.ref a := fun u hu => e2 u (h2.perm.mem_iff.mp hu)
    obtain ⟨n, hn⟩ := hn
    have hb : (out.map backV).Perm xs := by
      rw [e1]
      exact h2.perm.map backV
    refine ⟨.ref d, upd H d (.lst (out.map backV)), I.laid (t' := s.toks) kp hd ⟨?_, out, n, vals_back h3, hn⟩, rfl, q _ d (List.pairwise_map.mpr h1) hb (I.hok.fresh hd)⟩
    rw [hb.length_eq]
    exact hz
def rSortST (K : KW) : List L2.V → Hp → VK → Prop := fun vs H Q => ∃ (a : Addr) (xs : List L2.V) (k : L2.V → Str × Int), vs = [V.ref a] ∧ SqT K H a xs ∧ (∀ x ∈ xs, ∃ t, x = V.ref t ∧ SqT K H t [.str (k x).1, .int (k x).2]) ∧
  ∀ ys p, SrtO.Srtd (fun x y => SrtQ.lexS (k x) (k y)) ys → ys.Perm xs → H p = none → Q (.ref p) (upd H p (.lst ys))
theorem cr_sortST {X : Cx} : CallR X (.builtin "sorted") (rSortST X.kw) := by
  intro pins s σ H vs us Q I r h
  obtain ⟨a, xs, k, rfl, hs, hx, q⟩ := h
  obtain ⟨its, rv, ⟨o0, ho0, hc0, n0, hd0⟩, hz⟩ := I.tuple hs
  obtain ⟨u, rfl, ru⟩ := vals1 r
  obtain rfl : u = Value.ref a := ru
  obtain ⟨e1, e2⟩ := refs_back rv fun x m => by
    obtain ⟨t, e, _⟩ := hx x m
    exact ⟨t, e⟩
  refine SrtQ.sorted_sq (k := fun u => k (backV u)) (.inr rfl) ho0 hc0 hd0 (by rw [← rv.length]; exact hz) (fun v hv => ?_) fun h0 h' d out kp0 h1 h2 kp hd hn => ?_
  · obtain ⟨t, rfl⟩ := e2 v hv
    have hm : V.ref t ∈ xs := by rw [e1]; exact List.mem_map.mpr ⟨_, hv, rfl⟩
    obtain ⟨t', e, ht⟩ := hx _ hm
    cases e
    obtain ⟨its2, r2, ⟨o, ho, hc, n, hd⟩, _⟩ := I.tuple ht
    obtain ⟨u1, u2, rfl, ri, rj⟩ := vals2 r2
    obtain ⟨t1, rfl⟩ := ri
    obtain ⟨t2, rfl⟩ := rj
    exact ⟨t, o, t1, t2, n, rfl, ho, hc, hd⟩
  · have h3 : ∀ u ∈ out, ∃ a, u = Value.ref a := fun u hu => e2 u (h2.perm.mem_iff.mp hu)
    obtain ⟨n, hn⟩ := hn
    have hb : (out.map backV).Perm xs := by
      rw [e1]
      exact h2.perm.map backV
    have I0 : Inv X pins σ H { s with heap := h0, toks := s.toks } := I.kept kp0
    refine ⟨.ref d, upd H d (.lst (out.map backV)), I0.laid (t' := s.toks) kp hd ⟨?_, out, n, vals_back h3, hn⟩, rfl, q _ d (List.pairwise_map.mpr h1) hb (I0.hok.fresh hd)⟩
    rw [hb.length_eq]
    exact hz
def rSortAll (K : KW) : List L2.V → Hp → VK → Prop := fun vs H Q => rSortSI K vs H Q ∨ rSortST K vs H Q
theorem cr_sortAll {X : Cx} : CallR X (.builtin "sorted") (rSortAll X.kw) := by
  intro pins s σ H vs us Q I r h
  rcases h with h | h
  · exact cr_sortSI pins s σ H vs us Q I r h
  · exact cr_sortST pins s σ H vs us Q I r h
def siOf : PyData → Option (Str × Int)
  | .tuple [.str x, .int i] => some (x, i)
  | _ => none
def siD (p : Str × Int) : PyData := .tuple [.str p.1, .int p.2]
def gSorted : List PyData → Option PyData
  | [.list ds] => (ds.mapM siOf).map fun ks => .list ((SrtQ.isort SrtQ.lexS ks).map siD)
  | [.tuple ds] => (ds.mapM siOf).map fun ks => .list ((SrtQ.isort SrtQ.lexS ks).map siD)
  | _ => none
theorem siOf_some {d : PyData} {p : Str × Int} (h : siOf d = some p) : d = siD p := by
  unfold siOf at h
  split at h
  · cases h; rfl
  · cases h
theorem mapM_si : ∀ {ds : List PyData} {ks : List (Str × Int)}, ds.mapM siOf = some ks → ds = ks.map siD
  | [], ks, h => by simp at h; subst h; rfl
  | d :: ds, ks, h => by
    rw [List.mapM_cons] at h
    cases e : siOf d with
    | none => rw [e] at h; cases h
    | some p =>
      rw [e] at h
      cases e2 : ds.mapM siOf with
      | none => rw [e2] at h; cases h
      | some r =>
        rw [e2] at h
        have h : some (p :: r) = some ks := h
        cases h
        rw [siOf_some e, mapM_si e2]
        rfl
theorem rep_si {K : KW} {V : Hp} {x : L2.V} {p : Str × Int} (h : Rep K V x (siD p)) : ∃ t, x = .ref t ∧ V t = some (.tup [.str p.1, .int p.2]) := by
  cases h with
  | @tup a xs ds ha ra =>
    refine ⟨a, rfl, ?_⟩
    cases ra with
    | cons r1 r2 =>
      cases r2 with
      | cons r2 r3 =>
        cases r3
        cases r1
        cases r2
        exact ha
theorem siD_inj {p q : Str × Int} (h : siD p = siD q) : p = q := by
  unfold siD at h
  injection h with h
  injection h with h1 h2
  injection h1 with h1
  injection h2 with h2
  injection h2 with h2
  exact Prod.ext h1 h2
theorem rep_si_inj {K : KW} {V : Hp} {x : L2.V} {p q : Str × Int} (h : Rep K V x (siD p)) (h' : Rep K V x (siD q)) : p = q := by
  obtain ⟨t, e1, e2⟩ := rep_si h
  obtain ⟨t', e3, e4⟩ := rep_si h'
  rw [e1] at e3
  cases e3
  rw [e2] at e4
  injection e4 with e4
  injection e4 with e4
  injection e4 with e5 e6
  injection e5 with e5
  injection e6 with e6
  injection e6 with e6
  exact Prod.ext e5 e6
theorem repL_mem {K : KW} {V : Hp} : ∀ {ys : List L2.V} {ks : List (Str × Int)}, RepL K V ys (ks.map siD) → ∀ y ∈ ys, ∃ p, Rep K V y (siD p)
  | [], _, _, _, hy => by cases hy
  | y :: ys, [], h, _, _ => by cases h
  | y :: ys, p :: ks, h, z, hz => by
    cases h with
    | cons r1 r2 =>
      rcases List.mem_cons.mp hz with e | hz
      · rw [e]; exact ⟨p, r1⟩
      · exact repL_mem r2 z hz
theorem repL_keys {K : KW} {V : Hp} {k : L2.V → Str × Int} : ∀ {ys : List L2.V} {ks : List (Str × Int)}, RepL K V ys (ks.map siD) → (∀ y ∈ ys, ∀ p, Rep K V y (siD p) → k y = p) → ys.map k = ks
  | [], [], _, _ => rfl
  | [], _ :: _, h, _ => by cases h
  | _ :: _, [], h, _ => by cases h
  | y :: ys, p :: ks, h, hk => by
    cases h with
    | cons r1 r2 => rw [List.map_cons, hk y List.mem_cons_self p r1, repL_keys r2 fun z hz => hk z (List.mem_cons_of_mem _ hz)]
theorem keys_repL {K : KW} {V : Hp} {k : L2.V → Str × Int} : ∀ {ys : List L2.V}, (∀ y ∈ ys, Rep K V y (siD (k y))) → RepL K V ys ((ys.map k).map siD)
  | [], _ => .nil
  | y :: ys, h => .cons (h y List.mem_cons_self) (keys_repL fun z hz => h z (List.mem_cons_of_mem _ hz))
open Classical in
theorem siKey (K : KW) (V : Hp) : ∃ k : L2.V → Str × Int, ∀ v p, Rep K V v (siD p) → k v = p :=
  ⟨fun v => if h : ∃ p, Rep K V v (siD p) then Classical.choose h else (Str.empty, 0), fun v p h => by
    have hex : ∃ p, Rep K V v (siD p) := ⟨p, h⟩
    show (if h : ∃ p, Rep K V v (siD p) then Classical.choose h else (Str.empty, 0)) = p
    rw [dif_pos hex]
    exact rep_si_inj (Classical.choose_spec hex) h⟩
theorem cd_sorted {K : KW} : CallD K (rSortAll K) gSorted := by
  intro xs ds z H V Q s r e q
  cases r with
  | nil => cases e
  | cons r1 r2 =>
    cases r2 with
    | cons _ _ => cases r1 <;> cases e
    | nil =>
      cases r1 with
      | @lst a ys es ha ra =>
        have e : (es.mapM siOf).map (fun ks => PyData.list ((SrtQ.isort SrtQ.lexS ks).map siD)) = some z := e
        obtain ⟨ks, hk, rfl⟩ := Option.map_eq_some_iff.mp e
        have he := mapM_si hk
        subst he
        obtain ⟨k, kk⟩ := siKey K V
        have km : ∀ y ∈ ys, Rep K V y (siD (k y)) := fun y hy => by
          obtain ⟨p, hp⟩ := repL_mem ra y hy
          rw [kk y p hp]
          exact hp
        refine Or.inl ⟨a, ys, k, rfl, .inl (.inl (s _ _ ha)), fun y hy => ?_, fun out p h1 h2 hp => ?_⟩
        · obtain ⟨t, e1, e2⟩ := rep_si (km y hy)
          exact ⟨t, e1, .inl (.inl (s _ _ e2))⟩
        · have e1 : out.map k = SrtQ.isort SrtQ.lexS ks := by
            refine SrtQ.perm_uniq SrtQ.swo_lexS' (fun x y => SrtQ.lexS_tri) (List.pairwise_map.mpr h1) (SrtQ.isort_srtd SrtQ.swo_lexS' ks) ?_
            rw [← repL_keys (k := k) ra fun y _ p h => kk y p h]
            exact (h2.map k).trans (SrtQ.isort_perm _).symm
          rw [← e1] at q
          exact q _ _ _ (Ext.new s hp) (new_lst s hp (keys_repL fun y hy => km y (h2.mem_iff.mp hy)))
      | @tup a ys es ha ra =>
        have e : (es.mapM siOf).map (fun ks => PyData.list ((SrtQ.isort SrtQ.lexS ks).map siD)) = some z := e
        obtain ⟨ks, hk, rfl⟩ := Option.map_eq_some_iff.mp e
        have he := mapM_si hk
        subst he
        obtain ⟨k, kk⟩ := siKey K V
        have km : ∀ y ∈ ys, Rep K V y (siD (k y)) := fun y hy => by
          obtain ⟨p, hp⟩ := repL_mem ra y hy
          rw [kk y p hp]
          exact hp
        refine Or.inr ⟨a, ys, k, rfl, sqt s ha, fun y hy => ?_, fun out p h1 h2 hp => ?_⟩
        · obtain ⟨t, e1, e2⟩ := rep_si (km y hy)
          exact ⟨t, e1, .inl (.inl (s _ _ e2))⟩
        · have e1 : out.map k = SrtQ.isort SrtQ.lexS ks := by
            refine SrtQ.perm_uniq SrtQ.swo_lexS' (fun x y => SrtQ.lexS_tri) (List.pairwise_map.mpr h1) (SrtQ.isort_srtd SrtQ.swo_lexS' ks) ?_
            rw [← repL_keys (k := k) ra fun y _ p h => kk y p h]
            exact (h2.map k).trans (SrtQ.isort_perm _).symm
          rw [← e1] at q
          exact q _ _ _ (Ext.new s hp) (new_lst s hp (keys_repL fun y hy => km y (h2.mem_iff.mp hy)))
      | _ => cases e
def flatLt : PyData → PyData → Option Bool
  | .int i, .int j => some (decide (i < j))
  | .str x, .str y => some (SrtQ.ltS x y)
  | _, _ => none
/-- lexical order of tuples of flat data -/
def lexD : List PyData → List PyData → Option Bool
  | [], [] => some false
  | [], _ :: _ => some true
  | _ :: _, [] => some false
  | x :: xs, y :: ys => (flatLt x y).bind fun b => (lexD xs ys).map fun c => if PyData.eqv x y = true then c else b
def gLt : PyData → PyData → Option PyData
  | .tuple xs, .tuple ys => (lexD xs ys).map .bool
  | x, y => (flatLt x y).map .bool
end DL
namespace DL
open PySem PySem.Spec PyProof.Rows L2
variable [TabCtx]
def fltV : L2.V → L2.V → Option Bool
  | .int i, .int j => some (decide (i < j))
  | .str x, .str y => some (SrtQ.ltS x y)
  | _, _ => none
def lexV : List L2.V → List L2.V → Option Bool
  | [], [] => some false
  | [], _ :: _ => some true
  | _ :: _, [] => some false
  | x :: xs, y :: ys => (fltV x y).bind fun b => (lexV xs ys).map fun c => if eqV x y = true then c else b
theorem lexV_cons {x y : L2.V} {xs ys : List L2.V} {b : Bool} (h : lexV (x :: xs) (y :: ys) = some b) : ∃ c d, fltV x y = some c ∧ lexV xs ys = some d ∧ b = if eqV x y = true then d else c := by
  have h : (fltV x y).bind (fun b => (lexV xs ys).map fun c => if eqV x y = true then c else b) = some b := h
  cases e1 : fltV x y with
  | none => rw [e1] at h; cases h
  | some c =>
    rw [e1] at h
    cases e2 : lexV xs ys with
    | none => rw [e2] at h; cases h
    | some d => rw [e2] at h; exact ⟨c, d, rfl, rfl, (Option.some.inj h).symm⟩
theorem lexV_flat : ∀ {xs ys : List L2.V} {b : Bool}, lexV xs ys = some b → ∀ (j : Nat) (x y : L2.V), xs[j]? = some x → ys[j]? = some y → ∃ c, fltV x y = some c
  | [], _, _, _, j, x, y, h1, _ => by simp at h1
  | _ :: _, [], _, _, j, x, y, _, h2 => by simp at h2
  | x :: xs, y :: ys, b, h, 0, u, v, h1, h2 => by
    cases h1; cases h2
    obtain ⟨c, d, e, _⟩ := lexV_cons h
    exact ⟨c, e⟩
  | x :: xs, y :: ys, b, h, j + 1, u, v, h1, h2 => by
    obtain ⟨c, d, _, e, _⟩ := lexV_cons h
    exact lexV_flat e j u v (by simpa using h1) (by simpa using h2)
theorem lexV_at {e r : Nat → Bool} {z : Bool} : ∀ {xs ys : List L2.V} {b : Bool} (i : Nat), lexV xs ys = some b → z = decide (xs.length < ys.length) → (∀ (j : Nat) (x y : L2.V), xs[j]? = some x → ys[j]? = some y → e (i + j) = eqV x y ∧ r (i + j) = (fltV x y).getD false) →
    Ob.lexAt e r z i (min xs.length ys.length) = b
  | [], [], b, i, h, hz, _ => by cases h; rw [hz]; rfl
  | [], _ :: _, b, i, h, hz, _ => by cases h; rw [hz]; simp [Ob.lexAt_zero]
  | _ :: _, [], b, i, h, hz, _ => by cases h; rw [hz]; simp [Ob.lexAt_zero]
  | x :: xs, y :: ys, b, i, h, hz, ht => by
    obtain ⟨c, d, h1, h2, rfl⟩ := lexV_cons h
    have m : min (x :: xs).length (y :: ys).length = min xs.length ys.length + 1 := by simp only [List.length_cons]; omega
    rw [m, Ob.lexAt_succ]
    obtain ⟨t1, t2⟩ := ht 0 x y rfl rfl
    rw [Nat.add_zero] at t1 t2
    rw [t1, t2, h1]
    by_cases q : eqV x y = true
    · rw [if_pos q, if_pos q]
      refine lexV_at (i + 1) h2 (by rw [hz]; simp) fun j u v hu hv => ?_
      have := ht (j + 1) u v (by simpa using hu) (by simpa using hv)
      rw [show i + 1 + j = i + (j + 1) by omega]
      exact this
    · rw [if_neg q, if_neg q]; rfl
theorem fltV_flat {x y : L2.V} {c : Bool} (h : fltV x y = some c) : flatV x = true ∧ flatV y = true := by
  cases x <;> cases y <;> first | exact ⟨rfl, rfl⟩ | cases h
theorem rc_flt {A : Around} {s : Shared} {x y : L2.V} {u v : Value} {c : Bool} (rx : RelV x u) (ry : RelV y v) (h : fltV x y = some c) : Ob.RcOp .Lt A s u v c := by
  cases x with
  | int i =>
    cases y with
    | int j =>
      cases h
      obtain ⟨t, rfl⟩ := rx
      obtain ⟨t', rfl⟩ := ry
      exact Ob.RcOp.lt_int _ _ _ _
    | _ => cases h
  | str i =>
    cases y with
    | str j =>
      cases h
      obtain ⟨t, rfl⟩ := rx
      obtain ⟨t', rfl⟩ := ry
      exact fun _ _ _ _ h => lt_str h
    | _ => cases h
  | _ => cases h
def rLtTD (K : KW) : R2 := fun x y H Q => ∃ (a b : Addr) (xs ys : List L2.V) (c : Bool), x = .ref a ∧ y = .ref b ∧ SqT K H a xs ∧ SqT K H b ys ∧ lexV xs ys = some c ∧ Q (.bl c) H
theorem op_ltTD {X : Cx} (hu : X.A.units < cLine) : OpR X (compareOp .Lt) (rLtTD X.kw) := by
  intro pins s σ H x y v u Q I rx ry h
  obtain ⟨a, b, xs, ys, c, rfl, rfl, ha, hb, hl, q⟩ := h
  cases rx
  cases ry
  obtain ⟨its, r1, p1, _⟩ := I.tuple ha
  obtain ⟨its2, r2, p2, _⟩ := I.tuple hb
  have at1 : ∀ j (h1 : j < its.toArray.size), ∃ x, xs[j]? = some x ∧ RelV x its.toArray[j] := fun j h1 => by
    have h1' : j < xs.length := by rw [r1.length]; simpa using h1
    obtain ⟨u, e1, e2⟩ := r1.get (List.getElem?_eq_getElem h1')
    have e3 : its.toArray[j] = u := by
      have : its[j]? = some its.toArray[j] := by simp
      rw [e1] at this
      exact (Option.some.inj this).symm
    exact ⟨_, List.getElem?_eq_getElem h1', by rw [e3]; exact e2⟩
  have at2 : ∀ j (h1 : j < its2.toArray.size), ∃ x, ys[j]? = some x ∧ RelV x its2.toArray[j] := fun j h1 => by
    have h1' : j < ys.length := by rw [r2.length]; simpa using h1
    obtain ⟨u, e1, e2⟩ := r2.get (List.getElem?_eq_getElem h1')
    have e3 : its2.toArray[j] = u := by
      have : its2[j]? = some its2.toArray[j] := by simp
      rw [e1] at this
      exact (Option.some.inj this).symm
    exact ⟨_, List.getElem?_eq_getElem h1', by rw [e3]; exact e2⟩
  have e1 : its.toArray.size = xs.length := by rw [List.size_toArray]; exact r1.length.symm
  have e2 : its2.toArray.size = ys.length := by rw [List.size_toArray]; exact r2.length.symm
  have R := Ob.RcOp.tuples_lt (A := X.A) (s := s) (e := fun j => eqV (xs.getD j .non) (ys.getD j .non)) (r := fun j => (fltV (xs.getD j .non) (ys.getD j .non)).getD false) p1 p2 hu (fun j h1 h2 => by
    obtain ⟨x, g1, r1⟩ := at1 j h1
    obtain ⟨y, g2, r2⟩ := at2 j h2
    obtain ⟨c, hc⟩ := lexV_flat hl j x y g1 g2
    obtain ⟨f1, f2⟩ := fltV_flat hc
    show SeqAt.EqAt _ _ _ _ (eqV (xs.getD j .non) (ys.getD j .non))
    rw [List.getD_eq_getElem?_getD, List.getD_eq_getElem?_getD, g1, g2]
    exact eqAt_V r1 r2 f1 f2) (fun j h1 h2 _ => by
    obtain ⟨x, g1, r1⟩ := at1 j h1
    obtain ⟨y, g2, r2⟩ := at2 j h2
    obtain ⟨c, hc⟩ := lexV_flat hl j x y g1 g2
    show Ob.RcOp .Lt _ _ _ _ ((fltV (xs.getD j .non) (ys.getD j .non)).getD false)
    rw [List.getD_eq_getElem?_getD, List.getD_eq_getElem?_getD, g1, g2]
    show Ob.RcOp .Lt _ _ _ _ ((fltV x y).getD false)
    rw [hc]
    exact rc_flt r1 r2 hc)
  rw [e1, e2, lexV_at 0 hl rfl (fun j x y h1 h2 => by
    rw [Nat.zero_add, List.getD_eq_getElem?_getD, List.getD_eq_getElem?_getD, h1, h2]
    exact ⟨rfl, rfl⟩)] at R
  have z : wpAny (model X.prog X.w) X.A (compareOp .Lt (.ref a) (.ref b)) (EP X pins σ Q) X.xe s := R X.prog X.w X.xe (EP X pins σ Q) ⟨.bl _, H, I, rfl, q⟩
  exact z
def rLtAll (K : KW) : R2 := fun x y H Q => (rI0 fun i j => .bl (decide (i < j))) x y H Q ∨ ((∃ i j, x = .str i ∧ y = .str j ∧ Q (.bl (decide (i.cps.toList < j.cps.toList))) H) ∨ rLtTD K x y H Q)
theorem op_ltAll {X : Cx} (hu : X.A.units < cLine) : OpR X (compareOp .Lt) (rLtAll X.kw) := op_lt.or (op_lt_str.or (op_ltTD hu))
theorem flt_rep {K : KW} {V : Hp} {x y : L2.V} {dx dy : PyData} {b : Bool} (rx : Rep K V x dx) (ry : Rep K V y dy) (h : flatLt dx dy = some b) : fltV x y = some b ∧ eqV x y = PyData.eqv dx dy := by
  cases rx with
  | int i => cases ry with
    | int j => exact ⟨h, by rw [PyData.eqv]; rfl⟩
    | _ => cases h
  | str i => cases ry with
    | str j => exact ⟨h, by rw [PyData.eqv]; rfl⟩
    | _ => cases h
  | _ => cases ry <;> cases h
theorem lex_rep {K : KW} {V : Hp} : ∀ {xs ys : List L2.V} {ds es : List PyData} {b : Bool}, RepL K V xs ds → RepL K V ys es → lexD ds es = some b → lexV xs ys = some b
  | _, _, _, _, _, .nil, .nil, h => h
  | _, _, _, _, _, .nil, .cons _ _, h => h
  | _, _, _, _, _, .cons _ _, .nil, h => h
  | _, _, _, _, b, @RepL.cons _ _ x xs dx ds rx r1, @RepL.cons _ _ y ys dy es ry r2, h => by
    have h : (flatLt dx dy).bind (fun b => (lexD ds es).map fun c => if PyData.eqv dx dy = true then c else b) = some b := h
    cases e1 : flatLt dx dy with
    | none => rw [e1] at h; cases h
    | some c =>
      rw [e1] at h
      cases e2 : lexD ds es with
      | none => rw [e2] at h; cases h
      | some d =>
        rw [e2] at h
        obtain ⟨f1, f2⟩ := flt_rep rx ry e1
        show (fltV x y).bind (fun b => (lexV xs ys).map fun c => if eqV x y = true then c else b) = some b
        rw [f1, lex_rep r1 r2 e2, f2]
        exact h
theorem od_lt {K : KW} : OpD K (rLtAll K) gLt := by
  intro x y dx dy z H V Q s rx ry e q
  cases rx with
  | int i => cases ry with
    | int j => cases e; exact .inl ⟨i, j, rfl, rfl, q _ _ _ (Ext.refl s) (.bl _)⟩
    | _ => cases e
  | str i => cases ry with
    | str j => cases e; exact .inr (.inl ⟨i, j, rfl, rfl, q _ _ _ (Ext.refl s) (.bl _)⟩)
    | _ => cases e
  | @tup a xs ds ha ra => cases ry with
    | @tup b ys es hb rb =>
      have e : (lexD ds es).map PyData.bool = some z := e
      obtain ⟨c, hc, rfl⟩ := Option.map_eq_some_iff.mp e
      exact .inr (.inr ⟨a, b, xs, ys, c, rfl, rfl, sqt s ha, sqt s hb, lex_rep ra rb hc, q _ _ _ (Ext.refl s) (.bl _)⟩)
    | _ => cases e
  | _ => cases ry <;> cases e
end DL
set_option Elab.async false
set_option linter.all false
set_option maxRecDepth 100000
set_option maxHeartbeats 1000000
namespace PySem
open Sem (wp)
theorem meets_enumerate_newB1 {v : Value} {o : Obj} {H : Heap → Prop} (B : Begins v o H) :
    Meets (Builtin.«enumerate.__new__» ⟨[.type "enumerate", v], []⟩) (fun _ R s => H s.heap ∧
      R (.ok (.ret (.ref (s.heap.push o).objs.size))) { s with heap := (s.heap.push o).push { cls := .type "enumerate", data := .fields #[.none, .bool false, .ref s.heap.objs.size, rawInt 0, .none, .none] } }) :=
  .of_wp fun prog w A R s h => by
    obtain ⟨hp, g, d, tk, os⟩ := s; obtain ⟨h1, h⟩ := h
    have hsub := sub_enumerate
    have q1 : ∀ {A' : Around} {E : Value → Shared → Prop} {Q : Value → Shared → Prop}, Q (.ref hp.objs.size) ⟨hp.push o, g, d, tk, os⟩ → wpAny (model prog w) A' (pyIter v) Q E ⟨hp, g, d, tk, os⟩ :=
      fun q => B.iter prog w _ _ ⟨hp, g, d, tk, os⟩ _ h1 q
    wp_walk using q1
    refine wpAny_stack_any fun st => wpAny_pure ?_
    split
    · rename_i c _ _ _ _ _
      cases (c == Value.type "enumerate")
      · wp_walk using q1
        exact ⟨_, rfl, h⟩
      · wp_walk using q1
        exact ⟨_, rfl, h⟩
    · wp_walk using q1
      exact ⟨_, rfl, h⟩
theorem call_enumerate_tuple {prog : Program} {w : World} {A : Around} {E : Value → Shared → Prop} {s : Shared} {l : Addr} {items : Array Value} {Q : Value → Shared → Prop} (hL : s.heap.IsTuple l items)
    (h : ∀ h', IsEnum h' (s.heap.objs.size + 1) s.heap.objs.size 0 .none → h'.IsTupleIter s.heap.objs.size l 0 → h'.objs.size = s.heap.objs.size + 2 →
      (∀ b o, s.heap.get? b = some o → h'.get? b = some o) → Q (.ref (s.heap.objs.size + 1)) { s with heap := h' }) :
    wpAny (model prog w) A (call (.type "enumerate") [.ref l]) Q E s := by
  refine callType_new F.called_enumerate (by decide) (F.typeCall_enumerate_1 _) (F.newCall_enumerate_1 _) (fun obj => F.args_object_init_2 obj _) F.entry_enumerate_new
    (meets_enumerate_newB1 (begins_tuple l items)) ⟨hL, ?_⟩
  have hz : (s.heap.push { cls := .type "tuple_iterator", data := .fields #[.ref l, .int 0 0] }).objs.size = s.heap.objs.size + 1 := Heap.size_push ..
  show _ ∧ _
  rw [hz]
  have he : IsEnum ((s.heap.push { cls := .type "tuple_iterator", data := .fields #[.ref l, .int 0 0] }).push
      { cls := .type "enumerate", data := .fields #[.none, .bool false, .ref s.heap.objs.size, rawInt 0, .none, .none] }) (s.heap.objs.size + 1) s.heap.objs.size 0 .none := by
    have := Heap.get?_push_size (s.heap.push { cls := .type "tuple_iterator", data := .fields #[.ref l, .int 0 0] })
      (o := { cls := .type "enumerate", data := .fields #[.none, .bool false, .ref s.heap.objs.size, rawInt 0, .none, .none] }) rfl
    rw [hz] at this; exact this
  refine ⟨⟨_, he, rfl⟩, h _ he ⟨_, Heap.get?_push_of_some _ (Heap.get?_push_size _ rfl), rfl, rfl⟩ (by rw [Heap.size_push, hz]) fun b o x => Heap.get?_push_of_some _ (Heap.get?_push_of_some _ x)⟩
end PySem
namespace DL
open PySem PySem.Spec PyProof.Rows L2
variable [TabCtx]
/-- the tuple at a, each item in a new pair -/
def IteT (K : PySem.W.Frag) (a : Addr) : It :=
  ⟨fun i H => ∃ (xs : List L2.V) (x : L2.V), SqT K H a xs ∧ xs[i]? = some x, fun i H v H' => ∃ T x, v = .ref T ∧ H T = none ∧ H' = upd H T (.tup [.int (i : Nat), x]) ∧ ∀ xs, SqT K H a xs → xs[i]? = some x, fun i H => ∃ xs : List L2.V, SqT K H a xs ∧ xs.length = i⟩
theorem turn_enumT {P : Program} {w : World} {K : PySem.W.Frag} {elts : List Expr} {kk : Nat} {tpos : Pos} (a e it : Addr) (hai : a ≠ it) (hae : e ≠ a) :
    Turn P w K (.Tuple elts kk tpos) (IteT K a) [e, it] e (fun i h => (∃ old, IsEnum h e it ((i : Nat) : Int) old) ∧ h.IsTupleIter it a i ∧ e ≠ it) where
  mem := by simp
  obj := fun i h st b hb => by
    obtain ⟨⟨old, he⟩, ⟨o, ho, hc, hd⟩, _⟩ := st
    have e' : b = e ∨ b = it := by simpa using hb
    rcases e' with z | z
    · rw [z]; exact ⟨_, he, fun v q => nomatch q⟩
    · rw [z]; exact ⟨o, ho, fun v q => by rw [hd] at q; cases q⟩
  keep := fun i h h' st k => let ⟨⟨old, he⟩, hi, hne⟩ := st; ⟨⟨old, k e (by simp) _ he⟩, hi.at fun o q => k it (by simp) o q, hne⟩
  item := by
    intro X hP hw hK hc i pins s σ H E I hf st hg
    subst hP hw hK
    obtain ⟨⟨old, he⟩, hit, hne⟩ := st
    obtain ⟨xs, x, hq, hx⟩ := hg
    obtain ⟨its, rv, p, hz⟩ := I.tuple hq
    obtain ⟨u, hu, ru⟩ := rv.get hx
    have hel : e < s.heap.objs.size := Heap.lt_size he
    have hil : it < s.heap.objs.size := by obtain ⟨_, q, _⟩ := hit; exact Heap.lt_size q
    have hlt : i < its.toArray.size := by
      have := (List.getElem?_eq_some_iff.mp hu).1
      simpa using this
    have D := Draws.tuple (prog := X.prog) (w := X.w) (A := X.A.in1) (I.ok.hd hc) it a hai its.toArray
    refine wpAny_pyNext_enum_itemD D he ⟨hit, p⟩ hlt hne (by simp [hne, hae]) fun y h' tk hy ho hst' hT hsz hk => ?_
    have eyu : y = u := by
      have h1 : its.toArray[i]? = some y := hy
      rw [List.getElem?_toArray, hu] at h1
      exact (Option.some.inj h1).symm
    subst eyu
    refine ⟨_, rfl, wpAny_letOwnedTupleGo_enum (s := { s with heap := h', toks := tk + 1 }) ho fun h'' he' sb => ?_⟩
    have hT2 : h''.get? s.heap.objs.size = some { cls := .type "tuple", data := .seq #[.int i tk, y] } := (sb.2 _ (Nat.ne_of_gt hel)).trans hT
    have new : ObjOk X.prog X.w (upd H s.heap.objs.size (.tup [.int (i : Nat), x])) h'' s.heap.objs.size (.tup [.int (i : Nat), x]) :=
      ⟨by show 2 ≤ sizeLine; decide, [.int i tk, y], .cons ⟨_, rfl⟩ (.cons ru .nil), ⟨_, hT2, rfl, _, rfl⟩⟩
    have I1 : Inv X pins σ (upd H s.heap.objs.size (.tup [.int (i : Nat), x])) { s with heap := h'', toks := tk + 1 } :=
      I.turnedNew (ch := [e, it]) (fun b ob hb q => (sb.2 b (fun z => hb (by simp [z]))).trans (hk b ob (fun z => hb (by simp [z])) (fun z => hb (by simp [z])) q)) hf (Nat.le_refl _) new
    refine ⟨.ref s.heap.objs.size, _, I1, rfl, ⟨_, x, rfl, I.hok.fresh (Nat.le_refl _), rfl, fun ys hy => by rw [I.tuple_inj hy hq]; exact hx⟩, ⟨⟨y, ?_⟩, hst'.1.at fun o q => (sb.2 it (Ne.symm hne)).trans q, hne⟩, fun b hb => ?_⟩
    · have e1 : ((i + 1 : Nat) : Int) = (i : Int) + 1 := by omega
      rw [e1]; exact he'
    · have hb' : b < s.heap.objs.size := by
        have e' : b = e ∨ b = it := by simpa using hb
        rcases e' with z | z
        · rw [z]; exact hel
        · rw [z]; exact hil
      rw [upd_ne (Nat.ne_of_lt hb')]
      exact (hf b hb).1
  done := by
    intro X hP hw hK hc i pins s σ H E I hf st hg
    subst hP hw hK
    obtain ⟨⟨old, he⟩, hit, hne⟩ := st
    obtain ⟨xs, hq, hx⟩ := hg
    obtain ⟨its, rv, p, hz⟩ := I.tuple hq
    obtain ⟨f0, f1, f2, f3, f4, f5⟩ := hf it (by simp)
    have hl := rv.length
    have D := Draws.tuple (prog := X.prog) (w := X.w) (A := X.A.in1) (I.ok.hd hc) it a hai its.toArray
    have en : i = its.toArray.size := by
      rw [List.size_toArray, ← hl]; exact hx.symm
    subst en
    exact wpAny_pyNext_enum_endD D he ⟨hit, p⟩ fun h' eb => ⟨rfl, I.turned (t' := s.toks) (fun b o hb q => eb b o hb q) f0 f1 f3 f4 f5⟩
  self := fun A i s Q E st h => let ⟨⟨_, he⟩, _⟩ := st; wpAny_pyIter_enum he h
def iEnumA (K : PySem.W.Frag) (ta : TA) : TI := fun σ H R => ta σ H fun vs H1 => ∃ a xs, vs = [.ref a] ∧ ((SqL K H1 a xs ∧ R (Ite K a) H1) ∨ (SqT K H1 a xs ∧ R (IteT K a) H1))
theorem pi_enumA {X : Cx} {e : Expr} {ta : TA} {p pos tpos : Pos} {elts : List Expr} {kk : Nat} (hg : Gl X "enumerate") (hm : X.mg "enumerate" = none) (ha : PA X [e] ta) (hs : starEach [e] X.env = [(false, eval e X.env)] := by rfl) :
    PI X (.Tuple elts kk tpos) (.Call (.Name "enumerate" p) [e] [] pos) (iEnumA X.kw ta) := by
  refine ⟨fun pins s σ H R I h => ?_⟩
  refine Call_ (ld_blt I hg hm boot_enumerate (PyProof.Rows.callWith_type1 (thn (ha.run pos pins s σ H _ I h) fun us s1 ⟨vs, H1, I1, r1, q1⟩ => ?_) hs rfl))
  obtain ⟨a, xs, ex, q1⟩ := q1
  subst ex
  cases r1 with
  | cons r rr =>
    cases rr
    cases r
    rcases q1 with ⟨hq, q⟩ | ⟨hq, q⟩
    · obtain ⟨its, rv, p', hz⟩ := I1.list hq
      refine call_enumerate_list p'.isList fun h' he hit hsz hk => wpAny_pyIter_enum he ?_
      have I2 : Inv X pins σ H1 { s1 with heap := h' } := I1.kept (t' := s1.toks) hk
      refine ⟨s1.heap.objs.size + 1, [s1.heap.objs.size + 1, s1.heap.objs.size], _, _, H1, rfl, I2, turn_enum a (s1.heap.objs.size + 1) s1.heap.objs.size, ⟨⟨.none, he⟩, hit, Nat.succ_ne_self _⟩, fun b hb => ?_, q⟩
      have e' : b = s1.heap.objs.size + 1 ∨ b = s1.heap.objs.size := by simpa using hb
      have hle : s1.heap.objs.size ≤ b := by
        rcases e' with z | z
        · rw [z]; exact Nat.le_add_right _ _
        · rw [z]; exact Nat.le_refl _
      exact I1.fpOk hle (I1.hok.fresh hle)
    · obtain ⟨its, rv, p', hz⟩ := I1.tuple hq
      have hlt : a < s1.heap.objs.size := p'.lt
      refine call_enumerate_tuple (show s1.heap.IsTuple a its.toArray from p') fun h' he hit hsz hk => wpAny_pyIter_enum he ?_
      have I2 : Inv X pins σ H1 { s1 with heap := h' } := I1.kept (t' := s1.toks) hk
      refine ⟨s1.heap.objs.size + 1, [s1.heap.objs.size + 1, s1.heap.objs.size], _, _, H1, rfl, I2, turn_enumT a (s1.heap.objs.size + 1) s1.heap.objs.size (Nat.ne_of_lt hlt) (Nat.ne_of_gt (Nat.lt_succ_of_lt hlt)), ⟨⟨.none, he⟩, hit, Nat.succ_ne_self _⟩, fun b hb => ?_, q⟩
      have e' : b = s1.heap.objs.size + 1 ∨ b = s1.heap.objs.size := by simpa using hb
      have hle : s1.heap.objs.size ≤ b := by
        rcases e' with z | z
        · rw [z]; exact Nat.le_add_right _ _
        · rw [z]; exact Nat.le_refl _
      exact I1.fpOk hle (I1.hok.fresh hle)
def enumD (i : Nat) : List PyData → List PyData
  | [] => []
  | d :: ds => .tuple [.int (i : Nat), d] :: enumD (i + 1) ds
theorem enumD_get : ∀ (ds : List PyData) (k i : Nat), (enumD k ds)[i]? = (ds[i]?).map fun d => .tuple [.int ((k + i : Nat) : Int), d]
  | [], _, _ => by simp [enumD]
  | d :: ds, k, 0 => rfl
  | d :: ds, k, i + 1 => by
    show (enumD (k + 1) ds)[i]? = _
    rw [enumD_get ds (k + 1) i, List.getElem?_cons_succ, show k + 1 + i = k + (i + 1) by omega]
theorem enumD_len : ∀ (ds : List PyData) (k : Nat), (enumD k ds).length = ds.length
  | [], _ => rfl
  | d :: ds, k => congrArg Nat.succ (enumD_len ds (k + 1))
def gEnum : List PyData → Option (List PyData)
  | [.list a] => some (enumD 0 a)
  | [.tuple a] => some (enumD 0 a)
  | _ => none
theorem itE {K : KW} {a : Addr} {xs : List L2.V} {V : Hp} {ds : List PyData} (ha : V a = some (.lst xs)) (ra : RepL K V xs ds) : ItD K (Ite K a) V (enumD 0 ds) := by
  intro i H' V' s1 s2
  have q1 : SqL K H' a xs := .inl (.inl (s2 _ _ (s1 _ _ ha)))
  refine ⟨fun d hd => ?_, fun e => ⟨xs, q1, by rw [ra.length, e, enumD_len]; exact Nat.le_refl _⟩⟩
  rw [enumD_get, Nat.zero_add] at hd
  obtain ⟨d', h1, rfl⟩ := Option.map_eq_some_iff.mp hd
  obtain ⟨v, h2, h3⟩ := ra.get i h1
  refine ⟨⟨xs, v, q1, h2⟩, fun z H'' hy => ?_⟩
  obtain ⟨T, x, rfl, hT, rfl, f⟩ := hy
  have e1 : v = x := Option.some.inj (h2.symm.trans (f xs q1))
  subst e1
  exact ⟨_, Ext.new s2 hT, new_tup s2 hT (.cons (.int _) (.cons (h3.mono s1) .nil))⟩
theorem itET {K : KW} {a : Addr} {xs : List L2.V} {V : Hp} {ds : List PyData} (ha : V a = some (.tup xs)) (ra : RepL K V xs ds) : ItD K (IteT K a) V (enumD 0 ds) := by
  intro i H' V' s1 s2
  have q1 : SqT K H' a xs := sqt s2 (s1 _ _ ha)
  refine ⟨fun d hd => ?_, fun e => ⟨xs, q1, by rw [ra.length, e, enumD_len]⟩⟩
  rw [enumD_get, Nat.zero_add] at hd
  obtain ⟨d', h1, rfl⟩ := Option.map_eq_some_iff.mp hd
  obtain ⟨v, h2, h3⟩ := ra.get i h1
  refine ⟨⟨xs, v, q1, h2⟩, fun z H'' hy => ?_⟩
  obtain ⟨T, x, rfl, hT, rfl, f⟩ := hy
  have e1 : v = x := Option.some.inj (h2.symm.trans (f xs q1))
  subst e1
  exact ⟨_, Ext.new s2 hT, new_tup s2 hT (.cons (.int _) (.cons (h3.mono s1) .nil))⟩
section
variable {X : Cx} {F : Fr} {e : Expr} {fs : M (List PyData)} {fa : M PyData} {pos p : Pos}
theorem pmi_enum {elts : List Expr} {kk : Nat} {tpos : Pos} (hm : X.mg "enumerate" = none) (ha : PMA X F [e] fs) (hg : Gl X "enumerate" := by rfl) (hs : starEach [e] X.env = [(false, eval e X.env)] := by rfl) :
    PMI X F (.Tuple elts kk tpos) (.Call (.Name "enumerate" p) [e] [] pos) (opI gEnum fs) := by
  refine PI.imp (pi_enumA hg hm ha hs) fun σ H R ⟨V, ρ, E, g0⟩ => ⟨V, ρ, E, Goal.bind g0 fun x dx H1 V1 ρ1 st1 r1 g1 => ?_⟩
  obtain ⟨z, ez, q⟩ := Goal.opt st1.env g1
  have s := st1.env.sub
  cases r1 with
  | nil => cases ez
  | cons r1 r2 =>
    cases r2 with
    | cons _ _ => cases r1 <;> cases ez
    | nil =>
      cases r1 with
      | @lst a xs ds ha ra => cases ez; exact ⟨a, xs, rfl, .inl ⟨.inl (.inl (s _ _ ha)), q _ _ _ (Ext.refl s) (itE ha ra)⟩⟩
      | @tup a xs ds ha ra => cases ez; exact ⟨a, xs, rfl, .inr ⟨sqt s ha, q _ _ _ (Ext.refl s) (itET ha ra)⟩⟩
      | _ => cases ez
end
def boolsD : List PyData → Option (List Bool)
  | [] => some []
  | .bool b :: ds => (boolsD ds).map fun bs => b :: bs
  | _ :: _ => none
theorem bools_rep {K : KW} {V : Hp} : ∀ {xs : List L2.V} {ds : List PyData} {bs : List Bool}, RepL K V xs ds → boolsD ds = some bs → xs = bs.map L2.V.bl
  | _, _, _, .nil, h => by cases h; rfl
  | _, _, bs, @RepL.cons _ _ x xs d ds r t, h => by
    cases r with
    | bl b =>
      have h : (boolsD ds).map (fun bs => b :: bs) = some bs := h
      obtain ⟨cs, h1, rfl⟩ := Option.map_eq_some_iff.mp h
      rw [bools_rep t h1]
      rfl
    | _ => cases h
def gAll : List PyData → Option PyData
  | [.list ds] => (boolsD ds).map fun bs => .bool (bs.all id)
  | _ => none
theorem cd_all {K : KW} : CallD K (rAll K) gAll := by
  intro xs ds z H V Q s r e q
  cases r with
  | nil => cases e
  | cons r1 r2 =>
    cases r2 with
    | cons _ _ => cases r1 <;> cases e
    | nil =>
      cases r1 with
      | @lst a ys es ha ra =>
        have e : (boolsD es).map (fun bs => PyData.bool (bs.all id)) = some z := e
        obtain ⟨bs, hb, rfl⟩ := Option.map_eq_some_iff.mp e
        have hy := bools_rep ra hb
        subst hy
        exact ⟨a, bs, rfl, .inl (.inl (s _ _ ha)), q _ _ _ (Ext.refl s) (.bl _)⟩
      | _ => cases e
def gTuple : List PyData → Option PyData
  | [.list ds] => some (.tuple ds)
  | [.tuple ds] => some (.tuple ds)
  | _ => none
theorem cd_tuple {K : KW} : CallD K (fun xs H Q => ∃ p ys, xs = [.ref p] ∧ ((SqL K H p ys ∧ ∀ l, H l = none → Q (.ref l) (upd H l (.tup ys))) ∨ (SqT K H p ys ∧ Q (.ref p) H))) gTuple := by
  intro xs ds z H V Q s r e q
  cases r with
  | nil => cases e
  | cons r1 r2 =>
    cases r2 with
    | cons _ _ => cases r1 <;> cases e
    | nil =>
      cases r1 with
      | @lst a ys es ha ra => cases e; exact ⟨a, ys, rfl, .inl ⟨.inl (.inl (s _ _ ha)), fun p hp => q _ _ _ (Ext.new s hp) (new_tup s hp ra)⟩⟩
      | @tup a ys es ha ra => cases e; exact ⟨a, ys, rfl, .inr ⟨sqt s ha, q _ _ _ (Ext.refl s) (.tup ha ra)⟩⟩
      | _ => cases e
def gList : List PyData → Option PyData
  | [.list ds] => some (.list ds)
  | [.tuple ds] => some (.list ds)
  | _ => none
theorem cd_list {K : KW} : CallD K (fun xs H Q => ∃ p ys, xs = [.ref p] ∧ (SqL K H p ys ∨ SqT K H p ys) ∧ ∀ l, H l = none → Q (.ref l) (upd H l (.lst ys))) gList := by
  intro xs ds z H V Q s r e q
  cases r with
  | nil => cases e
  | cons r1 r2 =>
    cases r2 with
    | cons _ _ => cases r1 <;> cases e
    | nil =>
      cases r1 with
      | @lst a ys es ha ra => cases e; exact ⟨a, ys, rfl, .inl (.inl (.inl (s _ _ ha))), fun p hp => q _ _ _ (Ext.new s hp) (new_lst s hp ra)⟩
      | @tup a ys es ha ra => cases e; exact ⟨a, ys, rfl, .inr (sqt s ha), fun p hp => q _ _ _ (Ext.new s hp) (new_lst s hp ra)⟩
      | _ => cases e
def intsD : List PyData → Option (List Int)
  | [] => some []
  | .int b :: ds => (intsD ds).map fun bs => b :: bs
  | _ :: _ => none
theorem ints_rep {K : KW} {V : Hp} : ∀ {xs : List L2.V} {ds : List PyData} {bs : List Int}, RepL K V xs ds → intsD ds = some bs → xs = bs.map L2.V.int
  | _, _, _, .nil, h => by cases h; rfl
  | _, _, bs, @RepL.cons _ _ x xs d ds r t, h => by
    cases r with
    | int b =>
      have h : (intsD ds).map (fun bs => b :: bs) = some bs := h
      obtain ⟨cs, h1, rfl⟩ := Option.map_eq_some_iff.mp h
      rw [ints_rep t h1]
      rfl
    | _ => cases h
def gSum : List PyData → Option PyData
  | [.list ds] => (intsD ds).map fun bs => .int bs.sum
  | _ => none
theorem cd_sum {K : KW} : CallD K (rSum K) gSum := by
  intro xs ds z H V Q s r e q
  cases r with
  | nil => cases e
  | cons r1 r2 =>
    cases r2 with
    | cons _ _ => cases r1 <;> cases e
    | nil =>
      cases r1 with
      | @lst a ys es ha ra =>
        have e : (intsD es).map (fun bs => PyData.int bs.sum) = some z := e
        obtain ⟨bs, hb, rfl⟩ := Option.map_eq_some_iff.mp e
        have hy := ints_rep ra hb
        subst hy
        exact ⟨a, bs, rfl, .inl (.inl (s _ _ ha)), q _ _ _ (Ext.refl s) (.int _)⟩
      | _ => cases e
end DL
set_option Elab.async false
set_option linter.all false
set_option maxRecDepth 100000
set_option maxHeartbeats 1000000
namespace DL
open PySem PySem.Spec PyProof.Rows L2
variable [TabCtx]
def tyD : PyData → String
  | .none => "NoneType"
  | .bool _ => "bool"
  | .int _ => "int"
  | .str _ => "str"
  | .list _ => "list"
  | .tuple _ => "tuple"
  | .dict _ => "dict"
/-- a value's type; a dict by tuples besides -/
def TyY (K : KW) (H : Hp) (x : L2.V) (t : Value) : Prop := TyX K H x t ∨ ∃ a xs ep, x = .ref a ∧ H a = some (dX K.w a xs ep) ∧ t = .type "dict"
theorem ty_rep {K : KW} {V H : Hp} {x : L2.V} {d : PyData} (s : Same V H) (r : Rep K V x d) : TyY K H x (.type (tyD d)) := by
  cases r with
  | non => exact .inl (.base .non)
  | bl b => exact .inl (.base (.bl b))
  | int i => exact .inl (.base (.int i))
  | str x => exact .inl (.base (.str x))
  | lst h _ => exact .inl (.base (.lst (s _ _ h)))
  | tup h _ => exact .inl (.base (.tup (s _ _ h)))
  | dk h _ => exact h.elim (fun h => .inl (.base (.dK (s _ _ h)))) fun ⟨o, h⟩ => .inl (.fDict (s _ _ h))
  | dt h _ => exact .inr ⟨_, _, _, rfl, s _ _ h, rfl⟩
def rIsiY (K : KW) : List L2.V → Hp → VK → Prop := fun xs H Q => ∃ x c t u b, xs = [x, c] ∧ ClsV c u ∧ TyY K H x t ∧ PySem.W.kitOne K t u = some b ∧ Q (.bl b) H
theorem call_isiY {X : Cx} : CallR X (.builtin "isinstance") (rIsiY X.kw) := by
  intro pins s σ H xs us Q I r h
  obtain ⟨x, c, t, u, b, rfl, k, ty, e, q⟩ := h
  rcases ty with ty | ⟨a, ys, ep, rfl, hx, rfl⟩
  · exact call_isi pins s σ H _ us Q I r ⟨x, c, t, u, b, rfl, k, ty, e, q⟩
  · cases r with
    | cons r1 r =>
      cases r with
      | cons r2 r =>
        cases r
        have e2 := k.eq r2
        subst e2
        cases r1
        obtain ⟨⟨_, _, _, us, o, es, _, h1, h2, _⟩, _, _⟩ := (show ObjOk X.prog X.w H s.heap a (dX X.w a ys ep) from I.hok a _ hx)
        exact PySem.W.kia_one (PySem.W.kitx_dict (a := a)) I.kIn ⟨o, h1, h2.1⟩ e (fun z => nomatch z) fun tk => ⟨.bl b, H, I.tok tk, rfl, q⟩
inductive Ty where
  | int | bool | str | list | tuple | dict
def Ty.name : Ty → String
  | .int => "int"
  | .bool => "bool"
  | .str => "str"
  | .list => "list"
  | .tuple => "tuple"
  | .dict => "dict"
def isD : Ty → PyData → Bool
  | .int, .int _ => true
  | .int, .bool _ => true
  | .bool, .bool _ => true
  | .str, .str _ => true
  | .list, .list _ => true
  | .tuple, .tuple _ => true
  | .dict, .dict _ => true
  | _, _ => false
theorem kb (T : Ty) (d : PyData) : kitB (tyD d) T.name = some (isD T d) := by
  cases T <;> cases d <;> first
    | exact (by decide +kernel : kitB "NoneType" "int" = some false) | exact (by decide +kernel : kitB "bool" "int" = some true) | exact (by decide +kernel : kitB "int" "int" = some true) | exact (by decide +kernel : kitB "str" "int" = some false) | exact (by decide +kernel : kitB "list" "int" = some false) | exact (by decide +kernel : kitB "tuple" "int" = some false) | exact (by decide +kernel : kitB "dict" "int" = some false)
    | exact (by decide +kernel : kitB "NoneType" "bool" = some false) | exact (by decide +kernel : kitB "bool" "bool" = some true) | exact (by decide +kernel : kitB "int" "bool" = some false) | exact (by decide +kernel : kitB "str" "bool" = some false) | exact (by decide +kernel : kitB "list" "bool" = some false) | exact (by decide +kernel : kitB "tuple" "bool" = some false) | exact (by decide +kernel : kitB "dict" "bool" = some false)
    | exact (by decide +kernel : kitB "NoneType" "str" = some false) | exact (by decide +kernel : kitB "bool" "str" = some false) | exact (by decide +kernel : kitB "int" "str" = some false) | exact (by decide +kernel : kitB "str" "str" = some true) | exact (by decide +kernel : kitB "list" "str" = some false) | exact (by decide +kernel : kitB "tuple" "str" = some false) | exact (by decide +kernel : kitB "dict" "str" = some false)
    | exact (by decide +kernel : kitB "NoneType" "list" = some false) | exact (by decide +kernel : kitB "bool" "list" = some false) | exact (by decide +kernel : kitB "int" "list" = some false) | exact (by decide +kernel : kitB "str" "list" = some false) | exact (by decide +kernel : kitB "list" "list" = some true) | exact (by decide +kernel : kitB "tuple" "list" = some false) | exact (by decide +kernel : kitB "dict" "list" = some false)
    | exact (by decide +kernel : kitB "NoneType" "tuple" = some false) | exact (by decide +kernel : kitB "bool" "tuple" = some false) | exact (by decide +kernel : kitB "int" "tuple" = some false) | exact (by decide +kernel : kitB "str" "tuple" = some false) | exact (by decide +kernel : kitB "list" "tuple" = some false) | exact (by decide +kernel : kitB "tuple" "tuple" = some true) | exact (by decide +kernel : kitB "dict" "tuple" = some false)
    | exact (by decide +kernel : kitB "NoneType" "dict" = some false) | exact (by decide +kernel : kitB "bool" "dict" = some false) | exact (by decide +kernel : kitB "int" "dict" = some false) | exact (by decide +kernel : kitB "str" "dict" = some false) | exact (by decide +kernel : kitB "list" "dict" = some false) | exact (by decide +kernel : kitB "tuple" "dict" = some false) | exact (by decide +kernel : kitB "dict" "dict" = some true)
/-- isinstance(x, T), T a built-in class -/
def isi (T : Ty) (a : M PyData) : M PyData := op1 (fun d => some (.bool (isD T d))) a
section
variable {X : Cx} {F : Fr} {e : Expr} {es : List Expr} {fs : M (List PyData)} {fa : M PyData} {pos p p2 : Pos}
theorem pm_isi (T : Ty) {t : Str} (hm : X.mg "isinstance" = none) (hmt : X.mg t = none) (ha : PM X F e fa) (ht : bootBuiltins t = some (.type T.name) := by decide +kernel) (hg : Gl X "isinstance" := by rfl) (hgt : Gl X t := by rfl)
    (hn : t ≠ "__name__" := by decide) (hd : (t == ("__debug__" : Str)) = false := by decide)
    (he : starEach [e, .Name t p2] X.env = (false, eval e X.env) :: starEach [.Name t p2] X.env := by rfl) (he2 : starEach [.Name t p2] X.env = (false, eval (.Name t p2) X.env) :: starEach [] X.env := by rfl) (hpl : (backTo pos (starEach [.Name t p2] X.env)).any (·.1) = false := by rfl) :
    PM X F (.Call (.Name "isinstance" p) [e, .Name t p2] [] pos) (isi T fa) := by
  have h2 : PE X (.Name t p2) (tC (.ty T.name)) := pe_bltn hgt hmt ht rfl hn hd
  refine PE.imp (pe_callB call_isiY hg hm (by decide +kernel) (pa_cons ha (pa_cons h2 pa_nil he2) he) (by decide) (by decide) he hpl) fun σ H Q ⟨V, ρ, E, g0⟩ => ⟨V, ρ, E, Goal.bind g0 fun x dx H1 V1 ρ1 st1 r1 g1 => ?_⟩
  obtain ⟨z, ez, q⟩ := Goal.opt st1.env g1
  cases ez
  exact ⟨x, .ty T.name, .type (tyD dx), .type T.name, isD T dx, rfl, .ty T.name, ty_rep st1.env.sub r1, kit_ty (kb T dx), q _ _ _ (Ext.refl st1.env.sub) (.bl _)⟩
end
def findD (x : PyData) : List PyData → Option Nat
  | [] => none
  | y :: ys => if PyData.eqv y x = true then some 0 else (findD x ys).map (· + 1)
theorem findD_spec {x : PyData} : ∀ {ys : List PyData} {j : Nat}, findD x ys = some j → (∃ z, ys[j]? = some z ∧ PyData.eqv z x = true) ∧ ∀ (m : Nat) (z : PyData), m < j → ys[m]? = some z → PyData.eqv z x = false
  | [], j, h => by cases h
  | y :: ys, j, h => by
    unfold findD at h
    by_cases e : PyData.eqv y x = true
    · rw [if_pos e] at h
      cases h
      exact ⟨⟨y, rfl, e⟩, fun m z hm => absurd hm (Nat.not_lt_zero m)⟩
    · rw [if_neg e] at h
      obtain ⟨k, hk, rfl⟩ := Option.map_eq_some_iff.mp h
      obtain ⟨⟨z, h1, h2⟩, h3⟩ := findD_spec hk
      refine ⟨⟨z, h1, h2⟩, fun m w hm hw => ?_⟩
      cases m with
      | zero => cases hw; cases q : PyData.eqv y x; rfl; exact absurd q e
      | succ m => exact h3 m w (by omega) hw
def gIndex : PyData → List PyData → Option PyData
  | .list ds, [x] => if (SeqAt.shaped x && SeqAt.shaped (.list ds)) = true then (findD x ds).map fun j => .int (j : Nat) else none
  | _, _ => none
def asL : PyData → Option (List PyData)
  | .list ds => some ds
  | _ => none
/-- a list's method -/
def opM (g : PyData → List PyData → Option PyData) (a : M PyData) (as : M (List PyData)) : M PyData := M.bind a fun x => M.bind (M.opt (asL x)) fun _ => M.bind as fun xs => M.opt (g x xs)
theorem md_index {K : KW} {x : L2.V} {xs : List L2.V} {dx : PyData} {ds : List PyData} {z : PyData} {H V : Hp} {Q : VK} (s : Same V H) (rx : Rep K V x dx) (rs : RepL K V xs ds) (e : gIndex dx ds = some z) (q : ∀ v H' V', Ext H V H' V' → Rep K V' v z → Q v H') : rIndexD K x xs H Q := by
  cases rx with
  | @lst a ys es ha ra =>
    cases rs with
    | nil => cases e
    | @cons y ys' d ds' r1 r2 =>
      cases r2 with
      | cons _ _ => cases e
      | nil =>
        have e : (if (SeqAt.shaped d && SeqAt.shaped (.list es)) = true then (findD d es).map fun j => PyData.int (j : Nat) else none) = some z := e
        by_cases h : (SeqAt.shaped d && SeqAt.shaped (.list es)) = true
        · rw [if_pos h] at e
          obtain ⟨h1, h2⟩ := Bool.and_eq_true_iff.mp h
          obtain ⟨j, hj, rfl⟩ := Option.map_eq_some_iff.mp e
          obtain ⟨⟨w, w1, w2⟩, w3⟩ := findD_spec hj
          exact ⟨a, y, d, es, j, w, rfl, rfl, ((Rep.lst ha ra).mono s).dp (SeqAt.canLay_of_shaped h2), (r1.mono s).dp (SeqAt.canLay_of_shaped h1), h2, h1, w1, w2, w3, q _ _ _ (Ext.refl s) (.int _)⟩
        · rw [if_neg h] at e; cases e
  | _ => cases rs <;> cases e
section
variable {X : Cx} {F : Fr} {o e : Expr} {es : List Expr} {fs : M (List PyData)} {fa : M PyData} {cpos apos : Pos}
theorem pm_index (hu : X.A.units + 65 < cLine) (ho : PM X F o fa) (ha : PMA X F [e] fs) (hbase : attributeBase o "index" X.env (eval o X.env) = eval o X.env := by rfl)
    (hfew : ((backTo cpos (starEach [e] X.env)).all (fun x => !x.1) && (backToKw cpos (keywordEach [] X.env)).all (fun x => x.1.isSome) && decide ([e].length + ([] : List Keyword).length + (if ([] : List Keyword).isEmpty then 0 else 1) < 30)) = true := by rfl)
    (hline : (apos.endLine == cpos.line) = true := by rfl) (hs : starEach [e] X.env = (false, eval e X.env) :: starEach [] X.env := by rfl) (hplain : (backTo cpos (starEach [] X.env)).any (·.1) = false := by rfl) :
    PM X F (.Call (.Attribute o "index" apos) [e] [] cpos) (opM gIndex fa fs) := by
  refine PE.imp (pe_bm PySem.F.plainAttrs_list PySem.F.slot_list_index PySem.F.type_list_index (mt_indexD hu) ho ha hbase hfew hline hs hplain) fun σ H Q ⟨V, ρ, E, g0⟩ => ⟨V, ρ, E, Goal.bind g0 fun x dx H1 V1 ρ1 st1 r1 g1 => ?_⟩
  cases r1 with
  | @lst a ys es ha ra =>
    refine ⟨.inl ⟨rfl, ys, .inl (.inl (st1.env.sub _ _ ha))⟩, V1, ρ1, st1.env, Goal.bind g1 fun xs ds H2 V2 ρ2 st2 r2 g2 => ?_⟩
    obtain ⟨z, ez, q⟩ := Goal.opt st2.env g2
    exact md_index st2.env.sub ((Rep.lst ha ra).mono st2.v) r2 ez q
  | _ => exact False.elim g1
end
def dd : List Int → List Int
  | [] => []
  | x :: xs => if x ∈ xs then dd xs else x :: dd xs
theorem dd_mem {k : Int} : ∀ {xs : List Int}, k ∈ dd xs ↔ k ∈ xs
  | [] => Iff.rfl
  | x :: xs => by
    unfold dd
    by_cases h : x ∈ xs
    · rw [if_pos h, dd_mem, List.mem_cons]
      exact ⟨.inr, fun q => q.elim (fun e => by rw [e]; exact h) id⟩
    · rw [if_neg h, List.mem_cons, List.mem_cons, dd_mem]
theorem dd_nodup : ∀ {xs : List Int}, (dd xs).Nodup
  | [] => List.nodup_nil
  | x :: xs => by
    unfold dd
    by_cases h : x ∈ xs
    · rw [if_pos h]; exact dd_nodup
    · rw [if_neg h]; exact List.nodup_cons.mpr ⟨fun q => h (dd_mem.mp q), dd_nodup⟩
theorem nodup_len {l m : List Int} (h1 : l.Nodup) (h2 : m.Nodup) (h : ∀ k, k ∈ l ↔ k ∈ m) : l.length = m.length := ((List.perm_ext_iff_of_nodup h1 h2).mpr h).length_eq
theorem step_nodup {l : List Int} {k : Int} (h : l.Nodup) : (step_dedup l k).Nodup ∧ ∀ j, j ∈ step_dedup l k ↔ j ∈ l ∨ j = k := by
  unfold step_dedup
  cases e : l.any (· == k) with
  | true =>
    obtain ⟨x, h1, h2⟩ := List.any_eq_true.mp e
    have e2 : x = k := eq_of_beq h2
    subst e2
    exact ⟨h, fun j => ⟨.inl, fun q => q.elim id fun e => by rw [e]; exact h1⟩⟩
  | false =>
    have n : k ∉ l := fun q => by
      have : (l.any fun x => x == k) = true := List.any_eq_true.mpr ⟨k, q, beq_self_eq_true k⟩
      rw [e] at this; cases this
    refine ⟨?_, fun j => by simp⟩
    show (l ++ [k]).Nodup
    exact List.nodup_append.mpr ⟨h, List.nodup_cons.mpr ⟨by simp, List.nodup_nil⟩, fun a ha b hb z => n (by rw [List.mem_singleton.mp hb] at z; rw [← z]; exact ha)⟩
theorem fold_nodup : ∀ (ns l : List Int), l.Nodup → (ns.foldl step_dedup l).Nodup ∧ ∀ j, j ∈ ns.foldl step_dedup l ↔ j ∈ l ∨ j ∈ ns
  | [], l, h => ⟨h, fun j => by simp⟩
  | n :: ns, l, h => by
    obtain ⟨h1, h2⟩ := step_nodup (k := n) h
    obtain ⟨h3, h4⟩ := fold_nodup ns _ h1
    refine ⟨h3, fun j => ?_⟩
    show j ∈ ns.foldl step_dedup (step_dedup l n) ↔ _
    rw [h4 j, h2 j, List.mem_cons]
    constructor
    · rintro ((a | a) | a)
      · exact .inl a
      · exact .inr (.inl a)
      · exact .inr (.inr a)
    · rintro (a | a | a)
      · exact .inl (.inl a)
      · exact .inl (.inr a)
      · exact .inr a
theorem firstMet_len (ns : List Int) : (firstMet (fun i => ns.getD i 0) ns.length).length = (dd ns).length := by
  have e : (List.range ns.length).map (fun i => ns.getD i 0) = ns := by
    apply List.ext_getElem?
    intro i
    rw [List.getElem?_map]
    by_cases h : i < ns.length
    · simp [h]
    · simp [h]
  unfold firstMet
  rw [e]
  obtain ⟨h1, h2⟩ := fold_nodup ns [] List.nodup_nil
  exact nodup_len h1 dd_nodup fun k => by rw [h2 k, dd_mem]; simp
def setLen : PyData → Option PyData
  | .list ds => (intsD ds).bind fun ns => if ns.length ≤ 4000 then some (.int (dd ns).length) else none
  | .tuple ds => (intsD ds).bind fun ns => if ns.length ≤ 4000 then some (.int (dd ns).length) else none
  | _ => none
section
variable {X : Cx} {F : Fr} {a : Expr} {fa : M PyData} {p p2 q pos : Pos}
theorem pm_setLen (hm : X.mg "len" = none) (hm2 : X.mg "set" = none) (ha : PM X F a fa) (hg : Gl X "len" := by rfl) (hg2 : Gl X "set" := by rfl) (hc : X.calm = true := by rfl)
    (na : starEach [a] X.env = (false, eval a X.env) :: starEach [] X.env := by rfl) : PM X F (.Call (.Name "len" p) [.Call (.Name "set" p2) [a] [] q] [] pos) (op1 setLen fa) := by
  refine ⟨fun pins s σ H Q I h => ?_⟩
  refine Call_ (ld_blt I hg hm boot_len ?_)
  refine PyProof.Rows.callWith_builtin1 (PyProof.Rows.args_cons ?_ rfl) rfl rfl
  refine Call_ (ld_blt I hg2 hm2 boot_set ?_)
  obtain ⟨V, ρ, E, g0⟩ := h
  refine PyProof.Rows.callWith_type1 (PyProof.Rows.args_cons (thn (ha.run pins s σ H (fun x H1 => (∃ (l : Addr) (ns : List Int), x = .ref l ∧ (SqL X.kw H1 l (ns.map L2.V.int) ∨ SqT X.kw H1 l (ns.map L2.V.int)) ∧ ns.length ≤ 4000 ∧ Q (.int ((dd ns).length : Nat)) H1)) I ⟨V, ρ, E, Goal.bind g0 fun x dx H1 V1 ρ1 st1 r1 g1 => ?_⟩) fun v s1 ⟨x, H1, I1, r1, q1⟩ => PyProof.Rows.args_nil ?_) na) na rfl
  · obtain ⟨z, ez, q⟩ := Goal.opt st1.env g1
    have fin : ∀ {ds : List PyData}, ((intsD ds).bind fun ns => if ns.length ≤ 4000 then some (PyData.int (dd ns).length) else none) = some z → ∃ ns, intsD ds = some ns ∧ ns.length ≤ 4000 ∧ z = .int (dd ns).length := fun {ds} h => by
      cases e : intsD ds with
      | none => rw [e] at h; cases h
      | some ns =>
        rw [e] at h
        obtain ⟨h1, h2⟩ := ite_some h
        exact ⟨ns, rfl, h1, h2.symm⟩
    cases r1 with
    | @lst b xs ds hb rb =>
      obtain ⟨ns, h1, h2, rfl⟩ := fin ez
      have e := ints_rep rb h1
      subst e
      exact ⟨b, ns, rfl, .inl (.inl (.inl (st1.env.sub _ _ hb))), h2, q _ _ _ (Ext.refl st1.env.sub) (.int _)⟩
    | @tup b xs ds hb rb =>
      obtain ⟨ns, h1, h2, rfl⟩ := fin ez
      have e := ints_rep rb h1
      subst e
      exact ⟨b, ns, rfl, .inr (sqt st1.env.sub hb), h2, q _ _ _ (Ext.refl st1.env.sub) (.int _)⟩
    | _ => cases ez
  · obtain ⟨l, ns, rfl, hq, hl, q1⟩ := q1
    cases r1
    rcases hq with hq | hq
    · obtain ⟨its, r, pl, hz⟩ := I1.list hq
      have hlen : its.toArray.size = ns.length := by rw [List.size_toArray, ← r.length, List.length_map]
      refine call_set_list (I1.ok.hd hc) pl.isList (by simpa using RZ.intsAre_vals r) (by rw [hlen]; unfold scanBound; omega) fun h' tk hS hk => ?_
      refine PyProof.Rows.args_nil ?_
      rw [hlen, firstMet_len] at hS
      obtain ⟨o, es, ep, t, ho, hex, hd, _, _, _, hf, hn⟩ := hS
      have I2 : Inv X pins σ H1 { s1 with heap := h', toks := tk } := I1.kept fun b o e => hk b o (Heap.lt_size e) e
      have hle : (dd ns).length ≤ 4000 := by
        rw [← firstMet_len]
        exact Nat.le_trans (firstMet_length_le _ _) hl
      exact call_len_set ho hex hd hf (by rw [hn] <;> omega) ⟨.int (dd ns).length, H1, I2.tok _, ⟨_, by rw [hn]⟩, q1⟩
    · obtain ⟨its, r, pl, hz⟩ := I1.tuple hq
      refine L2.call_set_tupI ns (I1.ok.hd hc) (show s1.heap.IsTuple l its.toArray from pl) (by simpa using RZ.intsAre_vals r) (by unfold scanBound; omega) fun h' tk c hS hle hk => ?_
      refine PyProof.Rows.args_nil ?_
      obtain ⟨o, es, ep, t, ho, hex, hd, _, hnd, hmem, _, hf, hn, _⟩ := hS
      have ec : c = (dd ns).length := by
        rw [← hn, ← Array.length_toList, ← List.length_map (f := keyOf)]
        refine nodup_len hnd dd_nodup fun k => ?_
        rw [← hmem k, dd_mem]
        simp
      have I2 : Inv X pins σ H1 { s1 with heap := h', toks := tk } := I1.kept hk
      exact call_len_set ho hex hd hf (by rw [hn] <;> omega) ⟨.int (dd ns).length, H1, I2.tok _, ⟨_, by rw [hn, ec]⟩, q1⟩
end
end DL
set_option Elab.async false
set_option linter.all false
set_option maxRecDepth 100000
set_option maxHeartbeats 1000000
namespace DL
open PySem PySem.Spec PyProof.Rows L2
variable [TabCtx]
theorem u65 {k : Nat} {A : Around} (r : Room k A) : A.units + 65 < cLine := by have := r.un; omega
/-- tests over own things -/
def brwT (b : Bool) (f : M Bool) : M Bool := fun ρ => match f (demR b ρ) with
  | .ok (d, ρ') => (match backR b ρ ρ' with
    | some ρ'' => .ok (d, ρ'')
    | none => .bad)
  | .exc c => .exc c
  | .bad => .bad
theorem pmt_brw {X : Cx} {F : Fr} {e : Expr} {fa : M Bool} (b : Bool) (h : PMT X F e fa) : PMT X F e (brwT b fa) := by
  refine PT.imp h fun σ H Q ⟨V, ρ, E, g⟩ => ⟨shown (Let σ ρ b) V H, demR b ρ, E.dem b, ?_⟩
  have g : Goal X.kw F σ ρ H V (fun _ (b : Bool) a => b = a) (match fa (demR b ρ) with
    | .ok (d, ρ') => (match backR b ρ ρ' with
      | some ρ'' => .ok (d, ρ'')
      | none => .bad)
    | .exc c => .exc c
    | .bad => .bad) Q := g
  cases ef : fa (demR b ρ) with
  | exc c => rw [ef] at g; exact g
  | bad => rw [ef] at g; exact g
  | ok pr =>
    obtain ⟨d, ρ'⟩ := pr
    rw [ef] at g
    have g : Goal X.kw F σ ρ H V (fun _ (b : Bool) a => b = a) (match backR b ρ ρ' with
      | some ρ'' => .ok (d, ρ'')
      | none => .bad) Q := g
    intro v H' V' st r
    cases eb : backR b ρ ρ' with
    | none => rw [eb] at g; exact False.elim g
    | some ρ'' =>
      rw [eb] at g
      obtain ⟨s1, s2⟩ := E.back st eb
      exact g v H' _ s1 r
theorem gsN_len {ds : List PyData} {ρ ρ' : Rho} (h : gsN ds ρ = .ok ρ') : ds.length = 0 := by
  cases ds with
  | nil => rfl
  | cons _ _ => cases h
theorem gsC_len {g : GM} {gs : List PyData → Rho → R Rho} {n : Nat} (hg : ∀ ds ρ ρ', gs ds ρ = .ok ρ' → ds.length = n) : ∀ ds ρ ρ', gsC g gs ds ρ = .ok ρ' → ds.length = n + 1 := fun ds ρ ρ' h => by
  cases ds with
  | nil => cases h
  | cons d ds =>
    have h : R.bind (g d ρ) (fun ρ' => gs ds ρ') = .ok ρ' := h
    cases e : g d ρ with
    | ok ρ1 => rw [e] at h; rw [List.length_cons, hg ds ρ1 ρ' h]
    | exc c => rw [e] at h; cases h
    | bad => rw [e] at h; cases h
end DL
set_option Elab.async false
set_option linter.all false
set_option maxRecDepth 100000
set_option maxHeartbeats 1000000
namespace DL
open PySem PySem.Spec PyProof.Rows L2
variable [TabCtx]
/-- _law_cell -/
def cellI (ns : List Int) (k : Int) : Int := if ns = [] then k * 7919 else ns.getD (k % ns.length).toNat 0 + k / ns.length * 104729
def spCell (K : KW) : Sp := fun vs H Q _ => ∃ (a : Addr) (ns : List Int) (k : Int), vs = [.ref a, .int k] ∧ SqL K H a (ns.map V.int) ∧ 0 ≤ k ∧ k < 1000 ∧ ns.length ≤ 1000 ∧ ∀ H', Same H H' → Q (.int (cellI ns k)) H'
abbrev rMulI : R2 := rI CMul fun i j => .int (i * j)
def t_cell (K : KW) : TS :=
  tSeq (tIfS (tTest (tOp (rEqD K) (tVar 0) (tLst tNil))) (tRet (tOp rMulI (tVar 1) (tC (.int 7919)))) tNext)
    (tRet (tOp (rI0 fun i j => .int (i + j)) (tOp (rIxL K) (tVar 0) (tOp (rI (fun _ j => 0 < j) fun i j => .int (i % j)) (tVar 1) (tCB (fun xs H Q => ∃ x n, xs = [x] ∧ LenV K x H n ∧ Q (.int n) H) (tCons (tVar 0) tNil))))
      (tOp rMulI (tOp (rI CDivW fun i j => .int (i / j)) (tVar 1) (tCB (fun xs H Q => ∃ x n, xs = [x] ∧ LenV K x H n ∧ Q (.int n) H) (tCons (tVar 0) tNil))) (tC (.int 104729)))))
theorem dp_ints {K : KW} {H : Hp} : ∀ ns : List Int, DpAll K H (ns.map V.int) (ns.map PyData.int)
  | [] => .nil
  | n :: ns => .cons (.int n) (dp_ints ns)
theorem ints_lay : ∀ ns : List Int, PyData.canLayAll0 (ns.map PyData.int) = true
  | [] => rfl
  | n :: ns => by
    show (PyData.canLay0 (.int n) && PyData.canLayAll0 (ns.map PyData.int)) = true
    rw [ints_lay ns]; rfl
theorem ints_depth : ∀ ns : List Int, PyData.depthAll (ns.map PyData.int) = 0
  | [] => by simp [PyData.depthAll]
  | n :: ns => by
    have := ints_depth ns
    simp [PyData.depthAll, PyData.depth, this]
theorem ints_shaped (ns : List Int) : SeqAt.shaped (.list (ns.map PyData.int)) = true := by
  unfold SeqAt.shaped
  have h1 : PyData.canLay0 (.list (ns.map PyData.int)) = true := by
    rw [PyData.canLay0]; exact ints_lay ns
  have h2 : PyData.depth (.list (ns.map PyData.int)) ≤ 64 := by
    rw [PyData.depth, ints_depth]; decide
  rw [h1, decide_eq_true h2]; rfl
theorem pure_cell {K : KW} (vs : List L2.V) (H : Hp) (Q : VK) (E : XK) (h : spCell K vs H Q E) : t_cell K { nx := fun _ H' => Q .non H', rt := Q } (L2.start ["script", "k"] vs) H := by
  obtain ⟨a, ns, k, rfl, hS, h0, h1, hl, q⟩ := h
  refine ⟨.ref a, rfl, Nat.zero_le _, fun p hp => ?_⟩
  have s1 : Same H (upd H p (.lst [])) := same_new hp
  have hS1 := s1.seq hS
  refine ⟨.list (ns.map .int), .list [], .lst hS1 (dp_ints ns), .lst (.inl (.inl upd_same)) .nil, ints_shaped ns, ints_shaped [], _, rfl, ?_⟩
  cases ns with
  | nil =>
    have e : PyData.eqv (.list (List.map PyData.int [])) (.list []) = true := by rw [PyData.eqv]; rfl
    rw [e, if_pos rfl]
    refine ⟨.int k, rfl, k, 7919, rfl, rfl, .inl ⟨by omega, by omega⟩, ?_⟩
    exact q _ s1
  | cons n ns =>
    have e : PyData.eqv (.list (List.map PyData.int (n :: ns))) (.list []) = false := by rw [PyData.eqv]; rfl
    rw [e, if_neg Bool.false_ne_true]
    have hlen : LenV K (.ref a) (upd H p (.lst [])) (n :: ns).length := .inl ⟨_, hS1, (List.length_map ..).symm⟩
    have hpos : (0 : Int) < ((n :: ns).length : Nat) := by simp only [List.length_cons]; omega
    have hm0 : 0 ≤ k % (((n :: ns).length : Nat) : Int) := Int.emod_nonneg _ (by omega)
    have hm1 : k % (((n :: ns).length : Nat) : Int) < ((n :: ns).length : Nat) := Int.emod_lt_of_pos _ hpos
    have hix : ((n :: ns).map V.int)[(k % (((n :: ns).length : Nat) : Int)).toNat]? = some (.int ((n :: ns).getD (k % (((n :: ns).length : Nat) : Int)).toNat 0)) := by
      have hlt : (k % (((n :: ns).length : Nat) : Int)).toNat < (n :: ns).length := by omega
      rw [List.getElem?_map, List.getD_eq_getElem?_getD, List.getElem?_eq_getElem hlt]
      rfl
    have hat := atI_nat hix
    rw [Int.toNat_of_nonneg hm0] at hat
    refine ⟨.ref a, rfl, .int k, rfl, .ref a, rfl, _, _, rfl, hlen, k, _, rfl, rfl, hpos, a, _, _, _, rfl, rfl, hS1, hat, .int k, rfl, .ref a, rfl, _, _, rfl, hlen, k, _, rfl, rfl, ?_, _, _, rfl, rfl, .inr ⟨by omega, by omega⟩, _, _, rfl, rfl, ?_⟩
    · refine wide_div (b := 200) hpos ?_ (by decide) (by decide)
      have : (((n :: ns).length : Nat) : Int).natAbs = (n :: ns).length := Int.natAbs_natCast _
      rw [this]
      exact Nat.lt_of_le_of_lt hl (by decide)
    · have e2 : cellI (n :: ns) k = (n :: ns).getD (k % (((n :: ns).length : Nat) : Int)).toNat 0 + k / (((n :: ns).length : Nat) : Int) * 104729 := by
        unfold cellI; rw [if_neg (by simp)]
      rw [e2] at q
      exact q _ s1
/-- _law_rounds: the new lists stand at as, their list at p -/
def Rounds (cs : List Int) (H : Hp) (p : Addr) (as : List Addr) : Prop := H p = some (.lst (as.map V.ref)) ∧ as.length = cs.length ∧ as.Nodup ∧ p ∉ as ∧ ∀ (i : Nat) (a : Addr) (c : Int), as[i]? = some a → cs[i]? = some c → H a = some (.lst [.int c, .int 0])
def roundsI (ns : List Int) (high : Int) : List Int := (List.range (max 1 (min high ns.length)).toNat).map fun i => cellI ns ((0 : Int) + (i : Nat))
def spRounds (K : KW) : Sp := fun vs H Q _ => ∃ (a : Addr) (ns : List Int) (high : Int), vs = [.ref a, .int high] ∧ SqL K H a (ns.map V.int) ∧ 0 ≤ high ∧ high < 1000 ∧ ns.length ≤ 1000 ∧ ∀ H' p as, Same H H' → Rounds (roundsI ns high) H' p as → Q (.ref p) H'
def t_rounds (K : KW) (E : XK) : TS :=
  tRet (tLc (iRng1 (tCons (tCB (fun xs H Q => ∃ i j, xs = [.int i, .int j] ∧ Q (.int (if j > i then j else i)) H) (tCons (tC (.int 1)) (tCons (tCB (fun xs H Q => ∃ i j, xs = [.int i, .int j] ∧ Q (.int (if j < i then j else i)) H) (tCons (tVar 1) (tCons (tCB (fun xs H Q => ∃ x n, xs = [x] ∧ LenV K x H n ∧ Q (.int n) H) (tCons (tVar 0) tNil)) tNil))) tNil))) tNil))
    (gName 2) tYes (tLst (tCons (tCallS (spCell K) (fun _ _ _ _ => False) (tCons (tVar 0) (tCons (tVar 2) tNil))) (tCons (tC (.int 0)) tNil))) [2])
theorem pure_rounds {K : KW} (vs : List L2.V) (H : Hp) (Q : VK) (E : XK) (h : spRounds K vs H Q E) : t_rounds K E { nx := fun _ H' => Q .non H', rt := Q } (L2.start ["script", "high", "k"] vs) H := by
  obtain ⟨a, ns, high, rfl, hS, h0, h1, hl, q⟩ := h
  refine ⟨.int high, rfl, .ref a, rfl, _, ns.length, rfl, .inl ⟨_, hS, (List.length_map ..).symm⟩, _, _, rfl, _, _, rfl, ?_⟩
  have em : (if (if ((ns.length : Nat) : Int) < high then ((ns.length : Nat) : Int) else high) > 1 then (if ((ns.length : Nat) : Int) < high then ((ns.length : Nat) : Int) else high) else 1) = max 1 (min high ns.length) := by
    by_cases c : ((ns.length : Nat) : Int) < high
    · rw [if_pos c]
      by_cases c2 : ((ns.length : Nat) : Int) > 1
      · rw [if_pos c2]; omega
      · rw [if_neg c2]; omega
    · rw [if_neg c]
      by_cases c2 : high > 1
      · rw [if_pos c2]; omega
      · rw [if_neg c2]; omega
  rw [em]
  refine ⟨_, rfl, by omega, by omega, fun D hD => ?_⟩
  refine lc_range (lo := 0) (n := (max 1 (min high ns.length)).toNat) (fun i H' => ∃ as : List Addr, Same H H' ∧ H' D = some (.lst (as.map V.ref)) ∧ as.length = i ∧ as.Nodup ∧ D ∉ as ∧ ∀ (j : Nat) (b : Addr), as[j]? = some b → H' b = some (.lst [.int (cellI ns ((0 : Int) + (j : Nat))), .int 0]))
    ⟨[], same_new hD, upd_same, rfl, List.nodup_nil, by simp, fun j b hb => by simp at hb⟩ (fun i H' hi hP => ?_) fun H' hP => ?_
  · obtain ⟨as, hs, hd, hlen, hnd, hDn, hat⟩ := hP
    have hi2 : (max 1 (min high (ns.length : Int))).toNat ≤ 1000 := by omega
    refine ⟨rfl, ?_⟩
    refine Eq.mpr (if_pos (e := False) (rfl : true = true)) ?_
    refine ⟨.ref a, rfl, .int ((0 : Int) + (i : Nat)), rfl, a, ns, (0 : Int) + (i : Nat), rfl, hs.seq hS, by omega, by omega, hl, fun H2 s2 => ⟨by show 2 ≤ sizeLine; decide, fun p hp => ?_⟩⟩
    have s3 : Same H2 (upd H2 p (.lst [.int (cellI ns ((0 : Int) + (i : Nat))), .int 0])) := same_new hp
    have hD2 : H2 D = some (.lst (as.map V.ref)) := s2 _ _ hd
    have pD : p ≠ D := fun e => by rw [e, hD2] at hp; cases hp
    have pas : p ∉ as := fun e => by
      obtain ⟨j, hj⟩ := List.mem_iff_getElem?.mp e
      have := s2 _ _ (hat j p hj)
      rw [hp] at this
      cases this
    refine ⟨as.map V.ref, by rw [upd_ne (Ne.symm pD)]; exact hD2, by rw [List.length_map, hlen]; exact Nat.lt_of_lt_of_le hi (Nat.le_trans hi2 (by decide)), as ++ [p], ?_, ?_, ?_, ?_, ?_, ?_⟩
    · intro b o e
      have nb : b ≠ D := fun z => by rw [z, hD] at e; cases e
      rw [upd_ne nb]
      exact s3 _ _ (s2 _ _ (hs _ _ e))
    · rw [upd_same, List.map_append]; rfl
    · rw [List.length_append, hlen]; rfl
    · exact List.nodup_append.mpr ⟨hnd, List.nodup_cons.mpr ⟨by simp, List.nodup_nil⟩, fun x hx y hy z => pas (by rw [List.mem_singleton.mp hy] at z; rw [← z]; exact hx)⟩
    · intro e
      rcases List.mem_append.mp e with e | e
      · exact hDn e
      · exact pD (List.mem_singleton.mp e).symm
    · intro j b hb
      by_cases hj : j < as.length
      · rw [List.getElem?_append_left hj] at hb
        have nb : b ≠ D := fun z => hDn (by rw [← z]; exact List.mem_of_getElem? hb)
        have nbp : b ≠ p := fun z => pas (by rw [← z]; exact List.mem_of_getElem? hb)
        rw [upd_ne nb, upd_ne nbp]
        exact s2 _ _ (hat j b hb)
      · rw [List.getElem?_append_right (by omega)] at hb
        have ej : j = as.length := by
          have := (List.getElem?_eq_some_iff.mp hb).1
          simp at this
          omega
        subst ej
        rw [Nat.sub_self] at hb
        cases hb
        rw [upd_ne pD, upd_same, hlen]
  · obtain ⟨as, hs, hd, hlen, hnd, hDn, hat⟩ := hP
    refine q H' D as hs ⟨hd, ?_, hnd, hDn, fun i b c h1 h2 => ?_⟩
    · unfold roundsI; rw [List.length_map, List.length_range]; exact hlen
    · rw [hat i b h1]
      unfold roundsI at h2
      rw [List.getElem?_map] at h2
      obtain ⟨j, h3, h4⟩ := Option.map_eq_some_iff.mp h2
      have h5 := (List.getElem?_eq_some_iff.mp h3).2
      rw [List.getElem_range] at h5
      subst h5 h4
      rfl
/-- the slots ahead of a turn: the draw alone is known -/
def init (n di : Nat) (c : Int) : Rho := (List.replicate n Sl.no).set di (.ow (.list [.int c, .int 0]))
def spLaw (K : KW) : Sp := fun vs H Q _ => LamX.Tabs TBS H ∧ ∃ (a : Addr) (ns : List Int), vs = [.ref a] ∧ SqL K H a (ns.map V.int) ∧ ns.length ≤ 63 ∧ ∀ H', Q (.bl true) H'
abbrev mkZ (H : Hp) (a : Addr) : Fr := ⟨hide H a, fun _ => none, none, fun _ _ _ => False, 0, fun _ => False⟩
theorem tk_z {X : Cx} {H : Hp} {a : Addr} : Tk X (mkZ H a) := L2N.Takes.imp takesN0 fun _ _ _ _ h => h.2
theorem env_init {K : KW} {H : Hp} {a : Addr} {σ : St} {n di : Nat} {c : Int} (hn : σ.length = n) (hd : di < n) (ha : H a = some (.lst [.int c, .int 0])) (hs : σ[di]? = some (some (.ref a))) (ht : LamX.Tabs TBS H) : EnvR K (mkZ H a) H (fun _ => none) σ (init n di c) := by
  have f : ∀ {i : Nat} {t : Sl}, (init n di c)[i]? = some t → (i = di ∧ t = .ow (.list [.int c, .int 0])) ∨ t = .no := fun {i t} h => by
    unfold init at h
    rcases getElem_set_some h with ⟨e1, e2, _⟩ | ⟨_, e2⟩
    · exact .inl ⟨e1.symm, e2.symm⟩
    · rw [List.getElem?_replicate] at e2
      split at e2
      · exact .inr (Option.some.inj e2).symm
      · cases e2
  refine ⟨by simp [init, hn], .of hide_same (fun _ _ h => h) (fun _ _ h => (by cases h)) (fun _ h _ => h), fun i d h => ?_, fun i d h => ?_, fun i j b d e h1 h2 _ _ => ?_, (fun b h => by cases h), ⟨tabs_hide (fun x e => by rw [ha] at e; cases e; exact plain_lst) ht, fun _ _ => rfl⟩, ObE.non fun i o h => by
    rcases f h with ⟨_, z⟩ | z <;> cases z⟩
  · rcases f h with ⟨_, z⟩ | z <;> cases z
  · rcases f h with ⟨rfl, z⟩ | z
    · cases z
      exact ⟨a, hs, rfl, hide_eq, _, ha, .cons (.int c) (.cons (.int 0) .nil)⟩
    · cases z
  · rcases f h1 with ⟨rfl, _⟩ | z
    · rcases f h2 with ⟨rfl, _⟩ | z
      · rfl
      · cases z
    · cases z
end DL
set_option Elab.async false
set_option linter.all false
set_option maxRecDepth 100000
set_option maxHeartbeats 1000000
namespace DL
open PySem PySem.Spec PyProof.Rows L2
variable [TabCtx]
def tBody (K : KW) (b : SM) : TS := fun D σ H => ∃ a, tS K (mkZ H a) b D σ H
theorem pss_body {X : Cx} {body : List Stmt} {b : SM} (h : ∀ H a, PMSs X (mkZ H a) body b) : PSs X body (tBody X.kw b) := ⟨fun pins s σ H D i ⟨a, g⟩ => (h H a).run pins s σ H D i g⟩
def t_law (K : KW) (hi : Int) (di : Nat) (b : SM) : TS := tSeq (tFor (iList K (tCallS (spRounds K) (fun _ _ _ _ => False) (tCons (tVar 0) (tCons (tC (.int hi)) tNil)))) (gName di) (tBody K b)) (tRet (tC (.bl true)))
theorem pure_law {K : KW} {hi : Int} {di : Nat} {b : SM} {N : List Str} (hd : di < N.length) (h0 : 0 ≤ hi) (h1 : hi < 1000) (hb : ∀ c : Int, ∃ ρ', b (init N.length di c) = .nx ρ' ∧ ρ'.length = N.length) (vs : List L2.V) (H : Hp) (Q : VK) (E : XK) (h : spLaw K vs H Q E) (hl0 : ∀ v, (L2.start N [v])[0]? = some (some v)) (hl : ∀ v, (L2.start N [v]).length = N.length) :
    t_law K hi di b { nx := fun _ H' => Q .non H', rt := Q } (L2.start N vs) H := by
  obtain ⟨ht, a, ns, rfl, hS, hm, q⟩ := h
  refine ⟨.ref a, hl0 _, a, ns, hi, rfl, hS, h0, h1, by omega, fun H1 p as s1 r1 => ⟨p, rfl, ⟨_, .inl (.inl r1.1)⟩, ?_⟩⟩
  obtain ⟨r1, r2, r3, r4, r5⟩ := r1
  refine for_list (xs := as.map V.ref) (fun i σ H' => (σ.length = N.length ∧ LamX.Tabs TBS H') ∧ H' p = some (.lst (as.map V.ref)) ∧ ∀ (j : Nat) (a : Addr) (c : Int), i ≤ j → as[j]? = some a → (roundsI ns hi)[j]? = some c → H' a = some (.lst [.int c, .int 0])) ⟨⟨hl _, ht.ext s1⟩, r1, fun j a c _ => r5 j a c⟩ (fun i σ H' _ h => .inl (.inl h.2.1)) (fun i x σ H' hx hP => ?_) fun σ H' _ => q H'
  obtain ⟨⟨p1, pt⟩, p2, p3⟩ := hP
  rw [List.getElem?_map] at hx
  obtain ⟨ai, hai, rfl⟩ := Option.map_eq_some_iff.mp hx
  have hil : i < as.length := (List.getElem?_eq_some_iff.mp hai).1
  have hc : (roundsI ns hi)[i]? = some ((roundsI ns hi)[i]'(by omega)) := List.getElem?_eq_getElem _
  obtain ⟨ρ', e1, e2⟩ := hb ((roundsI ns hi)[i]'(by omega))
  refine ⟨ai, fun _ => none, init N.length di ((roundsI ns hi)[i]'(by omega)), env_init (by rw [List.length_set]; exact p1) hd (p3 i ai _ (Nat.le_refl i) hai hc) (by rw [List.getElem?_set_self (by omega)]) pt, ?_⟩
  rw [e1]
  intro σ' H2 V' E' _
  have keep : ∀ b o, b ≠ ai → H' b = some o → nT o → H2 b = some o := fun b o nb e nt => E'.ext.h b o (by show hide H' ai b = some o; unfold hide; rw [if_neg nb]; exact e) nt
  refine ⟨⟨E'.len.trans e2, E'.tabs.1⟩, keep _ _ (fun z => r4 (by rw [z]; exact List.mem_of_getElem? hai)) p2 plain_lst.t, fun j b c hj hbj hcj => keep _ _ (fun z => ?_) (p3 j b c (by omega) hbj hcj) plain_lst.t⟩
  subst z
  have := (List.getElem?_inj hil r3).mp (hai.trans hbj.symm)
  omega
/-- an error's carrier, at any world -/
def CXE (P : Program) : CXT := fun outer H s E e s' => ∃ w, L2N.CX P w outer H s E e s'
theorem cxe_no {P : Program} {H : Hp} {s : Shared} {e : Value} {s' : Shared} (h : CXE P [] H s (fun _ _ _ => False) e s') : False := by
  obtain ⟨w, a, B, H', cls, d, h⟩ := h
  exact h.2.2.2.2.2.2.2
end DL
set_option Elab.async false
set_option linter.all false
set_option maxRecDepth 100000
set_option maxHeartbeats 1000000
namespace DL
open PySem PySem.Spec PyProof.Rows L2
variable [TabCtx]
mutual
inductive NAt (H : Hp) : NestedKey → L2.V → Prop
  | non : NAt H .none .non
  | bl (b : Bool) : NAt H (.num (if b = true then 1 else 0)) (.bl b)
  | int (i : Int) : NAt H (.num i) (.int i)
  | str (x : Str) : NAt H (.text x) (.str x)
  | tup {b : Addr} {ks : List NestedKey} {vs : List L2.V} : H b = some (.tup vs) → NAts H ks vs → NAt H (.tup ks) (.ref b)
inductive NAts (H : Hp) : List NestedKey → List L2.V → Prop
  | nil : NAts H [] []
  | cons {k : NestedKey} {v : L2.V} {ks : List NestedKey} {vs : List L2.V} : NAt H k v → NAts H ks vs → NAts H (k :: ks) (v :: vs)
end
mutual
theorem NAt.is {P : Program} {w : World} {H : Hp} {h : Heap} (ok : HOk P w H h) : ∀ {k : NestedKey} {v : L2.V} {u : Value}, NAt H k v → RelV v u → NestedIs h k u
  | _, _, _, .non, r => by cases (show _ = Value.none from r); exact .none
  | _, _, _, .bl b, r => by cases (show _ = Value.bool b from r); exact .bool rfl
  | _, _, _, .int i, r => by obtain ⟨t, rfl⟩ := r; exact .int i t
  | _, _, _, .str x, r => by obtain ⟨t, rfl⟩ := r; exact .text x t
  | _, _, _, .tup (b := b) (vs := vs) ha q, r => by
    cases (show _ = Value.ref b from r)
    obtain ⟨_, its, rv, o, h1, h2, n, h3⟩ := (show ObjOk P w H h b (.tup vs) from ok b _ ha)
    exact .tup h1 h2 h3 (by simpa using NAts.is ok q rv)
theorem NAts.is {P : Program} {w : World} {H : Hp} {h : Heap} (ok : HOk P w H h) : ∀ {ks : List NestedKey} {vs : List L2.V} {us : List Value}, NAts H ks vs → Vals vs us → NestedAll h ks us
  | _, _, _, .nil, r => by cases r; exact .nil
  | _, _, _, .cons q t, r => by
    cases r with
    | cons r1 r2 => exact .cons (NAt.is ok q r1) (NAts.is ok t r2)
end
def vx (xs : List (NestedKey × Addr × L2.V)) : List (NestedKey × L2.V) := xs.map fun x => (x.1, x.2.2)
abbrev PX : List (NestedKey × Addr × L2.V) → List (NestedKey × Addr × Value) → Prop := Paired fun (x : NestedKey × Addr × L2.V) (u : NestedKey × Addr × Value) => x.1 = u.1 ∧ x.2.1 = u.2.1 ∧ RelV x.2.2 u.2.2
/-- in its place, or at the end -/
def putX (xs : List (NestedKey × Addr × L2.V)) (k : NestedKey) (b : Addr) (v : L2.V) : List (NestedKey × Addr × L2.V) :=
  if (xs.any fun x => decide (x.1 = k)) = true then xs.map (fun x => if x.1 = k then (x.1, x.2.1, v) else x) else xs ++ [(k, b, v)]
theorem PX.any {xs : List (NestedKey × Addr × L2.V)} {us : List (NestedKey × Addr × Value)} (r : PX xs us) (k : NestedKey) : (xs.any fun x => decide (x.1 = k)) = (atKey us k).isSome := by
  induction r with
  | nil => rfl
  | @cons p q ps qs h t ih =>
    rw [List.any_cons]
    by_cases e : p.1 = k
    · have e' : q.1 = k := h.1.symm.trans e
      simp [atKey, List.find?_cons, e', e]
    · have e' : ¬ q.1 = k := fun z => e (h.1.trans z)
      have b : atKey (q :: qs) k = atKey qs k := by simp [atKey, List.find?_cons, e']
      rw [b, decide_eq_false e, Bool.false_or]; exact ih
theorem PX.repl {xs : List (NestedKey × Addr × L2.V)} {us : List (NestedKey × Addr × Value)} (r : PX xs us) (k : NestedKey) {y : L2.V} {u : Value} (ry : RelV y u) :
    PX (xs.map fun x => if x.1 = k then (x.1, x.2.1, y) else x) (us.map (putAt k u)) := by
  induction r with
  | nil => exact .nil
  | @cons p q ps qs h t ih =>
    rw [List.map_cons, List.map_cons]
    refine .cons ?_ ih
    obtain ⟨h1, h2, h3⟩ := h
    unfold putAt
    by_cases e : p.1 = k
    · rw [if_pos e, if_pos (h1.symm.trans e)]; exact ⟨h1, h2, ry⟩
    · rw [if_neg e, if_neg (fun z => e (h1.trans z))]; exact ⟨h1, h2, h3⟩
theorem PX.put {xs : List (NestedKey × Addr × L2.V)} {us : List (NestedKey × Addr × Value)} (r : PX xs us) (k : NestedKey) {b : Addr} {y : L2.V} {u : Value} (ry : RelV y u) : PX (putX xs k b y) (storedH us k b u) := by
  unfold putX storedH
  rw [r.any k]
  by_cases q : (atKey us k).isSome = true
  · rw [if_pos q, if_pos q]; exact r.repl k ry
  · rw [if_neg q, if_neg q]; exact Paired.snoc r ⟨rfl, rfl, ry⟩
theorem PX.mem {xs : List (NestedKey × Addr × L2.V)} {us : List (NestedKey × Addr × Value)} (r : PX xs us) : ∀ u ∈ us, ∃ x ∈ xs, x.1 = u.1 ∧ x.2.1 = u.2.1 := by
  induction r with
  | nil => exact fun u hu => nomatch hu
  | @cons p q ps qs h t ih =>
    intro u hu
    rcases List.mem_cons.mp hu with e | e
    · subst e; exact ⟨p, List.mem_cons_self, h.1, h.2.1⟩
    · obtain ⟨x, h1, h2⟩ := ih u e; exact ⟨x, List.mem_cons_of_mem _ h1, h2⟩
def isTupD : PyData → Bool
  | .tuple _ => true
  | _ => false
def plainD : PyData → Bool
  | .int _ => true
  | .str _ => true
  | _ => false
def deepD (k : PyData) : Bool := match nkey k with
  | some n => decide (n.depth ≤ 8)
  | none => false
def keyEqD (a b : PyData) : Bool := decide (nkey a = nkey b)
def dlook (ps : List (PyData × PyData)) (k : PyData) : Option PyData := (ps.find? fun p => keyEqD p.1 k).map (·.2)
def keyOk (ps : List (PyData × PyData)) (k : PyData) : Bool := (plainD k && ps.all fun p => plainD p.1) || (isTupD k && deepD k && ps.all fun p => isTupD p.1)
def dput (ps : List (PyData × PyData)) (k v : PyData) : List (PyData × PyData) := if (ps.any fun p => keyEqD p.1 k) = true then ps.map (fun p => if keyEqD p.1 k = true then (p.1, v) else p) else ps ++ [(k, v)]
theorem RepT.tups {K : KW} {V : Hp} : ∀ {xs : List (NestedKey × Addr × L2.V)} {ps : List (PyData × PyData)}, RepT K V xs ps → (ps.all fun p => plainD p.1) = true → xs = []
  | _, _, .nil, _ => rfl
  | _, _, .cons q n _ _ _, h => by
    rw [List.all_cons, Bool.and_eq_true] at h
    have h := h.1
    cases q <;> cases h
end DL
set_option Elab.async false
set_option linter.all false
set_option maxRecDepth 100000
set_option maxHeartbeats 1000000
namespace DL
open PySem PySem.Spec PyProof.Rows L2
end DL
set_option Elab.async false
set_option linter.all false
set_option maxRecDepth 100000
set_option maxHeartbeats 1000000
namespace DL
open PySem PySem.Spec PyProof.Rows L2
variable [TabCtx]
def HidV (K : KW) (H0 V' H' : Hp) (v : L2.V) (d : PyData) : Prop := ∃ a, v = .ref a ∧ V' a = none ∧ H0 a = none ∧ OwnAt K V' H' a d
def GoalF (K : KW) (F : Fr) (σ : St) (ρ : Rho) (H V : Hp) (r : R (PyData × Rho)) (Q : VK) : Prop := match r with
  | .ok (d, ρ') => ∀ v H' V', Stp K F σ ρ ρ' H V H' V' → HidV K H V' H' v d → Q v H'
  | .exc c => ∀ H' V', Ext F.H0 F.V0 H' V' → F.W (.ref (He.ga K c)) σ H'
  | .bad => False
def GoalR (K : KW) (F : Fr) (σ : St) (H V : Hp) (Q : VK) : R PyData → Prop
  | .ok d => ∀ v H' V', Ext H V H' V' → HidV K H V' H' v d → Q v H'
  | .exc c => ∀ H' V', Ext F.H0 F.V0 H' V' → F.W (.ref (He.ga K c)) σ H'
  | .bad => False
section
variable {K : KW} {F : Fr} {σ : St} {ρ ρ1 : Rho} {H V H1 V1 : Hp} {Q : VK}
theorem GoalF.after {r : R (PyData × Rho)} (st : Stp K F σ ρ ρ1 H V H1 V1) (g : GoalF K F σ ρ H V r Q) : GoalF K F σ ρ1 H1 V1 r Q := by
  cases r with
  | ok p =>
    intro v H' V' s hv
    obtain ⟨a, e, h1, h2, h3⟩ := hv
    refine g v H' V' (st.trans s) ⟨a, e, h1, ?_, h3⟩
    cases q : H a with
    | none => rfl
    | some o => exact absurd h2 (st.th a (by rw [q]; exact fun z => nomatch z))
  | exc c => exact g
  | bad => exact g
theorem GoalF.bind {α β : Type} {rep1 : Hp → β → α → Prop} {f : M α} {k : α → M PyData} {Q1 : β → Hp → Prop} (g : GoalF K F σ ρ H V (M.bind f k ρ) Q)
    (h : ∀ b a H' V' ρ', Stp K F σ ρ ρ' H V H' V' → rep1 V' b a → GoalF K F σ ρ' H' V' (k a ρ') Q → Q1 b H') : Goal K F σ ρ H V rep1 (f ρ) Q1 := by
  unfold M.bind at g
  cases e : f ρ with
  | ok p =>
    obtain ⟨a, ρ'⟩ := p
    rw [e] at g
    exact fun b H' V' st r => h b a H' V' ρ' st r (GoalF.after st g)
  | exc c => rw [e] at g; exact g
  | bad => rw [e] at g; exact g
theorem GoalF.opt {o : Option PyData} (E : EnvR K F H V σ ρ) (g : GoalF K F σ ρ H V (M.opt o ρ) Q) : ∃ z, o = some z ∧ ∀ v H' V', Ext H V H' V' → HidV K H V' H' v z → Q v H' := by
  cases o with
  | none => exact False.elim g
  | some z => exact ⟨z, rfl, fun v H' V' e r => g v H' V' (E.step e) r⟩
theorem GoalF.lift {m : R PyData} (E : EnvR K F H V σ ρ) (g : GoalF K F σ ρ H V (M.lift m ρ) Q) : GoalR K F σ H V Q m := by
  cases m with
  | ok d => exact fun v H' V' e r => g v H' V' (E.step e) r
  | exc c => exact g
  | bad => exact g
theorem GoalF.ex {f : M PyData} {k : PyData → SM} {D : Ends} {Q1 : VK} (g : GoalS K F V (exO f k ρ) D)
    (h : ∀ v d H' V' ρ', Stp K F σ ρ ρ' H V H' V' → HidV K H V' H' v d → GoalS K F V' (k d ρ') D → Q1 v H') : GoalF K F σ ρ H V (f ρ) Q1 := by
  unfold exO at g
  cases e : f ρ with
  | ok p =>
    obtain ⟨a, ρ'⟩ := p
    rw [e] at g
    exact fun b H' V' st r => h b a H' V' ρ' st r (GoalS.mono st.v g)
  | exc c => rw [e] at g; exact fun H' V' x => g σ H' V' x
  | bad => rw [e] at g; exact g
theorem Stp.notOwn (E : EnvR K F H V σ ρ) (st : Stp K F σ ρ ρ1 H V H1 V1) {a : Addr} (h : H a = none) : ¬ IsOwn σ ρ1 a := fun z => by
  obtain ⟨i, d, q1, q2⟩ := st.own a z
  obtain ⟨b, w1, w2, w3, w4⟩ := E.ow i d q1
  rw [q2] at w1
  cases w1
  obtain ⟨o, q5, _⟩ := w4.there
  rw [h] at q5
  cases q5
theorem OwnAt.show {a : Addr} {d : PyData} (o : OwnAt K V H a d) (hv : V a = none) : ∃ u, H a = some u ∧ Rep K (upd V a u) (.ref a) d := by
  have sv : ∀ u, Same V (upd V a u) := fun u => same_new hv
  cases d with
  | list ds => obtain ⟨vs, e, r⟩ := o; exact ⟨_, e, .lst upd_same (r.mono (sv _))⟩
  | dict ps =>
    rcases o with ⟨kvs, e, r, n⟩ | ⟨xs, ep, e, r⟩
    · exact ⟨_, e, .dk (.inl upd_same) (r.mono (sv _)) n⟩
    · exact ⟨_, e, .dt upd_same (r.mono (sv _))⟩
  | _ => exact o.elim
/-- a hidden thing comes to be seen -/
theorem Stp.show (E : EnvR K F H V σ ρ) (st : Stp K F σ ρ ρ1 H V H1 V1) {a : Addr} {u : HO} (h0 : H a = none) (h1 : V1 a = none) (h2 : H1 a = some u) : Stp K F σ ρ ρ1 H V H1 (upd V1 a u) := by
  have sv : Same V1 (upd V1 a u) := same_new h1
  refine ⟨st.env.show h2 h1 (E.ext.free h0) (st.notOwn E h0), st.v.trans sv, st.keep, st.own, st.shs, fun b q1 q2 => ?_, st.th⟩
  rw [upd_ne (fun z => q2 (by rw [z]; exact h0))]
  exact st.f b q1 q2
end
section
variable {X : Cx} {F : Fr} {e k : Expr} {es : List Expr} {fa fk : M PyData} {fs : M (List PyData)} {pos : Pos}
/-- x = e, e a new thing, x keeps it alone -/
def ownFO (i : Nat) (a : M PyData) : SM := exO a fun d ρ => .nx (ρ.set i (.ow d))
end
end DL
set_option Elab.async false
set_option linter.all false
set_option maxRecDepth 100000
set_option maxHeartbeats 1000000
namespace DL
open PySem PySem.Spec PyProof.Rows L2
variable [TabCtx]
def gCutL (lo hi : Option Int) : PyData → Option PyData
  | .list ds => some (.list (cutD ds lo hi))
  | _ => none
def slcL (a : M PyData) (lo hi : M (Option Int)) : M PyData := M.bind a fun x => M.bind lo fun l => M.bind hi fun h => M.opt (gCutL l h x)
/-- the list is done, and not seen yet -/
theorem LI.hid {K : KW} {F : Fr} {vs : List Nat} {σ : St} {ρ1 ρ' : Rho} {H1 V1 H' V' : Hp} {D : Addr} {ys : List L2.V} {acc : List PyData} (E : EnvR K F H1 V1 σ ρ1) (I : LI K F vs σ ρ1 H1 V1 D (L2.wipe σ vs) (wipeR ρ' vs) H' V' ys acc) (hv : ∀ i ∈ vs, isOw ρ1[i]? = false) :
    Stp K F σ ρ1 (resR ρ1 ρ' vs) H1 V1 H' V' ∧ V' D = none ∧ H' D = some (.lst ys) := by
  refine ⟨⟨E.restore I.env I.sv hv, I.sv, I.kp, fun b h => ?_, fun j d q => ?_, I.fr, I.th⟩, I.vD, I.hD⟩
  · obtain ⟨j, d, h1, h2⟩ := h
    have nj := resR_ow hv h1
    rw [resR_out nj] at h1
    exact I.ho b ⟨j, d, by rw [wipeR_out nj]; exact h1, by rw [wipe_outL nj]; exact h2⟩
  · by_cases hj : j ∈ vs
    · by_cases hl : j < ρ'.length
      · rw [resR_in hj hl] at q
        have h' : ρ1.getD j .no = .sh d := Option.some.inj q
        rw [List.getD_eq_getElem?_getD] at h'
        cases q' : ρ1[j]? with
        | none => rw [q'] at h'; cases h'
        | some s =>
          rw [q'] at h'
          have h' : s = .sh d := h'
          rw [h']
      · rw [List.getElem?_eq_none (by rw [resR_len]; omega)] at q; cases q
    · rw [resR_out hj] at q
      exact I.sh j d hj (by rw [wipeR_out hj]; exact q)
end DL
set_option Elab.async false
set_option linter.all false
set_option maxRecDepth 100000
set_option maxHeartbeats 1000000
namespace DL
open PySem PySem.Spec PyProof.Rows L2
variable [TabCtx]
section
variable {X : Cx} {F : Fr} {e : Expr} {fa : M PyData} {pos : Pos}
def retF (a : M PyData) : SM := exO a fun d ρ => .rf d ρ
end
/-- a list of things that nothing can change -/
def immC : PyData → Bool
  | .list ds => immL ds
  | _ => false
def immR : R PyData → R PyData
  | .ok d => if immC d = true then .ok d else .bad
  | .exc c => .exc c
  | .bad => .bad
def callF (m : List PyData → R PyData) (a : M (List PyData)) : M PyData := M.bind a fun ds => M.lift (immR (m ds))
end DL
set_option Elab.async false
set_option linter.all false
set_option maxRecDepth 100000
set_option maxHeartbeats 1000000
namespace DL
open PySem PySem.Spec PyProof.Rows L2
variable [TabCtx]
section
variable {X : Cx} {F : Fr} {o k x : Expr} {pos : Pos} {fo fk fx : M PyData}
/-- d.get(k), d.get(k, x) -/
def isDict : PyData → Bool
  | .dict _ => true
  | _ => false
def gGet1 (d k : PyData) : Option PyData := match d with
  | .dict ps => if keyOk ps k = true then some ((dlook ps k).getD .none) else none
  | _ => none
def gGet2 (d k x : PyData) : Option PyData := match d with
  | .dict ps => if keyOk ps k = true then some ((dlook ps k).getD x) else none
  | _ => none
def dget1 (fo fk : M PyData) : M PyData := M.bind fo fun d => if isDict d = true then M.bind fk fun k => M.opt (gGet1 d k) else fun _ => .bad
def dget2 (fo fk fx : M PyData) : M PyData := M.bind fo fun d => if isDict d = true then M.bind fk fun k => M.bind fx fun x => M.opt (gGet2 d k x) else fun _ => .bad
end
theorem RepT.putX {K : KW} {V : Hp} {xs : List (NestedKey × Addr × L2.V)} {ps : List (PyData × PyData)} {q : NestedKey} {b : Addr} {kd : PyData} {v : L2.V} {d : PyData} (r : RepT K V xs ps) (rk : Rep K V (.ref b) kd) (hq : nkey kd = some q) (dq : q.depth ≤ 8) (rv : Rep K V v d) : RepT K V (putX xs q b v) (dput ps kd d) := by
  have ek : ∀ {dk : PyData} {k : NestedKey}, nkey dk = some k → keyEqD dk kd = decide (k = q) := by
    intro dk k n
    unfold keyEqD
    rw [n, hq]
    by_cases e : k = q
    · subst e; simp
    · rw [decide_eq_false e, decide_eq_false (fun z => e (Option.some.inj z))]
  have ha : ∀ {xs : List (NestedKey × Addr × L2.V)} {ps : List (PyData × PyData)}, RepT K V xs ps → (xs.any fun x => decide (x.1 = q)) = ps.any fun p => keyEqD p.1 kd := by
    intro xs ps r
    induction ps generalizing xs with
    | nil => cases r; rfl
    | cons p ps ih =>
      cases r with
      | cons r1 n z r2 t => rw [List.any_cons, List.any_cons, ih t, ek n]
  have hm : ∀ {xs : List (NestedKey × Addr × L2.V)} {ps : List (PyData × PyData)}, RepT K V xs ps → RepT K V (xs.map fun x => if x.1 = q then (x.1, x.2.1, v) else x) (ps.map fun p => if keyEqD p.1 kd = true then (p.1, d) else p) := by
    intro xs ps r
    induction ps generalizing xs with
    | nil => cases r; exact .nil
    | cons p ps ih =>
      cases r with
      | @cons k b x xs dk dx _ r1 n z r2 t =>
        rw [List.map_cons, List.map_cons]
        by_cases e : k = q
        · rw [if_pos e, if_pos (by show keyEqD dk kd = true; rw [ek n, decide_eq_true e])]
          exact .cons r1 n z rv (ih t)
        · rw [if_neg e, if_neg (by show ¬ keyEqD dk kd = true; rw [ek n, decide_eq_false e]; exact Bool.false_ne_true)]
          exact .cons r1 n z r2 (ih t)
  have hs : ∀ {xs : List (NestedKey × Addr × L2.V)} {ps : List (PyData × PyData)}, RepT K V xs ps → RepT K V (xs ++ [(q, b, v)]) (ps ++ [(kd, d)]) := by
    intro xs ps r
    induction ps generalizing xs with
    | nil => cases r; exact .cons rk hq dq rv .nil
    | cons p ps ih =>
      cases r with
      | cons r1 n z r2 t => exact .cons r1 n z r2 (ih t)
  unfold DL.putX dput
  rw [ha r]
  by_cases e : (ps.any fun p => keyEqD p.1 kd) = true
  · rw [if_pos e, if_pos e]; exact hm r
  · rw [if_neg e, if_neg e]; exact hs r
theorem RepK.length {K : KW} {V : Hp} : ∀ {kvs : List (Key × L2.V)} {ps : List (PyData × PyData)}, RepK K V kvs ps → kvs.length = ps.length
  | _, _, .nil => rfl
  | _, _, .cons _ t => by simp [RepK.length t]
theorem RepT.length {K : KW} {V : Hp} : ∀ {kvs : List (NestedKey × Addr × L2.V)} {ps : List (PyData × PyData)}, RepT K V kvs ps → kvs.length = ps.length
  | _, _, .nil => rfl
  | _, _, .cons _ _ _ _ t => by simp [RepT.length t]
/-- d[k] = e, d an own dict in slot i -/
def dsetO (i : Nat) (fk fv : M PyData) : SM := exO fv fun dv ρ => if isOwn1 ρ[i]? = true then exO fk (fun dk ρ => match ρ[i]? with
  | some (.ow (.dict ps)) => if keyOk ps dk = true ∧ ps.length < LIM then .nx (ρ.set i (.ow (.dict (dput ps dk dv)))) else .bad
  | _ => .bad) ρ else .bad
end DL
set_option Elab.async false
set_option linter.all false
set_option maxRecDepth 100000
set_option maxHeartbeats 1000000
namespace DL
open PySem PySem.Spec PyProof.Rows L2
variable [TabCtx]
inductive RepS (K : KW) (H0 V' H' : Hp) : List L2.V → List Sl → List Addr → Prop
  | nil : RepS K H0 V' H' [] [] []
  | sh {v : L2.V} {d : PyData} {vs : List L2.V} {ss : List Sl} {as : List Addr} : Rep K V' v d → RepS K H0 V' H' vs ss as → RepS K H0 V' H' (v :: vs) (.sh d :: ss) as
  | ow {a : Addr} {d : PyData} {vs : List L2.V} {ss : List Sl} {as : List Addr} : V' a = none → H0 a = none → OwnAt K V' H' a d → a ∉ as → RepS K H0 V' H' vs ss as → RepS K H0 V' H' (.ref a :: vs) (.ow d :: ss) (a :: as)
def xSh (a : M PyData) (r : M (List Sl)) : M (List Sl) := M.bind a fun x => M.bind r fun xs => M.pure (.sh x :: xs)
def xOw (a : M PyData) (r : M (List Sl)) : M (List Sl) := M.bind a fun x => M.bind r fun xs => M.pure (.ow x :: xs)
section
variable {X : Cx} {F : Fr} {e : Expr} {es : List Expr} {fa : M PyData} {fs : M (List Sl)} {pos : Pos}
def setL : List Nat → List Sl → Rho → Rho
  | i :: is, s :: ss, ρ => setL is ss (ρ.set i s)
  | _, _, ρ => ρ
/-- a, b, .. = e1, e2, .. -/
def parO (is : List Nat) (f : M (List Sl)) : SM := exO f fun ss ρ => if ss.length = is.length then .nx (setL is ss ρ) else .bad
theorem RepS.length {K : KW} {H0 V' H' : Hp} : ∀ {vs : List L2.V} {ss : List Sl} {as : List Addr}, RepS K H0 V' H' vs ss as → vs.length = ss.length
  | _, _, _, .nil => rfl
  | _, _, _, .sh _ t => by simp [t.length]
  | _, _, _, .ow _ _ _ _ t => by simp [t.length]
end
end DL
set_option Elab.async false
set_option linter.all false
set_option maxRecDepth 100000
set_option maxHeartbeats 1000000
namespace DL
open PySem PySem.Spec PyProof.Rows L2
end DL
set_option Elab.async false
set_option linter.all false
set_option maxRecDepth 100000
set_option maxHeartbeats 1000000
namespace DL
open PySem PySem.Spec PyProof.Rows L2
end DL
set_option Elab.async false
set_option linter.all false
set_option maxRecDepth 100000
set_option maxHeartbeats 1000000
namespace DL
open PySem PySem.Spec PyProof.Rows L2
variable [TabCtx]
def keysOf : PyData → Option (List PyData)
  | .dict ps => if (ps.all fun p => isTupD p.1) = true then some (ps.map (·.1)) else none
  | _ => none
theorem RepT.len {K : KW} {V : Hp} : ∀ {xs : List (NestedKey × Addr × L2.V)} {ps : List (PyData × PyData)}, RepT K V xs ps → xs.length = ps.length
  | _, _, .nil => rfl
  | _, _, .cons _ _ _ _ t => by simp [RepT.len t]
end DL
set_option Elab.async false
set_option linter.all false
set_option maxRecDepth 100000
set_option maxHeartbeats 1000000
namespace DL
open PySem PySem.Spec PyProof.Rows L2
variable [TabCtx]
/-- k tells v and does nothing else -/
def CSem (X : Cx) (k : Sem Value) (v : L2.V) : Prop := ∀ (pins : List (Addr × Obj)) (s : Shared) (σ : L2.St) (H : Hp) (Q : Value → Shared → Prop), L2.Inv X pins σ H s → (∀ u s', L2.Inv X pins σ H s' → L2.RelV v u → Q u s') → wpAny (model X.prog X.w) X.A k Q X.xe s
inductive PairsC (X : Cx) : List (Sem Value × Sem Value) → List (Key × L2.V) → Prop
  | nil : PairsC X [] []
  | cons {a b : Sem Value} {k : Key} {v : L2.V} {ps : List (Sem Value × Sem Value)} {kvs : List (Key × L2.V)} : CSem X a (kV k) → CSem X b v → PairsC X ps kvs → PairsC X ((a, b) :: ps) ((k, v) :: kvs)
section
variable {X : Cx} {F : Fr} {pos : Pos}
theorem PairsC.len {ps : List (Sem Value × Sem Value)} {kvs : List (Key × L2.V)} (h : PairsC X ps kvs) : ps.length = kvs.length := by
  induction h with
  | nil => rfl
  | cons _ _ _ ih => rw [List.length_cons, List.length_cons, ih]
end
end DL
set_option Elab.async false
set_option linter.all false
set_option maxRecDepth 100000
set_option maxHeartbeats 2000000
namespace HD
open PySem PySem.Spec PyProof.Rows L2 HotX
section
variable {prog : Program} {w : World} {A : Around} {E : Value → Shared → Prop} {s : Shared}
theorem next_list_end_hot {it l x1 : Addr} {i : Nat} {items : Array Value} {Q : Option Value → Shared → Prop} (hot : HotAt A x1 s.heap) (hit : s.heap.IsListIter it l i) (hl : s.heap.IsList l items) (hx : items[i]? = none)
    (hne : x1 ≠ it) (hQ : ∀ h', Heap.ExtBut it s.heap h' → Q none { s with heap := h' }) : wpAny (model prog w) A (pyNext (.ref it)) Q E s := by
  obtain ⟨o, ho, hc, hd⟩ := id hit
  obtain ⟨ol, hol, _, nl, hdl⟩ := hl
  obtain ⟨hh, o1, vs1, h1, d1, c1⟩ := hot
  unfold pyNext
  refine wpAny_bind (wpAny_attempt (wpAny_callSpecial?_slot (name := Str.ofString "__next__") hit.typeIs slot_listiter_next
    (wpAny_call_entry slot_listiter_next hit.typeIs entry_listiter_next ?_ (args_listiter_next _))))
  show wpAny _ _ (field (.ref it) 0 >>= _) _ _ s
  refine wpAny_bind (wpAny_field ho hd (x := .ref l) rfl ?_)
  show wpAny _ _ (if (Value.ref l == Value.none) = true then _ else _) _ _ s
  rw [if_neg (show ¬ ((Value.ref l == Value.none) = true) from Bool.false_ne_true)]
  show wpAny _ _ (field (.ref it) 1 >>= _) _ _ s
  refine wpAny_bind (wpAny_field ho hd (x := .int i 0) rfl ?_)
  show wpAny _ _ (seqItems? (.ref l) >>= _) _ _ s
  refine wpAny_bind (wpAny_seqItems hol hdl ?_)
  simp only [Int.toNat_natCast, hx]
  refine wpAny_bind (wpAny_rule (wpAny_bind (wpAny_setField ho hd (by simp) ?_)))
  show wpAny _ _ (newExc (.type "StopIteration") [] >>= _) _ _ _
  refine wpAny_bind ?_
  simp only [newExc, newTuple]
  refine wpAny_bind (wpAny_newObj_type ?_ (by size_fits))
  refine wpAny_bind (m := firstArgMember _ _) (wpAny_of_eq (a := Value.none) (by first | rfl | (simp only [firstArgMember]; rfl)) ?_)
  refine wpAny_newObj_type ?_ (by size_fits)
  have h1' : (s.heap.update it (Obj.mapFields fun x => x.setIfInBounds 0 Value.none)).get? x1 = some o1 := by rw [Heap.get?_update_other _ _ (Ne.symm hne)]; exact h1
  refine raiseNew_hot ⟨hh, o1, vs1, Heap.get?_push_of_some _ (Heap.get?_push_of_some _ h1'), d1, c1⟩ (Nat.ne_of_lt (Heap.lt_size (Heap.get?_push_of_some _ h1'))) (Heap.get?_push_size _ rfl) rfl (by first | (simp; done) | (simp; omega) | (simp only [Array.size_append]; simp; omega)) ?_
  refine wpAny_bind (wpAny_isInstance (T := "StopIteration") (b := true) ⟨_, Heap.get?_update_self _ (Heap.get?_push_size _ rfl) rfl, rfl⟩ isSubtype_stop ?_)
  refine wpAny_pure (hQ _ fun b ob hb e => ?_)
  have e1 : (s.heap.update it (Obj.mapFields fun x => x.setIfInBounds 0 Value.none)).get? b = some ob := by rw [Heap.get?_update_other _ _ (Ne.symm hb)]; exact e
  rw [Heap.get?_update_other _ _ (Nat.ne_of_gt (Heap.lt_size (Heap.get?_push_of_some _ e1)))]
  exact Heap.get?_push_of_some _ (Heap.get?_push_of_some _ e1)
theorem hot_ne {x1 it l : Addr} {i : Nat} {h : Heap} (hot : HotAt A x1 h) (hit : h.IsListIter it l i) : x1 ≠ it := by
  obtain ⟨_, o1, vs1, h1, d1, c1⟩ := hot
  obtain ⟨o, ho, hc, hd⟩ := hit
  intro e
  subst e
  rw [h1] at ho
  cases ho
  rw [d1] at hd
  cases hd
  simp at c1
theorem HotAt.kept {x1 : Addr} {h h' : Heap} (hot : HotAt A x1 h) (k : ∀ o, h.get? x1 = some o → h'.get? x1 = some o) : HotAt A x1 h' := by
  obtain ⟨hh, o1, vs1, h1, d1, c1⟩ := hot
  exact ⟨hh, o1, vs1, k _ h1, d1, c1⟩
end
theorem walks_listH {prog : Program} {w : World} {A : Around} (I ax x1 : Addr) (hne : ax ≠ I) (items : Array Value) :
    Walks prog w A I [I, ax, x1] [I] items.size (fun i v => items[i]? = some v) (fun i h => h.IsListIter I ax i ∧ h.IsList ax items ∧ HotAt A x1 h) where
  sub := fun b hb => by simp at hb; simp [hb]
  frame := fun _ _ _ st hk => ⟨st.1.at fun o e => hk I (by simp) o e, st.2.1.at fun o e => hk ax (by simp) o e, HotAt.kept st.2.2 fun o e => hk x1 (by simp) o e⟩
  item := fun i s Q E hi st hQ => by
    have hn := hot_ne st.2.2 st.1
    refine wpAny_pyNext_list_item st.1 st.2.1 (x := items[i]) (by simp [hi]) fun h' hit' hs' => ?_
    exact hQ _ h' s.toks (by simp [hi]) ⟨hit', st.2.1.extBut hs'.extBut hne, HotAt.kept st.2.2 fun o e => hs'.extBut x1 o hn e⟩ fun b o hb e => hs'.extBut b o (fun h => hb (by simp [h])) e
  done := fun s Q E st hQ => next_list_end_hot st.2.2 st.1 st.2.1 (by simp) (hot_ne st.2.2 st.1) fun h' he' => hQ h' s.toks fun b o hb e => he' b o (fun h => hb (by simp [h])) e
  self := fun _ _ _ _ st hQ => wpAny_pyIter_listiter st.1 hQ
section
variable {prog : Program} {w : World} {A : Around} {E : Value → Shared → Prop} {s : Shared} {l : Addr} {xs : Array (Int × Tok)}
theorem sum_hot {x1 : Addr} {Q : Value → Shared → Prop} (hot : HotAt A x1 s.heap) (hl : s.heap.IsList l (intItems xs))
    (h : ∀ h' tk t', (∀ b o, s.heap.get? b = some o → h'.get? b = some o) → Q (.int (preSum (numAt xs) xs.size) t') { s with heap := h', toks := tk }) :
    wpAny (model prog w) A (call (.builtin "sum") [.ref l]) Q E s := by
  refine call_sum_walkG (iter_intList hl fun s₂ e st hfp hlI => ?_)
  subst e
  obtain ⟨hh, o1, vs1, h1, d1, c1⟩ := hot
  have hx : x1 < s.heap.objs.size := Heap.lt_size h1
  refine ⟨_, _, _, _, _, _, numAt xs, rfl, walks_listH (A := A.in1) _ l x1 hlI (intItems xs), ⟨st.1, st.2, hh, o1, vs1, Heap.get?_push_of_some _ h1, d1, c1⟩, fun b hb => ?_, (fun _ _ => intItems_at), fun h' tk t' hk => ?_⟩
  · rcases List.mem_cons.mp hb with rfl | hb
    · exact hfp _ (by simp)
    · rcases List.mem_cons.mp hb with rfl | hb
      · exact hfp _ (by simp)
      · have : b = x1 := by simpa using hb
        subst this
        show b < (s.heap.push _).objs.size
        rw [Heap.size_push]; exact Nat.lt_succ_of_lt hx
  · have := h h' tk t' (old_kept hk)
    simpa [intItems] using this
end
end HD
set_option Elab.async false
set_option linter.all false
set_option maxRecDepth 100000
set_option maxHeartbeats 2000000
namespace HD
open PySem PySem.Spec PyProof.Rows L2 L2H HotX
section
variable {X : Cx}
/-- e tells g of x, and does nothing else -/
def Tells (te : TE) (j : Nat) (x y : V) : Prop := ∀ (σ : L2.St) (H : Hp) (Q : VK), σ[j]? = some (some x) → Q y H → te σ H Q
def tLcH (K : PySem.W.Frag) (ti te : TE) (j : Nat) : TE := fun σ H Q => ti σ H fun v H1 => ∃ (a : Addr) (xs : List V) (g : V → V), v = .ref a ∧ H1 a = some (.lst xs) ∧ xs.length ≤ 1000 ∧ (∀ x ∈ xs, Tells te j x (g x)) ∧ ∀ D, H1 D = none → Q (.ref D) (upd H1 D (.lst (xs.map g)))
theorem pe_lcH {elt iter : Expr} {x : Str} {px : Pos} {scope : Scope} {j : Nat} {pos : Pos} {ti te : TE} {p : Addr × Obj} (hot : Hot1 X.A p) (hp : p ∈ X.pn) (hN : X.N.Nodup) (hj : X.N[j]? = some x) (hi : PE X iter ti) (ok : BlkOk X.N X.env.scope scope [(x, j)])
    (hg : ∀ (s : Shared) (H : Hp) (C : Addr) (cl : List (Str × Addr)) (fp : List Addr), PG (X.blk s H scope (compEnvC scope cl C X.env) fp) (.Name x px) (gName j))
    (he : ∀ (s : Shared) (H : Hp) (C : Addr) (cl : List (Str × Addr)) (fp : List Addr), PE (X.blk s H scope (compEnvC scope cl C X.env) fp) elt te) (hs : ∀ x, foldedSetIterable iter X.env x = pure x := by intro _; rfl) :
    PE X (.ListComp elt [⟨.Name x px, iter, [], 0⟩] scope pos) (tLcH X.K ti te j) := by
  refine ⟨fun pins s σ H Q I h => ?_⟩
  rw [eval_ListComp]
  have hfree : ∀ y ∈ scope.names, y.2 = .free → ∃ c, X.env.cells.lookup y.1 = some c := fun y hy e => by
    rcases ok.free y hy e with k | k
    · exact I.ok.has _ (.inl k)
    · exact I.ok.has _ (.inr k)
  refine wpAny_comprehension_free (use := none) rfl hs (closure_ok hfree) ok.kind (fun y hy e => by rw [ok.uniq y hy, e]) (thn (hi.run pins s σ H _ I h) fun u s1 hu => ?_)
  obtain ⟨v, H1, I1, rv, a, xs, g, rfl, ha, hxl, hte, hq⟩ := hu
  obtain rfl : u = Value.ref a := rv
  obtain ⟨its, rvs, pl, hz⟩ := I1.list (.inl (.inl ha))
  have hlen := rvs.length
  refine wpAny_pyIter_list pl.isList ?_
  generalize hit : s1.heap.objs.size = it
  have nit : H1 it = none := I1.hok.fresh (Nat.le_of_eq hit)
  have hait : a ≠ it := fun z => by rw [z, nit] at ha; cases ha
  generalize hs2 : ({ s1 with heap := s1.heap.push { cls := .type "list_iterator", data := .fields #[.ref a, .int 0 0] } } : Shared) = s2
  have h2 : s2.heap = s1.heap.push { cls := .type "list_iterator", data := .fields #[.ref a, .int 0 0] } := by rw [← hs2]
  have I2 : Inv X pins σ H1 s2 := by rw [← hs2]; exact I1.kept (t' := s1.toks) fun b o e => Heap.get?_push_of_some _ e
  have f2 : FpOk X pins H1 it := I1.fpOk (Nat.le_of_eq hit) nit
  have lit : it < s2.heap.objs.size := by rw [h2, Heap.size_push, ← hit]; exact Nat.lt_succ_self _
  have st2 : s2.heap.IsListIter it a 0 := by rw [h2, ← hit]; exact ⟨_, Heap.get?_push_size _ rfl, rfl, rfl⟩
  refine wpAny_newObj_type (newEnv_comp ?_) (by show 0 ≤ sizeLine; decide)
  generalize hD : s2.heap.objs.size = D
  have hDn : H1 D = none := I2.hok.fresh (Nat.le_of_eq hD)
  have hq := hq D hDn
  have hDit : D ≠ it := by rw [← hD]; exact Nat.ne_of_gt lit
  generalize hs3 : ({ s2 with heap := s2.heap.push { cls := .type "list", data := .seq ([] : List Value).toArray } } : Shared) = s3
  have h3 : s3.heap = s2.heap.push { cls := .type "list", data := .seq ([] : List Value).toArray } := by rw [← hs3]
  have I3 : Inv X pins σ (upd H1 D (.lst [])) s3 := by
    rw [← hs3]
    refine I2.laid (t' := s2.toks) (fun b o e => Heap.get?_push_of_some _ e) (Nat.le_of_eq hD) ⟨Nat.zero_le _, [], 0, .nil, ?_⟩
    rw [← hD]
    exact Heap.get?_push_size _ rfl
  have f3 : ∀ b ∈ [it], FpOk X pins (upd H1 D (.lst [])) b ∧ b < s3.heap.objs.size := fun b hb => by
    have e : b = it := by simpa using hb
    subst e
    refine ⟨⟨?_, f2.2⟩, by rw [h3, Heap.size_push]; exact Nat.lt_succ_of_lt lit⟩
    rw [upd_ne (Ne.symm hDit)]; exact nit
  have I4 := block_start I3 ok hN f3
  have pg := hg s3 (upd H1 D (.lst [])) s3.heap.objs.size (cellsFrom (s3.heap.objs.size + 1) scope.names (cloFrom X.env.cells scope.names [])) [it]
  have pe := he s3 (upd H1 D (.lst [])) s3.heap.objs.size (cellsFrom (s3.heap.objs.size + 1) scope.names (cloFrom X.env.cells scope.names [])) [it]
  show codeAny _ _ (.compStart (.ListComp elt [⟨.Name x px, iter, [], 0⟩] scope pos) 0 (.ref it) (.ref D) (compEnvC scope (cellsFrom (s3.heap.objs.size + 1) scope.names (cloFrom X.env.cells scope.names [])) s3.heap.objs.size X.env)) (compPost (model X.prog X.w) X.A X.xe none _ (.ref D) s3.heap.objs.size) { s3 with heap := pushCells (s3.heap.push { cls := .type "dict", data := .dict #[] }) scope.names }
  generalize hce : compEnvC scope (cellsFrom (s3.heap.objs.size + 1) scope.names (cloFrom X.env.cells scope.names [])) s3.heap.objs.size X.env = ce at I4 pg pe ⊢
  have cL : ce.locals = s3.heap.objs.size := by subst hce; rfl
  generalize hH3 : upd H1 D (.lst []) = H3 at I3 I4 pg pe f3
  generalize hs4 : ({ s3 with heap := pushCells (s3.heap.push { cls := .type "dict", data := .dict #[] }) scope.names } : Shared) = s4 at I4 ⊢
  have k34 : ∀ b o, s3.heap.get? b = some o → s4.heap.get? b = some o := fun b o e => by rw [← hs4]; exact pushCells_keeps _ _ _ _ (Heap.get?_push_of_some _ e)
  have P3 := I3.pin p (List.mem_append_left _ hp)
  have lp : p.1 < s3.heap.objs.size := Heap.lt_size P3.1
  have I4p : Inv (X.blk s3 H3 scope ce [it]) [p] (wipe σ ([(x, j)].map (·.2))) H3 s4 := I4.pins_of fun q hq => by
    have e : q = p := by simpa using hq
    subst e
    exact ⟨k34 _ _ P3.1, P3.2.1, by show q.1 ≠ ce.locals; rw [cL]; exact Nat.ne_of_lt lp, fun hm => (List.mem_cons.mp (I3.stkSub q.1 hm)).elim P3.2.2.1 P3.2.2.2.1, P3.2.2.2.2⟩
  have st4 : s4.heap.IsListIter it a 0 := by
    refine st2.at fun o e => k34 _ _ ?_
    rw [h3]; exact Heap.get?_push_of_some _ e
  have aD : a ≠ D := fun z => by rw [z, hDn] at ha; cases ha
  have jl : j < X.N.length := (List.getElem?_eq_some_iff.mp hj).1
  have loop : codeAny (model X.prog X.w) X.A (.compLoop (.ListComp elt [⟨.Name x px, iter, [], 0⟩] scope pos) 0 (.ref it) (.ref D) ce) (compPost (model X.prog X.w) X.A X.xe none (EP X pins σ Q) (.ref D) s3.heap.objs.size) s4 := by
    refine compLoop_any (fun n s' => ∃ i, i ≤ xs.length ∧ n = xs.length - i ∧ Inv (X.blk s3 H3 scope ce [it]) [p] (wipe σ ([(x, j)].map (·.2))) (upd H1 D (.lst ((xs.take i).map g))) s' ∧ s'.heap.IsListIter it a i) ?_ xs.length ⟨0, Nat.zero_le _, rfl, by rw [List.take_zero, List.map_nil, hH3]; exact I4p, st4⟩
    rintro n s5 ⟨i, hil, rfl, I5, st5⟩
    have ha5 : upd H1 D (.lst ((xs.take i).map g)) a = some (.lst xs) := by rw [upd_ne aD]; exact ha
    have n5 : upd H1 D (.lst ((xs.take i).map g)) it = none := by rw [upd_ne (Ne.symm hDit)]; exact nit
    obtain ⟨its5, rv5, pl5, _⟩ := I5.list (.inl (.inl ha5))
    have hl5 := rv5.length
    have f5 : FpOk (X.blk s3 H3 scope ce [it]) [p] (upd H1 D (.lst ((xs.take i).map g))) it :=
      ⟨n5, (I5.ok.exf it (by simp)).1, I5.ok.exfs it (by simp), .inl (by simp), fun y c e => (I5.ok.exf it (by simp)).2 y c e, fun q hq => by
        have e : q = p := by simpa using hq
        subst e
        exact (f3 it (by simp)).1.2.2.2.2.2 q (List.mem_append_left _ hp)⟩
    obtain ⟨f50, f51, f52, f53, f54, f55⟩ := id f5
    have pin5 := I5.pin p (by simp)
    obtain ⟨hh, vs1, e1, c1⟩ := hot
    by_cases hlt : i < xs.length
    · obtain ⟨xv, hxv⟩ : ∃ xv, xs[i]? = some xv := ⟨_, List.getElem?_eq_getElem hlt⟩
      obtain ⟨u, hu, ru⟩ := rv5.get hxv
      refine wpAny_pyNext_list_item st5 pl5.isList (x := u) (by simpa using hu) fun h' st' sb => ?_
      have I6 : Inv (X.blk s3 H3 scope ce [it]) [p] (wipe σ ([(x, j)].map (·.2))) (upd H1 D (.lst ((xs.take i).map g))) { s5 with heap := h' } := I5.turned (t' := s5.toks) (fun b o hb e => (sb.2 b hb).trans e) f50 f51 f53 f54 f55
      obtain ⟨o, eo, co, d_o⟩ := id st'
      refine go_of (s := { s5 with heap := h' }) eo co d_o (by decide) ?_
      have I6' := I6.pinned (fp := [it]) (fun b hb => by
        have e : b = it := by simpa using hb
        subst e
        exact f5) (fun b hb => by
        have e : b = it := by simpa using hb
        subst e
        exact ⟨o, eo, fun v z => by rw [d_o] at z; cases z⟩)
      refine thnF (pg.run _ _ _ _ xv u (fun σ' H' => σ' = (wipe σ ([(x, j)].map (·.2))).set j (some xv) ∧ H' = upd H1 D (.lst ((xs.take i).map g))) I6' ru ⟨rfl, rfl⟩) fun _ s8 ⟨σ8, H8, I8, e8, eH8⟩ => ?_
      subst e8 eH8
      refine wpAny_tests_nil ?_
      simp only [if_true]
      have lw : (wipe σ ([(x, j)].map (·.2))).length = X.N.length := by rw [wipe_length]; exact I.len
      refine thnF (pe.run _ s8 _ _ (fun y H' => y = g xv ∧ H' = upd H1 D (.lst ((xs.take i).map g))) I8 (hte xv (List.mem_of_getElem? hxv) _ _ _ (by rw [List.getElem?_set_self (by rw [lw]; exact jl)]) ⟨rfl, rfl⟩)) fun z s10 ⟨yv, H10, I10, r10, ey, eH10⟩ => ?_
      subst ey eH10
      refine app_ok (X := X.blk s3 H3 scope ce [it]) (xs := (xs.take i).map g) I10 upd_same (by rw [List.length_map, List.length_take, sizeLine_eq]; omega) r10 fun s11 I11 => ?_
      refine ⟨xs.length - (i + 1), by omega, i + 1, hlt, rfl, ?_, ?_⟩
      · have e2 : upd (upd H1 D (.lst ((xs.take i).map g))) D (.lst ((xs.take i).map g ++ [g xv])) = upd H1 D (.lst ((xs.take (i + 1)).map g)) := by
          funext b
          by_cases hb : b = D
          · rw [hb, upd_same, upd_same, List.take_add_one, hxv]; simp
          · rw [upd_ne hb, upd_ne hb, upd_ne hb]
        rw [e2] at I11
        refine (I11.unpinned).weak (by rw [List.length_set]) fun k v e => ?_
        by_cases hk : k = j
        · exfalso
          subst hk
          have : (wipe σ ([(x, k)].map (·.2)))[k]? = some none := by
            show (σ.set k none)[k]? = some none
            rw [List.getElem?_set_self (by rw [I.len]; exact jl)]
          rw [this] at e; cases e
        · rw [List.getElem?_set_ne (Ne.symm hk)]; exact e
      · have := I11.pin (it, o) (List.mem_append_right _ (List.mem_append_right _ (mem_pinsAt (by simp) eo)))
        exact st'.at fun o' e' => by
          have : o' = o := by
            have e' : h'.get? it = some o' := e'
            rw [eo] at e'; exact (Option.some.inj e').symm
          subst this
          exact (I11.pin (it, o') (List.mem_append_right _ (List.mem_append_right _ (mem_pinsAt (by simp) eo)))).1
    · have ei : i = xs.length := by omega
      refine next_list_end_hot (x1 := p.1) ⟨hh, p.2, vs1, pin5.1, e1, c1⟩ st5 pl5.isList (by simp; omega) (f55 p (by simp)) fun h' eb => ?_
      have I6 : Inv (X.blk s3 H3 scope ce [it]) [p] (wipe σ ([(x, j)].map (·.2))) (upd H1 D (.lst ((xs.take i).map g))) { s5 with heap := h' } := I5.turned (t' := s5.toks) (fun b o hb e => eb b o hb e) f50 f51 f53 f54 f55
      have I7 : Inv X pins σ (upd H1 D (.lst ((xs.take i).map g))) { s5 with heap := h' } := I3.call' (ch := [it]) I6.os I6.base I6.hok I6.bare fun b hb => ⟨(f3 b hb).1.2.2.2.1, (f3 b hb).1.2.1, (f3 b hb).1.2.2.2.2.1, (f3 b hb).1.2.2.2.2.2⟩
      have nC : upd H1 D (.lst ((xs.take i).map g)) s3.heap.objs.size = none := by
        have z : upd H1 D (.lst ((xs.take i).map g)) ce.locals = none := I6.free
        rw [cL] at z
        exact z
      obtain ⟨mm, hn, _⟩ := I6.loc
      have hn : h'.Ns ce.locals mm := hn
      rw [cL] at hn
      obtain ⟨g0, g1, g2, g3, g4, g5⟩ : FpOk X pins (upd H1 D (.lst ((xs.take i).map g))) s3.heap.objs.size := I3.fpOk (Nat.le_refl _) nC
      refine ⟨mm, hn, fun h'' sb => ⟨.ref D, _, I7.turned (t' := s5.toks) (fun b o hb e => (sb.2 b hb).trans e) g0 g1 g3 g4 g5, rfl, ?_⟩⟩
      rw [ei, List.take_length]
      exact hq
  exact codeAny_compStart_list loop (wpAny_pyIter_listiter st4 loop)
end
end HD
set_option Elab.async false
set_option linter.all false
set_option maxRecDepth 100000
set_option maxHeartbeats 2000000
namespace HD
open PySem PySem.Spec PyProof.Rows L2 L2H HotX
section
variable {X : Cx}
theorem cr_sumH (hc : HotC X) : CallR X (.builtin "sum") (rSum X.K) := by
  intro pins s σ H vs us Q I r h
  obtain ⟨a, ns, rfl, hs, q⟩ := h
  obtain ⟨its, rv, hl, _⟩ := I.list hs
  obtain ⟨x1, hot⟩ := hc.at I
  rw [Vals.ref1 r]
  have hi := rv.ints
  obtain ⟨xs, e⟩ := hi.allInts.items
  have hn : numsOf (intItems xs).toList = ns := by rw [← e]; exact hi.numsOf
  rw [nums_intItems] at hn
  have hl' := hl.isList
  rw [e] at hl'
  refine sum_hot hot hl' fun h' tk t' hk => ?_
  rw [preSum_eq, List.take_of_length_le (by simp), hn]
  exact ⟨.int _, H, I.kept hk, ⟨_, rfl⟩, q⟩
/-- isinstance(e, c), e the handled exception that the context bears -/
theorem call_isH {D : Addr} {p : Addr × Obj} (hp : p ∈ X.pn) (C : ExcC X.K D) (hz : Zc (.ref D) none p.2) (hf : ∃ vs, p.2.data = .fields vs) : CallR X (.builtin "isinstance") (rIsE X.K D p.1) := by
  intro pins s σ H xs us Q I r h
  obtain ⟨c, cv, b, rfl, hcv, e, q⟩ := h
  cases r with
  | cons rx rr =>
    cases rr with
    | cons rt rr =>
      cases rr
      cases rx
      have ec := hcv _ rt
      subst ec
      obtain ⟨hget, _⟩ := I.pin p (List.mem_append_left _ hp)
      obtain ⟨vs, hv⟩ := hf
      have J : PySem.W.InstAt s.heap p.1 p.2 D none := by
        obtain ⟨pa, oc, od, oda, osl⟩ := p
        obtain ⟨h1, h2⟩ := hz
        dsimp only at h1 h2 hv
        subst h1 h2 hv
        exact ⟨hget, rfl, rfl, trivial⟩
      exact PySem.W.kia_one (PySem.W.handS_kitx_exc C.hg C.hk C.hs C.hd C.ha C.hn C.ht C.hm) I.kIn J e (fun z => nomatch z) fun tk => ⟨.bl b, H, I.kept (t' := tk) fun _ _ z => z, rfl, q⟩
end
end HD
set_option Elab.async false
set_option linter.all false
set_option maxRecDepth 100000
set_option maxHeartbeats 2000000
namespace HD
open PySem PySem.Spec PyProof.Rows L2 L2H HotX
/-- what such a def promises of the handled exception p, its arguments and the state -/
abbrev SpP := Addr × Obj → Sp
structure FnHP (P : Program) (w : World) (K : PySem.W.Frag) (mg : Str → Option Value) (base : Heap) (CX : CXT) (k : Nat) (f : Addr) (fd : FuncData) (ps : List Str) (sp : SpP) : Prop where
  len : ∀ p vs H Q E, sp p vs H Q E → vs.length = ps.length
  run : ∀ (A : Around) (outer : List Env) (s : Shared) (H : Hp) (args : Args) (us : List Value) (vs : List V) (Q : VK) (E : XK) (p : Addr × Obj), RoomH k A → Hot1 A p → PinOk outer H s p → Env0 P w K mg base A outer s H → BindsTo s fd args (ps.zip us) → Vals vs us → sp p vs H Q E →
    codeAny (model P w) A (.call (.ref f) args) (CR CX outer P w H s Q E) s
theorem fn_ofHP {CX : CXT} {P : Program} {w : World} {K : PySem.W.Frag} {mg : Str → Option Value} {base : Heap} {k : Nat} {f : Addr} {name qual : Str} {params : Arguments} {body : List Stmt} {scope : Scope} {dV kV doc pm cdv ct oc : Value} {an od : Option Addr}
    {osl : Array (Option Value)} {N ps : List Str} {sp : SpP} (lk : K.lookup f = some ⟨oc, od, .func (PySem.W.fnOf name qual params body scope dV kV doc pm an cdv ct), osl⟩) (hcd : PySem.W.codeIn K cdv qual = true) (S : FnScope N ps scope)
    (len : ∀ p vs H Q E, sp p vs H Q E → vs.length = ps.length)
    (hbody : ∀ (A : Around) (outer : List Env) (s : Shared) (H : Hp) (vs : List V) (Q : VK) (E : XK) (p : Addr × Obj), Hot1 A p → RoomH k (A.deeper (envOfC qual scope s.heap.objs.size f cdv)) → sp p vs H Q E →
      ∃ t, PSs (cxH CX P w K mg base N qual scope f cdv A outer s H E p) body t ∧ t { nx := fun _ H' => Q .non H', rt := Q } (L2.start N vs) H) :
    FnHP P w K mg base CX (k + 1) f (PySem.W.fnOf name qual params body scope dV kV doc pm an cdv ct) ps sp := by
  refine ⟨len, fun A outer s H args us vs Q E p hr hot hpin e0 hb r hsp => ?_⟩
  have hl := len _ _ _ _ _ hsp
  have KX : K.In s.heap := e0.mod.kin.keeps fun b o e => (e0.bs b o e).1
  have lim : s.heap.NoLimit := e0.mod.nolimit.keeps fun b o e => (e0.bs b o e).1
  refine codeAny_call_function hr.depth (KX _ _ lk) rfl S.co S.gen rfl (PySem.W.codeRec_of KX hcd) (hb _ _ _ _ ?_)
  refine wpAny_newFunctionEnv_cells S.kind (fun ⟨n, v⟩ hy => ?_) fun env he s1 x => ?_
  · rcases S.par n (List.of_mem_zip hy).1 with q | q
    · exact .inl q
    · exact .inr ⟨q, PySem.W.cellsFrom_some _ _ _ (.inl q)⟩
  subst he
  refine ⟨lim.keeps x.toInCall.keep, codeAny_func ?_⟩
  obtain ⟨t, ht, hq⟩ := hbody A outer s H vs Q E p hot (hr.deeper _) hsp
  have I := inv_startH (CX := CX) (E := E) (w := w) S hpin e0 hl r x
  refine wpAny_mono (ht.run [] s1 (L2.start N vs) H _ I hq) (fun fl s' hs => ?_) fun e s' hs => hs
  cases fl with
  | ret u =>
    obtain ⟨v, σ', H', J, rv, q⟩ := hs
    exact ⟨v, H', J.os, J.bare, J.base, J.hok, rv, q⟩
  | next =>
    obtain ⟨σ', H', J, q⟩ := hs
    exact ⟨V.non, H', J.os, J.bare, J.base, J.hok, rfl, q⟩
  | brk =>
    obtain ⟨_, _, _, q⟩ := hs
    exact False.elim q
  | cont =>
    obtain ⟨_, _, _, q⟩ := hs
    exact False.elim q
section
variable {X : Cx} {CX : CXT} {k : Nat} {f : Addr} {fd : FuncData} {ps : List Str} {sp : SpP} {E : L2.St → XK} {x : Str} {q pos : Pos} {e : Expr} {es : List Expr} {t : TA}
def tCallP (p : Addr × Obj) (sp : SpP) (E : L2.St → XK) (t : TA) : TE := fun σ H Q => t σ H fun vs H1 => sp p vs H1 Q (E σ)
theorem pe_callHP {p : Addr × Obj} (F : FnHP X.prog X.w X.K X.mg X.base CX k f fd ps sp) (hr : RoomH k X.A) (hot : Hot1 X.A p) (hp : p ∈ X.pn) (hg : Gl X x) (hm : X.mg x = some (.ref f)) (hk : PySem.W.keepIn X.K (.ref f) = true) (hb : Binds X.K fd ps []) (hx : ∀ σ, PassesAt CX X σ (E σ))
    (ha : PA X (e :: es) t) (hdb : (x == ("__debug__" : Str)) = false := by decide) (he : starEach (e :: es) X.env = (false, eval e X.env) :: starEach es X.env := by rfl) (hpl : (backTo pos (starEach es X.env)).any (·.1) = false := by rfl) :
    PE X (.Call (.Name x q) (e :: es) [] pos) (tCallP p sp E t) := by
  refine ⟨fun pins s σ H Q I h => ?_⟩
  refine wpAny_Call_Name_kw (ld_glob I hg hm ?_ hdb)
  refine PySem.W.callWith_K (h₀ := X.base) I.ok.mod.kin hk (thn (ha.run pos pins s σ H _ I h) fun us s1 ⟨vs, H1, I1, r, hsp⟩ => ⟨I1.kIn, ?_⟩) he hpl
  have hl : us.length = ps.length := by rw [← r.length]; exact F.len _ _ _ _ _ hsp
  have b := hb s1 us I1.kIn (by rw [List.append_nil]; exact hl)
  rw [List.append_nil] at b
  have P1 := I1.pin p (List.mem_append_left _ hp)
  have hpin : PinOk X.stack H1 s1 p := ⟨P1.1, P1.2.1, fun hm => (List.mem_cons.mp (I1.stkSub p.1 hm)).elim P1.2.2.1 P1.2.2.2.1, P1.2.2.2.2⟩
  refine wpAny_call (codeAny_mono (F.run X.A X.stack s1 H1 ⟨us, []⟩ us vs Q (E σ) p hr hot hpin I1.env0 b r hsp) fun r s' hq => ?_)
  cases r with
  | error e => exact hx σ pins H1 s1 e s' I1 hq
  | ok fl =>
    cases fl with
    | ret u => exact I1.after hq
    | next => exact False.elim hq
    | brk => exact False.elim hq
    | cont => exact False.elim hq
end
end HD
set_option Elab.async false
set_option linter.all false
set_option maxRecDepth 100000
set_option maxHeartbeats 2000000
namespace HD
open PySem PySem.Spec PyProof.Rows L2 L2H HotX
/-- the clauses, each with `as n` (slot i): what they wish of an exception of the body -/
def wAsM (K : PySem.W.Frag) (len i : Nat) (D : Ends) : List (Value × (Addr → Value → Option Addr → TS)) → WX
  | [] => fun _ _ _ _ => False
  | (c, ts) :: r => fun cls d σ H => ∃ b, PySem.W.exmOne K cls c = some b ∧ (b = true → σ.length = len → ∀ a, H a = none → ts a cls d { nx := fun σ' H' => D.nx (σ'.set i none) H', bk := fun σ' H' => D.bk (σ'.set i none) H', ct := fun σ' H' => D.ct (σ'.set i none) H', rt := D.rt } (σ.set i (some (.ref a))) H) ∧ (b = false → wAsM K len i D r cls d σ H)
inductive AsOk (X : Cx) (n : Str) : List ExceptHandler → List (Value × (Addr → Value → Option Addr → TS)) → Prop
  | nil : AsOk X n [] []
  | cons {x : Str} {c : Value} {ts : Addr → Value → Option Addr → TS} {b₀ : Stmt} {suite : List Stmt} {np pos' : Pos} {hds : List ExceptHandler} {l : List (Value × (Addr → Value → Option Addr → TS))} (hc : Names X x c)
      (hsu : ∀ (a : Addr) (oe : Obj) (cls : Value) (d : Option Addr) (pn : List (Addr × Obj)), L2N.Zn cls d oe → (∃ vs, oe.data = .fields vs) → PSs (X.suite a ((a, oe) :: pn)) (b₀ :: suite) (ts a cls d)) (r : AsOk X n hds l) :
      AsOk X n (.ExceptHandler (some (.Name x np)) (some n) (b₀ :: suite) pos' :: hds) ((c, ts) :: l)
section
variable {X : Cx} {n : Str} {i : Nat} {body : List Stmt} {h₀ : ExceptHandler} {hds : List ExceptHandler} {l : List (Value × (Addr → Value → Option Addr → TS))} {pos : Pos} {tb : WX → TS}
/-- each exception of the body is caught by one of the clauses -/
theorem ps_try_asM (hs : X.stack = X.env :: X.outer) (hf : X.env.frame = some X.env.locals) (hN : X.N.Nodup) (hi : X.N[i]? = some n) (hln : X.env.kindOf n = some .local)
    (hb : ∀ (W : WX) (pn : List (Addr × Obj)) (xe : Value → Shared → Prop), L2N.Takes (X.tr pn xe) W → PassesOwn (model X.prog X.w) X.A X.env xe → PSs (X.tr pn xe) body (tb W))
    (hh : AsOk X n (h₀ :: hds) l) : PS X (.Try body (h₀ :: hds) [] [] pos) (fun D σ H => tb (wAsM X.K X.N.length i D l) D σ H) := by
  refine ⟨fun pins s σ H D I h => ?_⟩
  have ok := I.ok
  have hfr : X.A.frames = some (X.env :: X.outer) := by rw [ok.frames, hs]
  have hloc : Loc X.env.scope n := .inl hln
  have caught : L2N.Takes (X.tr (X.pn ++ pins) fun e s₁ => wpAny (model X.prog X.w) X.A (noteFrame e X.env) (fun _ s₂ => wpAny (model X.prog X.w) X.A (setFlight e none) (fun _ s₃ =>
      wpAny (model X.prog X.w) X.A (handleBy e X.env (h₀ :: hds)) (SP X pins D) X.xe s₃) X.xe s₂) X.xe s₁) (wAsM X.K X.N.length i D l) := by
    rintro u s' ⟨a, B, sI, pins', σ', H', cls, d, rfl, J', nb, up, sky, na, os, ag, wsh⟩
    have J : Inv X pins σ' H' sI := J'.ofTry ok
    show wpAny (model X.prog X.w) X.A (noteFrame (.ref a) X.env) _ _ _
    refine L2N.Sky.land L2N.Zn.steady hfr hf (show Sky B (X.env :: X.outer) a (L2N.Zn cls d) X.env.locals s'.heap by rw [← hs]; exact sky) fun h3 fl3 up3 => ?_
    have J3 : Inv X pins σ' H' { s' with heap := h3 } := J.landed nb fl3.1 (up.trans up3) os ag
    obtain ⟨oe3, vs3, he3, hz3, hd3⟩ := fl3.there
    have nfr : a ∉ frs (X.env :: X.outer) := fun hm => by
      obtain ⟨_, o', e', hnf⟩ := fl3.2.2.1.mem hm
      rw [he3] at e'; cases e'
      exact hnf _ hd3
    have nL : a ≠ X.env.locals := fun z => nfr (List.mem_filterMap.mpr ⟨X.env, List.mem_cons_self, by rw [hf, z]⟩)
    have nF : a ∉ X.fs := fun hm => by
      obtain ⟨e, he, q⟩ := List.mem_filterMap.mp hm
      exact nfr (List.mem_filterMap.mpr ⟨e, List.mem_cons_of_mem _ he, q⟩)
    have S3 := J3.suite he3 hd3 na nL nF
    have LT : PySem.W.Looks (model X.prog X.w) h3 (typeOf (.ref a)) cls := fun A Q E s k q => wpAny_typeOf_ref (k _ _ he3) (by rw [hz3.1]; exact q)
    clear sky h
    generalize h₀ :: hds = hl at hh ⊢
    induction hh with
    | nil => exact wsh.elim
    | @cons x c ts b₀ suite np pos' hds2 l2 hc hsu r ih =>
      obtain ⟨b, hb1, hyes, hno⟩ := wsh
      refine wpAny_handleBy_cons (codeAny_handlers_test ?_) (by intro q; cases q)
      have LM := PySem.W.exm_one (M := model X.prog X.w) (J3.kIn) LT hb1
      have test : ∀ {Q : Value → Shared → Prop} {E : Value → Shared → Prop}, Q c { s' with heap := h3 } → wpAny (model X.prog X.w) (X.A.mark (some (.ref a))) (eval (.Name x np) X.env) Q E { s' with heap := h3 } := fun {Q E} q => by
        obtain ⟨hg, hdbg, hm | ⟨hm, hv, hnn⟩⟩ := hc
        · exact ld_glob (X := X.suite a ((a, oe3) :: (X.pn ++ pins))) S3 hg hm q hdbg
        · exact ld_blt (X := X.suite a ((a, oe3) :: (X.pn ++ pins))) S3 hg hm hv q hnn hdbg
      refine test (LM.here ?_)
      cases b with
      | false => exact ih (hno rfl)
      | true =>
        refine codeAny_handlers_suite_as ?_
        refine HandSPX.lands_againZ fl3 fun h4 fl4 up4 => ?_
        have J4 : Inv X pins σ' H' { s' with heap := h4 } := J.landed nb fl4.1 ((up.trans up3).trans up4) os ag
        obtain ⟨oe4, vs4, he4, hz4, hd4⟩ := fl4.there
        have S4 := J4.suite he4 hd4 na nL nF
        refine store_ok (X := X.suite a ((a, oe4) :: (X.pn ++ pins))) (v := .ref a) S4 hN hi hloc rfl (fun s5 S5 => ?_) (.inr hln)
        refine wpAny_mono ((hsu a oe4 cls d (X.pn ++ pins) hz4 ⟨_, hd4⟩).run [] s5 _ H' _ S5 (hyes rfl J.len a na)) (fun f s6 hsp => ?_) (fun _ _ z => False.elim z)
        have end_ : ∀ {σ6 : L2.St} {H6 : Hp} {Q : Shared → Prop}, Inv (X.suite a ((a, oe4) :: (X.pn ++ pins))) [] σ6 H6 s6 → (∀ s7, Inv X pins (σ6.set i none) H6 s7 → Q s7) →
            wpAny (model X.prog X.w) X.A (do bindName X.env n .none; unbindBehindTheSuite X.env n pos') (fun _ s7 => Q s7) X.xe s6 := fun {σ6 H6 Q} S6 hq => gone_ok (S6.unsuite ok) hN hi hln hq
        cases f with
        | next => obtain ⟨σ6, H6, S6, q6⟩ := hsp; exact end_ S6 fun s7 J7 => ⟨_, _, J7, q6⟩
        | brk => obtain ⟨σ6, H6, S6, q6⟩ := hsp; exact end_ S6 fun s7 J7 => ⟨_, _, J7, q6⟩
        | cont => obtain ⟨σ6, H6, S6, q6⟩ := hsp; exact end_ S6 fun s7 J7 => ⟨_, _, J7, q6⟩
        | ret u => obtain ⟨v6, σ6, H6, S6, r6, q6⟩ := hsp; exact end_ S6 fun s7 J7 => ⟨_, _, _, J7, r6, q6⟩
  refine wpAny_Try_except (wpAny_mono ((hb _ _ _ caught PassesOwn.looking).run [] s σ H D (I.toTry _) h) (fun f s1 hsp => ?_) fun e s1 he => he)
  cases f with
  | next => obtain ⟨σ', H', J', q⟩ := hsp; exact wpAny_execs_nil ⟨σ', H', J'.ofTry ok, q⟩
  | brk => obtain ⟨σ', H', J', q⟩ := hsp; exact ⟨σ', H', J'.ofTry ok, q⟩
  | cont => obtain ⟨σ', H', J', q⟩ := hsp; exact ⟨σ', H', J'.ofTry ok, q⟩
  | ret u => obtain ⟨v, σ', H', J', r, q⟩ := hsp; exact ⟨v, σ', H', J'.ofTry ok, r, q⟩
end
end HD
set_option Elab.async false
set_option linter.all false
set_option maxRecDepth 100000
set_option maxHeartbeats 2000000
namespace HD
open PySem PySem.Spec PyProof.Rows L2 L2H HotX LamX
/-- the context of the lambda's body -/
abbrev lamN (X : Cx) (A : Around) (outer : List Env) (s : Shared) (H : Hp) (E : XK) (scope : Scope) (f c' : Addr) : Cx :=
  (lamCx X A outer s H E scope f c').tr [] fun e s' => wpAny (model X.prog X.w) (A.deeper (lamEnv X scope s.heap.objs.size f c')) (leaving (lamEnv X scope s.heap.objs.size f c') e) (fun _ s'' => L2N.CX X.prog X.w outer H s E e s'') (fun e' s'' => L2N.CX X.prog X.w outer H s E e' s'') s'
section
variable {X : Cx} {pins : List (Addr × Obj)} {σ : L2.St} {H HZ : Hp} {s s1 : Shared}
theorem act_N {CXg : CXT} {Eg : XK} {Ng : List Str} {qg : Str} {sg : Scope} {g f c' : Addr} {cdg pm ctv : Value} {params : Arguments} {body : Expr} {scope : Scope} {k i : Nat} {a : Str} {pn : List (Addr × Obj)} {xe : Value → Shared → Prop} {W : WX} {E : XK} {tb : TE} {p1 p2 : Pos}
    (I : Inv X pins σ H s) (L : LamS X.env.scope scope) (hf : s.heap.get? f = some (PySem.W.kla_obj "<lambda>" (X.env.qual ++ "<lambda>") params body scope (cloFrom X.env.cells scope.names []) pm c' ctv)) (hfn : H f = none) (hfr : f ∉ frs X.stack)
    (hbind : bindArgs (PySem.W.kla_fn "<lambda>" (X.env.qual ++ "<lambda>") params body scope (cloFrom X.env.cells scope.names []) pm (.ref c') ctv) ⟨[], []⟩ = pure [])
    (tk : L2N.Takes ((cxOf CXg X.prog X.w X.K X.mg X.base Ng qg sg g cdg X.A X.stack s H Eg).tr pn xe) W) (hW : ∀ cls d σ' H', E cls d H' → W cls d σ' H') (hr : Room (k + 1) (X.A.deeper (envOfC qg sg s.heap.objs.size g cdg)))
    (hbody : ∀ (A : Around) (outer : List Env) (s : Shared) (H : Hp), Room k (A.deeper (lamEnv X scope s.heap.objs.size f c')) → PE (lamN X A outer s H E scope f c') body tb)
    (hN : Ng[i]? = some a) (hv : Vis sg a) (hd : (a == ("__debug__" : Str)) = false := by decide) (hcd : (a == ("__classdict__" : Str)) = false := by decide) :
    PE ((cxOf CXg X.prog X.w X.K X.mg X.base Ng qg sg g cdg X.A X.stack s H Eg).tr pn xe) (.Call (.Name a p1) [] [] p2)
      (fun σZ HZ Q => σZ[i]? = some (some (.ref f)) ∧ HZ c' = some (CodeO c' (X.env.qual ++ "<lambda>")) ∧ tb σ HZ Q) := by
  refine ⟨fun pinsZ sZ σZ HZ Q IZ ⟨hs, hc, ht⟩ => ?_⟩
  refine wpAny_Call_Name_kw (thn ((pe_var (pos := p1) (i := i) hN hv hd hcd).run pinsZ sZ σZ HZ (fun v H1 => v = .ref f ∧ H1 = HZ) IZ ⟨.ref f, hs, rfl, rfl⟩) fun u s1 ⟨v, H1, I1, r1, ev, eH⟩ => ?_)
  subst ev
  rw [eH] at I1
  obtain rfl : u = Value.ref f := r1
  have of1 : s1.heap.get? f = some (PySem.W.kla_obj "<lambda>" (X.env.qual ++ "<lambda>") params body scope (cloFrom X.env.cells scope.names []) pm c' ctv) := I1.base.keep f _ hf hfn hfr (fun z => nomatch (show f ∈ ([] : List Addr) from z))
  refine PySem.W.callWith_F0 ⟨_, _, _, _, of1⟩ ?_
  have un : Un (frs X.stack) [] H HZ s.heap s1.heap := I1.base
  obtain ⟨⟨oc, vs, t, hoc, hdc, hvc⟩, _, _⟩ := I1.hok c' _ hc
  have rc : codeAny (model X.prog X.w) (X.A.deeper (envOfC qg sg s.heap.objs.size g cdg)) (.call (.ref f) ⟨[], []⟩) (CR (L2N.CX X.prog X.w) (envOfC qg sg s.heap.objs.size g cdg :: X.stack) X.prog X.w HZ s1 Q E) s1 := by
    refine PySem.W.kla_callFunE hr.depth of1 rfl L.co L.gen rfl ⟨c', oc, vs, t, rfl, hoc, hdc, hvc⟩ ?_
    rw [hbind]
    refine wpAny_pure (wpAny_newFunctionEnv (fun y hy => (L.own y hy).2) (fun y hy => absurd hy (by simp)) (fun h₁ hns hsb => ⟨I1.nolimit.fresh _ hsb, ?_⟩) L.kind)
    show codeAny _ _ (.expr body (lamEnv X scope s1.heap.objs.size f c')) _ _
    have kp : ∀ b o, s1.heap.get? b = some o → h₁.get? b = some o := fun b o e => hsb.extBut b o (Nat.ne_of_lt (Heap.lt_size e)) (Heap.get?_push_of_some _ e)
    have J0 : Inv (lamCx X (X.A.deeper (envOfC qg sg s.heap.objs.size g cdg)) (envOfC qg sg s.heap.objs.size g cdg :: X.stack) s1 HZ E scope f c') [] σ HZ { s1 with heap := h₁, toks := s1.toks + ([] : List (Str × Value)).length } :=
      lam_start2 I L I1.env0 hr.hd un hns kp
    have J : Inv (lamN X (X.A.deeper (envOfC qg sg s.heap.objs.size g cdg)) (envOfC qg sg s.heap.objs.size g cdg :: X.stack) s1 HZ E scope f c') [] σ HZ { s1 with heap := h₁, toks := s1.toks + ([] : List (Str × Value)).length } := J0.toTry _
    refine PySem.W.kla_codeExpr (wpAny_mono ((hbody _ _ s1 HZ (hr.deeper _)).run [] _ _ HZ Q J ht) (fun v s' hq => ?_) fun e s' hq => hq)
    obtain ⟨w', H', J', rv, q⟩ := hq
    exact ⟨w', H', J'.os, J'.bare, J'.base, J'.hok, rv, q⟩
  have hx := L2N.passes_call (E := E) tk hW
  refine wpAny_call (codeAny_mono rc fun r s' hq => ?_)
  cases r with
  | error e => exact hx pinsZ σZ HZ s1 e s' I1 hq
  | ok fl =>
    cases fl with
    | ret u => exact I1.after hq
    | next => exact False.elim hq
    | brk => exact False.elim hq
    | cont => exact False.elim hq
end
section
variable [DL.TabCtx] {X : Cx} {pins : List (Addr × Obj)} {σ : L2.St} {H : Hp} {s : Shared}
/-- a code object is new, its table grows -/
theorem ext_grown {V : Hp} {P n : Addr} {q : Str} {ps more : Array Value} {u : HO} (hP : H P = some (.tbl ps)) (hn : H n = none) (sv : Same V H) (vP : V P = none) (ht : Tabs DL.TBS H → Tabs DL.TBS (upd (upd H P (.tbl more)) n u)) : DL.Ext H V (upd (upd H P (.tbl more)) n u) V := by
  have nn : ∀ {b : Addr}, H b ≠ none → b ≠ n := fun {b} h z => h (by rw [z]; exact hn)
  have at_ : ∀ {b : Addr}, b ≠ P → b ≠ n → upd (upd H P (.tbl more)) n u b = H b := fun {b} h1 h2 => by rw [upd_ne h2, upd_ne h1]
  refine ⟨fun b o e nt => ?_, Same.refl _, fun b o e => ?_, fun _ z _ => z, fun b h => ?_, ht⟩
  · rw [at_ (fun z => nt ps (Option.some.inj (e.symm.trans (by rw [z]; exact hP)))) (nn (by rw [e]; exact fun z => nomatch z))]; exact e
  · have e2 := sv b o e
    rw [at_ (fun z => by rw [z, vP] at e; cases e) (nn (by rw [e2]; exact fun z => nomatch z))]; exact e2
  · by_cases hb : b = P
    · rw [hb, upd_ne (by rw [← hb]; exact nn h), upd_same]; exact fun z => nomatch z
    · rw [at_ hb (nn h)]; exact h
/-- the lambda is made; what is known of the heap behind -/
theorem lam_makeT {c P : Addr} {params : Arguments} {body : Expr} {scope : Scope} {pos : Pos} {E Q : Value → Shared → Prop} (TB : TabB X.base X.mg c P) (hcode : X.env.code = .ref c) (I : Inv X pins σ H s)
    (hm : (P, X.env.qual ++ "<lambda>") ∈ DL.TBS) (hu : ∀ p ∈ DL.TBS, p.1 = P → p.2 = X.env.qual ++ "<lambda>") (hT : Tabs DL.TBS H) (hdef : defaultsOf params X.env = ([], []))
    (hfree : ∀ y ∈ scope.names, y.2 = .free → ∃ c, X.env.cells.lookup y.1 = some c)
    (h : ∀ (f n : Addr) (pm ctv : Value) (H1 : Hp) (s1 : Shared), Inv X pins σ H1 s1 → (∀ V, Same V H → V P = none → DL.Ext H V H1 V) → H1 f = none → f ∉ frs X.stack → H1 n = some (CodeO n (X.env.qual ++ "<lambda>")) →
      s1.heap.get? f = some (PySem.W.kla_obj "<lambda>" (X.env.qual ++ "<lambda>") params body scope (cloFrom X.env.cells scope.names []) pm n ctv) → s.heap.objs.size ≤ f → Q (.ref f) s1) :
    wpAny (model X.prog X.w) X.A (eval (.Lambda params body scope pos) X.env) Q E s := by
  obtain ⟨tb, hP, tOk, tAll⟩ := hT _ hm
  have gP : s.heap.get? P = some { cls := .none, data := .fields tb } := I.hok P _ hP
  have far : ∀ b, s.heap.objs.size ≤ b → b ∉ frs X.stack := fun b hb z =>
    (List.mem_cons.mp (I.stkSub _ z)).elim (fun e => Nat.lt_irrefl _ (Nat.lt_of_lt_of_le (by have := I.lt; rw [← e] at this; exact this) hb)) fun e => I.nofs hb e
  refine PySem.W.kla_eval hdef ?_
  cases q : codeAmong pos tb.toList with
  | some cv =>
    obtain ⟨n, rfl, hn⟩ := tAll pos cv q
    refine PySem.W.kla_makeFunctionHit (mg := X.mg) (closure_ok hfree) I.ok.glob (I.mod.glob.keeps I.bk) hcode (TB.code.keeps I.bk) gP tOk q (TB.bm.keeps I.bk) fun ctv h1 tk k1 sz => ?_
    refine h h1.objs.size n ((X.mg "__name__").getD .none) ctv H _ ?_ (fun V sv _ => DL.Ext.refl sv) (I.hok.fresh sz) (far _ sz) hn (Heap.get?_push_size _ rfl) sz
    exact I.kept fun b o e => Heap.get?_push_of_some _ (k1 b o e)
  | none =>
    refine PySem.W.kla_makeFunction (mg := X.mg) (closure_ok hfree) I.ok.glob (I.mod.glob.keeps I.bk) hcode (TB.code.keeps I.bk) gP tOk q TB.gP (TB.bm.keeps I.bk) fun n ctv h1 tk k1 ge lt rc tb1 => ?_
    obtain ⟨_, ob, us, t, e0, e1, e2, e3⟩ := rc
    cases e0
    have hn : H n = none := I.hok.fresh ge
    have sz : s.heap.objs.size ≤ h1.objs.size := Nat.le_trans ge (Nat.le_of_lt lt)
    have nPn : P ≠ n := ne_of_none hP hn
    have J := inv_table (t' := tk) (q := X.env.qual ++ "<lambda>") (h' := h1.push (PySem.W.kla_obj "<lambda>" (X.env.qual ++ "<lambda>") params body scope (cloFrom X.env.cells scope.names []) ((X.mg "__name__").getD .none) n ctv)) I hP (fun b o hb e => Heap.get?_push_of_some _ (k1 b o hb e))
      (Heap.get?_push_of_some _ tb1) ge ⟨ob, us, t, Heap.get?_push_of_some _ e1, e2, e3⟩
    have kept : ∀ b u, H b = some u → (∀ ps, u ≠ .tbl ps) → upd (upd H P (.tbl (tb ++ #[rawInt pos.line, rawInt pos.col, .ref n]))) n (CodeO n (X.env.qual ++ "<lambda>")) b = some u := fun b u e nt => by
      rw [upd_ne (ne_of_none e hn), upd_ne (fun z => nt tb (Option.some.inj (e.symm.trans (by rw [z]; exact hP))))]; exact e
    refine h h1.objs.size n ((X.mg "__name__").getD .none) ctv _ _ J (fun V sv vP => ext_grown (q := X.env.qual) hP hn sv vP fun _ p hp => ?_) ?_ (far _ sz) upd_same (Heap.get?_push_size _ rfl) sz
    · by_cases hb : p.1 = P
      · rw [hu p hp hb, hb]
        have eL : (tb ++ #[rawInt pos.line, rawInt pos.col, .ref n]).toList = tb.toList ++ [rawInt pos.line, rawInt pos.col, .ref n] := by simp
        refine ⟨_, by rw [upd_ne nPn, upd_same], by rw [eL]; exact PySem.TriplesOk_snoc _ _ _ _ tOk, fun p2 v2 hv => ?_⟩
        rw [eL] at hv
        rcases among_app _ tOk hv with z | z
        · obtain ⟨d, d1, d2⟩ := tAll p2 v2 z
          exact ⟨d, d1, kept _ _ d2 codeO_ne⟩
        · exact ⟨n, z, upd_same⟩
      · obtain ⟨tb', a1, a2, a3⟩ := hT p hp
        refine ⟨tb', by rw [upd_ne (ne_of_none a1 hn), upd_ne hb]; exact a1, a2, fun p2 v2 hv => ?_⟩
        obtain ⟨d, d1, d2⟩ := a3 p2 v2 hv
        exact ⟨d, d1, kept _ _ d2 codeO_ne⟩
    · rw [upd_ne (Nat.ne_of_gt lt), upd_ne (Nat.ne_of_gt (Nat.lt_of_lt_of_le (Heap.lt_size gP) sz))]
      exact I.hok.fresh sz
end
section
variable {X : Cx} {pins : List (Addr × Obj)} {σ : L2.St} {H HZ : Hp} {s s1 : Shared}
/-- the def that calls what it got -/
def GivesN (X : Cx) (Ng : List Str) (x : Str) (sg : Scope) (g : Addr) (cdg : Value) (bg : List Stmt) (a : Str) (q : Str) (TT : (XK → Hp → VK → Prop) → Hp → VK → Prop) : Prop :=
  ∀ (k : Nat) (f c' : Addr) (s : Shared) (H : Hp) (Q : VK) (tl : XK → Hp → VK → Prop), Room (k + 1) (X.A.deeper (envOfC x sg s.heap.objs.size g cdg)) →
    (∀ (W : WX) (pn : List (Addr × Obj)) (xe : Value → Shared → Prop) (E : XK) (p1 p2 : Pos), L2N.Takes ((cxOf C8.CX0 X.prog X.w X.K X.mg X.base Ng x sg g cdg X.A X.stack s H C8.E0).tr pn xe) W → (∀ cls d σ' H', E cls d H' → W cls d σ' H') →
      PE ((cxOf C8.CX0 X.prog X.w X.K X.mg X.base Ng x sg g cdg X.A X.stack s H C8.E0).tr pn xe) (.Call (.Name a p1) [] [] p2) (fun σZ HZ Q => σZ[0]? = some (some (.ref f)) ∧ HZ c' = some (CodeO c' q) ∧ tl E HZ Q)) →
    H c' = some (CodeO c' q) → TT tl H Q →
    ∃ t, PSs (cxOf C8.CX0 X.prog X.w X.K X.mg X.base Ng x sg g cdg X.A X.stack s H C8.E0).nox bg t ∧ t { nx := fun _ H' => Q .non H', rt := Q } (L2.start Ng [.ref f]) H
section
variable [DL.TabCtx]
def tLamT (P : Addr) (TT : (XK → Hp → VK → Prop) → Hp → VK → Prop) (t : XK → TE) : TE := fun σ H Q => Tabs DL.TBS H ∧ ∀ H1, (∀ V, Same V H → V P = none → DL.Ext H V H1 V) → TT (fun E H' Q' => t E σ H' Q') H1 Q
theorem lamcall_N {TT : (XK → Hp → VK → Prop) → Hp → VK → Prop} {x a : Str} {g c P : Addr} {k : Nat} {pg : Arguments} {bg : List Stmt} {sg : Scope} {dV kV doc pm cdv ct oc : Value} {an od : Option Addr} {osl : Array (Option Value)} {Ng : List Str}
    {params : Arguments} {body : Expr} {scope : Scope} {t : XK → TE} {p lpos pos : Pos} (hg : Gl X x) (hm : X.mg x = some (.ref g)) (hk : PySem.W.keepIn X.K (.ref g) = true)
    (lk : X.K.lookup g = some ⟨oc, od, .func (PySem.W.fnOf x x pg bg sg dV kV doc pm an cdv ct), osl⟩) (hcg : PySem.W.codeIn X.K cdv x = true) (hb : L2.Binds X.K (PySem.W.fnOf x x pg bg sg dV kV doc pm an cdv ct) [a] []) (Sg : FnScope Ng [a] sg) (hNg : Ng[0]? = some a) (hva : Vis sg a)
    (hG : GivesN X Ng x sg g cdv bg a (X.env.qual ++ "<lambda>") TT)
    (TB : TabB X.base X.mg c P) (hcode : X.env.code = .ref c) (hmT : (P, X.env.qual ++ "<lambda>") ∈ DL.TBS) (hu : ∀ p ∈ DL.TBS, p.1 = P → p.2 = X.env.qual ++ "<lambda>") (hr : Room (k + 2) X.A) (L : LamS X.env.scope scope) (hdef : defaultsOf params X.env = ([], []))
    (hbind : ∀ (q : Str) (cl : List (Str × Addr)) (pm cv ctv : Value), bindArgs (PySem.W.kla_fn "<lambda>" q params body scope cl pm cv ctv) ⟨[], []⟩ = pure [])
    (hbody : ∀ (A : Around) (outer : List Env) (s : Shared) (H : Hp) (E : XK) (f c' : Addr), Room k (A.deeper (lamEnv X scope s.heap.objs.size f c')) → PE (lamN X A outer s H E scope f c') body (t E))
    (hdb : (x == ("__debug__" : Str)) = false := by decide) (hd : (a == ("__debug__" : Str)) = false := by decide) (hcd : (a == ("__classdict__" : Str)) = false := by decide) :
    PE X (.Call (.Name x p) [.Lambda params body scope lpos] [] pos) (tLamT P TT t) := by
  refine ⟨fun pins s σ H Q I ⟨hT, h⟩ => ?_⟩
  refine wpAny_Call_Name_kw (ld_glob I hg hm ?_ hdb)
  refine PySem.W.callWith_K (h₀ := X.base) I.ok.mod.kin hk ?_ (by rfl) (by rfl)
  show wpAny _ _ (spliced ((false, eval (.Lambda params body scope lpos) X.env) :: backTo pos (starEach [] X.env))) _ _ s
  refine Calls.spliced_cons (lam_makeT TB hcode I hmT hu hT hdef (L.has I.ok) fun f c' pm' ctv H1 s' I1 eN hfn hfr hco hf _ => ?_)
  refine Calls.spliced_nil ⟨I1.kIn, ?_⟩
  have rc : codeAny (model X.prog X.w) X.A (.call (.ref g) ⟨[.ref f], []⟩) (CR C8.CX0 X.stack X.prog X.w H1 s' Q C8.E0) s' := by
    refine run_ofS (N := Ng) (ps := [a]) (us := [.ref f]) (vs := [.ref f]) lk hcg Sg hr I1.env0 (hb s' [.ref f] I1.kIn rfl) (.cons rfl .nil) rfl fun hr' => ?_
    obtain ⟨t', ht', hq'⟩ := hG k f c' s' H1 Q (fun E H' Q' => t E σ H' Q') hr' (fun W pn xe E p1 p2 tk hW => act_N (i := 0) I1 L hf hfn hfr (hbind _ _ _ _ _) tk hW hr' (fun A outer s H hr2 => hbody A outer s H E f c' hr2) hNg hva hd hcd) hco (h H1 eN)
    exact ⟨t', ht'.nox, hq'⟩
  refine wpAny_call (codeAny_mono rc fun r s2 hq => ?_)
  cases r with
  | error e => exact (show False from hq).elim
  | ok fl =>
    cases fl with
    | ret u => exact I1.after hq
    | next => exact False.elim hq
    | brk => exact False.elim hq
    | cont => exact False.elim hq
end
end
end HD
set_option Elab.async false
set_option linter.all false
set_option maxRecDepth 100000
set_option maxHeartbeats 2000000
namespace HD
open PySem PySem.Spec PyProof.Rows L2 L2H HotX LamX
variable [DL.TabCtx]
def refusedD (c : Str) : PyData := .tuple [.str "refused", .str c]
/-- the refusal's term -/
def spTerm (K : DL.KW) (ok : Str → Prop) : SpP := fun p vs H Q _ => vs = [.ref p.1] ∧ ∃ c V, ok c ∧ DL.TabV H V ∧ Same V H ∧ Zc (.ref (He.ga K c)) none p.2 ∧ (∃ vs, p.2.data = .fields vs) ∧ ∀ v H' V', DL.Ext H V H' V' → DL.Rep K V' v (refusedD c) → Q v H'
/-- what told makes of the lambda's reading -/
def TToldN (K : DL.KW) (ok : Str → Prop) : (XK → Hp → VK → Prop) → Hp → VK → Prop := fun tl H Q =>
  tl (fun cls d H' => ∃ c V, cls = .ref (He.ga K c) ∧ d = none ∧ ok c ∧ DL.TabV H' V ∧ Same V H' ∧ ∀ v H2 V2, DL.Ext H' V H2 V2 → DL.Rep K V2 v (refusedD c) → Q v H2) H Q
section
variable {X : Cx}
theorem pss_never {Y : Cx} {sts : List Stmt} : PSs Y sts (fun _ _ _ => False) := ⟨fun _ _ _ _ _ _ h => h.elim⟩
theorem told_N {ok : Str → Prop} {sg : Scope} {g f CL SE : Addr} {cdg : Value} {q : Str} {fd : FuncData} {s₁ : Expr} {p1 p2 p3 p4 p5 p6 p7 p8 p9 p10 p11 p12 p13 : Pos}
    (F : ∀ k, FnHP X.prog X.w X.K X.mg X.base C8.CX0 (k + 1) f fd ["e"] (spTerm X.kw ok)) (hb : L2.Binds X.K fd ["e"] []) (hkf : PySem.W.keepIn X.K (.ref f) = true) (hmf : X.mg "_law_term" = some (.ref f))
    (hgt : sg.names.lookup ("_law_term" : Str) = some .globalImplicit) (hgc : sg.names.lookup ("Clash" : Str) = some .globalImplicit) (hgs : sg.names.lookup ("SongError" : Str) = some .globalImplicit) (hle : sg.names.lookup ("e" : Str) = some .local) (hmc : X.mg "Clash" = some (.ref CL)) (hms : X.mg "SongError" = some (.ref SE))
    (hok : ∀ c, ok c → PySem.W.exmOne X.K (.ref (He.ga X.K c)) (.ref CL) = some false ∧ PySem.W.exmOne X.K (.ref (He.ga X.K c)) (.ref SE) = some true) :
    GivesN X ["deed", "e"] "_law_told" sg g cdg [.Try [.Return (some (.Call (.Name "deed" p1) [] [] p2)) p3] [.ExceptHandler (some (.Name "Clash" p4)) (some "e") [.Return (some s₁) p5] p6, .ExceptHandler (some (.Name "SongError" p7)) (some "e") [.Return (some (.Call (.Name "_law_term" p8) [.Name "e" p9] [] p10)) p11] p12] [] [] p13] "deed" q (TToldN X.kw ok) := by
  intro k fl c' s H Q tl hr act hc h
  let ts : Addr → Value → Option Addr → TS := fun a cls d D σ H => σ[1]? = some (some (.ref a)) ∧ ∃ c V, cls = .ref (He.ga X.K c) ∧ d = none ∧ ok c ∧ DL.TabV H V ∧ Same V H ∧ ∀ v H2 V2, DL.Ext H V H2 V2 → DL.Rep X.kw V2 v (refusedD c) → D.rt v H2
  refine ⟨_, pss_one (ps_try_asM (X := (cxOf C8.CX0 X.prog X.w X.K X.mg X.base ["deed", "e"] "_law_told" sg g cdg X.A X.stack s H C8.E0).nox) (n := "e") (i := 1)
      (l := [(.ref CL, fun _ _ _ _ _ _ => False), (.ref SE, ts)])
      (tb := fun W D σ H => ∃ Ech : XK, (∀ cls d σ' H', Ech cls d H' → W cls d σ' H') ∧ σ[0]? = some (some (.ref fl)) ∧ H c' = some (CodeO c' q) ∧ tl Ech H D.rt)
      rfl rfl (show (["deed", "e"] : List Str).Nodup by decide) rfl hle (fun W pn xe tk _ => ?_) (.cons ⟨hgc, by decide, .inl hmc⟩ (fun _ _ _ _ _ _ _ => pss_never) (.cons ⟨hgs, by decide, .inl hms⟩ (fun a oe cls d pn hz hf => ?_) .nil))), ?_⟩
  · refine ⟨fun pins s' σ H' D I h' => ?_⟩
    obtain ⟨Ech, hW, h1, h2, h3⟩ := h'
    exact (pss_one (ps_ret (pos := p3) (act W pn xe Ech p1 p2 tk hW))).run pins s' σ H' D I ⟨h1, h2, h3⟩
  · obtain ⟨vs, hv⟩ := hf
    have hot : Hot1 (X.A.deeper (envOfC "_law_told" sg s.heap.objs.size g cdg) |>.mark (some (.ref a))) (a, oe) := ⟨rfl, vs, hv, hz.2.2 vs hv⟩
    have hrh : RoomH (k + 1) (X.A.deeper (envOfC "_law_told" sg s.heap.objs.size g cdg) |>.mark (some (.ref a))) := ⟨hr.dp, hr.un⟩
    refine DL.PSs.imp (pss_one (ps_ret (pos := p11) (pe_callHP (p := (a, oe)) (E := fun _ => C8.E0) (F k) hrh hot (by simp) hgt hmf hkf hb (fun _ _ _ _ _ _ _ z => z.elim) (pa_cons (pe_var (i := 1) (pos := p9) rfl (.inl hle)) pa_nil)))) fun D σ H' ⟨h1, c, V, e1, e2, hk, htv, hsv, hq⟩ => ?_
    subst e1 e2
    exact ⟨.ref a, h1, rfl, c, V, hk, htv, hsv, hz.zc, ⟨vs, hv⟩, hq⟩
  · refine ⟨_, fun cls d σ' H' ⟨c, V, e1, e2, hk, htv, hsv, hq⟩ => ?_, rfl, hc, h⟩
    subst e1
    refine ⟨false, (hok c hk).1, (fun z => nomatch z), fun _ => ⟨true, (hok c hk).2, fun _ hl a na => ⟨?_, c, V, rfl, e2, hk, htv, hsv, hq⟩, (fun z => nomatch z)⟩⟩
    rw [List.getElem?_set_self (by rw [hl]; exact (by decide : 1 < (["deed", "e"] : List Str).length))]
end
end HD
set_option Elab.async false
set_option linter.all false
set_option maxRecDepth 100000
set_option maxHeartbeats 2000000
namespace HD
open PySem PySem.Spec PyProof.Rows L2 L2H HotX DL
variable [TabCtx]
section
variable {X : Cx} {F : Fr} {p1 p2 p3 pos : Pos}
theorem pm_isC {p : Addr × Obj} {D C : Addr} {c : Str} {b : Bool} (hp : p ∈ X.pn) (EC : ExcC X.K D) (hz : Zc (.ref D) none p.2) (hf : ∃ vs, p.2.data = .fields vs) (hL : F.lent = some p.1) (hmi : X.mg "isinstance" = none) (hmc : X.mg c = some (.ref C)) (hk : PySem.W.kitOne X.K (.ref D) (.ref C) = some b)
    (hls : F.ls = 0 := by rfl) (hN : X.N[0]? = some ("e" : Str) := by rfl) (hv : Vis X.env.scope "e" := by exact Or.inl rfl) (hgi : Gl X "isinstance" := by rfl) (hgc : Gl X c := by rfl) (hdb : (c == ("__debug__" : Str)) = false := by decide)
    (he : starEach [.Name "e" p2, .Name c p3] X.env = (false, eval (.Name "e" p2) X.env) :: starEach [.Name c p3] X.env := by rfl) (he2 : starEach [.Name c p3] X.env = (false, eval (.Name c p3) X.env) :: starEach [] X.env := by rfl) (hpl : (backTo pos (starEach [.Name c p3] X.env)).any (·.1) = false := by rfl) :
    PM X F (.Call (.Name "isinstance" p1) [.Name "e" p2, .Name c p3] [] pos) (cD (.bool b)) := by
  refine DL.PE.imp (pe_callB (call_isH hp EC hz hf) hgi hmi (by decide +kernel) (pa_cons (pe_var (i := 0) hN hv (by decide) (by decide)) (pa_cons (pe_glob (v := .ref C) hgc hmc rfl hdb) pa_nil he2) he) (by decide) (by decide) he hpl) fun σ H Q ⟨V, ρ, E, g⟩ => ?_
  refine ⟨.ref p.1, hls ▸ E.lent _ hL, .ref C, .ref C, b, rfl, fun u hu => hu, hk, ?_⟩
  exact g _ _ _ E.refl (.bl b)
/-- isinstance(e, ValueError) -/
theorem pm_isB {p : Addr × Obj} {D : Addr} {c t : Str} {T : String} {b : Bool} (hp : p ∈ X.pn) (EC : ExcC X.K D) (hz : Zc (.ref D) none p.2) (hf : ∃ vs, p.2.data = .fields vs) (hL : F.lent = some p.1) (hmi : X.mg "isinstance" = none) (hmc : X.mg c = none) (hbt : bootBuiltins c = some (.type T)) (hk : PySem.W.kitOne X.K (.ref D) (.type T) = some b)
    (hls : F.ls = 0 := by rfl) (hN : X.N[0]? = some ("e" : Str) := by rfl) (hv : Vis X.env.scope "e" := by exact Or.inl rfl) (hgi : Gl X "isinstance" := by rfl) (hgc : Gl X c := by rfl) (hdb : (c == ("__debug__" : Str)) = false := by decide) (hnn : c ≠ "__name__" := by decide)
    (he : starEach [.Name "e" p2, .Name c p3] X.env = (false, eval (.Name "e" p2) X.env) :: starEach [.Name c p3] X.env := by rfl) (he2 : starEach [.Name c p3] X.env = (false, eval (.Name c p3) X.env) :: starEach [] X.env := by rfl) (hpl : (backTo pos (starEach [.Name c p3] X.env)).any (·.1) = false := by rfl) :
    PM X F (.Call (.Name "isinstance" p1) [.Name "e" p2, .Name c p3] [] pos) (cD (.bool b)) := by
  refine DL.PE.imp (pe_callB (call_isH hp EC hz hf) hgi hmi (by decide +kernel) (pa_cons (pe_var (i := 0) hN hv (by decide) (by decide)) (pa_cons (pe_bltn (v := .ty T) hgc hmc hbt rfl hnn hdb) pa_nil he2) he) (by decide) (by decide) he hpl) fun σ H Q ⟨V, ρ, E, g⟩ => ?_
  refine ⟨.ref p.1, hls ▸ E.lent _ hL, .ty T, .type T, b, rfl, fun u hu => hu, hk, ?_⟩
  exact g _ _ _ E.refl (.bl b)
end
end HD
set_option Elab.async false
set_option linter.all false
set_option maxRecDepth 100000
set_option maxHeartbeats 2000000
namespace HD
open PySem PySem.Spec PyProof.Rows L2 L2H HotX DL
variable [TabCtx]
/-- [int(b) for b in l] -/
def gIntsB : PyData → Option PyData
  | .list ds => match boolsD ds with
    | some bs => if bs.length ≤ 1000 then some (.list (bs.map fun b => .int (if b then 1 else 0))) else none
    | none => none
  | _ => none
def vInt : L2.V → L2.V
  | .bl b => .int (if b then 1 else 0)
  | v => v
section
variable {X : Cx} {F : Fr}
theorem repL_ints {K : KW} {V : Hp} : ∀ bs : List Bool, RepL K V ((bs.map L2.V.bl).map vInt) (bs.map fun b => .int (if b then 1 else 0))
  | [] => .nil
  | b :: bs => .cons (.int _) (repL_ints bs)
theorem pm_lcI {elt iter : Expr} {x : Str} {px : Pos} {scope : Scope} {j : Nat} {pos : Pos} {fi : M PyData} {te : TE} {p : Addr × Obj} (hot : Hot1 X.A p) (hp : p ∈ X.pn) (hN : X.N.Nodup) (hj : X.N[j]? = some x) (hi : PM X F iter fi) (ok : BlkOk X.N X.env.scope scope [(x, j)])
    (hg : ∀ (s : Shared) (H : Hp) (C : Addr) (cl : List (Str × Addr)) (fp : List Addr), PG (X.blk s H scope (compEnvC scope cl C X.env) fp) (.Name x px) (gName j))
    (he : ∀ (s : Shared) (H : Hp) (C : Addr) (cl : List (Str × Addr)) (fp : List Addr), PE (X.blk s H scope (compEnvC scope cl C X.env) fp) elt te) (hte : ∀ b : Bool, Tells te j (.bl b) (.int (if b then 1 else 0))) (hs : ∀ x, foldedSetIterable iter X.env x = pure x := by intro _; rfl) :
    PM X F (.ListComp elt [⟨.Name x px, iter, [], 0⟩] scope pos) (op1 gIntsB fi) := by
  refine DL.PE.imp (pe_lcH hot hp hN hj hi ok hg he hs) fun σ H Q ⟨V, ρ, E, g0⟩ => ⟨V, ρ, E, Goal.bind g0 fun v d H1 V1 ρ1 st1 r1 g1 => ?_⟩
  obtain ⟨z, ez, q⟩ := Goal.opt st1.env g1
  cases r1 with
  | @lst a xs ds ha ra =>
    have ez : (match boolsD ds with
      | some bs => if bs.length ≤ 1000 then some (PyData.list (bs.map fun b => .int (if b then 1 else 0))) else none
      | none => none) = some z := ez
    cases eb : boolsD ds with
    | none => rw [eb] at ez; cases ez
    | some bs =>
      rw [eb] at ez
      simp only at ez
      split at ez
      · rename_i hl
        cases ez
        have ex := bools_rep ra eb
        subst ex
        refine ⟨a, bs.map L2.V.bl, vInt, rfl, st1.env.sub _ _ ha, by rw [List.length_map]; exact hl, fun y hy => ?_, fun D hD => q _ _ _ (Ext.new st1.env.sub hD) (.lst upd_same (repL_ints bs))⟩
        obtain ⟨b, _, rfl⟩ := List.mem_map.mp hy
        exact hte b
      · cases ez
  | _ => cases ez
end
end HD
set_option Elab.async false
set_option linter.all false
set_option maxRecDepth 100000
set_option maxHeartbeats 2000000
namespace HD
open PySem PySem.Spec PyProof.Rows L2 L2H HotX LamX DL
variable [TabCtx]
/-- the refusals but Clash -/
def excs : List Str := ["BadChoir", "BadName", "BadStanding", "BadNumber", "BadRows", "BadLead", "BadWish", "Nothing", "Full", "BadText"]
def excs1 : List Str := ["BadChoir", "BadName", "BadStanding", "BadNumber", "BadRows", "BadLead", "BadWish", "Clash", "Nothing", "Full", "BadText"]
/-- what the classes say -/
structure ExcT (K : PySem.W.Frag) : Prop where
  c : ∀ c ∈ excs, ExcC K (He.ga K c)
  k : ∀ c ∈ excs, ∀ d ∈ excs1, PySem.W.kitOne K (.ref (He.ga K c)) (.ref (He.ga K d)) = some (decide (c = d))
  v : ∀ c ∈ excs, PySem.W.kitOne K (.ref (He.ga K c)) (.type "ValueError") = some true
  m : ∀ c ∈ excs, PySem.W.exmOne K (.ref (He.ga K c)) (.ref (He.ga K "Clash")) = some false ∧ PySem.W.exmOne K (.ref (He.ga K c)) (.ref (He.ga K "SongError")) = some true
abbrev isE (c d : Str) : M PyData := cD (.bool (decide (c = d)))
theorem _root_.L2H.RoomH.units {k : Nat} {A : Around} (r : RoomH k A) : A.units + 64 < cLine := by have := r.un; omega
theorem _root_.L2H.RoomH.units0 {k : Nat} {A : Around} (r : RoomH k A) : A.units < cLine := by have := r.un; omega
theorem u65H {k : Nat} {A : Around} (r : RoomH k A) : A.units + 65 < cLine := by have := r.un; omega
section
variable {X : Cx} {F : Fr} {iter : Expr} {x : Str} {px p1 p2 p3 : Pos} {scope : Scope} {pos : Pos} {fi : M PyData} {p : Addr × Obj}
/-- [int(x) for x in l] -/
theorem pm_ints (j : Nat) (hot : Hot1 X.A p) (hp : p ∈ X.pn) (hz : X.mg "int" = none) (hN : X.N.Nodup) (hi : PM X F iter fi) (ok : BlkOk X.N X.env.scope scope [(x, j)]) (hj : X.N[j]? = some x := by rfl)
    (hl : ∀ (s : Shared) (H : Hp) (C : Addr) (cl : List (Str × Addr)) (fp : List Addr), (X.blk s H scope (compEnvC scope cl C X.env) fp).env.scope.names.lookup x = some .local := by intros; rfl) (hgi : ∀ (s : Shared) (H : Hp) (C : Addr) (cl : List (Str × Addr)) (fp : List Addr), Gl (X.blk s H scope (compEnvC scope cl C X.env) fp) "int" := by intros; rfl) (hd : (x == ("__debug__" : Str)) = false := by decide) (hcd : (x == ("__classdict__" : Str)) = false := by decide)
    (hs : ∀ x, foldedSetIterable iter X.env x = pure x := by intro _; rfl) :
    PM X F (.ListComp (.Call (.Name "int" p1) [.Name x p2] [] p3) [⟨.Name x px, iter, [], 0⟩] scope pos) (op1 gIntsB fi) :=
  pm_lcI (te := tCB (fun xs H Q => (∃ i, xs = [.int i] ∧ Q (.int i) H) ∨ ∃ k, xs = [.bl k] ∧ Q (.int (if k then 1 else 0)) H) (tCons (tVar j) tNil)) hot hp hN hj hi ok (fun a b c d e => pg_name hN hj (Or.inl (hl a b c d e)) (.inr (hl a b c d e)))
    (fun a b c d e => pe_callTy call_int1 (hgi a b c d e) hz (by decide +kernel) (pa_cons (pe_var hj (.inl (hl a b c d e)) hd hcd) pa_nil))
    (fun b σ H Q h q => ⟨.bl b, h, .inr ⟨b, rfl, q⟩⟩) hs
end
abbrev mkT (H V : Hp) (p : Addr × Obj) : Fr := ⟨H, V, some p.1, fun _ _ _ => False, 0, fun _ => False⟩
theorem env_term {K : KW} {H V : Hp} {p : Addr × Obj} {n : Nat} {N : List Str} (hn : N.length = n + 1) (ht : TabV H V) (s : Same V H) : EnvR K (mkT H V p) H V (L2.start N [.ref p.1]) (List.replicate (n + 1) .no) := by
  have no : ∀ {i : Nat} {t : Sl}, (List.replicate (n + 1) Sl.no)[i]? = some t → t = .no := fun {i t} h => by
    rw [List.getElem?_replicate] at h
    split at h
    · exact (Option.some.inj h).symm
    · cases h
  refine ⟨by simp [L2.start, hn], Ext.refl s, fun i d h => ?_, fun i d h => ?_, fun i j a d e h => ?_, fun a h => ?_, ht, ObE.non fun i o h => by cases no h⟩
  · cases no h
  · cases no h
  · cases no h
  · cases h; rfl
section
variable {P : Program} {w : World} {K : PySem.W.Frag} {mg : Str → Option Value} {base : Heap} {params : Arguments} {body : List Stmt} {scope : Scope} {fd : FuncData} {CX : CXT} {x : Str}
theorem term_mk {N : List Str} {n k : Nat} {b : Str → SM} {f : Addr} (D : FunD K x x params body scope [] [] f fd) (S : FnScope N ["e"] scope) (hn : N.length = n + 1)
    (hb : ∀ (c : Str) (cdv : Value) (A : Around) (outer : List Env) (s : Shared) (H V : Hp) (E : XK) (p : Addr × Obj), c ∈ excs → Zc (.ref (He.ga K c)) none p.2 → (∃ vs, p.2.data = .fields vs) → Hot1 (A.deeper (envOfC x scope s.heap.objs.size f cdv)) p → RoomH k (A.deeper (envOfC x scope s.heap.objs.size f cdv)) →
      PMSs (cxH CX P w K mg base N x scope f cdv A outer s H E p) (mkT H V p) body (b c))
    (hv : ∀ c ∈ excs, ∃ ρ', b c (List.replicate (n + 1) .no) = .rt (refusedD c) ρ') :
    FnHP P w K mg base CX (k + 1) f fd ["e"] (spTerm ⟨K, w⟩ (· ∈ excs)) := by
  obtain ⟨oc, od, dV, kV, doc, pm, an, cdv, ct, osl, rfl, lk, hcd, _, _⟩ := D.ex
  refine fn_ofHP lk hcd S (fun p vs H Q E h => by rw [h.1]; rfl) fun A outer s H vs Q E p hot hr h => ?_
  obtain ⟨rfl, c, V, hc, ht, sv, hz, hf, q⟩ := h
  obtain ⟨ρ', e⟩ := hv c hc
  refine ⟨_, hb c cdv A outer s H V E p hc hz hf hot hr, V, List.replicate (n + 1) .no, env_term hn ht sv, ?_⟩
  show GoalS ⟨K, w⟩ (mkT H V p) V (b c (List.replicate (n + 1) .no)) _
  rw [e]
  exact fun v σ' H' V' E' _ r' => q v H' V' E'.ext r'
end
def forget (ρ : Rho) : Rho := ρ.map fun s => match s with
  | .ow _ => .no
  | .ob _ => .no
  | t => t
theorem EnvR.forget {K : KW} {F : Fr} {H V : Hp} {σ : L2.St} {ρ : Rho} {E : XK} (e : EnvR K F H V σ ρ) : EnvR K (mkF H V E) H V σ (forget ρ) := by
  have at_ : ∀ {i : Nat} {t : Sl}, (HD.forget ρ)[i]? = some t → (∃ d, ρ[i]? = some (.sh d) ∧ t = .sh d) ∨ t = .no := fun {i t} h => by
    unfold HD.forget at h
    rw [List.getElem?_map] at h
    obtain ⟨u, h1, h2⟩ := Option.map_eq_some_iff.mp h
    cases u with
    | no => exact .inr h2.symm
    | ob _ => exact .inr h2.symm
    | sh d => exact .inl ⟨d, h1, h2.symm⟩
    | ow d => exact .inr h2.symm
  refine ⟨by rw [e.len]; simp [HD.forget], Ext.refl e.sub, fun i d h => ?_, fun i d h => ?_, fun i j a d d' h => ?_, (fun a h => by cases h), e.tabs, ObE.non fun i o h => by
    rcases at_ h with ⟨_, _, z⟩ | z <;> cases z⟩
  · rcases at_ h with ⟨d', h1, h2⟩ | z
    · cases h2; exact e.sh i d h1
    · cases z
  · rcases at_ h with ⟨d', h1, h2⟩ | z
    · cases h2
    · cases z
  · rcases at_ h with ⟨d', h1, h2⟩ | z
    · cases h2
    · cases z
def toldM (f : M PyData) : M PyData := fun ρ => match f (forget ρ) with
  | .ok (d, _) => .ok (d, ρ)
  | .exc c => if c ∈ excs then .ok (refusedD c, ρ) else .bad
  | .bad => .bad
/-- the def x makes lambdas: its code object and the table -/
structure LamAt (K : PySem.W.Frag) (mg : Str → Option Value) (base : Heap) (x : Str) (cdv : Value) (c P : Addr) : Prop where
  code : cdv = .ref c
  tab : TabB base mg c P
  mem : (P, x ++ ".<locals>." ++ "<lambda>") ∈ TBS
  uniq : ∀ p ∈ TBS, p.1 = P → p.2 = x ++ ".<locals>." ++ "<lambda>"
section
variable {X : Cx} {F : Fr}
theorem tk_lam {A : Around} {outer : List Env} {s : Shared} {H H' V : Hp} {E : XK} {scope : Scope} {f c' : Addr} : Tk (lamN X A outer s H E scope f c') (mkF H' V E) := by
  have t : L2N.Takes (lamN X A outer s H E scope f c') (fun cls d _ H' => E cls d H') := L2N.takes_of rfl rfl rfl rfl
  refine t.imp fun c d σ H' ⟨h1, h2⟩ => ?_
  rw [h1]
  exact h2
theorem pm_told {x : Str} {fdt : FuncData} {pg : Arguments} {bg : List Stmt} {sg : Scope} {params : Arguments} {body : Expr} {scope : Scope} {fb : M PyData} {k : Nat} {c P : Addr} {p lpos pos : Pos}
    (D : FunD X.K "_law_told" "_law_told" pg bg sg [] [] (He.ga X.K "_law_told") fdt) (hm : X.mg "_law_told" = some (.ref (He.ga X.K "_law_told"))) (hbd : ∀ (kV doc pm : Value) (an : Option Addr) (cdv ct : Value) (us : List Value), us.length = (["deed"] : List Str).length → bindArgs (PySem.W.fnOf "_law_told" "_law_told" pg bg sg .none kV doc pm an cdv ct) ⟨us, []⟩ = pure ((["deed"] : List Str).zip us))
    (Sg : FnScope ["deed", "e"] ["deed"] sg) (hva : Vis sg "deed") (hG : ∀ cdv, GivesN X ["deed", "e"] "_law_told" sg (He.ga X.K "_law_told") cdv bg "deed" (x ++ ".<locals>." ++ "<lambda>") (TToldN X.kw (· ∈ excs)))
    (LA : LamAt X.K X.mg X.base x X.env.code c P) (hq : X.env.qual = x ++ ".<locals>.") (hr : Room (k + 2) X.A) (L : LamS X.env.scope scope)
    (hb : ∀ (A : Around) (outer : List Env) (s : Shared) (H : Hp) (E : XK) (f c' : Addr) (H' V : Hp), Room k (A.deeper (lamEnv X scope s.heap.objs.size f c')) → PM (lamN X A outer s H E scope f c') (mkF H' V E) body fb)
    (hg : Gl X "_law_told" := by rfl) (hdef : defaultsOf params X.env = ([], []) := by rfl)
    (hbind : ∀ (q : Str) (cl : List (Str × Addr)) (pm cv ctv : Value), bindArgs (PySem.W.kla_fn "<lambda>" q params body scope cl pm cv ctv) ⟨[], []⟩ = pure [] := by intros; rfl) :
    PM X F (.Call (.Name "_law_told" p) [.Lambda params body scope lpos] [] pos) (toldM fb) := by
  have hbb := D.bindsN (ps := ["deed"]) hbd
  obtain ⟨oc, od, dV, kV, doc, pm, an, cdv, ct, osl, rfl, lk, hcd, _, _⟩ := D.ex
  refine DL.PE.imp (lamcall_N (t := fun E σ H' Q => ∃ V, tM X.kw (mkF H' V E) fb σ H' Q) (TT := TToldN X.kw (· ∈ excs)) hg hm D.kp lk hcd hbb Sg rfl hva (by rw [hq]; exact hG cdv) LA.tab LA.code (by rw [hq]; exact LA.mem) (by rw [hq]; exact LA.uniq) hr L hdef hbind ?_) fun σ H Q ⟨V, ρ, E, g⟩ => ?_
  · intro A outer s H E f c' hr'
    exact ⟨fun pins s1 σ H1 Q I ⟨V, h⟩ => (hb A outer s H E f c' H1 V hr').run pins s1 σ H1 Q I h⟩
  · refine ⟨E.tabs.1, fun H1 ex => ?_⟩
    have e1 := ex V E.sub (E.tabs.2 _ LA.mem)
    have E1 := E.grow e1
    refine ⟨V, V, HD.forget ρ, EnvR.forget E1, ?_⟩
    show Goal X.kw (mkF H1 V _) σ (HD.forget ρ) H1 V (Rep X.kw) (fb (HD.forget ρ)) Q
    unfold toldM at g
    cases ef : fb (HD.forget ρ) with
    | ok pr =>
      obtain ⟨d, ρ'⟩ := pr
      rw [ef] at g
      exact fun b H' V' st r => g b H' V' (E.step (e1.trans st.env.ext)) r
    | exc cc =>
      rw [ef] at g
      have g : Goal X.kw F σ ρ H V (Rep X.kw) (if cc ∈ excs then .ok (refusedD cc, ρ) else .bad) Q := g
      by_cases hc : cc ∈ excs
      · rw [if_pos hc] at g
        intro H' V' x'
        have x2 := e1.trans x'
        refine ⟨cc, V', rfl, rfl, hc, (E.grow x2).tabs, x2.s, fun v H2 V2 x3 r => g v H2 V2 (E.step (x2.trans x3)) r⟩
      · rw [if_neg hc] at g; exact False.elim g
    | bad => rw [ef] at g; exact False.elim g
end
end HD
set_option Elab.async false
set_option linter.all false
set_option maxRecDepth 100000
set_option maxHeartbeats 2000000
namespace HD
open PySem PySem.Spec PyProof.Rows L2 L2H HotX LamX DL He
def lamQ (x : Str) : Str := x ++ ".<locals>." ++ "<lambda>"
def tabsL (K : PySem.W.Frag) (ls : List Str) : List (Addr × Str) := ls.filterMap fun x => (tabOf K x).map fun q => (q.2, lamQ x)
def codesL (K : PySem.W.Frag) (ls : List Str) : List (Addr × Addr) := ls.filterMap fun x => tabOf K x
def frT (g : Addr → Option Obj) (n : Nat) (ls : List Str) : PySem.W.Frag := frG g ((asD g n).filter fun a => !((codesL (frG g (asD g n)) ls).any fun q => q.2 == a))
def isStrV : Value → Bool
  | .str _ _ => true
  | _ => false
def isIntV : Value → Bool
  | .int _ _ => true
  | _ => false
def isBoolV : Value → Bool
  | .bool _ => true
  | _ => false
def codeB (K : PySem.W.Frag) (c P : Addr) : Bool := match K.lookup c with
  | some ⟨.type t, _, .fields vs, _⟩ => decide (t = "code") && (decide (vs[11]? = some (.ref P)) && (isStrV (vs.getD 18 .none) && (isIntV (vs.getD 7 .none) && (isBoolV (vs.getD 9 .none) && (isIntV (vs.getD 10 .none) && !(c == P))))))
  | _ => false
def emptyTab : Option Obj → Bool
  | some ⟨.none, none, .fields vs, sl⟩ => vs.isEmpty && sl.isEmpty
  | _ => false
def lamB (g : Addr → Option Obj) (K : PySem.W.Frag) (ls : List Str) : Bool := (ls.all fun x => match tabOf K x with
  | some q => codeB K q.1 q.2 && (emptyTab (g q.2) && (K.lookup q.2).isNone)
  | none => false) && (((codesL K ls).map (·.2)).eraseDups.length == ls.length)
theorem codeB_ok {K : PySem.W.Frag} {h : Heap} (X : K.In h) {c P : Addr} (e : codeB K c P = true) : PySem.W.CodeHd h c P := by
  unfold codeB at e
  split at e
  · rename_i t od vs sl q
    obtain ⟨e1, e⟩ := ba e
    obtain ⟨e2, e⟩ := ba e
    obtain ⟨e3, e⟩ := ba e
    obtain ⟨e4, e⟩ := ba e
    obtain ⟨e5, e⟩ := ba e
    obtain ⟨e6, e7⟩ := ba e
    have e2 : vs[11]? = some (.ref P) := of_decide_eq_true e2
    have e1 : t = "code" := of_decide_eq_true e1
    subst e1
    have ne : c ≠ P := fun z => by rw [z] at e7; simp at e7
    have s1 : ∃ a b, vs.getD 18 .none = .str a b := by
      cases z : vs.getD 18 .none <;> rw [z] at e3 <;> first | exact ⟨_, _, rfl⟩ | cases e3
    have s2 : ∃ a b, vs.getD 7 .none = .int a b := by
      cases z : vs.getD 7 .none <;> rw [z] at e4 <;> first | exact ⟨_, _, rfl⟩ | cases e4
    have s3 : ∃ a, vs.getD 9 .none = .bool a := by
      cases z : vs.getD 9 .none <;> rw [z] at e5 <;> first | exact ⟨_, rfl⟩ | cases e5
    have s4 : ∃ a b, vs.getD 10 .none = .int a b := by
      cases z : vs.getD 10 .none <;> rw [z] at e6 <;> first | exact ⟨_, _, rfl⟩ | cases e6
    obtain ⟨a1, a2, s1⟩ := s1
    obtain ⟨b1, b2, s2⟩ := s2
    obtain ⟨c1, s3⟩ := s3
    obtain ⟨d1, d2, s4⟩ := s4
    refine ⟨_, vs, a1, a2, b1, b2, c1, d1, d2, X _ _ q, rfl, rfl, e2, ?_, s1, s2, s3, s4, ne⟩
    simp only [Array.getD_eq_getD_getElem?, e2]; rfl
  · cases e
theorem emptyTab_ok {o : Option Obj} (e : emptyTab o = true) : o = some { cls := .none, data := .fields #[] } := by
  unfold emptyTab at e
  split at e
  · obtain ⟨e1, e2⟩ := ba e
    rw [Array.isEmpty_iff.mp e1, Array.isEmpty_iff.mp e2]
  · cases e
/-- what is known of the defs that make lambdas -/
structure LamSays (K : PySem.W.Frag) (h : Heap) (ls : List Str) : Prop where
  at_ : ∀ x ∈ ls, ∃ c P, tabOf K x = some (c, P)
  tab : ∀ p ∈ codesL K ls, h.get? p.2 = some { cls := .none, data := .fields #[] } ∧ K.lookup p.2 = none ∧ PySem.W.CodeHd h p.1 p.2
  uniq : ((codesL K ls).map (·.2)).eraseDups.length = ls.length
theorem lamB_ok {K : PySem.W.Frag} {h : Heap} (X : K.In h) {ls : List Str} (e : lamB h.get? K ls = true) : LamSays K h ls := by
  obtain ⟨e1, e2⟩ := ba e
  have all := List.all_eq_true.mp e1
  refine ⟨fun x hx => ?_, fun p hp => ?_, by simpa using e2⟩
  · have := all x hx
    cases q : tabOf K x with
    | none => rw [q] at this; cases this
    | some r => exact ⟨r.1, r.2, rfl⟩
  · obtain ⟨x, hx, q⟩ := List.mem_filterMap.mp hp
    have := all x hx
    rw [q] at this
    obtain ⟨h1, h2⟩ := ba this
    obtain ⟨h2, h3⟩ := ba h2
    exact ⟨emptyTab_ok h2, by simpa using h3, codeB_ok X h1⟩
theorem LamSays.keeps {K : PySem.W.Frag} {h h' : Heap} {ls : List Str} (L : LamSays K h ls) (k : ∀ b o, h.get? b = some o → h'.get? b = some o) : LamSays K h' ls :=
  ⟨L.at_, fun p hp => ⟨k _ _ (L.tab p hp).1, (L.tab p hp).2.1, (L.tab p hp).2.2.keeps k⟩, L.uniq⟩
theorem erase_len {α β : Type} [BEq β] [LawfulBEq β] (l : List α) (f : α → Option β) (h : (l.filterMap f).eraseDups.length = l.length) : (l.filterMap f).Nodup := by
  have h1 : (l.filterMap f).length ≤ l.length := List.length_filterMap_le f l
  have h2 : ∀ m : List β, m.eraseDups.length ≤ m.length ∧ (m.eraseDups.length = m.length → m.Nodup) := by
    intro m
    induction hm : m.length using Nat.strongRecOn generalizing m with
    | _ n ih =>
      cases m with
      | nil => simp [List.eraseDups] at *
      | cons a r =>
        rw [List.eraseDups_cons]
        have hl := List.length_filter_le (fun b => !b == a) r
        have ih1 := ih (r.filter fun b => !b == a).length (by rw [← hm]; simp only [List.length_cons]; omega) _ rfl
        refine ⟨by rw [← hm]; simp only [List.length_cons]; omega, fun e => ?_⟩
        rw [← hm] at e
        simp only [List.length_cons] at e
        have ef : (r.filter fun b => !b == a).length = r.length := by omega
        have eq : r.filter (fun b => !b == a) = r := List.filter_eq_self.mpr (List.length_filter_eq_length_iff.mp ef)
        refine List.nodup_cons.mpr ⟨fun ha => ?_, ?_⟩
        · have := List.length_filter_eq_length_iff.mp ef a ha
          simp at this
        · have := ih1.2 (by omega)
          rw [eq] at this
          exact this
  exact (h2 _).2 (by have := (h2 (l.filterMap f)).1; omega)
def excB (K : PySem.W.Frag) : Bool := excs.all fun c =>
  (eqO (PySem.W.findIn K (.ref (ga K c)) "__getattribute__") (some (some (.builtin "BaseException.__getattribute__"))) && (eqO (PySem.W.findIn K (.ref (ga K c)) "__getattr__") (some none) && (decide (PySem.W.subIn K (.ref (ga K c)) (.type "BaseException") = some true) &&
    (PySem.W.hasDictIn K (ga K c) && (eqO (PySem.W.findIn K (.ref (ga K c)) "__class__") (some (some (.builtin "object.__class__"))) && (eqO (PySem.W.specialIn K (.builtin "object.__class__") "__get__") (some (some (.builtin "getset_descriptor.__get__"))) &&
      (decide (PySem.W.takesIn K (.builtin "object.__class__") = some true) && decide (PySem.W.mroIn K (ga K c) (.type "object") = some true)))))))) &&
  ((excs1.all fun d => decide (PySem.W.kitOne K (.ref (ga K c)) (.ref (ga K d)) = some (decide (c = d)))) && (decide (PySem.W.kitOne K (.ref (ga K c)) (.type "ValueError") = some true) &&
    (decide (PySem.W.exmOne K (.ref (ga K c)) (.ref (ga K "Clash")) = some false) && decide (PySem.W.exmOne K (.ref (ga K c)) (.ref (ga K "SongError")) = some true))))
theorem excB_ok {K : PySem.W.Frag} (e : excB K = true) : ExcT K := by
  have all := List.all_eq_true.mp e
  refine ⟨fun c hc => ?_, fun c hc d hd => ?_, fun c hc => ?_, fun c hc => ?_⟩
  · obtain ⟨e, _⟩ := ba (all c hc)
    obtain ⟨e1, e⟩ := ba e
    obtain ⟨e2, e⟩ := ba e
    obtain ⟨e3, e⟩ := ba e
    obtain ⟨e4, e⟩ := ba e
    obtain ⟨e5, e⟩ := ba e
    obtain ⟨e6, e⟩ := ba e
    obtain ⟨e7, e8⟩ := ba e
    exact ⟨eqO_ok e1, eqO_ok e2, of_decide_eq_true e3, e4, eqO_ok e5, eqO_ok e6, of_decide_eq_true e7, of_decide_eq_true e8⟩
  · obtain ⟨_, e⟩ := ba (all c hc)
    obtain ⟨e1, _⟩ := ba e
    exact of_decide_eq_true (List.all_eq_true.mp e1 d hd)
  · obtain ⟨_, e⟩ := ba (all c hc)
    obtain ⟨_, e⟩ := ba e
    obtain ⟨e1, _⟩ := ba e
    exact of_decide_eq_true e1
  · obtain ⟨_, e⟩ := ba (all c hc)
    obtain ⟨_, e⟩ := ba e
    obtain ⟨_, e⟩ := ba e
    obtain ⟨e1, e2⟩ := ba e
    exact ⟨of_decide_eq_true e1, of_decide_eq_true e2⟩
def obsL (fa : List Fa) (fn : List DefD) (ls : List Str) (ex : Bool) (g : Addr → Option Obj) (K : PySem.W.Frag) : AlD × Bool := (obsD fa fn K, lamB g K ls && (!ex || excB K))
def obsLG (n : Nat) (fa : List Fa) (fn : List DefD) (ls : List Str) (ex : Bool) (g : Addr → Option Obj) : AlD × Bool := obsL fa fn ls ex g (frT g n ls)
def hookL (n : Nat) (fa : List Fa) (fn : List DefD) (ls : List Str) (ex : Bool) : PySem.W.Hook where
  α := AlD × Bool
  obs := fun s => obsLG n fa fn ls ex s.heap.get?
  val := fun _ => (valD fn, true)
  says := fun _ h => ∃ K : PySem.W.Frag, K.In h ∧ SaysD fa fn K ∧ LamSays K h ls ∧ (ex = true → ExcT K)
  of := fun _ s e => by
    have e1 : obsD fa fn (frT s.heap.get? n ls) = valD fn := congrArg Prod.fst e
    have e2 : (lamB s.heap.get? (frT s.heap.get? n ls) ls && (!ex || excB (frT s.heap.get? n ls))) = true := congrArg Prod.snd e
    obtain ⟨e3, e4⟩ := ba e2
    exact ⟨_, frG_in, e1, lamB_ok frG_in e3, fun z => excB_ok (by rw [z] at e4; exact e4)⟩
  keeps := fun _ _ _ ⟨K, hK, c, l, x⟩ k => ⟨K, PySem.W.Frag.In.keeps hK k, c, l.keeps k, x⟩
theorem obsLG_eq {n : Nat} {fa : List Fa} {fn : List DefD} {ls : List Str} {ex : Bool} {g : Addr → Option Obj} {s : Shared} (h : ∀ a, g a = s.heap.get? a) : obsLG n fa fn ls ex g = (hookL n fa fn ls ex).obs s := by
  have e : g = s.heap.get? := funext h
  rw [e] <;> rfl
/-- the tables of a law -/
@[reducible] def ctxL (K : PySem.W.Frag) (ls : List Str) : TabCtx := ⟨tabsL K ls⟩
theorem lamAt_of {K : PySem.W.Frag} {h : Heap} {ls : List Str} {mg : Str → Option Value} {base : Heap} (L : LamSays K h ls) (TB : ∀ p ∈ codesL K ls, TabB base mg p.1 p.2) {x : Str} (hx : x ∈ ls) {fd : FuncData} {oc : Value} {od : Option Addr} {osl : Array (Option Value)} (lk : K.lookup (ga K x) = some ⟨oc, od, .func fd, osl⟩) :
    letI := ctxL K ls; ∃ c P, LamAt K mg base x fd.code c P := by
  letI := ctxL K ls
  obtain ⟨c, P, e⟩ := L.at_ x hx
  have mem : (c, P) ∈ codesL K ls := List.mem_filterMap.mpr ⟨x, hx, e⟩
  have mT : (P, lamQ x) ∈ tabsL K ls := List.mem_filterMap.mpr ⟨x, hx, by rw [e]; rfl⟩
  refine ⟨c, P, ?_, TB _ mem, mT, fun p hp ep => ?_⟩
  · unfold DL.tabOf at e
    rw [lk] at e
    dsimp only at e
    split at e
    · rename_i c' ec
      split at e
      · split at e
        · cases e; exact ec
        · cases e
      · cases e
    · cases e
  · obtain ⟨y, hy, ey⟩ := List.mem_filterMap.mp (show p ∈ tabsL K ls from hp)
    obtain ⟨q, e3, e4⟩ := Option.map_eq_some_iff.mp ey
    subst e4
    have nd : (ls.filterMap fun x => (tabOf K x).map (·.2)).Nodup := by
      refine erase_len ls _ ?_
      have z := L.uniq
      unfold codesL at z
      rw [List.map_filterMap] at z
      exact z
    -- two of them at one place are one
    have key : ∀ l : List Str, (l.filterMap fun x => (tabOf K x).map (·.2)).Nodup → x ∈ l → y ∈ l → x = y := by
      intro l
      induction l with
      | nil => intro _ h; cases h
      | cons z r ih =>
        intro nd h1 h2
        have mm : ∀ {u : Str} {q : Addr × Addr}, tabOf K u = some q → u ∈ r → q.2 ∈ r.filterMap fun x => (tabOf K x).map (·.2) := fun {u q} h1 h2 => List.mem_filterMap.mpr ⟨u, h2, by rw [h1]; rfl⟩
        rcases List.mem_cons.mp h1 with rfl | h3
        · rcases List.mem_cons.mp h2 with rfl | h2
          · rfl
          · rw [List.filterMap_cons, e] at nd
            exact absurd (by have := mm e3 h2; rw [show q.2 = P from ep] at this; exact this) (List.nodup_cons.mp nd).1
        · rcases List.mem_cons.mp h2 with rfl | h2
          · rw [List.filterMap_cons, e3] at nd
            exact absurd (by have := mm e h3; rw [← (show q.2 = P from ep)] at this; exact this) (List.nodup_cons.mp nd).1
          · refine ih ?_ h3 h2
            rw [List.filterMap_cons] at nd
            cases ez : (tabOf K z).map (·.2) with
            | none => rw [ez] at nd; exact nd
            | some w => rw [ez] at nd; exact (List.nodup_cons.mp nd).2
    have := key ls nd hx hy
    subst this
    rfl
theorem tabs_start {K : PySem.W.Frag} {ls : List Str} {H : Hp} (hH : ∀ p ∈ codesL K ls, H p.2 = some (.tbl #[])) : Tabs (tabsL K ls) H := fun p hp => by
  obtain ⟨x, hx, e⟩ := List.mem_filterMap.mp hp
  obtain ⟨q, e1, e2⟩ := Option.map_eq_some_iff.mp e
  subst e2
  exact TabS.nil (hH q (List.mem_filterMap.mpr ⟨x, hx, e1⟩))
end HD
set_option Elab.async false
set_option linter.all false
set_option maxRecDepth 100000
set_option maxHeartbeats 4000000
namespace G
open PySem PySem.Spec PyProof.Rows L2 DL
variable [TabCtx]
def top (i : Nat) : Stmt := PySem.Challenge.pw_hearsong_k01_whole_choirs.main.body.getD i (.Pass ⟨0, 0, 0, 0⟩)
abbrev s_wall : Stmt := top 0
abbrev s_is_whole : Stmt := top 16
abbrev s_is_word : Stmt := top 17
abbrev s_rise : Stmt := top 18
abbrev s_are_lines : Stmt := top 19
abbrev s_is_ear : Stmt := top 20
abbrev s_are_ears : Stmt := top 21
abbrev s_places_for : Stmt := top 22
abbrev s_is_singer : Stmt := top 23
abbrev s_is_choir : Stmt := top 24
abbrev s_need_choir : Stmt := top 25
abbrev s_all_names : Stmt := top 26
abbrev s_names : Stmt := top 27
abbrev s_silence : Stmt := top 28
abbrev s_is_good_standing : Stmt := top 29
abbrev s_need_standing : Stmt := top 30
abbrev s_number_of : Stmt := top 31
abbrev s_heard_by : Stmt := top 32
abbrev s_place_of : Stmt := top 33
abbrev s_table_line : Stmt := top 34
abbrev s_all_next : Stmt := top 35
abbrev s_behind : Stmt := top 36
abbrev s_on : Stmt := top 37
abbrev s_do_count : Stmt := top 39
abbrev s_ears_that_count : Stmt := top 40
abbrev s_lean_singer : Stmt := top 41
abbrev s_leaned : Stmt := top 42
abbrev s_lean : Stmt := top 43
abbrev s_need_both : Stmt := top 46
abbrev s_need_beats : Stmt := top 47
abbrev s_rows_of : Stmt := top 48
abbrev s_song : Stmt := top 49
abbrev s_singer_text : Stmt := top 53
abbrev s_choir_text : Stmt := top 54
abbrev s_law_cell : Stmt := top 56
abbrev s_law_drawn : Stmt := top 57
abbrev s_law_roll : Stmt := top 58
abbrev s_law_rounds : Stmt := top 59
abbrev s_law_term : Stmt := top 60
abbrev s_law_told : Stmt := top 61
abbrev s_law_any_singers : Stmt := top 62
abbrev s_law_any_choir : Stmt := top 63
abbrev s_law_crew : Stmt := top 64
abbrev s_law_is_word : Stmt := top 65
abbrev s_law_is_number : Stmt := top 66
abbrev s_law_is_own_singer : Stmt := top 67
abbrev s_law : Stmt := top 68
def clsM (s : Stmt) (j : Nat) : Stmt := match s with
  | .ClassDef _ _ _ b _ _ _ _ _ _ _ => b.getD j (.Pass ⟨0, 0, 0, 0⟩)
  | _ => .Pass ⟨0, 0, 0, 0⟩
abbrev s_Running_init : Stmt := clsM (top 51) 0
abbrev s_Running_len : Stmt := clsM (top 51) 1
abbrev s_Running_remember : Stmt := clsM (top 51) 2
abbrev s_Running_need_leads : Stmt := clsM (top 51) 3
abbrev s_Running_sing : Stmt := clsM (top 51) 4
abbrev s_Running_beat : Stmt := clsM (top 51) 5
abbrev s_Running_run : Stmt := clsM (top 51) 6
abbrev s_Running_replace : Stmt := clsM (top 51) 7
abbrev s_Running_lines : Stmt := clsM (top 51) 8
abbrev s_Running_standing : Stmt := clsM (top 51) 9
abbrev s_Running_choir : Stmt := clsM (top 51) 10
abbrev s_Running_undo : Stmt := clsM (top 51) 11
abbrev lams : List Str := ["law"]
end G
set_option maxHeartbeats 0
namespace Head
open PySem PySem.Spec PyProof.Rows L2 DL G
def d_wall : He.DefD := ⟨("_wall", none), "_wall", "_wall", defArgs s_wall, defBody s_wall, defScope s_wall, [], []⟩
def d_is_whole : He.DefD := ⟨("is_whole", none), "is_whole", "is_whole", defArgs s_is_whole, defBody s_is_whole, defScope s_is_whole, [], []⟩
def d_is_word : He.DefD := ⟨("is_word", none), "is_word", "is_word", defArgs s_is_word, defBody s_is_word, defScope s_is_word, [], []⟩
def d_rise : He.DefD := ⟨("rise", none), "rise", "rise", defArgs s_rise, defBody s_rise, defScope s_rise, [], []⟩
def d_are_lines : He.DefD := ⟨("are_lines", none), "are_lines", "are_lines", defArgs s_are_lines, defBody s_are_lines, defScope s_are_lines, [], []⟩
def d_is_ear : He.DefD := ⟨("is_ear", none), "is_ear", "is_ear", defArgs s_is_ear, defBody s_is_ear, defScope s_is_ear, [], []⟩
def d_are_ears : He.DefD := ⟨("are_ears", none), "are_ears", "are_ears", defArgs s_are_ears, defBody s_are_ears, defScope s_are_ears, [], []⟩
def d_places_for : He.DefD := ⟨("places_for", none), "places_for", "places_for", defArgs s_places_for, defBody s_places_for, defScope s_places_for, [], []⟩
def d_is_singer : He.DefD := ⟨("is_singer", none), "is_singer", "is_singer", defArgs s_is_singer, defBody s_is_singer, defScope s_is_singer, [], []⟩
def d_is_choir : He.DefD := ⟨("is_choir", none), "is_choir", "is_choir", defArgs s_is_choir, defBody s_is_choir, defScope s_is_choir, [], []⟩
def d_need_choir : He.DefD := ⟨("need_choir", none), "need_choir", "need_choir", defArgs s_need_choir, defBody s_need_choir, defScope s_need_choir, [], []⟩
def d_all_names : He.DefD := ⟨("all_names", none), "all_names", "all_names", defArgs s_all_names, defBody s_all_names, defScope s_all_names, [], []⟩
def d_names : He.DefD := ⟨("names", none), "names", "names", defArgs s_names, defBody s_names, defScope s_names, [], []⟩
def d_silence : He.DefD := ⟨("silence", none), "silence", "silence", defArgs s_silence, defBody s_silence, defScope s_silence, [], []⟩
def d_is_good_standing : He.DefD := ⟨("is_good_standing", none), "is_good_standing", "is_good_standing", defArgs s_is_good_standing, defBody s_is_good_standing, defScope s_is_good_standing, [], []⟩
def d_need_standing : He.DefD := ⟨("need_standing", none), "need_standing", "need_standing", defArgs s_need_standing, defBody s_need_standing, defScope s_need_standing, [], []⟩
def d_number_of : He.DefD := ⟨("number_of", none), "number_of", "number_of", defArgs s_number_of, defBody s_number_of, defScope s_number_of, [], []⟩
def d_heard_by : He.DefD := ⟨("heard_by", none), "heard_by", "heard_by", defArgs s_heard_by, defBody s_heard_by, defScope s_heard_by, [], []⟩
def d_place_of : He.DefD := ⟨("place_of", none), "place_of", "place_of", defArgs s_place_of, defBody s_place_of, defScope s_place_of, [], []⟩
def d_table_line : He.DefD := ⟨("table_line", none), "table_line", "table_line", defArgs s_table_line, defBody s_table_line, defScope s_table_line, [], []⟩
def d_all_next : He.DefD := ⟨("all_next", none), "all_next", "all_next", defArgs s_all_next, defBody s_all_next, defScope s_all_next, [], []⟩
def d_behind : He.DefD := ⟨("behind", none), "behind", "behind", defArgs s_behind, defBody s_behind, defScope s_behind, [], []⟩
def d_on : He.DefD := ⟨("on", none), "on", "on", defArgs s_on, defBody s_on, defScope s_on, [], []⟩
def d_do_count : He.DefD := ⟨("do_count", none), "do_count", "do_count", defArgs s_do_count, defBody s_do_count, defScope s_do_count, [], []⟩
def d_ears_that_count : He.DefD := ⟨("ears_that_count", none), "ears_that_count", "ears_that_count", defArgs s_ears_that_count, defBody s_ears_that_count, defScope s_ears_that_count, [], []⟩
def d_lean_singer : He.DefD := ⟨("lean_singer", none), "lean_singer", "lean_singer", defArgs s_lean_singer, defBody s_lean_singer, defScope s_lean_singer, [], []⟩
def d_leaned : He.DefD := ⟨("leaned", none), "leaned", "leaned", defArgs s_leaned, defBody s_leaned, defScope s_leaned, [], []⟩
def d_lean : He.DefD := ⟨("lean", none), "lean", "lean", defArgs s_lean, defBody s_lean, defScope s_lean, [], []⟩
def d_need_both : He.DefD := ⟨("need_both", none), "need_both", "need_both", defArgs s_need_both, defBody s_need_both, defScope s_need_both, [], []⟩
def d_need_beats : He.DefD := ⟨("need_beats", none), "need_beats", "need_beats", defArgs s_need_beats, defBody s_need_beats, defScope s_need_beats, [], []⟩
def d_rows_of : He.DefD := ⟨("rows_of", none), "rows_of", "rows_of", defArgs s_rows_of, defBody s_rows_of, defScope s_rows_of, [], []⟩
def d_song : He.DefD := ⟨("song", none), "song", "song", defArgs s_song, defBody s_song, defScope s_song, [], []⟩
def d_singer_text : He.DefD := ⟨("singer_text", none), "singer_text", "singer_text", defArgs s_singer_text, defBody s_singer_text, defScope s_singer_text, [], []⟩
def d_choir_text : He.DefD := ⟨("choir_text", none), "choir_text", "choir_text", defArgs s_choir_text, defBody s_choir_text, defScope s_choir_text, [], []⟩
def d_law_cell : He.DefD := ⟨("_law_cell", none), "_law_cell", "_law_cell", defArgs s_law_cell, defBody s_law_cell, defScope s_law_cell, [], []⟩
def d_law_drawn : He.DefD := ⟨("_law_drawn", none), "_law_drawn", "_law_drawn", defArgs s_law_drawn, defBody s_law_drawn, defScope s_law_drawn, [], []⟩
def d_law_roll : He.DefD := ⟨("_law_roll", none), "_law_roll", "_law_roll", defArgs s_law_roll, defBody s_law_roll, defScope s_law_roll, [], []⟩
def d_law_rounds : He.DefD := ⟨("_law_rounds", none), "_law_rounds", "_law_rounds", defArgs s_law_rounds, defBody s_law_rounds, defScope s_law_rounds, [], []⟩
def d_law_term : He.DefD := ⟨("_law_term", none), "_law_term", "_law_term", defArgs s_law_term, defBody s_law_term, defScope s_law_term, [], []⟩
def d_law_told : He.DefD := ⟨("_law_told", none), "_law_told", "_law_told", defArgs s_law_told, defBody s_law_told, defScope s_law_told, [], []⟩
def d_law_any_singers : He.DefD := ⟨("_law_any_singers", none), "_law_any_singers", "_law_any_singers", defArgs s_law_any_singers, defBody s_law_any_singers, defScope s_law_any_singers, [], []⟩
def d_law_any_choir : He.DefD := ⟨("_law_any_choir", none), "_law_any_choir", "_law_any_choir", defArgs s_law_any_choir, defBody s_law_any_choir, defScope s_law_any_choir, [], []⟩
def d_law_crew : He.DefD := ⟨("_law_crew", none), "_law_crew", "_law_crew", defArgs s_law_crew, defBody s_law_crew, defScope s_law_crew, [], []⟩
def d_law_is_word : He.DefD := ⟨("_law_is_word", none), "_law_is_word", "_law_is_word", defArgs s_law_is_word, defBody s_law_is_word, defScope s_law_is_word, [], []⟩
def d_law_is_number : He.DefD := ⟨("_law_is_number", none), "_law_is_number", "_law_is_number", defArgs s_law_is_number, defBody s_law_is_number, defScope s_law_is_number, [], []⟩
def d_law_is_own_singer : He.DefD := ⟨("_law_is_own_singer", none), "_law_is_own_singer", "_law_is_own_singer", defArgs s_law_is_own_singer, defBody s_law_is_own_singer, defScope s_law_is_own_singer, [], []⟩
def d_law : He.DefD := ⟨("law", none), "law", "law", defArgs s_law, defBody s_law, defScope s_law, [], []⟩
def d_Running_init : He.DefD := ⟨("Running", some "__init__"), "__init__", "Running.__init__", defArgs s_Running_init, defBody s_Running_init, defScope s_Running_init, [], []⟩
def d_Running_len : He.DefD := ⟨("Running", some "__len__"), "__len__", "Running.__len__", defArgs s_Running_len, defBody s_Running_len, defScope s_Running_len, [], []⟩
def d_Running_remember : He.DefD := ⟨("Running", some "remember"), "remember", "Running.remember", defArgs s_Running_remember, defBody s_Running_remember, defScope s_Running_remember, [], []⟩
def d_Running_need_leads : He.DefD := ⟨("Running", some "need_leads"), "need_leads", "Running.need_leads", defArgs s_Running_need_leads, defBody s_Running_need_leads, defScope s_Running_need_leads, [], []⟩
def d_Running_sing : He.DefD := ⟨("Running", some "sing"), "sing", "Running.sing", defArgs s_Running_sing, defBody s_Running_sing, defScope s_Running_sing, [], []⟩
def d_Running_beat : He.DefD := ⟨("Running", some "beat"), "beat", "Running.beat", defArgs s_Running_beat, defBody s_Running_beat, defScope s_Running_beat, [], []⟩
def d_Running_run : He.DefD := ⟨("Running", some "run"), "run", "Running.run", defArgs s_Running_run, defBody s_Running_run, defScope s_Running_run, [], []⟩
def d_Running_replace : He.DefD := ⟨("Running", some "replace"), "replace", "Running.replace", defArgs s_Running_replace, defBody s_Running_replace, defScope s_Running_replace, [], []⟩
def d_Running_lines : He.DefD := ⟨("Running", some "lines"), "lines", "Running.lines", defArgs s_Running_lines, defBody s_Running_lines, defScope s_Running_lines, [], []⟩
def d_Running_standing : He.DefD := ⟨("Running", some "standing"), "standing", "Running.standing", defArgs s_Running_standing, defBody s_Running_standing, defScope s_Running_standing, [], []⟩
def d_Running_choir : He.DefD := ⟨("Running", some "choir"), "choir", "Running.choir", defArgs s_Running_choir, defBody s_Running_choir, defScope s_Running_choir, [], []⟩
def d_Running_undo : He.DefD := ⟨("Running", some "undo"), "undo", "Running.undo", defArgs s_Running_undo, defBody s_Running_undo, defScope s_Running_undo, [], []⟩
def fn : List He.DefD := [d_wall, d_is_whole, d_is_word, d_rise, d_are_lines, d_is_ear, d_are_ears, d_places_for, d_is_singer, d_is_choir, d_need_choir, d_all_names, d_names, d_silence, d_is_good_standing, d_need_standing, d_number_of, d_heard_by, d_place_of, d_table_line, d_all_next, d_behind, d_on, d_do_count, d_ears_that_count, d_lean_singer, d_leaned, d_lean, d_need_both, d_need_beats, d_rows_of, d_song, d_singer_text, d_choir_text, d_law_cell, d_law_drawn, d_law_roll, d_law_rounds, d_law_term, d_law_told, d_law_any_singers, d_law_any_choir, d_law_crew, d_law_is_word, d_law_is_number, d_law_is_own_singer, d_law, d_Running_init, d_Running_len, d_Running_remember, d_Running_need_leads, d_Running_sing, d_Running_beat, d_Running_run, d_Running_replace, d_Running_lines, d_Running_standing, d_Running_choir, d_Running_undo]
def fa : List He.Fa := [.glo "_wall", .glo "is_whole", .glo "is_word", .glo "rise", .glo "are_lines", .glo "is_ear", .glo "are_ears", .glo "places_for", .glo "is_singer", .glo "is_choir", .glo "need_choir", .glo "all_names", .glo "names", .glo "silence", .glo "is_good_standing", .glo "need_standing", .glo "number_of", .glo "heard_by", .glo "place_of", .glo "table_line", .glo "all_next", .glo "behind", .glo "on", .glo "do_count", .glo "ears_that_count", .glo "lean_singer", .glo "leaned", .glo "lean", .glo "need_both", .glo "need_beats", .glo "rows_of", .glo "song", .glo "singer_text", .glo "choir_text", .glo "_law_cell", .glo "_law_drawn", .glo "_law_roll", .glo "_law_rounds", .glo "_law_term", .glo "_law_told", .glo "_law_any_singers", .glo "_law_any_choir", .glo "_law_crew", .glo "_law_is_word", .glo "_law_is_number", .glo "_law_is_own_singer", .glo "law", .glo "SongError", .glo "BadChoir", .glo "BadName", .glo "BadStanding", .glo "BadNumber", .glo "BadRows", .glo "BadLead", .glo "BadWish", .glo "Clash", .glo "Nothing", .glo "Full", .glo "BadText", .glo "Running", .exc "SongError", .exc "BadChoir", .exc "BadName", .exc "BadStanding", .exc "BadNumber", .exc "BadRows", .exc "BadLead", .exc "BadWish", .exc "Nothing", .exc "Full", .exc "BadText", .str "SMALL" "abcdefghijklmnopqrstuvwxyz", .int "LONGEST" 500, .free "ValueError", .free "all", .free "bool", .free "dict", .free "enumerate", .free "int", .free "isinstance", .free "len", .free "list", .free "max", .free "min", .free "range", .free "set", .free "sorted", .free "str", .free "sum", .free "tuple", .free "zip", .meth "Running" "__len__", .cls "Running", .mkr "Running", .noat "Running" "first", .noat "Running" "crew", .noat "Running" "stand", .noat "Running" "sung", .noat "Running" "deeds", .noat "Running" "past", .meth "Running" "remember", .meth "Running" "need_leads", .meth "Running" "sing", .meth "Running" "beat", .meth "Running" "run", .meth "Running" "replace", .meth "Running" "lines", .meth "Running" "standing", .meth "Running" "choir", .meth "Running" "undo"]
abbrev R : PySem.W.OpenRow := PySem.W.OpenLaw.row PySem.Challenge.rw_hearsong_k01_whole_choirs
abbrev hk : PySem.W.Hook := HD.hookL 4 fa fn lams true
def ob (s : PySem.W.SharedT) : He.AlD × Bool := HD.obsLG 4 fa fn lams true (HandSHeadRun.getT s)
theorem ob_eq (s : PySem.W.SharedT) : ob s = hk.obs s.abs := HD.obsLG_eq (HandSHeadRun.getT_eq s)
def lo0 : List PySem.Str := ["_wall", "is_whole", "is_word", "rise", "are_lines", "is_ear", "are_ears", "places_for", "is_singer", "is_choir", "need_choir", "all_names", "names", "silence", "is_good_standing", "need_standing", "number_of", "heard_by", "place_of", "table_line", "all_next", "behind", "on", "do_count", "ears_that_count", "lean_singer", "leaned", "lean", "need_both", "need_beats"]
def lo1 : List PySem.Str := ["rows_of", "song", "singer_text", "choir_text", "_law_cell", "_law_drawn", "_law_roll", "_law_rounds", "_law_term", "_law_told", "_law_any_singers", "_law_any_choir", "_law_crew", "_law_is_word", "_law_is_number", "_law_is_own_singer", "SongError", "BadChoir", "BadName", "BadStanding", "BadNumber", "BadRows", "BadLead", "BadWish", "Clash", "Nothing", "Full", "BadText", "Running", "SMALL"]
def lo2 : List PySem.Str := ["LONGEST"]
def loose : List PySem.Str := lo0 ++ lo1 ++ lo2
theorem run (w : World) : HandSHeadRun.RunEq R (PySem.W.view R.prog [68]) hk ob 9000 loose w := by
  intro os
  kernel_rfl
end Head
set_option Elab.async false
set_option linter.all false
set_option maxRecDepth 100000
set_option maxHeartbeats 2000000
namespace HD
open PySem PySem.Spec PyProof.Rows L2 L2H HotX LamX DL
/-- the def x of K makes lambdas -/
def LamK [TabCtx] (K : PySem.W.Frag) (mg : Str → Option Value) (base : Heap) (x : Str) : Prop := ∀ (fd : FuncData) (oc : Value) (od : Option Addr) (osl : Array (Option Value)), K.lookup (He.ga K x) = some ⟨oc, od, .func fd, osl⟩ → ∃ c P, LamAt K mg base x fd.code c P
def LamKs [TabCtx] (K : PySem.W.Frag) (mg : Str → Option Value) (base : Heap) (ls : List Str) : Prop := ∀ x ∈ ls, LamK K mg base x
theorem lamKs {K : PySem.W.Frag} {h : Heap} {ls : List Str} {mg : Str → Option Value} {base : Heap} (L : LamSays K h ls) (TB : ∀ p ∈ codesL K ls, TabB base mg p.1 p.2) : letI := ctxL K ls; LamKs K mg base ls := by
  letI := ctxL K ls
  intro x hx fd oc od osl lk
  exact lamAt_of L TB hx lk
theorem cx_no {P : Program} {w : World} {H : Hp} {s : Shared} {e : Value} {s' : Shared} (h : L2N.CX P w [] H s (fun _ _ _ => False) e s') : False := by
  letI : TabCtx := ⟨[]⟩
  exact DL.cxe_no (P := P) ⟨w, h⟩
variable [TabCtx]
end HD
set_option Elab.async false
set_option linter.all false
set_option maxRecDepth 100000
set_option maxHeartbeats 2000000
namespace HD
open PySem PySem.Spec PyProof.Rows L2 L2H HotX LamX DL
variable [TabCtx]
def Kept (P : Program) (w : World) (f : Addr) (h : Heap) : Prop := ∃ k, (k = Keeper.frame ∨ k = Keeper.machine ∨ k = Keeper.boundFrame) ∧ PySem.W.Looks (model P w) h (keeperOf (.ref f)) k
/-- what stands at f can be called: data in, data out -/
structure CbAt (P : Program) (w : World) (K : PySem.W.Frag) (mg : Str → Option Value) (base : Heap) (lvl : Nat) (H V : Hp) (f : Addr) (cb : List PyData → Option PyData) : Prop where
  run : ∀ (H' V' : Hp), Ext H V H' V' → TabV H' V' → ∀ (A : Around) (outer : List Env) (s : Shared) (us : List Value) (vs : List L2.V) (ds : List PyData) (d : PyData) (Q : VK), Room lvl A → Env0 P w K mg base A outer s H' → Vals vs us → RepL ⟨K, w⟩ V' vs ds → cb ds = some d →
    (∀ v H2 V2, Ext H' V' H2 V2 → Rep ⟨K, w⟩ V2 v d → Q v H2) → codeAny (model P w) A (.call (.ref f) ⟨us, []⟩) (CR C8.CX0 outer P w H' s Q C8.E0) s
  fn : ∀ (H' V' : Hp), Ext H V H' V' → ∀ h : Heap, HOk P w H' h → K.In h → Kept P w f h
theorem CbAt.mono {P : Program} {w : World} {K : PySem.W.Frag} {mg : Str → Option Value} {base : Heap} {lvl : Nat} {H V H1 V1 : Hp} {f : Addr} {cb : List PyData → Option PyData} (C : CbAt P w K mg base lvl H V f cb) (e : Ext H V H1 V1) : CbAt P w K mg base lvl H1 V1 f cb :=
  ⟨fun H' V' x => C.run H' V' (e.trans x), fun H' V' x => C.fn H' V' (e.trans x)⟩
end HD
set_option Elab.async false
set_option linter.all false
set_option maxRecDepth 100000
set_option maxHeartbeats 2000000
namespace HD
open PySem PySem.Spec PyProof.Rows L2 L2H HotX LamX DL
structure LamP (sc scope : Scope) (ps : List Str) : Prop where
  kind : scope.kind = .function
  co : scope.isCoroutine = false
  gen : scope.isGenerator = false
  own : ∀ y ∈ scope.names, y.2 ≠ .cell
  loc : ∀ y ∈ scope.names, y.2 = .local → y.1 ∈ ps
  free : ∀ y ∈ scope.names, y.2 = .free → sc.names.lookup y.1 = some .cell ∨ sc.names.lookup y.1 = some .free
  par : ∀ y ∈ ps, scope.names.lookup y = some .local
  nd : ps.Nodup
theorem LamP.has {X : Cx} {scope : Scope} {ps : List Str} (L : LamP X.env.scope scope ps) (ok : X.Ok) : ∀ y ∈ scope.names, y.2 = .free → ∃ c, X.env.cells.lookup y.1 = some c := fun y hy e => by
  rcases L.free y hy e with k | k
  · exact ok.has _ (.inl k)
  · exact ok.has _ (.inr k)
end HD
set_option Elab.async false
set_option linter.all false
set_option maxRecDepth 100000
set_option maxHeartbeats 2000000
set_option Elab.async false
set_option linter.all false
set_option maxRecDepth 100000
set_option maxHeartbeats 2000000
namespace DL
open PySem PySem.Spec PyProof.Rows L2
end DL
set_option Elab.async false
set_option linter.all false
set_option maxRecDepth 100000
set_option maxHeartbeats 4000000
namespace PySem
open Sem (wp)
section
variable {prog : Program} {w : World} {A : Around} {E : Value → Shared → Prop} {s : Shared} {z TI TO i1 i2 : Addr} {fp1 fp2 : List Addr} {n1 n2 i : Nat} {P1 P2 : Nat → Value → Prop} {St1 St2 : Nat → Heap → Prop} {a1 a2 : Value}
/-- the list's items: tuples in a row -/
def ZIt (P1 P2 : Nat → Value → Prop) (b0 : Nat) (acc : Array Value) (i : Nat) (h : Heap) : Prop := acc.size = i ∧ ∀ j, j < i → ∃ x y, acc[j]? = some (.ref (b0 + j)) ∧ P1 j x ∧ P2 j y ∧ IsTupOf2 h (b0 + j) x y
theorem ZIt.keep {b0 : Nat} {acc : Array Value} {h h' : Heap} (Z : ZIt P1 P2 b0 acc i h) (k : ∀ j, j < i → ∀ o, h.get? (b0 + j) = some o → h'.get? (b0 + j) = some o) : ZIt P1 P2 b0 acc i h' :=
  ⟨Z.1, fun j hj => let ⟨x, y, a, b, c, d⟩ := Z.2 j hj; ⟨x, y, a, b, c, k j hj _ d⟩⟩
end
end PySem
set_option Elab.async false
set_option linter.all false
set_option maxRecDepth 100000
set_option maxHeartbeats 4000000
namespace DL
open PySem PySem.Spec PyProof.Rows L2
end DL
set_option Elab.async false
set_option linter.all false
set_option maxRecDepth 100000
set_option maxHeartbeats 4000000
namespace DL
open PySem PySem.Spec PyProof.Rows L2
variable [TabCtx]
theorem RepL.cons_inv {K : KW} {V : Hp} {vs : List L2.V} {d : PyData} {ds : List PyData} (r : RepL K V vs (d :: ds)) : ∃ v ws, vs = v :: ws ∧ Rep K V v d ∧ RepL K V ws ds := by
  cases r with
  | cons a b => exact ⟨_, _, rfl, a, b⟩
end DL
set_option Elab.async false
set_option linter.all false
set_option maxRecDepth 100000
set_option maxHeartbeats 4000000
namespace DL
open PySem PySem.Spec PyProof.Rows L2
end DL
set_option Elab.async false
set_option linter.all false
set_option maxRecDepth 100000
set_option maxHeartbeats 4000000
namespace DL
open PySem PySem.Spec PyProof.Rows L2
end DL
set_option Elab.async false
set_option linter.all false
set_option maxRecDepth 100000
set_option maxHeartbeats 4000000
namespace DL
open PySem PySem.Spec PyProof.Rows L2
end DL
set_option Elab.async false
set_option linter.all false
set_option maxRecDepth 100000
set_option maxHeartbeats 4000000
namespace DL
open PySem PySem.Spec PyProof.Rows L2
end DL
set_option Elab.async false
set_option linter.all false
set_option maxRecDepth 100000
set_option maxHeartbeats 4000000
namespace DL
open PySem PySem.Spec PyProof.Rows L2
end DL
set_option Elab.async false
set_option linter.all false
set_option maxRecDepth 100000
set_option maxHeartbeats 4000000
namespace DL
open PySem PySem.Spec PyProof.Rows L2
end DL
set_option Elab.async false
set_option linter.all false
set_option maxRecDepth 100000
set_option maxHeartbeats 4000000
namespace DL
open PySem PySem.Spec PyProof.Rows L2
variable [TabCtx]
/-- what holds of a comprehension's new dict at D -/
structure DI (K : KW) (F : Fr) (vs : List Nat) (σ : St) (ρ1 : Rho) (H1 V1 : Hp) (D : Addr) (σ' : St) (ρ' : Rho) (H' V' : Hp) (ys : List (NestedKey × Addr × L2.V)) (ep : Nat) (acc : List (PyData × PyData)) : Prop where
  env : EnvR K F H' V' σ' ρ'
  sv : Same V1 V'
  hD : H' D = some (dX K.w D ys ep)
  rl : RepT K V' ys acc
  vD : V' D = none
  ho : ∀ b, IsOwn σ' ρ' b → IsOwn σ ρ1 b
  kp : ∀ b o, H1 b = some o → nT o → ¬ IsOwn σ ρ1 b → H' b = some o
  sh : ∀ (j : Nat) (d : PyData), j ∉ vs → ρ'[j]? = some (.sh d) → ρ1[j]? = some (.sh d)
  fr : ∀ b, V1 b = none → H1 b ≠ none → V' b = none
  th : ∀ b, H1 b ≠ none → H' b ≠ none
  nD : ¬ IsOwn σ ρ1 D
  h0 : F.H0 D = none
  h1 : H1 D = none
section
variable {K : KW} {F : Fr} {vs : List Nat} {σ : St} {ρ1 : Rho} {H1 V1 : Hp} {D : Addr} {σ' σ2 : St} {ρ' ρ2 : Rho} {H' V' H2 V2 : Hp} {ys : List (NestedKey × Addr × L2.V)} {ep : Nat} {acc : List (PyData × PyData)}
theorem DI.start (E : EnvR K F H1 V1 σ ρ1) (hD : H1 D = none) (ep : Nat) : DI K F vs σ ρ1 H1 V1 D σ ρ1 (upd H1 D (dX K.w D [] ep)) V1 [] ep [] := by
  have L := LI.start (vs := vs) E hD
  exact ⟨E.grow (Ext.hid E.sub hD), L.sv, upd_same, .nil, L.vD, L.ho, fun b o q _ _ => same_new hD b o q, L.sh, L.fr, Same.th (same_new hD), L.nD, L.h0, L.h1⟩
theorem DI.someD (I : DI K F vs σ ρ1 H1 V1 D σ' ρ' H' V' ys ep acc) : H' D ≠ none := by rw [I.hD]; exact fun z => nomatch z
theorem DI.wipe (I : DI K F vs σ ρ1 H1 V1 D σ' ρ' H' V' ys ep acc) (ws : List Nat) (hl : F.ls ∉ ws ∨ F.lent = none) : DI K F vs σ ρ1 H1 V1 D (L2.wipe σ' ws) (wipeR ρ' ws) H' V' ys ep acc :=
  { I with env := I.env.wipe hl, ho := fun b h => I.ho b (isOwn_wipe h), sh := fun j d hj q => I.sh j d hj (wipeR_some (by intro z; cases z) q).1 }
theorem DI.ext (I : DI K F vs σ ρ1 H1 V1 D σ' ρ' H' V' ys ep acc) (x : Ext H' V' H2 V2) : DI K F vs σ ρ1 H1 V1 D σ' ρ' H2 V2 ys ep acc :=
  { I with env := I.env.grow x, sv := I.sv.trans x.v, hD := x.h _ _ I.hD plain_dX.t, rl := I.rl.mono x.v, vD := x.f D I.vD I.someD, kp := fun b o q n m => x.h _ _ (I.kp b o q n m) n, fr := fun b h1 h2 => x.f b (I.fr b h1 h2) (I.th b h2), th := fun b h => x.th b (I.th b h) }
theorem DI.tgt {is : List Nat} (I : DI K F vs σ ρ1 H1 V1 D σ' ρ' H' V' ys ep acc) (E : EnvR K F H2 V2 σ2 ρ2) (x : Ext H' V' H2 V2) (o : ∀ b, IsOwn σ2 ρ2 b → IsOwn σ' ρ' b) (p : ∀ (i : Nat) (d : PyData), i ∉ is → ρ2[i]? = some (.sh d) → ρ'[i]? = some (.sh d)) (his : ∀ i ∈ is, i ∈ vs) :
    DI K F vs σ ρ1 H1 V1 D σ2 ρ2 H2 V2 ys ep acc :=
  { I.ext x with env := E, ho := fun b h => I.ho b (o b h), sh := fun j d hj q => I.sh j d hj (p j d (fun z => hj (his j z)) q) }
theorem DI.stp (I : DI K F vs σ ρ1 H1 V1 D σ' ρ' H' V' ys ep acc) (s : Stp K F σ' ρ' ρ2 H' V' H2 V2) : DI K F vs σ ρ1 H1 V1 D σ' ρ2 H2 V2 ys ep acc where
  env := s.env
  sv := I.sv.trans s.v
  hD := s.keep _ _ I.hD plain_dX.t fun h => I.nD (I.ho D h)
  rl := I.rl.mono s.v
  vD := s.f D I.vD I.someD
  ho := fun b h => I.ho b (s.own b h)
  kp := fun b o q n m => s.keep b o (I.kp b o q n m) n fun h => m (I.ho b h)
  sh := fun j d hj q => I.sh j d hj (s.shs j d q)
  fr := fun b h1 h2 => s.f b (I.fr b h1 h2) (I.th b h2)
  th := fun b h => s.th b (I.th b h)
  nD := I.nD
  h0 := I.h0
  h1 := I.h1
theorem DI.put {q : NestedKey} {b : Addr} {kd d : PyData} {y : L2.V} (I : DI K F vs σ ρ1 H1 V1 D σ' ρ' H' V' ys ep acc) (rk : Rep K V' (.ref b) kd) (hq : nkey kd = some q) (dq : q.depth ≤ 8) (r : Rep K V' y d) (ep' : Nat) : DI K F vs σ ρ1 H1 V1 D σ' ρ' (upd H' D (dX K.w D (putX ys q b y) ep')) V' (putX ys q b y) ep' (dput acc kd d) := by
  refine ⟨I.env.beside (fun x e => by rw [I.hD] at e; cases e; exact plain_dX) I.vD I.h0 fun h => I.nD (I.ho D h), I.sv, upd_same, I.rl.putX rk hq dq r, I.vD, I.ho, fun c o q n m => ?_, I.sh, I.fr, fun c h => ?_, I.nD, I.h0, I.h1⟩
  · rw [upd_ne (fun z => by rw [z, I.h1] at q; cases q)]
    exact I.kp c o q n m
  · rw [upd_ne (fun z => h (by rw [z]; exact I.h1))]
    exact I.th c h
/-- the dict is done -/
theorem DI.done (E : EnvR K F H1 V1 σ ρ1) (I : DI K F vs σ ρ1 H1 V1 D (L2.wipe σ vs) (wipeR ρ' vs) H' V' ys ep acc) (hv : ∀ i ∈ vs, isOw ρ1[i]? = false) :
    Stp K F σ ρ1 (resR ρ1 ρ' vs) H1 V1 H' (upd V' D (dX K.w D ys ep)) ∧ Rep K (upd V' D (dX K.w D ys ep)) (.ref D) (.dict acc) := by
  have nD : ¬ IsOwn (L2.wipe σ vs) (wipeR ρ' vs) D := fun h => I.nD (I.ho D h)
  have Es : EnvR K F H' (upd V' D (dX K.w D ys ep)) (L2.wipe σ vs) (wipeR ρ' vs) := I.env.show I.hD I.vD I.h0 nD
  have svD : Same V' (upd V' D (dX K.w D ys ep)) := same_new I.vD
  refine ⟨⟨E.restore Es (I.sv.trans svD) hv, I.sv.trans svD, I.kp, fun b h => ?_, fun j d q => ?_, fun b h1 h2 => ?_, I.th⟩, .dt upd_same (I.rl.mono svD)⟩
  · obtain ⟨j, d, h1, h2⟩ := h
    have nj := resR_ow hv h1
    rw [resR_out nj] at h1
    exact I.ho b ⟨j, d, by rw [wipeR_out nj]; exact h1, by rw [wipe_outL nj]; exact h2⟩
  · by_cases hj : j ∈ vs
    · by_cases hl : j < ρ'.length
      · rw [resR_in hj hl] at q
        have h' : ρ1.getD j .no = .sh d := Option.some.inj q
        rw [List.getD_eq_getElem?_getD] at h'
        cases q' : ρ1[j]? with
        | none => rw [q'] at h'; cases h'
        | some s =>
          rw [q'] at h'
          have h' : s = .sh d := h'
          rw [h']
      · rw [List.getElem?_eq_none (by rw [resR_len]; omega)] at q; cases q
    · rw [resR_out hj] at q
      exact I.sh j d hj (by rw [wipeR_out hj]; exact q)
  · rw [upd_ne (fun z => h2 (by rw [z]; exact I.h1))]
    exact I.fr b h1 h2
end
end DL
set_option Elab.async false
set_option linter.all false
set_option maxRecDepth 100000
set_option maxHeartbeats 4000000
namespace DL
open PySem PySem.Spec PyProof.Rows L2
end DL
set_option Elab.async false
set_option linter.all false
set_option maxRecDepth 100000
set_option maxHeartbeats 4000000
namespace DL
open PySem PySem.Spec PyProof.Rows L2
end DL
set_option Elab.async false
set_option linter.all false
set_option maxRecDepth 100000
set_option maxHeartbeats 4000000
namespace DL
open PySem PySem.Spec PyProof.Rows L2
variable [TabCtx]
def Fr.at (F : Fr) (σ : St) : Fr := { F with W := fun c _ H => F.W c σ H }
end DL
set_option Elab.async false
set_option linter.all false
set_option maxRecDepth 100000
set_option maxHeartbeats 4000000
namespace DL
open PySem PySem.Spec PyProof.Rows L2
variable [TabCtx]
abbrev mkS (l : List Nat) : Str := ⟨l.toArray⟩
theorem mkS_tl (x : Str) : mkS (TL.tl x) = x := TL.mk_tl x
/-- a text's method: the receiver is a text -/
def opS (g : Str → PyData → Option PyData) (fa fb : M PyData) : M PyData := M.bind fa fun x => match x with
  | .str a => M.bind fb fun y => M.opt (g a y)
  | _ => fun _ => .bad
/-- a list of texts -/
def strsD : List PyData → Option (List Str)
  | [] => some []
  | .str x :: ds => (strsD ds).map (x :: ·)
  | _ :: _ => none
theorem strs_rep {K : KW} {V : Hp} : ∀ {ds : List PyData} {vs : List L2.V} {ys : List Str}, RepL K V vs ds → strsD ds = some ys → vs = ys.map L2.V.str
  | _, _, _, .nil, h => by cases h; rfl
  | _, _, _, .cons r t, h => by
    cases r with
    | str x =>
      obtain ⟨ys, h1, rfl⟩ := Option.map_eq_some_iff.mp (show Option.map (x :: ·) (strsD _) = some _ from h)
      rw [strs_rep t h1]; rfl
    | _ => cases h
def gJoin (a : Str) : PyData → Option PyData
  | .list ds => (strsD ds).bind fun ys => if (ys.map (·.length)).sum + ys.length * a.length ≤ 16777216 then some (.str (mkS (TL.joinL (TL.tl a) (ys.map TL.tl)))) else none
  | _ => none
theorem join_data (a : Str) (ys : List Str) : Txt.join a ys = mkS (TL.joinL (TL.tl a) (ys.map TL.tl)) := by
  rw [TL.join_eq, ← TL.tl_join, mkS_tl]
/-- a number as a text -/
def gStr : List PyData → Option PyData
  | [.int i] => if 0 ≤ i ∧ i < 1000000 then some (.str (mkS (TL.numL i.toNat))) else none
  | _ => none
theorem num_data {i : Int} (h : 0 ≤ i) : Str.ofString (toString i) = mkS (TL.numL i.toNat) := by
  have e : i = ((i.toNat : Nat) : Int) := by omega
  have := TL.tl_num i.toNat
  rw [← e] at this
  rw [← this, mkS_tl]
theorem log_small {i : Int} (h0 : 0 ≤ i) (h : i < 1000000) : i.natAbs.log2 < 1920 := by
  by_cases hz : i.natAbs = 0
  · rw [hz]; decide
  · exact (Nat.log2_lt hz).mpr (Nat.lt_of_lt_of_le (by omega : i.natAbs < 2 ^ 20) (Nat.pow_le_pow_right (by decide) (by decide)))
theorem cd_str {K : KW} : CallD K (fun xs H Q => ∃ i, xs = [.int i] ∧ i.natAbs.log2 < 1920 ∧ Q (.str (toString i)) H) gStr := by
  intro xs ds z H V Q s r e q
  cases r with
  | nil => cases e
  | cons r1 r2 =>
    cases r2 with
    | cons _ _ => cases r1 <;> cases e
    | nil =>
      cases r1 with
      | int i =>
        obtain ⟨⟨h0, h1⟩, rfl⟩ := ite_some e
        refine ⟨i, rfl, log_small h0 h1, ?_⟩
        have := num_data h0
        exact q _ _ _ (Ext.refl s) (by rw [← this]; exact .str _)
      | _ => cases e
/-- the parts of an f-string -/
def partS : PyData → Option Str
  | .str y => if y.length ≤ LIM then some y else none
  | .int i => if 0 ≤ i ∧ i < 1000000 then some (mkS (TL.numL i.toNat)) else none
  | _ => none
def gF3 (c a : Str) (y : PyData) : Option PyData := match partS y with
  | some b => if a.length + c.length + b.length ≤ LIM then some (.str (a ++ c ++ b)) else none
  | none => none
def opF (c : Str) (fa fb : M PyData) : M PyData := M.bind fa fun x => match partS x with
  | some a => fun ρ => if a.length + c.length ≤ LIM then M.bind fb (fun y => M.opt (gF3 c a y)) ρ else .bad
  | none => fun _ => .bad
theorem ite_someS {p : Prop} [Decidable p] {a b : Str} (h : (if p then some a else none) = some b) : p ∧ a = b := by
  by_cases hp : p
  · rw [if_pos hp] at h; exact ⟨hp, Option.some.inj h⟩
  · rw [if_neg hp] at h; cases h
section
variable {X : Cx} {F : Fr} {o e e1 e2 : Expr} {fa fb : M PyData} {apos pos : Pos}
theorem pm_join (ho : PM X F o fa) (he : PM X F e fb) (hs : starEach [e] X.env = [(false, eval e X.env)] := by rfl) (hbase : attributeBase o "join" X.env (eval o X.env) = eval o X.env := by rfl) (hline : (apos.endLine == pos.line) = true := by rfl) :
    PM X F (.Call (.Attribute o "join" apos) [e] [] pos) (opS gJoin fa fb) := by
  refine PE.imp (pe_join ho he hs hbase hline) fun σ H Q ⟨V, ρ, E, g0⟩ => ⟨V, ρ, E, Goal.bind g0 fun x dx H1 V1 ρ1 st1 r1 g1 => ?_⟩
  cases r1 with
  | str a =>
    refine ⟨⟨a, rfl⟩, V1, ρ1, st1.env, Goal.bind g1 fun y dy H2 V2 ρ2 st2 r2 g2 => ?_⟩
    obtain ⟨z, ez, q⟩ := Goal.opt st2.env g2
    cases r2 with
    | @lst p vs ds hp rl =>
      obtain ⟨ys, h1, h2⟩ := Option.bind_eq_some_iff.mp (show (strsD ds).bind _ = some z from ez)
      obtain ⟨h3, rfl⟩ := ite_some h2
      have ev := strs_rep rl h1
      subst ev
      rw [← join_data] at q
      exact ⟨a, p, ys, rfl, rfl, .inl (.inl (.inl (st2.env.sub _ _ hp))), h3, q _ _ _ (Ext.refl st2.env.sub) (.str _)⟩
    | _ => cases ez
  | _ => exact False.elim g1
theorem part_fmt {x : L2.V} {d : PyData} {K : KW} {V H : Hp} {y : Str} {Q : VK} (r : Rep K V x d) (h : partS d = some y) (q : Q (.str y) H) : (∃ y : Str, x = .str y ∧ y.length ≤ sizeLine ∧ Q (.str y) H) ∨ ∃ i : Int, x = .int i ∧ i.natAbs.log2 < 1920 ∧ Q (.str (toString i)) H := by
  cases r with
  | str z =>
    obtain ⟨h1, rfl⟩ := ite_someS (show (if z.length ≤ LIM then some z else none) = some y from h)
    exact .inl ⟨z, rfl, Nat.le_trans h1 lim_le, q⟩
  | int i =>
    obtain ⟨⟨h0, h1⟩, rfl⟩ := ite_someS (show (if 0 ≤ i ∧ i < 1000000 then some (mkS (TL.numL i.toNat)) else none) = some y from h)
    refine .inr ⟨i, rfl, log_small h0 h1, ?_⟩
    have := num_data h0
    show Q (.str (Str.ofString (toString i))) H
    rw [this]; exact q
  | _ => cases h
theorem len_app (a b : Str) : (a ++ b).length = a.length + b.length := by rw [TL.len_tl, TL.tl_append, List.length_append, ← TL.len_tl, ← TL.len_tl]
theorem emp_app (a : Str) : Str.empty ++ a = a := TL.ext_tl (by rw [TL.tl_append]; rfl)
theorem pm_f3 {c : Str} {j : Nat} {p1 p2 p3 : Pos} (h1 : PM X F e1 fa) (h2 : PM X F e2 fb) : PM X F (.JoinedStr [.FormattedValue e1 (-1) none p1, .Constant (.str c) j p2, .FormattedValue e2 (-1) none p3] pos) (opF c fa fb) := by
  refine PE.imp (pe_joined (.cons (pe_fmt h1) (.cons pe_str (.cons (pe_fmt h2) .nil)))) fun σ H Q ⟨V, ρ, E, g0⟩ => ?_
  refine ⟨V, ρ, E, Goal.bind g0 fun x dx H1 V1 ρ1 st1 r1 g1 => ?_⟩
  cases hp : partS dx with
  | none => rw [hp] at g1; exact False.elim g1
  | some a =>
    rw [hp] at g1
    by_cases hl : a.length + c.length ≤ LIM
    · have g1 : Goal X.kw F σ ρ1 H1 V1 (Rep X.kw) (if a.length + c.length ≤ LIM then M.bind fb (fun y => M.opt (gF3 c a y)) ρ1 else .bad) Q := g1
      rw [if_pos hl] at g1
      refine part_fmt (H := H1) (Q := fun x H1 => ∃ y, x = L2.V.str y ∧ (Str.empty ++ y).length ≤ sizeLine ∧ tJs [tC (L2.V.str c), tFmt (tM X.kw F fb)] (Str.empty ++ y) σ H1 fun out H1 => Q (L2.V.str out) H1) r1 hp ?_
      refine ⟨a, rfl, by have := lim_le; rw [emp_app]; omega, ?_⟩
      rw [emp_app]
      refine ⟨c, rfl, by have := lim_le; rw [len_app]; omega, V1, ρ1, st1.env, Goal.bind g1 fun y dy H2 V2 ρ2 st2 r2 g2 => ?_⟩
      obtain ⟨z, ez, q⟩ := Goal.opt st2.env g2
      unfold gF3 at ez
      cases hq : partS dy with
      | none => rw [hq] at ez; cases ez
      | some b =>
        rw [hq] at ez
        obtain ⟨hz, rfl⟩ := ite_some ez
        refine part_fmt (H := H2) (Q := fun x H1 => ∃ y, x = L2.V.str y ∧ (a ++ c ++ y).length ≤ sizeLine ∧ tJs [] (a ++ c ++ y) σ H1 fun out H1 => Q (L2.V.str out) H1) r2 hq ?_
        exact ⟨b, rfl, by have := lim_le; rw [len_app, len_app]; omega, q _ _ _ (Ext.refl st2.env.sub) (.str _)⟩
    · have g1 : Goal X.kw F σ ρ1 H1 V1 (Rep X.kw) (if a.length + c.length ≤ LIM then M.bind fb (fun y => M.opt (gF3 c a y)) ρ1 else .bad) Q := g1
      rw [if_neg hl] at g1
      exact False.elim g1
end
end DL
set_option Elab.async false
set_option linter.all false
set_option maxRecDepth 100000
set_option maxHeartbeats 4000000
namespace HD
open PySem PySem.Spec PyProof.Rows L2 L2H HotX LamX DL
variable [TabCtx]
abbrev IS := Int × Str
/-- a tuple of a number and a text -/
def IsIS (h : Heap) (b : Addr) (k : IS) : Prop := ∃ t t', IsTup h b #[.int k.1 t, .str k.2 t']
theorem IsIS.uniq {h : Heap} {b : Addr} {k k' : IS} (x : IsIS h b k) (y : IsIS h b k') : k = k' := by
  obtain ⟨t, t', o, ho, _, n, hd⟩ := x
  obtain ⟨u, u', o', ho', _, n', hd'⟩ := y
  rw [ho] at ho'; cases ho'
  rw [hd] at hd'
  injection hd' with e _
  have e := congrArg Array.toList e
  simp at e
  exact Prod.ext e.1.1 e.2.1
theorem isIS_vals {h : Heap} {b : Addr} {k : IS} (x : IsIS h b k) {its : List Value} {xs : List L2.V} (y : IsTup h b its.toArray) (r : Vals xs its) : xs = [.int k.1, .str k.2] := by
  obtain ⟨t, t', o, ho, _, n, hd⟩ := x
  obtain ⟨o', ho', _, n', hd'⟩ := y
  rw [ho] at ho'; cases ho'
  rw [hd] at hd'
  injection hd' with e _
  have e := congrArg Array.toList e
  have e : its = [.int k.1 t, .str k.2 t'] := by simpa using e.symm
  subst e
  obtain ⟨a, b', rfl, ra, rb⟩ : ∃ a b', xs = [a, b'] ∧ RelV a (.int k.1 t) ∧ RelV b' (.str k.2 t') := by
    cases r with
    | cons r1 r2 =>
      cases r2 with
      | cons r2 r3 => cases r3; exact ⟨_, _, rfl, r1, r2⟩
  have e1 : a = .int k.1 := by
    cases a with
    | int i => obtain ⟨t0, q⟩ := (show ∃ t0, Value.int k.1 t = Value.int i t0 from ra); injection q with q; rw [q]
    | str i => obtain ⟨t0, q⟩ := (show ∃ t0, Value.int k.1 t = Value.str i t0 from ra); cases q
    | non => exact absurd (show Value.int k.1 t = Value.none from ra) (fun z => nomatch z)
    | bl v => exact absurd (show Value.int k.1 t = Value.bool v from ra) (fun z => nomatch z)
    | ref v => exact absurd (show Value.int k.1 t = Value.ref v from ra) (fun z => nomatch z)
    | byt v => exact absurd (show ∃ t0, Value.int k.1 t = Value.bytes v t0 from ra) (fun ⟨_, q⟩ => nomatch q)
    | flt v => exact absurd (show ∃ t0, Value.int k.1 t = Value.float v t0 from ra) (fun ⟨_, q⟩ => nomatch q)
    | ty v => exact absurd (show Value.int k.1 t = Value.type v from ra) (fun z => nomatch z)
  have e2 : b' = .str k.2 := by
    cases b' with
    | int i => obtain ⟨t0, q⟩ := (show ∃ t0, Value.str k.2 t' = Value.int i t0 from rb); cases q
    | str i => obtain ⟨t0, q⟩ := (show ∃ t0, Value.str k.2 t' = Value.str i t0 from rb); injection q with q; rw [q]
    | non => exact absurd (show Value.str k.2 t' = Value.none from rb) (fun z => nomatch z)
    | bl v => exact absurd (show Value.str k.2 t' = Value.bool v from rb) (fun z => nomatch z)
    | ref v => exact absurd (show Value.str k.2 t' = Value.ref v from rb) (fun z => nomatch z)
    | byt v => exact absurd (show ∃ t0, Value.str k.2 t' = Value.bytes v t0 from rb) (fun ⟨_, q⟩ => nomatch q)
    | flt v => exact absurd (show ∃ t0, Value.str k.2 t' = Value.float v t0 from rb) (fun ⟨_, q⟩ => nomatch q)
    | ty v => exact absurd (show Value.str k.2 t' = Value.type v from rb) (fun z => nomatch z)
  rw [e1, e2]
open Classical in
noncomputable def satH (h0 : Heap) (ex : List Addr) (h : Heap) (H : Hp) : Hp := fun b =>
  if q : h0.get? b = none ∧ b ∉ ex ∧ ∃ k, IsIS h b k then some (.tup [.int (choose q.2.2).1, .str (choose q.2.2).2]) else H b
section
variable {P : Program} {w : World} {h0 h : Heap} {ex : List Addr} {H : Hp} {b : Addr}
theorem sat_in {k : IS} (h1 : h0.get? b = none) (h2 : b ∉ ex) (h3 : IsIS h b k) : satH h0 ex h H b = some (.tup [.int k.1, .str k.2]) := by
  have q : h0.get? b = none ∧ b ∉ ex ∧ ∃ k, IsIS h b k := ⟨h1, h2, k, h3⟩
  unfold satH
  rw [dif_pos q]
  have := (Classical.choose_spec q.2.2).uniq h3
  rw [this]
theorem sat_out (hn : ∀ k, ¬ IsIS h b k) : satH h0 ex h H b = H b := by
  unfold satH; rw [dif_neg fun q => hn _ q.2.2.choose_spec]
theorem sat_old {o : Obj} (ho : h0.get? b = some o) : satH h0 ex h H b = H b := by
  unfold satH; rw [dif_neg fun q => by rw [ho] at q; cases q.1]
theorem sat_ex (hb : b ∈ ex) : satH h0 ex h H b = H b := by
  unfold satH; rw [dif_neg fun q => q.2.1 hb]
theorem not_is {o : Obj} (ho : h.get? b = some o) (hd : ∀ its n, o.data ≠ .seq its n) : ∀ k, ¬ IsIS h b k := fun k ⟨_, _, o', ho', _, n, hd'⟩ => by
  rw [ho] at ho'; cases ho'
  exact hd _ _ hd'
theorem sat_tup (ok : HOk P w H h) {xs : List L2.V} (e : H b = some (.tup xs)) : satH h0 ex h H b = some (.tup xs) := by
  by_cases q : h0.get? b = none ∧ b ∉ ex ∧ ∃ k, IsIS h b k
  · obtain ⟨q1, q2, k, q3⟩ := q
    rw [sat_in q1 q2 q3]
    obtain ⟨_, its, r, p⟩ := ok b _ e
    rw [isIS_vals q3 p r]
  · unfold satH; rw [dif_neg q]; exact e
theorem ObjOk.sat (ok : HOk P w H h) {a : Addr} {o : HO} (x : ObjOk P w H h a o) : ObjOk P w (satH h0 ex h H) h a o := by
  induction o with
  | dT kvs =>
    obtain ⟨z, y, xs, r, c⟩ := x
    exact ⟨z, y, xs, L2.Paired.mapP r fun p q z => ⟨z.1, sat_tup ok z.2.1, z.2.2⟩, c⟩
  | ins C dx fs =>
    obtain ⟨d, z, ne, e, mA, hns, r⟩ := x
    refine ⟨?_, z, ne, e, mA, hns, r⟩
    obtain ⟨od, es, ep, e2, e3, _⟩ := hns
    rw [sat_out (not_is e2 fun its n q => by rw [e3] at q; cases q)]
    exact d
  | frz ob u ih => exact ⟨x.1, ih x.2⟩
  | lst xs => exact x
  | tup xs => exact x
  | dK kvs => exact x
  | set S n => exact x
  | own y => exact x
  | xd fs => exact x
  | rng lo hi => exact x
  | tbl ps => exact x
  | met f y => exact x
  | ext φ => exact x
theorem HOk.sat (ok : HOk P w H h) : HOk P w (satH h0 ex h H) h := fun a o e => by
  by_cases q : h0.get? a = none ∧ a ∉ ex ∧ ∃ k, IsIS h a k
  · obtain ⟨q1, q2, k, q3⟩ := q
    rw [sat_in q1 q2 q3] at e
    cases e
    obtain ⟨t, t', p⟩ := q3
    exact ⟨by show 2 ≤ sizeLine; decide, [.int k.1 t, .str k.2 t'], .cons ⟨t, rfl⟩ (.cons ⟨t', rfl⟩ .nil), p⟩
  · have e' : H a = some o := by
      have : satH h0 ex h H a = H a := by unfold satH; rw [dif_neg q]
      rw [← this]; exact e
    exact ObjOk.sat ok (ok a o e')
theorem hok_some (ok : HOk P w H h) {o : HO} (e : H b = some o) : ∃ ob, h.get? b = some ob := by
  have lt := (ok b o e)
  have : ∀ {a : Addr} {u : HO}, ObjOk P w H h a u → ∃ ob, h.get? a = some ob := fun {a u} x1 => by
    induction u with
    | lst xs1 => obtain ⟨_, _, _, _, e⟩ := x1; exact ⟨_, e⟩
    | tup xs => obtain ⟨_, _, _, o, e, _⟩ := x1; exact ⟨_, e⟩
    | dK kvs => obtain ⟨_, _, _, _, o, _, _, e, _⟩ := x1; exact ⟨_, e⟩
    | dT kvs => obtain ⟨_, _, _, _, o, _, _, e, _⟩ := x1; exact ⟨_, e⟩
    | set S n => obtain ⟨o, _, _, _, e, _⟩ := x1; exact ⟨_, e⟩
    | ins C1 dx1 fs1 => obtain ⟨_, _, _, e, _⟩ := x1; exact ⟨_, e⟩
    | own y => obtain ⟨_, e⟩ := x1; exact ⟨_, e⟩
    | xd fs => obtain ⟨_, ⟨_, _, _, e, _⟩, _⟩ := x1; exact ⟨_, e⟩
    | rng lo1 hi1 => obtain ⟨_, _, _, e⟩ := x1; exact ⟨_, e⟩
    | frz ob u _ => obtain ⟨e, _⟩ := x1; exact ⟨_, e⟩
    | tbl ps => exact ⟨_, (show h.get? a = some _ from x1)⟩
    | met f y => exact ⟨_, (show h.get? a = some _ from x1)⟩
    | ext φ1 => obtain ⟨_, ⟨_, e⟩, _⟩ := x1; exact ⟨_, e⟩
  exact this lt
end
/-- the state between two calls -/
structure JC (P : Program) (w : World) (outer : List Env) (s0 : Shared) (H V : Hp) (ex : List Addr) (s : Shared) (H' : Hp) : Prop where
  os : s.os = s0.os
  bare : AllBare s.gens
  un : Un (frs outer) [] H H' s0.heap s.heap
  hok : HOk P w H' s.heap
  ext : Ext H V H' V
  out : ∀ b ∈ ex, H' b = none
  sat : ∀ b k, s0.heap.get? b = none → b ∉ ex → IsIS s.heap b k → H' b = some (.tup [.int k.1, .str k.2])
section
variable {P : Program} {w : World} {outer : List Env} {s0 s : Shared} {H V H2 V2 : Hp} {ex : List Addr}
theorem tabs_sat {h0 h : Heap} {T : List (Addr × Str)} (ok : HOk P w H2 h) (t : LamX.Tabs T H2) : LamX.Tabs T (satH h0 ex h H2) := fun p hp => by
  obtain ⟨ps, h1, h2, h3⟩ := t p hp
  refine ⟨ps, ?_, h2, fun pos cv hc => ?_⟩
  · have e : h.get? p.1 = some { cls := .none, data := .fields ps } := ok p.1 _ h1
    rw [sat_out (not_is e fun its n q => nomatch q)]; exact h1
  · obtain ⟨c, e1, e2⟩ := h3 pos cv hc
    refine ⟨c, e1, ?_⟩
    obtain ⟨⟨oc, vs, t, hoc, hdc, _⟩, _, _⟩ := ok c _ e2
    rw [sat_out (not_is hoc fun its n q => by rw [hdc] at q; cases q)]; exact e2
theorem JC.of (ok0 : HOk P w H s0.heap) (sv : Same V H) (hex : ∀ b ∈ ex, s0.heap.get? b = none) (os : s.os = s0.os) (bare : AllBare s.gens) (un : Un (frs outer) [] H H2 s0.heap s.heap) (hok : HOk P w H2 s.heap) (x : Ext H V H2 V2) (out : ∀ b ∈ ex, H2 b = none) : JC P w outer s0 H V ex s (satH s0.heap ex s.heap H2) := by
  have old : ∀ b o, H b = some o → satH s0.heap ex s.heap H2 b = H2 b := fun b o e => by
    obtain ⟨ob, e'⟩ := hok_some ok0 e
    exact sat_old e'
  refine ⟨os, bare, ⟨un.keep, un.slot, fun b o q n hx => ?_, un.there, fun b xs q => ?_, fun b o u q => ?_, fun b ps q => ?_⟩, HOk.sat hok, ⟨fun b o e nt => ?_, Same.refl _, fun b o e => ?_, fun b e _ => e, fun b e => ?_, fun t => tabs_sat hok (x.t t)⟩, fun b hb => ?_, fun b k e1 e2 e3 => sat_in e1 e2 e3⟩
  · rw [sat_old q]; exact un.free b o q n hx
  · rw [old b _ q]; exact un.tups b xs q
  · rw [old b _ q]; exact un.frzs b o u q
  · rw [old b _ q]; exact un.tbls b ps q
  · rw [old b o e]; exact x.h b o e nt
  · have e' := x.s b o (x.v b o e)
    rw [old b _ (sv b o e)]; exact e'
  · cases q : H b with
    | none => exact absurd q e
    | some o => rw [old b o q]; exact x.th b e
  · rw [sat_ex hb]; exact out b hb
end
end HD
set_option Elab.async false
set_option linter.all false
set_option maxRecDepth 100000
set_option maxHeartbeats 4000000
set_option Elab.async false
set_option linter.all false
set_option maxRecDepth 100000
set_option maxHeartbeats 4000000
set_option Elab.async false
set_option linter.all false
set_option maxRecDepth 100000
set_option maxHeartbeats 4000000
namespace DL
open PySem PySem.Spec PyProof.Rows L2
variable [TabCtx]
theorem RepL.erase {K : KW} {V : Hp} : ∀ {vs : List L2.V} {ds : List PyData} (k : Nat), RepL K V vs ds → RepL K V (vs.eraseIdx k) (ds.eraseIdx k)
  | _, _, _, .nil => .nil
  | _, _, 0, .cons _ t => t
  | _, _, k + 1, .cons r t => .cons r (RepL.erase k t)
end DL
set_option Elab.async false
set_option linter.all false
set_option maxRecDepth 100000
set_option maxHeartbeats 4000000
namespace SrtQ
open PySem SrtO PySem.Spec PyProof.Rows
theorem swo_ltS : Swo ltS := ⟨fun x y h => ltS_asym h, fun x y z h1 h2 => by
  cases q : ltS z x with
  | false => rfl
  | true =>
    exfalso
    cases h3 : ltS x y with
    | true => rw [ltS_trans q h3] at h2; cases h2
    | false =>
      have e := ltS_tri h3 h1
      subst e
      rw [q] at h2; cases h2⟩
theorem rising_srtd : ∀ (l : List Str) (p : Str), risingS p l = true → (∀ x ∈ l, ltS x p = false) ∧ SrtO.Srtd ltS l
  | [], p, _ => ⟨(fun x h => nomatch h), List.Pairwise.nil⟩
  | x :: r, p, h => by
    have h : (!ltCps x.cps.toList p.cps.toList && risingS x r) = true := h
    rw [ltCps_eq] at h
    have h : (!ltS x p && risingS x r) = true := h
    rw [Bool.and_eq_true] at h
    obtain ⟨h1, h2⟩ := rising_srtd r x h.2
    have hx : ltS x p = false := by have := h.1; cases e : ltS x p; rfl; rw [e] at this; cases this
    refine ⟨fun y hy => ?_, List.pairwise_cons.mpr ⟨fun y hy => h1 y hy, h2⟩⟩
    rcases List.mem_cons.mp hy with rfl | hy
    · exact hx
    · exact swo_ltS.tr p x y hx (h1 y hy)
theorem sorted_isort {ks ys : List Str} (hp : ys.Perm ks) (h : sortedS ys = true) : ys = isort ltS ks := by
  refine perm_uniq swo_ltS (fun x y h1 h2 => ltS_tri h1 h2) ?_ (isort_srtd swo_ltS ks) (hp.trans (isort_perm ks).symm)
  cases ys with
  | nil => exact List.Pairwise.nil
  | cons y ys =>
    obtain ⟨h1, h2⟩ := rising_srtd ys y h
    exact List.pairwise_cons.mpr ⟨h1, h2⟩
end SrtQ
namespace DL
open PySem PySem.Spec PyProof.Rows L2
variable [TabCtx]
def txtsD : List PyData → Option (List Str)
  | [] => some []
  | .str x :: ds => (txtsD ds).map (x :: ·)
  | _ :: _ => none
theorem txtsD_map : ∀ xs : List Str, txtsD (xs.map PyData.str) = some xs
  | [] => rfl
  | x :: xs => by rw [List.map_cons, txtsD, txtsD_map xs]; rfl
theorem repL_txts {K : KW} {V : Hp} : ∀ ys : List Str, RepL K V (ys.map L2.V.str) (ys.map PyData.str)
  | [] => .nil
  | y :: ys => .cons (.str y) (repL_txts ys)
end DL
set_option Elab.async false
set_option linter.all false
set_option maxRecDepth 100000
set_option maxHeartbeats 4000000
namespace DL
open PySem PySem.Spec PyProof.Rows L2
end DL
set_option Elab.async false
set_option linter.all false
set_option maxRecDepth 100000
set_option maxHeartbeats 4000000
namespace DL
open PySem PySem.Spec PyProof.Rows L2
end DL
set_option Elab.async false
set_option linter.all false
set_option maxRecDepth 100000
set_option maxHeartbeats 4000000
namespace DL
open PySem PySem.Spec PyProof.Rows L2
end DL
set_option Elab.async false
set_option linter.all false
set_option maxRecDepth 100000
set_option maxHeartbeats 4000000
namespace L2
open PySem PySem.Spec PyProof.Rows
section
variable {P : Program} {w : World} {A : Around} {E : Value → Shared → Prop} {s : Shared}
abbrev set00 (w : World) : Obj := { cls := .type "set", dict := none, data := .set #[] 0 (.fresh 0 0 (!w.params.followText "set-order")) }
end
end L2
set_option Elab.async false
set_option linter.all false
set_option maxRecDepth 100000
set_option maxHeartbeats 4000000
namespace DL
open PySem PySem.Spec PyProof.Rows L2
end DL
set_option Elab.async false
set_option linter.all false
set_option maxRecDepth 100000
set_option maxHeartbeats 2000000
namespace DL
open PySem PySem.Spec PyProof.Rows L2
abbrev aRun (K : PySem.W.Frag) : Addr := He.ga K "Running"
def obNames : List Str := ["first", "crew", "stand", "sung", "deeds", "past"]
abbrev aMet (K : PySem.W.Frag) (m : Str) : Addr := He.fAd K ("Running", some m)
def metNames : List Str := ["remember", "need_leads", "sing", "beat", "run", "replace", "lines", "standing", "choir", "undo"]
/-- what the text says of the class -/
structure RunK (K : PySem.W.Frag) : Prop where
  cls : Cls K (aRun K)
  no : ∀ f ∈ obNames, NoAttr K (aRun K) f
  make : Mk K (aRun K) (aMet K "__init__")
  meth : ∀ m ∈ metNames, Meth K (aRun K) m (aMet K m)
end DL
set_option Elab.async false
set_option linter.all false
set_option maxRecDepth 100000
set_option maxHeartbeats 2000000
namespace DL
open PySem PySem.Spec PyProof.Rows L2
variable [TabCtx]
/-- the cells of a running song -/
structure ObC where
  dx : Addr
  ls : Addr
  ld : Addr
  lp : Addr
  fs : List (Str × L2.V)
  v1 : L2.V
  v2 : L2.V
  v3 : L2.V
  xs : List L2.V
  ys : List L2.V
  zs : List L2.V
structure ObIs (K : PySem.W.Frag) (H : Hp) (a : Addr) (c : ObC) : Prop where
  ins : H a = some (.ins (aRun K) c.dx c.fs)
  own : H c.dx = some (.own a)
  f1 : c.fs.lookup ("first" : Str) = some c.v1
  f2 : c.fs.lookup ("crew" : Str) = some c.v2
  f3 : c.fs.lookup ("stand" : Str) = some c.v3
  f4 : c.fs.lookup ("sung" : Str) = some (.ref c.ls)
  f5 : c.fs.lookup ("deeds" : Str) = some (.ref c.ld)
  f6 : c.fs.lookup ("past" : Str) = some (.ref c.lp)
  no : ∀ f, f ∉ obNames → c.fs.lookup f = none
  len : c.fs.length ≤ 20
  l1 : H c.ls = some (.lst c.xs)
  l2 : H c.ld = some (.lst c.ys)
  l3 : H c.lp = some (.lst c.zs)
  n1 : c.ls ≠ c.ld
  n2 : c.ls ≠ c.lp
  n3 : c.ld ≠ c.lp
structure ObRep (K : KW) (V : Hp) (c : ObC) (o : Ob) : Prop where
  first : Rep K V c.v1 o.first
  crew : Rep K V c.v2 o.crew
  stand : Rep K V c.v3 o.stand
  sung : RepL K V c.xs o.sung
  deeds : RepL K V c.ys o.deeds
  past : RepL K V c.zs o.past
theorem ObRep.mono {K : KW} {V V' : Hp} {c : ObC} {o : Ob} (h : ObRep K V c o) (s : Same V V') : ObRep K V' c o := ⟨h.first.mono s, h.crew.mono s, h.stand.mono s, h.sung.mono s, h.deeds.mono s, h.past.mono s⟩
section
variable {K : KW} {V H H' : Hp} {a : Addr} {o : Ob} {c : ObC}
theorem ObAt.get (h : ObAt K V H a o) : ∃ c, ObIs K.k H a c ∧ ObRep K V c o := by
  obtain ⟨dx, ls, ld, lp, v1, v2, v3, xs, ys, zs, fs, e1, e2, ⟨f1, f2, f3, f4, f5, f6⟩, hn, hl, ⟨l1, l2, l3⟩, ⟨n1, n2, n3⟩, ⟨r1, r2, r3⟩, r4, r5, r6⟩ := h.ins
  exact ⟨⟨dx, ls, ld, lp, fs, v1, v2, v3, xs, ys, zs⟩, ⟨e1, e2, f1, f2, f3, f4, f5, f6, hn, hl, l1, l2, l3, n1, n2, n3⟩, ⟨r1, r2, r3, r4, r5, r6⟩⟩
theorem ObAt.mk' (h : ObIs K.k H a c) (r : ObRep K V c o) (hid : ∀ b, Foot H a b → V b = none) : ObAt K V H a o :=
  ⟨⟨c.dx, c.ls, c.ld, c.lp, c.v1, c.v2, c.v3, c.xs, c.ys, c.zs, c.fs, h.ins, h.own, ⟨h.f1, h.f2, h.f3, h.f4, h.f5, h.f6⟩, h.no, h.len, ⟨h.l1, h.l2, h.l3⟩, ⟨h.n1, h.n2, h.n3⟩, ⟨r.first, r.crew, r.stand⟩, r.sung, r.deeds, r.past⟩, hid⟩
theorem ObIs.foot {K : PySem.W.Frag} (h : ObIs K H a c) {b : Addr} : Foot H a b ↔ b = a ∨ b = c.dx ∨ b = c.ls ∨ b = c.ld ∨ b = c.lp := by
  constructor
  · rintro (e | ⟨C, dx, fs, e, q⟩)
    · exact .inl e
    · rw [h.ins] at e
      cases e
      rcases q with e | ⟨f, hf, e⟩
      · exact .inr (.inl e)
      · unfold obF at hf
        rcases List.mem_cons.mp hf with rfl | hf
        · rw [h.f4] at e; cases e; exact .inr (.inr (.inl rfl))
        · rcases List.mem_cons.mp hf with rfl | hf
          · rw [h.f5] at e; cases e; exact .inr (.inr (.inr (.inl rfl)))
          · rcases List.mem_cons.mp hf with rfl | hf
            · rw [h.f6] at e; cases e; exact .inr (.inr (.inr (.inr rfl)))
            · cases hf
  · rintro (e | e | e | e | e)
    · exact .inl e
    · exact .inr ⟨_, _, _, h.ins, .inl e⟩
    · exact .inr ⟨_, _, _, h.ins, .inr ⟨"sung", by simp [obF], by rw [h.f4, e]⟩⟩
    · exact .inr ⟨_, _, _, h.ins, .inr ⟨"deeds", by simp [obF], by rw [h.f5, e]⟩⟩
    · exact .inr ⟨_, _, _, h.ins, .inr ⟨"past", by simp [obF], by rw [h.f6, e]⟩⟩
theorem ObIs.cell {K : PySem.W.Frag} (h : ObIs K H a c) {b : Addr} (f : Foot H a b) : ∃ x, H b = some x ∧ nT x ∧ Plain x := by
  rcases h.foot.mp f with rfl | rfl | rfl | rfl | rfl
  · exact ⟨_, h.ins, (fun _ z => nomatch z), ⟨(fun _ z => nomatch z), fun _ _ z => by unfold LamX.CodeO at z; cases z⟩⟩
  · exact ⟨_, h.own, (fun _ z => nomatch z), ⟨(fun _ z => nomatch z), fun _ _ z => by unfold LamX.CodeO at z; cases z⟩⟩
  · exact ⟨_, h.l1, (fun _ z => nomatch z), plain_lst⟩
  · exact ⟨_, h.l2, (fun _ z => nomatch z), plain_lst⟩
  · exact ⟨_, h.l3, (fun _ z => nomatch z), plain_lst⟩
theorem ObIs.keep {K : PySem.W.Frag} (h : ObIs K H a c) (k : ∀ b x, Foot H a b → H b = some x → H' b = some x) : ObIs K H' a c :=
  ⟨k _ _ (h.foot.mpr (.inl rfl)) h.ins, k _ _ (h.foot.mpr (.inr (.inl rfl))) h.own, h.f1, h.f2, h.f3, h.f4, h.f5, h.f6, h.no, h.len, k _ _ (h.foot.mpr (.inr (.inr (.inl rfl)))) h.l1, k _ _ (h.foot.mpr (.inr (.inr (.inr (.inl rfl))))) h.l2, k _ _ (h.foot.mpr (.inr (.inr (.inr (.inr rfl))))) h.l3, h.n1, h.n2, h.n3⟩
theorem ObIs.foot_eq {K K' : PySem.W.Frag} (h : ObIs K H a c) (h' : ObIs K' H' a c) {b : Addr} : Foot H a b ↔ Foot H' a b := h.foot.trans h'.foot.symm
theorem ObAt.keep (h : ObAt K V H a o) {V' : Hp} (k : ∀ b x, Foot H a b → H b = some x → nT x → H' b = some x) (s : Same V V') (hid : ∀ b, Foot H a b → V' b = none) : ObAt K V' H' a o ∧ ∀ b, Foot H' a b ↔ Foot H a b := by
  obtain ⟨c, i, r⟩ := h.get
  have i' : ObIs K.k H' a c := i.keep fun b x f e => by
    obtain ⟨y, e2, n, _⟩ := i.cell f
    rw [e] at e2; cases e2
    exact k b x f e n
  exact ⟨ObAt.mk' i' (r.mono s) fun b f => hid b ((i.foot_eq i').mpr f), fun b => (i.foot_eq i').symm⟩
end
abbrev mkI (G : Fr) (H0 V0 : Hp) (obs : Addr → Prop) : Fr := { G with H0 := H0, V0 := V0, obs := obs }
structure OkI (G : Fr) (H0 V0 : Hp) (obs : Addr → Prop) : Prop where
  ext : Ext G.H0 G.V0 H0 V0
  fr : ∀ a, obs a → ∀ b, Foot H0 a b → G.H0 b = none
  ds : ∀ a a', obs a → obs a' → a ≠ a' → ∀ b, Foot H0 a b → Foot H0 a' b → False
def EnvI (K : KW) (G : Fr) (H V : Hp) (σ : St) (ρ : Rho) : Prop := ∃ H0 V0 obs, EnvR K (mkI G H0 V0 obs) H V σ ρ ∧ OkI G H0 V0 obs
section
variable {K : KW} {G : Fr} {H V H' V' H1 V1 : Hp} {σ : St} {ρ : Rho}
theorem EnvI.grow (E : EnvI K G H V σ ρ) (e : Ext H V H1 V1) : EnvI K G H1 V1 σ ρ := by
  obtain ⟨H0, V0, obs, E, ok⟩ := E
  exact ⟨H0, V0, obs, E.grow e, ok⟩
theorem EnvI.sub (E : EnvI K G H V σ ρ) : Same V H := by
  obtain ⟨H0, V0, obs, E, ok⟩ := E
  exact E.sub
theorem EnvI.tabs (E : EnvI K G H V σ ρ) : TabV H V := by
  obtain ⟨H0, V0, obs, E, ok⟩ := E
  exact E.tabs
theorem EnvI.ext (E : EnvI K G H V σ ρ) : Ext G.H0 G.V0 H V := by
  obtain ⟨H0, V0, obs, E, ok⟩ := E
  exact ok.ext.trans E.ext
theorem EnvI.of (E : EnvR K G H V σ ρ) (hs : Same G.V0 G.H0) (hg : ∀ a, ¬ G.obs a) : EnvI K G H V σ ρ :=
  ⟨G.H0, G.V0, G.obs, E, ⟨Ext.refl hs, fun a ha => absurd ha (hg a), fun a _ ha => absurd ha (hg a)⟩⟩
/-- a running song as it stands -/
theorem EnvI.at_ (E : EnvI K G H V σ ρ) {i : Nat} {o : Ob} (h : ρ[i]? = some (.ob o)) : ∃ a, σ[i]? = some (some (.ref a)) ∧ ObAt K V H a o ∧ ∀ b, Foot H a b → G.H0 b = none := by
  obtain ⟨H0, V0, obs, E, ok⟩ := E
  obtain ⟨a, h1, h2, h3⟩ := E.ob.at_ i o h
  obtain ⟨c, i0, _⟩ := h3.get
  obtain ⟨h4, h5⟩ := h3.keep (H' := H) (V' := V) (fun b x f e n => E.ext.h b x e n) E.ext.v fun b f => by
    obtain ⟨x, e, _⟩ := i0.cell f
    exact E.ext.f b (h3.hid b f) (by rw [e]; exact fun z => nomatch z)
  exact ⟨a, h1, h4, fun b f => ok.fr a h2 b ((h5 b).mp f)⟩
end
theorem tabs_veil {T : List (Addr × Str)} {H : Hp} {P : Addr → Prop} (h : ∀ b, P b → ∀ x, H b = some x → Plain x) (t : LamX.Tabs T H) : LamX.Tabs T (veiled P H) := fun q hq => by
  obtain ⟨ps, h1, h2, h3⟩ := t q hq
  refine ⟨ps, ?_, h2, fun pos cv hc => ?_⟩
  · rw [veiled_n (fun z => (h _ z _ h1).t _ rfl)]; exact h1
  · obtain ⟨c, e1, e2⟩ := h3 pos cv hc
    refine ⟨c, e1, ?_⟩
    rw [veiled_n (fun z => (h _ z _ e2).c _ _ rfl)]; exact e2
theorem veil_same {P : Addr → Prop} {H : Hp} : Same (veiled P H) H := fun b x e => by
  by_cases h : P b
  · rw [veiled_p h] at e; cases e
  · rw [veiled_n h] at e; exact e
section
variable {K : KW} {G : Fr} {H V H' V' : Hp} {σ : St} {ρ : Rho}
theorem Foot.exi {K : KW} {V H : Hp} {a b : Addr} {o : Ob} (h : ObAt K V H a o) (f : Foot H a b) : ∃ x, H b = some x ∧ nT x ∧ Plain x := by
  obtain ⟨c, i, _⟩ := h.get
  exact i.cell f
/-- a step that leaves all as it is but a running song (in slot i) and new things -/
theorem EnvI.mut (E : EnvI K G H V σ ρ) {i : Nat} {a : Addr} {o o' : Ob} (h0 : ρ[i]? = some (.ob o)) (h1 : σ[i]? = some (some (.ref a))) (kp : ∀ b x, ¬ Foot H a b → H b = some x → nT x → H' b = some x) (th : ∀ b, ¬ Foot H a b → H b ≠ none → H' b ≠ none) (tb : LamX.Tabs TBS H → LamX.Tabs TBS H')
    (v : Same V V') (s : Same V' H') (fh : ∀ b, ¬ Foot H a b → V b = none → H b ≠ none → V' b = none) (ho : ObAt K V' H' a o') (ft : ∀ b, Foot H' a b → Foot H a b ∨ H b = none) : EnvI K G H' V' σ (ρ.set i (.ob o')) := by
  have tabs := E.tabs
  obtain ⟨H0, V0, obs, E, ok⟩ := E
  obtain ⟨a1, e1, oa, oat⟩ := E.ob.at_ i o h0
  rw [h1] at e1
  cases e1
  have oa : obs a := oa
  have oat : ObAt K V0 H0 a o := oat
  have hil : i < ρ.length := (List.getElem?_eq_some_iff.mp h0).1
  -- cells of a running song now
  have now : ∀ {j : Nat} {p : Ob} {b : Addr}, ρ[j]? = some (.ob p) → σ[j]? = some (some (.ref b)) → obs b ∧ ObAt K V0 H0 b p ∧ ObAt K V H b p ∧ ∀ c, Foot H b c ↔ Foot H0 b c := fun {j p b} q1 q2 => by
    obtain ⟨b1, w1, w2, w3⟩ := E.ob.at_ j p q1
    rw [q2] at w1
    cases w1
    obtain ⟨w4, w5⟩ := w3.keep (H' := H) (V' := V) (fun c x f e n => E.ext.h c x e n) E.ext.v fun c f => by
      obtain ⟨x, e, _⟩ := Foot.exi w3 f
      exact E.ext.f c (w3.hid c f) (by rw [e]; exact fun z => nomatch z)
    exact ⟨w2, w3, w4, w5⟩
  obtain ⟨_, _, oat1, fiff⟩ := now h0 h1
  have own0 : ∀ {b : Addr}, IsOwn σ ρ b → V b = none ∧ H0 b = none ∧ ∃ x, H b = some x ∧ Plain x := fun {b} z => by
    obtain ⟨q1, q2, x, q3, _, _, q4⟩ := E.own_at z
    exact ⟨q1, q2, x, q3, q4⟩
  have ownF : ∀ {b : Addr}, IsOwn σ ρ b → ¬ Foot H a b := fun {b} z f => by
    obtain ⟨x, e, _⟩ := Foot.exi oat ((fiff b).mp f)
    rw [(own0 z).2.1] at e; cases e
  have ownP : ∀ b, IsOwn σ ρ b → ∀ x, H' b = some x → Plain x := fun b z x e => by
    obtain ⟨_, _, y, q1, q2⟩ := own0 z
    have := kp b y (ownF z) q1 q2.t
    rw [e] at this; cases this
    exact q2
  have ownV : ∀ {b : Addr}, IsOwn σ ρ b → V' b = none := fun {b} z => by
    obtain ⟨q0, _, y, q1, _⟩ := own0 z
    exact fh b (ownF z) q0 (by rw [q1]; exact fun w => nomatch w)
  -- what slots hold
  have slo : ∀ {j : Nat} {t : Sl}, (ρ.set i (.ob o'))[j]? = some t → (j = i ∧ t = .ob o') ∨ (j ≠ i ∧ ρ[j]? = some t) := fun {j t} q => by
    rcases getElem_set_some q with ⟨rfl, z, _⟩ | ⟨n, z⟩
    · exact .inl ⟨rfl, z.symm⟩
    · exact .inr ⟨Ne.symm n, z⟩
  have ow : ∀ {b : Addr}, IsOwn σ (ρ.set i (.ob o')) b → IsOwn σ ρ b := fun {b} ⟨j, d, q1, q2⟩ => by
    rcases slo q1 with ⟨_, z⟩ | ⟨_, z⟩
    · cases z
    · exact ⟨j, d, z, q2⟩
  have vs : Same (veiled (IsOwn σ ρ) H') H' := veil_same
  have gx : Ext G.H0 G.V0 H V := ok.ext.trans E.ext
  -- the running song in the new base
  have base : ∀ {b : Addr} {p : Ob}, ObAt K V' H' b p → (∀ c, Foot H' b c → ¬ IsOwn σ ρ c) → ObAt K V' (veiled (IsOwn σ ρ) H') b p ∧ ∀ c, Foot (veiled (IsOwn σ ρ) H') b c ↔ Foot H' b c := fun {b p} q n =>
    q.keep (fun c x f e _ => by rw [veiled_n (n c f)]; exact e) (Same.refl _) q.hid
  have nown : ∀ c, Foot H' a c → ¬ IsOwn σ ρ c := fun c f z => by
    rcases ft c f with q | q
    · exact ownF z q
    · obtain ⟨_, _, y, q1, _⟩ := own0 z
      rw [q] at q1; cases q1
  obtain ⟨ba, fa⟩ := base ho nown
  have oth : ∀ {j : Nat} {p : Ob} {b : Addr}, j ≠ i → ρ[j]? = some (.ob p) → σ[j]? = some (some (.ref b)) → b ≠ a ∧ ObAt K V' (veiled (IsOwn σ ρ) H') b p ∧ ∀ c, Foot (veiled (IsOwn σ ρ) H') b c ↔ Foot H0 b c := fun {j p b} nj q1 q2 => by
    have nba : b ≠ a := fun z => nj (E.ob.dis j i a p o q1 h0 (by rw [← z]; exact q2) h1)
    obtain ⟨w2, w3, w4, w5⟩ := now q1 q2
    have nf : ∀ c, Foot H b c → ¬ Foot H a c := fun c f1 f2 => ok.ds b a w2 oa nba c ((w5 c).mp f1) ((fiff c).mp f2)
    obtain ⟨w6, w7⟩ := w4.keep (H' := H') (V' := V') (fun c x f e n => kp c x (nf c f) e n) v fun c f => by
      obtain ⟨x, e, _⟩ := Foot.exi w4 f
      exact fh c (nf c f) (w4.hid c f) (by rw [e]; exact fun z => nomatch z)
    obtain ⟨w8, w9⟩ := base w6 fun c f z => by
      obtain ⟨x, e, _⟩ := Foot.exi w3 ((w5 c).mp ((w7 c).mp f))
      rw [(own0 z).2.1] at e; cases e
    exact ⟨nba, w8, fun c => (w9 c).trans ((w7 c).trans (w5 c))⟩
  refine ⟨veiled (IsOwn σ ρ) H', V', fun b => ∃ (j : Nat) (p : Ob), (ρ.set i (.ob o'))[j]? = some (.ob p) ∧ σ[j]? = some (some (L2.V.ref b)), ⟨by rw [List.length_set]; exact E.len, .of vs (Same.refl _) s (fun _ z _ => z), fun j d q => ?_, fun j d q => ?_, fun j k b d e q1 q2 q3 q4 => ?_, E.lent, ⟨tabs_veil ownP (tb tabs.1), fun p hp => by
    obtain ⟨ps, e, _⟩ := tabs.1 p hp
    refine fh _ (fun f => ?_) (tabs.2 p hp) (by rw [e]; exact fun z => nomatch z)
    obtain ⟨y, e2, n2, _⟩ := Foot.exi oat1 f
    rw [e] at e2; cases e2
    exact n2 ps rfl⟩, ⟨fun j p q => ?_, fun j k b p r q1 q2 q3 q4 => ?_⟩⟩, ⟨⟨fun b x e n => ?_, gx.v.trans v, fun b x e => ?_, fun b z1 z2 => fh b (fun f => z2 (ok.fr a oa b ((fiff b).mp f))) (gx.f b z1 z2) (gx.th b z2), fun b z => ?_, fun t => tabs_veil ownP (tb (gx.t t))⟩, fun b ⟨j, p, q1, q2⟩ c f => ?_, fun b b2 ⟨j, p, q1, q2⟩ ⟨k, r, q3, q4⟩ ne c f1 f2 => ?_⟩⟩
  · rcases slo q with ⟨_, z⟩ | ⟨_, z⟩
    · cases z
    · obtain ⟨u, w1, w2⟩ := E.sh j d z
      exact ⟨u, w1, w2.mono v⟩
  · rcases slo q with ⟨_, z⟩ | ⟨_, z⟩
    · cases z
    · obtain ⟨b, w1, w2, w3, w4⟩ := E.ow j d z
      have io : IsOwn σ ρ b := ⟨j, d, z, w1⟩
      exact ⟨b, w1, ownV io, veiled_p io, w4.mono v fun x e n => kp b x (ownF io) e n⟩
  · rcases slo q1 with ⟨_, z⟩ | ⟨_, z1⟩
    · cases z
    · rcases slo q2 with ⟨_, z⟩ | ⟨_, z2⟩
      · cases z
      · exact E.dis j k b d e z1 z2 q3 q4
  · rcases slo q with ⟨rfl, z⟩ | ⟨nj, z⟩
    · cases z
      exact ⟨a, h1, ⟨j, o', q, h1⟩, ba⟩
    · obtain ⟨b, w1, _⟩ := E.ob.at_ j p z
      exact ⟨b, w1, ⟨j, p, q, w1⟩, (oth nj z w1).2.1⟩
  · have old : ∀ {j : Nat} {p : Ob}, (ρ.set i (.ob o'))[j]? = some (.ob p) → ∃ p, ρ[j]? = some (.ob p) := fun {j p} q => by
      rcases slo q with ⟨rfl, _⟩ | ⟨_, z⟩
      · exact ⟨o, h0⟩
      · exact ⟨p, z⟩
    obtain ⟨p1, w1⟩ := old q1
    obtain ⟨p2, w2⟩ := old q2
    exact E.ob.dis j k b p1 p2 w1 w2 q3 q4
  · have e1 := gx.h b x e n
    have nz : G.H0 b ≠ none := by rw [e]; exact fun z => nomatch z
    have nf : ¬ Foot H a b := fun f => nz (ok.fr a oa b ((fiff b).mp f))
    rw [veiled_n (fun z => ok.ext.th b nz (own0 z).2.1)]
    exact kp b x nf e1 n
  · rw [veiled_n (fun z => by rw [ownV z] at e; cases e)]
    exact s b x e
  · rw [veiled_n (fun w => ok.ext.th b z (own0 w).2.1)]
    exact th b (fun f => z (ok.fr a oa b ((fiff b).mp f))) (gx.th b z)
  · rcases slo q1 with ⟨rfl, z⟩ | ⟨nj, z⟩
    · rw [h1] at q2
      cases q2
      rcases ft c ((fa c).mp f) with w | w
      · exact ok.fr a oa c ((fiff c).mp w)
      · cases e : G.H0 c with
        | none => rfl
        | some x => exact absurd w (gx.th c (by rw [e]; exact fun z => nomatch z))
    · obtain ⟨_, _, w⟩ := oth nj z q2
      exact ok.fr b (now z q2).1 c ((w c).mp f)
  · have key : ∀ {k : Nat} {r : Ob} {b2 : Addr} {c : Addr}, k ≠ i → ρ[k]? = some (.ob r) → σ[k]? = some (some (.ref b2)) → Foot (veiled (IsOwn σ ρ) H') a c → Foot (veiled (IsOwn σ ρ) H') b2 c → False := fun {k r b2 c} nk z q4 f1 f2 => by
      obtain ⟨nb, _, w⟩ := oth nk z q4
      obtain ⟨w2, w3, _, _⟩ := now z q4
      have f3 := (w c).mp f2
      rcases ft c ((fa c).mp f1) with y | y
      · exact ok.ds a b2 oa w2 (Ne.symm nb) c ((fiff c).mp y) f3
      · obtain ⟨x, e, _⟩ := Foot.exi w3 f3
        exact E.ext.th c (show H0 c ≠ none by rw [e]; exact fun z => nomatch z) y
    rcases slo q1 with ⟨rfl, z⟩ | ⟨nj, z⟩
    · rw [h1] at q2
      cases q2
      rcases slo q3 with ⟨rfl, _⟩ | ⟨nk, z2⟩
      · rw [h1] at q4
        cases q4
        exact ne rfl
      · exact key nk z2 q4 f1 f2
    · rcases slo q3 with ⟨rfl, _⟩ | ⟨nk, z2⟩
      · rw [h1] at q4
        cases q4
        exact key nj z q2 f2 f1
      · obtain ⟨_, _, w⟩ := oth nj z q2
        obtain ⟨_, _, w'⟩ := oth nk z2 q4
        exact ok.ds b b2 (now z q2).1 (now z2 q4).1 ne c ((w c).mp f1) ((w' c).mp f2)
end
end DL
set_option Elab.async false
set_option linter.all false
set_option maxRecDepth 100000
set_option maxHeartbeats 2000000
namespace DL
open PySem PySem.Spec PyProof.Rows L2
variable [TabCtx]
/-- what is wanted behind a statement -/
def GoalI (K : KW) (G : Fr) (V : Hp) (o : O) (D : Ends) : Prop := match o with
  | .nx ρ' => ∀ σ' H' V', EnvI K G H' V' σ' ρ' → Same V V' → D.nx σ' H'
  | .rt d ρ' => ∀ v σ' H' V', EnvI K G H' V' σ' ρ' → Same V V' → Rep K V' v d → D.rt v H'
  | .rf d ρ' => ∀ v σ' H' V', EnvI K G H' V' σ' ρ' → Same V V' → Rep K V' v d → D.rt v H'
  | .bk ρ' => ∀ σ' H' V', EnvI K G H' V' σ' ρ' → Same V V' → D.bk σ' H'
  | .ct ρ' => ∀ σ' H' V', EnvI K G H' V' σ' ρ' → Same V V' → D.ct σ' H'
  | .exc c => ∀ σ' H' V', Ext G.H0 G.V0 H' V' → G.W (.ref (He.ga K c)) σ' H'
  | .bad => False
/-- what is wanted behind an expression -/
def GoalE {α β : Type} (K : KW) (G : Fr) (σ : St) (V : Hp) (rep : Hp → β → α → Prop) (r : R (α × Rho)) (Q : β → Hp → Prop) : Prop := match r with
  | .ok (a, ρ') => ∀ b H' V', EnvI K G H' V' σ ρ' → Same V V' → rep V' b a → Q b H'
  | .exc c => ∀ H' V', Ext G.H0 G.V0 H' V' → G.W (.ref (He.ga K c)) σ H'
  | .bad => False
section
variable {K : KW} {G : Fr} {σ : St} {ρ : Rho} {H V V1 : Hp}
theorem GoalI.mono {o : O} {D : Ends} (v : Same V V1) (g : GoalI K G V o D) : GoalI K G V1 o D := by
  cases o with
  | nx ρ' => exact fun σ' H' V' E s => g σ' H' V' E (v.trans s)
  | rt d ρ' => exact fun x σ' H' V' E s => g x σ' H' V' E (v.trans s)
  | rf d ρ' => exact fun x σ' H' V' E s => g x σ' H' V' E (v.trans s)
  | bk ρ' => exact fun σ' H' V' E s => g σ' H' V' E (v.trans s)
  | ct ρ' => exact fun σ' H' V' E s => g σ' H' V' E (v.trans s)
  | exc c => exact g
  | bad => exact g
theorem GoalE.after {α β : Type} {rep : Hp → β → α → Prop} {r : R (α × Rho)} {Q : β → Hp → Prop} (v : Same V V1) (g : GoalE K G σ V rep r Q) : GoalE K G σ V1 rep r Q := by
  cases r with
  | ok p => exact fun b H' V' E s => g b H' V' E (v.trans s)
  | exc c => exact g
  | bad => exact g
theorem GoalE.bind {α β α' β' : Type} {rep1 : Hp → β → α → Prop} {rep2 : Hp → β' → α' → Prop} {f : M α} {k : α → M α'} {Q : β' → Hp → Prop} {Q1 : β → Hp → Prop}
    (g : GoalE K G σ V rep2 (M.bind f k ρ) Q)
    (h : ∀ b a H' V' ρ', EnvI K G H' V' σ ρ' → Same V V' → rep1 V' b a → GoalE K G σ V' rep2 (k a ρ') Q → Q1 b H') : GoalE K G σ V rep1 (f ρ) Q1 := by
  unfold M.bind at g
  cases e : f ρ with
  | ok p =>
    obtain ⟨a, ρ'⟩ := p
    rw [e] at g
    exact fun b H' V' E s r => h b a H' V' ρ' E s r (GoalE.after s g)
  | exc c => rw [e] at g; exact g
  | bad => rw [e] at g; exact g
theorem GoalI.ex {α β : Type} {rep1 : Hp → β → α → Prop} {f : M α} {k : α → SM} {D : Ends} {Q1 : β → Hp → Prop}
    (g : GoalI K G V (exO f k ρ) D)
    (h : ∀ b a H' V' ρ', EnvI K G H' V' σ ρ' → Same V V' → rep1 V' b a → GoalI K G V' (k a ρ') D → Q1 b H') : GoalE K G σ V rep1 (f ρ) Q1 := by
  unfold exO at g
  cases e : f ρ with
  | ok p =>
    obtain ⟨a, ρ'⟩ := p
    rw [e] at g
    exact fun b H' V' E s r => h b a H' V' ρ' E s r (GoalI.mono s g)
  | exc c => rw [e] at g; exact fun H' V' x => g σ H' V' x
  | bad => rw [e] at g; exact g
theorem GoalE.opt {α β : Type} {rep : Hp → β → α → Prop} {Q : β → Hp → Prop} {o : Option α} (E : EnvI K G H V σ ρ) (g : GoalE K G σ V rep (M.opt o ρ) Q) : ∃ z, o = some z ∧ ∀ v H' V', Ext H V H' V' → rep V' v z → Q v H' := by
  cases o with
  | none => exact False.elim g
  | some z => exact ⟨z, rfl, fun v H' V' e r => g v H' V' (E.grow e) e.v r⟩
end
end DL
set_option Elab.async false
set_option linter.all false
set_option maxRecDepth 100000
set_option maxHeartbeats 2000000
namespace DL
open PySem PySem.Spec PyProof.Rows L2
variable [TabCtx]
def obM {α : Type} (i : Nat) (k : Ob → R α) : M α := fun ρ => match ρ[i]? with
  | some (.ob o) => M.lift (k o) ρ
  | _ => .bad
section
variable {K : KW} {F : Fr} {H V : Hp} {σ : St} {ρ : Rho}
theorem EnvR.atO (E : EnvR K F H V σ ρ) {i : Nat} {o : Ob} (h : ρ[i]? = some (.ob o)) : ∃ a, σ[i]? = some (some (.ref a)) ∧ F.obs a ∧ ObAt K V H a o ∧ ∀ b, Foot H a b ↔ Foot F.H0 a b := by
  obtain ⟨a, h1, h2, h3⟩ := E.ob.at_ i o h
  obtain ⟨c, i0, _⟩ := h3.get
  obtain ⟨h4, h5⟩ := h3.keep (H' := H) (V' := V) (fun b x f e n => E.ext.h b x e n) E.ext.v fun b f => by
    obtain ⟨x, e, _⟩ := i0.cell f
    exact E.ext.f b (h3.hid b f) (by rw [e]; exact fun z => nomatch z)
  exact ⟨a, h1, h2, h4, h5⟩
theorem Goal.ob {α β : Type} {rep : Hp → β → α → Prop} {Q : β → Hp → Prop} {i : Nat} {k : Ob → R α} (E : EnvR K F H V σ ρ) (g : Goal K F σ ρ H V rep (obM i k ρ) Q) : ∃ o a c, ρ[i]? = some (.ob o) ∧ σ[i]? = some (some (.ref a)) ∧ ObIs K.k H a c ∧ ObRep K V c o ∧ (∀ b, Foot H a b → V b = none) ∧ Goal K F σ ρ H V rep (M.lift (k o) ρ) Q := by
  unfold obM at g
  cases e : ρ[i]? with
  | none => rw [e] at g; exact False.elim g
  | some s =>
    rw [e] at g
    cases s with
    | no => exact False.elim g
    | sh _ => exact False.elim g
    | ow _ => exact False.elim g
    | ob o =>
      obtain ⟨a, h1, _, h2, _⟩ := E.atO e
      obtain ⟨c, hc, hr⟩ := h2.get
      exact ⟨o, a, c, rfl, h1, hc, hr, h2.hid, g⟩
end
end DL
set_option Elab.async false
set_option linter.all false
set_option maxRecDepth 100000
set_option maxHeartbeats 2000000
namespace DL
open PySem PySem.Spec PyProof.Rows L2
variable [TabCtx]
/-- what is changed, or not yet -/
inductive OA where
  | a (o : O)
  | b (o : O)
def GoalA (K : KW) (F : Fr) (G : Fr) (V : Hp) (o : OA) (D : Ends) : Prop := match o with
  | .a o => GoalS K F V o D
  | .b o => GoalI K G V o D
theorem GoalA.mono {K : KW} {F G : Fr} {V V1 : Hp} {o : OA} {D : Ends} (v : Same V V1) (g : GoalA K F G V o D) : GoalA K F G V1 o D := by
  cases o with
  | a o => exact GoalS.mono v g
  | b o => exact GoalI.mono v g
section
variable {P : Program} {w : World} {K : PySem.W.Frag} {mg : Str → Option Value} {base : Heap} {x q : Str} {params : Arguments} {body : List Stmt} {scope : Scope} {fd : FuncData} {f0 : Addr}
abbrev cxM (P : Program) (w : World) (K : PySem.W.Frag) (mg : Str → Option Value) (base : Heap) (N : List Str) (q : Str) (scope : Scope) (f : Addr) (cdv : Value) (A : Around) (outer : List Env) (s : Shared) (H : Hp) (E : XK) : Cx := cxOf (L2N.CX P w) P w K mg base N q scope f cdv A outer s H E
end
end DL
set_option Elab.async false
set_option linter.all false
set_option maxRecDepth 100000
set_option maxHeartbeats 2000000
namespace DL
open PySem PySem.Spec PyProof.Rows L2
variable [TabCtx]
/-- __init__ : what it promises of a new object -/
def spN (K : KW) (n : Nat) (m : List PyData → R Ob) : Sp := fun vs H Q E => vs.length = n ∧ ∃ a dx vs' V ds, TabV H V ∧ vs = .ref a :: vs' ∧ H a = some (.ins (aRun K.k) dx []) ∧ H dx = some (.own a) ∧ dx ≠ a ∧ V a = none ∧ V dx = none ∧ Same V H ∧ RepL K V vs' ds ∧ match m ds with
  | .ok o => ∀ H' V', Ext (hide (hide H a) dx) V H' V' → ObAt K V' H' a o → (∀ b, Foot H' a b → b = a ∨ b = dx ∨ H b = none) → Q .non H'
  | .exc c => ∀ H' V', Ext H V H' V' → E (.ref (He.ga K c)) none H'
  | .bad => False
def FnN (P : Program) (w : World) (K : PySem.W.Frag) (mg : Str → Option Value) (base : Heap) (lvl : Nat) (m : List PyData → R Ob) : Prop :=
  ∃ fd, FnOk P w K mg base (L2N.CX P w) lvl (aMet K "__init__") fd ["self", "choir", "standing"] (spN ⟨K, w⟩ 3 m) ∧ Binds K fd ["self", "choir", "standing"] [] ∧ ∀ ds, m ds ≠ .bad → ds.length = 2
section
variable {X : Cx} {CX : CXT} {k : Nat} {f C : Addr} {fd : FuncData} {ps : List Str} {sp : Sp} {E : L2.St → XK} {x : Str} {p pos : Pos} {e : Expr} {es : List Expr} {t : TA}
def tMk (C : Addr) (sp : Sp) (E : L2.St → XK) (t : TA) : TE := fun σ H Q => t σ H fun vs H1 => ∀ x dx, H1 x = none → H1 dx = none → dx ≠ x → sp (.ref x :: vs) (upd (upd H1 dx (.own x)) x (.ins C dx [])) (fun v H2 => v = .non ∧ Q (.ref x) H2) (E σ)
theorem pe_mkS (M : Mk X.K C f) (F : FnOk X.prog X.w X.K X.mg X.base CX k f fd ps sp) (hr : Room (k + 1) X.A) (hg : Gl X x) (hm : X.mg x = some (.ref C)) (hb : Binds X.K fd ps []) (hx : ∀ σ, PassesAt CX X σ (E σ))
    (ha : PA X (e :: es) t) (hdb : (x == ("__debug__" : Str)) = false := by decide) (he : starEach (e :: es) X.env = (false, eval e X.env) :: starEach es X.env := by rfl) (hpl : (backTo pos (starEach es X.env)).any (·.1) = false := by rfl) :
    PE X (.Call (.Name x p) (e :: es) [] pos) (tMk C sp E t) := by
  refine ⟨fun pins s σ H Q I h => ?_⟩
  refine wpAny_Call_Name_kw (ld_glob I hg hm ?_ hdb)
  refine PySem.W.callWith_K (h₀ := X.base) I.ok.mod.kin M.kp (thn (ha.run pos pins s σ H _ I h) fun us s1 ⟨vs, H1, I1, r, q⟩ => ⟨I1.kIn, ?_⟩) he hpl
  have hq := q (s1.heap.objs.size + 1) s1.heap.objs.size (I1.hok.fresh (Nat.le_succ _)) (I1.hok.fresh (Nat.le_refl _)) (Nat.ne_of_lt (Nat.lt_succ_self _))
  have J2 := Inv.made (C := C) I1
  have rr : Vals (V.ref (s1.heap.objs.size + 1) :: vs) (Value.ref (s1.heap.objs.size + 1) :: us) := .cons rfl r
  have hll : (Value.ref (s1.heap.objs.size + 1) :: us).length = ps.length := by
    have e2 := rr.length
    rw [F.len _ _ _ _ hq] at e2
    exact e2.symm
  have bb := hb _ (Value.ref (s1.heap.objs.size + 1) :: us) J2.kIn (by rw [List.append_nil]; exact hll)
  rw [List.append_nil] at bb
  show wpAny _ _ (call (.ref C) us) _ _ _
  refine wpAny_call (make_map (f := f) I1.kIn M.makes M.init (beq_iff_eq.mp M.fn) (codeAny_mono (F.run _ X.stack _ _ ⟨Value.ref (s1.heap.objs.size + 1) :: us, []⟩ (Value.ref (s1.heap.objs.size + 1) :: us) _ _ (E σ) (hr.make C us []) (J2.env0.make C us []) bb rr hq) fun r' s' hq' => ?_))
  cases r' with
  | error er => exact hx σ pins _ _ er s' J2 hq'
  | ok fl =>
    cases fl with
    | ret u =>
      obtain ⟨v, H2, I3, rv, ev, q3⟩ := J2.after hq'
      subst ev
      exact ⟨rv, ⟨V.ref (s1.heap.objs.size + 1), H2, I3, rfl, q3⟩⟩
    | next => exact False.elim hq'
    | brk => exact False.elim hq'
    | cont => exact False.elim hq'
end
section
variable {X : Cx} {F : Fr} {p pos : Pos} {e : Expr} {es : List Expr} {fs : M (List PyData)} {lvl : Nat} {mn : List PyData → R Ob}
/-- Running(..), refused -/
def makeX (m : List PyData → R Ob) (fs : M (List PyData)) : M PyData := M.bind fs fun ds ρ => match m ds with
  | .exc c => .exc c
  | _ => .bad
theorem pm_makeX (RK : RunK X.K) (G : FnN X.prog X.w X.K X.mg X.base lvl mn) (hr : Room (lvl + 1) X.A) (tk : Tk X F) (ha : PMA X F (e :: es) fs) (hm : X.mg "Running" = some (.ref (aRun X.K))) (hg : Gl X "Running" := by rfl)
    (he : starEach (e :: es) X.env = (false, eval e X.env) :: starEach es X.env := by rfl) (hpl : (backTo pos (starEach es X.env)).any (·.1) = false := by rfl) : PM X F (.Call (.Name "Running" p) (e :: es) [] pos) (makeX mn fs) := by
  obtain ⟨fd, G1, G2, G3⟩ := G
  refine PE.imp (pe_mkS (E := fun σ cls d H => d = none ∧ F.W cls σ H) RK.make G1 hr hg hm G2 (fun σ => L2N.passAt tk σ) ha (by decide) he hpl) fun σ H Q ⟨V, ρ, E, g⟩ => ⟨V, ρ, E, Goal.bind g fun vs ds H1 V1 ρ1 st1 r1 g1 => fun a dx ha1 hdx hne => ?_⟩
  cases em : mn ds with
  | ok o => rw [em] at g1; exact False.elim g1
  | bad => rw [em] at g1; exact False.elim g1
  | exc c =>
    rw [em] at g1
    have sub := st1.env.sub
    have hdx' : (upd H1 dx (.own a)) a = none := by rw [upd_ne hne.symm]; exact ha1
    have x1 : Ext H1 V1 (upd H1 dx (.own a)) V1 := Ext.hid sub hdx
    have x2 : Ext (upd H1 dx (.own a)) V1 (upd (upd H1 dx (.own a)) a (.ins (aRun X.K) dx [])) V1 := Ext.hid x1.s hdx'
    have x3 := x1.trans x2
    refine ⟨by rw [List.length_cons, r1.length, G3 ds (by rw [em]; exact fun z => nomatch z)], a, dx, vs, V1, ds, (st1.env.grow x3).tabs, rfl, upd_same, by rw [upd_ne hne, upd_same], hne, sub.free ha1, sub.free hdx, x3.s, r1, ?_⟩
    rw [em]
    exact fun H' V' x => ⟨rfl, g1 H' V' (st1.env.ext.trans (x3.trans x))⟩
end
end DL
set_option Elab.async false
set_option linter.all false
set_option maxRecDepth 100000
set_option maxHeartbeats 2000000
namespace DL
open PySem PySem.Spec PyProof.Rows L2
end DL
set_option Elab.async false
set_option linter.all false
set_option maxRecDepth 100000
set_option maxHeartbeats 2000000
namespace DL
open PySem PySem.Spec PyProof.Rows L2
variable [TabCtx]
section
variable {K : PySem.W.Frag} {H : Hp} {a : Addr} {c : ObC}
theorem ObIs.uniq {c' : ObC} (i : ObIs K H a c) (j : ObIs K H a c') : c = c' := by
  have e1 := i.ins.symm.trans j.ins
  injection e1 with e1
  injection e1 with _ e1 e2
  obtain ⟨dx, ls, ld, lp, fs, v1, v2, v3, xs, ys, zs⟩ := c
  obtain ⟨dx', ls', ld', lp', fs', v1', v2', v3', xs', ys', zs'⟩ := c'
  dsimp only at e1 e2
  subst e1 e2
  have a1 := i.f1.symm.trans j.f1
  have a2 := i.f2.symm.trans j.f2
  have a3 := i.f3.symm.trans j.f3
  have a4 := i.f4.symm.trans j.f4
  have a5 := i.f5.symm.trans j.f5
  have a6 := i.f6.symm.trans j.f6
  dsimp only at a1 a2 a3 a4 a5 a6
  cases a1; cases a2; cases a3; cases a4; cases a5; cases a6
  have b1 := i.l1.symm.trans j.l1
  have b2 := i.l2.symm.trans j.l2
  have b3 := i.l3.symm.trans j.l3
  dsimp only at b1 b2 b3
  cases b1; cases b2; cases b3
  rfl
end
section
variable {K : KW} {G : Fr} {H V : Hp} {σ : St} {ρ : Rho}
/-- one cell of a running song changed, none new -/
theorem EnvI.cell (E : EnvI K G H V σ ρ) {i : Nat} {a p : Addr} {o o' : Ob} {u : HO} {c c' : ObC} (h0 : ρ[i]? = some (.ob o)) (h1 : σ[i]? = some (some (.ref a))) (ic : ObIs K.k H a c) (hp : Foot H a p) (ic' : ObIs K.k (upd H p u) a c') (rc : ObRep K V c' o') (hf : c'.dx = c.dx ∧ c'.ls = c.ls ∧ c'.ld = c.ld ∧ c'.lp = c.lp) : EnvI K G (upd H p u) V σ (ρ.set i (.ob o')) := by
  obtain ⟨a1, e1, oat, _⟩ := E.at_ h0
  rw [h1] at e1
  cases e1
  obtain ⟨y, ey, _, py⟩ := ic.cell hp
  have ff : ∀ b, Foot (upd H p u) a b ↔ Foot H a b := fun b => by
    rw [ic'.foot, ic.foot, hf.1, hf.2.1, hf.2.2.1, hf.2.2.2]
  refine E.mut h0 h1 (fun b x nf e _ => ?_) (fun b nf e => ?_) (fun t => tabs_upd (fun x e => by rw [ey] at e; cases e; exact py) t) (Same.refl _) (fun b x e => ?_) (fun b _ e _ => e) (ObAt.mk' ic' rc fun b f => oat.hid b ((ff b).mp f)) fun b f => .inl ((ff b).mp f)
  · rw [upd_ne (fun z => nf (by rw [z]; exact hp))]; exact e
  · rw [upd_ne (fun z => nf (by rw [z]; exact hp))]; exact e
  · rw [upd_ne (fun z => by rw [z, oat.hid p hp] at e; cases e)]; exact E.sub b x e
end
/-- the cells of a running song, as the base has them -/
theorem EnvR.cells {K : KW} {F : Fr} {H V : Hp} {σ : St} {ρ : Rho} (E : EnvR K F H V σ ρ) {i : Nat} {o : Ob} {a : Addr} (e : ρ[i]? = some (.ob o)) (h1 : σ[i]? = some (some (.ref a))) : ∃ c, ObIs K.k F.H0 a c ∧ ObIs K.k H a c ∧ ObRep K V c o := by
  obtain ⟨a1, q1, _, oat⟩ := E.ob.at_ i o e
  rw [h1] at q1
  cases q1
  obtain ⟨c, ic0, rc⟩ := oat.get
  exact ⟨c, ic0, ic0.keep fun b u f e => E.ext.h b u e (by obtain ⟨y, e2, n, _⟩ := ic0.cell f; rw [e] at e2; cases e2; exact n), rc.mono E.ext.v⟩
end DL
set_option Elab.async false
set_option linter.all false
set_option maxRecDepth 100000
set_option maxHeartbeats 2000000
namespace DL
open PySem PySem.Spec PyProof.Rows L2
variable [TabCtx]
theorem EnvI.setSh {K : KW} {G : Fr} {H V : Hp} {σ : St} {ρ : Rho} (E : EnvI K G H V σ ρ) {i : Nat} {v : L2.V} {d : PyData} (r : Rep K V v d) (hl : i ≠ G.ls ∨ G.lent = none) : EnvI K G H V (σ.set i (some v)) (ρ.set i (.sh d)) := by
  obtain ⟨H0, V0, obs, E, ok⟩ := E
  exact ⟨H0, V0, obs, E.setSh r hl, ok⟩
theorem EnvI.cells {K : KW} {G : Fr} {H V : Hp} {σ : St} {ρ : Rho} (E : EnvI K G H V σ ρ) {i : Nat} {o : Ob} (e : ρ[i]? = some (.ob o)) : ∃ a c, σ[i]? = some (some (.ref a)) ∧ ObIs K.k H a c ∧ ObRep K V c o ∧ ∀ b, Foot H a b → V b = none := by
  obtain ⟨a, h1, oat, _⟩ := E.at_ e
  obtain ⟨c, ic, rc⟩ := oat.get
  exact ⟨a, c, h1, ic, rc, oat.hid⟩
end DL
set_option Elab.async false
set_option linter.all false
set_option maxRecDepth 100000
set_option maxHeartbeats 2000000
namespace DL
open PySem PySem.Spec PyProof.Rows L2
theorem updN {H : Hp} {q p : Addr} {o : HO} (h : upd H q o p = none) : p ≠ q ∧ H p = none := by
  by_cases e : p = q
  · rw [e, upd_same] at h; cases h
  · rw [upd_ne e] at h; exact ⟨e, h⟩
theorem lenP (f : Str) (v : L2.V) : ∀ {m : Nat} {fs : List (Str × L2.V)}, fs.length ≤ m → (putF f v fs).length ≤ m + 1
  | m, [], _ => Nat.succ_le_succ (Nat.zero_le m)
  | m, (g, x) :: r, h => by
    unfold putF
    rw [List.length_cons] at h
    split
    · rw [List.length_cons]; omega
    · rw [List.length_cons]
      cases m with
      | zero => omega
      | succ m => have := lenP f v (m := m) (fs := r) (by omega); omega
def fs6 (p1 p2 p3 p4 : Addr) (vc vs : L2.V) : List (Str × L2.V) := putF "past" (.ref p4) (putF "deeds" (.ref p3) (putF "sung" (.ref p2) (putF "stand" vs (putF "crew" vc (putF "first" (.ref p1) [])))))
structure Born (H Hf : Hp) (a C dx : Addr) (vc vs : L2.V) (p1 p2 p3 p4 : Addr) : Prop where
  e1 : H p1 = none
  e2 : H p2 = none
  e3 : H p3 = none
  e4 : H p4 = none
  n12 : p2 ≠ p1
  n13 : p3 ≠ p1
  n14 : p4 ≠ p1
  n23 : p3 ≠ p2
  n24 : p4 ≠ p2
  n34 : p4 ≠ p3
  ea : Hf a = some (.ins C dx (fs6 p1 p2 p3 p4 vc vs))
  g1 : Hf p1 = some (.tup [vc, vs])
  g2 : Hf p2 = some (.lst [])
  g3 : Hf p3 = some (.lst [])
  g4 : Hf p4 = some (.lst [])
  far : ∀ b, b ≠ a → b ≠ p1 → b ≠ p2 → b ≠ p3 → b ≠ p4 → Hf b = H b
def sBorn (C : Addr) : TS := fun D σ H => ∃ a dx vc vs, σ[0]? = some (some (.ref a)) ∧ σ[1]? = some (some vc) ∧ σ[2]? = some (some vs) ∧ H a = some (.ins C dx []) ∧ ∀ p1 p2 p3 p4 Hf, Born H Hf a C dx vc vs p1 p2 p3 p4 → D.nx σ Hf
variable [TabCtx]
section
variable {X : Cx} {x y z : Str} {r1 r2 r3 r4 r5 r6 r7 r8 r9 u1 u2 u3 u4 u5 u6 u7 u8 u9 w1 w2 w3 w4 w5 w6 w7 w8 w9 : Pos} {k0 : Nat}
theorem pss_born (RK : RunK X.K) (hx : X.N[0]? = some x := by rfl) (hy : X.N[1]? = some y := by rfl) (hz : X.N[2]? = some z := by rfl)
    (vx : Vis X.env.scope x := by first | exact Or.inl rfl | exact Or.inr (Or.inl rfl) | exact Or.inr (Or.inr rfl)) (vy : Vis X.env.scope y := by first | exact Or.inl rfl | exact Or.inr (Or.inl rfl) | exact Or.inr (Or.inr rfl)) (vz : Vis X.env.scope z := by first | exact Or.inl rfl | exact Or.inr (Or.inl rfl) | exact Or.inr (Or.inr rfl))
    (dx : (x == ("__debug__" : Str)) = false := by decide) (cx : (x == ("__classdict__" : Str)) = false := by decide) (dy : (y == ("__debug__" : Str)) = false := by decide) (cy : (y == ("__classdict__" : Str)) = false := by decide) (dz : (z == ("__debug__" : Str)) = false := by decide) (cz : (z == ("__classdict__" : Str)) = false := by decide)
    (st1 : starEach [.Name y r1, .Name z r2] X.env = (false, eval (.Name y r1) X.env) :: starEach [.Name z r2] X.env := by rfl) (st2 : starEach [.Name z r2] X.env = (false, eval (.Name z r2) X.env) :: starEach [] X.env := by rfl)
    (s1 : swapsWith (.Tuple [.Name y r1, .Name z r2] k0 r3) (some (.Attribute (.Name x r4) "first" r5)) r6.line X.env = pure false := by rfl)
    (s2 : swapsWith (.Name y r7) (some (.Attribute (.Name x r8) "crew" r9)) u1.line X.env = pure false := by rfl)
    (s3 : swapsWith (.Name z u2) (some (.Attribute (.Name x u3) "stand" u4)) u5.line X.env = pure false := by rfl)
    (s4 : swapsWith (.List [] u6) (some (.Attribute (.Name x u7) "sung" u8)) u9.line X.env = pure false := by rfl)
    (s5 : swapsWith (.List [] w1) (some (.Attribute (.Name x w2) "deeds" w3)) w4.line X.env = pure false := by rfl)
    (s6 : swapsWith (.List [] w5) (some (.Attribute (.Name x w6) "past" w7)) w8.line X.env = pure false := by rfl) :
    PSs X [.Assign [.Attribute (.Name x r4) "first" r5] (.Tuple [.Name y r1, .Name z r2] k0 r3) r6, .Assign [.Attribute (.Name x r8) "crew" r9] (.Name y r7) u1, .Assign [.Attribute (.Name x u3) "stand" u4] (.Name z u2) u5,
      .Assign [.Attribute (.Name x u7) "sung" u8] (.List [] u6) u9, .Assign [.Attribute (.Name x w2) "deeds" w3] (.List [] w1) w4, .Assign [.Attribute (.Name x w6) "past" w7] (.List [] w5) w8] (sBorn (aRun X.K)) := by
  have vs0 {p : Pos} : PE X (.Name x p) (tVar 0) := pe_var hx vx dx cx
  have vs1 {p : Pos} : PE X (.Name y p) (tVar 1) := pe_var hy vy dy cy
  have vs2 {p : Pos} : PE X (.Name z p) (tVar 2) := pe_var hz vz dz cz
  refine PSs.imp (pss_cons (ps_fld vs0 (pe_tup (pa_cons vs1 (pa_cons vs2 pa_nil st2) st1)) s1) (pss_cons (ps_fld vs0 vs1 s2) (pss_cons (ps_fld vs0 vs2 s3) (pss_cons (ps_fld vs0 (pe_lst pa_nil) s4) (pss_cons (ps_fld vs0 (pe_lst pa_nil) s5) (pss_cons (ps_fld vs0 (pe_lst pa_nil) s6) pss_nil))))))
    fun D σ H ⟨a, dx, vc, vs, q0, q1, q2, ea, k⟩ => ?_
  have fld : ∀ {f : Str}, f ∈ obNames → NoAttr X.K (aRun X.K) f := fun h => RK.no _ h
  refine ⟨vc, q1, vs, q2, by show 2 ≤ sizeLine; decide, fun p1 h1 => ?_⟩
  have a1 : a ≠ p1 := fun e => by rw [← e, ea] at h1; cases h1
  refine ⟨.ref a, q0, a, aRun X.K, dx, [], rfl, by rw [upd_ne a1]; exact ea, RK.cls, fld (by decide), by decide, ?_⟩
  refine ⟨vc, q1, .ref a, q0, a, aRun X.K, dx, _, rfl, upd_same, RK.cls, fld (by decide), Nat.lt_of_le_of_lt (lenP _ _ (fs := []) (m := 0) (Nat.le_refl _)) (by decide), ?_⟩
  refine ⟨vs, q2, .ref a, q0, a, aRun X.K, dx, _, rfl, upd_same, RK.cls, fld (by decide), Nat.lt_of_le_of_lt (lenP _ _ (lenP _ _ (fs := []) (m := 0) (Nat.le_refl _))) (by decide), ?_⟩
  refine ⟨by decide, fun p2 h2 => ?_⟩
  obtain ⟨a2, t2⟩ := updN h2
  obtain ⟨_, t2⟩ := updN t2
  obtain ⟨_, t2⟩ := updN t2
  obtain ⟨b12, t2⟩ := updN t2
  refine ⟨.ref a, q0, a, aRun X.K, dx, _, rfl, by rw [upd_ne a2.symm]; exact upd_same, RK.cls, fld (by decide), Nat.lt_of_le_of_lt (lenP _ _ (lenP _ _ (lenP _ _ (fs := []) (m := 0) (Nat.le_refl _)))) (by decide), ?_⟩
  refine ⟨by decide, fun p3 h3 => ?_⟩
  obtain ⟨a3, t3⟩ := updN h3
  obtain ⟨b23, t3⟩ := updN t3
  obtain ⟨_, t3⟩ := updN t3
  obtain ⟨_, t3⟩ := updN t3
  obtain ⟨_, t3⟩ := updN t3
  obtain ⟨b13, t3⟩ := updN t3
  refine ⟨.ref a, q0, a, aRun X.K, dx, _, rfl, by rw [upd_ne a3.symm]; exact upd_same, RK.cls, fld (by decide), Nat.lt_of_le_of_lt (lenP _ _ (lenP _ _ (lenP _ _ (lenP _ _ (fs := []) (m := 0) (Nat.le_refl _))))) (by decide), ?_⟩
  refine ⟨by decide, fun p4 h4 => ?_⟩
  obtain ⟨a4, t4⟩ := updN h4
  obtain ⟨b34, t4⟩ := updN t4
  obtain ⟨_, t4⟩ := updN t4
  obtain ⟨b24, t4⟩ := updN t4
  obtain ⟨_, t4⟩ := updN t4
  obtain ⟨_, t4⟩ := updN t4
  obtain ⟨_, t4⟩ := updN t4
  obtain ⟨b14, t4⟩ := updN t4
  refine ⟨.ref a, q0, a, aRun X.K, dx, _, rfl, by rw [upd_ne a4.symm]; exact upd_same, RK.cls, fld (by decide), Nat.lt_of_le_of_lt (lenP _ _ (lenP _ _ (lenP _ _ (lenP _ _ (lenP _ _ (fs := []) (m := 0) (Nat.le_refl _)))))) (by decide), ?_⟩
  refine k p1 p2 p3 p4 _ ⟨h1, t2, t3, t4, b12, b13, b14, b23, b24, b34, upd_same, ?_, ?_, ?_, ?_, fun b n0 n1 n2 n3 n4 => ?_⟩
  · rw [upd_ne a1.symm, upd_ne b14.symm, upd_ne a1.symm, upd_ne b13.symm, upd_ne a1.symm, upd_ne b12.symm, upd_ne a1.symm, upd_ne a1.symm, upd_ne a1.symm, upd_same]
  · rw [upd_ne a2, upd_ne b24.symm, upd_ne a2, upd_ne b23.symm, upd_ne a2, upd_same]
  · rw [upd_ne a3, upd_ne b34.symm, upd_ne a3, upd_same]
  · rw [upd_ne a4, upd_same]
  · rw [upd_ne n0, upd_ne n4, upd_ne n0, upd_ne n3, upd_ne n0, upd_ne n2, upd_ne n0, upd_ne n0, upd_ne n0, upd_ne n1]
end
/-- the frame of __init__ -/
abbrev mkNw (H V : Hp) (a : Addr) (E : XK) : Fr := ⟨H, V, some a, fun cls _ H' => E cls none H', 0, fun _ => False⟩
def startN (n : Nat) (ds : List PyData) : Rho := .no :: (ds.map .sh ++ List.replicate (n - 1 - ds.length) .no)
theorem env_nw {K : KW} {V H : Hp} {a : Addr} {E : XK} {vs : List L2.V} {ds : List PyData} (r : RepL K V vs ds) {N : List Str} (hle : vs.length + 1 ≤ N.length) (s : Same V H) (ht : TabV H V) : EnvR K (mkNw H V a E) H V (L2.start N (.ref a :: vs)) (startN N.length ds) := by
  have hl := r.length
  have f : ∀ {i : Nat} {t : Sl}, (startN N.length ds)[i]? = some t → (∃ j d, i = j + 1 ∧ ds[j]? = some d ∧ t = .sh d) ∨ t = .no := fun {i t} h => by
    unfold startN at h
    cases i with
    | zero => exact .inr (Option.some.inj h).symm
    | succ j =>
      rw [List.getElem?_cons_succ] at h
      by_cases hi : j < ds.length
      · rw [List.getElem?_append_left (by simpa using hi), List.getElem?_map] at h
        obtain ⟨d', h1, h2⟩ := Option.map_eq_some_iff.mp h
        exact .inl ⟨j, d', rfl, h1, h2.symm⟩
      · rw [List.getElem?_append_right (by simpa using hi), List.getElem?_replicate] at h
        split at h
        · exact .inr (Option.some.inj h).symm
        · cases h
  refine ⟨?_, Ext.refl s, fun i d h => ?_, fun i d h => ?_, fun i j b d e h1 h2 _ _ => ?_, fun b h => ?_, ht, ⟨fun i p h => ?_, fun i j b p q h1 h2 _ _ => ?_⟩⟩
  · simp only [L2.start, startN, List.length_append, List.length_map, List.length_cons, List.length_replicate, hl]
    omega
  · rcases f h with ⟨j, d', rfl, hj, z⟩ | z
    · cases z
      obtain ⟨v, h3, h4⟩ := r.get j hj
      refine ⟨v, ?_, h4⟩
      unfold L2.start
      have hj' : j < vs.length := (List.getElem?_eq_some_iff.mp h3).1
      rw [List.getElem?_append_left (by simp only [List.length_map, List.length_cons]; omega), List.getElem?_map, List.getElem?_cons_succ, h3]
      rfl
    · cases z
  · rcases f h with ⟨_, _, _, _, z⟩ | z <;> cases z
  · rcases f h1 with ⟨_, _, _, _, z⟩ | z <;> cases z
  · cases h
    rfl
  · rcases f h with ⟨_, _, _, _, z⟩ | z <;> cases z
  · rcases f h1 with ⟨_, _, _, _, z⟩ | z <;> cases z
/-- what a new song is -/
theorem Born.obAt {K : KW} {H V H1 V1 Hf : Hp} {a dx p1 p2 p3 p4 : Addr} {vc vs : L2.V} {c s : PyData} (b : Born H1 Hf a (aRun K.k) dx vc vs p1 p2 p3 p4) (x : Ext H V H1 V1) (ha : H a ≠ none) (hd : H dx ≠ none) (va : V a = none) (vd : V dx = none) (h1a : H1 a = some (.ins (aRun K.k) dx [])) (h1d : H1 dx = some (.own a)) (hne : dx ≠ a) (rc : Rep K V1 vc c) (rs : Rep K V1 vs s) :
    Ext (hide (hide H a) dx) V Hf (upd V1 p1 (.tup [vc, vs])) ∧ ObAt K (upd V1 p1 (.tup [vc, vs])) Hf a ⟨.tuple [c, s], c, s, [], [], []⟩ ∧ ∀ q, Foot Hf a q → q = a ∨ q = dx ∨ H q = none := by
  have v1a : V1 a = none := x.f a va ha
  have v1d : V1 dx = none := x.f dx vd hd
  have nz : ∀ {q : Addr}, H1 q = none → H q = none ∧ V1 q = none := fun {q} e => by
    refine ⟨?_, ?_⟩
    · cases e2 : H q with
      | none => rfl
      | some y => exact absurd e (x.th q (by rw [e2]; exact fun z => nomatch z))
    · cases e2 : V1 q with
      | none => rfl
      | some y => rw [x.s q y e2] at e; cases e
  have ne : ∀ {q q' : Addr} {y : HO}, H1 q = some y → H1 q' = none → q ≠ q' := fun {q q' y} e1 e2 z => by rw [z, e2] at e1; cases e1
  have hh : ∀ {q : Addr} {y : HO}, hide (hide H a) dx q = some y → q ≠ a ∧ q ≠ dx ∧ H q = some y := fun {q y} e => by
    by_cases e1 : q = dx
    · rw [e1, hide_eq] at e; cases e
    · rw [hide_ne e1] at e
      by_cases e2 : q = a
      · rw [e2, hide_eq] at e; cases e
      · rw [hide_ne e2] at e; exact ⟨e2, e1, e⟩
  have hhs : Same (hide (hide H a) dx) H := fun q y e => (hh e).2.2
  have hn : ∀ {q : Addr}, hide (hide H a) dx q ≠ none → q ≠ a ∧ q ≠ dx ∧ H q ≠ none := fun {q} e => by
    cases e2 : hide (hide H a) dx q with
    | none => exact absurd e2 e
    | some y => exact ⟨(hh e2).1, (hh e2).2.1, by rw [(hh e2).2.2]; exact fun z => nomatch z⟩
  have farS : ∀ {q : Addr} {y : HO}, q ≠ a → H1 q = some y → Hf q = some y := fun {q y} n e => by
    rw [b.far q n (ne e b.e1) (ne e b.e2) (ne e b.e3) (ne e b.e4)]; exact e
  have sv : Same V1 (upd V1 p1 (.tup [vc, vs])) := same_new (nz b.e1).2
  have pa : ∀ {q : Addr}, H1 q = none → q ≠ a := fun {q} e => (ne h1a e).symm
  have pd : ∀ {q : Addr}, H1 q = none → q ≠ dx := fun {q} e => (ne h1d e).symm
  have ic : ObIs K.k Hf a ⟨dx, p2, p3, p4, fs6 p1 p2 p3 p4 vc vs, .ref p1, vc, vs, [], [], []⟩ := by
    have look : ∀ g : Str, (fs6 p1 p2 p3 p4 vc vs).lookup g = if g = "past" then some (L2.V.ref p4) else if g = "deeds" then some (.ref p3) else if g = "sung" then some (.ref p2) else if g = "stand" then some vs else if g = "crew" then some vc else if g = "first" then some (.ref p1) else none := fun g => by
      unfold fs6
      rw [lookup_putF, lookup_putF, lookup_putF, lookup_putF, lookup_putF, lookup_putF]
      rfl
    refine ⟨b.ea, farS hne h1d, ?_, ?_, ?_, ?_, ?_, ?_, fun f hf => ?_, Nat.le_trans (lenP _ _ (lenP _ _ (lenP _ _ (lenP _ _ (lenP _ _ (lenP _ _ (fs := []) (m := 0) (Nat.le_refl _))))))) (by decide), b.g2, b.g3, b.g4, b.n23.symm, b.n24.symm, b.n34.symm⟩
    · exact (look _).trans rfl
    · exact (look _).trans rfl
    · exact (look _).trans rfl
    · exact (look _).trans rfl
    · exact (look _).trans rfl
    · exact (look _).trans rfl
    · have n : ∀ g ∈ obNames, f ≠ g := fun g hg z => hf (by rw [z]; exact hg)
      exact (look f).trans (by rw [if_neg (n _ (by decide)), if_neg (n _ (by decide)), if_neg (n _ (by decide)), if_neg (n _ (by decide)), if_neg (n _ (by decide)), if_neg (n _ (by decide))])
  have ft : ∀ q, Foot Hf a q → q = a ∨ q = dx ∨ q = p2 ∨ q = p3 ∨ q = p4 := fun q f => ic.foot.mp f
  refine ⟨⟨fun q y e n => ?_, x.v.trans sv, fun q y e => ?_, fun q e h => ?_, fun q h => ?_, fun t => ?_⟩, ObAt.mk' ic ⟨.tup upd_same (.cons (rc.mono sv) (.cons (rs.mono sv) .nil)), rc.mono sv, rs.mono sv, .nil, .nil, .nil⟩ fun q f => ?_, fun q f => ?_⟩
  · obtain ⟨q1, q2, q3⟩ := hh e
    exact farS q1 (x.h q y q3 n)
  · by_cases e1 : q = p1
    · rw [e1, upd_same] at e; cases e
      rw [e1]; exact b.g1
    · rw [upd_ne e1] at e
      exact farS (fun z => by rw [z, v1a] at e; cases e) (x.s q y e)
  · obtain ⟨q1, q2, q3⟩ := hn h
    rw [upd_ne (fun z => q3 (by rw [z]; exact (nz b.e1).1))]
    exact x.f q e q3
  · obtain ⟨q1, q2, q3⟩ := hn h
    have := x.th q q3
    cases e : H1 q with
    | none => exact absurd e this
    | some y => rw [farS q1 e]; exact fun z => nomatch z
  · intro r hr
    obtain ⟨ps, t1, t2, t3⟩ := x.t (t.ext hhs) r hr
    refine ⟨ps, farS (fun z => by rw [z, h1a] at t1; cases t1) t1, t2, fun pos cv hc => ?_⟩
    obtain ⟨cc, c1, c2⟩ := t3 pos cv hc
    exact ⟨cc, c1, farS (fun z => by rw [z, h1a] at c2; unfold LamX.CodeO at c2; cases c2) c2⟩
  · rcases ft q f with e | e | e | e | e
    · rw [e, upd_ne (pa b.e1).symm]; exact v1a
    · rw [e, upd_ne (pd b.e1).symm]; exact v1d
    · rw [e, upd_ne b.n12]; exact (nz b.e2).2
    · rw [e, upd_ne b.n13]; exact (nz b.e3).2
    · rw [e, upd_ne b.n14]; exact (nz b.e4).2
  · rcases ft q f with e | e | e | e | e
    · exact .inl e
    · exact .inr (.inl e)
    · rw [e]; exact .inr (.inr (nz b.e2).1)
    · rw [e]; exact .inr (.inr (nz b.e3).1)
    · rw [e]; exact .inr (.inr (nz b.e4).1)
/-- what __init__ does -/
def initR (n : Nat) (f1 f2 : SM) (ds : List PyData) : R Ob := if ds.length = 2 then (match f1 (startN n ds) with
  | .nx ρ1 => (match f2 ρ1 with
    | .nx ρ2 => (match (ρ2[1]? : Option Sl), (ρ2[2]? : Option Sl) with
      | some (Sl.sh c), some (Sl.sh s) => .ok ⟨.tuple [c, s], c, s, [], [], []⟩
      | _, _ => .bad)
    | .exc c => .exc c
    | _ => .bad)
  | .exc c => .exc c
  | _ => .bad) else .bad
section
variable {P : Program} {w : World} {K : PySem.W.Frag} {mg : Str → Option Value} {base : Heap} {x q : Str} {params : Arguments} {b1 b2 : Stmt} {rest : List Stmt} {scope : Scope} {fd : FuncData}
theorem tk_nw {N : List Str} {f0 : Addr} {cdv : Value} {A : Around} {outer : List Env} {s : Shared} {H : Hp} {E : XK} {H0 V0 : Hp} {a : Addr} : Tk (cxM P w K mg base N q scope f0 cdv A outer s H E) (mkNw H0 V0 a E) := by
  have t : L2N.Takes (cxM P w K mg base N q scope f0 cdv A outer s H E) (fun cls d _ H' => E cls d H') := L2N.takes_of rfl rfl rfl rfl
  refine t.imp fun c d σ H' ⟨h1, h2⟩ => ?_
  rw [h1]
  exact h2
theorem fn_mkN {N : List Str} {k : Nat} {f1 f2 : SM} (D : FunD K x q params (b1 :: b2 :: rest) scope [] [] (aMet K "__init__") fd) (S : FnScope N ["self", "choir", "standing"] scope)
    (hbd : ∀ (kV doc pm : Value) (an : Option Addr) (cdv ct : Value) (us : List Value), us.length = (["self", "choir", "standing"] : List Str).length → bindArgs (PySem.W.fnOf x q params (b1 :: b2 :: rest) scope .none kV doc pm an cdv ct) ⟨us, []⟩ = pure ((["self", "choir", "standing"] : List Str).zip us))
    (hps : 3 ≤ N.length)
    (h1 : ∀ (cdv : Value) (A : Around) (outer : List Env) (s : Shared) (H V : Hp) (a : Addr) (E : XK), Room k (A.deeper (envOfC q scope s.heap.objs.size (aMet K "__init__") cdv)) → PMS (cxM P w K mg base N q scope (aMet K "__init__") cdv A outer s H E) (mkNw H V a E) b1 f1)
    (h2 : ∀ (cdv : Value) (A : Around) (outer : List Env) (s : Shared) (H V : Hp) (a : Addr) (E : XK), Room k (A.deeper (envOfC q scope s.heap.objs.size (aMet K "__init__") cdv)) → PMS (cxM P w K mg base N q scope (aMet K "__init__") cdv A outer s H E) (mkNw H V a E) b2 f2)
    (h3 : ∀ (cdv : Value) (A : Around) (outer : List Env) (s : Shared) (H : Hp) (E : XK), PSs (cxM P w K mg base N q scope (aMet K "__init__") cdv A outer s H E) rest (sBorn (aRun K))) :
    FnN P w K mg base (k + 1) (initR N.length f1 f2) := by
  refine ⟨fd, D.ok (CX := L2N.CX P w) S (fun vs H Q E h => h.1) fun cdv A outer s H vs Q E hr h => ?_, D.bindsN hbd, fun ds h => ?_⟩
  · obtain ⟨hl, a, dx, vs', V, ds, ht, rfl, ea, ed, hne, va, vd, sv, r, g⟩ := h
    rw [List.length_cons] at hl
    refine ⟨_, pss_cons (h1 cdv A outer s H V a E hr) (pss_cons (h2 cdv A outer s H V a E hr) (h3 cdv A outer s H E)), V, startN N.length ds, env_nw r (by omega) sv ht, ?_⟩
    unfold initR at g
    rw [if_pos (by rw [← r.length]; omega)] at g
    cases e1 : f1 (startN N.length ds) with
    | rt d ρ' => rw [e1] at g; exact False.elim g
    | rf d ρ' => rw [e1] at g; exact False.elim g
    | bk ρ' => rw [e1] at g; exact False.elim g
    | ct ρ' => rw [e1] at g; exact False.elim g
    | bad => rw [e1] at g; exact False.elim g
    | exc c => rw [e1] at g; exact fun σ' H' V' x => g H' V' x
    | nx ρ1 =>
      rw [e1] at g
      intro σ1 H1 V1 E1 v1
      refine ⟨V1, ρ1, E1, ?_⟩
      dsimp only at g
      cases e2 : f2 ρ1 with
      | rt d ρ' => rw [e2] at g; exact False.elim g
      | rf d ρ' => rw [e2] at g; exact False.elim g
      | bk ρ' => rw [e2] at g; exact False.elim g
      | ct ρ' => rw [e2] at g; exact False.elim g
      | bad => rw [e2] at g; exact False.elim g
      | exc c => rw [e2] at g; exact fun σ' H' V' x => g H' V' x
      | nx ρ2 =>
        rw [e2] at g
        intro σ2 H2 V2 E2 v2
        dsimp only at g
        cases q1 : ρ2[1]? with
        | none => rw [q1] at g; exact False.elim g
        | some t1 =>
          rw [q1] at g
          cases t1 with
          | no => exact False.elim g
          | ow _ => exact False.elim g
          | ob _ => exact False.elim g
          | sh c =>
            cases q2 : ρ2[2]? with
            | none => rw [q2] at g; exact False.elim g
            | some t2 =>
              rw [q2] at g
              cases t2 with
              | no => exact False.elim g
              | ow _ => exact False.elim g
              | ob _ => exact False.elim g
              | sh sd =>
                obtain ⟨vc, y1, z1⟩ := E2.sh 1 c q1
                obtain ⟨vss, y2, z2⟩ := E2.sh 2 sd q2
                have ea2 := E2.ext.h a _ ea (fun _ z => nomatch z)
                have ed2 := E2.ext.h dx _ ed (fun _ z => nomatch z)
                refine ⟨a, dx, vc, vss, E2.lent a rfl, y1, y2, ea2, fun p1 p2 p3 p4 Hf bn => ?_⟩
                obtain ⟨w1, w2, w3⟩ := bn.obAt (K := ⟨K, w⟩) (H := H) (V := V) E2.ext (by rw [ea]; exact fun z => nomatch z) (by rw [ed]; exact fun z => nomatch z) va vd ea2 ed2 hne z1 z2
                exact g Hf _ w1 w2 w3
  · unfold initR at h
    by_cases hl : ds.length = 2
    · exact hl
    · rw [if_neg hl] at h; exact absurd rfl h
end
end DL
set_option Elab.async false
set_option linter.all false
set_option maxRecDepth 100000
set_option maxHeartbeats 2000000
namespace DL
open PySem PySem.Spec PyProof.Rows L2
variable [TabCtx]
theorem EnvI.len {K : KW} {G : Fr} {H V : Hp} {σ : St} {ρ : Rho} (E : EnvI K G H V σ ρ) : σ.length = ρ.length := by
  obtain ⟨H0, V0, obs, E, ok⟩ := E
  exact E.len
end DL
set_option Elab.async false
set_option linter.all false
set_option maxRecDepth 100000
set_option maxHeartbeats 2000000
namespace DL
open PySem PySem.Spec PyProof.Rows L2
end DL
set_option Elab.async false
set_option linter.all false
set_option maxRecDepth 100000
set_option maxHeartbeats 2000000
namespace DL
open PySem PySem.Spec PyProof.Rows L2
end DL
set_option Elab.async false
set_option linter.all false
set_option maxRecDepth 100000
set_option maxHeartbeats 2000000
namespace DL
open PySem PySem.Spec PyProof.Rows L2
end DL
set_option Elab.async false
set_option linter.all false
set_option maxRecDepth 100000
set_option maxHeartbeats 4000000
namespace DL
open PySem PySem.Spec PyProof.Rows L2
end DL
set_option Elab.async false
set_option linter.all false
set_option maxRecDepth 100000
set_option maxHeartbeats 4000000
namespace DL
open PySem PySem.Spec PyProof.Rows L2
end DL
set_option Elab.async false
set_option linter.all false
set_option maxRecDepth 100000
set_option maxHeartbeats 4000000
namespace DL
open PySem PySem.Spec PyProof.Rows L2
end DL
set_option Elab.async false
set_option linter.all false
set_option maxRecDepth 100000
set_option maxHeartbeats 4000000
namespace DL
open PySem PySem.Spec PyProof.Rows L2
/-- what is tracked ahead of the law: empty tables of code objects, the script where the text does not know it -/
noncomputable def hp0 (T : List Addr) (a : Addr) (o : Obj) (xs : List L2.V) (b : Bool) : Hp := fun c => if c ∈ T then some (.tbl #[]) else if c = a ∧ b = true then some (.frz o (.lst xs)) else none
end DL
set_option Elab.async false
set_option linter.all false
set_option maxRecDepth 100000
set_option maxHeartbeats 4000000
namespace DL
open PySem PySem.Spec PyProof.Rows L2
end DL
set_option Elab.async false
set_option linter.all false
set_option maxRecDepth 100000
set_option maxHeartbeats 4000000
namespace DL
open PySem PySem.Spec PyProof.Rows L2
variable [TabCtx]
/-- what is wanted behind a block that hands back the song in slot i -/
def GoalSR (K : KW) (G : Fr) (V : Hp) (i : Nat) (o : O) (D : Ends) : Prop := match o with
  | .nx ρ' => ∃ ob, ρ'[i]? = some (.ob ob) ∧ ∀ a σ' H' V', EnvI K G H' V' σ' ρ' → Same V V' → ObAt K V' H' a ob → (∀ b, Foot H' a b → G.H0 b = none) → D.rt (.ref a) H'
  | .exc c => ∀ σ' H' V', Ext G.H0 G.V0 H' V' → G.W (.ref (He.ga K c)) σ' H'
  | _ => False
theorem GoalSR.mono {K : KW} {G : Fr} {V V1 : Hp} {i : Nat} {o : O} {D : Ends} (v : Same V V1) (g : GoalSR K G V i o D) : GoalSR K G V1 i o D := by
  cases o with
  | nx ρ' => obtain ⟨ob, h, g⟩ := g; exact ⟨ob, h, fun a σ' H' V' E s => g a σ' H' V' E (v.trans s)⟩
  | exc c => exact g
  | rt d ρ' => exact g
  | rf d ρ' => exact g
  | bk ρ' => exact g
  | ct ρ' => exact g
  | bad => exact g
end DL
set_option Elab.async false
set_option linter.all false
set_option maxRecDepth 100000
set_option maxHeartbeats 4000000
namespace DL
open PySem PySem.Spec PyProof.Rows L2
end DL
set_option Elab.async false
set_option linter.all false
set_option maxRecDepth 100000
set_option maxHeartbeats 4000000
namespace PySem.Froz
open PySem PyProof.Rows
section
variable {P : Program} {w : World} {A : Around} {E : Value → Shared → Prop} {s : Shared}
/-- a text that is there already -/
theorem add_there {a : Addr} {T : String} {D : SD} {l : List Str} {k : Str} {u : Tok} {R : Bool → Shared → Prop} (hob : s.heap.get? a = some (sObj T D)) (F : TxOk P w D l) (hkl : k ∈ l) (hfew : l.length < scanBound) (fin : R false s) :
    wpAny (model P w) A (setAddHashed a (.str k u) (hashStr w k)) R E s := by
  obtain ⟨es, ep, t⟩ := D
  have dd : (sObj T (es, ep, t)).data = .set es ep t := rfl
  have ff : t.fits es.size = true := F.fit
  have ee : ElemsOf (strKind P w) es.toList := F.el
  have zz : es.size = l.length := F.sz
  have kk : (strKind P w).is k (.str k u) = true := is_str k u
  have found : ∃ j, List.findIdx? (fun e => (strKind P w).is k e.2) es.toList = some j := by
    obtain ⟨e, he, hq⟩ := (F.mem k).mp hkl
    cases hr : List.findIdx? (fun e => (strKind P w).is k e.2) es.toList with
    | some j => exact ⟨j, rfl⟩
    | none =>
      have := List.findIdx?_eq_none_iff.mp hr e he
      rw [hq] at this; cases this
  obtain ⟨j, hj⟩ := found
  unfold setAddHashed setAddHashedIn
  refine wpAny_holding (wpAny_bind (wpAny_setState_of hob dd ff ?_))
  dsimp only
  rw [byScan_of rfl (by omega) ee]
  simp only [↓reduceIte]
  unfold setAddByScan
  refine wpAny_bind (wpAny_bind (wpAny_rule (wpAny_bind (wpAny_setScan_of (knd := strKind P w) (k := k) kk hob dd ff ee ?_))))
  rw [hj]
  dsimp only
  exact wpAny_pure (wpAny_pure fin)
end
end PySem.Froz
set_option Elab.async false
set_option linter.all false
set_option maxRecDepth 100000
set_option maxHeartbeats 4000000
namespace L2
open PySem PySem.Spec PyProof.Rows
section
variable {P : Program} {w : World} {A : Around} {E : Value → Shared → Prop} {s : Shared}
/-- one value put in: what is promised of the set goes on -/
def PutsIn (P : Program) (w : World) (A : Around) (S : Addr) (Pv : Nat → Value → Prop) (Mid : Nat → Heap → Prop) : Prop :=
  ∀ (i : Nat) (v : Value) (s : Shared) (E : Value → Shared → Prop) (Q : Bool → Shared → Prop), Pv i v → Mid i s.heap → (∀ b h' tk, s.toks ≤ tk → Heap.SameBut S s.heap h' → Mid (i + 1) h' → Q b { s with heap := h', toks := tk }) → wpAny (model P w) A (setAdd S v) Q E s
theorem puts_loop {I : Addr} {fp wr : List Addr} {G : Array GenState → Array GenState → Prop} {n : Nat} {Pv : Nat → Value → Prop} {St : Nat → Shared → Prop} {R : Result → Shared → Prop} {Mid : Nat → Heap → Prop}
    (W : WalksS P w A.in1 I fp wr G n Pv St) (S : Addr) (nS : S ∉ fp) (keep : ∀ i h h', Mid i h → (∀ b o, b ∉ wr → h.get? b = some o → h'.get? b = some o) → Mid i h') (put : PutsIn P w A.in1 S Pv Mid) :
    ∀ (k i : Nat) (s : Shared), n - i = k → i ≤ n → St i s → Mid i s.heap → (∀ s', Moved (S :: wr) G s s' → Mid n s'.heap → R (.ok (.ret .none)) s') →
      codeAny (model P w) A (.builtin "set.update.loop" ⟨[.ref S, .ref I], []⟩) R s := by
  have inw : ∀ b ∈ wr, b ∈ S :: wr := fun b hb => List.mem_cons_of_mem _ hb
  intro k
  induction k with
  | zero =>
    intro i s e hi st md fin
    obtain rfl : i = n := by omega
    refine codeAny_builtin F.entry_set_update_loop ?_
    rw [Around.under_plainId F.plain_set_update_loop _]
    show wpAny _ A.in1 (pyNext (.ref I) >>= _) _ _ s
    refine wpAny_bind (W.done s _ _ st fun s1 mv => ?_)
    exact wpAny_pure (fin s1 (mv.mono inw) (keep _ _ _ md fun b o hb e => mv.heap b o hb e))
  | succ k ih =>
    intro i s e hi st md fin
    have lt : i < n := by omega
    refine codeAny_builtin F.entry_set_update_loop ?_
    rw [Around.under_plainId F.plain_set_update_loop _]
    show wpAny _ A.in1 (pyNext (.ref I) >>= _) _ _ s
    refine wpAny_bind (W.item i s _ _ lt st fun v s1 pv st1 mv => ?_)
    have md1 := keep _ _ _ md fun b o hb e => mv.heap b o hb e
    show wpAny _ A.in1 (holding [v] (setAdd S v) >>= _) _ _ s1
    refine wpAny_bind (wpAny_holding (put i v s1 _ _ pv md1 fun b h2 tk htk sb md2 => ?_))
    refine wpAny_pure ⟨plainId_quiet F.plain_set_update_loop _, ih (i + 1) _ (by omega) lt (W.frame _ s1 _ _ st1 htk fun c hc o e => ?_) md2 fun s3 mv3 md3 => ?_⟩
    · rw [sb.2 c (fun z : c = S => nS (by rw [← z]; exact hc))]; exact e
    · refine fin s3 (Moved.trans W.gtrans ((mv.mono inw).then_heap htk fun c o hc e => ?_) mv3) md3
      rw [sb.2 c (fun z : c = S => hc (by rw [z]; exact List.mem_cons_self))]; exact e
end
end L2
set_option Elab.async false
set_option linter.all false
set_option maxRecDepth 100000
set_option maxHeartbeats 4000000
namespace L2
open PySem PySem.Spec PyProof.Rows
section
variable {P : Program} {w : World} {A : Around} {E : Value → Shared → Prop} {s : Shared}
set_option maxRecDepth 100000 in
set_option maxHeartbeats 3200000 in
theorem call_set_lst {b0 : Addr} {vs : Array Value} {R : Value → Shared → Prop} {Mid : Nat → Heap → Prop} (h0 : A.handled = none) (hv : s.heap.IsList b0 vs)
    (put : ∀ A' : Around, A'.units ≤ A.units + 5 → PutsIn P w A' s.heap.objs.size (fun i v => vs[i]? = some v) Mid) (keep : ∀ i h h', Mid i h → (∀ b o, b ≠ s.heap.objs.size + 1 → h.get? b = some o → h'.get? b = some o) → Mid i h')
    (start : ∀ h', h'.get? s.heap.objs.size = some (set00 w) → (∀ b o, s.heap.get? b = some o → h'.get? b = some o) → Mid 0 h')
    (fin : ∀ (h1 : Heap) (tk : Nat), Mid vs.size h1 → (∀ b o, s.heap.get? b = some o → h1.get? b = some o) → R (.ref s.heap.objs.size) { s with heap := h1, toks := tk }) :
    wpAny (model P w) A (call (.type "set") [.ref b0]) R E s := by
  obtain ⟨mr1, mr2, hmro⟩ := F.called_set.mro
  have hMd := F.called_set.made
  have hSb := F.called_set.sub
  refine wpAny_call (codeAny_of_tree ?_)
  show wpAny _ _ (callAny (.type "set") _) _ _ _
  refine wpAny_pure ⟨Code.quiet_builtin _ (by decide +kernel), codeAny_builtin F.entry_type_call ?_⟩
  rw [Around.under_plain (weight_type_call_type "set" [.ref b0] []) rfl]
  have hA1 := F.called_set.notType
  have hA2 := F.called_set.canCreate
  have hA3 := F.typeCall_set_1 (.ref b0)
  repeat (any_goals (first | assumption | wp_step))
  refine codeAny_mono (code_set_led1 (.ref b0) (E := E) (Q₁ := fun ob t1 => ob = .ref s.heap.objs.size ∧ t1 = { s with heap := s.heap.push (set00 w) }) ⟨rfl, rfl⟩) fun r t1 hr => ?_
  cases r with
  | error e => exact hr
  | ok fl =>
    cases fl with
    | ret ob =>
      obtain ⟨rfl, rfl⟩ := hr
      have gS : (s.heap.push (set00 w)).get? s.heap.objs.size = some (set00 w) := Heap.get?_push_size _ rfl
      have tS : Shared.TypeIs { s with heap := s.heap.push (set00 w) } (.ref s.heap.objs.size) "set" := ⟨_, gS, rfl⟩
      have iL := F.called_set.init.lookup
      have iB := F.called_set.init.bind (.ref s.heap.objs.size)
      repeat (any_goals (first | assumption | wp_step))
      refine codeAny_mono (codeAny_call_builtin (R := wants (fun r t2 => r = .none ∧ ∃ h1 tk, t2 = { s with heap := h1, toks := tk } ∧ Mid vs.size h1 ∧
          (∀ b o, s.heap.get? b = some o → h1.get? b = some o)) E) F.called_set.init.plain F.entry_set_init (check_set_init_1 tS ?_)) fun r2 t2 hr2 => ?_
      · obtain ⟨o0, ho0, hc0, n0, hd0⟩ := hv
        obtain ⟨oc, od, oda, osl⟩ := o0
        simp only at hc0 hd0
        subst hc0; subst hd0
        have ho1 : (s.heap.push (set00 w)).get? b0 = some { cls := .type "list", dict := od, data := .seq vs n0, slots := osl } := Heap.get?_push_of_some _ ho0
        have sb1 := F.sub_list_set
        have sb2 := F.sub_list_frozenset
        have nd1 : (Value.type "list" == Value.type "dict") = false := by decide
        have hv1 : (s.heap.push (set00 w)).IsList b0 vs := ⟨_, ho1, rfl, n0, rfl⟩
        unfold Builtin.«set.__init__» noKeywords Builtin.Frozenset.updateFrom
        generalize hPI : pyIter = PI
        wp_walk
        subst hPI
        refine wpAny_pyIter_list hv1 ?_
        refine wpAny_bind (wpAny_runValue ?_)
        have hlt0 : b0 < s.heap.objs.size := Heap.lt_size ho0
        have hh0 : A.in1.in1.in1.handled = none := by simp [h0]
        have hz0 : (s.heap.push (set00 w)).objs.size = s.heap.objs.size + 1 := Heap.size_push ..
        have hne0 : b0 ≠ (s.heap.push (set00 w)).objs.size := by
          rw [hz0]; exact Nat.ne_of_lt (Nat.lt_succ_of_lt hlt0)
        have hnS : s.heap.objs.size ∉ [(s.heap.push (set00 w)).objs.size, b0] := by
          rw [hz0]; simp only [List.mem_cons, List.mem_singleton, List.not_mem_nil, or_false, not_or]
          exact ⟨Nat.ne_of_lt (Nat.lt_succ_self _), Nat.ne_of_gt hlt0⟩
        refine puts_loop ((Walks.list hh0 _ b0 hne0 vs).toS) s.heap.objs.size hnS
          (fun i h h' md k => keep i h h' md fun b o hb e => k b o (by rw [hz0]; simpa using hb) e) (put _ (by show A.units + 1 + 1 + 1 ≤ A.units + 5; omega)) (vs.size - 0) 0 _ (by omega) (Nat.zero_le _)
          ⟨⟨_, Heap.get?_push_size _ rfl, rfl, rfl⟩, (hv1.push _)⟩ ?hS0 ?hR
        case hS0 =>
          exact start _ (Heap.get?_push_of_some _ gS) (fun b o e => Heap.get?_push_of_some _ (Heap.get?_push_of_some _ e))
        case hR =>
          intro t3 hm hS3
          obtain ⟨h3, g3, d3, tk3, os3⟩ := t3
          have e1 : g3 = s.gens := hm.gens
          have e2 : d3 = s.drawn := hm.drawn
          have e3 : os3 = s.os := hm.os
          subst e1; subst e2; subst e3
          show wpAny _ _ _ _ _ _
          refine wpAny_pure ?_
          show wpAny _ _ (ret Value.none) _ _ _
          refine wpAny_pure ⟨rfl, h3, tk3, rfl, hS3, fun b o e => ?_⟩
          have q0 : b < s.heap.objs.size := Heap.lt_size e
          have q1 : b ≠ s.heap.objs.size := Nat.ne_of_lt q0
          have q2 : b ≠ (s.heap.push (set00 w)).objs.size := by
            rw [hz0]; exact Nat.ne_of_lt (Nat.lt_succ_of_lt q0)
          exact hm.heap b o (by simp only [List.mem_cons, List.mem_singleton, List.not_mem_nil, or_false, not_or]; exact ⟨q1, q2⟩) (Heap.get?_push_of_some _ (Heap.get?_push_of_some _ e))
      · cases r2 with
        | error e => exact hr2
        | ok fl2 =>
          cases fl2 with
          | ret r =>
            obtain ⟨rfl, h3, tk3, rfl, hS3, hk3⟩ := hr2
            repeat (any_goals (first | assumption | wp_step))
            exact fin _ _ hS3 hk3
          | _ => exact hr2.elim
    | _ => exact hr.elim
set_option maxRecDepth 100000 in
set_option maxHeartbeats 3200000 in
theorem call_set_tpl {b0 : Addr} {vs : Array Value} {R : Value → Shared → Prop} {Mid : Nat → Heap → Prop} (h0 : A.handled = none) (hv : s.heap.IsTuple b0 vs)
    (put : ∀ A' : Around, A'.units ≤ A.units + 5 → PutsIn P w A' s.heap.objs.size (fun i v => vs[i]? = some v) Mid) (keep : ∀ i h h', Mid i h → (∀ b o, b ≠ s.heap.objs.size + 1 → h.get? b = some o → h'.get? b = some o) → Mid i h')
    (start : ∀ h', h'.get? s.heap.objs.size = some (set00 w) → (∀ b o, s.heap.get? b = some o → h'.get? b = some o) → Mid 0 h')
    (fin : ∀ (h1 : Heap) (tk : Nat), Mid vs.size h1 → (∀ b o, s.heap.get? b = some o → h1.get? b = some o) → R (.ref s.heap.objs.size) { s with heap := h1, toks := tk }) :
    wpAny (model P w) A (call (.type "set") [.ref b0]) R E s := by
  obtain ⟨mr1, mr2, hmro⟩ := F.called_set.mro
  have hMd := F.called_set.made
  have hSb := F.called_set.sub
  refine wpAny_call (codeAny_of_tree ?_)
  show wpAny _ _ (callAny (.type "set") _) _ _ _
  refine wpAny_pure ⟨Code.quiet_builtin _ (by decide +kernel), codeAny_builtin F.entry_type_call ?_⟩
  rw [Around.under_plain (weight_type_call_type "set" [.ref b0] []) rfl]
  have hA1 := F.called_set.notType
  have hA2 := F.called_set.canCreate
  have hA3 := F.typeCall_set_1 (.ref b0)
  repeat (any_goals (first | assumption | wp_step))
  refine codeAny_mono (code_set_led1 (.ref b0) (E := E) (Q₁ := fun ob t1 => ob = .ref s.heap.objs.size ∧ t1 = { s with heap := s.heap.push (set00 w) }) ⟨rfl, rfl⟩) fun r t1 hr => ?_
  cases r with
  | error e => exact hr
  | ok fl =>
    cases fl with
    | ret ob =>
      obtain ⟨rfl, rfl⟩ := hr
      have gS : (s.heap.push (set00 w)).get? s.heap.objs.size = some (set00 w) := Heap.get?_push_size _ rfl
      have tS : Shared.TypeIs { s with heap := s.heap.push (set00 w) } (.ref s.heap.objs.size) "set" := ⟨_, gS, rfl⟩
      have iL := F.called_set.init.lookup
      have iB := F.called_set.init.bind (.ref s.heap.objs.size)
      repeat (any_goals (first | assumption | wp_step))
      refine codeAny_mono (codeAny_call_builtin (R := wants (fun r t2 => r = .none ∧ ∃ h1 tk, t2 = { s with heap := h1, toks := tk } ∧ Mid vs.size h1 ∧
          (∀ b o, s.heap.get? b = some o → h1.get? b = some o)) E) F.called_set.init.plain F.entry_set_init (check_set_init_1 tS ?_)) fun r2 t2 hr2 => ?_
      · obtain ⟨o0, ho0, hc0, n0, hd0⟩ := hv
        obtain ⟨oc, od, oda, osl⟩ := o0
        simp only at hc0 hd0
        subst hc0; subst hd0
        have ho1 : (s.heap.push (set00 w)).get? b0 = some { cls := .type "tuple", dict := od, data := .seq vs n0, slots := osl } := Heap.get?_push_of_some _ ho0
        have sb1 := F.sub_tuple_set
        have sb2 := F.sub_tuple_frozenset
        have nd1 : (Value.type "tuple" == Value.type "dict") = false := by decide
        have hv1 : (s.heap.push (set00 w)).IsTuple b0 vs := ⟨_, ho1, rfl, n0, rfl⟩
        unfold Builtin.«set.__init__» noKeywords Builtin.Frozenset.updateFrom
        generalize hPI : pyIter = PI
        wp_walk
        subst hPI
        refine wpAny_pyIter_tuple hv1 ?_
        refine wpAny_bind (wpAny_runValue ?_)
        have hlt0 : b0 < s.heap.objs.size := Heap.lt_size ho0
        have hh0 : A.in1.in1.in1.handled = none := by simp [h0]
        have hz0 : (s.heap.push (set00 w)).objs.size = s.heap.objs.size + 1 := Heap.size_push ..
        have hne0 : b0 ≠ (s.heap.push (set00 w)).objs.size := by
          rw [hz0]; exact Nat.ne_of_lt (Nat.lt_succ_of_lt hlt0)
        have hnS : s.heap.objs.size ∉ [(s.heap.push (set00 w)).objs.size, b0] := by
          rw [hz0]; simp only [List.mem_cons, List.mem_singleton, List.not_mem_nil, or_false, not_or]
          exact ⟨Nat.ne_of_lt (Nat.lt_succ_self _), Nat.ne_of_gt hlt0⟩
        refine puts_loop ((Walks.tuple hh0 _ b0 hne0 vs).toS) s.heap.objs.size hnS
          (fun i h h' md k => keep i h h' md fun b o hb e => k b o (by rw [hz0]; simpa using hb) e) (put _ (by show A.units + 1 + 1 + 1 ≤ A.units + 5; omega)) (vs.size - 0) 0 _ (by omega) (Nat.zero_le _)
          ⟨⟨_, Heap.get?_push_size _ rfl, rfl, rfl⟩, (hv1.push _)⟩ ?hS0 ?hR
        case hS0 =>
          exact start _ (Heap.get?_push_of_some _ gS) (fun b o e => Heap.get?_push_of_some _ (Heap.get?_push_of_some _ e))
        case hR =>
          intro t3 hm hS3
          obtain ⟨h3, g3, d3, tk3, os3⟩ := t3
          have e1 : g3 = s.gens := hm.gens
          have e2 : d3 = s.drawn := hm.drawn
          have e3 : os3 = s.os := hm.os
          subst e1; subst e2; subst e3
          show wpAny _ _ _ _ _ _
          refine wpAny_pure ?_
          show wpAny _ _ (ret Value.none) _ _ _
          refine wpAny_pure ⟨rfl, h3, tk3, rfl, hS3, fun b o e => ?_⟩
          have q0 : b < s.heap.objs.size := Heap.lt_size e
          have q1 : b ≠ s.heap.objs.size := Nat.ne_of_lt q0
          have q2 : b ≠ (s.heap.push (set00 w)).objs.size := by
            rw [hz0]; exact Nat.ne_of_lt (Nat.lt_succ_of_lt q0)
          exact hm.heap b o (by simp only [List.mem_cons, List.mem_singleton, List.not_mem_nil, or_false, not_or]; exact ⟨q1, q2⟩) (Heap.get?_push_of_some _ (Heap.get?_push_of_some _ e))
      · cases r2 with
        | error e => exact hr2
        | ok fl2 =>
          cases fl2 with
          | ret r =>
            obtain ⟨rfl, h3, tk3, rfl, hS3, hk3⟩ := hr2
            repeat (any_goals (first | assumption | wp_step))
            exact fin _ _ hS3 hk3
          | _ => exact hr2.elim
    | _ => exact hr.elim
end
end L2
set_option Elab.async false
set_option linter.all false
set_option maxRecDepth 100000
set_option maxHeartbeats 4000000
namespace L2
open PySem PySem.Spec PyProof.Rows PySem.Froz
section
variable {P : Program} {w : World}
theorem addTx_tab {hs : Int} {v : Value} {D : SD} (r : Ris D.2.2.place.toList) : Ris (addTx hs v D).2.2.place.toList ∧ (addTx hs v D).2.2.led = D.2.2.led := by
  obtain ⟨es, ep, t⟩ := D
  have r1 := layNew_ris t es hs v r
  have l1 := layNew_led t es hs v
  unfold addTx tailTx
  dsimp only
  generalize layNew t es hs v = L at r1 l1 ⊢
  have e2 : (if L.2.1.plain = true then { L.2.1 with plain := false } else L.2.1).place = L.2.1.place ∧ (if L.2.1.plain = true then { L.2.1 with plain := false } else L.2.1).led = L.2.1.led := by
    by_cases c : L.2.1.plain = true
    · rw [if_pos c]; exact ⟨rfl, rfl⟩
    · rw [if_neg c]; exact ⟨rfl, rfl⟩
  generalize (if L.2.1.plain = true then { L.2.1 with plain := false } else L.2.1) = t2 at e2 ⊢
  by_cases c : (!L.2.2.1 && t2.tooFull) = true
  · rw [if_pos c]
    exact ⟨relayAll_ris t2 L.1 _, (relayAll_led t2 L.1 _).trans (e2.2.trans l1)⟩
  · rw [if_neg c]
    exact ⟨by rw [e2.1]; exact r1, e2.2.trans l1⟩
/-- what is known of the set when i texts were put in -/
def MidX (P : Program) (w : World) (S : Addr) (ks : List Str) (i : Nat) (h : Heap) : Prop := ∃ D l, h.get? S = some (sObj "set" D) ∧ TxOk P w D l ∧ l.Nodup ∧ (∀ k, k ∈ l ↔ k ∈ ks.take i) ∧ l.length ≤ i ∧ Ris D.2.2.place.toList ∧ (w.params.followText "set-order" = true ∨ D.2.2.led = true)
theorem midX_keep {S c : Addr} {ks : List Str} (hc : S ≠ c) : ∀ i h h', MidX P w S ks i h → (∀ b o, b ≠ c → h.get? b = some o → h'.get? b = some o) → MidX P w S ks i h' := fun i h h' ⟨D, l, q, r⟩ k => ⟨D, l, k S _ hc q, r⟩
theorem midX_start {S : Addr} {ks : List Str} {h : Heap} (q : h.get? S = some (set00 w)) : MidX P w S ks 0 h := by
  refine ⟨(#[], 0, .fresh 0 0 (!w.params.followText "set-order")), [], q, TxOk.nil ?_, .nil, fun k => by simp, Nat.le_refl _, ?_, ?_⟩
  · cases w.params.followText "set-order" <;> rfl
  · exact List.Pairwise.nil
  · cases w.params.followText "set-order"
    · exact .inr rfl
    · exact .inl rfl
theorem putsX {A : Around} {S : Addr} {ks : List Str} {vs : Array Value} (hv : ∀ (i : Nat) (v : Value), vs[i]? = some v → ∃ (k : Str) (t : Tok), ks[i]? = some k ∧ v = Value.str k t) (hl : ks.length < 1000) : PutsIn P w A S (fun i v => vs[i]? = some v) (MidX P w S ks) := by
  intro i v s E Q pv ⟨D, l, q, F, nd, mem, le, r, led⟩ fin
  obtain ⟨k, t, hk, rfl⟩ := hv i v pv
  have hi : i < ks.length := (List.getElem?_eq_some_iff.mp hk).1
  have kk : (strKind P w).is k (.str k t) = true := is_str k t
  have tk : ks.take (i + 1) = ks.take i ++ [k] := by rw [List.take_add_one, hk]; rfl
  unfold setAdd
  refine wpAny_holding (wpAny_bind ((strKind P w).pyHash (k := k) kk ?_))
  by_cases hm : k ∈ l
  · refine add_there (s := { s with toks := s.toks + 1 }) q F hm (by unfold scanBound; omega) ?_
    refine fin false s.heap (s.toks + 1) (Nat.le_succ _) (Heap.SameBut.refl S s.heap) ⟨D, l, q, F, nd, fun j => ?_, by omega, r, led⟩
    rw [mem, tk, List.mem_append, List.mem_singleton]
    exact ⟨fun z => .inl z, fun z => z.elim id fun z => by rw [z]; exact (mem k).mp hm⟩
  · refine add_x (s := { s with toks := s.toks + 1 }) q F hm (by unfold scanBound; omega) ?_
    obtain ⟨r2, l2⟩ := addTx_tab (hs := hashStr w k) (v := .str k t) r
    refine fin true _ (s.toks + 1) (Nat.le_succ _) (Heap.SameBut.update ..) ⟨addTx (hashStr w k) (.str k t) D, k :: l, get_upd _ q rfl, add_ok t F, List.nodup_cons.mpr ⟨hm, nd⟩, fun j => ?_, by rw [List.length_cons]; omega, r2, led.imp id fun z => l2.trans z⟩
    rw [tk, List.mem_append, List.mem_singleton, List.mem_cons, mem]
    exact ⟨fun z => z.elim .inr .inl, fun z => z.elim .inr .inl⟩
end
end L2
set_option Elab.async false
set_option linter.all false
set_option maxRecDepth 100000
set_option maxHeartbeats 4000000
namespace L2
open PySem PySem.Spec PyProof.Rows
/-- the tuple at a is that pair -/
def PairK (h : Heap) (p : Str × Int) (a : Addr) : Prop := ∃ o vs n t1 t2, h.get? a = some o ∧ o.cls = .type "tuple" ∧ o.data = .seq vs n ∧ vs.toList = [Value.str p.1 t1, Value.int p.2 t2]
abbrev keyN (p : Str × Int) : NestedKey := .tup [.text p.1, .num p.2]
theorem keyN_depth (p : Str × Int) : (keyN p).depth ≤ 8 := by simp [NestedKey.depth, NestedKey.depthAll]
theorem keyN_inj {p q : Str × Int} (h : keyN p = keyN q) : p = q := by
  injection h with h
  injection h with h1 h2
  injection h1 with h1
  injection h2 with h2 _
  injection h2 with h2
  exact Prod.ext h1 h2
section
variable {P : Program} {w : World} {A : Around} {E : Value → Shared → Prop} {s : Shared} {p q : Str × Int} {a b : Addr}
theorem PairK.is {h : Heap} (k : PairK h p a) : NestedIs h (keyN p) (.ref a) := by
  obtain ⟨o, vs, n, t1, t2, ho, hc, hd, hv⟩ := k
  refine .tup ho hc hd ?_
  rw [hv]
  exact .cons (.text _ _) (.cons (.int _ _) .nil)
theorem PairK.kind {h : Heap} (k : PairK h p a) : (nestedKind P w).is h (keyN p) a := ⟨k.is, keyN_depth p⟩
theorem PairK.keep {h h' : Heap} (k : PairK h p a) (g : ∀ o, h.get? a = some o → h'.get? a = some o) : PairK h' p a := by
  obtain ⟨o, vs, n, t1, t2, ho, r⟩ := k
  exact ⟨o, vs, n, t1, t2, g o ho, r⟩
theorem PairK.type (k : PairK s.heap p a) : s.TypeIs (.ref a) "tuple" := by
  obtain ⟨o, vs, n, t1, t2, ho, hc, _⟩ := k
  exact ⟨o, ho, hc⟩
/-- no statement's object in it -/
theorem ofA_pair {R : Bool → Shared → Prop} (k : PairK s.heap p a) (fin : R false s) : wpAny (model P w) A (ofAClassStatement 8 (.ref a)) R E s := by
  have ty := k.type
  obtain ⟨o, vs, n, t1, t2, ho, hc, hd, hv⟩ := k
  unfold ofAClassStatement
  refine wpAny_bind (wpAny_typeOf ty ?_)
  dsimp only
  have e : (("tuple" : String) == "tuple") = true := by decide
  simp only [e, if_true, Bool.not_true, Bool.false_eq_true, if_false]
  try refine wpAny_bind (wpAny_pure ?_)
  try simp only [Bool.not_true, Bool.false_eq_true, if_false]
  show wpAny _ _ (seqItems? (.ref a) >>= _) _ _ s
  refine wpAny_bind (wpAny_seqItems ho hd ?_)
  dsimp only
  refine wpAny_bind ?_
  show wpAny _ _ (forIn vs _ _) _ _ s
  rw [← Array.forIn_toList, hv]
  refine wpAny_forIn_list _ (fun rest r t => r.1 = none ∧ t = s ∧ ∀ v ∈ rest, (∃ x u, v = Value.str x u) ∨ ∃ i u, v = Value.int i u) _ ?_ ?_ _ _ ⟨rfl, rfl, fun v hv => by
    simp only [List.mem_cons, List.not_mem_nil, or_false] at hv
    rcases hv with rfl | rfl
    · exact .inl ⟨_, _, rfl⟩
    · exact .inr ⟨_, _, rfl⟩⟩
  · rintro v rest r t ⟨hr, rfl, all⟩
    have ev : ofAClassStatement 7 v = pure false := by
      rcases all v List.mem_cons_self with ⟨x, u, rfl⟩ | ⟨i, u, rfl⟩ <;> rfl
    rw [ev]
    refine wpAny_bind (wpAny_pure ?_)
    simp only [Bool.false_eq_true, if_false]
    exact wpAny_pure ⟨rfl, rfl, fun u hu => all u (List.mem_cons_of_mem _ hu)⟩
  · rintro ⟨r1, r2⟩ t ⟨hr, rfl, _⟩
    simp only at hr
    subst hr
    exact wpAny_pure fin
/-- its hash is the world's -/
theorem hashBy_pair {R : Bool → Shared → Prop} (k : PairK s.heap p a) (fin : R false s) : wpAny (model P w) A (hashByValue 8 (.ref a)) R E s := by
  have ty := k.type
  obtain ⟨o, vs, n, t1, t2, ho, hc, hd, hv⟩ := k
  unfold hashByValue
  refine wpAny_bind (wpAny_specialOf ty F.slot_tuple_hash.lookup ?_)
  show wpAny _ _ (seqItems? (.ref a) >>= _) _ _ s
  refine wpAny_bind (wpAny_seqItems ho hd ?_)
  refine wpAny_bind ?_
  show wpAny _ _ (forIn vs _ _) _ _ s
  rw [← Array.forIn_toList, hv, List.forIn_cons]
  have ev : hashByValue 7 (Value.str p.1 t1) = pure false := rfl
  rw [ev]
  refine wpAny_bind (wpAny_bind (wpAny_pure ?_))
  simp only [Bool.not_false, if_true]
  refine wpAny_pure ?_
  exact wpAny_pure (wpAny_pure fin)
/-- a search among such pairs shows nothing -/
theorem seen_pair {R : Bool → Shared → Prop} {ys : List Value} (k : PairK s.heap p a) (hy : ∀ y ∈ ys, ∃ q c, y = Value.ref c ∧ PairK s.heap q c) (fin : R false s) : wpAny (model P w) A (searchCouldBeSeen (.ref a) ys) R E s := by
  unfold searchCouldBeSeen
  refine wpAny_bind ?_
  refine wpAny_forIn_list _ (fun rest r t => r.1 = none ∧ t = s ∧ ∀ y ∈ rest, ∃ q c, y = Value.ref c ∧ PairK s.heap q c) _ ?_ ?_ _ _ ⟨rfl, rfl, hy⟩
  · rintro v rest r t ⟨hr, rfl, all⟩
    obtain ⟨q, c, rfl, hq⟩ := all v List.mem_cons_self
    have more : ∀ y ∈ rest, ∃ q c, y = Value.ref c ∧ PairK t.heap q c := fun u hu => all u (List.mem_cons_of_mem _ hu)
    dsimp only
    by_cases same : (a == c || (carriedByValue (.ref a) && carriedByValue (.ref c))) = true
    · refine wp_if_pos same ?_
      exact wpAny_pure ⟨rfl, rfl, more⟩
    · refine wp_if_neg same ?_
      refine wpAny_bind ((nestedKind P w).quiet k.kind ?_)
      simp only [Bool.not_true, Bool.false_eq_true, if_false]
      refine wpAny_bind ((nestedKind P w).quiet hq.kind ?_)
      simp only [Bool.not_true, Bool.false_eq_true, if_false]
      refine wpAny_bind (ofA_pair k ?_)
      simp only [Bool.false_eq_true, if_false]
      refine wpAny_bind (ofA_pair hq ?_)
      simp only [Bool.false_eq_true, if_false]
      exact wpAny_pure ⟨rfl, rfl, more⟩
  · rintro ⟨r1, r2⟩ t ⟨hr, rfl, _⟩
    simp only at hr
    subst hr
    exact wpAny_pure fin
end
end L2
set_option Elab.async false
set_option linter.all false
set_option maxRecDepth 100000
set_option maxHeartbeats 4000000
namespace L2
open PySem PySem.Spec PyProof.Rows
def hp (w : World) (p : Str × Int) : Int := (keyN p).hash w
theorem hp_eq (P : Program) (w : World) (p : Str × Int) : (nestedKind P w).hash (keyN p) = hp w p := rfl
/-- at S stands the set of the pairs L (their tuples' addresses ahead), its entries es, its table t -/
structure SetP (w : World) (h : Heap) (S : Addr) (L : List (Addr × (Str × Int))) (es : Array (Int × Value)) (ep : Nat) (t : SetTable) : Prop where
  ob : ∃ o, h.get? S = some o ∧ o.ExactSet ∧ o.data = .set es ep t
  rows : es.toList = L.map fun z => (hp w z.2, Value.ref z.1)
  tab : TabOk t (L.map fun z => hp w z.2)
  nd : (L.map (·.2)).Nodup
  is : ∀ z ∈ L, PairK h z.2 z.1
  led : w.params.followText "set-order" = true ∨ t.led = true
  mask : t.mask = 7
  few : L.length ≤ 3
section
variable {P : Program} {w : World} {A : Around} {E : Value → Shared → Prop} {s : Shared} {S : Addr} {L : List (Addr × (Str × Int))} {es : Array (Int × Value)} {ep : Nat} {t : SetTable}
theorem SetP.size {h : Heap} (G : SetP w h S L es ep t) : es.size = L.length := by
  have q := congrArg List.length G.rows
  rw [Array.length_toList, List.length_map] at q
  exact q
theorem SetP.fits {h : Heap} (G : SetP w h S L es ep t) : t.fits es.size = true := by
  have a1 := G.tab.sz
  rw [List.length_map] at a1
  have a2 := G.size
  have a3 := G.few
  have a4 := G.mask
  unfold SetTable.fits SetTable.fill
  rw [G.tab.dm, Bool.and_eq_true, beq_iff_eq, decide_eq_true_eq]
  constructor
  · exact a1.trans a2.symm
  · show t.place.size + 0 ≤ t.mask
    omega
theorem SetP.at {h : Heap} (G : SetP w h S L es ep t) {i : Nat} {z : Addr × (Str × Int)} (e : L[i]? = some z) : es[i]? = some (hp w z.2, Value.ref z.1) := by
  rw [← Array.getElem?_toList, G.rows, List.getElem?_map, e]; rfl
theorem SetP.hsh {h : Heap} (G : SetP w h S L es ep t) {i : Nat} {z : Addr × (Str × Int)} (e : L[i]? = some z) : (es[i]?.map (·.1)).getD 0 = hp w z.2 := by
  have q := G.at e
  rw [q, Option.map_some, Option.getD_some]
theorem nth_dm (m : Nat) : ∀ (n : Nat) (p : SetTable.Probe), p.dummy = none → (nth m p n).dummy = none
  | 0, _, e => e
  | n + 1, p, e => nth_dm m n (adv m p) (by unfold adv; split <;> exact e)
abbrev stt (m : Nat) (h : Int) : SetTable.Probe := runAt m (SetTable.bits h % (m + 1)) (SetTable.bits h)
theorem find_from (G : SetP w s.heap S L es ep t) {x : Addr} {p : Str × Int} (kx : PairK s.heap p x) (hu : A.units + 8 < cLine) {N : Nat} (lim : N < 10 * SetTable.turns t.mask)
    (free : way t.mask (hp w p) N ∉ t.place.toList) (full : ∀ c, c < N → way t.mask (hp w p) c ∈ t.place.toList) {R : SetFound → Shared → Prop}
    (yes : p ∈ L.map (·.2) → R (.there none) s) (no : p ∉ L.map (·.2) → R (.free (way t.mask (hp w p) N) false) s) :
    ∀ (g c : Nat) (from_ : Option SetTable.Probe), from_.getD (t.probeStart (hp w p)) = nth t.mask (stt t.mask (hp w p)) c → c ≤ N → N - c < g →
      (∀ (i : Nat) z, L[i]? = some z → z.2 = p → ∃ c', c ≤ c' ∧ c' < N ∧ t.place.toList[i]? = some (way t.mask (hp w p) c')) →
      wpAny (model P w) A (setSearchFrom S (.ref x) (hp w p) true g from_) R E s
  | 0, _, _, _, _, bad, _ => absurd bad (Nat.not_lt_zero _)
  | g + 1, c, from_, here, le, more, ahead => by
    obtain ⟨o, ho, hex, hd⟩ := G.ob
    rw [setSearchFrom_succ]
    refine wpAny_bind (wpAny_setState_of ho hd G.fits ?_)
    dsimp only
    have gw : ¬ t.gaveWay = true := by
      unfold SetTable.gaveWay
      rw [mask_odd G.tab.mok]; decide
    refine wp_if_neg gw ?_
    try refine wpAny_bind (wpAny_pure ?_)
    have dm0 : (nth t.mask (stt t.mask (hp w p)) c).dummy = none := nth_dm _ c _ rfl
    have step : ∀ q, nth t.mask (nth t.mask (stt t.mask (hp w p)) c) q = nth t.mask (stt t.mask (hp w p)) (c + q) := fun q => (nth_add t.mask c _ q).symm
    have wayE : ∀ q, (nth t.mask (nth t.mask (stt t.mask (hp w p)) c) q).j = way t.mask (hp w p) (c + q) := fun q => congrArg SetTable.Probe.j (step q)
    have cN : c + (N - c) = N := by omega
    have met := go_spec t G.tab.ris G.tab.dm (fun i => (es[i]?.map (·.1)).getD 0) (hp w p) (10 * SetTable.turns t.mask) (N - c) _ dm0 (by omega)
      (fun q hq => by rw [wayE]; exact full (c + q) (by omega)) (by rw [wayE, cN]; exact free)
    have hashE : ∀ (i : Nat) z, L[i]? = some z → (fun i => (es[i]?.map (·.1)).getD 0) i = hp w z.2 := fun i z e => G.hsh e
    rcases met with ⟨q, i, hq, hi, hh, none', pr⟩ | ⟨none', pr⟩
    · have pr1 : t.probe (fun i => (es[i]?.map (·.1)).getD 0) (hp w p) (from_.getD (t.probeStart (hp w p))) = some (.candidate (way t.mask (hp w p) (c + q)) i (nth t.mask (stt t.mask (hp w p)) (c + (q + 1)))) := by
        rw [here, ← wayE, ← step]
        exact pr
      rw [pr1]
      dsimp only
      rw [wayE] at hi
      have il : i < L.length := by
        have a1 : i < t.place.toList.length := (List.getElem?_eq_some_iff.mp hi).1
        have a2 := G.tab.sz
        rw [List.length_map] at a2
        rw [Array.length_toList] at a1
        omega
      have ez : L[i]? = some L[i] := List.getElem?_eq_getElem il
      generalize L[i] = z at ez
      have mz : z ∈ L := List.mem_of_getElem? ez
      have iz := G.is z mz
      have tail : wpAny (model P w) A (searchRest S (.ref x) (hp w p) true g es t (way t.mask (hp w p) (c + q)) i (nth t.mask (stt t.mask (hp w p)) (c + (q + 1)))) R E s := by
        unfold searchRest
        rw [G.at ez]
        dsimp only
        refine wpAny_bind (wpAny_holding ((nestedKind P w).eqBool (x := keyN z.2) (y := keyN p) hu iz.kind kx.kind ?_))
        refine wpAny_bind (wpAny_setState_of ho hd G.fits ?_)
        dsimp only
        by_cases same : z.2 = p
        · refine wp_if_pos (by simp [same]) ?_
          exact wpAny_pure (yes (List.mem_map.mpr ⟨z, mz, same⟩))
        · have off : keyN z.2 ≠ keyN p := fun e => same (keyN_inj e)
          have off1 : decide (keyN z.2 = keyN p) = false := decide_eq_false off
          rw [off1]
          refine wp_if_neg (by decide) ?_
          try refine wpAny_bind (wpAny_pure ?_)
          rw [sameMem]
          dsimp only
          have live : t.slot (way t.mask (hp w p) (c + q)) = .live i := slot_live G.tab.ris hi
          simp only [if_true, live, G.at ez]
          refine wpAny_bind (wpAny_isSame_ref_self (wpAny_bind (wpAny_pure ?_)))
          simp only [if_true]
          refine wp_if_neg (by decide) ?_
          refine find_from G kx hu lim free full yes no g (c + (q + 1)) _ rfl (by omega) (by omega) fun i0 z0 e0 p0 => ?_
          obtain ⟨c', b1, b2, b3⟩ := ahead i0 z0 e0 p0
          refine ⟨c', ?_, b2, b3⟩
          rcases Nat.lt_or_ge c' (c + q) with y | y
          · exfalso
            refine none' (c' - c) i0 (by omega) (by rw [wayE, show c + (c' - c) = c' by omega]; exact b3) ?_
            exact (hashE i0 z0 e0).trans (congrArg (hp w) p0)
          · rcases Nat.lt_or_ge (c + q) c' with y2 | y2
            · omega
            · exfalso
              have ec : c' = c + q := Nat.le_antisymm y2 y
              rw [ec] at b3
              have s0 := slot_live G.tab.ris b3
              rw [live] at s0
              injection s0 with s0
              rw [← s0, ez] at e0
              exact same ((congrArg Prod.snd (Option.some.inj e0)).trans p0)
      by_cases hl : t.led = true
      · refine wp_if_neg (by simp [hl]) ?_
        try refine wpAny_bind (wpAny_pure ?_)
        exact tail
      · refine wp_if_pos (by simp [hl]) ?_
        refine wpAny_bind (seen_pair kx (fun y hy => ?_) ?_)
        · obtain ⟨e, he, ee⟩ := List.mem_map.mp hy
          have he1 : e ∈ es ∧ e.1 = hp w p := by simpa using he
          have he2 : e ∈ es.toList := by simpa using he1.1
          rw [G.rows] at he2
          obtain ⟨z2, hz2, e2⟩ := List.mem_map.mp he2
          refine ⟨z2.2, z2.1, ?_, G.is z2 hz2⟩
          rw [← ee, ← e2]
        · refine wp_if_neg (by decide) ?_
          try refine wpAny_bind (wpAny_pure ?_)
          exact tail
    · have pr1 : t.probe (fun i => (es[i]?.map (·.1)).getD 0) (hp w p) (from_.getD (t.probeStart (hp w p))) = some (.empty (way t.mask (hp w p) N) none) := by
        have e2 : way t.mask (hp w p) N = (nth t.mask (nth t.mask (stt t.mask (hp w p)) c) (N - c)).j := by rw [wayE, cN]
        rw [here, e2]
        exact pr
      rw [pr1]
      dsimp only
      refine wpAny_pure (no fun hm => ?_)
      obtain ⟨z0, m0, p0⟩ := List.mem_map.mp hm
      obtain ⟨i0, l0, e0⟩ := List.getElem_of_mem m0
      have e00 : L[i0]? = some z0 := by rw [List.getElem?_eq_getElem l0, e0]
      obtain ⟨c', b1, b2, b3⟩ := ahead i0 z0 e00 p0
      refine none' (c' - c) i0 (by omega) (by rw [wayE, show c + (c' - c) = c' by omega]; exact b3) ?_
      exact (hashE i0 z0 e00).trans (congrArg (hp w) p0)
theorem find_pair (G : SetP w s.heap S L es ep t) {x : Addr} {p : Str × Int} (kx : PairK s.heap p x) (hu : A.units + 8 < cLine) {R : SetFound → Shared → Prop}
    (yes : p ∈ L.map (·.2) → R (.there none) s)
    (no : ∀ N, p ∉ L.map (·.2) → way t.mask (hp w p) N ∉ t.place.toList → (∀ c, c < N → way t.mask (hp w p) c ∈ t.place.toList) → R (.free (way t.mask (hp w p) N) false) s) :
    wpAny (model P w) A (setSearch S (.ref x) (hp w p) true) R E s := by
  have f3 := G.few
  have m7 := G.mask
  obtain ⟨N, lim, free, full⟩ := G.tab.first (by rw [List.length_map]; omega) (hp w p)
  have big : N < 100000 := by
    have : 10 * SetTable.turns t.mask ≤ 1420 := by
      unfold SetTable.turns
      omega
    omega
  unfold setSearch
  refine find_from G kx hu lim free full yes (fun hn => no N hn free full) 100000 0 none rfl (Nat.zero_le _) (by omega) fun i z ez pz => ?_
  have hi : (L.map fun z => hp w z.2)[i]? = some (hp w p) := by rw [List.getElem?_map, ez, ← pz]; rfl
  have il : i < t.place.toList.length := by
    have a1 : i < L.length := (List.getElem?_eq_some_iff.mp ez).1
    have a2 := G.tab.sz
    rw [List.length_map] at a2
    rw [Array.length_toList]
    omega
  have hj := List.getElem?_eq_getElem il
  obtain ⟨c, hc, e⟩ := G.tab.before free hi hj
  exact ⟨c, Nat.zero_le _, hc, by rw [hj, e]⟩
end
end L2
set_option Elab.async false
set_option linter.all false
set_option maxRecDepth 100000
set_option maxHeartbeats 4000000
namespace L2
open PySem PySem.Spec PyProof.Rows
section
variable {P : Program} {w : World} {A : Around} {E : Value → Shared → Prop} {s : Shared} {S : Addr} {L : List (Addr × (Str × Int))} {es : Array (Int × Value)} {ep : Nat} {t : SetTable}
theorem PairK.off {h h' : Heap} {p : Str × Int} {b : Addr} {o : Obj} (k : PairK h p b) (ho : h.get? S = some o) (hd : o.data = .set es ep t) (sb : Heap.SameBut S h h') : PairK h' p b := by
  obtain ⟨o', vs, n, t1, t2, g, c, d, r⟩ := k
  refine ⟨o', vs, n, t1, t2, (sb.2 b ?_).trans g, c, d, r⟩
  rintro rfl
  cases ho.symm.trans g
  rw [hd] at d; cases d
theorem put_pair (G : SetP w s.heap S L es ep t) {x : Addr} {p : Str × Int} (kx : PairK s.heap p x) (hu : A.units + 8 < cLine) (more : L.length + 1 ≤ 3) {R : Bool → Shared → Prop}
    (fin : ∀ b h' L' es' ep' t', Heap.SameBut S s.heap h' → SetP w h' S L' es' ep' t' → (p ∈ L.map (·.2) → L' = L) → (p ∉ L.map (·.2) → L'.Perm ((x, p) :: L)) → R b { s with heap := h' }) :
    wpAny (model P w) A (setAddHashed S (.ref x) (hp w p)) R E s := by
  obtain ⟨o, ho, hex, hd⟩ := G.ob
  have sz := G.size
  have m7 := G.mask
  unfold setAddHashed
  refine wpAny_holding ?_
  rw [show (100000 : Nat) = 99999 + 1 from rfl, setAddHashedIn_succ]
  refine wpAny_bind (wpAny_setState_of ho hd G.fits ?_)
  dsimp only
  have ns : ¬ byScan (.ref x) es = true := by simp [byScan, Value.scannable]
  refine wp_if_neg ns ?_
  try refine wpAny_bind (wpAny_pure ?_)
  refine wpAny_bind (find_pair G kx hu (fun hm => ?_) fun N hm free full => ?_)
  · dsimp only
    exact wpAny_pure (fin false s.heap L es ep t (Heap.SameBut.refl S s.heap) G (fun _ => rfl) fun y => absurd hm y)
  · dsimp only
    refine wpAny_bind (wpAny_setState_of ho hd G.fits ?_)
    dsimp only
    obtain ⟨q1, q2, q3, q4, q5, q6, q7, q8, q9⟩ := G.tab.put free full
    generalize t.put (way t.mask (hp w p) N) = pt at q1 q3 q4 q5 q6 q7 q8 q9 ⊢
    obtain ⟨t1, n⟩ := pt
    dsimp only at q1 q3 q4 q5 q6 q7 q8 q9 ⊢
    subst q1
    have inL : (SetTable.insertAt es (SetTable.below t.place (way t.mask (hp w p) N)) (hp w p, Value.ref x)).toList = (L.take (SetTable.below t.place (way t.mask (hp w p) N)) ++ (x, p) :: L.drop (SetTable.below t.place (way t.mask (hp w p) N))).map fun z => (hp w z.2, Value.ref z.1) := by
      rw [SetTable.toList_insertAt, G.rows, List.map_append, List.map_cons, List.map_take, List.map_drop]
    generalize SetTable.below t.place (way t.mask (hp w p) N) = n at q2 q3 inL ⊢
    have pm := put_perm L n (x, p)
    have ln : (L.take n ++ (x, p) :: L.drop n).length = L.length + 1 := pm.length_eq
    have hs1 : (L.take n ++ (x, p) :: L.drop n).map (fun z => hp w z.2) = (L.map fun z => hp w z.2).take n ++ hp w p :: (L.map fun z => hp w z.2).drop n := by
      rw [List.map_append, List.map_cons, List.map_take, List.map_drop]
    rw [← hs1] at q3
    have nd1 : ((L.take n ++ (x, p) :: L.drop n).map (·.2)).Nodup := by
      refine (pm.map (·.2)).nodup_iff.mpr ?_
      rw [List.map_cons]
      exact List.nodup_cons.mpr ⟨hm, G.nd⟩
    have esz : (SetTable.insertAt es n (hp w p, Value.ref x)).size = L.length + 1 := by
      have q := congrArg List.length inL
      rw [Array.length_toList, List.length_map, ln] at q
      exact q
    generalize SetTable.insertAt es n (hp w p, Value.ref x) = es1 at inL esz ⊢
    generalize L.take n ++ (x, p) :: L.drop n = L1 at pm ln q3 nd1 inL
    -- whatever becomes of plain
    have last : ∀ t2 : SetTable, t2.place = t1.place → t2.dummies = t1.dummies → t2.mask = t1.mask → t2.led = t1.led →
        wpAny (model P w) A (do
          storeSet S es1 t2
          if (!false && t2.tooFull) = true then setRelay S (SetTable.grown (es.size + 1))
          pure true) R E s := fun t2 e1 e2 e3 e4 => by
      have sb : Heap.SameBut S s.heap (s.heap.update S (Obj.putSet es1 t2)) := Heap.SameBut.update ..
      have tb : TabOk t2 (L1.map fun z => hp w z.2) := by
        refine ⟨by rw [e1]; exact q3.ris, by rw [e2]; exact q3.dm, by rw [e1]; exact q3.sz, by rw [e3]; exact q3.mok, ?_, ?_⟩
        · rw [e1, e3]; exact q3.bd
        · rw [e1, e3]; exact q3.reach
      have tf : t2.tooFull = false := by
        unfold SetTable.tooFull SetTable.fill
        rw [decide_eq_false_iff_not, e1, e2, e3, q4, m7]
        have z : t1.place.size + t1.dummies.size = L.length + 1 := by
          have := q9
          unfold SetTable.fill at this
          rw [this, List.length_map]
        rw [z]
        omega
      refine wpAny_bind (wpAny_storeSet_of ho hd ?_ (by rw [esz, sizeLine_eq]; omega))
      rw [tf]
      have st := store_at (es' := es1) (t' := t2) ho hd
      refine wp_if_neg (by decide) ?_
      try refine wpAny_bind (wpAny_pure ?_)
      refine wpAny_pure (fin true _ L1 es1 (ep + 1) t2 sb ⟨⟨_, st, ⟨hex.1, hex.2.1, hex.2.2⟩, rfl⟩, inL, tb, nd1, fun z hz => ?_, ?_, by rw [e3, q4, m7], by rw [ln]; exact more⟩ (fun y => absurd y hm) fun _ => pm)
      · rcases List.mem_cons.mp (pm.mem_iff.mp hz) with e | hz
        · rw [e]; exact kx.off ho hd sb
        · exact (G.is z hz).off ho hd sb
      · rw [e4, q5]; exact G.led
    by_cases pl : t1.plain = true
    · rw [if_pos pl]
      refine wpAny_bind (hashBy_pair kx ?_)
      exact last { t1 with plain := false } rfl rfl rfl rfl
    · rw [if_neg pl]
      refine wpAny_bind (wpAny_pure ?_)
      exact last t1 rfl rfl rfl rfl
end
end L2
set_option Elab.async false
set_option linter.all false
set_option maxRecDepth 100000
set_option maxHeartbeats 4000000
namespace L2
open PySem PySem.Spec PyProof.Rows
section
variable {P : Program} {w : World}
/-- the values vs are the pairs ks, none of them at c -/
def AreP (h : Heap) (c : Addr) (vs : Array Value) (ks : List (Str × Int)) : Prop := ∀ (j : Nat) (v : Value), vs[j]? = some v → ∃ p a, v = .ref a ∧ ks[j]? = some p ∧ a ≠ c ∧ PairK h p a
def MidP (w : World) (S c : Addr) (vs : Array Value) (ks : List (Str × Int)) (i : Nat) (h : Heap) : Prop :=
  (∃ L es ep t, SetP w h S L es ep t ∧ (∀ z ∈ L, z.1 ≠ c ∧ .ref z.1 ∈ vs.toList) ∧ (∀ p, p ∈ L.map (·.2) ↔ p ∈ ks.take i) ∧ L.length ≤ i) ∧ AreP h c vs ks
theorem midP_keep {S c : Addr} {vs : Array Value} {ks : List (Str × Int)} (hc : S ≠ c) : ∀ i h h', MidP w S c vs ks i h → (∀ b o, b ≠ c → h.get? b = some o → h'.get? b = some o) → MidP w S c vs ks i h' := by
  rintro i h h' ⟨⟨L, es, ep, t, G, far, mem, le⟩, al⟩ k
  obtain ⟨o, ho, r⟩ := G.ob
  refine ⟨⟨L, es, ep, t, ⟨⟨o, k S o hc ho, r⟩, G.rows, G.tab, G.nd, fun z hz => (G.is z hz).keep fun o e => k _ o (far z hz).1 e, G.led, G.mask, G.few⟩, far, mem, le⟩, fun j v e => ?_⟩
  obtain ⟨p, a, e1, e2, e3, e4⟩ := al j v e
  exact ⟨p, a, e1, e2, e3, e4.keep fun o e => k _ o e3 e⟩
theorem midP_start {S c : Addr} {vs : Array Value} {ks : List (Str × Int)} {h : Heap} (q : h.get? S = some (set00 w)) (al : AreP h c vs ks) : MidP w S c vs ks 0 h := by
  refine ⟨⟨[], #[], 0, .fresh 0 0 (!w.params.followText "set-order"), ⟨⟨_, q, ⟨rfl, rfl, rfl⟩, rfl⟩, rfl, ⟨List.Pairwise.nil, rfl, rfl, .inl rfl, fun x hx => (by cases hx), fun i h j hi => (by simp at hi)⟩, List.nodup_nil, (fun z hz => nomatch hz), ?_, rfl, by simp⟩, (fun z hz => nomatch hz), fun p => by simp, Nat.le_refl _⟩, al⟩
  show _ ∨ (!w.params.followText "set-order") = true
  cases w.params.followText "set-order"
  · exact .inr rfl
  · exact .inl rfl
theorem putsP {A : Around} {S c : Addr} {vs : Array Value} {ks : List (Str × Int)} (hu : A.units + 8 < cLine) (hl : ks.length ≤ 3) : PutsIn P w A S (fun i v => vs[i]? = some v) (MidP w S c vs ks) := by
  rintro i v s E Q pv ⟨⟨L, es, ep, t, G, far, mem, le⟩, al⟩ fin
  obtain ⟨p, a, rfl, hk, ne, kp⟩ := al i v pv
  have hi : i < ks.length := (List.getElem?_eq_some_iff.mp hk).1
  have tk : ks.take (i + 1) = ks.take i ++ [p] := by rw [List.take_add_one, hk]; rfl
  have hd := G.ob
  obtain ⟨o, ho, _, hd⟩ := hd
  unfold setAdd
  refine wpAny_holding (wpAny_bind ((nestedKind P w).pyHash (k := keyN p) hu kp.kind ?_))
  rw [hp_eq]
  refine put_pair (s := { s with toks := s.toks + (nestedKind P w).draws (keyN p) }) G kp hu (by omega) fun b h' L' es' ep' t' sb G' h1 h2 => ?_
  have al' : AreP h' c vs ks := fun j v e => by
    obtain ⟨p, a, e1, e2, e3, e4⟩ := al j v e
    exact ⟨p, a, e1, e2, e3, e4.off ho hd sb⟩
  refine fin b h' _ (Nat.le_add_right _ _) sb ⟨?_, al'⟩
  by_cases hm : p ∈ L.map (·.2)
  · obtain rfl := h1 hm
    refine ⟨L', es', ep', t', G', far, fun x => ?_, by omega⟩
    rw [mem, tk, List.mem_append, List.mem_singleton]
    exact ⟨fun z => .inl z, fun z => z.elim id fun z => by rw [z]; exact (mem p).mp hm⟩
  · have pm := h2 hm
    refine ⟨L', es', ep', t', G', fun z hz => ?_, fun x => ?_, ?_⟩
    · rcases List.mem_cons.mp (pm.mem_iff.mp hz) with rfl | hz
      · exact ⟨ne, by
          have := (Array.getElem?_eq_some_iff.mp pv)
          obtain ⟨hlt, e⟩ := this
          rw [← e]; simp⟩
      · exact far z hz
    · rw [(pm.map (·.2)).mem_iff, List.map_cons, List.mem_cons, mem, tk, List.mem_append, List.mem_singleton]
      exact ⟨fun z => z.elim .inr .inl, fun z => z.elim .inr .inl⟩
    · rw [pm.length_eq, List.length_cons]; omega
end
end L2
set_option Elab.async false
set_option linter.all false
set_option maxRecDepth 100000
set_option maxHeartbeats 4000000
namespace L2
open PySem PySem.Spec PyProof.Rows
def uq {α : Type} [DecidableEq α] : List α → List α
  | [] => []
  | x :: l => if x ∈ l then uq l else x :: uq l
theorem uq_mem {α : Type} [DecidableEq α] {k : α} : ∀ {l : List α}, k ∈ uq l ↔ k ∈ l
  | [] => Iff.rfl
  | x :: l => by
    unfold uq
    by_cases h : x ∈ l
    · rw [if_pos h, uq_mem, List.mem_cons]
      exact ⟨.inr, fun z => z.elim (fun e => by rw [e]; exact h) id⟩
    · rw [if_neg h, List.mem_cons, uq_mem, List.mem_cons]
theorem uq_nodup {α : Type} [DecidableEq α] : ∀ {l : List α}, (uq l).Nodup
  | [] => List.nodup_nil
  | x :: l => by
    unfold uq
    by_cases h : x ∈ l
    · rw [if_pos h]; exact uq_nodup
    · rw [if_neg h]; exact List.nodup_cons.mpr ⟨fun z => h (uq_mem.mp z), uq_nodup⟩
theorem perm_uq {α : Type} [DecidableEq α] {l m : List α} (h : l.Nodup) (q : ∀ k, k ∈ l ↔ k ∈ m) : l.Perm (uq m) := (List.perm_ext_iff_of_nodup h uq_nodup).mpr fun k => by rw [q, uq_mem]
/-- as long as a list of different things that it has all of, it has no two alike -/
theorem nodup_of_all {α : Type} [DecidableEq α] : ∀ {l m : List α}, l.Nodup → (∀ x ∈ l, x ∈ m) → m.length = l.length → m.Nodup ∧ ∀ x, x ∈ m ↔ x ∈ l
  | [], m, _, _, e => by
    obtain rfl := List.eq_nil_of_length_eq_zero e
    exact ⟨List.nodup_nil, fun x => Iff.rfl⟩
  | x :: l, m, n, a, e => by
    obtain ⟨n1, n2⟩ := List.nodup_cons.mp n
    have hx : x ∈ m := a x List.mem_cons_self
    have pm := List.perm_cons_erase hx
    have e2 : (m.erase x).length = l.length := by rw [List.length_erase_of_mem hx, e, List.length_cons]; omega
    obtain ⟨r1, r2⟩ := nodup_of_all (l := l) (m := m.erase x) n2 (fun y hy => by
      have ne : y ≠ x := fun z => n1 (z ▸ hy)
      exact (List.mem_erase_of_ne ne).mpr (a y (List.mem_cons_of_mem _ hy))) e2
    refine ⟨pm.nodup_iff.mpr (List.nodup_cons.mpr ⟨fun z => n1 ((r2 x).mp z), r1⟩), fun y => ?_⟩
    rw [pm.mem_iff, List.mem_cons, r2, List.mem_cons]
/-- the pair that stands at an address -/
def pairAt (h : Heap) : Value → Str × Int
  | .ref a => match h.get? a with
    | some o => match o.data with
      | .seq vs _ => match vs.toList with
        | [.str x _, .int i _] => (x, i)
        | _ => (⟨#[]⟩, 0)
      | _ => (⟨#[]⟩, 0)
    | none => (⟨#[]⟩, 0)
  | _ => (⟨#[]⟩, 0)
theorem PairK.pair {h : Heap} {p : Str × Int} {a : Addr} (k : PairK h p a) : pairAt h (.ref a) = p := by
  obtain ⟨o, vs, n, t1, t2, ho, hc, hd, hv⟩ := k
  unfold pairAt
  simp only [ho, hd, hv]
section
variable {P : Program} {w : World} {A : Around} {E : Value → Shared → Prop} {s : Shared} {S : Addr}
theorem setAt_of {o : Obj} {es : Array (Int × Value)} {ep : Nat} {t : SetTable} (ho : s.heap.get? S = some o) (hx : o.ExactSet) (hd : o.data = .set es ep t) : SetAt s.heap S es ep t := ⟨o, ho, hx.1, hd⟩
theorem pairK_si {h : Heap} {p : Str × Int} {a : Addr} (k : PairK h p a) : SrtQ.IsSI h (.ref a) p.1 p.2 := by
  obtain ⟨o, vs, n, t1, t2, ho, hc, hd, hv⟩ := k
  refine ⟨a, o, t1, t2, n, rfl, ho, hc, ?_⟩
  rw [hd]
  congr 1
  apply Array.toList_inj.mp
  rw [hv]
theorem sorted_pairs {L : List (Addr × (Str × Int))} {es : Array (Int × Value)} {ep : Nat} {t : SetTable} {Q : Value → Shared → Prop} (G : SetP w s.heap S L es ep t) (hh : A.handled = none)
    (fin : ∀ s' p (out : List Value) (c : Nat), (∀ b o, s.heap.get? b = some o → s'.heap.get? b = some o) → s'.gens = s.gens → s'.os = s.os → s.heap.objs.size ≤ p →
      s'.heap.get? p = some (seqObj "list" out.toArray c) → out.Perm (L.map fun z => Value.ref z.1) → out.map (pairAt s.heap) = SrtQ.isort SrtQ.lexS (L.map (·.2)) → Q (.ref p) s') :
    wpAny (model P w) A (call (.builtin "sorted") [.ref S]) Q E s := by
  obtain ⟨o, ho, hx, hd⟩ := G.ob
  have sz := G.size
  have few := G.few
  refine Calls.call_function_entry kind_sorted plain_sorted entry_sorted (args_sorted1 _) ?_
  unfold Builtin.«sorted»
  refine wpAny_bind (m := checkCount "sorted" 1 1 _) (wpAny_pure ?_)
  refine wpAny_bind (collect_set (A := A.in1) hh (setAt_of ho hx hd) G.fits (by unfold scanBound; omega) G.tab.ris G.led fun s1 out k1 hz g1 o1 pm => ?_)
  have pm1 : out.Perm (L.map fun z => Value.ref z.1) := by
    have : es.toList.map (·.2) = L.map fun z => Value.ref z.1 := by rw [G.rows, List.map_map]; rfl
    rw [← this]; exact pm
  have ol : out.length ≤ 3 := by rw [pm1.length_eq, List.length_map]; exact few
  have at1 : ∀ v ∈ out, ∃ z ∈ L, v = Value.ref z.1 ∧ PairK s.heap z.2 z.1 := fun v hv => by
    obtain ⟨z, hz, e⟩ := List.mem_map.mp (pm1.mem_iff.mp hv)
    exact ⟨z, hz, e.symm, G.is z hz⟩
  refine wpAny_bind (wpAny_newList ?_ (by rw [sizeLine_eq]; omega))
  have hoL : (s1.heap.push (seqObj "list" out.toArray 0)).get? s1.heap.objs.size = some (seqObj "list" out.toArray 0) := Heap.get?_push_size _ rfl
  have k2 : ∀ b o, s.heap.get? b = some o → (s1.heap.push (seqObj "list" out.toArray 0)).get? b = some o := fun b o e => Heap.get?_push_of_some _ (k1 b o e)
  refine wpAny_bind (wpAny_holding (wpAny_call_entry slot_list_sort ⟨_, hoL, rfl⟩ entry_list_sort (SrtO.list_sort_ord (SrtQ.swo_lexS (pairAt s.heap)) hoL (by rw [sizeLine_eq]; omega) (fun h2 => ?_) fun out2 hs hb => ⟨_, rfl, ?_⟩) (args_list_sort _)))
  · refine SrtQ.si_sortable (s := { s1 with heap := s1.heap.push (seqObj "list" out.toArray 0) }) (by omega) (fun v hm => ?_) fun o e => ?_
    · obtain ⟨z, hz, rfl, kz⟩ := at1 v hm
      rw [kz.pair]
      exact pairK_si (kz.keep fun o e => k2 _ o e)
    · have e' : some o = some (seqObj "list" out.toArray 0) := e.symm.trans hoL
      cases e'
      exact fun c => absurd (Value.type.inj c) (by decide)
  · obtain ⟨c, hc⟩ := sortedHeap_at (vs := out) (out := out2.toArray) hoL
    have p2 : out2.Perm (L.map fun z => Value.ref z.1) := hb.perm.trans pm1
    refine wpAny_pure ⟨_, rfl, fin _ s1.heap.objs.size out2 c (fun b u e => ?_) g1 o1 hz hc p2 ?_⟩
    · have hlt := Heap.lt_size (k1 b u e)
      show (sortedHeap (s1.heap.push (seqObj "list" out.toArray 0)) s1.heap.objs.size out out2.toArray).get? b = some u
      rw [sortedHeap_old (Nat.ne_of_lt hlt) (by rw [size_push']; exact Nat.lt_succ_of_lt hlt)]
      exact k2 b u e
    · refine SrtQ.perm_uniq SrtQ.swo_lexS' (fun x y h1 h2 => SrtQ.lexS_tri h1 h2) (List.pairwise_map.mpr hs) (SrtQ.isort_srtd SrtQ.swo_lexS' _) ?_
      have e1 : (L.map fun z => Value.ref z.1).map (pairAt s.heap) = L.map (·.2) := by
        rw [List.map_map]
        exact List.map_congr_left fun z hz => (G.is z hz).pair
      have := p2.map (pairAt s.heap)
      rw [e1] at this
      exact this.trans (SrtQ.isort_perm _).symm
theorem strs_of_all : ∀ (vs : List Value), (∀ v ∈ vs, ∃ k t, v = Value.str k t) → ∃ ks, StrsAre vs ks ∧ vs.length = ks.length ∧ ∀ k, k ∈ ks ↔ ∃ v ∈ vs, ∃ t, v = Value.str k t
  | [], _ => ⟨[], .nil, rfl, fun k => by simp⟩
  | v :: vs, h => by
    obtain ⟨ks, h1, h2, h3⟩ := strs_of_all vs fun u hu => h u (List.mem_cons_of_mem _ hu)
    obtain ⟨k, t, rfl⟩ := h v List.mem_cons_self
    refine ⟨k :: ks, .cons k t h1, by rw [List.length_cons, List.length_cons, h2], fun j => ?_⟩
    rw [List.mem_cons, h3]
    constructor
    · rintro (rfl | ⟨u, hu, r⟩)
      · exact ⟨_, List.mem_cons_self, t, rfl⟩
      · exact ⟨u, List.mem_cons_of_mem _ hu, r⟩
    · rintro ⟨u, hu, t', e⟩
      rcases List.mem_cons.mp hu with rfl | hu
      · cases e; exact .inl rfl
      · exact .inr ⟨u, hu, t', e⟩
theorem sorted_txts {ks : List Str} {n : Nat} {Q : Value → Shared → Prop} (G : MidX P w S ks n s.heap) (hn : n = ks.length) (h64 : n < 64) (hh : A.handled = none)
    (fin : ∀ s' p (out : List Value) (c : Nat), (∀ b o, s.heap.get? b = some o → s'.heap.get? b = some o) → s'.gens = s.gens → s'.os = s.os → s.heap.objs.size ≤ p →
      s'.heap.get? p = some (seqObj "list" out.toArray c) → StrsAre out (SrtQ.isort SrtQ.ltS (uq ks)) → Q (.ref p) s') :
    wpAny (model P w) A (call (.builtin "sorted") [.ref S]) Q E s := by
  obtain ⟨⟨es, ep, t⟩, l, ho, F, nd, mem, le, ris, led⟩ := G
  rw [hn, List.take_length] at mem
  have few : es.size < 64 := by have := F.sz; show es.size < 64; rw [this]; omega
  refine Calls.call_function_entry kind_sorted plain_sorted entry_sorted (args_sorted1 _) ?_
  unfold Builtin.«sorted»
  refine wpAny_bind (m := checkCount "sorted" 1 1 _) (wpAny_pure ?_)
  refine wpAny_bind (collect_set (A := A.in1) hh (setAt_of ho ⟨rfl, rfl, rfl⟩ rfl) F.fit (by unfold scanBound; show es.size < _; omega) ris led fun s1 out k1 hz g1 o1 pm => ?_)
  have ol : out.length = es.size := by rw [pm.length_eq, List.length_map, Array.length_toList]
  obtain ⟨xs, hI, hl, hm⟩ := strs_of_all out fun v hv => by
    obtain ⟨e, he, rfl⟩ := List.mem_map.mp (pm.mem_iff.mp hv)
    obtain ⟨⟨k, hk, _⟩, _⟩ := F.el e he
    have hk : Value.isStrOf k e.2 = true := hk
    cases e2 : e.2 with
    | str x u => exact ⟨x, u, rfl⟩
    | _ => rw [e2] at hk; simp [Value.isStrOf] at hk
  have all : ∀ k ∈ l, k ∈ xs := fun k hk => by
    obtain ⟨e, he, q⟩ := (F.mem k).mp hk
    have q : Value.isStrOf k e.2 = true := q
    refine (hm k).mpr ⟨e.2, pm.mem_iff.mpr (List.mem_map.mpr ⟨e, he, rfl⟩), ?_⟩
    cases e2 : e.2 with
    | str x u => rw [e2] at q; simp [Value.isStrOf] at q; exact ⟨u, by rw [q]⟩
    | _ => rw [e2] at q; simp [Value.isStrOf] at q
  obtain ⟨nx, mx⟩ := nodup_of_all nd all (by rw [← hl, ol]; exact F.sz)
  have px : xs.Perm (uq ks) := perm_uq nx fun k => by rw [mx, mem]
  refine wpAny_bind (wpAny_newList ?_ (by rw [ol, sizeLine_eq]; omega))
  have hoL : (s1.heap.push (seqObj "list" out.toArray 0)).get? s1.heap.objs.size = some (seqObj "list" out.toArray 0) := Heap.get?_push_size _ rfl
  refine wpAny_bind (wpAny_holding (wpAny_call_entry slot_list_sort ⟨_, hoL, rfl⟩ entry_list_sort (list_sort_treeK strKind_oneLt hoL hI.keysOf (fun v₁ v₂ rest e => keyKind_strs (by rw [← e]; exact hI)) (by rw [ol]; exact few) fun st' hp hs => ⟨_, rfl, ?_⟩) (args_list_sort _)))
  obtain ⟨ys, h1, h2, h3⟩ := sorted_out_str hI hp hs
  generalize (arrOf st').map (·.2) = out2 at h1
  obtain ⟨c, hc⟩ := sortedHeap_at (vs := out) (out := out2) hoL
  have ey : ys = SrtQ.isort SrtQ.ltS (uq ks) := SrtQ.sorted_isort (h2.trans px) h3
  refine wpAny_pure ⟨_, rfl, fin _ s1.heap.objs.size out2.toList c (fun b u e => ?_) g1 o1 hz (by simpa using hc) (by rw [← ey]; exact h1)⟩
  have hlt := Heap.lt_size (k1 b u e)
  show (sortedHeap (s1.heap.push (seqObj "list" out.toArray 0)) s1.heap.objs.size out out2).get? b = some u
  rw [sortedHeap_old (Nat.ne_of_lt hlt) (by rw [size_push']; exact Nat.lt_succ_of_lt hlt)]
  exact Heap.get?_push_of_some _ (k1 b u e)
end
end L2
set_option Elab.async false
set_option linter.all false
set_option maxRecDepth 100000
set_option maxHeartbeats 4000000
namespace DL
open PySem PySem.Spec PyProof.Rows L2
variable [TabCtx]
def pairE (p : Str × Int) : PyData := .tuple [.str p.1, .int p.2]
def pairsD : List PyData → Option (List (Str × Int))
  | [] => some []
  | .tuple [.str x, .int i] :: ds => (pairsD ds).map ((x, i) :: ·)
  | _ :: _ => none
theorem pairsD_map : ∀ ps : List (Str × Int), pairsD (ps.map pairE) = some ps
  | [] => rfl
  | p :: ps => by
    show (pairsD (ps.map pairE)).map (p :: ·) = _
    rw [pairsD_map ps]; rfl
theorem pairsD_eq : ∀ {ds : List PyData} {ps : List (Str × Int)}, pairsD ds = some ps → ds = ps.map pairE
  | [], ps, h => by cases h; rfl
  | d :: ds, ps, h => by
    unfold pairsD at h
    split at h
    · rename_i e; cases e
    · rename_i x i ds' e
      cases e
      obtain ⟨qs, h1, rfl⟩ := Option.map_eq_some_iff.mp h
      rw [pairsD_eq h1]; rfl
    · cases h
theorem txtsD_eq : ∀ {ds : List PyData} {xs : List Str}, txtsD ds = some xs → ds = xs.map PyData.str
  | [], xs, h => by cases h; rfl
  | d :: ds, xs, h => by
    unfold txtsD at h
    split at h
    · rename_i e; cases e
    · rename_i x ds' e
      cases e
      obtain ⟨qs, h1, rfl⟩ := Option.map_eq_some_iff.mp h
      rw [txtsD_eq h1]; rfl
    · cases h
def gSortU : PyData → Option PyData
  | .list ds => (txtsD ds).bind fun xs => if xs.length < 64 then some (.list ((SrtQ.isort SrtQ.ltS (uq xs)).map .str)) else none
  | .tuple ds => (pairsD ds).bind fun ps => if ps.length ≤ 3 then some (.list ((SrtQ.isort SrtQ.lexS (uq ps)).map pairE)) else none
  | _ => none
theorem strs_vals : ∀ {us : List Value} {xs : List Str}, StrsAre us xs → L2.Vals (xs.map L2.V.str) us
  | _, _, .nil => .nil
  | _, _, .cons _ _ h => .cons ⟨_, rfl⟩ (strs_vals h)
theorem vals_strs : ∀ {xs : List Str} {us : List Value}, L2.Vals (xs.map L2.V.str) us → StrsAre us xs
  | [], _, .nil => .nil
  | x :: xs, _, .cons ⟨t, e⟩ r => by subst e; exact .cons x t (vals_strs r)
theorem vals_str_at : ∀ {ks : List Str} {us : List Value} {i : Nat} {v : Value}, L2.Vals (ks.map L2.V.str) us → us[i]? = some v → ∃ k t, ks[i]? = some k ∧ v = Value.str k t
  | [], _, i, v, .nil, e => by simp at e
  | k :: ks, _, 0, v, .cons ⟨t, h⟩ r, e => by
    obtain rfl := Option.some.inj e
    exact ⟨k, t, rfl, h⟩
  | k :: ks, _, i + 1, v, .cons h r, e => (show ∃ k' t, ks[i]? = some k' ∧ v = Value.str k' t from vals_str_at r e)
theorem uq_len {α : Type} [DecidableEq α] : ∀ l : List α, (uq l).length ≤ l.length
  | [] => Nat.le_refl _
  | x :: l => by
    have := uq_len l
    unfold uq
    by_cases h : x ∈ l
    · rw [if_pos h, List.length_cons]; omega
    · rw [if_neg h, List.length_cons, List.length_cons]; omega
section
variable {X : Cx} {pins : List (Addr × Obj)} {σ : L2.St} {H V : Hp} {s : Shared}
theorem rep_txts {K : KW} {V : Hp} : ∀ {xs : List L2.V} {ks : List Str}, RepL K V xs (ks.map PyData.str) → xs = ks.map L2.V.str
  | _, [], .nil => rfl
  | _, k :: ks, .cons r t => by cases r; rw [rep_txts t]; rfl
/-- each of a list of pairs, as it stands in the heap -/
theorem rep_prs (I : L2.Inv X pins σ H s) (sv : Same V H) : ∀ {xs : List L2.V} {ps : List (Str × Int)} {us : List Value}, RepL X.kw V xs (ps.map pairE) → L2.Vals xs us →
    us.length = ps.length ∧ ∀ (j : Nat) (v : Value), us[j]? = some v → ∃ p a, v = .ref a ∧ ps[j]? = some p ∧ PairK s.heap p a ∧ Rep X.kw V (.ref a) (pairE p)
  | _, [], _, .nil, .nil => ⟨rfl, fun j v e => by simp at e⟩
  | _, p :: ps, _, .cons r t, .cons rv tv => by
    obtain ⟨hl, ih⟩ := rep_prs I sv t tv
    refine ⟨by rw [List.length_cons, List.length_cons, hl], fun j v e => ?_⟩
    cases j with
    | succ j => exact ih j v e
    | zero =>
      obtain rfl := Option.some.inj e
      have r0 := r
      cases r with
      | @tup a ys _ hV rl =>
        obtain ⟨its, r2, ⟨o, ho, hc, n, hd⟩, _⟩ := I.tuple (sqt sv hV)
        cases rv
        cases rl with
        | cons q1 q2 => cases q2 with
          | cons q3 q4 => cases q4; cases q1; cases q3; cases r2 with
            | cons u1 u2 => cases u2 with
              | cons u3 u4 =>
                cases u4
                obtain ⟨t1, rfl⟩ := u1
                obtain ⟨t2, rfl⟩ := u3
                exact ⟨p, a, rfl, rfl, ⟨o, _, n, t1, t2, ho, hc, hd, rfl⟩, r0⟩
end
section
variable {X : Cx} {F : Fr} {a : Expr} {fa : M PyData} {p p2 q pos : Pos}
theorem pm_sortU (hu : X.A.units + 64 < cLine) (hm : X.mg "sorted" = none) (hm2 : X.mg "set" = none) (ha : PM X F a fa) (hg : Gl X "sorted" := by rfl) (hg2 : Gl X "set" := by rfl) (hc : X.calm = true := by rfl)
    (na : starEach [a] X.env = (false, eval a X.env) :: starEach [] X.env := by rfl) : PM X F (.Call (.Name "sorted" p) [.Call (.Name "set" p2) [a] [] q] [] pos) (op1 gSortU fa) := by
  refine ⟨fun pins s σ H Q I h => ?_⟩
  refine Call_ (ld_blt I hg hm boot_sorted ?_)
  refine PyProof.Rows.callWith_builtin1 (PyProof.Rows.args_cons ?_ rfl) rfl rfl
  refine Call_ (ld_blt I hg2 hm2 boot_set ?_)
  obtain ⟨V, ρ, E, g0⟩ := h
  refine PyProof.Rows.callWith_type1 (PyProof.Rows.args_cons (thn (ha.run pins s σ H (fun x H1 => ∃ (l : Addr) (V1 : Hp), x = .ref l ∧ Same V1 H1 ∧
      ((∃ (ks : List Str), SqL X.kw H1 l (ks.map L2.V.str) ∧ ks.length < 64 ∧ ∀ p, H1 p = none → Q (.ref p) (upd H1 p (.lst ((SrtQ.isort SrtQ.ltS (uq ks)).map L2.V.str)))) ∨
       (∃ (xs : List L2.V) (ps : List (Str × Int)), SqT X.kw H1 l xs ∧ RepL X.kw V1 xs (ps.map pairE) ∧ ps.length ≤ 3 ∧ ∀ ys p, RepL X.kw V1 ys ((SrtQ.isort SrtQ.lexS (uq ps)).map pairE) → H1 p = none → Q (.ref p) (upd H1 p (.lst ys))))) I ⟨V, ρ, E, Goal.bind g0 fun x dx H1 V1 ρ1 st1 r1 g1 => ?_⟩) fun v s1 ⟨x, H1, I1, r1, q1⟩ => PyProof.Rows.args_nil ?_) na) na rfl
  · obtain ⟨z, ez, q⟩ := Goal.opt st1.env g1
    have sv := st1.env.sub
    cases r1 with
    | @lst b xs ds hb rb =>
      have ez : ((txtsD ds).bind fun ks => if ks.length < 64 then some (PyData.list ((SrtQ.isort SrtQ.ltS (uq ks)).map .str)) else none) = some z := ez
      obtain ⟨ks, h1, h2⟩ := Option.bind_eq_some_iff.mp ez
      obtain ⟨h3, rfl⟩ := ite_some h2
      obtain rfl := txtsD_eq h1
      obtain rfl := rep_txts rb
      exact ⟨b, V1, rfl, sv, .inl ⟨ks, .inl (.inl (sv _ _ hb)), h3, fun p hp => q _ _ _ (Ext.new sv hp) (new_lst sv hp (repL_txts _))⟩⟩
    | @tup b xs ds hb rb =>
      have ez : ((pairsD ds).bind fun ps => if ps.length ≤ 3 then some (PyData.list ((SrtQ.isort SrtQ.lexS (uq ps)).map pairE)) else none) = some z := ez
      obtain ⟨ps, h1, h2⟩ := Option.bind_eq_some_iff.mp ez
      obtain ⟨h3, rfl⟩ := ite_some h2
      obtain rfl := pairsD_eq h1
      exact ⟨b, V1, rfl, sv, .inr ⟨xs, ps, sqt sv hb, rb, h3, fun ys p hy hp => q _ _ _ (Ext.new sv hp) (new_lst sv hp hy)⟩⟩
    | _ => cases ez
  · obtain ⟨l, V1, rfl, sv, q1⟩ := q1
    cases r1
    have lt1 : s1.heap.objs.size ≠ s1.heap.objs.size + 1 := Nat.ne_of_lt (Nat.lt_succ_self _)
    have last : ∀ (h' : Heap) (tk : Nat), (∀ b o, s1.heap.get? b = some o → h'.get? b = some o) → ∀ (t2 : Shared) (u2 : Addr) (out : List Value) (ys : List L2.V) (c2 : Nat), (∀ b o, h'.get? b = some o → t2.heap.get? b = some o) → t2.gens = s1.gens → t2.os = s1.os → h'.objs.size ≤ u2 →
        t2.heap.get? u2 = some (seqObj "list" out.toArray c2) → L2.Vals ys out → ys.length ≤ sizeLine → (H1 u2 = none → Q (.ref u2) (upd H1 u2 (.lst ys))) → EP X pins σ Q (.ref u2) t2 := fun h' tk hk t2 u2 out ys c2 k g o hp hgt rv hz q2 => by
      have I2 : Inv X pins σ H1 { s1 with heap := h', toks := tk } := I1.kept hk
      have hn : H1 u2 = none := I2.hok.fresh hp
      have J : Inv X pins σ (upd H1 u2 (.lst ys)) { ({ s1 with heap := h', toks := tk } : Shared) with heap := t2.heap, gens := t2.gens, drawn := t2.drawn, toks := t2.toks } :=
        I2.call (ch := []) (Un.laid k hp hn) (I2.hok.laid k hp ⟨hz, out, c2, rv, hgt⟩) (by rw [g]; exact I2.bare) (fun _ z => nomatch z)
      have e : t2 = { ({ s1 with heap := h', toks := tk } : Shared) with heap := t2.heap, gens := t2.gens, drawn := t2.drawn, toks := t2.toks } := by
        cases t2
        cases o
        rfl
      rw [e]
      exact ⟨.ref u2, _, J, rfl, q2 hn⟩
    rcases q1 with ⟨ks, hq, h64, q1⟩ | ⟨xs, ps, hq, rl, few, q1⟩
    · obtain ⟨its, r, pl, hz⟩ := I1.list hq
      have il : its.length = ks.length := by rw [← r.length, List.length_map]
      have sa := vals_strs r
      refine L2.call_set_lst (vs := its.toArray) (Mid := MidX X.prog X.w s1.heap.objs.size ks) (I1.ok.hd hc) pl.isList (fun A' _ => putsX (fun i v e => ?_) (by omega)) (midX_keep lt1) (fun h' e _ => midX_start e) fun h' tk md hk => ?_
      · exact vals_str_at r (by simpa using e)
      refine PyProof.Rows.args_nil ?_
      have md : MidX X.prog X.w s1.heap.objs.size ks its.toArray.size h' := md
      refine sorted_txts (s := { s1 with heap := h', toks := tk }) md (by rw [List.size_toArray, il]) (by rw [List.size_toArray, il]; exact h64) (I1.ok.hd hc) fun t2 u2 out c2 k g o hp hgt hs => ?_
      have rv := strs_vals hs
      refine last h' tk hk t2 u2 out _ c2 k g o hp hgt rv ?_ (q1 u2)
      rw [List.length_map, (SrtQ.isort_perm _).length_eq]
      have := uq_len ks
      rw [sizeLine_eq]; omega
    · obtain ⟨its, r, pl, hz⟩ := I1.tuple hq
      obtain ⟨il, at_⟩ := rep_prs I1 sv rl r
      have al : ∀ h', (∀ b o, s1.heap.get? b = some o → h'.get? b = some o) → AreP h' (s1.heap.objs.size + 1) its.toArray ps := fun h' hk j v e => by
        obtain ⟨p, a, rfl, e2, e3, _⟩ := at_ j v (by simpa using e)
        refine ⟨p, a, rfl, e2, ?_, e3.keep fun o e => hk _ o e⟩
        obtain ⟨o, vs, n, t1, t2, g, _⟩ := e3
        exact Nat.ne_of_lt (Nat.lt_succ_of_lt (Heap.lt_size g))
      refine L2.call_set_tpl (vs := its.toArray) (Mid := MidP X.w s1.heap.objs.size (s1.heap.objs.size + 1) its.toArray ps) (I1.ok.hd hc) pl (fun A' ha' => putsP (A := A') (by have h5 := ha'; omega) few) (midP_keep lt1) (fun h' e hk => midP_start e (al h' hk)) fun h' tk md hk => ?_
      refine PyProof.Rows.args_nil ?_
      obtain ⟨⟨L, es, ep, t, G, far, mem, le⟩, _⟩ := md
      rw [show its.toArray.size = ps.length by rw [List.size_toArray, il], List.take_length] at mem
      have pm : (L.map (·.2)).Perm (uq ps) := perm_uq G.nd mem
      refine sorted_pairs (s := { s1 with heap := h', toks := tk }) G (I1.ok.hd hc) fun t2 u2 out c2 k g o hp hgt po ho => ?_
      have e1 : SrtQ.isort SrtQ.lexS (L.map (·.2)) = SrtQ.isort SrtQ.lexS (uq ps) := SrtQ.perm_uniq SrtQ.swo_lexS' (fun x y h1 h2 => SrtQ.lexS_tri h1 h2) (SrtQ.isort_srtd SrtQ.swo_lexS' _) (SrtQ.isort_srtd SrtQ.swo_lexS' _) (((SrtQ.isort_perm _).trans pm).trans (SrtQ.isort_perm _).symm)
      have each : ∀ v ∈ out, ∃ p a, v = .ref a ∧ PairK h' p a ∧ Rep X.kw V1 (.ref a) (pairE p) := fun v hv => by
        obtain ⟨z, hz, e⟩ := List.mem_map.mp (po.mem_iff.mp hv)
        obtain ⟨_, hin⟩ := far z hz
        have hin : Value.ref z.1 ∈ its := by simpa using hin
        obtain ⟨j, hj, ej⟩ := List.getElem_of_mem hin
        obtain ⟨p, a, e2, e3, e4, e5⟩ := at_ j (.ref z.1) (by rw [List.getElem?_eq_getElem hj, ej])
        exact ⟨p, a, e.symm.trans e2, e4.keep fun o e => hk _ o e, e5⟩
      have rvl : ∃ ys, L2.Vals ys out ∧ RepL X.kw V1 ys ((out.map (pairAt h')).map pairE) := by
        clear hgt po ho
        induction out with
        | nil => exact ⟨[], .nil, .nil⟩
        | cons v out ih =>
          obtain ⟨ys, h1, h2⟩ := ih fun v hv => each v (List.mem_cons_of_mem _ hv)
          obtain ⟨p, a, rfl, kp, rp⟩ := each v List.mem_cons_self
          refine ⟨.ref a :: ys, .cons rfl h1, ?_⟩
          rw [List.map_cons, List.map_cons, kp.pair]
          exact .cons rp h2
      obtain ⟨ys, rv, ry⟩ := rvl
      have ho : out.map (pairAt h') = _ := ho
      rw [ho, e1] at ry
      refine last h' tk hk t2 u2 out ys c2 k g o hp hgt rv ?_ (q1 ys u2 ry)
      rw [rv.length, po.length_eq, List.length_map]
      have := G.few
      rw [sizeLine_eq]; omega
end
def gLeS : PyData → PyData → Option PyData
  | .str x, .str y => some (.bool (!SrtQ.ltS y x))
  | _, _ => none
def rLeS : R2 := fun x y H Q => ∃ i j, x = .str i ∧ y = .str j ∧ Q (.bl (!decide (j.cps.toList < i.cps.toList))) H
theorem op_leS {X : Cx} : OpR X (compareOp .LtE) rLeS := op_le_str
theorem od_leS {K : KW} : OpD K rLeS gLeS := by
  intro x y dx dy z H V Q s rx ry e q
  cases rx with
  | str i => cases ry with
    | str j => cases e; exact ⟨i, j, rfl, rfl, q _ _ _ (Ext.refl s) (.bl _)⟩
    | _ => cases e
  | _ => cases ry <;> cases e
end DL
set_option Elab.async false
set_option linter.all false
set_option maxRecDepth 100000
set_option maxHeartbeats 4000000
namespace G
open PySem PySem.Spec PyProof.Rows L2 DL
def b_is_whole : SM := (retO (andV (isi .int (vN 0)) (andV (notV (isi .bool (vN 0))) (chain gLe gLe (vN 1) (vN 0) (vN 2)))))
def m_is_whole : List PyData → R PyData := fnRun 3 3 b_is_whole
def b_is_word : SM := (retO (andV (isi .str (vN 0)) (andV (chain gLe gLe (cD (.int 1)) (opA gLen (aC (vN 0) aN)) (cD (.int 8))) (opA gAll (aC (lcM [1] (seqI (vN 0)) (setS 1) yesT (op2 gIn (vN 1) (cD (.str "abcdefghijklmnopqrstuvwxyz")))) aN)))))
def m_is_word : List PyData → R PyData := fnRun 1 2 b_is_word
def b_rise : SM := (retO (opA gAll (aC (lcM [1, 2] (opI gZip (aC (vN 0) (aC (slc (vN 0) (prt (cD (.int 1))) noPrt) aN))) (unT (gsC (setS 1) (gsC (setS 2) gsN))) yesT (op2 gLt (vN 1) (vN 2))) aN)))
def m_rise : List PyData → R PyData := fnRun 1 3 b_rise
def b_are_lines : SM := (retO (andV (isi .tuple (vN 0)) (andV (op2 gEq (opA gLen (aC (vN 0) aN)) (vN 1)) (opA gAll (aC (lcM [3] (seqI (vN 0)) (setS 3) yesT (callM m_is_whole (aC (vN 3) (aC (cD (.int 0)) (aC (op2 gSub (vN 2) (cD (.int 1))) aN))))) aN)))))
def m_are_lines : List PyData → R PyData := fnRun 3 4 b_are_lines
def b_is_ear : SM := (retO (andV (isi .tuple (vN 0)) (andV (op2 gEq (opA gLen (aC (vN 0) aN)) (cD (.int 2))) (andV (callM m_is_word (aC (op2 gIx (vN 0) (cD (.int 0))) aN)) (callM m_is_whole (aC (op2 gIx (vN 0) (cD (.int 1))) (aC (cD (.int 1)) (aC (cD (.int 3)) aN))))))))
def m_is_ear : List PyData → R PyData := fnRun 1 1 b_is_ear
def b_are_ears : SM := (retO (andV (isi .tuple (vN 0)) (andV (op2 gLe (opA gLen (aC (vN 0) aN)) (cD (.int 2))) (andV (opA gAll (aC (lcM [1] (seqI (vN 0)) (setS 1) yesT (callM m_is_ear (aC (vN 1) aN))) aN)) (callM m_rise (aC (vN 0) aN))))))
def m_are_ears : List PyData → R PyData := fnRun 1 2 b_are_ears
def b_places_for : SM := (retO (op2 gIx (opA gLstD (aC (cD (.int 1)) (aC (vN 0) (aC (op2 gMul (vN 0) (vN 0)) aN)))) (opA gLen (aC (vN 1) aN))))
def m_places_for : List PyData → R PyData := fnRun 2 2 b_places_for
def b_is_singer : SM := (seqO (ifO (orT (notT (tst (isi .tuple (vN 0)))) (orT (tst (op2 gNe (opA gLen (aC (vN 0) aN)) (cD (.int 3)))) (orT (notT (tst (callM m_is_word (aC (op2 gIx (vN 0) (cD (.int 0))) aN)))) (notT (tst (callM m_are_ears (aC (op2 gIx (vN 0) (cD (.int 1))) aN))))))) (retO (cD (.bool false))) nxO)
  (retO (callM m_are_lines (aC (op2 gIx (vN 0) (cD (.int 2))) (aC (callM m_places_for (aC (vN 1) (aC (op2 gIx (vN 0) (cD (.int 1))) aN))) (aC (vN 1) aN))))))
def m_is_singer : List PyData → R PyData := fnRun 2 2 b_is_singer
def b_is_choir : SM := (seqO (ifO (orT (notT (tst (isi .tuple (vN 0)))) (orT (tst (op2 gNe (opA gLen (aC (vN 0) aN)) (cD (.int 2)))) (notT (tst (callM m_is_whole (aC (op2 gIx (vN 0) (cD (.int 0))) (aC (cD (.int 2)) (aC (cD (.int 4)) aN)))))))) (retO (cD (.bool false))) nxO)
  (seqO (asgO (vN 0) (unT (gsC (setS 1) (gsC (setS 2) gsN))))
  (seqO (ifO (orT (notT (tst (isi .tuple (vN 2)))) (notT (tst (chain gLe gLe (cD (.int 1)) (opA gLen (aC (vN 2) aN)) (cD (.int 4)))))) (retO (cD (.bool false))) nxO)
  (seqO (ifO (orT (notT (tst (opA gAll (aC (lcM [4] (seqI (vN 2)) (setS 4) yesT (callM m_is_singer (aC (vN 4) (aC (vN 1) aN)))) aN)))) (notT (tst (callM m_rise (aC (lcM [4] (seqI (vN 2)) (setS 4) yesT (op2 gIx (vN 4) (cD (.int 0)))) aN))))) (retO (cD (.bool false))) nxO)
  (seqO (asgO (lcM [4] (seqI (vN 2)) (setS 4) yesT (op2 gIx (vN 4) (cD (.int 0)))) (setS 3))
  (retO (opA gAll (aC (lcM2 [4, 5] [5] (seqI (vN 2)) (setS 4) yesT (seqI (op2 gIx (vN 4) (cD (.int 1)))) (setS 5) yesT (op2 gIn (op2 gIx (vN 5) (cD (.int 0))) (vN 3))) aN))))))))
def m_is_choir : List PyData → R PyData := fnRun 1 6 b_is_choir
def b_need_choir : SM := (ifO (notT (tst (callM m_is_choir (aC (vN 0) aN)))) (raiseO "BadChoir") nxO)
def m_need_choir : List PyData → R PyData := fnRun 1 1 b_need_choir
def b_all_names : SM := (retO (lcM [1] (seqI (op2 gIx (vN 0) (cD (.int 1)))) (setS 1) yesT (op2 gIx (vN 1) (cD (.int 0)))))
def m_all_names : List PyData → R PyData := fnRun 1 2 b_all_names
def b_names : SM := (seqO (dropO (callM m_need_choir (aC (vN 0) aN)))
  (retO (callM m_all_names (aC (vN 0) aN))))
def m_names : List PyData → R PyData := fnRun 1 1 b_names
def b_silence : SM := (seqO (dropO (callM m_need_choir (aC (vN 0) aN)))
  (retO (op2 gMul (opA gTupD (aC (opA gTupD (aC (cD (.int 0)) (aC (cD (.int 0)) (aC (cD (.int 0)) aN)))) aN)) (opA gLen (aC (op2 gIx (vN 0) (cD (.int 1))) aN)))))
def m_silence : List PyData → R PyData := fnRun 1 1 b_silence
def b_is_good_standing : SM := (seqO (ifO (orT (notT (tst (isi .tuple (vN 1)))) (tst (op2 gNe (opA gLen (aC (vN 1) aN)) (opA gLen (aC (op2 gIx (vN 0) (cD (.int 1))) aN))))) (retO (cD (.bool false))) nxO)
  (retO (opA gAll (aC (lcM [2] (seqI (vN 1)) (setS 2) yesT (callM m_are_lines (aC (vN 2) (aC (cD (.int 3)) (aC (op2 gIx (vN 0) (cD (.int 0))) aN))))) aN))))
def m_is_good_standing : List PyData → R PyData := fnRun 2 3 b_is_good_standing
def b_need_standing : SM := (ifO (notT (tst (callM m_is_good_standing (aC (vN 0) (aC (vN 1) aN))))) (raiseO "BadStanding") nxO)
def m_need_standing : List PyData → R PyData := fnRun 2 2 b_need_standing
def b_number_of : SM := (retO (opM gIndex (callM m_all_names (aC (vN 0) aN)) (aC (vN 1) aN)))
def m_number_of : List PyData → R PyData := fnRun 2 2 b_number_of
def b_heard_by : SM := (retO (opA gTuple (aC (lcM [3, 4] (seqI (op2 gIx (vN 2) (cD (.int 1)))) (unT (gsC (setS 3) (gsC (setS 4) gsN))) yesT (op2 gIx (op2 gIx (vN 1) (callM m_number_of (aC (vN 0) (aC (vN 3) aN)))) (op2 gSub (cD (.int 3)) (vN 4)))) aN)))
def m_heard_by : List PyData → R PyData := fnRun 3 5 b_heard_by
def b_place_of_L1 : SM := (asgO (op2 gAdd (op2 gMul (vN 2) (vN 0)) (vN 3)) (setS 2))
def b_place_of : SM := (seqO (asgO (cD (.int 0)) (setS 2))
  (seqO (forO (seqI (vN 1)) (setS 3) b_place_of_L1)
  (retO (vN 2))))
def m_place_of : List PyData → R PyData := fnRun 2 4 b_place_of
def b_table_line : SM := (retO (op2 gIx (op2 gIx (vN 2) (cD (.int 2))) (callM m_place_of (aC (op2 gIx (vN 0) (cD (.int 0))) (aC (callM m_heard_by (aC (vN 0) (aC (vN 1) (aC (vN 2) aN)))) aN)))))
def m_table_line : List PyData → R PyData := fnRun 3 3 b_table_line
def b_all_next : SM := (retO (opA gTuple (aC (lcM [2] (seqI (op2 gIx (vN 0) (cD (.int 1)))) (setS 2) yesT (callM m_table_line (aC (vN 0) (aC (vN 1) (aC (vN 2) aN))))) aN)))
def m_all_next : List PyData → R PyData := fnRun 2 3 b_all_next
def b_behind : SM := (retO (opA gTuple (aC (lcM [2, 3] (opI gZip (aC (vN 0) (aC (vN 1) aN))) (unT (gsC (setS 2) (gsC (setS 3) gsN))) yesT (op2 gAdd (slc (vN 2) (prt (cD (.int 1))) noPrt) (opA gTupD (aC (vN 3) aN)))) aN)))
def m_behind : List PyData → R PyData := fnRun 2 4 b_behind
def b_on : SM := (retO (callM m_behind (aC (vN 1) (aC (callM m_all_next (aC (vN 0) (aC (vN 1) aN))) aN))))
def m_on : List PyData → R PyData := fnRun 2 2 b_on
def b_do_count_L1 : SM := (seqO (asgO (lcM [7] (opI rg1 (aC (vN 0) aN)) (setS 7) yesT (ifV (tst (op2 gEq (vN 2) (cD (.int 0)))) (opA gTupD (aC (vN 7) (aC (vN 5) aN))) (opA gTupD (aC (vN 5) (aC (vN 7) aN))))) (setS 6))
  (ifO (tst (op2 gGt (op1 setLen (lcM [8] (seqI (vN 6)) (setS 8) yesT (op2 gIx (vN 4) (callM m_place_of (aC (vN 0) (aC (slc (vN 8) noPrt (prt (opA gLen (aC (vN 3) aN)))) aN)))))) (cD (.int 1)))) (retO (cD (.bool true))) nxO))
def b_do_count : SM := (seqO (asgO (opA gTupD (aC (op2 gIx (vN 1) (cD (.int 1))) (aC (op2 gIx (vN 1) (cD (.int 2))) aN))) (unT (gsC (setS 3) (gsC (setS 4) gsN))))
  (seqO (forO (opI rg1 (aC (ifV (tst (op2 gEq (opA gLen (aC (vN 3) aN)) (cD (.int 2)))) (vN 0) (cD (.int 1))) aN)) (setS 5) b_do_count_L1)
  (retO (cD (.bool false)))))
def m_do_count : List PyData → R PyData := fnRun 3 9 b_do_count
def b_ears_that_count : SM := (retO (opA gTuple (aC (lcM [2, 3] (opI gEnum (aC (op2 gIx (vN 1) (cD (.int 1))) aN)) (unT (gsC (setS 2) (gsC (setS 3) gsN))) (tst (callM m_do_count (aC (vN 0) (aC (vN 1) (aC (vN 2) aN))))) (vN 3)) aN)))
def m_ears_that_count : List PyData → R PyData := fnRun 2 4 b_ears_that_count
def b_lean_singer : SM := (seqO (asgO (vN 1) (unT (gsC (setS 2) (gsC (setS 3) (gsC (setS 4) gsN)))))
  (seqO (asgO (callM m_ears_that_count (aC (vN 0) (aC (vN 1) aN))) (setS 5))
  (seqO (ifO (tst (op2 gEq (vN 5) (vN 3))) (retO (vN 1)) nxO)
  (seqO (ifO (tst (op2 gEq (vN 5) (opA gTupD aN))) (retO (opA gTupD (aC (vN 2) (aC (opA gTupD aN) (aC (slc (vN 4) noPrt (prt (cD (.int 1)))) aN))))) nxO)
  (seqO (asgO (lcM [7] (opI rg1 (aC (vN 0) aN)) (setS 7) yesT (ifV (tst (op2 gEq (op2 gIx (vN 5) (cD (.int 0))) (op2 gIx (vN 3) (cD (.int 0))))) (op2 gMul (vN 7) (vN 0)) (vN 7))) (setS 6))
  (retO (opA gTupD (aC (vN 2) (aC (vN 5) (aC (opA gTuple (aC (lcM [8] (seqI (vN 6)) (setS 8) yesT (op2 gIx (vN 4) (vN 8))) aN)) aN))))))))))
def m_lean_singer : List PyData → R PyData := fnRun 2 9 b_lean_singer
def b_leaned : SM := (retO (opA gTupD (aC (op2 gIx (vN 0) (cD (.int 0))) (aC (opA gTuple (aC (lcM [1] (seqI (op2 gIx (vN 0) (cD (.int 1)))) (setS 1) yesT (callM m_lean_singer (aC (op2 gIx (vN 0) (cD (.int 0))) (aC (vN 1) aN)))) aN)) aN))))
def m_leaned : List PyData → R PyData := fnRun 1 2 b_leaned
def b_lean : SM := (seqO (dropO (callM m_need_choir (aC (vN 0) aN)))
  (retO (callM m_leaned (aC (vN 0) aN))))
def m_lean : List PyData → R PyData := fnRun 1 1 b_lean
def b_need_both : SM := (seqO (dropO (callM m_need_choir (aC (vN 0) aN)))
  (dropO (callM m_need_standing (aC (vN 0) (aC (vN 1) aN)))))
def m_need_both : List PyData → R PyData := fnRun 2 2 b_need_both
def b_need_beats : SM := (ifO (notT (tst (callM m_is_whole (aC (vN 0) (aC (cD (.int 0)) (aC (cD (.int 500)) aN)))))) (raiseO "BadNumber") nxO)
def m_need_beats : List PyData → R PyData := fnRun 1 1 b_need_beats
def b_rows_of_L1 : SM := (seqO (appO 3 (callM m_all_next (aC (vN 0) (aC (vN 1) aN))))
  (asgO (callM m_on (aC (vN 0) (aC (vN 1) aN))) (setS 1)))
def b_rows_of : SM := (seqO (ownO 3 aN)
  (seqO (forO (opI rg1 (aC (vN 2) aN)) (setS 4) b_rows_of_L1)
  (demO false (retO (vN 3)))))
def m_rows_of : List PyData → R PyData := fnRun 3 5 b_rows_of
def b_song : SM := (seqO (dropO (callM m_need_both (aC (vN 0) (aC (vN 1) aN))))
  (seqO (dropO (callM m_need_beats (aC (vN 2) aN)))
  (retO (callM m_rows_of (aC (vN 0) (aC (vN 1) (aC (vN 2) aN)))))))
def m_song : List PyData → R PyData := fnRun 3 3 b_song
def b_singer_text : SM := (seqO (asgO (vN 0) (unT (gsC (setS 1) (gsC (setS 2) (gsC (setS 3) gsN)))))
  (seqO (asgO (lcM [5, 6] (seqI (vN 2)) (unT (gsC (setS 5) (gsC (setS 6) gsN))) yesT (opF "-" (vN 5) (vN 6))) (setS 4))
  (retO (opS gJoin (cD (.str " ")) (op2 gAdd (op2 gAdd (opA gLstD (aC (vN 1) aN)) (vN 4)) (opA gLstD (aC (cD (.str ":")) (aC (opS gJoin (cD (.str "")) (lcM [7] (seqI (vN 3)) (setS 7) yesT (opA gStr (aC (vN 7) aN)))) aN))))))))
def m_singer_text : List PyData → R PyData := fnRun 1 8 b_singer_text
def b_choir_text : SM := (seqO (dropO (callM m_need_choir (aC (vN 0) aN)))
  (retO (opS gJoin (cD (.str "\n")) (op2 gAdd (opA gLstD (aC (opA gStr (aC (op2 gIx (vN 0) (cD (.int 0))) aN)) aN)) (lcM [1] (seqI (op2 gIx (vN 0) (cD (.int 1)))) (setS 1) yesT (callM m_singer_text (aC (vN 1) aN)))))))
def m_choir_text : List PyData → R PyData := fnRun 1 2 b_choir_text
def b_law_drawn : SM := (seqO (asgO (op2 gMod (op2 gAdd (op2 gMul (vN 0) (cD (.int 6364136223846793005))) (op2 gMul (op2 gAdd (vN 1) (cD (.int 1))) (cD (.int 1442695040888963407)))) (cD (.int 340282366920938463463374607431768211507))) (setS 2))
  (seqO (asgO (op2 gMod (op2 gMul (vN 2) (vN 2)) (cD (.int 340282366920938463463374607431768211297))) (setS 2))
  (seqO (asgO (op2 gMul (op2 gMul (op2 gAdd (op2 gMod (vN 2) (cD (.int 18446744073709551557))) (cD (.int 1))) (op2 gAdd (op2 gDiv (vN 2) (cD (.int 18446744073709551557))) (cD (.int 1)))) (vN 2)) (setS 2))
  (retO (op2 gMod (vN 2) (cD (.int 340282366920938463463374607431768211507)))))))
def m_law_drawn : List PyData → R PyData := fnRun 2 3 b_law_drawn
def b_law_roll : SM := (seqO (ifO (tst (op2 gGe (ixO 0 (cD (.int 0))) (op2 gPow (cD (.int 10)) (cD (.int 18))))) (seqO (asgO (op2 gMod (ixO 0 (cD (.int 0))) (vN 1)) (setS 2))
  (seqO (sixO 0 (cD (.int 0)) (op2 gDiv (ixO 0 (cD (.int 0))) (vN 1)))
  (retO (vN 2)))) nxO)
  (seqO (sixO 0 (cD (.int 1)) (op2 gAdd (ixO 0 (cD (.int 1))) (cD (.int 1))))
  (retO (op2 gMod (op2 gDiv (callM m_law_drawn (aC (ixO 0 (cD (.int 0))) (aC (ixO 0 (cD (.int 1))) aN))) (cD (.int 8))) (vN 1)))))
def m_law_roll : PyData → List PyData → R (PyData × PyData) := fnRunL 1 3 b_law_roll
def b_law_term (c : Str) : SM := (seqO (asgO (opA gLstD (aC (HD.isE c "BadChoir") (aC (HD.isE c "BadName") (aC (HD.isE c "BadStanding") (aC (HD.isE c "BadNumber") aN))))) (setS 1))
  (seqO (asgO (op2 gAdd (vN 1) (opA gLstD (aC (HD.isE c "BadRows") (aC (HD.isE c "BadLead") (aC (HD.isE c "BadWish") aN))))) (setS 1))
  (seqO (asgO (op2 gAdd (vN 1) (opA gLstD (aC (HD.isE c "Clash") (aC (HD.isE c "Nothing") (aC (HD.isE c "Full") (aC (HD.isE c "BadText") aN)))))) (setS 1))
  (seqO (asgO (opA gLstD (aC (cD (.str "BadChoir")) (aC (cD (.str "BadName")) (aC (cD (.str "BadStanding")) (aC (cD (.str "BadNumber")) (aC (cD (.str "BadRows")) (aC (cD (.str "BadLead")) (aC (cD (.str "BadWish")) aN)))))))) (setS 2))
  (seqO (asgO (op2 gAdd (vN 2) (opA gLstD (aC (cD (.str "Clash")) (aC (cD (.str "Nothing")) (aC (cD (.str "Full")) (aC (cD (.str "BadText")) aN)))))) (setS 2))
  (seqO (ifO (orT (tst (op2 gNe (opA gSum (aC (op1 HD.gIntsB (vN 1)) aN)) (cD (.int 1)))) (notT (tst (cD (.bool true))))) (retO (opA gTupD (aC (cD (.str "refused")) (aC (cD (.str "other")) aN)))) nxO)
  (retO (opA gTupD (aC (cD (.str "refused")) (aC (op2 gIx (vN 2) (opM gIndex (vN 1) (aC (cD (.bool true)) aN))) aN))))))))))
theorem v_law_term : ∀ c ∈ HD.excs, ∃ ρ', b_law_term c (List.replicate 4 .no) = .rt (HD.refusedD c) ρ' := by
  intro c hc
  simp only [HD.excs, List.mem_cons, List.not_mem_nil, or_false] at hc
  rcases hc with rfl | rfl | rfl | rfl | rfl | rfl | rfl | rfl | rfl | rfl <;> exact ⟨_, rfl⟩
def b_law_any_singers_L1 : SM := (seqO (asgO (opA gTupD (aC (op2 gIx (vN 2) (callL 0 m_law_roll (aC (opA gLen (aC (vN 2) aN)) aN))) (aC (op2 gAdd (cD (.int 1)) (callL 0 m_law_roll (aC (cD (.int 3)) aN))) aN))) (setS 8))
  (ifO (brwT true (tst (op2 gNotIn (vN 8) (vN 5)))) (appO 5 (vN 8)) nxO))
def b_law_any_singers_L2 : SM := (seqO (ownO 5 aN)
  (seqO (forO (opI rg1 (aC (callL 0 m_law_roll (aC (cD (.int 3)) aN)) aN)) (setS 6) b_law_any_singers_L1)
  (seqO (asgO (op2 gIx (opA gLstD (aC (cD (.int 1)) (aC (vN 1) (aC (op2 gMul (vN 1) (vN 1)) aN)))) (brw true (opA gLen (aC (vN 5) aN)))) (setS 7))
  (appO 3 (opA gTupD (aC (vN 4) (aC (brw true (opA gTuple (aC (opA gSorted (aC (vN 5) aN)) aN))) (aC (opA gTuple (aC (lcM [9] (opI rg1 (aC (vN 7) aN)) (setS 9) yesT (callL 0 m_law_roll (aC (vN 1) aN))) aN)) aN))))))))
def b_law_any_singers : SM := (seqO (ownO 3 aN)
  (seqO (forO (seqI (vN 2)) (setS 4) b_law_any_singers_L2)
  (retO (brw true (opA gTuple (aC (vN 3) aN))))))
def m_law_any_singers : PyData → List PyData → R (PyData × PyData) := fnRunL 2 10 b_law_any_singers
def b_law_any_choir : SM := (seqO (asgO (callL 0 m_law_roll (aC (cD (.int 6)) aN)) (setS 1))
  (seqO (asgO (op2 gIx (opA gLstD (aC (opA gTupD (aC (cD (.int 2)) (aC (cD (.int 1)) aN))) (aC (opA gTupD (aC (cD (.int 2)) (aC (cD (.int 2)) aN))) (aC (opA gTupD (aC (cD (.int 2)) (aC (cD (.int 3)) aN))) (aC (opA gTupD (aC (cD (.int 3)) (aC (cD (.int 1)) aN))) (aC (opA gTupD (aC (cD (.int 3)) (aC (cD (.int 2)) aN))) (aC (opA gTupD (aC (cD (.int 4)) (aC (cD (.int 1)) aN))) aN))))))) (vN 1)) (unT (gsC (setS 2) (gsC (setS 3) gsN))))
  (retO (opA gTupD (aC (vN 2) (aC (callL 0 m_law_any_singers (aC (vN 2) (aC (slc (opA gLstD (aC (cD (.str "ann")) (aC (cD (.str "bob")) (aC (cD (.str "cy")) aN)))) noPrt (prt (vN 3))) aN))) aN))))))
def m_law_any_choir : PyData → List PyData → R (PyData × PyData) := fnRunL 0 4 b_law_any_choir
def b_law_crew : SM := (retO (lcM [1] (seqI (op2 gIx (vN 0) (cD (.int 1)))) (setS 1) yesT (op2 gIx (vN 1) (cD (.int 0)))))
def m_law_crew : List PyData → R PyData := fnRun 1 2 b_law_crew
def b_law_is_word : SM := (retO (andV (isi .str (vN 0)) (andV (chain gLt gLt (cD (.int 0)) (opA gLen (aC (vN 0) aN)) (cD (.int 9))) (op2 gEq (lcM [1] (seqI (vN 0)) (setS 1) (notT (tst (chain gLeS gLeS (cD (.str "a")) (vN 1) (cD (.str "z"))))) (vN 1)) (opA gLstD aN)))))
def m_law_is_word : List PyData → R PyData := fnRun 1 2 b_law_is_word
def b_law_is_number : SM := (retO (andV (isi .int (vN 0)) (andV (notV (isi .bool (vN 0))) (chain gLe gLe (vN 1) (vN 0) (vN 2)))))
def m_law_is_number : List PyData → R PyData := fnRun 3 3 b_law_is_number
def b_law_is_own_singer_L1 : SM := (seqO (ifO (orT (notT (tst (isi .tuple (vN 3)))) (orT (tst (op2 gNe (opA gLen (aC (vN 3) aN)) (cD (.int 2)))) (notT (tst (callM m_law_is_word (aC (op2 gIx (vN 3) (cD (.int 0))) aN)))))) (retO (cD (.bool false))) nxO)
  (seqO (ifO (notT (tst (callM m_law_is_number (aC (op2 gIx (vN 3) (cD (.int 1))) (aC (cD (.int 1)) (aC (cD (.int 3)) aN)))))) (retO (cD (.bool false))) nxO)
  (ifO (tst (op2 gNotIn (op2 gIx (vN 3) (cD (.int 0))) (vN 2))) (retO (cD (.bool false))) nxO)))
def b_law_is_own_singer : SM := (seqO (ifO (orT (notT (tst (isi .tuple (vN 0)))) (orT (tst (op2 gNe (opA gLen (aC (vN 0) aN)) (cD (.int 3)))) (notT (tst (callM m_law_is_word (aC (op2 gIx (vN 0) (cD (.int 0))) aN)))))) (retO (cD (.bool false))) nxO)
  (seqO (ifO (notT (tst (isi .tuple (op2 gIx (vN 0) (cD (.int 1)))))) (retO (cD (.bool false))) nxO)
  (seqO (forO (seqI (op2 gIx (vN 0) (cD (.int 1)))) (setS 3) b_law_is_own_singer_L1)
  (seqO (ifO (orT (tst (op2 gGt (opA gLen (aC (op2 gIx (vN 0) (cD (.int 1))) aN)) (cD (.int 2)))) (orT (tst (op2 gNe (opA gList (aC (op2 gIx (vN 0) (cD (.int 1))) aN)) (op1 gSortU (op2 gIx (vN 0) (cD (.int 1)))))) (notT (tst (isi .tuple (op2 gIx (vN 0) (cD (.int 2)))))))) (retO (cD (.bool false))) nxO)
  (seqO (ifO (tst (op2 gNe (opA gLen (aC (op2 gIx (vN 0) (cD (.int 2))) aN)) (op2 gIx (opA gLstD (aC (cD (.int 1)) (aC (vN 1) (aC (op2 gMul (vN 1) (vN 1)) aN)))) (opA gLen (aC (op2 gIx (vN 0) (cD (.int 1))) aN))))) (retO (cD (.bool false))) nxO)
  (retO (op2 gEq (lcM [4] (seqI (op2 gIx (vN 0) (cD (.int 2)))) (setS 4) (notT (tst (callM m_law_is_number (aC (vN 4) (aC (cD (.int 0)) (aC (op2 gSub (vN 1) (cD (.int 1))) aN)))))) (vN 4)) (opA gLstD aN))))))))
def m_law_is_own_singer : List PyData → R PyData := fnRun 3 5 b_law_is_own_singer
end G
set_option Elab.async false
set_option linter.all false
set_option maxRecDepth 100000
set_option maxHeartbeats 4000000
namespace G
open PySem PySem.Spec PyProof.Rows L2 DL
def b1_Running_init : SM := (dropO (callM m_need_choir (aC (vN 1) aN)))
def b2_Running_init : SM := (dropO (callM m_need_standing (aC (vN 1) (aC (vN 2) aN))))
def m_Running_init : List PyData → R Ob := initR 3 b1_Running_init b2_Running_init
end G
set_option Elab.async false
set_option linter.all false
set_option maxRecDepth 100000
set_option maxHeartbeats 4000000
namespace G
open PySem PySem.Spec PyProof.Rows L2 DL
def b_law_L1 : SM := (seqO (par2 11 12 (aC (callL 1 m_law_roll (aC (opA gLen (aC (vN 4) aN)) aN)) (aC (callL 1 m_law_roll (aC (cD (.int 3)) aN)) aN)))
  (seqO (asgO (opA gLstD (aC (opA gLstD (aC (cD (.str "Ann")) (aC (cD (.str "")) (aC (cD (.int 5)) (aC (cD (.str "zed")) (aC (cD (.str "bob")) aN)))))) aN)) (setS 13))
  (seqO (asgO (op2 gAdd (vN 13) (opA gLstD (aC (opA gLstD (aC (opA gTupD aN) (aC (opA gTupD (aC (opA gTupD (aC (cD (.str "ann")) (aC (cD (.int 1)) aN))) aN)) (aC (opA gTupD (aC (opA gTupD (aC (cD (.str "ann")) (aC (cD (.int 4)) aN))) aN)) (aC (opA gTupD (aC (opA gTupD (aC (cD (.str "dee")) (aC (cD (.int 1)) aN))) aN)) (aC (opA gTupD (aC (opA gTupD (aC (cD (.str "ann")) (aC (cD (.int 2)) aN))) (aC (opA gTupD (aC (cD (.str "ann")) (aC (cD (.int 1)) aN))) aN))) aN)))))) aN))) (setS 13))
  (seqO (asgO (op2 gAdd (vN 13) (opA gLstD (aC (opA gLstD (aC (opA gTupD aN) (aC (opA gTupD (aC (cD (.int 0)) aN)) (aC (op2 gMul (opA gTupD (aC (cD (.int 1)) aN)) (vN 3)) (aC (opA gTupD (aC (vN 3) aN)) (aC (opA gTupD (aC (cD (.int 0)) (aC (cD (.bool true)) aN))) aN)))))) aN))) (setS 13))
  (seqO (asgO (op2 gAdd (op2 gAdd (slc (op2 gIx (vN 4) (vN 11)) noPrt (prt (vN 12))) (opA gTupD (aC (op2 gIx (op2 gIx (vN 13) (vN 12)) (callL 1 m_law_roll (aC (cD (.int 5)) aN))) aN))) (slc (op2 gIx (vN 4) (vN 11)) (prt (op2 gAdd (vN 12) (cD (.int 1)))) noPrt)) (setS 14))
  (seqO (asgO (opA gTupD (aC (vN 3) (aC (op2 gAdd (op2 gAdd (slc (vN 4) noPrt (prt (vN 11))) (opA gTupD (aC (vN 14) aN))) (slc (vN 4) (prt (op2 gAdd (vN 11) (cD (.int 1)))) noPrt)) aN))) (setS 15))
  (seqO (asgO (lcM [20] (seqI (op2 gIx (vN 15) (cD (.int 1)))) (setS 20) yesT (op2 gIx (vN 20) (cD (.int 0)))) (setS 16))
  (seqO (asgO (op2 gEq (lcM [20] (seqI (op2 gIx (vN 15) (cD (.int 1)))) (setS 20) (notT (tst (callM m_law_is_own_singer (aC (vN 20) (aC (vN 3) (aC (vN 16) aN)))))) (vN 20)) (opA gLstD aN)) (setS 17))
  (seqO (asgO (andV (vN 17) (op2 gEq (vN 16) (op1 gSortU (vN 16)))) (setS 18))
  (ifO (tst (op2 gNe (callM m_is_choir (aC (vN 15) aN)) (vN 18))) (retO (cD (.bool false))) nxO))))))))))
def b_law_L2 : SM := (seqO (ownO 19 (aC (HD.toldM (callM m_names (aC (vN 10) aN))) aN))
  (seqO (appO 19 (HD.toldM (callM m_silence (aC (vN 10) aN))))
  (seqO (appO 19 (HD.toldM (callM m_song (aC (vN 10) (aC (cD .none) (aC (cD .none) aN))))))
  (seqO (appO 19 (HD.toldM (callM m_lean (aC (vN 10) aN))))
  (seqO (appO 19 (HD.toldM (callM m_choir_text (aC (vN 10) aN))))
  (seqO (appO 19 (HD.toldM (makeX m_Running_init (aC (vN 10) (aC (cD .none) aN)))))
  (ifO (brwT false (orT (tst (op2 gIsNot (callM m_is_choir (aC (vN 10) aN)) (cD (.bool false)))) (tst (op2 gNe (vN 19) (op2 gMul (opA gLstD (aC (opA gTupD (aC (cD (.str "refused")) (aC (cD (.str "BadChoir")) aN))) aN)) (cD (.int 6))))))) (retO (cD (.bool false))) nxO)))))))
def b_law : SM := (seqO (asgO (callL 1 m_law_any_choir aN) (setS 2))
  (seqO (asgO (vN 2) (unT (gsC (setS 3) (gsC (setS 4) gsN))))
  (seqO (asgO (callM m_law_crew (aC (vN 2) aN)) (setS 5))
  (seqO (ifO (orT (tst (op2 gIsNot (callM m_is_choir (aC (vN 2) aN)) (cD (.bool true)))) (tst (op2 gNe (callM m_names (aC (vN 2) aN)) (vN 5)))) (retO (cD (.bool false))) nxO)
  (seqO (ifO (tst (op2 gNe (callM m_silence (aC (vN 2) aN)) (op2 gMul (opA gTupD (aC (opA gTupD (aC (cD (.int 0)) (aC (cD (.int 0)) (aC (cD (.int 0)) aN)))) aN)) (opA gLen (aC (vN 5) aN))))) (retO (cD (.bool false))) nxO)
  (seqO (forO (opI rg1 (aC (cD (.int 10)) aN)) (setS 6) b_law_L1)
  (seqO (asgO (opA gTupD (aC (cD (.str "ann")) (aC (opA gTupD aN) (aC (opA gTupD (aC (cD (.int 0)) aN)) aN)))) (setS 7))
  (seqO (asgO (opA gTuple (aC (lcM [21] (seqI (cD (.str "abcde"))) (setS 21) yesT (opA gTupD (aC (op2 gAdd (cD (.str "s")) (vN 21)) (aC (opA gTupD aN) (aC (opA gTupD (aC (cD (.int 0)) aN)) aN))))) aN)) (setS 8))
  (seqO (asgO (opA gLstD (aC (cD .none) (aC (cD (.int 5)) (aC (opA gTupD aN) (aC (opA gTupD (aC (cD (.int 2)) aN)) (aC (opA gLstD (aC (cD (.int 2)) (aC (vN 4) aN))) (aC (opA gTupD (aC (cD (.int 1)) (aC (opA gTupD (aC (vN 7) aN)) aN))) (aC (opA gTupD (aC (cD (.int 5)) (aC (opA gTupD (aC (vN 7) aN)) aN))) (aC (opA gTupD (aC (cD (.bool true)) (aC (opA gTupD (aC (vN 7) aN)) aN))) aN))))))))) (setS 9))
  (seqO (asgO (op2 gAdd (vN 9) (opA gLstD (aC (opA gTupD (aC (cD (.int 2)) (aC (opA gTupD aN) aN))) (aC (opA gTupD (aC (cD (.int 2)) (aC (opA gLstD (aC (vN 7) aN)) aN))) (aC (opA gTupD (aC (cD (.int 2)) (aC (opA gTupD (aC (vN 7) (aC (vN 7) aN))) aN))) (aC (opA gTupD (aC (cD (.int 2)) (aC (vN 8) aN))) aN)))))) (setS 9))
  (seqO (forO (seqI (vN 9)) (setS 10) b_law_L2)
  (ifO (orT (tst (op2 gIsNot (callM m_is_choir (aC (opA gTupD (aC (cD (.int 4)) (aC (slc (vN 8) noPrt (prt (cD (.int 4)))) aN))) aN)) (cD (.bool true)))) (tst (op2 gIsNot (callM m_is_choir (aC (opA gTupD (aC (cD (.int 2)) (aC (opA gTupD (aC (vN 7) aN)) aN))) aN)) (cD (.bool true))))) (retO (cD (.bool false))) nxO))))))))))))
abbrev law_n : Nat := 22
abbrev law_di : Nat := 1
end G
set_option Elab.async false
set_option linter.all false
set_option maxRecDepth 100000
set_option maxHeartbeats 4000000
namespace G
open PySem PySem.Spec PyProof.Rows L2 DL
variable [TabCtx]
structure Tx (K : PySem.W.Frag) (mg : Str → Option Value) : Prop where
  f_wall : ∃ fd, FunD K "_wall" "_wall" (defArgs s_wall) (defBody s_wall) (defScope s_wall) [] [] (He.ga K "_wall") fd
  g_wall : mg "_wall" = some (.ref (He.ga K "_wall"))
  f_is_whole : ∃ fd, FunD K "is_whole" "is_whole" (defArgs s_is_whole) (defBody s_is_whole) (defScope s_is_whole) [] [] (He.ga K "is_whole") fd
  g_is_whole : mg "is_whole" = some (.ref (He.ga K "is_whole"))
  f_is_word : ∃ fd, FunD K "is_word" "is_word" (defArgs s_is_word) (defBody s_is_word) (defScope s_is_word) [] [] (He.ga K "is_word") fd
  g_is_word : mg "is_word" = some (.ref (He.ga K "is_word"))
  f_rise : ∃ fd, FunD K "rise" "rise" (defArgs s_rise) (defBody s_rise) (defScope s_rise) [] [] (He.ga K "rise") fd
  g_rise : mg "rise" = some (.ref (He.ga K "rise"))
  f_are_lines : ∃ fd, FunD K "are_lines" "are_lines" (defArgs s_are_lines) (defBody s_are_lines) (defScope s_are_lines) [] [] (He.ga K "are_lines") fd
  g_are_lines : mg "are_lines" = some (.ref (He.ga K "are_lines"))
  f_is_ear : ∃ fd, FunD K "is_ear" "is_ear" (defArgs s_is_ear) (defBody s_is_ear) (defScope s_is_ear) [] [] (He.ga K "is_ear") fd
  g_is_ear : mg "is_ear" = some (.ref (He.ga K "is_ear"))
  f_are_ears : ∃ fd, FunD K "are_ears" "are_ears" (defArgs s_are_ears) (defBody s_are_ears) (defScope s_are_ears) [] [] (He.ga K "are_ears") fd
  g_are_ears : mg "are_ears" = some (.ref (He.ga K "are_ears"))
  f_places_for : ∃ fd, FunD K "places_for" "places_for" (defArgs s_places_for) (defBody s_places_for) (defScope s_places_for) [] [] (He.ga K "places_for") fd
  g_places_for : mg "places_for" = some (.ref (He.ga K "places_for"))
  f_is_singer : ∃ fd, FunD K "is_singer" "is_singer" (defArgs s_is_singer) (defBody s_is_singer) (defScope s_is_singer) [] [] (He.ga K "is_singer") fd
  g_is_singer : mg "is_singer" = some (.ref (He.ga K "is_singer"))
  f_is_choir : ∃ fd, FunD K "is_choir" "is_choir" (defArgs s_is_choir) (defBody s_is_choir) (defScope s_is_choir) [] [] (He.ga K "is_choir") fd
  g_is_choir : mg "is_choir" = some (.ref (He.ga K "is_choir"))
  f_need_choir : ∃ fd, FunD K "need_choir" "need_choir" (defArgs s_need_choir) (defBody s_need_choir) (defScope s_need_choir) [] [] (He.ga K "need_choir") fd
  g_need_choir : mg "need_choir" = some (.ref (He.ga K "need_choir"))
  f_all_names : ∃ fd, FunD K "all_names" "all_names" (defArgs s_all_names) (defBody s_all_names) (defScope s_all_names) [] [] (He.ga K "all_names") fd
  g_all_names : mg "all_names" = some (.ref (He.ga K "all_names"))
  f_names : ∃ fd, FunD K "names" "names" (defArgs s_names) (defBody s_names) (defScope s_names) [] [] (He.ga K "names") fd
  g_names : mg "names" = some (.ref (He.ga K "names"))
  f_silence : ∃ fd, FunD K "silence" "silence" (defArgs s_silence) (defBody s_silence) (defScope s_silence) [] [] (He.ga K "silence") fd
  g_silence : mg "silence" = some (.ref (He.ga K "silence"))
  f_is_good_standing : ∃ fd, FunD K "is_good_standing" "is_good_standing" (defArgs s_is_good_standing) (defBody s_is_good_standing) (defScope s_is_good_standing) [] [] (He.ga K "is_good_standing") fd
  g_is_good_standing : mg "is_good_standing" = some (.ref (He.ga K "is_good_standing"))
  f_need_standing : ∃ fd, FunD K "need_standing" "need_standing" (defArgs s_need_standing) (defBody s_need_standing) (defScope s_need_standing) [] [] (He.ga K "need_standing") fd
  g_need_standing : mg "need_standing" = some (.ref (He.ga K "need_standing"))
  f_number_of : ∃ fd, FunD K "number_of" "number_of" (defArgs s_number_of) (defBody s_number_of) (defScope s_number_of) [] [] (He.ga K "number_of") fd
  g_number_of : mg "number_of" = some (.ref (He.ga K "number_of"))
  f_heard_by : ∃ fd, FunD K "heard_by" "heard_by" (defArgs s_heard_by) (defBody s_heard_by) (defScope s_heard_by) [] [] (He.ga K "heard_by") fd
  g_heard_by : mg "heard_by" = some (.ref (He.ga K "heard_by"))
  f_place_of : ∃ fd, FunD K "place_of" "place_of" (defArgs s_place_of) (defBody s_place_of) (defScope s_place_of) [] [] (He.ga K "place_of") fd
  g_place_of : mg "place_of" = some (.ref (He.ga K "place_of"))
  f_table_line : ∃ fd, FunD K "table_line" "table_line" (defArgs s_table_line) (defBody s_table_line) (defScope s_table_line) [] [] (He.ga K "table_line") fd
  g_table_line : mg "table_line" = some (.ref (He.ga K "table_line"))
  f_all_next : ∃ fd, FunD K "all_next" "all_next" (defArgs s_all_next) (defBody s_all_next) (defScope s_all_next) [] [] (He.ga K "all_next") fd
  g_all_next : mg "all_next" = some (.ref (He.ga K "all_next"))
  f_behind : ∃ fd, FunD K "behind" "behind" (defArgs s_behind) (defBody s_behind) (defScope s_behind) [] [] (He.ga K "behind") fd
  g_behind : mg "behind" = some (.ref (He.ga K "behind"))
  f_on : ∃ fd, FunD K "on" "on" (defArgs s_on) (defBody s_on) (defScope s_on) [] [] (He.ga K "on") fd
  g_on : mg "on" = some (.ref (He.ga K "on"))
  f_do_count : ∃ fd, FunD K "do_count" "do_count" (defArgs s_do_count) (defBody s_do_count) (defScope s_do_count) [] [] (He.ga K "do_count") fd
  g_do_count : mg "do_count" = some (.ref (He.ga K "do_count"))
  f_ears_that_count : ∃ fd, FunD K "ears_that_count" "ears_that_count" (defArgs s_ears_that_count) (defBody s_ears_that_count) (defScope s_ears_that_count) [] [] (He.ga K "ears_that_count") fd
  g_ears_that_count : mg "ears_that_count" = some (.ref (He.ga K "ears_that_count"))
  f_lean_singer : ∃ fd, FunD K "lean_singer" "lean_singer" (defArgs s_lean_singer) (defBody s_lean_singer) (defScope s_lean_singer) [] [] (He.ga K "lean_singer") fd
  g_lean_singer : mg "lean_singer" = some (.ref (He.ga K "lean_singer"))
  f_leaned : ∃ fd, FunD K "leaned" "leaned" (defArgs s_leaned) (defBody s_leaned) (defScope s_leaned) [] [] (He.ga K "leaned") fd
  g_leaned : mg "leaned" = some (.ref (He.ga K "leaned"))
  f_lean : ∃ fd, FunD K "lean" "lean" (defArgs s_lean) (defBody s_lean) (defScope s_lean) [] [] (He.ga K "lean") fd
  g_lean : mg "lean" = some (.ref (He.ga K "lean"))
  f_need_both : ∃ fd, FunD K "need_both" "need_both" (defArgs s_need_both) (defBody s_need_both) (defScope s_need_both) [] [] (He.ga K "need_both") fd
  g_need_both : mg "need_both" = some (.ref (He.ga K "need_both"))
  f_need_beats : ∃ fd, FunD K "need_beats" "need_beats" (defArgs s_need_beats) (defBody s_need_beats) (defScope s_need_beats) [] [] (He.ga K "need_beats") fd
  g_need_beats : mg "need_beats" = some (.ref (He.ga K "need_beats"))
  f_rows_of : ∃ fd, FunD K "rows_of" "rows_of" (defArgs s_rows_of) (defBody s_rows_of) (defScope s_rows_of) [] [] (He.ga K "rows_of") fd
  g_rows_of : mg "rows_of" = some (.ref (He.ga K "rows_of"))
  f_song : ∃ fd, FunD K "song" "song" (defArgs s_song) (defBody s_song) (defScope s_song) [] [] (He.ga K "song") fd
  g_song : mg "song" = some (.ref (He.ga K "song"))
  f_singer_text : ∃ fd, FunD K "singer_text" "singer_text" (defArgs s_singer_text) (defBody s_singer_text) (defScope s_singer_text) [] [] (He.ga K "singer_text") fd
  g_singer_text : mg "singer_text" = some (.ref (He.ga K "singer_text"))
  f_choir_text : ∃ fd, FunD K "choir_text" "choir_text" (defArgs s_choir_text) (defBody s_choir_text) (defScope s_choir_text) [] [] (He.ga K "choir_text") fd
  g_choir_text : mg "choir_text" = some (.ref (He.ga K "choir_text"))
  f_law_cell : ∃ fd, FunD K "_law_cell" "_law_cell" (defArgs s_law_cell) (defBody s_law_cell) (defScope s_law_cell) [] [] (He.ga K "_law_cell") fd
  g_law_cell : mg "_law_cell" = some (.ref (He.ga K "_law_cell"))
  f_law_drawn : ∃ fd, FunD K "_law_drawn" "_law_drawn" (defArgs s_law_drawn) (defBody s_law_drawn) (defScope s_law_drawn) [] [] (He.ga K "_law_drawn") fd
  g_law_drawn : mg "_law_drawn" = some (.ref (He.ga K "_law_drawn"))
  f_law_roll : ∃ fd, FunD K "_law_roll" "_law_roll" (defArgs s_law_roll) (defBody s_law_roll) (defScope s_law_roll) [] [] (He.ga K "_law_roll") fd
  g_law_roll : mg "_law_roll" = some (.ref (He.ga K "_law_roll"))
  f_law_rounds : ∃ fd, FunD K "_law_rounds" "_law_rounds" (defArgs s_law_rounds) (defBody s_law_rounds) (defScope s_law_rounds) [] [] (He.ga K "_law_rounds") fd
  g_law_rounds : mg "_law_rounds" = some (.ref (He.ga K "_law_rounds"))
  f_law_term : ∃ fd, FunD K "_law_term" "_law_term" (defArgs s_law_term) (defBody s_law_term) (defScope s_law_term) [] [] (He.ga K "_law_term") fd
  g_law_term : mg "_law_term" = some (.ref (He.ga K "_law_term"))
  f_law_told : ∃ fd, FunD K "_law_told" "_law_told" (defArgs s_law_told) (defBody s_law_told) (defScope s_law_told) [] [] (He.ga K "_law_told") fd
  g_law_told : mg "_law_told" = some (.ref (He.ga K "_law_told"))
  f_law_any_singers : ∃ fd, FunD K "_law_any_singers" "_law_any_singers" (defArgs s_law_any_singers) (defBody s_law_any_singers) (defScope s_law_any_singers) [] [] (He.ga K "_law_any_singers") fd
  g_law_any_singers : mg "_law_any_singers" = some (.ref (He.ga K "_law_any_singers"))
  f_law_any_choir : ∃ fd, FunD K "_law_any_choir" "_law_any_choir" (defArgs s_law_any_choir) (defBody s_law_any_choir) (defScope s_law_any_choir) [] [] (He.ga K "_law_any_choir") fd
  g_law_any_choir : mg "_law_any_choir" = some (.ref (He.ga K "_law_any_choir"))
  f_law_crew : ∃ fd, FunD K "_law_crew" "_law_crew" (defArgs s_law_crew) (defBody s_law_crew) (defScope s_law_crew) [] [] (He.ga K "_law_crew") fd
  g_law_crew : mg "_law_crew" = some (.ref (He.ga K "_law_crew"))
  f_law_is_word : ∃ fd, FunD K "_law_is_word" "_law_is_word" (defArgs s_law_is_word) (defBody s_law_is_word) (defScope s_law_is_word) [] [] (He.ga K "_law_is_word") fd
  g_law_is_word : mg "_law_is_word" = some (.ref (He.ga K "_law_is_word"))
  f_law_is_number : ∃ fd, FunD K "_law_is_number" "_law_is_number" (defArgs s_law_is_number) (defBody s_law_is_number) (defScope s_law_is_number) [] [] (He.ga K "_law_is_number") fd
  g_law_is_number : mg "_law_is_number" = some (.ref (He.ga K "_law_is_number"))
  f_law_is_own_singer : ∃ fd, FunD K "_law_is_own_singer" "_law_is_own_singer" (defArgs s_law_is_own_singer) (defBody s_law_is_own_singer) (defScope s_law_is_own_singer) [] [] (He.ga K "_law_is_own_singer") fd
  g_law_is_own_singer : mg "_law_is_own_singer" = some (.ref (He.ga K "_law_is_own_singer"))
  f_law : ∃ fd, FunD K "law" "law" (defArgs s_law) (defBody s_law) (defScope s_law) [] [] (He.ga K "law") fd
  g_law : mg "law" = some (.ref (He.ga K "law"))
  rk : RunK K
  lk : Meth K (aRun K) "__len__" (aMet K "__len__")
  f_Running_init : ∃ fd, FunD K "__init__" "Running.__init__" (defArgs s_Running_init) (defBody s_Running_init) (defScope s_Running_init) [] [] (aMet K "__init__") fd
  f_Running_len : ∃ fd, FunD K "__len__" "Running.__len__" (defArgs s_Running_len) (defBody s_Running_len) (defScope s_Running_len) [] [] (aMet K "__len__") fd
  f_Running_remember : ∃ fd, FunD K "remember" "Running.remember" (defArgs s_Running_remember) (defBody s_Running_remember) (defScope s_Running_remember) [] [] (aMet K "remember") fd
  f_Running_need_leads : ∃ fd, FunD K "need_leads" "Running.need_leads" (defArgs s_Running_need_leads) (defBody s_Running_need_leads) (defScope s_Running_need_leads) [] [] (aMet K "need_leads") fd
  f_Running_sing : ∃ fd, FunD K "sing" "Running.sing" (defArgs s_Running_sing) (defBody s_Running_sing) (defScope s_Running_sing) [] [] (aMet K "sing") fd
  f_Running_beat : ∃ fd, FunD K "beat" "Running.beat" (defArgs s_Running_beat) (defBody s_Running_beat) (defScope s_Running_beat) [] [] (aMet K "beat") fd
  f_Running_run : ∃ fd, FunD K "run" "Running.run" (defArgs s_Running_run) (defBody s_Running_run) (defScope s_Running_run) [] [] (aMet K "run") fd
  f_Running_replace : ∃ fd, FunD K "replace" "Running.replace" (defArgs s_Running_replace) (defBody s_Running_replace) (defScope s_Running_replace) [] [] (aMet K "replace") fd
  f_Running_lines : ∃ fd, FunD K "lines" "Running.lines" (defArgs s_Running_lines) (defBody s_Running_lines) (defScope s_Running_lines) [] [] (aMet K "lines") fd
  f_Running_standing : ∃ fd, FunD K "standing" "Running.standing" (defArgs s_Running_standing) (defBody s_Running_standing) (defScope s_Running_standing) [] [] (aMet K "standing") fd
  f_Running_choir : ∃ fd, FunD K "choir" "Running.choir" (defArgs s_Running_choir) (defBody s_Running_choir) (defScope s_Running_choir) [] [] (aMet K "choir") fd
  f_Running_undo : ∃ fd, FunD K "undo" "Running.undo" (defArgs s_Running_undo) (defBody s_Running_undo) (defScope s_Running_undo) [] [] (aMet K "undo") fd
  x_SongError : ExcF K mg "SongError"
  x_BadChoir : ExcF K mg "BadChoir"
  x_BadName : ExcF K mg "BadName"
  x_BadStanding : ExcF K mg "BadStanding"
  x_BadNumber : ExcF K mg "BadNumber"
  x_BadRows : ExcF K mg "BadRows"
  x_BadLead : ExcF K mg "BadLead"
  x_BadWish : ExcF K mg "BadWish"
  k_Clash : mg "Clash" = some (.ref (He.ga K "Clash"))
  x_Nothing : ExcF K mg "Nothing"
  x_Full : ExcF K mg "Full"
  x_BadText : ExcF K mg "BadText"
  k_Running : mg "Running" = some (.ref (He.ga K "Running"))
  c_SMALL : ∃ t, mg "SMALL" = some (.str "abcdefghijklmnopqrstuvwxyz" t)
  c_LONGEST : ∃ t, mg "LONGEST" = some (.int 500 t)
  z_ValueError : mg "ValueError" = none
  z_all : mg "all" = none
  z_bool : mg "bool" = none
  z_dict : mg "dict" = none
  z_enumerate : mg "enumerate" = none
  z_int : mg "int" = none
  z_isinstance : mg "isinstance" = none
  z_len : mg "len" = none
  z_list : mg "list" = none
  z_max : mg "max" = none
  z_min : mg "min" = none
  z_range : mg "range" = none
  z_set : mg "set" = none
  z_sorted : mg "sorted" = none
  z_str : mg "str" = none
  z_sum : mg "sum" = none
  z_tuple : mg "tuple" = none
  z_zip : mg "zip" = none
abbrev N_is_whole : List Str := ["thing", "low", "high"]
theorem sc_is_whole : FnScope N_is_whole ["thing", "low", "high"] (defScope s_is_whole) := ⟨rfl, rfl, rfl, by decide +kernel, rfl, by decide +kernel, by decide +kernel⟩
theorem ok_is_whole {P : Program} {w : World} {K : PySem.W.Frag} {mg : Str → Option Value} {base : Heap} (T : Tx K mg) : FnD P w K mg base 1 "is_whole" ["thing", "low", "high"] m_is_whole := by
  obtain ⟨fd, D⟩ := T.f_is_whole
  exact fn_mk D T.g_is_whole sc_is_whole (fun _ _ _ _ _ _ us hl => match us, hl with | [_, _, _], _ => rfl) (by decide) fun cdv A outer s H V E hr => (pms_one (pms_ret (pm_and (pm_isi .int T.z_isinstance T.z_int (pm_var 0)) (pm_and (pm_not (pm_isi .bool T.z_isinstance T.z_bool (pm_var 0))) (pm_one (pm_chain op_le od_le op_le od_le (pm_var 1) (pm_var 0) (pm_var 2)))))))
abbrev N_is_word : List Str := ["thing", "sign"]
theorem sc_is_word : FnScope N_is_word ["thing"] (defScope s_is_word) := ⟨rfl, rfl, rfl, by decide +kernel, rfl, by decide +kernel, by decide +kernel⟩
theorem ok_is_word {P : Program} {w : World} {K : PySem.W.Frag} {mg : Str → Option Value} {base : Heap} (T : Tx K mg) : FnD P w K mg base 1 "is_word" ["thing"] m_is_word := by
  obtain ⟨fd, D⟩ := T.f_is_word
  exact fn_mk D T.g_is_word sc_is_word (fun _ _ _ _ _ _ us hl => match us, hl with | [_], _ => rfl) (by decide) fun cdv A outer s H V E hr => (pms_one (pms_ret (pm_and (pm_isi .str T.z_isinstance T.z_str (pm_var 0)) (pm_and (pm_chain op_le od_le op_le od_le pm_int (pm_callB call_len cd_len T.z_len (pma_cons (pm_var 0) pma_nil)) pm_int) (pm_one (pm_callB (cr_all rfl) cd_all T.z_all (pma_cons (pm_lc [("sign", 1)] (pmi_seq (pm_var 0)) (blkOk_by (N := N_is_word) (sc := defScope s_is_word) (by decide +kernel)) sc_is_word.nd (fun _ _ _ _ _ => (pmg_name 1 sc_is_word.nd)) (fun _ _ _ _ _ => pmts_nil) (fun _ _ _ _ _ => (pm_cmp (op_inAll (u65 hr)) od_in (pm_var 1) (pm_gstr T.c_SMALL)))) pma_nil)))))))
abbrev N_rise : List Str := ["rows", "one", "other"]
theorem sc_rise : FnScope N_rise ["rows"] (defScope s_rise) := ⟨rfl, rfl, rfl, by decide +kernel, rfl, by decide +kernel, by decide +kernel⟩
theorem ok_rise {P : Program} {w : World} {K : PySem.W.Frag} {mg : Str → Option Value} {base : Heap} (T : Tx K mg) : FnD P w K mg base 1 "rise" ["rows"] m_rise := by
  obtain ⟨fd, D⟩ := T.f_rise
  exact fn_mk D T.g_rise sc_rise (fun _ _ _ _ _ _ us hl => match us, hl with | [_], _ => rfl) (by decide) fun cdv A outer s H V E hr => (pms_one (pms_ret (pm_callB (cr_all rfl) cd_all T.z_all (pma_cons (pm_lc [("one", 1), ("other", 2)] (pmi_zip T.z_zip (pma_cons (pm_var 0) (pma_cons (pm_slice (pm_var 0) (pmo_some pm_int) pmo_none) pma_nil))) (blkOk_by (N := N_rise) (sc := defScope s_rise) (by decide +kernel)) sc_rise.nd (fun _ _ _ _ _ => (pmg_tup (pmgs_cons (pmg_name 1 sc_rise.nd) (pmgs_cons (pmg_name 2 sc_rise.nd) pmgs_nil)) (gsC_len (gsC_len (fun _ _ _ h => gsN_len h))))) (fun _ _ _ _ _ => pmts_nil) (fun _ _ _ _ _ => (pm_cmp (op_ltAll hr.units0) od_lt (pm_var 1) (pm_var 2)))) pma_nil))))
abbrev N_are_lines : List Str := ["thing", "size", "many", "one"]
theorem sc_are_lines : FnScope N_are_lines ["thing", "size", "many"] (defScope s_are_lines) := ⟨rfl, rfl, rfl, by decide +kernel, rfl, by decide +kernel, by decide +kernel⟩
theorem ok_are_lines {P : Program} {w : World} {K : PySem.W.Frag} {mg : Str → Option Value} {base : Heap} (T : Tx K mg) : FnD P w K mg base 2 "are_lines" ["thing", "size", "many"] m_are_lines := by
  obtain ⟨fd, D⟩ := T.f_are_lines
  exact fn_mk D T.g_are_lines sc_are_lines (fun _ _ _ _ _ _ us hl => match us, hl with | [_, _, _], _ => rfl) (by decide) fun cdv A outer s H V E hr => (pms_one (pms_ret (pm_and (pm_isi .tuple T.z_isinstance T.z_tuple (pm_var 0)) (pm_and (pm_cmp (op_eqD hr.units) od_eq (pm_callB call_len cd_len T.z_len (pma_cons (pm_var 0) pma_nil)) (pm_var 1)) (pm_one (pm_callB (cr_all rfl) cd_all T.z_all (pma_cons (pm_lc [("one", 3)] (pmi_seq (pm_var 0)) (blkOk_by (N := N_are_lines) (sc := defScope s_are_lines) (by decide +kernel)) sc_are_lines.nd (fun _ _ _ _ _ => (pmg_name 3 sc_are_lines.nd)) (fun _ _ _ _ _ => pmts_nil) (fun _ _ _ _ _ => (pm_call (ok_is_whole T) (hr.mono (by decide)) tk_nox (pma_cons (pm_var 3) (pma_cons pm_int (pma_cons (pm_op op_sub od_sub (pm_var 2) pm_int) pma_nil)))))) pma_nil)))))))
abbrev N_is_ear : List Str := ["thing"]
theorem sc_is_ear : FnScope N_is_ear ["thing"] (defScope s_is_ear) := ⟨rfl, rfl, rfl, by decide +kernel, rfl, by decide +kernel, by decide +kernel⟩
theorem ok_is_ear {P : Program} {w : World} {K : PySem.W.Frag} {mg : Str → Option Value} {base : Heap} (T : Tx K mg) : FnD P w K mg base 2 "is_ear" ["thing"] m_is_ear := by
  obtain ⟨fd, D⟩ := T.f_is_ear
  exact fn_mk D T.g_is_ear sc_is_ear (fun _ _ _ _ _ _ us hl => match us, hl with | [_], _ => rfl) (by decide) fun cdv A outer s H V E hr => (pms_one (pms_ret (pm_and (pm_isi .tuple T.z_isinstance T.z_tuple (pm_var 0)) (pm_and (pm_cmp (op_eqD hr.units) od_eq (pm_callB call_len cd_len T.z_len (pma_cons (pm_var 0) pma_nil)) pm_int) (pm_and (pm_call (ok_is_word T) (hr.mono (by decide)) tk_fn (pma_cons (pm_ix ix_seq od_ix (pm_var 0) pm_int) pma_nil)) (pm_one (pm_call (ok_is_whole T) (hr.mono (by decide)) tk_fn (pma_cons (pm_ix ix_seq od_ix (pm_var 0) pm_int) (pma_cons pm_int (pma_cons pm_int pma_nil))))))))))
abbrev N_are_ears : List Str := ["thing", "one"]
theorem sc_are_ears : FnScope N_are_ears ["thing"] (defScope s_are_ears) := ⟨rfl, rfl, rfl, by decide +kernel, rfl, by decide +kernel, by decide +kernel⟩
theorem ok_are_ears {P : Program} {w : World} {K : PySem.W.Frag} {mg : Str → Option Value} {base : Heap} (T : Tx K mg) : FnD P w K mg base 3 "are_ears" ["thing"] m_are_ears := by
  obtain ⟨fd, D⟩ := T.f_are_ears
  exact fn_mk D T.g_are_ears sc_are_ears (fun _ _ _ _ _ _ us hl => match us, hl with | [_], _ => rfl) (by decide) fun cdv A outer s H V E hr => (pms_one (pms_ret (pm_and (pm_isi .tuple T.z_isinstance T.z_tuple (pm_var 0)) (pm_and (pm_cmp op_le od_le (pm_callB call_len cd_len T.z_len (pma_cons (pm_var 0) pma_nil)) pm_int) (pm_and (pm_callB (cr_all rfl) cd_all T.z_all (pma_cons (pm_lc [("one", 1)] (pmi_seq (pm_var 0)) (blkOk_by (N := N_are_ears) (sc := defScope s_are_ears) (by decide +kernel)) sc_are_ears.nd (fun _ _ _ _ _ => (pmg_name 1 sc_are_ears.nd)) (fun _ _ _ _ _ => pmts_nil) (fun _ _ _ _ _ => (pm_call (ok_is_ear T) (hr.mono (by decide)) tk_nox (pma_cons (pm_var 1) pma_nil)))) pma_nil)) (pm_one (pm_call (ok_rise T) (hr.mono (by decide)) tk_fn (pma_cons (pm_var 0) pma_nil))))))))
abbrev N_places_for : List Str := ["many", "ears"]
theorem sc_places_for : FnScope N_places_for ["many", "ears"] (defScope s_places_for) := ⟨rfl, rfl, rfl, by decide +kernel, rfl, by decide +kernel, by decide +kernel⟩
theorem ok_places_for {P : Program} {w : World} {K : PySem.W.Frag} {mg : Str → Option Value} {base : Heap} (T : Tx K mg) : FnD P w K mg base 1 "places_for" ["many", "ears"] m_places_for := by
  obtain ⟨fd, D⟩ := T.f_places_for
  exact fn_mk D T.g_places_for sc_places_for (fun _ _ _ _ _ _ us hl => match us, hl with | [_, _], _ => rfl) (by decide) fun cdv A outer s H V E hr => (pms_one (pms_ret (pm_ix ix_seq od_ix (pm_lst (pma_cons pm_int (pma_cons (pm_var 0) (pma_cons (pm_op op_mulD od_mul (pm_var 0) (pm_var 0)) pma_nil)))) (pm_callB call_len cd_len T.z_len (pma_cons (pm_var 1) pma_nil)))))
abbrev N_is_singer : List Str := ["thing", "many"]
theorem sc_is_singer : FnScope N_is_singer ["thing", "many"] (defScope s_is_singer) := ⟨rfl, rfl, rfl, by decide +kernel, rfl, by decide +kernel, by decide +kernel⟩
theorem ok_is_singer {P : Program} {w : World} {K : PySem.W.Frag} {mg : Str → Option Value} {base : Heap} (T : Tx K mg) : FnD P w K mg base 4 "is_singer" ["thing", "many"] m_is_singer := by
  obtain ⟨fd, D⟩ := T.f_is_singer
  exact fn_mk D T.g_is_singer sc_is_singer (fun _ _ _ _ _ _ us hl => match us, hl with | [_, _], _ => rfl) (by decide) fun cdv A outer s H V E hr => (pms_cons (pms_if (pmt_w (pmw_or (pmt_not (pmt_val (pm_isi .tuple T.z_isinstance T.z_tuple (pm_var 0)))) (pmw_or (pmt_cmp (op_neD hr.units) od_ne (pm_callB call_len cd_len T.z_len (pma_cons (pm_var 0) pma_nil)) pm_int) (pmw_or (pmt_not (pmt_val (pm_call (ok_is_word T) (hr.mono (by decide)) tk_fn (pma_cons (pm_ix ix_seq od_ix (pm_var 0) pm_int) pma_nil)))) (pmw_or1 (pmt_not (pmt_val (pm_call (ok_are_ears T) (hr.mono (by decide)) tk_fn (pma_cons (pm_ix ix_seq od_ix (pm_var 0) pm_int) pma_nil))))))))) (pms_one (pms_ret pm_bl)) pms_nil)
  (pms_one (pms_ret (pm_call (ok_are_lines T) (hr.mono (by decide)) tk_fn (pma_cons (pm_ix ix_seq od_ix (pm_var 0) pm_int) (pma_cons (pm_call (ok_places_for T) (hr.mono (by decide)) tk_fn (pma_cons (pm_var 1) (pma_cons (pm_ix ix_seq od_ix (pm_var 0) pm_int) pma_nil))) (pma_cons (pm_var 1) pma_nil)))))))
abbrev N_is_choir : List Str := ["thing", "many", "singers", "some", "one", "ear"]
theorem sc_is_choir : FnScope N_is_choir ["thing"] (defScope s_is_choir) := ⟨rfl, rfl, rfl, by decide +kernel, rfl, by decide +kernel, by decide +kernel⟩
theorem ok_is_choir {P : Program} {w : World} {K : PySem.W.Frag} {mg : Str → Option Value} {base : Heap} (T : Tx K mg) : FnD P w K mg base 5 "is_choir" ["thing"] m_is_choir := by
  obtain ⟨fd, D⟩ := T.f_is_choir
  exact fn_mk D T.g_is_choir sc_is_choir (fun _ _ _ _ _ _ us hl => match us, hl with | [_], _ => rfl) (by decide) fun cdv A outer s H V E hr => (pms_cons (pms_if (pmt_w (pmw_or (pmt_not (pmt_val (pm_isi .tuple T.z_isinstance T.z_tuple (pm_var 0)))) (pmw_or (pmt_cmp (op_neD hr.units) od_ne (pm_callB call_len cd_len T.z_len (pma_cons (pm_var 0) pma_nil)) pm_int) (pmw_or1 (pmt_not (pmt_val (pm_call (ok_is_whole T) (hr.mono (by decide)) tk_fn (pma_cons (pm_ix ix_seq od_ix (pm_var 0) pm_int) (pma_cons pm_int (pma_cons pm_int pma_nil)))))))))) (pms_one (pms_ret pm_bl)) pms_nil)
  (pms_cons (pms_asg (pm_var 0) (pmg_tup (pmgs_cons (pmg_name 1 sc_is_choir.nd) (pmgs_cons (pmg_name 2 sc_is_choir.nd) pmgs_nil)) (gsC_len (gsC_len (fun _ _ _ h => gsN_len h)))))
  (pms_cons (pms_if (pmt_w (pmw_or (pmt_not (pmt_val (pm_isi .tuple T.z_isinstance T.z_tuple (pm_var 2)))) (pmw_or1 (pmt_not (pmt_chain op_le od_le op_le od_le pm_int (pm_callB call_len cd_len T.z_len (pma_cons (pm_var 2) pma_nil)) pm_int))))) (pms_one (pms_ret pm_bl)) pms_nil)
  (pms_cons (pms_if (pmt_w (pmw_or (pmt_not (pmt_val (pm_callB (cr_all rfl) cd_all T.z_all (pma_cons (pm_lc [("one", 4)] (pmi_seq (pm_var 2)) (blkOk_by (N := N_is_choir) (sc := defScope s_is_choir) (by decide +kernel)) sc_is_choir.nd (fun _ _ _ _ _ => (pmg_name 4 sc_is_choir.nd)) (fun _ _ _ _ _ => pmts_nil) (fun _ _ _ _ _ => (pm_call (ok_is_singer T) (hr.mono (by decide)) tk_nox (pma_cons (pm_var 4) (pma_cons (pm_var 1) pma_nil))))) pma_nil)))) (pmw_or1 (pmt_not (pmt_val (pm_call (ok_rise T) (hr.mono (by decide)) tk_fn (pma_cons (pm_lc [("one", 4)] (pmi_seq (pm_var 2)) (blkOk_by (N := N_is_choir) (sc := defScope s_is_choir) (by decide +kernel)) sc_is_choir.nd (fun _ _ _ _ _ => (pmg_name 4 sc_is_choir.nd)) (fun _ _ _ _ _ => pmts_nil) (fun _ _ _ _ _ => (pm_ix ix_seq od_ix (pm_var 4) pm_int))) pma_nil))))))) (pms_one (pms_ret pm_bl)) pms_nil)
  (pms_cons (pms_set 3 (pm_lc [("one", 4)] (pmi_seq (pm_var 2)) (blkOk_by (N := N_is_choir) (sc := defScope s_is_choir) (by decide +kernel)) sc_is_choir.nd (fun _ _ _ _ _ => (pmg_name 4 sc_is_choir.nd)) (fun _ _ _ _ _ => pmts_nil) (fun _ _ _ _ _ => (pm_ix ix_seq od_ix (pm_var 4) pm_int))) sc_is_choir.nd)
  (pms_one (pms_ret (pm_callB (cr_all rfl) cd_all T.z_all (pma_cons (pm_lc2 [("one", 4), ("ear", 5)] [5] (pmi_seq (pm_var 2)) (blkOk_by (N := N_is_choir) (sc := defScope s_is_choir) (by decide +kernel)) sc_is_choir.nd (fun _ _ _ _ _ => (pmg_name 4 sc_is_choir.nd)) (fun _ _ _ _ _ => pmts_nil) (fun _ _ _ _ _ => (pmi_seq (pm_ix ix_seq od_ix (pm_var 4) pm_int))) (fun _ _ _ _ _ => (pmg_name 5 sc_is_choir.nd)) (fun _ _ _ _ _ => pmts_nil) (fun _ _ _ _ _ => (pm_cmp (op_inAll (u65 hr)) od_in (pm_ix ix_seq od_ix (pm_var 5) pm_int) (pm_var 3)))) pma_nil)))))))))
abbrev N_need_choir : List Str := ["thing"]
theorem sc_need_choir : FnScope N_need_choir ["thing"] (defScope s_need_choir) := ⟨rfl, rfl, rfl, by decide +kernel, rfl, by decide +kernel, by decide +kernel⟩
theorem ok_need_choir {P : Program} {w : World} {K : PySem.W.Frag} {mg : Str → Option Value} {base : Heap} (T : Tx K mg) : FnD P w K mg base 6 "need_choir" ["thing"] m_need_choir := by
  obtain ⟨fd, D⟩ := T.f_need_choir
  exact fn_mk D T.g_need_choir sc_need_choir (fun _ _ _ _ _ _ us hl => match us, hl with | [_], _ => rfl) (by decide) fun cdv A outer s H V E hr => (pms_one (pms_if (pmt_not (pmt_val (pm_call (ok_is_choir T) (hr.mono (by decide)) tk_fn (pma_cons (pm_var 0) pma_nil)))) (pms_one (pms_raise T.x_BadChoir tk_fn)) pms_nil))
abbrev N_all_names : List Str := ["choir", "one"]
theorem sc_all_names : FnScope N_all_names ["choir"] (defScope s_all_names) := ⟨rfl, rfl, rfl, by decide +kernel, rfl, by decide +kernel, by decide +kernel⟩
theorem ok_all_names {P : Program} {w : World} {K : PySem.W.Frag} {mg : Str → Option Value} {base : Heap} (T : Tx K mg) : FnD P w K mg base 1 "all_names" ["choir"] m_all_names := by
  obtain ⟨fd, D⟩ := T.f_all_names
  exact fn_mk D T.g_all_names sc_all_names (fun _ _ _ _ _ _ us hl => match us, hl with | [_], _ => rfl) (by decide) fun cdv A outer s H V E hr => (pms_one (pms_ret (pm_lc [("one", 1)] (pmi_seq (pm_ix ix_seq od_ix (pm_var 0) pm_int)) (blkOk_by (N := N_all_names) (sc := defScope s_all_names) (by decide +kernel)) sc_all_names.nd (fun _ _ _ _ _ => (pmg_name 1 sc_all_names.nd)) (fun _ _ _ _ _ => pmts_nil) (fun _ _ _ _ _ => (pm_ix ix_seq od_ix (pm_var 1) pm_int)))))
abbrev N_names : List Str := ["choir"]
theorem sc_names : FnScope N_names ["choir"] (defScope s_names) := ⟨rfl, rfl, rfl, by decide +kernel, rfl, by decide +kernel, by decide +kernel⟩
theorem ok_names {P : Program} {w : World} {K : PySem.W.Frag} {mg : Str → Option Value} {base : Heap} (T : Tx K mg) : FnD P w K mg base 7 "names" ["choir"] m_names := by
  obtain ⟨fd, D⟩ := T.f_names
  exact fn_mk D T.g_names sc_names (fun _ _ _ _ _ _ us hl => match us, hl with | [_], _ => rfl) (by decide) fun cdv A outer s H V E hr => (pms_cons (pms_expr (pm_call (ok_need_choir T) (hr.mono (by decide)) tk_fn (pma_cons (pm_var 0) pma_nil)))
  (pms_one (pms_ret (pm_call (ok_all_names T) (hr.mono (by decide)) tk_fn (pma_cons (pm_var 0) pma_nil)))))
abbrev N_silence : List Str := ["choir"]
theorem sc_silence : FnScope N_silence ["choir"] (defScope s_silence) := ⟨rfl, rfl, rfl, by decide +kernel, rfl, by decide +kernel, by decide +kernel⟩
theorem ok_silence {P : Program} {w : World} {K : PySem.W.Frag} {mg : Str → Option Value} {base : Heap} (T : Tx K mg) : FnD P w K mg base 7 "silence" ["choir"] m_silence := by
  obtain ⟨fd, D⟩ := T.f_silence
  exact fn_mk D T.g_silence sc_silence (fun _ _ _ _ _ _ us hl => match us, hl with | [_], _ => rfl) (by decide) fun cdv A outer s H V E hr => (pms_cons (pms_expr (pm_call (ok_need_choir T) (hr.mono (by decide)) tk_fn (pma_cons (pm_var 0) pma_nil)))
  (pms_one (pms_ret (pm_op op_mulD od_mul (pm_tup (pma_cons (pm_tup (pma_cons pm_int (pma_cons pm_int (pma_cons pm_int pma_nil)))) pma_nil)) (pm_callB call_len cd_len T.z_len (pma_cons (pm_ix ix_seq od_ix (pm_var 0) pm_int) pma_nil))))))
abbrev N_is_good_standing : List Str := ["choir", "thing", "one"]
theorem sc_is_good_standing : FnScope N_is_good_standing ["choir", "thing"] (defScope s_is_good_standing) := ⟨rfl, rfl, rfl, by decide +kernel, rfl, by decide +kernel, by decide +kernel⟩
theorem ok_is_good_standing {P : Program} {w : World} {K : PySem.W.Frag} {mg : Str → Option Value} {base : Heap} (T : Tx K mg) : FnD P w K mg base 3 "is_good_standing" ["choir", "thing"] m_is_good_standing := by
  obtain ⟨fd, D⟩ := T.f_is_good_standing
  exact fn_mk D T.g_is_good_standing sc_is_good_standing (fun _ _ _ _ _ _ us hl => match us, hl with | [_, _], _ => rfl) (by decide) fun cdv A outer s H V E hr => (pms_cons (pms_if (pmt_w (pmw_or (pmt_not (pmt_val (pm_isi .tuple T.z_isinstance T.z_tuple (pm_var 1)))) (pmw_or1 (pmt_cmp (op_neD hr.units) od_ne (pm_callB call_len cd_len T.z_len (pma_cons (pm_var 1) pma_nil)) (pm_callB call_len cd_len T.z_len (pma_cons (pm_ix ix_seq od_ix (pm_var 0) pm_int) pma_nil)))))) (pms_one (pms_ret pm_bl)) pms_nil)
  (pms_one (pms_ret (pm_callB (cr_all rfl) cd_all T.z_all (pma_cons (pm_lc [("one", 2)] (pmi_seq (pm_var 1)) (blkOk_by (N := N_is_good_standing) (sc := defScope s_is_good_standing) (by decide +kernel)) sc_is_good_standing.nd (fun _ _ _ _ _ => (pmg_name 2 sc_is_good_standing.nd)) (fun _ _ _ _ _ => pmts_nil) (fun _ _ _ _ _ => (pm_call (ok_are_lines T) (hr.mono (by decide)) tk_nox (pma_cons (pm_var 2) (pma_cons pm_int (pma_cons (pm_ix ix_seq od_ix (pm_var 0) pm_int) pma_nil)))))) pma_nil)))))
abbrev N_need_standing : List Str := ["choir", "thing"]
theorem sc_need_standing : FnScope N_need_standing ["choir", "thing"] (defScope s_need_standing) := ⟨rfl, rfl, rfl, by decide +kernel, rfl, by decide +kernel, by decide +kernel⟩
theorem ok_need_standing {P : Program} {w : World} {K : PySem.W.Frag} {mg : Str → Option Value} {base : Heap} (T : Tx K mg) : FnD P w K mg base 4 "need_standing" ["choir", "thing"] m_need_standing := by
  obtain ⟨fd, D⟩ := T.f_need_standing
  exact fn_mk D T.g_need_standing sc_need_standing (fun _ _ _ _ _ _ us hl => match us, hl with | [_, _], _ => rfl) (by decide) fun cdv A outer s H V E hr => (pms_one (pms_if (pmt_not (pmt_val (pm_call (ok_is_good_standing T) (hr.mono (by decide)) tk_fn (pma_cons (pm_var 0) (pma_cons (pm_var 1) pma_nil))))) (pms_one (pms_raise T.x_BadStanding tk_fn)) pms_nil))
abbrev N_number_of : List Str := ["choir", "name"]
theorem sc_number_of : FnScope N_number_of ["choir", "name"] (defScope s_number_of) := ⟨rfl, rfl, rfl, by decide +kernel, rfl, by decide +kernel, by decide +kernel⟩
theorem ok_number_of {P : Program} {w : World} {K : PySem.W.Frag} {mg : Str → Option Value} {base : Heap} (T : Tx K mg) : FnD P w K mg base 2 "number_of" ["choir", "name"] m_number_of := by
  obtain ⟨fd, D⟩ := T.f_number_of
  exact fn_mk D T.g_number_of sc_number_of (fun _ _ _ _ _ _ us hl => match us, hl with | [_, _], _ => rfl) (by decide) fun cdv A outer s H V E hr => (pms_one (pms_ret (pm_index (u65 hr) (pm_call (ok_all_names T) (hr.mono (by decide)) tk_fn (pma_cons (pm_var 0) pma_nil)) (pma_cons (pm_var 1) pma_nil))))
abbrev N_heard_by : List Str := ["choir", "standing", "singer", "name", "ago"]
theorem sc_heard_by : FnScope N_heard_by ["choir", "standing", "singer"] (defScope s_heard_by) := ⟨rfl, rfl, rfl, by decide +kernel, rfl, by decide +kernel, by decide +kernel⟩
theorem ok_heard_by {P : Program} {w : World} {K : PySem.W.Frag} {mg : Str → Option Value} {base : Heap} (T : Tx K mg) : FnD P w K mg base 3 "heard_by" ["choir", "standing", "singer"] m_heard_by := by
  obtain ⟨fd, D⟩ := T.f_heard_by
  exact fn_mk D T.g_heard_by sc_heard_by (fun _ _ _ _ _ _ us hl => match us, hl with | [_, _, _], _ => rfl) (by decide) fun cdv A outer s H V E hr => (pms_one (pms_ret (pm_callTy call_tuple_of cd_tuple T.z_tuple (pma_cons (pm_lc [("name", 3), ("ago", 4)] (pmi_seq (pm_ix ix_seq od_ix (pm_var 2) pm_int)) (blkOk_by (N := N_heard_by) (sc := defScope s_heard_by) (by decide +kernel)) sc_heard_by.nd (fun _ _ _ _ _ => (pmg_tup (pmgs_cons (pmg_name 3 sc_heard_by.nd) (pmgs_cons (pmg_name 4 sc_heard_by.nd) pmgs_nil)) (gsC_len (gsC_len (fun _ _ _ h => gsN_len h))))) (fun _ _ _ _ _ => pmts_nil) (fun _ _ _ _ _ => (pm_ix ix_seq od_ix (pm_ix ix_seq od_ix (pm_var 1) (pm_call (ok_number_of T) (hr.mono (by decide)) tk_nox (pma_cons (pm_var 0) (pma_cons (pm_var 3) pma_nil)))) (pm_op op_sub od_sub pm_int (pm_var 4))))) pma_nil))))
abbrev N_place_of : List Str := ["many", "some", "found", "line"]
theorem sc_place_of : FnScope N_place_of ["many", "some"] (defScope s_place_of) := ⟨rfl, rfl, rfl, by decide +kernel, rfl, by decide +kernel, by decide +kernel⟩
theorem ok_place_of {P : Program} {w : World} {K : PySem.W.Frag} {mg : Str → Option Value} {base : Heap} (T : Tx K mg) : FnD P w K mg base 1 "place_of" ["many", "some"] m_place_of := by
  obtain ⟨fd, D⟩ := T.f_place_of
  exact fn_mk D T.g_place_of sc_place_of (fun _ _ _ _ _ _ us hl => match us, hl with | [_, _], _ => rfl) (by decide) fun cdv A outer s H V E hr => (pms_cons (pms_set 2 pm_int sc_place_of.nd)
  (pms_cons (pms_for (passes_of rfl) (pmi_seq (pm_var 1)) (pmg_name 3 sc_place_of.nd)
  (pms_one (pms_set 2 (pm_op op_addD od_add (pm_op op_mulD od_mul (pm_var 2) (pm_var 0)) (pm_var 3)) sc_place_of.nd)))
  (pms_one (pms_ret (pm_var 2)))))
abbrev N_table_line : List Str := ["choir", "standing", "singer"]
theorem sc_table_line : FnScope N_table_line ["choir", "standing", "singer"] (defScope s_table_line) := ⟨rfl, rfl, rfl, by decide +kernel, rfl, by decide +kernel, by decide +kernel⟩
theorem ok_table_line {P : Program} {w : World} {K : PySem.W.Frag} {mg : Str → Option Value} {base : Heap} (T : Tx K mg) : FnD P w K mg base 4 "table_line" ["choir", "standing", "singer"] m_table_line := by
  obtain ⟨fd, D⟩ := T.f_table_line
  exact fn_mk D T.g_table_line sc_table_line (fun _ _ _ _ _ _ us hl => match us, hl with | [_, _, _], _ => rfl) (by decide) fun cdv A outer s H V E hr => (pms_one (pms_ret (pm_ix ix_seq od_ix (pm_ix ix_seq od_ix (pm_var 2) pm_int) (pm_call (ok_place_of T) (hr.mono (by decide)) tk_fn (pma_cons (pm_ix ix_seq od_ix (pm_var 0) pm_int) (pma_cons (pm_call (ok_heard_by T) (hr.mono (by decide)) tk_fn (pma_cons (pm_var 0) (pma_cons (pm_var 1) (pma_cons (pm_var 2) pma_nil)))) pma_nil))))))
abbrev N_all_next : List Str := ["choir", "standing", "singer"]
theorem sc_all_next : FnScope N_all_next ["choir", "standing"] (defScope s_all_next) := ⟨rfl, rfl, rfl, by decide +kernel, rfl, by decide +kernel, by decide +kernel⟩
theorem ok_all_next {P : Program} {w : World} {K : PySem.W.Frag} {mg : Str → Option Value} {base : Heap} (T : Tx K mg) : FnD P w K mg base 5 "all_next" ["choir", "standing"] m_all_next := by
  obtain ⟨fd, D⟩ := T.f_all_next
  exact fn_mk D T.g_all_next sc_all_next (fun _ _ _ _ _ _ us hl => match us, hl with | [_, _], _ => rfl) (by decide) fun cdv A outer s H V E hr => (pms_one (pms_ret (pm_callTy call_tuple_of cd_tuple T.z_tuple (pma_cons (pm_lc [("singer", 2)] (pmi_seq (pm_ix ix_seq od_ix (pm_var 0) pm_int)) (blkOk_by (N := N_all_next) (sc := defScope s_all_next) (by decide +kernel)) sc_all_next.nd (fun _ _ _ _ _ => (pmg_name 2 sc_all_next.nd)) (fun _ _ _ _ _ => pmts_nil) (fun _ _ _ _ _ => (pm_call (ok_table_line T) (hr.mono (by decide)) tk_nox (pma_cons (pm_var 0) (pma_cons (pm_var 1) (pma_cons (pm_var 2) pma_nil)))))) pma_nil))))
abbrev N_behind : List Str := ["standing", "lines", "row", "line"]
theorem sc_behind : FnScope N_behind ["standing", "lines"] (defScope s_behind) := ⟨rfl, rfl, rfl, by decide +kernel, rfl, by decide +kernel, by decide +kernel⟩
theorem ok_behind {P : Program} {w : World} {K : PySem.W.Frag} {mg : Str → Option Value} {base : Heap} (T : Tx K mg) : FnD P w K mg base 1 "behind" ["standing", "lines"] m_behind := by
  obtain ⟨fd, D⟩ := T.f_behind
  exact fn_mk D T.g_behind sc_behind (fun _ _ _ _ _ _ us hl => match us, hl with | [_, _], _ => rfl) (by decide) fun cdv A outer s H V E hr => (pms_one (pms_ret (pm_callTy call_tuple_of cd_tuple T.z_tuple (pma_cons (pm_lc [("row", 2), ("line", 3)] (pmi_zip T.z_zip (pma_cons (pm_var 0) (pma_cons (pm_var 1) pma_nil))) (blkOk_by (N := N_behind) (sc := defScope s_behind) (by decide +kernel)) sc_behind.nd (fun _ _ _ _ _ => (pmg_tup (pmgs_cons (pmg_name 2 sc_behind.nd) (pmgs_cons (pmg_name 3 sc_behind.nd) pmgs_nil)) (gsC_len (gsC_len (fun _ _ _ h => gsN_len h))))) (fun _ _ _ _ _ => pmts_nil) (fun _ _ _ _ _ => (pm_op op_addD od_add (pm_slice (pm_var 2) (pmo_some pm_int) pmo_none) (pm_tup (pma_cons (pm_var 3) pma_nil))))) pma_nil))))
abbrev N_on : List Str := ["choir", "standing"]
theorem sc_on : FnScope N_on ["choir", "standing"] (defScope s_on) := ⟨rfl, rfl, rfl, by decide +kernel, rfl, by decide +kernel, by decide +kernel⟩
theorem ok_on {P : Program} {w : World} {K : PySem.W.Frag} {mg : Str → Option Value} {base : Heap} (T : Tx K mg) : FnD P w K mg base 6 "on" ["choir", "standing"] m_on := by
  obtain ⟨fd, D⟩ := T.f_on
  exact fn_mk D T.g_on sc_on (fun _ _ _ _ _ _ us hl => match us, hl with | [_, _], _ => rfl) (by decide) fun cdv A outer s H V E hr => (pms_one (pms_ret (pm_call (ok_behind T) (hr.mono (by decide)) tk_fn (pma_cons (pm_var 1) (pma_cons (pm_call (ok_all_next T) (hr.mono (by decide)) tk_fn (pma_cons (pm_var 0) (pma_cons (pm_var 1) pma_nil))) pma_nil)))))
abbrev N_do_count : List Str := ["many", "singer", "at", "ears", "table", "other", "some", "line", "pair"]
theorem sc_do_count : FnScope N_do_count ["many", "singer", "at"] (defScope s_do_count) := ⟨rfl, rfl, rfl, by decide +kernel, rfl, by decide +kernel, by decide +kernel⟩
theorem ok_do_count {P : Program} {w : World} {K : PySem.W.Frag} {mg : Str → Option Value} {base : Heap} (T : Tx K mg) : FnD P w K mg base 2 "do_count" ["many", "singer", "at"] m_do_count := by
  obtain ⟨fd, D⟩ := T.f_do_count
  exact fn_mk D T.g_do_count sc_do_count (fun _ _ _ _ _ _ us hl => match us, hl with | [_, _, _], _ => rfl) (by decide) fun cdv A outer s H V E hr => (pms_cons (pms_asg (pm_tup (pma_cons (pm_ix ix_seq od_ix (pm_var 1) pm_int) (pma_cons (pm_ix ix_seq od_ix (pm_var 1) pm_int) pma_nil))) (pmg_tup (pmgs_cons (pmg_name 3 sc_do_count.nd) (pmgs_cons (pmg_name 4 sc_do_count.nd) pmgs_nil)) (gsC_len (gsC_len (fun _ _ _ h => gsN_len h)))))
  (pms_cons (pms_for (passes_of rfl) (pmi_range1 T.z_range (pma_cons (pm_if (pmt_cmp (op_eqD hr.units) od_eq (pm_callB call_len cd_len T.z_len (pma_cons (pm_var 3) pma_nil)) pm_int) (pm_var 0) pm_int) pma_nil)) (pmg_name 5 sc_do_count.nd)
  (pms_cons (pms_setLc 6 [("line", 7)] (pmi_range1 T.z_range (pma_cons (pm_var 0) pma_nil)) (blkOk_by (N := N_do_count) (sc := defScope s_do_count) (by decide +kernel)) sc_do_count.nd (fun _ _ _ _ _ => (pmg_name 7 sc_do_count.nd)) (fun _ _ _ _ _ => pmts_nil) (fun _ _ _ _ _ => (pm_if (pmt_cmp (op_eqD hr.units) od_eq (pm_var 2) pm_int) (pm_tup (pma_cons (pm_var 7) (pma_cons (pm_var 5) pma_nil))) (pm_tup (pma_cons (pm_var 5) (pma_cons (pm_var 7) pma_nil))))))
  (pms_one (pms_if (pmt_cmp op_gt od_gt (pm_setLen T.z_len T.z_set (pm_lc [("pair", 8)] (pmi_seq (pm_var 6)) (blkOk_by (N := N_do_count) (sc := defScope s_do_count) (by decide +kernel)) sc_do_count.nd (fun _ _ _ _ _ => (pmg_name 8 sc_do_count.nd)) (fun _ _ _ _ _ => pmts_nil) (fun _ _ _ _ _ => (pm_ix ix_seq od_ix (pm_var 4) (pm_call (ok_place_of T) (hr.mono (by decide)) tk_nox (pma_cons (pm_var 0) (pma_cons (pm_slice (pm_var 8) pmo_none (pmo_some (pm_callB call_len cd_len T.z_len (pma_cons (pm_var 3) pma_nil)))) pma_nil))))))) pm_int) (pms_one (pms_ret pm_bl)) pms_nil))))
  (pms_one (pms_ret pm_bl))))
abbrev N_ears_that_count : List Str := ["many", "singer", "at", "ear"]
theorem sc_ears_that_count : FnScope N_ears_that_count ["many", "singer"] (defScope s_ears_that_count) := ⟨rfl, rfl, rfl, by decide +kernel, rfl, by decide +kernel, by decide +kernel⟩
theorem ok_ears_that_count {P : Program} {w : World} {K : PySem.W.Frag} {mg : Str → Option Value} {base : Heap} (T : Tx K mg) : FnD P w K mg base 3 "ears_that_count" ["many", "singer"] m_ears_that_count := by
  obtain ⟨fd, D⟩ := T.f_ears_that_count
  exact fn_mk D T.g_ears_that_count sc_ears_that_count (fun _ _ _ _ _ _ us hl => match us, hl with | [_, _], _ => rfl) (by decide) fun cdv A outer s H V E hr => (pms_one (pms_ret (pm_callTy call_tuple_of cd_tuple T.z_tuple (pma_cons (pm_lc [("at", 2), ("ear", 3)] (pmi_enum T.z_enumerate (pma_cons (pm_ix ix_seq od_ix (pm_var 1) pm_int) pma_nil)) (blkOk_by (N := N_ears_that_count) (sc := defScope s_ears_that_count) (by decide +kernel)) sc_ears_that_count.nd (fun _ _ _ _ _ => (pmg_tup (pmgs_cons (pmg_name 2 sc_ears_that_count.nd) (pmgs_cons (pmg_name 3 sc_ears_that_count.nd) pmgs_nil)) (gsC_len (gsC_len (fun _ _ _ h => gsN_len h))))) (fun _ _ _ _ _ => (pmts_one (pmt_val (pm_call (ok_do_count T) (hr.mono (by decide)) tk_nox (pma_cons (pm_var 0) (pma_cons (pm_var 1) (pma_cons (pm_var 2) pma_nil))))))) (fun _ _ _ _ _ => (pm_var 3))) pma_nil))))
abbrev N_lean_singer : List Str := ["many", "singer", "name", "ears", "table", "left", "places", "line", "place"]
theorem sc_lean_singer : FnScope N_lean_singer ["many", "singer"] (defScope s_lean_singer) := ⟨rfl, rfl, rfl, by decide +kernel, rfl, by decide +kernel, by decide +kernel⟩
theorem ok_lean_singer {P : Program} {w : World} {K : PySem.W.Frag} {mg : Str → Option Value} {base : Heap} (T : Tx K mg) : FnD P w K mg base 4 "lean_singer" ["many", "singer"] m_lean_singer := by
  obtain ⟨fd, D⟩ := T.f_lean_singer
  exact fn_mk D T.g_lean_singer sc_lean_singer (fun _ _ _ _ _ _ us hl => match us, hl with | [_, _], _ => rfl) (by decide) fun cdv A outer s H V E hr => (pms_cons (pms_asg (pm_var 1) (pmg_tup (pmgs_cons (pmg_name 2 sc_lean_singer.nd) (pmgs_cons (pmg_name 3 sc_lean_singer.nd) (pmgs_cons (pmg_name 4 sc_lean_singer.nd) pmgs_nil))) (gsC_len (gsC_len (gsC_len (fun _ _ _ h => gsN_len h))))))
  (pms_cons (pms_set 5 (pm_call (ok_ears_that_count T) (hr.mono (by decide)) tk_fn (pma_cons (pm_var 0) (pma_cons (pm_var 1) pma_nil))) sc_lean_singer.nd)
  (pms_cons (pms_if (pmt_cmp (op_eqD hr.units) od_eq (pm_var 5) (pm_var 3)) (pms_one (pms_ret (pm_var 1))) pms_nil)
  (pms_cons (pms_if (pmt_cmp (op_eqD hr.units) od_eq (pm_var 5) (pm_tup pma_nil)) (pms_one (pms_ret (pm_tup (pma_cons (pm_var 2) (pma_cons (pm_tup pma_nil) (pma_cons (pm_slice (pm_var 4) pmo_none (pmo_some pm_int)) pma_nil)))))) pms_nil)
  (pms_cons (pms_setLc 6 [("line", 7)] (pmi_range1 T.z_range (pma_cons (pm_var 0) pma_nil)) (blkOk_by (N := N_lean_singer) (sc := defScope s_lean_singer) (by decide +kernel)) sc_lean_singer.nd (fun _ _ _ _ _ => (pmg_name 7 sc_lean_singer.nd)) (fun _ _ _ _ _ => pmts_nil) (fun _ _ _ _ _ => (pm_if (pmt_cmp (op_eqD hr.units) od_eq (pm_ix ix_seq od_ix (pm_var 5) pm_int) (pm_ix ix_seq od_ix (pm_var 3) pm_int)) (pm_op op_mulD od_mul (pm_var 7) (pm_var 0)) (pm_var 7))))
  (pms_one (pms_ret (pm_tup (pma_cons (pm_var 2) (pma_cons (pm_var 5) (pma_cons (pm_callTy call_tuple_of cd_tuple T.z_tuple (pma_cons (pm_lc [("place", 8)] (pmi_seq (pm_var 6)) (blkOk_by (N := N_lean_singer) (sc := defScope s_lean_singer) (by decide +kernel)) sc_lean_singer.nd (fun _ _ _ _ _ => (pmg_name 8 sc_lean_singer.nd)) (fun _ _ _ _ _ => pmts_nil) (fun _ _ _ _ _ => (pm_ix ix_seq od_ix (pm_var 4) (pm_var 8)))) pma_nil)) pma_nil)))))))))))
abbrev N_leaned : List Str := ["choir", "singer"]
theorem sc_leaned : FnScope N_leaned ["choir"] (defScope s_leaned) := ⟨rfl, rfl, rfl, by decide +kernel, rfl, by decide +kernel, by decide +kernel⟩
theorem ok_leaned {P : Program} {w : World} {K : PySem.W.Frag} {mg : Str → Option Value} {base : Heap} (T : Tx K mg) : FnD P w K mg base 5 "leaned" ["choir"] m_leaned := by
  obtain ⟨fd, D⟩ := T.f_leaned
  exact fn_mk D T.g_leaned sc_leaned (fun _ _ _ _ _ _ us hl => match us, hl with | [_], _ => rfl) (by decide) fun cdv A outer s H V E hr => (pms_one (pms_ret (pm_tup (pma_cons (pm_ix ix_seq od_ix (pm_var 0) pm_int) (pma_cons (pm_callTy call_tuple_of cd_tuple T.z_tuple (pma_cons (pm_lc [("singer", 1)] (pmi_seq (pm_ix ix_seq od_ix (pm_var 0) pm_int)) (blkOk_by (N := N_leaned) (sc := defScope s_leaned) (by decide +kernel)) sc_leaned.nd (fun _ _ _ _ _ => (pmg_name 1 sc_leaned.nd)) (fun _ _ _ _ _ => pmts_nil) (fun _ _ _ _ _ => (pm_call (ok_lean_singer T) (hr.mono (by decide)) tk_nox (pma_cons (pm_ix ix_seq od_ix (pm_var 0) pm_int) (pma_cons (pm_var 1) pma_nil))))) pma_nil)) pma_nil)))))
abbrev N_lean : List Str := ["choir"]
theorem sc_lean : FnScope N_lean ["choir"] (defScope s_lean) := ⟨rfl, rfl, rfl, by decide +kernel, rfl, by decide +kernel, by decide +kernel⟩
theorem ok_lean {P : Program} {w : World} {K : PySem.W.Frag} {mg : Str → Option Value} {base : Heap} (T : Tx K mg) : FnD P w K mg base 7 "lean" ["choir"] m_lean := by
  obtain ⟨fd, D⟩ := T.f_lean
  exact fn_mk D T.g_lean sc_lean (fun _ _ _ _ _ _ us hl => match us, hl with | [_], _ => rfl) (by decide) fun cdv A outer s H V E hr => (pms_cons (pms_expr (pm_call (ok_need_choir T) (hr.mono (by decide)) tk_fn (pma_cons (pm_var 0) pma_nil)))
  (pms_one (pms_ret (pm_call (ok_leaned T) (hr.mono (by decide)) tk_fn (pma_cons (pm_var 0) pma_nil)))))
abbrev N_need_both : List Str := ["choir", "standing"]
theorem sc_need_both : FnScope N_need_both ["choir", "standing"] (defScope s_need_both) := ⟨rfl, rfl, rfl, by decide +kernel, rfl, by decide +kernel, by decide +kernel⟩
theorem ok_need_both {P : Program} {w : World} {K : PySem.W.Frag} {mg : Str → Option Value} {base : Heap} (T : Tx K mg) : FnD P w K mg base 7 "need_both" ["choir", "standing"] m_need_both := by
  obtain ⟨fd, D⟩ := T.f_need_both
  exact fn_mk D T.g_need_both sc_need_both (fun _ _ _ _ _ _ us hl => match us, hl with | [_, _], _ => rfl) (by decide) fun cdv A outer s H V E hr => (pms_cons (pms_expr (pm_call (ok_need_choir T) (hr.mono (by decide)) tk_fn (pma_cons (pm_var 0) pma_nil)))
  (pms_one (pms_expr (pm_call (ok_need_standing T) (hr.mono (by decide)) tk_fn (pma_cons (pm_var 0) (pma_cons (pm_var 1) pma_nil))))))
abbrev N_need_beats : List Str := ["beats"]
theorem sc_need_beats : FnScope N_need_beats ["beats"] (defScope s_need_beats) := ⟨rfl, rfl, rfl, by decide +kernel, rfl, by decide +kernel, by decide +kernel⟩
theorem ok_need_beats {P : Program} {w : World} {K : PySem.W.Frag} {mg : Str → Option Value} {base : Heap} (T : Tx K mg) : FnD P w K mg base 2 "need_beats" ["beats"] m_need_beats := by
  obtain ⟨fd, D⟩ := T.f_need_beats
  exact fn_mk D T.g_need_beats sc_need_beats (fun _ _ _ _ _ _ us hl => match us, hl with | [_], _ => rfl) (by decide) fun cdv A outer s H V E hr => (pms_one (pms_if (pmt_not (pmt_val (pm_call (ok_is_whole T) (hr.mono (by decide)) tk_fn (pma_cons (pm_var 0) (pma_cons pm_int (pma_cons (pm_gint T.c_LONGEST) pma_nil)))))) (pms_one (pms_raise T.x_BadNumber tk_fn)) pms_nil))
abbrev N_rows_of : List Str := ["choir", "standing", "beats", "found", "turn"]
theorem sc_rows_of : FnScope N_rows_of ["choir", "standing", "beats"] (defScope s_rows_of) := ⟨rfl, rfl, rfl, by decide +kernel, rfl, by decide +kernel, by decide +kernel⟩
theorem ok_rows_of {P : Program} {w : World} {K : PySem.W.Frag} {mg : Str → Option Value} {base : Heap} (T : Tx K mg) : FnD P w K mg base 7 "rows_of" ["choir", "standing", "beats"] m_rows_of := by
  obtain ⟨fd, D⟩ := T.f_rows_of
  exact fn_mk D T.g_rows_of sc_rows_of (fun _ _ _ _ _ _ us hl => match us, hl with | [_, _, _], _ => rfl) (by decide) fun cdv A outer s H V E hr => (pms_cons (pms_own 3 pma_nil sc_rows_of.nd)
  (pms_cons (pms_for (passes_of rfl) (pmi_range1 T.z_range (pma_cons (pm_var 2) pma_nil)) (pmg_name 4 sc_rows_of.nd)
  (pms_cons (pms_app 3 (pm_call (ok_all_next T) (hr.mono (by decide)) tk_fn (pma_cons (pm_var 0) (pma_cons (pm_var 1) pma_nil))))
  (pms_one (pms_set 1 (pm_call (ok_on T) (hr.mono (by decide)) tk_fn (pma_cons (pm_var 0) (pma_cons (pm_var 1) pma_nil))) sc_rows_of.nd))))
  (pms_one (pms_dem false (pms_ret (pm_var 3))))))
abbrev N_song : List Str := ["choir", "standing", "beats"]
theorem sc_song : FnScope N_song ["choir", "standing", "beats"] (defScope s_song) := ⟨rfl, rfl, rfl, by decide +kernel, rfl, by decide +kernel, by decide +kernel⟩
theorem ok_song {P : Program} {w : World} {K : PySem.W.Frag} {mg : Str → Option Value} {base : Heap} (T : Tx K mg) : FnD P w K mg base 8 "song" ["choir", "standing", "beats"] m_song := by
  obtain ⟨fd, D⟩ := T.f_song
  exact fn_mk D T.g_song sc_song (fun _ _ _ _ _ _ us hl => match us, hl with | [_, _, _], _ => rfl) (by decide) fun cdv A outer s H V E hr => (pms_cons (pms_expr (pm_call (ok_need_both T) (hr.mono (by decide)) tk_fn (pma_cons (pm_var 0) (pma_cons (pm_var 1) pma_nil))))
  (pms_cons (pms_expr (pm_call (ok_need_beats T) (hr.mono (by decide)) tk_fn (pma_cons (pm_var 2) pma_nil)))
  (pms_one (pms_ret (pm_call (ok_rows_of T) (hr.mono (by decide)) tk_fn (pma_cons (pm_var 0) (pma_cons (pm_var 1) (pma_cons (pm_var 2) pma_nil))))))))
abbrev N_Running_init : List Str := ["self", "choir", "standing"]
theorem sc_Running_init : FnScope N_Running_init ["self", "choir", "standing"] (defScope s_Running_init) := ⟨rfl, rfl, rfl, by decide +kernel, rfl, by decide +kernel, by decide +kernel⟩
theorem ok_Running_init {P : Program} {w : World} {K : PySem.W.Frag} {mg : Str → Option Value} {base : Heap} (T : Tx K mg) : FnN P w K mg base 7 m_Running_init := by
  obtain ⟨fd, D⟩ := T.f_Running_init
  exact fn_mkN D sc_Running_init (fun _ _ _ _ _ _ us hl => match us, hl with | [_, _, _], _ => rfl) (by decide) (fun cdv A outer s H V a E hr => (pms_expr (pm_call (ok_need_choir T) (hr.mono (by decide)) tk_nw (pma_cons (pm_var 1) pma_nil)))) (fun cdv A outer s H V a E hr => (pms_expr (pm_call (ok_need_standing T) (hr.mono (by decide)) tk_nw (pma_cons (pm_var 1) (pma_cons (pm_var 2) pma_nil))))) (fun cdv A outer s H E => pss_born T.rk)
abbrev N_singer_text : List Str := ["singer", "name", "ears", "table", "some", "one", "ago", "line"]
theorem sc_singer_text : FnScope N_singer_text ["singer"] (defScope s_singer_text) := ⟨rfl, rfl, rfl, by decide +kernel, rfl, by decide +kernel, by decide +kernel⟩
theorem ok_singer_text {P : Program} {w : World} {K : PySem.W.Frag} {mg : Str → Option Value} {base : Heap} (T : Tx K mg) : FnD P w K mg base 1 "singer_text" ["singer"] m_singer_text := by
  obtain ⟨fd, D⟩ := T.f_singer_text
  exact fn_mk D T.g_singer_text sc_singer_text (fun _ _ _ _ _ _ us hl => match us, hl with | [_], _ => rfl) (by decide) fun cdv A outer s H V E hr => (pms_cons (pms_asg (pm_var 0) (pmg_tup (pmgs_cons (pmg_name 1 sc_singer_text.nd) (pmgs_cons (pmg_name 2 sc_singer_text.nd) (pmgs_cons (pmg_name 3 sc_singer_text.nd) pmgs_nil))) (gsC_len (gsC_len (gsC_len (fun _ _ _ h => gsN_len h))))))
  (pms_cons (pms_setLc 4 [("one", 5), ("ago", 6)] (pmi_seq (pm_var 2)) (blkOk_by (N := N_singer_text) (sc := defScope s_singer_text) (by decide +kernel)) sc_singer_text.nd (fun _ _ _ _ _ => (pmg_tup (pmgs_cons (pmg_name 5 sc_singer_text.nd) (pmgs_cons (pmg_name 6 sc_singer_text.nd) pmgs_nil)) (gsC_len (gsC_len (fun _ _ _ h => gsN_len h))))) (fun _ _ _ _ _ => pmts_nil) (fun _ _ _ _ _ => (pm_f3 (pm_var 5) (pm_var 6))))
  (pms_one (pms_ret (pm_join pm_str (pm_op op_addD od_add (pm_op op_addD od_add (pm_lst (pma_cons (pm_var 1) pma_nil)) (pm_var 4)) (pm_lst (pma_cons pm_str (pma_cons (pm_join pm_str (pm_lc [("line", 7)] (pmi_seq (pm_var 3)) (blkOk_by (N := N_singer_text) (sc := defScope s_singer_text) (by decide +kernel)) sc_singer_text.nd (fun _ _ _ _ _ => (pmg_name 7 sc_singer_text.nd)) (fun _ _ _ _ _ => pmts_nil) (fun _ _ _ _ _ => (pm_callTy call_str_int cd_str T.z_str (pma_cons (pm_var 7) pma_nil))))) pma_nil)))))))))
abbrev N_choir_text : List Str := ["choir", "singer"]
theorem sc_choir_text : FnScope N_choir_text ["choir"] (defScope s_choir_text) := ⟨rfl, rfl, rfl, by decide +kernel, rfl, by decide +kernel, by decide +kernel⟩
theorem ok_choir_text {P : Program} {w : World} {K : PySem.W.Frag} {mg : Str → Option Value} {base : Heap} (T : Tx K mg) : FnD P w K mg base 7 "choir_text" ["choir"] m_choir_text := by
  obtain ⟨fd, D⟩ := T.f_choir_text
  exact fn_mk D T.g_choir_text sc_choir_text (fun _ _ _ _ _ _ us hl => match us, hl with | [_], _ => rfl) (by decide) fun cdv A outer s H V E hr => (pms_cons (pms_expr (pm_call (ok_need_choir T) (hr.mono (by decide)) tk_fn (pma_cons (pm_var 0) pma_nil)))
  (pms_one (pms_ret (pm_join pm_str (pm_op op_addD od_add (pm_lst (pma_cons (pm_callTy call_str_int cd_str T.z_str (pma_cons (pm_ix ix_seq od_ix (pm_var 0) pm_int) pma_nil)) pma_nil)) (pm_lc [("singer", 1)] (pmi_seq (pm_ix ix_seq od_ix (pm_var 0) pm_int)) (blkOk_by (N := N_choir_text) (sc := defScope s_choir_text) (by decide +kernel)) sc_choir_text.nd (fun _ _ _ _ _ => (pmg_name 1 sc_choir_text.nd)) (fun _ _ _ _ _ => pmts_nil) (fun _ _ _ _ _ => (pm_call (ok_singer_text T) (hr.mono (by decide)) tk_nox (pma_cons (pm_var 1) pma_nil)))))))))
abbrev N_law_drawn : List Str := ["cell", "k", "more"]
theorem sc_law_drawn : FnScope N_law_drawn ["cell", "k"] (defScope s_law_drawn) := ⟨rfl, rfl, rfl, by decide +kernel, rfl, by decide +kernel, by decide +kernel⟩
theorem ok_law_drawn {P : Program} {w : World} {K : PySem.W.Frag} {mg : Str → Option Value} {base : Heap} (T : Tx K mg) : FnD P w K mg base 1 "_law_drawn" ["cell", "k"] m_law_drawn := by
  obtain ⟨fd, D⟩ := T.f_law_drawn
  exact fn_mk D T.g_law_drawn sc_law_drawn (fun _ _ _ _ _ _ us hl => match us, hl with | [_, _], _ => rfl) (by decide) fun cdv A outer s H V E hr => (pms_cons (pms_set 2 (pm_op op_mod od_mod (pm_op op_addD od_add (pm_op op_mulD od_mul (pm_var 0) pm_int) (pm_op op_mulD od_mul (pm_op op_addD od_add (pm_var 1) pm_int) pm_int)) pm_int) sc_law_drawn.nd)
  (pms_cons (pms_set 2 (pm_op op_mod od_mod (pm_op op_mulD od_mul (pm_var 2) (pm_var 2)) pm_int) sc_law_drawn.nd)
  (pms_cons (pms_set 2 (pm_op op_mulD od_mul (pm_op op_mulD od_mul (pm_op op_addD od_add (pm_op op_mod od_mod (pm_var 2) pm_int) pm_int) (pm_op op_addD od_add (pm_op op_fdivW od_div (pm_var 2) pm_int) pm_int)) (pm_var 2)) sc_law_drawn.nd)
  (pms_one (pms_ret (pm_op op_mod od_mod (pm_var 2) pm_int))))))
abbrev N_law_roll : List Str := ["dice", "many", "told"]
theorem sc_law_roll : FnScope N_law_roll ["dice", "many"] (defScope s_law_roll) := ⟨rfl, rfl, rfl, by decide +kernel, rfl, by decide +kernel, by decide +kernel⟩
theorem ok_law_roll {P : Program} {w : World} {K : PySem.W.Frag} {mg : Str → Option Value} {base : Heap} (T : Tx K mg) : FnL P w K mg base 2 "_law_roll" ["dice", "many"] m_law_roll := by
  obtain ⟨fd, D⟩ := T.f_law_roll
  exact fn_mkL D T.g_law_roll sc_law_roll (fun _ _ _ _ _ _ us hl => match us, hl with | [_, _], _ => rfl) (by decide) (by decide) fun cdv A outer s H V a E hr => (pms_cons (pms_if (pmt_cmp op_ge od_ge (pm_ixO 0 pm_int) (pm_op op_pow od_pow pm_int pm_int)) (pms_cons (pms_set 2 (pm_op op_mod od_mod (pm_ixO 0 pm_int) (pm_var 1)) sc_law_roll.nd)
  (pms_cons (pms_six 0 (pm_op op_fdivW od_div (pm_ixO 0 pm_int) (pm_var 1)) pm_int)
  (pms_one (pms_ret (pm_var 2))))) pms_nil)
  (pms_cons (pms_six 0 (pm_op op_addD od_add (pm_ixO 0 pm_int) pm_int) pm_int)
  (pms_one (pms_ret (pm_op op_mod od_mod (pm_op op_fdivW od_div (pm_call (ok_law_drawn T) (hr.mono (by decide)) tk_fn (pma_cons (pm_ixO 0 pm_int) (pma_cons (pm_ixO 0 pm_int) pma_nil))) pm_int) (pm_var 1))))))
abbrev N_law_term : List Str := ["e", "flags", "kinds", "flag"]
theorem sc_law_term : FnScope N_law_term ["e"] (defScope s_law_term) := ⟨rfl, rfl, rfl, by decide +kernel, rfl, by decide +kernel, by decide +kernel⟩
theorem ok_law_term {P : Program} {w : World} {K : PySem.W.Frag} {mg : Str → Option Value} (T : Tx K mg) (EX : HD.ExcT K) : ∃ fd, (∀ (base : Heap) (CX : CXT) (k : Nat), HD.FnHP P w K mg base CX (k + 1) (He.ga K "_law_term") fd ["e"] (HD.spTerm ⟨K, w⟩ (· ∈ HD.excs))) ∧ L2.Binds K fd ["e"] [] ∧ PySem.W.keepIn K (.ref (He.ga K "_law_term")) = true := by
  obtain ⟨fd, D⟩ := T.f_law_term
  refine ⟨fd, fun base CX k => HD.term_mk D sc_law_term rfl (fun c cdv A outer s H V E p hc hz hf hot hr => (pms_cons (pms_set 1 (pm_lst (pma_cons (HD.pm_isC List.mem_cons_self (EX.c c hc) hz hf rfl T.z_isinstance T.x_BadChoir.g (EX.k c hc "BadChoir" (by decide))) (pma_cons (HD.pm_isC List.mem_cons_self (EX.c c hc) hz hf rfl T.z_isinstance T.x_BadName.g (EX.k c hc "BadName" (by decide))) (pma_cons (HD.pm_isC List.mem_cons_self (EX.c c hc) hz hf rfl T.z_isinstance T.x_BadStanding.g (EX.k c hc "BadStanding" (by decide))) (pma_cons (HD.pm_isC List.mem_cons_self (EX.c c hc) hz hf rfl T.z_isinstance T.x_BadNumber.g (EX.k c hc "BadNumber" (by decide))) pma_nil))))) sc_law_term.nd)
  (pms_cons (pms_set 1 (pm_op op_addD od_add (pm_var 1) (pm_lst (pma_cons (HD.pm_isC List.mem_cons_self (EX.c c hc) hz hf rfl T.z_isinstance T.x_BadRows.g (EX.k c hc "BadRows" (by decide))) (pma_cons (HD.pm_isC List.mem_cons_self (EX.c c hc) hz hf rfl T.z_isinstance T.x_BadLead.g (EX.k c hc "BadLead" (by decide))) (pma_cons (HD.pm_isC List.mem_cons_self (EX.c c hc) hz hf rfl T.z_isinstance T.x_BadWish.g (EX.k c hc "BadWish" (by decide))) pma_nil))))) sc_law_term.nd)
  (pms_cons (pms_set 1 (pm_op op_addD od_add (pm_var 1) (pm_lst (pma_cons (HD.pm_isC List.mem_cons_self (EX.c c hc) hz hf rfl T.z_isinstance T.k_Clash (EX.k c hc "Clash" (by decide))) (pma_cons (HD.pm_isC List.mem_cons_self (EX.c c hc) hz hf rfl T.z_isinstance T.x_Nothing.g (EX.k c hc "Nothing" (by decide))) (pma_cons (HD.pm_isC List.mem_cons_self (EX.c c hc) hz hf rfl T.z_isinstance T.x_Full.g (EX.k c hc "Full" (by decide))) (pma_cons (HD.pm_isC List.mem_cons_self (EX.c c hc) hz hf rfl T.z_isinstance T.x_BadText.g (EX.k c hc "BadText" (by decide))) pma_nil)))))) sc_law_term.nd)
  (pms_cons (pms_set 2 (pm_lst (pma_cons pm_str (pma_cons pm_str (pma_cons pm_str (pma_cons pm_str (pma_cons pm_str (pma_cons pm_str (pma_cons pm_str pma_nil)))))))) sc_law_term.nd)
  (pms_cons (pms_set 2 (pm_op op_addD od_add (pm_var 2) (pm_lst (pma_cons pm_str (pma_cons pm_str (pma_cons pm_str (pma_cons pm_str pma_nil)))))) sc_law_term.nd)
  (pms_cons (pms_if (pmt_w (pmw_or (pmt_cmp (op_neD hr.units) od_ne (pm_callB (HD.cr_sumH ⟨p, hot, List.mem_cons_self⟩) cd_sum T.z_sum (pma_cons (HD.pm_ints 3 hot List.mem_cons_self T.z_int sc_law_term.nd (pm_var 1) (blkOk_by (N := N_law_term) (sc := defScope s_law_term) (by decide +kernel))) pma_nil)) pm_int) (pmw_or1 (pmt_not (pmt_val (HD.pm_isB (c := "ValueError") (t := "") List.mem_cons_self (EX.c c hc) hz hf rfl T.z_isinstance T.z_ValueError (by decide +kernel) (EX.v c hc))))))) (pms_one (pms_ret (pm_tup (pma_cons pm_str (pma_cons pm_str pma_nil))))) pms_nil)
  (pms_one (pms_ret (pm_tup (pma_cons pm_str (pma_cons (pm_ix ix_seq od_ix (pm_var 2) (pm_index (HD.u65H hr) (pm_var 1) (pma_cons pm_bl pma_nil))) pma_nil)))))))))))) v_law_term, D.bindsN (fun _ _ _ _ _ _ us hl => match us, hl with | [_], _ => rfl), D.kp⟩
theorem sc_law_told : FnScope ["deed", "e"] ["deed"] (defScope s_law_told) := ⟨rfl, rfl, rfl, by decide +kernel, rfl, by decide +kernel, by decide +kernel⟩
theorem pm_told_law {X : Cx} {F : Fr} {x : Str} {params : Arguments} {body : Expr} {scope : Scope} {fb : M PyData} {k : Nat} {c Pt : Addr} {p lpos pos : Pos} (T : Tx X.K X.mg) (EX : HD.ExcT X.K)
    (LA : HD.LamAt X.K X.mg X.base x X.env.code c Pt) (hq : X.env.qual = x ++ ".<locals>.") (hr : Room (k + 2) X.A) (L : LamX.LamS X.env.scope scope)
    (hb : ∀ (A : Around) (outer : List Env) (s : Shared) (H : Hp) (E : XK) (f c' : Addr) (H' V : Hp), Room k (A.deeper (LamX.lamEnv X scope s.heap.objs.size f c')) → PM (HD.lamN X A outer s H E scope f c') (mkF H' V E) body fb)
    (hg : Gl X "_law_told" := by rfl) (hdef : defaultsOf params X.env = ([], []) := by rfl)
    (hbind : ∀ (q : Str) (cl : List (Str × Addr)) (pm cv ctv : Value), bindArgs (PySem.W.kla_fn "<lambda>" q params body scope cl pm cv ctv) ⟨[], []⟩ = pure [] := by intros; rfl) :
    PM X F (.Call (.Name "_law_told" p) [.Lambda params body scope lpos] [] pos) (HD.toldM fb) := by
  obtain ⟨fdt, D⟩ := T.f_law_told
  obtain ⟨ft, F1, F2, F3⟩ := ok_law_term (P := X.prog) (w := X.w) T EX
  exact HD.pm_told D T.g_law_told (fun _ _ _ _ _ _ us hl => match us, hl with | [_], _ => rfl) sc_law_told (Or.inl rfl) (fun cdv => HD.told_N (fun k => F1 X.base C8.CX0 k) F2 F3 T.g_law_term rfl rfl rfl rfl T.k_Clash T.x_SongError.g EX.m) LA hq hr L hb hg hdef hbind
abbrev N_law_any_singers : List Str := ["dice", "many", "crew", "found", "name", "ears", "turn", "size", "ear", "place"]
theorem sc_law_any_singers : FnScope N_law_any_singers ["dice", "many", "crew"] (defScope s_law_any_singers) := ⟨rfl, rfl, rfl, by decide +kernel, rfl, by decide +kernel, by decide +kernel⟩
theorem ok_law_any_singers {P : Program} {w : World} {K : PySem.W.Frag} {mg : Str → Option Value} {base : Heap} (T : Tx K mg) : FnL P w K mg base 3 "_law_any_singers" ["dice", "many", "crew"] m_law_any_singers := by
  obtain ⟨fd, D⟩ := T.f_law_any_singers
  exact fn_mkL D T.g_law_any_singers sc_law_any_singers (fun _ _ _ _ _ _ us hl => match us, hl with | [_, _, _], _ => rfl) (by decide) (by decide) fun cdv A outer s H V a E hr => (pms_cons (pms_own 3 pma_nil sc_law_any_singers.nd)
  (pms_cons (pms_for (passes_of rfl) (pmi_seq (pm_var 2)) (pmg_name 4 sc_law_any_singers.nd)
  (pms_cons (pms_own 5 pma_nil sc_law_any_singers.nd)
  (pms_cons (pms_for (passes_of rfl) (pmi_range1 T.z_range (pma_cons (pm_callL 0 (ok_law_roll T) (hr.mono (by decide)) tk_fn (pma_cons pm_int pma_nil)) pma_nil)) (pmg_name 6 sc_law_any_singers.nd)
  (pms_cons (pms_set 8 (pm_tup (pma_cons (pm_ix ix_seq od_ix (pm_var 2) (pm_callL 0 (ok_law_roll T) (hr.mono (by decide)) tk_fn (pma_cons (pm_callB call_len cd_len T.z_len (pma_cons (pm_var 2) pma_nil)) pma_nil))) (pma_cons (pm_op op_addD od_add pm_int (pm_callL 0 (ok_law_roll T) (hr.mono (by decide)) tk_fn (pma_cons pm_int pma_nil))) pma_nil))) sc_law_any_singers.nd)
  (pms_one (pms_if (pmt_brw true (pmt_cmp (op_notInAll (u65 hr)) od_notIn (pm_var 8) (pm_var 5))) (pms_one (pms_app 5 (pm_var 8))) pms_nil))))
  (pms_cons (pms_set 7 (pm_ix ix_seq od_ix (pm_lst (pma_cons pm_int (pma_cons (pm_var 1) (pma_cons (pm_op op_mulD od_mul (pm_var 1) (pm_var 1)) pma_nil)))) (pm_brw true (pm_callB call_len cd_len T.z_len (pma_cons (pm_var 5) pma_nil)))) sc_law_any_singers.nd)
  (pms_one (pms_app 3 (pm_tup (pma_cons (pm_var 4) (pma_cons (pm_brw true (pm_callTy call_tuple_of cd_tuple T.z_tuple (pma_cons (pm_callB cr_sortAll cd_sorted T.z_sorted (pma_cons (pm_var 5) pma_nil)) pma_nil))) (pma_cons (pm_callTy call_tuple_of cd_tuple T.z_tuple (pma_cons (pm_lc [("place", 9)] (pmi_range1 T.z_range (pma_cons (pm_var 7) pma_nil)) (blkOk_by (N := N_law_any_singers) (sc := defScope s_law_any_singers) (by decide +kernel)) sc_law_any_singers.nd (fun _ _ _ _ _ => (pmg_name 9 sc_law_any_singers.nd)) (fun _ _ _ _ _ => pmts_nil) (fun _ _ _ _ _ => (pm_callL 0 (ok_law_roll T) (hr.mono (by decide)) tk_nox (pma_cons (pm_var 1) pma_nil)))) pma_nil)) pma_nil))))))))))
  (pms_one (pms_ret (pm_brw true (pm_callTy call_tuple_of cd_tuple T.z_tuple (pma_cons (pm_var 3) pma_nil)))))))
abbrev N_law_any_choir : List Str := ["dice", "act", "many", "size"]
theorem sc_law_any_choir : FnScope N_law_any_choir ["dice"] (defScope s_law_any_choir) := ⟨rfl, rfl, rfl, by decide +kernel, rfl, by decide +kernel, by decide +kernel⟩
theorem ok_law_any_choir {P : Program} {w : World} {K : PySem.W.Frag} {mg : Str → Option Value} {base : Heap} (T : Tx K mg) : FnL P w K mg base 4 "_law_any_choir" ["dice"] m_law_any_choir := by
  obtain ⟨fd, D⟩ := T.f_law_any_choir
  exact fn_mkL D T.g_law_any_choir sc_law_any_choir (fun _ _ _ _ _ _ us hl => match us, hl with | [_], _ => rfl) (by decide) (by decide) fun cdv A outer s H V a E hr => (pms_cons (pms_set 1 (pm_callL 0 (ok_law_roll T) (hr.mono (by decide)) tk_fn (pma_cons pm_int pma_nil)) sc_law_any_choir.nd)
  (pms_cons (pms_asg (pm_ix ix_seq od_ix (pm_lst (pma_cons (pm_tup (pma_cons pm_int (pma_cons pm_int pma_nil))) (pma_cons (pm_tup (pma_cons pm_int (pma_cons pm_int pma_nil))) (pma_cons (pm_tup (pma_cons pm_int (pma_cons pm_int pma_nil))) (pma_cons (pm_tup (pma_cons pm_int (pma_cons pm_int pma_nil))) (pma_cons (pm_tup (pma_cons pm_int (pma_cons pm_int pma_nil))) (pma_cons (pm_tup (pma_cons pm_int (pma_cons pm_int pma_nil))) pma_nil))))))) (pm_var 1)) (pmg_tup (pmgs_cons (pmg_name 2 sc_law_any_choir.nd) (pmgs_cons (pmg_name 3 sc_law_any_choir.nd) pmgs_nil)) (gsC_len (gsC_len (fun _ _ _ h => gsN_len h)))))
  (pms_one (pms_ret (pm_tup (pma_cons (pm_var 2) (pma_cons (pm_callL 0 (ok_law_any_singers T) (hr.mono (by decide)) tk_fn (pma_cons (pm_var 2) (pma_cons (pm_slice (pm_lst (pma_cons pm_str (pma_cons pm_str (pma_cons pm_str pma_nil)))) pmo_none (pmo_some (pm_var 3))) pma_nil))) pma_nil)))))))
abbrev N_law_crew : List Str := ["choir", "singer"]
theorem sc_law_crew : FnScope N_law_crew ["choir"] (defScope s_law_crew) := ⟨rfl, rfl, rfl, by decide +kernel, rfl, by decide +kernel, by decide +kernel⟩
theorem ok_law_crew {P : Program} {w : World} {K : PySem.W.Frag} {mg : Str → Option Value} {base : Heap} (T : Tx K mg) : FnD P w K mg base 1 "_law_crew" ["choir"] m_law_crew := by
  obtain ⟨fd, D⟩ := T.f_law_crew
  exact fn_mk D T.g_law_crew sc_law_crew (fun _ _ _ _ _ _ us hl => match us, hl with | [_], _ => rfl) (by decide) fun cdv A outer s H V E hr => (pms_one (pms_ret (pm_lc [("singer", 1)] (pmi_seq (pm_ix ix_seq od_ix (pm_var 0) pm_int)) (blkOk_by (N := N_law_crew) (sc := defScope s_law_crew) (by decide +kernel)) sc_law_crew.nd (fun _ _ _ _ _ => (pmg_name 1 sc_law_crew.nd)) (fun _ _ _ _ _ => pmts_nil) (fun _ _ _ _ _ => (pm_ix ix_seq od_ix (pm_var 1) pm_int)))))
abbrev N_law_is_word : List Str := ["thing", "sign"]
theorem sc_law_is_word : FnScope N_law_is_word ["thing"] (defScope s_law_is_word) := ⟨rfl, rfl, rfl, by decide +kernel, rfl, by decide +kernel, by decide +kernel⟩
theorem ok_law_is_word {P : Program} {w : World} {K : PySem.W.Frag} {mg : Str → Option Value} {base : Heap} (T : Tx K mg) : FnD P w K mg base 1 "_law_is_word" ["thing"] m_law_is_word := by
  obtain ⟨fd, D⟩ := T.f_law_is_word
  exact fn_mk D T.g_law_is_word sc_law_is_word (fun _ _ _ _ _ _ us hl => match us, hl with | [_], _ => rfl) (by decide) fun cdv A outer s H V E hr => (pms_one (pms_ret (pm_and (pm_isi .str T.z_isinstance T.z_str (pm_var 0)) (pm_and (pm_chain (op_ltAll hr.units0) od_lt (op_ltAll hr.units0) od_lt pm_int (pm_callB call_len cd_len T.z_len (pma_cons (pm_var 0) pma_nil)) pm_int) (pm_one (pm_cmp (op_eqD hr.units) od_eq (pm_lc [("sign", 1)] (pmi_seq (pm_var 0)) (blkOk_by (N := N_law_is_word) (sc := defScope s_law_is_word) (by decide +kernel)) sc_law_is_word.nd (fun _ _ _ _ _ => (pmg_name 1 sc_law_is_word.nd)) (fun _ _ _ _ _ => (pmts_one (pmt_not (pmt_chain op_leS od_leS op_leS od_leS pm_str (pm_var 1) pm_str)))) (fun _ _ _ _ _ => (pm_var 1))) (pm_lst pma_nil)))))))
abbrev N_law_is_number : List Str := ["thing", "low", "high"]
theorem sc_law_is_number : FnScope N_law_is_number ["thing", "low", "high"] (defScope s_law_is_number) := ⟨rfl, rfl, rfl, by decide +kernel, rfl, by decide +kernel, by decide +kernel⟩
theorem ok_law_is_number {P : Program} {w : World} {K : PySem.W.Frag} {mg : Str → Option Value} {base : Heap} (T : Tx K mg) : FnD P w K mg base 1 "_law_is_number" ["thing", "low", "high"] m_law_is_number := by
  obtain ⟨fd, D⟩ := T.f_law_is_number
  exact fn_mk D T.g_law_is_number sc_law_is_number (fun _ _ _ _ _ _ us hl => match us, hl with | [_, _, _], _ => rfl) (by decide) fun cdv A outer s H V E hr => (pms_one (pms_ret (pm_and (pm_isi .int T.z_isinstance T.z_int (pm_var 0)) (pm_and (pm_not (pm_isi .bool T.z_isinstance T.z_bool (pm_var 0))) (pm_one (pm_chain op_le od_le op_le od_le (pm_var 1) (pm_var 0) (pm_var 2)))))))
abbrev N_law_is_own_singer : List Str := ["thing", "many", "crew", "ear", "line"]
theorem sc_law_is_own_singer : FnScope N_law_is_own_singer ["thing", "many", "crew"] (defScope s_law_is_own_singer) := ⟨rfl, rfl, rfl, by decide +kernel, rfl, by decide +kernel, by decide +kernel⟩
theorem ok_law_is_own_singer {P : Program} {w : World} {K : PySem.W.Frag} {mg : Str → Option Value} {base : Heap} (T : Tx K mg) : FnD P w K mg base 2 "_law_is_own_singer" ["thing", "many", "crew"] m_law_is_own_singer := by
  obtain ⟨fd, D⟩ := T.f_law_is_own_singer
  exact fn_mk D T.g_law_is_own_singer sc_law_is_own_singer (fun _ _ _ _ _ _ us hl => match us, hl with | [_, _, _], _ => rfl) (by decide) fun cdv A outer s H V E hr => (pms_cons (pms_if (pmt_w (pmw_or (pmt_not (pmt_val (pm_isi .tuple T.z_isinstance T.z_tuple (pm_var 0)))) (pmw_or (pmt_cmp (op_neD hr.units) od_ne (pm_callB call_len cd_len T.z_len (pma_cons (pm_var 0) pma_nil)) pm_int) (pmw_or1 (pmt_not (pmt_val (pm_call (ok_law_is_word T) (hr.mono (by decide)) tk_fn (pma_cons (pm_ix ix_seq od_ix (pm_var 0) pm_int) pma_nil)))))))) (pms_one (pms_ret pm_bl)) pms_nil)
  (pms_cons (pms_if (pmt_not (pmt_val (pm_isi .tuple T.z_isinstance T.z_tuple (pm_ix ix_seq od_ix (pm_var 0) pm_int)))) (pms_one (pms_ret pm_bl)) pms_nil)
  (pms_cons (pms_for (passes_of rfl) (pmi_seq (pm_ix ix_seq od_ix (pm_var 0) pm_int)) (pmg_name 3 sc_law_is_own_singer.nd)
  (pms_cons (pms_if (pmt_w (pmw_or (pmt_not (pmt_val (pm_isi .tuple T.z_isinstance T.z_tuple (pm_var 3)))) (pmw_or (pmt_cmp (op_neD hr.units) od_ne (pm_callB call_len cd_len T.z_len (pma_cons (pm_var 3) pma_nil)) pm_int) (pmw_or1 (pmt_not (pmt_val (pm_call (ok_law_is_word T) (hr.mono (by decide)) tk_fn (pma_cons (pm_ix ix_seq od_ix (pm_var 3) pm_int) pma_nil)))))))) (pms_one (pms_ret pm_bl)) pms_nil)
  (pms_cons (pms_if (pmt_not (pmt_val (pm_call (ok_law_is_number T) (hr.mono (by decide)) tk_fn (pma_cons (pm_ix ix_seq od_ix (pm_var 3) pm_int) (pma_cons pm_int (pma_cons pm_int pma_nil)))))) (pms_one (pms_ret pm_bl)) pms_nil)
  (pms_one (pms_if (pmt_cmp (op_notInAll (u65 hr)) od_notIn (pm_ix ix_seq od_ix (pm_var 3) pm_int) (pm_var 2)) (pms_one (pms_ret pm_bl)) pms_nil)))))
  (pms_cons (pms_if (pmt_w (pmw_or (pmt_cmp op_gt od_gt (pm_callB call_len cd_len T.z_len (pma_cons (pm_ix ix_seq od_ix (pm_var 0) pm_int) pma_nil)) pm_int) (pmw_or (pmt_cmp (op_neD hr.units) od_ne (pm_callTy call_list_of cd_list T.z_list (pma_cons (pm_ix ix_seq od_ix (pm_var 0) pm_int) pma_nil)) (pm_sortU hr.units T.z_sorted T.z_set (pm_ix ix_seq od_ix (pm_var 0) pm_int))) (pmw_or1 (pmt_not (pmt_val (pm_isi .tuple T.z_isinstance T.z_tuple (pm_ix ix_seq od_ix (pm_var 0) pm_int)))))))) (pms_one (pms_ret pm_bl)) pms_nil)
  (pms_cons (pms_if (pmt_cmp (op_neD hr.units) od_ne (pm_callB call_len cd_len T.z_len (pma_cons (pm_ix ix_seq od_ix (pm_var 0) pm_int) pma_nil)) (pm_ix ix_seq od_ix (pm_lst (pma_cons pm_int (pma_cons (pm_var 1) (pma_cons (pm_op op_mulD od_mul (pm_var 1) (pm_var 1)) pma_nil)))) (pm_callB call_len cd_len T.z_len (pma_cons (pm_ix ix_seq od_ix (pm_var 0) pm_int) pma_nil)))) (pms_one (pms_ret pm_bl)) pms_nil)
  (pms_one (pms_ret (pm_cmp (op_eqD hr.units) od_eq (pm_lc [("line", 4)] (pmi_seq (pm_ix ix_seq od_ix (pm_var 0) pm_int)) (blkOk_by (N := N_law_is_own_singer) (sc := defScope s_law_is_own_singer) (by decide +kernel)) sc_law_is_own_singer.nd (fun _ _ _ _ _ => (pmg_name 4 sc_law_is_own_singer.nd)) (fun _ _ _ _ _ => (pmts_one (pmt_not (pmt_val (pm_call (ok_law_is_number T) (hr.mono (by decide)) tk_nox (pma_cons (pm_var 4) (pma_cons pm_int (pma_cons (pm_op op_sub od_sub (pm_var 1) pm_int) pma_nil)))))))) (fun _ _ _ _ _ => (pm_var 4))) (pm_lst pma_nil)))))))))
abbrev N_law_cell : List Str := ["script", "k"]
theorem sc_law_cell : FnScope N_law_cell ["script", "k"] (defScope s_law_cell) := ⟨rfl, rfl, rfl, by decide +kernel, rfl, by decide +kernel, by decide +kernel⟩
theorem ok_law_cell {P : Program} {w : World} {K : PySem.W.Frag} {mg : Str → Option Value} {base : Heap} (T : Tx K mg) : ∃ fd, FnOk P w K mg base (L2N.CX P w) 1 (He.ga K "_law_cell") fd ["script", "k"] (DL.spCell ⟨K, w⟩) ∧ Binds K fd ["script", "k"] [] ∧ PySem.W.keepIn K (.ref (He.ga K "_law_cell")) = true := by
  obtain ⟨fd, D⟩ := T.f_law_cell
  refine ⟨fd, D.ok (CX := L2N.CX P w) sc_law_cell (fun vs H Q E h => ?_) (fun cdv A outer s H vs Q E hr h => ⟨DL.t_cell ⟨K, w⟩, ?_, DL.pure_cell vs H Q E h⟩), D.bindsN (fun _ _ _ _ _ _ us hl => match us, hl with | [_, _], _ => rfl), D.kp⟩
  · obtain ⟨a, ns, k, rfl, _⟩ := h
    rfl
  · exact pss_cons (ps_if (pt_cmpR (op_eqD hr.units) (pv 0) (pe_lst pa_nil) (nomark _)) (pss_one (ps_ret (pe_op op_mul (pv 1) pe_int))) pss_nil)
      (pss_one (ps_ret (pe_op op_add (pe_ix ix_list (pv 0) (pe_op op_mod (pv 1) (pe_callB call_len rfl T.z_len (by decide +kernel) (pa_cons (pv 0) pa_nil))) (fun _ _ => rfl)) (pe_op op_mul (pe_op op_fdivW (pv 1) (pe_callB call_len rfl T.z_len (by decide +kernel) (pa_cons (pv 0) pa_nil))) pe_int))))
abbrev N_law_rounds : List Str := ["script", "high", "k"]
theorem sc_law_rounds : FnScope N_law_rounds ["script", "high"] (defScope s_law_rounds) := ⟨rfl, rfl, rfl, by decide +kernel, rfl, by decide +kernel, by decide +kernel⟩
theorem ok_law_rounds {P : Program} {w : World} {K : PySem.W.Frag} {mg : Str → Option Value} {base : Heap} (T : Tx K mg) : ∃ fd, FnOk P w K mg base (L2N.CX P w) 2 (He.ga K "_law_rounds") fd ["script", "high"] (DL.spRounds ⟨K, w⟩) ∧ Binds K fd ["script", "high"] [] ∧ PySem.W.keepIn K (.ref (He.ga K "_law_rounds")) = true := by
  obtain ⟨fd, D⟩ := T.f_law_rounds
  refine ⟨fd, D.ok (CX := L2N.CX P w) sc_law_rounds (fun vs H Q E h => ?_) (fun cdv A outer s H vs Q E hr h => ⟨DL.t_rounds ⟨K, w⟩ E, ?_, DL.pure_rounds vs H Q E h⟩), D.bindsN (fun _ _ _ _ _ _ us hl => match us, hl with | [_, _], _ => rfl), D.kp⟩
  · obtain ⟨a, ns, k, rfl, _⟩ := h
    rfl
  · obtain ⟨fc, G1, G2, G3⟩ := ok_law_cell (P := P) (w := w) (base := base) T
    exact pss_one (ps_ret (pe_lc (own := [("k", 2)]) rfl sc_law_rounds.nd
      (pi_range1 rfl T.z_range (pa_cons (pe_callB (call_max2 rfl) rfl T.z_max (by decide +kernel) (pa_cons pe_int (pa_cons (pe_callB (call_min2 rfl) rfl T.z_min (by decide +kernel) (pa_cons (pv 1) (pa_cons (pe_callB call_len rfl T.z_len (by decide +kernel) (pa_cons (pv 0) pa_nil)) pa_nil))) pa_nil))) pa_nil))
      (blkOk_by (N := N_law_rounds) (sc := defScope s_law_rounds) (by decide +kernel)) (fun _ _ _ _ _ => pg_name (i := 2) sc_law_rounds.nd rfl (Or.inl rfl)) (fun _ _ _ _ _ => pts_nil)
      (fun _ _ _ _ _ => pe_lst (pa_cons (pe_callS (k := 1) (E := fun _ _ _ _ => False) G1 (hr.mono (by decide)) rfl T.g_law_cell G3 G2 (fun σ => L2N.passAt takesN0 σ) (pa_cons (pv 0) (pa_cons (pv 2) pa_nil))) (pa_cons pe_int pa_nil)))))
abbrev N_law : List Str := ["script", "dice", "choir", "many", "singers", "crew", "turn", "lone", "five", "cases", "bad", "at", "act", "bent", "singer", "thing", "some", "fair", "good", "made", "one", "sign"]
theorem sc_law : FnScope N_law ["script"] (defScope s_law) := ⟨rfl, rfl, rfl, by decide +kernel, rfl, by decide +kernel, by decide +kernel⟩
theorem ok_law {P : Program} {w : World} {K : PySem.W.Frag} {mg : Str → Option Value} (T : Tx K mg) (EX : HD.ExcT K) (hb : ∀ c : Int, ∃ ρ', b_law (init law_n law_di c) = .nx ρ' ∧ ρ'.length = law_n) : ∃ fd, (∀ base : Heap, HD.LamKs K mg base lams → FnOk P w K mg base (L2N.CX P w) 11 (He.ga K "law") fd ["script"] (DL.spLaw ⟨K, w⟩)) ∧ ∀ (s : Shared) (v : Value), BindsTo s fd ⟨[v], []⟩ [("script", v)] := by
  obtain ⟨fd, D⟩ := T.f_law
  have hbb := fun s v => FunD.bindsA (ps := ["script"]) D (fun _ _ _ _ _ _ us hl => match us, hl with | [_], _ => rfl) s [v] rfl
  obtain ⟨oc, od, dV, kV, doc, pm, an, cdv, ct, osl, rfl, lk, hcd, _, _⟩ := D.ex
  refine ⟨_, fun base LM => fn_of (CX := L2N.CX P w) lk hcd sc_law (fun vs H Q E h => ?_) (fun A outer s H vs Q E hr h => ⟨DL.t_law ⟨K, w⟩ 5 1 b_law, ?_, DL.pure_law (N := N_law) (by decide) (by decide) (by decide) hb vs H Q E h (fun _ => rfl) (fun _ => rfl)⟩), hbb⟩
  · obtain ⟨_, a, ns, rfl, _⟩ := h
    rfl
  · obtain ⟨c, Pt, LA⟩ := LM "law" (by decide) _ _ _ _ lk
    obtain ⟨fr, G1, G2, G3⟩ := ok_law_rounds (P := P) (w := w) (base := base) T
    exact pss_cons (ps_for (passes_of rfl) rfl (pi_list (pe_callS (k := 2) (E := fun _ _ _ _ => False) G1 (hr.mono (by decide)) rfl T.g_law_rounds G3 G2 (fun σ => L2N.passAt takesN0 σ) (pa_cons (pv 0) (pa_cons pe_int pa_nil)))) (pg_name (i := 1) sc_law.nd rfl (by first | exact Or.inl rfl | exact Or.inr rfl))
      (pss_body fun H a => (pms_cons (pms_set 2 (pm_callL 1 (ok_law_any_choir T) (hr.mono (by decide)) tk_z pma_nil) sc_law.nd)
  (pms_cons (pms_asg (pm_var 2) (pmg_tup (pmgs_cons (pmg_name 3 sc_law.nd) (pmgs_cons (pmg_name 4 sc_law.nd) pmgs_nil)) (gsC_len (gsC_len (fun _ _ _ h => gsN_len h)))))
  (pms_cons (pms_set 5 (pm_call (ok_law_crew T) (hr.mono (by decide)) tk_z (pma_cons (pm_var 2) pma_nil)) sc_law.nd)
  (pms_cons (pms_if (pmt_w (pmw_or (pmt_cmp op_isNotD od_isNot (pm_call (ok_is_choir T) (hr.mono (by decide)) tk_z (pma_cons (pm_var 2) pma_nil)) pm_bl) (pmw_or1 (pmt_cmp (op_neD hr.units) od_ne (pm_call (ok_names T) (hr.mono (by decide)) tk_z (pma_cons (pm_var 2) pma_nil)) (pm_var 5))))) (pms_one (pms_ret pm_bl)) pms_nil)
  (pms_cons (pms_if (pmt_cmp (op_neD hr.units) od_ne (pm_call (ok_silence T) (hr.mono (by decide)) tk_z (pma_cons (pm_var 2) pma_nil)) (pm_op op_mulD od_mul (pm_tup (pma_cons (pm_tup (pma_cons pm_int (pma_cons pm_int (pma_cons pm_int pma_nil)))) pma_nil)) (pm_callB call_len cd_len T.z_len (pma_cons (pm_var 5) pma_nil)))) (pms_one (pms_ret pm_bl)) pms_nil)
  (pms_cons (pms_for (passes_of rfl) (pmi_range1 T.z_range (pma_cons pm_int pma_nil)) (pmg_name 6 sc_law.nd)
  (pms_cons (pms_par 11 12 (pma_cons (pm_callL 1 (ok_law_roll T) (hr.mono (by decide)) tk_z (pma_cons (pm_callB call_len cd_len T.z_len (pma_cons (pm_var 4) pma_nil)) pma_nil)) (pma_cons (pm_callL 1 (ok_law_roll T) (hr.mono (by decide)) tk_z (pma_cons pm_int pma_nil)) pma_nil)) sc_law.nd)
  (pms_cons (pms_set 13 (pm_lst (pma_cons (pm_lst (pma_cons pm_str (pma_cons pm_str (pma_cons pm_int (pma_cons pm_str (pma_cons pm_str pma_nil)))))) pma_nil)) sc_law.nd)
  (pms_cons (pms_set 13 (pm_op op_addD od_add (pm_var 13) (pm_lst (pma_cons (pm_lst (pma_cons (pm_tup pma_nil) (pma_cons (pm_tup (pma_cons (pm_tup (pma_cons pm_str (pma_cons pm_int pma_nil))) pma_nil)) (pma_cons (pm_tup (pma_cons (pm_tup (pma_cons pm_str (pma_cons pm_int pma_nil))) pma_nil)) (pma_cons (pm_tup (pma_cons (pm_tup (pma_cons pm_str (pma_cons pm_int pma_nil))) pma_nil)) (pma_cons (pm_tup (pma_cons (pm_tup (pma_cons pm_str (pma_cons pm_int pma_nil))) (pma_cons (pm_tup (pma_cons pm_str (pma_cons pm_int pma_nil))) pma_nil))) pma_nil)))))) pma_nil))) sc_law.nd)
  (pms_cons (pms_set 13 (pm_op op_addD od_add (pm_var 13) (pm_lst (pma_cons (pm_lst (pma_cons (pm_tup pma_nil) (pma_cons (pm_tup (pma_cons pm_int pma_nil)) (pma_cons (pm_op op_mulD od_mul (pm_tup (pma_cons pm_int pma_nil)) (pm_var 3)) (pma_cons (pm_tup (pma_cons (pm_var 3) pma_nil)) (pma_cons (pm_tup (pma_cons pm_int (pma_cons pm_bl pma_nil))) pma_nil)))))) pma_nil))) sc_law.nd)
  (pms_cons (pms_set 14 (pm_op op_addD od_add (pm_op op_addD od_add (pm_slice (pm_ix ix_seq od_ix (pm_var 4) (pm_var 11)) pmo_none (pmo_some (pm_var 12))) (pm_tup (pma_cons (pm_ix ix_seq od_ix (pm_ix ix_seq od_ix (pm_var 13) (pm_var 12)) (pm_callL 1 (ok_law_roll T) (hr.mono (by decide)) tk_z (pma_cons pm_int pma_nil))) pma_nil))) (pm_slice (pm_ix ix_seq od_ix (pm_var 4) (pm_var 11)) (pmo_some (pm_op op_addD od_add (pm_var 12) pm_int)) pmo_none)) sc_law.nd)
  (pms_cons (pms_set 15 (pm_tup (pma_cons (pm_var 3) (pma_cons (pm_op op_addD od_add (pm_op op_addD od_add (pm_slice (pm_var 4) pmo_none (pmo_some (pm_var 11))) (pm_tup (pma_cons (pm_var 14) pma_nil))) (pm_slice (pm_var 4) (pmo_some (pm_op op_addD od_add (pm_var 11) pm_int)) pmo_none)) pma_nil))) sc_law.nd)
  (pms_cons (pms_set 16 (pm_lc [("one", 20)] (pmi_seq (pm_ix ix_seq od_ix (pm_var 15) pm_int)) (blkOk_by (N := N_law) (sc := defScope s_law) (by decide +kernel)) sc_law.nd (fun _ _ _ _ _ => (pmg_name 20 sc_law.nd)) (fun _ _ _ _ _ => pmts_nil) (fun _ _ _ _ _ => (pm_ix ix_seq od_ix (pm_var 20) pm_int))) sc_law.nd)
  (pms_cons (pms_set 17 (pm_cmp (op_eqD hr.units) od_eq (pm_lc [("one", 20)] (pmi_seq (pm_ix ix_seq od_ix (pm_var 15) pm_int)) (blkOk_by (N := N_law) (sc := defScope s_law) (by decide +kernel)) sc_law.nd (fun _ _ _ _ _ => (pmg_name 20 sc_law.nd)) (fun _ _ _ _ _ => (pmts_one (pmt_not (pmt_val (pm_call (ok_law_is_own_singer T) (hr.mono (by decide)) tk_nox (pma_cons (pm_var 20) (pma_cons (pm_var 3) (pma_cons (pm_var 16) pma_nil)))))))) (fun _ _ _ _ _ => (pm_var 20))) (pm_lst pma_nil)) sc_law.nd)
  (pms_cons (pms_set 18 (pm_and (pm_var 17) (pm_one (pm_cmp (op_eqD hr.units) od_eq (pm_var 16) (pm_sortU hr.units T.z_sorted T.z_set (pm_var 16))))) sc_law.nd)
  (pms_one (pms_if (pmt_cmp (op_neD hr.units) od_ne (pm_call (ok_is_choir T) (hr.mono (by decide)) tk_z (pma_cons (pm_var 15) pma_nil)) (pm_var 18)) (pms_one (pms_ret pm_bl)) pms_nil))))))))))))
  (pms_cons (pms_set 7 (pm_tup (pma_cons pm_str (pma_cons (pm_tup pma_nil) (pma_cons (pm_tup (pma_cons pm_int pma_nil)) pma_nil)))) sc_law.nd)
  (pms_cons (pms_set 8 (pm_callTy call_tuple_of cd_tuple T.z_tuple (pma_cons (pm_lc [("sign", 21)] (pmi_seq pm_str) (blkOk_by (N := N_law) (sc := defScope s_law) (by decide +kernel)) sc_law.nd (fun _ _ _ _ _ => (pmg_name 21 sc_law.nd)) (fun _ _ _ _ _ => pmts_nil) (fun _ _ _ _ _ => (pm_tup (pma_cons (pm_op op_addD od_add pm_str (pm_var 21)) (pma_cons (pm_tup pma_nil) (pma_cons (pm_tup (pma_cons pm_int pma_nil)) pma_nil)))))) pma_nil)) sc_law.nd)
  (pms_cons (pms_set 9 (pm_lst (pma_cons pm_non (pma_cons pm_int (pma_cons (pm_tup pma_nil) (pma_cons (pm_tup (pma_cons pm_int pma_nil)) (pma_cons (pm_lst (pma_cons pm_int (pma_cons (pm_var 4) pma_nil))) (pma_cons (pm_tup (pma_cons pm_int (pma_cons (pm_tup (pma_cons (pm_var 7) pma_nil)) pma_nil))) (pma_cons (pm_tup (pma_cons pm_int (pma_cons (pm_tup (pma_cons (pm_var 7) pma_nil)) pma_nil))) (pma_cons (pm_tup (pma_cons pm_bl (pma_cons (pm_tup (pma_cons (pm_var 7) pma_nil)) pma_nil))) pma_nil))))))))) sc_law.nd)
  (pms_cons (pms_set 9 (pm_op op_addD od_add (pm_var 9) (pm_lst (pma_cons (pm_tup (pma_cons pm_int (pma_cons (pm_tup pma_nil) pma_nil))) (pma_cons (pm_tup (pma_cons pm_int (pma_cons (pm_lst (pma_cons (pm_var 7) pma_nil)) pma_nil))) (pma_cons (pm_tup (pma_cons pm_int (pma_cons (pm_tup (pma_cons (pm_var 7) (pma_cons (pm_var 7) pma_nil))) pma_nil))) (pma_cons (pm_tup (pma_cons pm_int (pma_cons (pm_var 8) pma_nil))) pma_nil)))))) sc_law.nd)
  (pms_cons (pms_for (passes_of rfl) (pmi_seq (pm_var 9)) (pmg_name 10 sc_law.nd)
  (pms_cons (pms_own 19 (pma_cons (pm_told_law (k := 7) T EX LA rfl (hr.mono (by decide)) (LamX.lamS_by (sc := defScope s_law) (by decide +kernel)) (fun A outer s H E f c' H' V hr => (pm_call (ok_names T) (hr.mono (by decide)) HD.tk_lam (pma_cons (pm_var 10) pma_nil)))) pma_nil) sc_law.nd)
  (pms_cons (pms_app 19 (pm_told_law (k := 7) T EX LA rfl (hr.mono (by decide)) (LamX.lamS_by (sc := defScope s_law) (by decide +kernel)) (fun A outer s H E f c' H' V hr => (pm_call (ok_silence T) (hr.mono (by decide)) HD.tk_lam (pma_cons (pm_var 10) pma_nil)))))
  (pms_cons (pms_app 19 (pm_told_law (k := 8) T EX LA rfl (hr.mono (by decide)) (LamX.lamS_by (sc := defScope s_law) (by decide +kernel)) (fun A outer s H E f c' H' V hr => (pm_call (ok_song T) (hr.mono (by decide)) HD.tk_lam (pma_cons (pm_var 10) (pma_cons pm_non (pma_cons pm_non pma_nil)))))))
  (pms_cons (pms_app 19 (pm_told_law (k := 7) T EX LA rfl (hr.mono (by decide)) (LamX.lamS_by (sc := defScope s_law) (by decide +kernel)) (fun A outer s H E f c' H' V hr => (pm_call (ok_lean T) (hr.mono (by decide)) HD.tk_lam (pma_cons (pm_var 10) pma_nil)))))
  (pms_cons (pms_app 19 (pm_told_law (k := 7) T EX LA rfl (hr.mono (by decide)) (LamX.lamS_by (sc := defScope s_law) (by decide +kernel)) (fun A outer s H E f c' H' V hr => (pm_call (ok_choir_text T) (hr.mono (by decide)) HD.tk_lam (pma_cons (pm_var 10) pma_nil)))))
  (pms_cons (pms_app 19 (pm_told_law (k := 8) T EX LA rfl (hr.mono (by decide)) (LamX.lamS_by (sc := defScope s_law) (by decide +kernel)) (fun A outer s H E f c' H' V hr => (pm_makeX T.rk (ok_Running_init T) (hr.mono (by decide)) HD.tk_lam (pma_cons (pm_var 10) (pma_cons pm_non pma_nil)) T.k_Running))))
  (pms_one (pms_if (pmt_brw false (pmt_w (pmw_or (pmt_cmp op_isNotD od_isNot (pm_call (ok_is_choir T) (hr.mono (by decide)) tk_z (pma_cons (pm_var 10) pma_nil)) pm_bl) (pmw_or1 (pmt_cmp (op_neD hr.units) od_ne (pm_var 19) (pm_op op_mulD od_mul (pm_lst (pma_cons (pm_tup (pma_cons pm_str (pma_cons pm_str pma_nil))) pma_nil)) pm_int)))))) (pms_one (pms_ret pm_bl)) pms_nil)))))))))
  (pms_one (pms_if (pmt_w (pmw_or (pmt_cmp op_isNotD od_isNot (pm_call (ok_is_choir T) (hr.mono (by decide)) tk_z (pma_cons (pm_tup (pma_cons pm_int (pma_cons (pm_slice (pm_var 8) pmo_none (pmo_some pm_int)) pma_nil))) pma_nil)) pm_bl) (pmw_or1 (pmt_cmp op_isNotD od_isNot (pm_call (ok_is_choir T) (hr.mono (by decide)) tk_z (pma_cons (pm_tup (pma_cons pm_int (pma_cons (pm_tup (pma_cons (pm_var 7) pma_nil)) pma_nil))) pma_nil)) pm_bl)))) (pms_one (pms_ret pm_bl)) pms_nil))))))))))))))) (pss_one (ps_ret pe_bl))
end G
set_option Elab.async false
set_option linter.all false
set_option maxRecDepth 100000
set_option maxHeartbeats 1000000
namespace G
open PySem DL
local instance : DL.TabCtx := ⟨[]⟩
inductive P : Nat → PyData → Prop
  | none {k} : P k .none
  | int {k} (i : Int) : P k (.int i)
  | str {k} {s : Str} (h : (PyData.str s).canLay0 = true) : P k (.str s)
  | tuple {k} {xs : List PyData} (h : ∀ x ∈ xs, P k x) : P (k + 1) (.tuple xs)
  | list {k} {xs : List PyData} (h : ∀ x ∈ xs, P k x) : P (k + 1) (.list xs)
theorem P.mono {j : Nat} {d : PyData} (h : P j d) : ∀ {k : Nat}, j ≤ k → P k d := by
  induction h with
  | none => exact fun _ => .none
  | int i => exact fun _ => .int i
  | str h => exact fun _ => .str h
  | tuple _ ih => intro k hk; cases k with
    | zero => omega
    | succ k => exact .tuple fun x hx => ih x hx (by omega)
  | list _ ih => intro k hk; cases k with
    | zero => omega
    | succ k => exact .list fun x hx => ih x hx (by omega)
theorem lay_all : ∀ {xs : List PyData}, (∀ x ∈ xs, x.canLay0 = true) → PyData.canLayAll0 xs = true
  | [], _ => rfl
  | x :: xs, h => by
    show (PyData.canLay0 x && PyData.canLayAll0 xs) = true
    rw [h x (List.mem_cons_self ..), lay_all fun y hy => h y (List.mem_cons_of_mem _ hy)]
    rfl
theorem depth_all {k : Nat} : ∀ {xs : List PyData}, (∀ x ∈ xs, x.depth ≤ k) → PyData.depthAll xs ≤ k
  | [], _ => by simp [PyData.depthAll]
  | x :: xs, h => by
    have h1 := h x (List.mem_cons_self ..)
    have h2 := depth_all fun y hy => h y (List.mem_cons_of_mem _ hy)
    simp only [PyData.depthAll]
    omega
theorem P.lay {k : Nat} {d : PyData} (h : P k d) : d.canLay0 = true ∧ d.depth ≤ k := by
  induction h with
  | none => exact ⟨by rw [PyData.canLay0], by rw [PyData.depth]; omega⟩
  | int i => exact ⟨by rw [PyData.canLay0], by rw [PyData.depth]; omega⟩
  | str h => exact ⟨h, by rw [PyData.depth]; omega⟩
  | tuple _ ih => exact ⟨by rw [PyData.canLay0]; exact lay_all fun x hx => (ih x hx).1, by rw [PyData.depth]; have := depth_all fun x hx => (ih x hx).2; omega⟩
  | list _ ih => exact ⟨by rw [PyData.canLay0]; exact lay_all fun x hx => (ih x hx).1, by rw [PyData.depth]; have := depth_all fun x hx => (ih x hx).2; omega⟩
theorem P.shaped {k : Nat} {d : PyData} (h : P k d) (hk : k ≤ 64) : SeqAt.shaped d = true := by
  obtain ⟨h1, h2⟩ := h.lay
  unfold SeqAt.shaped
  rw [h1, decide_eq_true (Nat.le_trans h2 hk)]
  rfl
theorem eqv_all : ∀ {xs ys : List PyData}, (∀ x ∈ xs, ∀ y ∈ ys, x.eqv y = true ↔ x = y) → (PyData.eqvAll xs ys = true ↔ xs = ys)
  | [], [], _ => by simp [PyData.eqvAll]
  | [], _ :: _, _ => by simp [PyData.eqvAll]
  | _ :: _, [], _ => by simp [PyData.eqvAll]
  | x :: xs, y :: ys, h => by
    have h1 := h x (List.mem_cons_self ..) y (List.mem_cons_self ..)
    have h2 := eqv_all (xs := xs) (ys := ys) fun a ha b hb => h a (List.mem_cons_of_mem _ ha) b (List.mem_cons_of_mem _ hb)
    simp only [PyData.eqvAll, Bool.and_eq_true, h1, h2, List.cons.injEq]
theorem P.eqv {j : Nat} {a : PyData} (ha : P j a) : ∀ {k : Nat} {b : PyData}, P k b → (a.eqv b = true ↔ a = b) := by
  induction ha with
  | none => intro k b hb; cases hb <;> simp [PyData.eqv]
  | int i => intro k b hb; cases hb <;> simp [PyData.eqv]
  | str h => intro k b hb; cases hb <;> simp [PyData.eqv]
  | tuple _ ih =>
    intro k b hb
    cases hb with
    | tuple h2 => simp only [PyData.eqv, PyData.tuple.injEq]; exact eqv_all fun x hx y hy => ih x hx (h2 y hy)
    | _ => simp [PyData.eqv]
  | list _ ih =>
    intro k b hb
    cases hb with
    | list h2 => simp only [PyData.eqv, PyData.list.injEq]; exact eqv_all fun x hx y hy => ih x hx (h2 y hy)
    | _ => simp [PyData.eqv]
theorem gEq_P {j k : Nat} {a b : PyData} (ha : P j a) (hb : P k b) (p : Prop) [Decidable p] (hp : a = b ↔ p) (hj : j ≤ 64 := by decide) (hk : k ≤ 64 := by decide) : gEq a b = some (.bool (decide p)) := by
  unfold gEq
  rw [ha.shaped hj, hb.shaped hk]
  have : a.eqv b = decide p := by
    rw [Bool.eq_iff_iff, ha.eqv hb, hp, decide_eq_true_iff]
  rw [this]
  rfl
theorem gNe_P {j k : Nat} {a b : PyData} (ha : P j a) (hb : P k b) (p : Prop) [Decidable p] (hp : a = b ↔ p) (hj : j ≤ 64 := by decide) (hk : k ≤ 64 := by decide) : gNe a b = some (.bool (!decide p)) := by
  unfold gNe
  rw [ha.shaped hj, hb.shaped hk]
  have : a.eqv b = decide p := by
    rw [Bool.eq_iff_iff, ha.eqv hb, hp, decide_eq_true_iff]
  rw [this]
  rfl
@[simp] theorem gEq_int (i j : Int) : gEq (.int i) (.int j) = some (.bool (decide (i = j))) := gEq_P (j := 0) (k := 0) (.int i) (.int j) _ (by simp)
@[simp] theorem gNe_int (i j : Int) : gNe (.int i) (.int j) = some (.bool (!decide (i = j))) := gNe_P (j := 0) (k := 0) (.int i) (.int j) _ (by simp)
section
variable {ρ : Rho} {d x y z : PyData} {ds : List PyData} {i j : Nat} {α β : Type} {a b c : M PyData} {s t : M Bool} {as : M (List PyData)} {f g : SM}
@[simp] theorem e_bind {f : M α} {k : α → M β} : M.bind f k ρ = match f ρ with
  | .ok (a, ρ') => k a ρ'
  | .exc c => .exc c
  | .bad => .bad := rfl
@[simp] theorem e_pure {v : α} : M.pure v ρ = .ok (v, ρ) := rfl
@[simp] theorem e_lift {r : R α} : M.lift r ρ = match r with
  | .ok a => .ok (a, ρ)
  | .exc c => .exc c
  | .bad => .bad := rfl
@[simp] theorem e_some {v : α} : M.opt (some v) ρ = .ok (v, ρ) := rfl
@[simp] theorem e_vN : vN i ρ = match ρ[i]? with
  | some (.sh d) => .ok (d, ρ)
  | _ => .bad := rfl
@[simp] theorem e_cD : cD d ρ = .ok (d, ρ) := rfl
@[simp] theorem e_op1 {g : PyData → Option PyData} : op1 g a ρ = (M.bind a fun x => M.opt (g x)) ρ := rfl
@[simp] theorem e_op2 {g : PyData → PyData → Option PyData} : op2 g a b ρ = (M.bind a fun x => M.bind b fun y => M.opt (g x y)) ρ := rfl
@[simp] theorem e_aN : aN ρ = .ok ([], ρ) := rfl
@[simp] theorem e_aC : aC a as ρ = (M.bind a fun x => M.bind as fun xs => M.pure (x :: xs)) ρ := rfl
@[simp] theorem e_opA {g : List PyData → Option PyData} : opA g as ρ = (M.bind as fun ds => M.opt (g ds)) ρ := rfl
@[simp] theorem e_callM {m : List PyData → R PyData} : callM m as ρ = (M.bind as fun ds => M.lift (m ds)) ρ := rfl
@[simp] theorem e_tst : tst a ρ = (M.bind a fun x => M.opt (asB x)) ρ := rfl
@[simp] theorem e_asB {b : Bool} : asB (.bool b) = some b := rfl
@[simp] theorem e_asI {i : Int} : asI (.int i) = some i := rfl
@[simp] theorem e_asL : asL (.list ds) = some ds := rfl
@[simp] theorem e_andT : andT s t ρ = (M.bind s fun x => if x = true then t else M.pure false) ρ := rfl
@[simp] theorem e_orT : orT s t ρ = (M.bind s fun x => if x = true then M.pure true else t) ρ := rfl
@[simp] theorem e_notT : notT s ρ = (M.bind s fun x => M.pure (!x)) ρ := rfl
@[simp] theorem e_andV : andV a b ρ = (M.bind a fun x => M.bind (M.opt (asB x)) fun c => if c = true then b else M.pure (.bool false)) ρ := rfl
@[simp] theorem e_orV : orV a b ρ = (M.bind a fun x => M.bind (M.opt (asB x)) fun c => if c = true then M.pure (.bool true) else b) ρ := rfl
@[simp] theorem e_notV : notV a ρ = (M.bind a fun x => M.opt ((asB x).map fun b => .bool (!b))) ρ := rfl
@[simp] theorem e_ifV : ifV s a b ρ = (M.bind s fun c => if c = true then a else b) ρ := rfl
@[simp] theorem e_chain {g g' : PyData → PyData → Option PyData} : chain g g' a b c ρ = (M.bind a fun x => M.bind b fun y => M.bind (M.opt ((g x y).bind asB)) fun k => if k = true then M.bind c fun z => M.opt (g' y z) else M.pure (.bool false)) ρ := rfl
@[simp] theorem e_prt : prt a ρ = (M.bind a fun x => M.bind (M.opt (asI x)) fun i => M.pure (some i)) ρ := rfl
@[simp] theorem e_noPrt : noPrt ρ = .ok (none, ρ) := rfl
@[simp] theorem e_slc {l h : M (Option Int)} : slc a l h ρ = (M.bind a fun x => M.bind l fun l => M.bind h fun h => M.opt (gCut l h x)) ρ := rfl
@[simp] theorem e_seqI : seqI a ρ = (M.bind a fun d => M.opt (itemsD d)) ρ := rfl
@[simp] theorem e_opI {g : List PyData → Option (List PyData)} : opI g as ρ = (M.bind as fun ds => M.opt (g ds)) ρ := rfl
@[simp] theorem e_isi {T : Ty} : isi T a ρ = (M.bind a fun d => M.opt (some (.bool (isD T d)))) ρ := rfl
@[simp] theorem e_opM {g : PyData → List PyData → Option PyData} : opM g a as ρ = (M.bind a fun x => M.bind (M.opt (asL x)) fun _ => M.bind as fun xs => M.opt (g x xs)) ρ := rfl
@[simp] theorem e_yes : yesT ρ = .ok (true, ρ) := rfl
@[simp] theorem e_seqO : seqO f g ρ = match f ρ with
  | .nx ρ' => g ρ'
  | o => o := rfl
@[simp] theorem e_exO {f : M α} {k : α → SM} : exO f k ρ = match f ρ with
  | .ok (a, ρ') => k a ρ'
  | .exc c => .exc c
  | .bad => .bad := rfl
@[simp] theorem e_nxO : nxO ρ = .nx ρ := rfl
@[simp] theorem e_dropO : dropO a ρ = (exO a fun _ => nxO) ρ := rfl
@[simp] theorem e_retO : retO a ρ = (exO a fun d ρ => .rt d ρ) ρ := rfl
@[simp] theorem e_ifO : ifO s f g ρ = (exO s fun b => if b = true then f else g) ρ := rfl
@[simp] theorem e_raiseO {c : Str} : raiseO c ρ = .exc c := rfl
@[simp] theorem e_asgO {g : GM} : asgO a g ρ = (exO a fun d ρ => match g d ρ with
  | .ok ρ' => .nx ρ'
  | .exc c => .bad
  | .bad => .bad) ρ := rfl
@[simp] theorem e_setS : setS i d ρ = if i < ρ.length then .ok (ρ.set i (.sh d)) else .bad := rfl
@[simp] theorem e_unT {gs : List PyData → Rho → R Rho} : unT gs (.tuple ds) ρ = gs ds ρ := rfl
@[simp] theorem e_gsN : gsN [] ρ = .ok ρ := rfl
@[simp] theorem e_gsC {g : GM} {gs : List PyData → Rho → R Rho} : gsC g gs (d :: ds) ρ = R.bind (g d ρ) fun ρ' => gs ds ρ' := rfl
@[simp] theorem e_Rbind {r : R α} {k : α → R β} : R.bind r k = match r with
  | .ok a => k a
  | .exc c => .exc c
  | .bad => .bad := rfl
@[simp] theorem e_par2 : par2 i j as ρ = (exO as fun ds ρ => match ds with
  | [x, y] => if i < ρ.length ∧ j < ρ.length then .nx ((ρ.set i (.sh x)).set j (.sh y)) else .bad
  | _ => .bad) ρ := rfl
@[simp] theorem e_forO {g : GM} : forO as g f ρ = (exO as fun ds => loopO g f ds) ρ := rfl
@[simp] theorem e_items_t : itemsD (.tuple ds) = some ds := rfl
@[simp] theorem e_items_l : itemsD (.list ds) = some ds := rfl
@[simp] theorem e_ix_t {k : Int} : gIx (.tuple ds) (.int k) = atD ds k := rfl
@[simp] theorem e_ix_l {k : Int} : gIx (.list ds) (.int k) = atD ds k := rfl
@[simp] theorem e_at {k : Nat} : atD ds ((k : Nat) : Int) = ds[k]? := by
  unfold atD; rw [if_pos (by omega)]; rfl
@[simp] theorem e_at0 : atD ds 0 = ds[0]? := e_at (k := 0)
@[simp] theorem e_at1 : atD ds 1 = ds[1]? := e_at (k := 1)
@[simp] theorem e_at2 : atD ds 2 = ds[2]? := e_at (k := 2)
@[simp] theorem e_len_t : gLen [.tuple ds] = some (.int ds.length) := rfl
@[simp] theorem e_len_l : gLen [.list ds] = some (.int ds.length) := rfl
@[simp] theorem e_tuple_l : gTuple [.list ds] = some (.tuple ds) := rfl
@[simp] theorem e_tuple_t : gTuple [.tuple ds] = some (.tuple ds) := rfl
@[simp] theorem e_le {k l : Int} : gLe (.int k) (.int l) = some (.bool (decide (k ≤ l))) := rfl
@[simp] theorem e_gt {k l : Int} : gGt (.int k) (.int l) = some (.bool (decide (l < k))) := rfl
@[simp] theorem e_ge {k l : Int} : gGe (.int k) (.int l) = some (.bool (decide (l ≤ k))) := rfl
@[simp] theorem e_add {k l : Int} : gAdd (.int k) (.int l) = some (.int (k + l)) := rfl
@[simp] theorem e_sub {k l : Int} : gSub (.int k) (.int l) = some (.int (k - l)) := rfl
@[simp] theorem e_isNot {k l : Bool} : gIsNot (.bool k) (.bool l) = some (.bool (!decide (k = l))) := rfl
theorem e_mul {k l : Int} (h : -(2 ^ 64) < l ∧ l < 2 ^ 64) : gMul (.int k) (.int l) = some (.int (k * l)) := if_pos (.inl (.inr h))
theorem e_mod {k l : Int} (h : 0 < l) : gMod (.int k) (.int l) = some (.int (k % l)) := if_pos h
theorem e_div {k l : Int} (h : 0 < l ∧ l < 2 ^ 200) : gDiv (.int k) (.int l) = some (.int (k / l)) := if_pos h
@[simp] theorem e_LIM : LIM = 1000000 := rfl
@[simp] theorem e_tupD : gTupD ds = if ds.length ≤ LIM then some (.tuple ds) else none := rfl
@[simp] theorem e_lstD : gLstD ds = if ds.length ≤ LIM then some (.list ds) else none := rfl
theorem e_rg1 {n : Nat} (h : n ≤ 1000000) : rg1 [.int (n : Nat)] = some (rangeD 0 n) := by
  have h1 : -(2 ^ 62) ≤ ((n : Nat) : Int) ∧ ((n : Nat) : Int) < 2 ^ 62 := by omega
  simp only [rg1]
  rw [if_pos h1, Int.toNat_natCast]
@[simp] theorem e_wipe0 {ρ : Rho} : wipeR ρ [] = ρ := rfl
@[simp] theorem e_wipe {ρ : Rho} {v : Nat} {vs : List Nat} : wipeR ρ (v :: vs) = (wipeR ρ vs).set v .no := rfl
end
theorem resR_wipe {ρ ρ' : Rho} : ∀ {vs : List Nat}, wipeR ρ' vs = wipeR ρ vs → resR ρ ρ' vs = ρ := by
  intro vs h
  have hl : ρ'.length = ρ.length := by rw [← wipeR_len ρ' vs, h, wipeR_len]
  have len : ∀ ws, (resR ρ ρ' ws).length = ρ.length := by
    intro ws
    induction ws with
    | nil => exact hl
    | cons w ws ih => unfold resR; rw [List.length_set, ih]
  have get : ∀ ws i, i ∈ ws → i < ρ.length → (resR ρ ρ' ws)[i]? = ρ[i]? := by
    intro ws
    induction ws with
    | nil => intro i hi; cases hi
    | cons w ws ih =>
      intro i hi hlt
      unfold resR
      by_cases e : w = i
      · subst e
        rw [List.getElem?_set_self (by rw [len]; exact hlt), List.getD_eq_getElem?_getD, List.getElem?_eq_getElem hlt]
        rfl
      · rw [List.getElem?_set_ne e]
        rcases List.mem_cons.mp hi with z | z
        · exact absurd z.symm e
        · exact ih i z hlt
  have out : ∀ ws i, i ∉ ws → (resR ρ ρ' ws)[i]? = ρ'[i]? := by
    intro ws
    induction ws with
    | nil => intro i _; rfl
    | cons w ws ih =>
      intro i hi
      unfold resR
      rw [List.getElem?_set_ne (fun e => hi (by rw [e]; exact List.mem_cons_self ..))]
      exact ih i fun z => hi (List.mem_cons_of_mem _ z)
  apply List.ext_getElem?
  intro i
  by_cases hi : i ∈ vs
  · by_cases hlt : i < ρ.length
    · exact get vs i hi hlt
    · rw [List.getElem?_eq_none (by rw [len]; omega), List.getElem?_eq_none (by omega)]
  · rw [out vs i hi]
    have := congrArg (fun l => l[i]?) h
    simp only [wipeR_out hi] at this
    exact this
theorem lcLoop_map {α : Type} {vs : List Nat} {g : GM} {t : M Bool} {e : M PyData} {ρ : Rho} {enc out : α → PyData} {p : α → Bool} : ∀ {xs : List α}, (∀ x ∈ xs, ∃ ρ1, g (enc x) (wipeR ρ vs) = .ok ρ1 ∧ t ρ1 = .ok (p x, ρ1) ∧ (p x = true → e ρ1 = .ok (out x, ρ1)) ∧ wipeR ρ1 vs = wipeR ρ vs) →
    ∀ {ρc : Rho} {acc : List PyData}, wipeR ρc vs = wipeR ρ vs → xs.length + acc.length ≤ LIM → ∃ ρ', lcLoop vs g t e (xs.map enc) ρc acc = .ok (acc ++ (xs.filter p).map out, ρ') ∧ wipeR ρ' vs = wipeR ρ vs
  | [], _, ρc, acc, h, _ => ⟨ρc, by simp [lcLoop], h⟩
  | x :: xs, hs, ρc, acc, h, hl => by
    obtain ⟨ρ1, h1, h2, h3, h4⟩ := hs x (List.mem_cons_self ..)
    have hr : ∀ y ∈ xs, _ := fun y hy => hs y (List.mem_cons_of_mem _ hy)
    simp only [List.length_cons] at hl
    cases hp : p x with
    | false =>
      obtain ⟨ρ', k1, k2⟩ := lcLoop_map hr (ρc := ρ1) (acc := acc) h4 (by omega)
      refine ⟨ρ', ?_, k2⟩
      rw [List.map_cons, List.filter_cons, hp]
      unfold lcLoop
      rw [h, h1]
      simp only [h2, hp]
      exact k1
    | true =>
      obtain ⟨ρ', k1, k2⟩ := lcLoop_map hr (ρc := ρ1) (acc := acc ++ [out x]) h4 (by rw [List.length_append]; simp only [List.length_cons, List.length_nil]; omega)
      refine ⟨ρ', ?_, k2⟩
      rw [List.map_cons, List.filter_cons, hp]
      unfold lcLoop
      rw [h, h1]
      simp only [h2, hp, h3 hp]
      rw [if_pos (by omega), k1]
      simp
theorem lc_filt {α : Type} {vs : List Nat} {a : M (List PyData)} {g : GM} {t : M Bool} {e : M PyData} {ρ : Rho} (xs : List α) (enc out : α → PyData) (p : α → Bool) (ha : a ρ = .ok (xs.map enc, ρ)) (ho : (vs.any fun i => isOw ρ[i]?) = false) (hl : xs.length ≤ LIM)
    (hs : ∀ x ∈ xs, ∃ ρ1, g (enc x) (wipeR ρ vs) = .ok ρ1 ∧ t ρ1 = .ok (p x, ρ1) ∧ (p x = true → e ρ1 = .ok (out x, ρ1)) ∧ wipeR ρ1 vs = wipeR ρ vs) : lcM vs a g t e ρ = .ok (.list ((xs.filter p).map out), ρ) := by
  obtain ⟨ρ', k1, k2⟩ := lcLoop_map hs (acc := []) rfl (by simpa using hl)
  unfold lcM M.bind
  simp only [ha, ho, k1]
  rw [if_neg Bool.false_ne_true, resR_wipe k2]
  rfl
theorem lc_map {α : Type} {vs : List Nat} {a : M (List PyData)} {g : GM} {e : M PyData} {ρ : Rho} (xs : List α) (enc out : α → PyData) (ha : a ρ = .ok (xs.map enc, ρ)) (ho : (vs.any fun i => isOw ρ[i]?) = false) (hl : xs.length ≤ LIM)
    (hs : ∀ x ∈ xs, ∃ ρ1, g (enc x) (wipeR ρ vs) = .ok ρ1 ∧ e ρ1 = .ok (out x, ρ1) ∧ wipeR ρ1 vs = wipeR ρ vs) : lcM vs a g yesT e ρ = .ok (.list (xs.map out), ρ) := by
  have := lc_filt (vs := vs) (t := yesT) (e := e) xs enc out (fun _ => true) ha ho hl fun x hx => by
    obtain ⟨ρ1, h1, h2, h3⟩ := hs x hx
    exact ⟨ρ1, h1, rfl, fun _ => h2, h3⟩
  rw [this, List.filter_eq_self.mpr fun _ _ => rfl]
theorem loop_inv {g : GM} {fb : SM} (I : Nat → Rho → Prop) {ds : List PyData} (h : ∀ (i : Nat) (d : PyData) (ρ : Rho), ds[i]? = some d → I i ρ → ∃ ρ1 ρ2, g d ρ = .ok ρ1 ∧ fb ρ1 = .nx ρ2 ∧ I (i + 1) ρ2) {ρ : Rho} (h0 : I 0 ρ) : ∃ ρ', loopO g fb ds ρ = .nx ρ' ∧ I ds.length ρ' := by
  induction ds generalizing I ρ with
  | nil => exact ⟨ρ, rfl, h0⟩
  | cons d ds ih =>
    obtain ⟨ρ1, ρ2, h1, h2, h3⟩ := h 0 d ρ rfl h0
    obtain ⟨ρ', k1, k2⟩ := ih (fun i => I (i + 1)) (fun i d ρ hd hi => h (i + 1) d ρ hd hi) h3
    refine ⟨ρ', ?_, k2⟩
    unfold loopO
    rw [h1]
    simp only [h2]
    exact k1
theorem bools_map {α : Type} (p : α → Bool) : ∀ xs : List α, boolsD (xs.map fun x => .bool (p x)) = some (xs.map p)
  | [] => rfl
  | x :: xs => by rw [List.map_cons, boolsD, bools_map p xs]; rfl
theorem all_map {α : Type} (p : α → Bool) (xs : List α) : gAll [.list (xs.map fun x => .bool (p x))] = some (.bool (xs.all p)) := by
  show (boolsD _).map _ = _
  rw [bools_map]
  show some (PyData.bool ((xs.map p).all id)) = _
  rw [List.all_map]; rfl
theorem is_whole_int (a lo hi : Int) : m_is_whole [.int a, .int lo, .int hi] = .ok (.bool (decide (lo ≤ a) && decide (a ≤ hi))) := by
  by_cases h : lo ≤ a <;> simp [m_is_whole, b_is_whole, fnRun, start0, isD, h]
theorem are_lines_ints (ns : List Int) (k many : Int) (hl : ns.length ≤ LIM) : m_are_lines [.tuple (ns.map .int), .int k, .int many] = .ok (.bool (decide ((ns.length : Int) = k) && ns.all fun n => decide (0 ≤ n) && decide (n ≤ many - 1))) := by
  by_cases h : (ns.length : Int) = k
  · simp [m_are_lines, b_are_lines, fnRun, start0, isD, h]
    rw [lc_map ns .int (fun n => .bool (decide (0 ≤ n) && decide (n ≤ many - 1)))]
    · simp [all_map]
    · simp
    · rfl
    · exact hl
    · intro n hn
      exact ⟨_, rfl, by simp [is_whole_int], rfl⟩
  · simp [m_are_lines, b_are_lines, fnRun, start0, isD, h]
end G
set_option Elab.async false
set_option linter.all false
set_option maxRecDepth 100000
set_option maxHeartbeats 1000000
namespace G
open PySem DL
local instance : DL.TabCtx := ⟨[]⟩
theorem cut_from (ds : List PyData) (k : Nat) : cutD ds (some (k : Int)) none = ds.drop k := by
  unfold cutD
  rw [HT.sIx_nat, HT.sIx_none]
  by_cases h : k ≤ ds.length
  · rw [Nat.min_eq_left h, List.take_of_length_le (by simp)]
  · rw [Nat.min_eq_right (by omega), Nat.sub_self, List.take_zero, List.drop_eq_nil_of_le (by omega)]
theorem cut_to (ds : List PyData) (k : Nat) : cutD ds none (some (k : Int)) = ds.take k := by
  unfold cutD
  rw [HT.sIx_nat, HT.sIx_none, Nat.sub_zero, List.drop_zero]
  by_cases h : k ≤ ds.length
  · rw [Nat.min_eq_left h]
  · rw [Nat.min_eq_right (by omega), List.take_of_length_le (by omega), List.take_of_length_le (by omega)]
@[simp] theorem cut_from1 (ds : List PyData) : cutD ds (some 1) none = ds.drop 1 := cut_from ds 1
@[simp] theorem cut_to1 (ds : List PyData) : cutD ds none (some 1) = ds.take 1 := cut_to ds 1
@[simp] theorem e_cut_t {lo hi : Option Int} {ds : List PyData} : gCut lo hi (.tuple ds) = some (.tuple (cutD ds lo hi)) := rfl
@[simp] theorem e_cut_l {lo hi : Option Int} {ds : List PyData} : gCut lo hi (.list ds) = some (.list (cutD ds lo hi)) := rfl
theorem any_eqv {j k : Nat} {x : PyData} (hx : P j x) {ds : List PyData} (hd : ∀ y ∈ ds, P k y) (p : Prop) [Decidable p] (hp : x ∈ ds ↔ p) : (ds.any fun z => PyData.eqv z x) = decide p := by
  rw [Bool.eq_iff_iff, List.any_eq_true, decide_eq_true_iff, ← hp]
  constructor
  · rintro ⟨y, hy, he⟩
    rw [((hd y hy).eqv hx).mp he] at hy
    exact hy
  · exact fun h => ⟨x, h, (hx.eqv hx).mpr rfl⟩
theorem gIn_P {j k : Nat} {x : PyData} (hx : P j x) {ds : List PyData} (hd : ∀ y ∈ ds, P k y) (p : Prop) [Decidable p] (hp : x ∈ ds ↔ p) (hj : j ≤ 64 := by decide) (hk : k + 1 ≤ 64 := by decide) : gIn x (.list ds) = some (.bool (decide p)) := by
  have : gIn x (.list ds) = if (SeqAt.shaped x && SeqAt.shaped (.list ds)) = true then some (.bool (ds.any fun z => PyData.eqv z x)) else none := by cases x <;> rfl
  rw [this, hx.shaped hj, (P.list hd).shaped hk, any_eqv hx hd p hp]
  rfl
theorem gNotIn_P {j k : Nat} {x : PyData} (hx : P j x) {ds : List PyData} (hd : ∀ y ∈ ds, P k y) (p : Prop) [Decidable p] (hp : x ∈ ds ↔ p) (hj : j ≤ 64 := by decide) (hk : k + 1 ≤ 64 := by decide) : gNotIn x (.list ds) = some (.bool (!decide p)) := by
  have : gNotIn x (.list ds) = if (SeqAt.shaped x && SeqAt.shaped (.list ds)) = true then some (.bool (!ds.any fun z => PyData.eqv z x)) else none := by cases x <;> rfl
  rw [this, hx.shaped hj, (P.list hd).shaped hk, any_eqv hx hd p hp]
  rfl
theorem lcLoop2_map {α β : Type} {vs vs1 : List Nat} {g g1 : GM} {fi1 : M (List PyData)} {e : M PyData} {ρ : Rho} {enc : α → PyData} {ys : α → List β} {enc1 : β → PyData} {out : α → β → PyData} (hsub : ∀ i ∈ vs1, i ∈ vs) : ∀ {xs : List α}, (∀ x ∈ xs, ∃ ρ1, g (enc x) (wipeR ρ vs) = .ok ρ1 ∧ wipeR ρ1 vs = wipeR ρ vs ∧ fi1 ρ1 = .ok ((ys x).map enc1, ρ1) ∧
      ∀ y ∈ ys x, ∃ ρ2, g1 (enc1 y) (wipeR ρ1 vs1) = .ok ρ2 ∧ e ρ2 = .ok (out x y, ρ2) ∧ wipeR ρ2 vs1 = wipeR ρ1 vs1) →
    ∀ {ρc : Rho} {acc : List PyData}, wipeR ρc vs = wipeR ρ vs → (xs.flatMap ys).length + acc.length ≤ LIM → ∃ ρ', lcLoop2 vs vs1 g yesT fi1 g1 yesT e (xs.map enc) ρc acc = .ok (acc ++ xs.flatMap (fun x => (ys x).map (out x)), ρ') ∧ wipeR ρ' vs = wipeR ρ vs
  | [], _, ρc, acc, h, _ => ⟨ρc, by simp [lcLoop2], h⟩
  | x :: xs, hs, ρc, acc, h, hl => by
    obtain ⟨ρ1, h1, h2, h3, h4⟩ := hs x (List.mem_cons_self ..)
    have hr : ∀ y ∈ xs, _ := fun y hy => hs y (List.mem_cons_of_mem _ hy)
    simp only [List.flatMap_cons, List.length_append] at hl
    obtain ⟨ρ3, k1, k2⟩ := lcLoop_map (vs := vs1) (g := g1) (t := yesT) (e := e) (ρ := ρ1) (enc := enc1) (out := out x) (p := fun _ => true) (xs := ys x) (fun y hy => by
      obtain ⟨ρ2, a1, a2, a3⟩ := h4 y hy
      exact ⟨ρ2, a1, rfl, fun _ => a2, a3⟩) (ρc := ρ1) (acc := acc) rfl (by omega)
    have k3 : wipeR ρ3 vs = wipeR ρ vs := by rw [← wipeR_sub ρ3 hsub, k2, wipeR_sub ρ1 hsub, h2]
    rw [List.filter_eq_self.mpr fun _ _ => rfl] at k1
    obtain ⟨ρ', l1, l2⟩ := lcLoop2_map hsub hr (ρc := ρ3) (acc := acc ++ (ys x).map (out x)) k3 (by rw [List.length_append, List.length_map]; omega)
    refine ⟨ρ', ?_, l2⟩
    rw [List.map_cons]
    unfold lcLoop2
    rw [h, h1]
    simp only [e_yes, h3, k1]
    rw [l1]
    simp
theorem lc2_map {α β : Type} {vs vs1 : List Nat} {a : M (List PyData)} {g g1 : GM} {fi1 : M (List PyData)} {e : M PyData} {ρ : Rho} (xs : List α) (enc : α → PyData) (ys : α → List β) (enc1 : β → PyData) (out : α → β → PyData) (ha : a ρ = .ok (xs.map enc, ρ)) (ho : (vs.any fun i => isOw ρ[i]?) = false) (hl : (xs.flatMap ys).length ≤ LIM) (hsub : ∀ i ∈ vs1, i ∈ vs)
    (hs : ∀ x ∈ xs, ∃ ρ1, g (enc x) (wipeR ρ vs) = .ok ρ1 ∧ wipeR ρ1 vs = wipeR ρ vs ∧ fi1 ρ1 = .ok ((ys x).map enc1, ρ1) ∧
      ∀ y ∈ ys x, ∃ ρ2, g1 (enc1 y) (wipeR ρ1 vs1) = .ok ρ2 ∧ e ρ2 = .ok (out x y, ρ2) ∧ wipeR ρ2 vs1 = wipeR ρ1 vs1) : lcM2 vs vs1 a g yesT fi1 g1 yesT e ρ = .ok (.list (xs.flatMap fun x => (ys x).map (out x)), ρ) := by
  obtain ⟨ρ', k1, k2⟩ := lcLoop2_map hsub hs (acc := []) rfl (by simpa using hl)
  unfold lcM2 M.bind
  simp only [ha, ho, k1]
  rw [if_neg Bool.false_ne_true, resR_wipe k2]
  rfl
structure Sg where
  name : Str
  ears : List (Str × Int)
  tab : List Int
deriving DecidableEq
def Sg.d (s : Sg) : PyData := .tuple [.str s.name, .tuple (s.ears.map siD), .tuple (s.tab.map .int)]
def chD (many : Int) (ss : List Sg) : PyData := .tuple [.int many, .tuple (ss.map Sg.d)]
def Wd (s : Str) : Prop := m_is_word [.str s] = .ok (.bool true) ∧ (PyData.str s).canLay0 = true
theorem wd_ann : Wd "ann" := ⟨rfl, by decide +kernel⟩
theorem wd_bob : Wd "bob" := ⟨rfl, by decide +kernel⟩
theorem wd_cy : Wd "cy" := ⟨rfl, by decide +kernel⟩
def rising {α : Type} (lt : α → α → Bool) (xs : List α) : Bool := (xs.zip xs.tail).all fun p => lt p.1 p.2
structure GSg (many : Int) (names : List Str) (s : Sg) : Prop where
  word : Wd s.name
  elen : s.ears.length ≤ 2
  ear : ∀ e ∈ s.ears, Wd e.1 ∧ e.1 ∈ names ∧ 1 ≤ e.2 ∧ e.2 ≤ 3
  rise : rising SrtQ.lexS s.ears = true
  tlen : (s.tab.length : Int) = many ^ s.ears.length
  tab : ∀ t ∈ s.tab, 0 ≤ t ∧ t < many
structure Good (many : Int) (ss : List Sg) : Prop where
  m2 : 2 ≤ many
  m4 : many ≤ 4
  l1 : 1 ≤ ss.length
  l4 : ss.length ≤ 4
  sg : ∀ s ∈ ss, GSg many (ss.map (·.name)) s
  rise : rising SrtQ.ltS (ss.map (·.name)) = true
theorem siD_inj {a b : Str × Int} : siD a = siD b ↔ a = b := by
  unfold siD; constructor
  · intro h; injection h with h; injection h with h1 h2; injection h1 with h1; injection h2 with h2 _; injection h2 with h2; exact Prod.ext h1 h2
  · rintro rfl; rfl
theorem map_inj {α β : Type} {f : α → β} (h : ∀ a b, f a = f b ↔ a = b) : ∀ {xs ys : List α}, xs.map f = ys.map f ↔ xs = ys
  | [], [] => by simp
  | [], _ :: _ => by simp
  | _ :: _, [] => by simp
  | x :: xs, y :: ys => by simp [h, map_inj h (xs := xs) (ys := ys)]
theorem P_ear {k : Nat} {e : Str × Int} (h : Wd e.1) : P (k + 1) (siD e) := .tuple fun x hx => by
  simp at hx; rcases hx with rfl | rfl
  · exact .str h.2
  · exact .int _
theorem zipD_map {α : Type} (enc : α → PyData) (xs ys : List α) : zipD (xs.map enc) (ys.map enc) = (xs.zip ys).map fun p => .tuple [enc p.1, enc p.2] := by
  unfold zipD
  rw [List.zip_map, List.map_map]; rfl
theorem rise_l {α : Type} (enc : α → PyData) (lt : α → α → Bool) (h : ∀ a b, gLt (enc a) (enc b) = some (.bool (lt a b))) (xs : List α) (hl : xs.length ≤ LIM) : m_rise [.list (xs.map enc)] = .ok (.bool (rising lt xs)) := by
  simp [m_rise, b_rise, fnRun, start0]
  rw [lc_map (xs.zip xs.tail) (fun p => .tuple [enc p.1, enc p.2]) (fun p => .bool (lt p.1 p.2))]
  · simp [all_map, rising]
  · simp [gZip]; rw [← List.map_tail, zipD_map]
  · rfl
  · rw [List.length_zip]; exact Nat.le_trans (Nat.min_le_left _ _) hl
  · intro p _
    exact ⟨_, rfl, by simp [h], rfl⟩
theorem rise_t {α : Type} (enc : α → PyData) (lt : α → α → Bool) (h : ∀ a b, gLt (enc a) (enc b) = some (.bool (lt a b))) (xs : List α) (hl : xs.length ≤ LIM) : m_rise [.tuple (xs.map enc)] = .ok (.bool (rising lt xs)) := by
  simp [m_rise, b_rise, fnRun, start0]
  rw [lc_map (xs.zip xs.tail) (fun p => .tuple [enc p.1, enc p.2]) (fun p => .bool (lt p.1 p.2))]
  · simp [all_map, rising]
  · simp [gZip]; rw [← List.map_tail, zipD_map]
  · rfl
  · rw [List.length_zip]; exact Nat.le_trans (Nat.min_le_left _ _) hl
  · intro p _
    exact ⟨_, rfl, by simp [h], rfl⟩
theorem lt_str (a b : Str) : gLt (.str a) (.str b) = some (.bool (SrtQ.ltS a b)) := rfl
theorem lt_ear (a b : Str × Int) : gLt (siD a) (siD b) = some (.bool (SrtQ.lexS a b)) := by
  unfold siD SrtQ.lexS
  simp only [gLt, lexD, flatLt, Option.bind_some, Option.map_some, PyData.eqv, beq_iff_eq]
  congr 2
  by_cases h : a.1 = b.1
  · simp [h]
    intro h2; omega
  · simp [h]
theorem is_ear_ok {e : Str × Int} (h : Wd e.1) (h1 : 1 ≤ e.2) (h3 : e.2 ≤ 3) : m_is_ear [siD e] = .ok (.bool true) := by
  simp [m_is_ear, b_is_ear, fnRun, start0, isD, siD, h.1, is_whole_int, h1, h3]
theorem are_ears_ok {es : List (Str × Int)} (hl : es.length ≤ 2) (he : ∀ e ∈ es, Wd e.1 ∧ 1 ≤ e.2 ∧ e.2 ≤ 3) (hr : rising SrtQ.lexS es = true) : m_are_ears [.tuple (es.map siD)] = .ok (.bool true) := by
  have h2 : (es.length : Int) ≤ 2 := by omega
  simp [m_are_ears, b_are_ears, fnRun, start0, isD, h2]
  rw [lc_map es siD (fun _ => .bool true)]
  · simp [all_map, rise_t siD SrtQ.lexS lt_ear es (by rw [e_LIM]; omega), hr]
  · simp
  · rfl
  · rw [e_LIM]; omega
  · intro e h
    obtain ⟨a, b, c⟩ := he e h
    exact ⟨_, rfl, by simp [is_ear_ok a b c], rfl⟩
theorem places_ok {many : Int} {ds : List PyData} (h2 : 2 ≤ many) (h4 : many ≤ 4) (hl : ds.length ≤ 2) : m_places_for [.int many, .tuple ds] = .ok (.int (many ^ ds.length)) := by
  have hm : gMul (.int many) (.int many) = some (.int (many * many)) := e_mul (by omega)
  match hd : ds.length, hl with
  | 0, _ => simp [m_places_for, b_places_for, fnRun, start0, hm, hd]
  | 1, _ => simp [m_places_for, b_places_for, fnRun, start0, hm, hd, Int.pow_succ]
  | 2, _ => simp [m_places_for, b_places_for, fnRun, start0, hm, hd, Int.pow_succ]
theorem pow_le {many : Int} (h2 : 2 ≤ many) (h4 : many ≤ 4) {n : Nat} (hn : n ≤ 2) : 1 ≤ many ^ n ∧ many ^ n ≤ 16 := by
  have : many = 2 ∨ many = 3 ∨ many = 4 := by omega
  have h : n = 0 ∨ n = 1 ∨ n = 2 := by omega
  rcases this with rfl | rfl | rfl <;> rcases h with rfl | rfl | rfl <;> decide
theorem is_singer_ok {many : Int} {names : List Str} {s : Sg} (h2 : 2 ≤ many) (h4 : many ≤ 4) (h : GSg many names s) : m_is_singer [s.d, .int many] = .ok (.bool true) := by
  have h1 := are_ears_ok h.elen (fun e he => ⟨(h.ear e he).1, (h.ear e he).2.2⟩) h.rise
  have h3 := places_ok (ds := s.ears.map siD) h2 h4 (by rw [List.length_map]; exact h.elen)
  have hw := h.word.1
  have hl : s.tab.length ≤ LIM := by
    have := h.tlen; have := (pow_le h2 h4 h.elen).2; rw [e_LIM]; omega
  have h5 := are_lines_ints s.tab (many ^ s.ears.length) many hl
  have h6 : (s.tab.all fun n => decide (0 ≤ n) && decide (n ≤ many - 1)) = true := by
    rw [List.all_eq_true]; intro t ht
    have := h.tab t ht
    rw [decide_eq_true this.1, decide_eq_true (by omega)]; rfl
  rw [h6, h.tlen, decide_eq_true rfl] at h5
  rw [List.length_map] at h3
  simp [m_is_singer, b_is_singer, fnRun, start0, isD, Sg.d, hw, h1, h3, h5]
theorem is_choir_ok {many : Int} {ss : List Sg} (h : Good many ss) : m_is_choir [chD many ss] = .ok (.bool true) := by
  have h2 := h.m2
  have h4 := h.m4
  have h1 := h.l1
  have hl4 := h.l4
  have hl : ss.length ≤ LIM := by rw [e_LIM]; omega
  have a1 : (1 : Int) ≤ ss.length := by omega
  have a2 : (ss.length : Int) ≤ 4 := by omega
  have hr := rise_l PyData.str SrtQ.ltS lt_str (ss.map (·.name)) (by rw [List.length_map]; exact hl)
  rw [List.map_map, h.rise] at hr
  have hr : m_rise [.list (ss.map fun s => .str s.name)] = .ok (.bool true) := hr
  simp [m_is_choir, b_is_choir, fnRun, start0, isD, chD, is_whole_int, h2, h4, a1, a2]
  rw [lc_map ss Sg.d (fun _ => .bool true)]
  rotate_left
  · simp
  · rfl
  · exact hl
  · exact fun s hs => ⟨_, rfl, by simp [is_singer_ok h2 h4 (h.sg s hs)], rfl⟩
  simp [all_map]
  rw [lc_map ss Sg.d (fun s => .str s.name)]
  rotate_left
  · simp
  · rfl
  · exact hl
  · exact fun s hs => ⟨_, rfl, by simp [Sg.d], rfl⟩
  simp [hr]
  rw [lc_map ss Sg.d (fun s => .str s.name)]
  rotate_left
  · simp
  · rfl
  · exact hl
  · exact fun s hs => ⟨_, rfl, by simp [Sg.d], rfl⟩
  simp
  rw [lc2_map ss Sg.d (fun s => s.ears) siD (fun _ _ => .bool true)]
  · have : (ss.flatMap fun x => x.ears.map fun _ => PyData.bool true) = (ss.flatMap fun x => x.ears).map fun _ => PyData.bool true := by rw [List.map_flatMap]
    rw [this]
    simp [all_map]
  · simp
  · rfl
  · have : ∀ xs : List Sg, (∀ s ∈ xs, s.ears.length ≤ 2) → (xs.flatMap fun s => s.ears).length ≤ 2 * xs.length := by
      intro xs
      induction xs with
      | nil => intro _; simp
      | cons x xs ih =>
        intro hh
        have b1 := hh x (List.mem_cons_self ..)
        have b2 := ih fun y hy => hh y (List.mem_cons_of_mem _ hy)
        simp only [List.flatMap_cons, List.length_append, List.length_cons]
        omega
    have := this ss fun s hs => (h.sg s hs).elen
    rw [e_LIM]; omega
  · decide
  · intro s hs
    refine ⟨_, rfl, rfl, by simp [Sg.d], fun e he => ⟨_, rfl, ?_, rfl⟩⟩
    obtain ⟨b1, b2, _⟩ := (h.sg s hs).ear e he
    have := gIn_P (j := 0) (k := 0) (x := .str e.1) (ds := ss.map fun s => .str s.name) (.str b1.2) (fun y hy => by obtain ⟨s, h1, rfl⟩ := List.mem_map.mp hy; exact .str (h.sg s h1).word.2) True (by
      simp only [iff_true]
      obtain ⟨s, h1, h2⟩ := List.mem_map.mp b2
      exact List.mem_map.mpr ⟨s, h1, by rw [h2]⟩)
    simp [siD, this]
theorem need_choir_ok {many : Int} {ss : List Sg} (h : Good many ss) : m_need_choir [chD many ss] = .ok .none := by
  simp [m_need_choir, b_need_choir, fnRun, start0, is_choir_ok h]
theorem all_names_ok {many : Int} {ss : List Sg} (hl : ss.length ≤ LIM) : m_all_names [chD many ss] = .ok (.list (ss.map fun s => .str s.name)) := by
  simp [m_all_names, b_all_names, fnRun, start0, chD]
  rw [lc_map ss Sg.d (fun s => .str s.name)]
  · simp
  · rfl
  · exact hl
  · exact fun s hs => ⟨_, rfl, by simp [Sg.d], rfl⟩
end G
set_option Elab.async false
set_option linter.all false
set_option maxRecDepth 100000
set_option maxHeartbeats 1000000
namespace G
open PySem DL
local instance : DL.TabCtx := ⟨[]⟩
section
variable {ρ : Rho} {d x y z : PyData} {ds : List PyData} {i j : Nat} {a b c : M PyData} {t : M Bool} {as : M (List PyData)} {f g : SM}
@[simp] theorem e_ownO : ownO i as ρ = (exO as fun ds ρ => if ds.length ≤ LIM then .nx (ρ.set i (.ow (.list ds))) else .bad) ρ := rfl
@[simp] theorem e_appO : appO i a ρ = match ρ[i]? with
  | some (.ow (.list _)) => exO a (fun d ρ => match ρ[i]? with
    | some (.ow (.list ds)) => if ds.length < LIM then .nx (ρ.set i (.ow (.list (ds ++ [d])))) else .bad
    | _ => .bad) ρ
  | _ => .bad := rfl
@[simp] theorem e_isOw {d : PyData} : isOw (some (.ow d)) = true := rfl
@[simp] theorem e_isOwn1 {d : PyData} : isOwn1 (some (.ow d)) = true := rfl
@[simp] theorem e_ixO : ixO i a ρ = if isOwn1 ρ[i]? = true then ixI i a ρ else .bad := rfl
def ixK (i : Nat) (k : PyData) : M PyData := fun ρ => match ρ[i]?, k with
  | some (.ow (.list ds)), .int j => (match atD ds j with
    | some z => .ok (z, ρ)
    | none => .bad)
  | _, _ => .bad
@[simp] theorem e_ixI : ixI i a ρ = (M.bind a (ixK i)) ρ := rfl
@[simp] theorem e_ixK {k : Int} (h : ρ[i]? = some (.ow (.list ds))) : ixK i (.int k) ρ = match atD ds k with
    | some z => .ok (z, ρ)
    | none => .bad := by unfold ixK; rw [h]
@[simp] theorem e_sixO : sixO i b a ρ = (exO a fun d ρ => if isOwn1 ρ[i]? = true then exO b (fun j ρ => match ρ[i]?, j with
  | some (.ow (.list ds)), .int j => (match L2.ixN ds.length j with
    | some n => .nx (ρ.set i (.ow (.list (ds.set n d))))
    | none => .bad)
  | _, _ => .bad) ρ else .bad) ρ := rfl
@[simp] theorem e_callL {m : PyData → List PyData → R (PyData × PyData)} : callL i m as ρ = if isOwn1 ρ[i]? = true then callI i m as ρ else .bad := rfl
def callK (i : Nat) (m : PyData → List PyData → R (PyData × PyData)) (ds : List PyData) : M PyData := fun ρ => match ρ[i]? with
  | some (.ow dd) => (match m dd ds with
    | .ok (d, dd') => .ok (d, ρ.set i (.ow dd'))
    | .exc c => .exc c
    | .bad => .bad)
  | _ => .bad
@[simp] theorem e_callI {m : PyData → List PyData → R (PyData × PyData)} : callI i m as ρ = (M.bind as (callK i m)) ρ := rfl
@[simp] theorem e_callK {m : PyData → List PyData → R (PyData × PyData)} : callK i m ds ρ = match ρ[i]? with
  | some (.ow dd) => (match m dd ds with
    | .ok (d, dd') => .ok (d, ρ.set i (.ow dd'))
    | .exc c => .exc c
    | .bad => .bad)
  | _ => .bad := rfl
@[simp] theorem e_demR1 {s : Sl} : demR true (s :: ρ) = s :: ρ.map demSl := rfl
@[simp] theorem e_demR0 : demR false ρ = ρ.map demSl := rfl
@[simp] theorem e_demOw : demSl (.ow d) = .sh d := rfl
@[simp] theorem e_demSh : demSl (.sh d) = .sh d := rfl
@[simp] theorem e_demNo : demSl .no = .no := rfl
@[simp] theorem e_back1 {s s' : Sl} {ρ' : Rho} : backR true (s :: ρ) (s' :: ρ') = if immSl s' = true then some (s' :: ρ) else none := rfl
@[simp] theorem e_back0 {ρ' : Rho} : backR false ρ ρ' = some ρ := rfl
@[simp] theorem e_brw {b : Bool} : brw b a ρ = match a (demR b ρ) with
  | .ok (d, ρ') => if imm d = true then (match backR b ρ ρ' with
    | some ρ'' => .ok (d, ρ'')
    | none => .bad) else .bad
  | .exc c => .exc c
  | .bad => .bad := rfl
@[simp] theorem e_brwT {b : Bool} : brwT b t ρ = match t (demR b ρ) with
  | .ok (d, ρ') => (match backR b ρ ρ' with
    | some ρ'' => .ok (d, ρ'')
    | none => .bad)
  | .exc c => .exc c
  | .bad => .bad := rfl
@[simp] theorem e_demO {b : Bool} : demO b f ρ = f (demR b ρ) := rfl
end
def dcD (s : Int × Int) : PyData := .list [.int s.1, .int s.2]
@[simp] theorem imm_dc (s : Int × Int) : immSl (.ow (dcD s)) = true := rfl
theorem drawn_ok (c k : Int) : ∃ v : Int, m_law_drawn [.int c, .int k] = .ok (.int v) := by
  have p1 : ∀ x : Int, gMul (.int x) (.int 6364136223846793005) = some (.int (x * 6364136223846793005)) := fun x => e_mul (by decide)
  have p2 : ∀ x : Int, gMul (.int x) (.int 1442695040888963407) = some (.int (x * 1442695040888963407)) := fun x => e_mul (by decide)
  have p3 : ∀ x : Int, gMod (.int x) (.int 340282366920938463463374607431768211507) = some (.int (x % 340282366920938463463374607431768211507)) := fun x => e_mod (by decide)
  have p4 : ∀ x : Int, gMod (.int x) (.int 340282366920938463463374607431768211297) = some (.int (x % 340282366920938463463374607431768211297)) := fun x => e_mod (by decide)
  have p5 : ∀ x : Int, gMod (.int x) (.int 18446744073709551557) = some (.int (x % 18446744073709551557)) := fun x => e_mod (by decide)
  have p6 : ∀ x : Int, gDiv (.int x) (.int 18446744073709551557) = some (.int (x / 18446744073709551557)) := fun x => e_div (by decide)
  have lt : ∀ {x : Int} {n : Nat}, 0 ≤ x → x < 2 ^ n → n ≤ 2000 → x.natAbs < 2 ^ 2000 := fun {x n} h0 h1 h2 => by
    have : x.natAbs < 2 ^ n := by
      have e : ((x.natAbs : Nat) : Int) = x := Int.natAbs_of_nonneg h0
      have : ((x.natAbs : Nat) : Int) < ((2 ^ n : Nat) : Int) := by rw [e]; push_cast; exact h1
      exact Int.ofNat_lt.mp this
    exact Nat.lt_of_lt_of_le this (Nat.pow_le_pow_right (by decide) h2)
  have mul : ∀ {x y : Int}, x.natAbs < 2 ^ 2000 → y.natAbs < 2 ^ 2000 → gMul (.int x) (.int y) = some (.int (x * y)) := fun h1 h2 => if_pos (.inr ⟨h1, h2⟩)
  generalize ha : (c * 6364136223846793005 + (k + 1) * 1442695040888963407) % 340282366920938463463374607431768211507 = a
  have a0 : 0 ≤ a := by rw [← ha]; exact Int.emod_nonneg _ (by decide)
  have a1 : a < 2 ^ 130 := Int.lt_trans (by rw [← ha]; exact Int.emod_lt_of_pos _ (by decide)) (by decide : (340282366920938463463374607431768211507 : Int) < 2 ^ 130)
  have q1 : gMul (.int a) (.int a) = some (.int (a * a)) := mul (lt a0 a1 (by decide)) (lt a0 a1 (by decide))
  generalize hb : a * a % 340282366920938463463374607431768211297 = b
  have b0 : 0 ≤ b := by rw [← hb]; exact Int.emod_nonneg _ (by decide)
  have b1 : b < 2 ^ 130 := Int.lt_trans (by rw [← hb]; exact Int.emod_lt_of_pos _ (by decide)) (by decide : (340282366920938463463374607431768211297 : Int) < 2 ^ 130)
  have c0 : 0 ≤ b % 18446744073709551557 + 1 := by have := Int.emod_nonneg b (by decide : (18446744073709551557 : Int) ≠ 0); omega
  have c1 : b % 18446744073709551557 + 1 < 2 ^ 130 := by have := Int.emod_lt_of_pos b (by decide : (0 : Int) < 18446744073709551557); omega
  have d0 : 0 ≤ b / 18446744073709551557 + 1 := by omega
  have d1 : b / 18446744073709551557 + 1 < 2 ^ 131 := by omega
  have q2 : gMul (.int (b % 18446744073709551557 + 1)) (.int (b / 18446744073709551557 + 1)) = some (.int ((b % 18446744073709551557 + 1) * (b / 18446744073709551557 + 1))) := mul (lt c0 c1 (by decide)) (lt d0 d1 (by decide))
  have q3 : gMul (.int ((b % 18446744073709551557 + 1) * (b / 18446744073709551557 + 1))) (.int b) = some (.int ((b % 18446744073709551557 + 1) * (b / 18446744073709551557 + 1) * b)) := by
    refine mul ?_ (lt b0 b1 (by decide))
    refine lt (n := 261) (Int.mul_nonneg c0 d0) ?_ (by decide)
    have := Int.mul_lt_mul c1 (Int.le_of_lt d1) (by omega) (by decide : (0 : Int) ≤ 2 ^ 130)
    rw [← Int.pow_add] at this
    exact this
  refine ⟨_, by simp only [m_law_drawn, b_law_drawn, fnRun, start0]; simp [p1, p2, p3, ha, q1, p4, hb, p5, p6, q2, q3]; rfl⟩
theorem roll_ex (s : Int × Int) (n : Int) (h0 : 0 < n) (h1 : n < 2 ^ 200) : ∃ (r : Int) (s' : Int × Int), m_law_roll (dcD s) [.int n] = .ok (.int r, dcD s') ∧ 0 ≤ r ∧ r < n := by
  have p1 : gPow (.int 10) (.int 18) = some (.int (10 ^ 18)) := rfl
  have p2 : ∀ x : Int, gMod (.int x) (.int n) = some (.int (x % n)) := fun x => e_mod h0
  have p3 : ∀ x : Int, gDiv (.int x) (.int n) = some (.int (x / n)) := fun x => e_div ⟨h0, h1⟩
  have p4 : ∀ x : Int, gDiv (.int x) (.int 8) = some (.int (x / 8)) := fun x => e_div (by decide)
  have n0 : L2.ixN 2 0 = some 0 := rfl
  have n1 : L2.ixN 2 1 = some 1 := rfl
  obtain ⟨c, k⟩ := s
  by_cases h : (10 ^ 18 : Int) ≤ c
  · refine ⟨c % n, (c / n, k), ?_, Int.emod_nonneg _ (by omega), Int.emod_lt_of_pos _ h0⟩
    have h' : (1000000000000000000 : Int) ≤ c := h
    simp [m_law_roll, b_law_roll, fnRunL, start1, dcD, p1, p2, p3, n0, h']
  · obtain ⟨v, hv⟩ := drawn_ok c (k + 1)
    refine ⟨v / 8 % n, (c, k + 1), ?_, Int.emod_nonneg _ (by omega), Int.emod_lt_of_pos _ h0⟩
    have h' : ¬ (1000000000000000000 : Int) ≤ c := h
    simp [m_law_roll, b_law_roll, fnRunL, start1, dcD, p1, p2, p4, n1, h', hv]
end G
set_option Elab.async false
set_option linter.all false
set_option maxRecDepth 100000
set_option maxHeartbeats 1000000
namespace G
open PySem DL
local instance : DL.TabCtx := ⟨[]⟩
theorem immL_map {α : Type} {enc : α → PyData} : ∀ {xs : List α}, (∀ x ∈ xs, imm (enc x) = true) → immL (xs.map enc) = true
  | [], _ => rfl
  | x :: xs, h => by
    show (imm (enc x) && immL (xs.map enc)) = true
    rw [h x (List.mem_cons_self ..), immL_map fun y hy => h y (List.mem_cons_of_mem _ hy)]; rfl
theorem imm_int (i : Int) : imm (.int i) = true := rfl
theorem imm_si (e : Str × Int) : imm (siD e) = true := rfl
theorem imm_ints (ns : List Int) : imm (.tuple (ns.map .int)) = true := immL_map fun _ _ => rfl
theorem imm_ears (es : List (Str × Int)) : imm (.tuple (es.map siD)) = true := immL_map fun e _ => imm_si e
theorem imm_sg (s : Sg) : imm s.d = true := by
  show (true && (imm (.tuple (s.ears.map siD)) && (imm (.tuple (s.tab.map .int)) && true))) = true
  rw [imm_ears, imm_ints]; rfl
theorem imm_sgs (ss : List Sg) : imm (.tuple (ss.map Sg.d)) = true := immL_map fun s _ => imm_sg s
theorem lcLoop_dice {β : Type} {vs : List Nat} {g : GM} {e : M PyData} (I : Int × Int → Rho) (enc : β → PyData) (Q : β → Prop) : ∀ (ds : List PyData), (∀ d ∈ ds, ∀ s, ∃ b s' ρ1 ρ2, g d (wipeR (I s) vs) = .ok ρ1 ∧ e ρ1 = .ok (enc b, ρ2) ∧ Q b ∧ wipeR ρ2 vs = wipeR (I s') vs) →
    ∀ (s : Int × Int) (ρc : Rho) (acc : List PyData), wipeR ρc vs = wipeR (I s) vs → ds.length + acc.length ≤ LIM → ∃ (bs : List β) (s' : Int × Int) (ρ' : Rho), lcLoop vs g yesT e ds ρc acc = .ok (acc ++ bs.map enc, ρ') ∧ wipeR ρ' vs = wipeR (I s') vs ∧ bs.length = ds.length ∧ ∀ b ∈ bs, Q b
  | [], _, s, ρc, acc, h, _ => ⟨[], s, ρc, by simp [lcLoop], h, rfl, fun b hb => by cases hb⟩
  | d :: ds, hs, s, ρc, acc, h, hl => by
    obtain ⟨b, s1, ρ1, ρ2, h1, h2, h3, h4⟩ := hs d (List.mem_cons_self ..) s
    simp only [List.length_cons] at hl
    obtain ⟨bs, s', ρ', k1, k2, k3, k4⟩ := lcLoop_dice I enc Q ds (fun y hy => hs y (List.mem_cons_of_mem _ hy)) s1 ρ2 (acc ++ [enc b]) h4 (by rw [List.length_append]; simp only [List.length_cons, List.length_nil]; omega)
    refine ⟨b :: bs, s', ρ', ?_, k2, by simp [k3], fun x hx => ?_⟩
    · unfold lcLoop
      rw [h, h1]
      simp only [e_yes, h2]
      rw [if_pos (by omega), k1]
      simp
    · rcases List.mem_cons.mp hx with rfl | hx
      · exact h3
      · exact k4 x hx
theorem resR_eq {ρ ρ' ρ2 : Rho} : ∀ {vs : List Nat}, (∀ v ∈ vs, ρ[v]? = ρ2[v]?) → resR ρ ρ' vs = resR ρ2 ρ' vs
  | [], _ => rfl
  | v :: vs, h => by
    unfold resR
    rw [resR_eq fun w hw => h w (List.mem_cons_of_mem _ hw), List.getD_eq_getElem?_getD, List.getD_eq_getElem?_getD, h v (List.mem_cons_self ..)]
theorem lc_dice {β : Type} {vs : List Nat} {a : M (List PyData)} {g : GM} {e : M PyData} (I : Int × Int → Rho) (enc : β → PyData) (Q : β → Prop) (ds : List PyData) (s : Int × Int) (ha : a (I s) = .ok (ds, I s)) (ho : (vs.any fun i => isOw (I s)[i]?) = false) (hl : ds.length ≤ LIM) (hI : ∀ s s', ∀ v ∈ vs, (I s)[v]? = (I s')[v]?)
    (hs : ∀ d ∈ ds, ∀ s, ∃ b s' ρ1 ρ2, g d (wipeR (I s) vs) = .ok ρ1 ∧ e ρ1 = .ok (enc b, ρ2) ∧ Q b ∧ wipeR ρ2 vs = wipeR (I s') vs) : ∃ (bs : List β) (s' : Int × Int), lcM vs a g yesT e (I s) = .ok (.list (bs.map enc), I s') ∧ bs.length = ds.length ∧ ∀ b ∈ bs, Q b := by
  obtain ⟨bs, s', ρ', k1, k2, k3, k4⟩ := lcLoop_dice I enc Q ds hs s (I s) [] rfl (by simpa using hl)
  refine ⟨bs, s', ?_, k3, k4⟩
  unfold lcM M.bind
  simp only [ha, ho, k1]
  rw [if_neg Bool.false_ne_true, resR_eq (hI s s'), resR_wipe k2]
  rfl
theorem mapM_si_map : ∀ es : List (Str × Int), (es.map siD).mapM siOf = some es
  | [] => rfl
  | e :: es => by
    rw [List.map_cons, List.mapM_cons, mapM_si_map es]; rfl
theorem sorted_ears (es : List (Str × Int)) : gSorted [.list (es.map siD)] = some (.list ((SrtQ.isort SrtQ.lexS es).map siD)) := by
  show ((es.map siD).mapM siOf).map _ = _
  rw [mapM_si_map]; rfl
theorem rising_sort {es : List (Str × Int)} (hl : es.length ≤ 2) (hn : es.Nodup) : rising SrtQ.lexS (SrtQ.isort SrtQ.lexS es) = true := by
  match es, hl with
  | [], _ => rfl
  | [a], _ => rfl
  | [a, b], _ =>
    show rising SrtQ.lexS (if SrtQ.lexS a b = true then [a, b] else [b, a]) = true
    cases h : SrtQ.lexS a b with
    | true => simp [rising, h]
    | false =>
      have hab : a ≠ b := by simpa using hn
      cases h2 : SrtQ.lexS b a with
      | true => simp [rising, h2]
      | false => exact absurd (SrtQ.lexS_tri h h2) hab
abbrev crewL (crew : List Str) : List PyData := crew.map PyData.str
def earsI (many : Int) (crew : List Str) (x3 x4 x7 : Sl) (i : Nat) (ρ : Rho) : Prop := ∃ (s' : Int × Int) (es : List (Str × Int)) (x6 x8 : Sl), ρ = [.ow (dcD s'), .sh (.int many), .sh (.list (crewL crew)), x3, x4, .ow (.list (es.map siD)), x6, x7, x8, .no] ∧ es.length ≤ i ∧ es.Nodup ∧ ∀ e ∈ es, Wd e.1 ∧ e.1 ∈ crew ∧ 1 ≤ e.2 ∧ e.2 ≤ 3
theorem singers_ears {many : Int} {crew : List Str} (hc1 : 1 ≤ crew.length) (hc3 : crew.length ≤ 3) (hw : ∀ x ∈ crew, Wd x) (n : Nat) (hn : n ≤ 2) (s : Int × Int) (x3 x4 x6 x7 x8 : Sl) :
    ∃ ρ', loopO (setS 6) b_law_any_singers_L1 (rangeD 0 n) [.ow (dcD s), .sh (.int many), .sh (.list (crewL crew)), x3, x4, .ow (.list []), x6, x7, x8, .no] = .nx ρ' ∧ earsI many crew x3 x4 x7 n ρ' := by
  have hl : (rangeD 0 n).length = n := by simp [rangeD]
  have step : ∀ (i : Nat) (d : PyData) (ρ : Rho), (rangeD 0 n)[i]? = some d → earsI many crew x3 x4 x7 i ρ → ∃ ρ1 ρ2, setS 6 d ρ = .ok ρ1 ∧ b_law_any_singers_L1 ρ1 = .nx ρ2 ∧ earsI many crew x3 x4 x7 (i + 1) ρ2 := by
    intro i d ρ hd hI
    obtain ⟨s1, es, y6, y8, rfl, hl, hnd, he⟩ := hI
    have hin : i < n := by
      have := (List.getElem?_eq_some_iff.mp hd).1
      simpa [rangeD] using this
    obtain ⟨r, s2, k1, k2, k3⟩ := roll_ex s1 crew.length (by omega) (by omega)
    obtain ⟨r2, s3, l1, l2, l3⟩ := roll_ex s2 3 (by decide) (by decide)
    obtain ⟨nm, hat, hmem⟩ : ∃ nm : Str, atD (crewL crew) r = some (.str nm) ∧ nm ∈ crew := by
      refine ⟨crew[r.toNat]'(by omega), ?_, List.getElem_mem _⟩
      unfold atD
      rw [if_pos k2, List.getElem?_map, List.getElem?_eq_getElem (by omega)]; rfl
    have hin' := gNotIn_P (j := 1) (k := 1) (x := siD (nm, 1 + r2)) (ds := es.map siD) (P_ear (hw _ hmem)) (fun y hy => by obtain ⟨e, h1, rfl⟩ := List.mem_map.mp hy; exact P_ear (he e h1).1) ((nm, 1 + r2) ∈ es) (by
      constructor
      · intro h; obtain ⟨e, h1, h2⟩ := List.mem_map.mp h; rw [← siD_inj.mp h2]; exact h1
      · exact fun h => List.mem_map.mpr ⟨_, h, rfl⟩)
    have esl : es.length < 1000000 := by omega
    have hin'' : gNotIn (.tuple [.str (nm), .int (1 + r2)]) (.list (es.map siD)) = _ := hin'
    by_cases hm : (nm, 1 + r2) ∈ es
    · rw [decide_eq_true hm] at hin''
      refine ⟨_, [.ow (dcD s3), .sh (.int many), .sh (.list (crewL crew)), x3, x4, .ow (.list (es.map siD)), .sh d, x7, .sh (siD (nm, 1 + r2)), .no], rfl, ?_, s3, es, _, _, rfl, by omega, hnd, he⟩
      simp only [b_law_any_singers_L1]
      simp [k1, l1, hat, hin'', siD]
    · rw [decide_eq_false hm] at hin''
      refine ⟨_, [.ow (dcD s3), .sh (.int many), .sh (.list (crewL crew)), x3, x4, .ow (.list ((es ++ [(nm, 1 + r2)]).map siD)), .sh d, x7, .sh (siD (nm, 1 + r2)), .no], rfl, ?_, s3, es ++ [(nm, 1 + r2)], _, _, rfl, by simp; omega, ?_, fun e h => ?_⟩
      · simp only [b_law_any_singers_L1]
        simp [k1, l1, hat, hin'', esl, siD]
      · rw [List.nodup_append]
        exact ⟨hnd, by simp, fun x hx y hy z => hm (by rw [List.mem_singleton.mp hy] at z; rw [← z]; exact hx)⟩
      · rcases List.mem_append.mp h with h | h
        · exact he e h
        · cases List.mem_singleton.mp h
          exact ⟨hw _ hmem, hmem, by omega, by omega⟩
  obtain ⟨ρ', h1, h2⟩ := loop_inv (earsI many crew x3 x4 x7) step (ρ := [.ow (dcD s), .sh (.int many), .sh (.list (crewL crew)), x3, x4, .ow (.list []), x6, x7, x8, .no]) ⟨s, [], x6, x8, rfl, Nat.le_refl 0, List.nodup_nil, fun e he => by cases he⟩
  rw [hl] at h2
  exact ⟨ρ', h1, h2⟩
end G
set_option Elab.async false
set_option linter.all false
set_option maxRecDepth 100000
set_option maxHeartbeats 1000000
namespace G
open PySem DL
local instance : DL.TabCtx := ⟨[]⟩
theorem rg1_int {r : Int} (h0 : 0 ≤ r) (h1 : r ≤ 1000000) : rg1 [.int r] = some (rangeD 0 r.toNat) := by
  have := e_rg1 (n := r.toNat) (by omega)
  rw [Int.toNat_of_nonneg h0] at this
  exact this
def singersI (many : Int) (crew : List Str) (i : Nat) (ρ : Rho) : Prop := ∃ (s : Int × Int) (ss : List Sg) (x4 x5 x6 x7 x8 : Sl), ρ = [.ow (dcD s), .sh (.int many), .sh (.list (crewL crew)), .ow (.list (ss.map Sg.d)), x4, x5, x6, x7, x8, .no] ∧ ss.map (·.name) = crew.take i ∧ ∀ s ∈ ss, GSg many crew s
theorem sort_mem {es : List (Str × Int)} {e : Str × Int} : e ∈ SrtQ.isort SrtQ.lexS es ↔ e ∈ es := (SrtQ.isort_perm es).mem_iff
theorem sort_len {es : List (Str × Int)} : (SrtQ.isort SrtQ.lexS es).length = es.length := (SrtQ.isort_perm es).length_eq
theorem places_at {many : Int} {n : Nat} (hn : n ≤ 2) : atD [.int 1, .int many, .int (many * many)] (n : Int) = some (.int (many ^ n)) := by
  have : n = 0 ∨ n = 1 ∨ n = 2 := by omega
  rcases this with rfl | rfl | rfl <;> simp [Int.pow_succ]
theorem singers_step {many : Int} (h2 : 2 ≤ many) (h4 : many ≤ 4) {crew : List Str} (hc1 : 1 ≤ crew.length) (hc3 : crew.length ≤ 3) (hw : ∀ x ∈ crew, Wd x) (i : Nat) (d : PyData) (ρ : Rho) (hd : (crewL crew)[i]? = some d) (hI : singersI many crew i ρ) :
    ∃ ρ1 ρ2, setS 4 d ρ = .ok ρ1 ∧ b_law_any_singers_L2 ρ1 = .nx ρ2 ∧ singersI many crew (i + 1) ρ2 := by
  obtain ⟨s0, ss, x4, x5, x6, x7, x8, rfl, hn, hg⟩ := hI
  rw [List.getElem?_map] at hd
  obtain ⟨nm, hnm, rfl⟩ := Option.map_eq_some_iff.mp hd
  have hi : i < crew.length := (List.getElem?_eq_some_iff.mp hnm).1
  obtain ⟨r, s1, k1, k2, k3⟩ := roll_ex s0 3 (by decide) (by decide)
  obtain ⟨ρ', l1, s2, es, y6, y8, rfl, e1, e2, e3⟩ := singers_ears (many := many) hc1 hc3 hw r.toNat (by omega) s1 (.ow (.list (ss.map Sg.d))) (.sh (.str nm)) x6 x7 x8
  have hel : es.length ≤ 2 := by omega
  have hp := pow_le h2 h4 hel
  have hm : gMul (.int many) (.int many) = some (.int (many * many)) := e_mul (by omega)
  have hrg := rg1_int (r := many ^ es.length) (by omega) (by omega)
  have hrl : (rangeD 0 (many ^ es.length).toNat).length = (many ^ es.length).toNat := by simp [rangeD]
  obtain ⟨ns, s3, m1, m2, m3⟩ := lc_dice (vs := [9]) (a := opI rg1 (aC (vN 7) aN)) (g := setS 9) (e := callL 0 m_law_roll (aC (vN 1) aN)) (fun s => [.ow (dcD s), .sh (.int many), .sh (.list (crewL crew)), .ow (.list (ss.map Sg.d)), .sh (.str nm), .ow (.list (es.map siD)), y6, .sh (.int (many ^ es.length)), y8, .no]) PyData.int (fun n => 0 ≤ n ∧ n < many) (rangeD 0 (many ^ es.length).toNat) s2 (by simp [hrg]) rfl (by rw [hrl, e_LIM]; omega) (fun _ _ v hv => by simp at hv; subst hv; rfl) (fun d _ s => by
    obtain ⟨r, s', q1, q2, q3⟩ := roll_ex s many (by omega) (by omega)
    refine ⟨r, s', _, [.ow (dcD s'), .sh (.int many), .sh (.list (crewL crew)), .ow (.list (ss.map Sg.d)), .sh (.str nm), .ow (.list (es.map siD)), y6, .sh (.int (many ^ es.length)), y8, .sh d], rfl, ?_, ⟨q2, q3⟩, rfl⟩
    simp [q1])
  rw [hrl] at m2
  have sl : ss.length < 1000000 := by
    have := congrArg List.length hn
    rw [List.length_map, List.length_take] at this
    omega
  have hrg2 := rg1_int (r := r) k2 (by omega)
  refine ⟨_, [.ow (dcD s3), .sh (.int many), .sh (.list (crewL crew)), .ow (.list ((ss ++ [Sg.mk nm (SrtQ.isort SrtQ.lexS es) ns]).map Sg.d)), .sh (.str nm), .ow (.list (es.map siD)), y6, .sh (.int (many ^ es.length)), y8, .no], rfl, ?_, s3, ss ++ [Sg.mk nm (SrtQ.isort SrtQ.lexS es) ns], _, _, _, _, _, rfl, ?_, ?_⟩
  · simp only [b_law_any_singers_L2]
    simp [k1, hrg2, l1, hm, places_at hel, sorted_ears, imm_ears, imm_int, m1, sl, Sg.d]
  · rw [List.map_append, hn, List.take_succ, hnm]; rfl
  · intro s hs
    rcases List.mem_append.mp hs with h | h
    · exact hg s h
    · cases List.mem_singleton.mp h
      exact ⟨hw _ (List.mem_of_getElem? hnm), by rw [sort_len]; exact hel, fun e he => e3 e (sort_mem.mp he), rising_sort hel e2, by show ((ns.length : Nat) : Int) = many ^ (SrtQ.isort SrtQ.lexS es).length; rw [sort_len, m2]; omega, m3⟩
theorem any_singers_ok {many : Int} (h2 : 2 ≤ many) (h4 : many ≤ 4) {crew : List Str} (hc1 : 1 ≤ crew.length) (hc3 : crew.length ≤ 3) (hw : ∀ x ∈ crew, Wd x) (s : Int × Int) :
    ∃ (ss : List Sg) (s' : Int × Int), m_law_any_singers (dcD s) [.int many, .list (crewL crew)] = .ok (.tuple (ss.map Sg.d), dcD s') ∧ ss.map (·.name) = crew ∧ ∀ s ∈ ss, GSg many crew s := by
  obtain ⟨ρ', l1, s', ss, x4, x5, x6, x7, x8, rfl, hn, hg⟩ := loop_inv (singersI many crew) (singers_step h2 h4 hc1 hc3 hw) (ρ := [.ow (dcD s), .sh (.int many), .sh (.list (crewL crew)), .ow (.list []), .no, .no, .no, .no, .no, .no]) ⟨s, [], _, _, _, _, _, rfl, rfl, fun s hs => by cases hs⟩
  rw [List.length_map, List.take_length] at hn
  refine ⟨ss, s', ?_, hn, hg⟩
  simp [m_law_any_singers, b_law_any_singers, fnRunL, start1, l1, imm_sgs]
def crew3 : List Str := ["ann", "bob", "cy"]
theorem any_choir_ok (s : Int × Int) : ∃ (many : Int) (ss : List Sg) (s' : Int × Int), m_law_any_choir (dcD s) [] = .ok (chD many ss, dcD s') ∧ Good many ss ∧ ss.map (·.name) = crew3.take ss.length ∧ (many = 2 ∧ ss.length ≤ 3 ∨ many = 3 ∧ ss.length ≤ 2 ∨ many = 4 ∧ ss.length = 1) := by
  obtain ⟨r, s1, k1, k2, k3⟩ := roll_ex s 6 (by decide) (by decide)
  have fin : ∀ (many : Int) (size : Nat), 2 ≤ many → many ≤ 4 → 1 ≤ size → size ≤ 3 → ∃ (ss : List Sg) (s' : Int × Int), m_law_any_singers (dcD s1) [.int many, .list ((crewL ["ann", "bob", "cy"]).take size)] = .ok (.tuple (ss.map Sg.d), dcD s') ∧ ss.map (·.name) = (["ann", "bob", "cy"] : List Str).take size ∧ Good many ss := by
    intro many size a1 a2 a3 a4
    have hcl : ((["ann", "bob", "cy"] : List Str).take size).length = size := by rw [List.length_take]; exact Nat.min_eq_left a4
    obtain ⟨ss, s', b1, b2, b3⟩ := any_singers_ok a1 a2 (crew := (["ann", "bob", "cy"] : List Str).take size) (by omega) (by omega) (fun x hx => by
      have := List.mem_of_mem_take hx
      simp at this
      rcases this with rfl | rfl | rfl
      · exact wd_ann
      · exact wd_bob
      · exact wd_cy) s1
    have hsl : ss.length = size := by rw [← hcl, ← b2, List.length_map]
    refine ⟨ss, s', ?_, b2, a1, a2, by omega, by omega, fun s hs => by rw [b2]; exact b3 s hs, ?_⟩
    · rw [← b1]; unfold crewL; rw [List.map_take]
    · rw [b2]
      have : size = 1 ∨ size = 2 ∨ size = 3 := by omega
      rcases this with rfl | rfl | rfl <;> decide +kernel
  have hr : r = 0 ∨ r = 1 ∨ r = 2 ∨ r = 3 ∨ r = 4 ∨ r = 5 := by omega
  have c1 : ∀ ds : List PyData, cutD ds none (some 2) = ds.take 2 := fun ds => cut_to ds 2
  have c2 : ∀ ds : List PyData, cutD ds none (some 3) = ds.take 3 := fun ds => cut_to ds 3
  have go : ∀ (many : Int) (size : Nat), atD [.tuple [.int 2, .int 1], .tuple [.int 2, .int 2], .tuple [.int 2, .int 3], .tuple [.int 3, .int 1], .tuple [.int 3, .int 2], .tuple [.int 4, .int 1]] r = some (.tuple [.int many, .int size]) → 2 ≤ many → many ≤ 4 → 1 ≤ size → size ≤ 3 →
      ∃ (ss : List Sg) (s' : Int × Int), m_law_any_choir (dcD s) [] = .ok (chD many ss, dcD s') ∧ Good many ss ∧ ss.map (·.name) = (["ann", "bob", "cy"] : List Str).take size := by
    intro many size hat a1 a2 a3 a4
    obtain ⟨ss, s', b1, b2, b3⟩ := fin many size a1 a2 a3 a4
    refine ⟨ss, s', ?_, b3, b2⟩
    have b1 : m_law_any_singers (dcD s1) [.int many, .list (cutD [.str "ann", .str "bob", .str "cy"] none (some (size : Int)))] = .ok (.tuple (ss.map Sg.d), dcD s') := by rw [cut_to]; exact b1
    simp [m_law_any_choir, b_law_any_choir, fnRunL, start1, k1, hat, b1, chD]
  have wrap : ∀ (many : Int) (size : Nat), (many = 2 ∧ size ≤ 3 ∨ many = 3 ∧ size ≤ 2 ∨ many = 4 ∧ size = 1) → size ≤ 3 → (∃ (ss : List Sg) (s' : Int × Int), m_law_any_choir (dcD s) [] = .ok (chD many ss, dcD s') ∧ Good many ss ∧ ss.map (·.name) = (["ann", "bob", "cy"] : List Str).take size) → ∃ (many : Int) (ss : List Sg) (s' : Int × Int), m_law_any_choir (dcD s) [] = .ok (chD many ss, dcD s') ∧ Good many ss ∧ ss.map (·.name) = crew3.take ss.length ∧ (many = 2 ∧ ss.length ≤ 3 ∨ many = 3 ∧ ss.length ≤ 2 ∨ many = 4 ∧ ss.length = 1) := by
    rintro many size h hs ⟨ss, s', a, b, c⟩
    have hl : ss.length = size := by
      have := congrArg List.length c
      rw [List.length_map, List.length_take] at this
      rw [this]; exact Nat.min_eq_left hs
    exact ⟨many, ss, s', a, b, by rw [hl]; exact c, by rw [hl]; exact h⟩
  rcases hr with rfl | rfl | rfl | rfl | rfl | rfl
  · exact wrap 2 1 (.inl ⟨rfl, by decide⟩) (by decide) (go 2 1 rfl (by decide) (by decide) (by decide) (by decide))
  · exact wrap 2 2 (.inl ⟨rfl, by decide⟩) (by decide) (go 2 2 rfl (by decide) (by decide) (by decide) (by decide))
  · exact wrap 2 3 (.inl ⟨rfl, by decide⟩) (by decide) (go 2 3 rfl (by decide) (by decide) (by decide) (by decide))
  · exact wrap 3 1 (.inr (.inl ⟨rfl, by decide⟩)) (by decide) (go 3 1 rfl (by decide) (by decide) (by decide) (by decide))
  · exact wrap 3 2 (.inr (.inl ⟨rfl, by decide⟩)) (by decide) (go 3 2 rfl (by decide) (by decide) (by decide) (by decide))
  · exact wrap 4 1 (.inr (.inr ⟨rfl, rfl⟩)) (by decide) (go 4 1 rfl (by decide) (by decide) (by decide) (by decide))
end G
set_option Elab.async false
set_option linter.all false
set_option maxRecDepth 100000
set_option maxHeartbeats 1000000
namespace G
open PySem DL
local instance : DL.TabCtx := ⟨[]⟩
abbrev natD (n : Nat) : PyData := .int (n : Nat)
abbrev rowD (r : List Nat) : PyData := .tuple (r.map natD)
def stD (st : List (List Nat)) : PyData := .tuple (st.map rowD)
def nOf (ss : List Sg) (x : Str) : Nat := (ss.map (·.name)).idxOf x
/-- what is heard of an ear -/
def hrd (ss : List Sg) (st : List (List Nat)) (e : Str × Int) : Nat := (st.getD (nOf ss e.1) []).getD (3 - e.2).toNat 0
def plc (m : Nat) (xs : List Nat) : Nat := xs.foldl (fun a x => a * m + x) 0
/-- a singer's line, by what is heard -/
def sem (m : Nat) (s : Sg) (h : Str × Int → Nat) : Int := s.tab.getD (plc m (s.ears.map h)) 0
def nxt (m : Nat) (ss : List Sg) (st : List (List Nat)) : List Int := ss.map fun s => sem m s (hrd ss st)
end G
set_option Elab.async false
set_option linter.all false
set_option maxRecDepth 100000
set_option maxHeartbeats 1000000
namespace G
open PySem DL
local instance : DL.TabCtx := ⟨[]⟩
def pr (at_ : Nat) (line other : Nat) : List Nat := if at_ = 0 then [line, other] else [other, line]
end G
set_option Elab.async false
set_option linter.all false
set_option maxRecDepth 100000
set_option maxHeartbeats 1000000
namespace G
open PySem DL
local instance : DL.TabCtx := ⟨[]⟩
end G
set_option Elab.async false
set_option linter.all false
set_option maxRecDepth 100000
set_option maxHeartbeats 1000000
namespace G
open PySem DL
local instance : DL.TabCtx := ⟨[]⟩
/-- within the lines -/
def Rng (m : Nat) (h : Str × Int → Nat) : Prop := ∀ e, h e < m
/-- the line hangs on an ear -/
def Dep (m : Nat) (s : Sg) (e : Str × Int) : Prop := ∃ h h' : Str × Int → Nat, Rng m h ∧ Rng m h' ∧ (∀ f, f ≠ e → h f = h' f) ∧ sem m s h ≠ sem m s h'
theorem sem_congr {m : Nat} {s : Sg} {h h' : Str × Int → Nat} (he : ∀ e ∈ s.ears, h e = h' e) : sem m s h = sem m s h' := by
  unfold sem; rw [List.map_congr_left he]
theorem Dep.mem {m : Nat} {s : Sg} {e : Str × Int} (h : Dep m s e) : e ∈ s.ears := by
  obtain ⟨a, b, _, _, hf, hn⟩ := h
  refine Classical.byContradiction fun hc => hn (sem_congr fun f hf' => hf f fun z => hc (by rw [← z]; exact hf'))
def asg2 (e f : Str × Int) (x y : Nat) : Str × Int → Nat := fun g => if g = e then x else if g = f then y else 0
theorem rising2 {e f : Str × Int} (h : rising SrtQ.lexS [e, f] = true) : SrtQ.lexS e f = true := by simpa [rising] using h
theorem rising_ne {e f : Str × Int} (h : rising SrtQ.lexS [e, f] = true) : e ≠ f := fun z => by
  subst z
  have := rising2 h
  rw [SrtQ.lexS_asym this] at this
  cases this
end G
set_option Elab.async false
set_option linter.all false
set_option maxRecDepth 100000
set_option maxHeartbeats 1000000
namespace G
open PySem DL
local instance : DL.TabCtx := ⟨[]⟩
/-- the table, by what is sung -/
def tabOf (m : Nat) (s : Sg) : List (Str × Int) → List Int
  | [] => [sem m s fun _ => 0]
  | [e] => (List.range m).map fun x => sem m s (asg2 e e x 0)
  | e :: f :: _ => (List.range (m * m)).map fun i => sem m s (asg2 e f (i / m) (i % m))
theorem rising_srtd {es : List (Str × Int)} (hl : es.length ≤ 2) (h : rising SrtQ.lexS es = true) : SrtO.Srtd SrtQ.lexS es ∧ es.Nodup := by
  match es, hl with
  | [], _ => exact ⟨List.Pairwise.nil, List.nodup_nil⟩
  | [a], _ => exact ⟨List.pairwise_singleton _ _, by simp⟩
  | [a, b], _ => exact ⟨by simp [SrtQ.lexS_asym (rising2 h)], by simp [rising_ne h]⟩
end G
set_option Elab.async false
set_option linter.all false
set_option maxRecDepth 100000
set_option maxHeartbeats 1000000
namespace G
open PySem DL
local instance : DL.TabCtx := ⟨[]⟩
def beh (st : List (List Nat)) (ls : List Nat) : List (List Nat) := (st.zip ls).map fun p => p.1.drop 1 ++ [p.2]
end G
set_option Elab.async false
set_option linter.all false
set_option maxRecDepth 100000
set_option maxHeartbeats 1000000
namespace G
open PySem DL
local instance : DL.TabCtx := ⟨[]⟩
def tups (m : Nat) : Nat → List (List Nat)
  | 0 => [[]]
  | k + 1 => (tups m k).flatMap fun o => (List.range m).map fun l => o ++ [l]
end G
set_option Elab.async false
set_option linter.all false
set_option maxRecDepth 100000
set_option maxHeartbeats 1000000
namespace G
open PySem DL
local instance : DL.TabCtx := ⟨[]⟩
section
variable {ρ : Rho} {d x y z : PyData} {ds : List PyData} {i j : Nat} {a b c : M PyData} {t : M Bool} {as : M (List PyData)} {ss : M (List Sl)} {f g : SM}
@[simp] theorem e_xSh : xSh a ss ρ = (M.bind a fun x => M.bind ss fun xs => M.pure (.sh x :: xs)) ρ := rfl
@[simp] theorem e_xOw : xOw a ss ρ = (M.bind a fun x => M.bind ss fun xs => M.pure (.ow x :: xs)) ρ := rfl
@[simp] theorem e_parO {is : List Nat} : parO is ss ρ = (exO ss fun ss ρ => if ss.length = is.length then .nx (setL is ss ρ) else .bad) ρ := rfl
@[simp] theorem e_setL {k : Nat} {ks : List Nat} {s : Sl} {ss : List Sl} : setL (k :: ks) (s :: ss) ρ = setL ks ss (ρ.set k s) := rfl
@[simp] theorem e_setL0 : setL [] [] ρ = ρ := rfl
@[simp] theorem e_ownFO : ownFO i a ρ = (exO a fun d ρ => .nx (ρ.set i (.ow d))) ρ := rfl
@[simp] theorem e_retF : retF a ρ = (exO a fun d ρ => .rf d ρ) ρ := rfl
@[simp] theorem e_callF {m : List PyData → R PyData} : callF m as ρ = (M.bind as fun ds => M.lift (immR (m ds))) ρ := rfl
@[simp] theorem e_slcL {l h : M (Option Int)} : slcL a l h ρ = (M.bind a fun x => M.bind l fun l => M.bind h fun h => M.opt (gCutL l h x)) ρ := rfl
@[simp] theorem e_cutL {lo hi : Option Int} : gCutL lo hi (.list ds) = some (.list (cutD ds lo hi)) := rfl
@[simp] theorem e_dsetO : dsetO i b a ρ = (exO a fun dv ρ => if isOwn1 ρ[i]? = true then exO b (fun dk ρ => match ρ[i]? with
  | some (.ow (.dict ps)) => if keyOk ps dk = true ∧ ps.length < LIM then .nx (ρ.set i (.ow (.dict (dput ps dk dv)))) else .bad
  | _ => .bad) ρ else .bad) ρ := rfl
@[simp] theorem e_isDict {ps : List (PyData × PyData)} : isDict (.dict ps) = true := rfl
@[simp] theorem e_dget1 : dget1 a b ρ = (M.bind a fun d => if isDict d = true then M.bind b fun k => M.opt (gGet1 d k) else fun _ => .bad) ρ := rfl
@[simp] theorem e_dget2 : dget2 a b c ρ = (M.bind a fun d => if isDict d = true then M.bind b fun k => M.bind c fun x => M.opt (gGet2 d k x) else fun _ => .bad) ρ := rfl
end
end G
set_option Elab.async false
set_option linter.all false
set_option maxRecDepth 100000
set_option maxHeartbeats 1000000
namespace G
open PySem DL
local instance : DL.TabCtx := ⟨[]⟩
@[simp] theorem imm_intS (i : Int) : imm (.int i) = true := rfl
def knownD (f : Nat → List (List Nat)) (i : Nat) : List (PyData × PyData) := (List.range i).map fun j => (stD (f j), natD j)
def rowSt (f : Nat → List (List Nat)) (i : Nat) : List PyData := (List.range i).map fun j => stD (f j)
@[simp] theorem rowSt_len (f : Nat → List (List Nat)) (i : Nat) : (rowSt f i).length = i := by unfold rowSt; simp
@[simp] theorem knownD_len (f : Nat → List (List Nat)) (i : Nat) : (knownD f i).length = i := by unfold knownD; simp
end G
set_option Elab.async false
set_option linter.all false
set_option maxRecDepth 100000
set_option maxHeartbeats 1000000
namespace G
open PySem DL
local instance : DL.TabCtx := ⟨[]⟩
theorem lcrew_ok {many : Int} {ss : List Sg} (hl : ss.length ≤ LIM) : m_law_crew [chD many ss] = .ok (.list (ss.map fun s => .str s.name)) := by
  simp [m_law_crew, b_law_crew, fnRun, start0, chD]
  rw [lc_map ss Sg.d (fun s => .str s.name)]
  · simp
  · rfl
  · exact hl
  · exact fun s hs => ⟨_, rfl, by simp [Sg.d], rfl⟩
def col (st : List (List Nat)) (j : Nat) : List Nat := st.map fun r => r.getD j 0
/-- what is heard of an ear by a history -/
def hh (ss : List Sg) (hs : List (List Nat)) (b : Nat) (e : Str × Int) : Nat := (hs.getD ((b : Int) + 3 - e.2).toNat []).getD (nOf ss e.1) 0
section
variable (m : Nat) (ss : List Sg) (ld : Nat → Str → Option Nat)
def lrow (b : Nat) (st : List (List Nat)) : List Nat := ss.map fun s => (ld b s.name).getD (sem m s (hrd ss st)).toNat
end
end G
set_option Elab.async false
set_option linter.all false
set_option maxRecDepth 100000
set_option maxHeartbeats 1000000
namespace G
open PySem DL
local instance : DL.TabCtx := ⟨[]⟩
@[simp] theorem immR_ok {d : PyData} (h : immC d = true) : immR (.ok d) = .ok d := if_pos h
theorem fn_rt {k n : Nat} {f : SM} {ds : List PyData} {d : PyData} {ρ' : Rho} (hk : ds.length = k) (h : f (start0 n ds) = .rt d ρ') : fnRun k n f ds = .ok d := by
  unfold fnRun; rw [if_pos hk, h]
theorem seq_nx {f g : SM} {ρ ρ' : Rho} (h : f ρ = .nx ρ') : seqO f g ρ = g ρ' := by unfold seqO; rw [h]
theorem asg_set {a : M PyData} {i : Nat} {d : PyData} {ρ ρ' : Rho} (h : a ρ = .ok (d, ρ')) (hi : i < ρ'.length) : asgO a (setS i) ρ = .nx (ρ'.set i (.sh d)) := by
  unfold asgO exO; rw [h]
  show (match setS i d ρ' with | .ok ρ' => O.nx ρ' | .exc _ => .bad | .bad => .bad) = _
  unfold setS; rw [if_pos hi]
theorem ret_ok {a : M PyData} {d : PyData} {ρ ρ' : Rho} (h : a ρ = .ok (d, ρ')) : retO a ρ = .rt d ρ' := by unfold retO exO; rw [h]
theorem opA_ok {g : List PyData → Option PyData} {as : M (List PyData)} {ds : List PyData} {z : PyData} {ρ ρ' : Rho} (h : as ρ = .ok (ds, ρ')) (hg : g ds = some z) : opA g as ρ = .ok (z, ρ') := by
  unfold opA M.bind; rw [h]; show M.opt (g ds) ρ' = _; rw [hg]; rfl
theorem aC1 {a : M PyData} {d : PyData} {ρ ρ' : Rho} (h : a ρ = .ok (d, ρ')) : aC a aN ρ = .ok ([d], ρ') := by unfold aC M.bind; rw [h]; rfl
theorem op2_ok {g : PyData → PyData → Option PyData} {a b : M PyData} {x y z : PyData} {ρ ρ1 ρ2 : Rho} (ha : a ρ = .ok (x, ρ1)) (hb : b ρ1 = .ok (y, ρ2)) (hg : g x y = some z) : op2 g a b ρ = .ok (z, ρ2) := by
  simp [ha, hb, hg]
theorem seq_rt {f g : SM} {ρ ρ' : Rho} {d : PyData} (h : f ρ = .rt d ρ') : seqO f g ρ = .rt d ρ' := by unfold seqO; rw [h]
theorem seq_exc {f g : SM} {ρ : Rho} {c : Str} (h : f ρ = .exc c) : seqO f g ρ = .exc c := by unfold seqO; rw [h]
theorem tst_ok {a : M PyData} {b : Bool} {ρ ρ' : Rho} (h : a ρ = .ok (.bool b, ρ')) : tst a ρ = .ok (b, ρ') := by simp [h]
theorem vN_ok {i : Nat} {d : PyData} {ρ : Rho} (h : ρ[i]? = some (.sh d)) : vN i ρ = .ok (d, ρ) := by simp [h]
theorem cD_ok {d : PyData} {ρ : Rho} : cD d ρ = .ok (d, ρ) := rfl
theorem aC_ok {a : M PyData} {as : M (List PyData)} {d : PyData} {ds : List PyData} {ρ ρ1 ρ2 : Rho} (h : a ρ = .ok (d, ρ1)) (hs : as ρ1 = .ok (ds, ρ2)) : aC a as ρ = .ok (d :: ds, ρ2) := by simp [h, hs]
theorem aN_ok {ρ : Rho} : aN ρ = .ok ([], ρ) := rfl
theorem callM_ok {m : List PyData → R PyData} {as : M (List PyData)} {ds : List PyData} {z : PyData} {ρ ρ' : Rho} (h : as ρ = .ok (ds, ρ')) (hm : m ds = .ok z) : callM m as ρ = .ok (z, ρ') := by simp [h, hm]
theorem callM_exc {m : List PyData → R PyData} {as : M (List PyData)} {ds : List PyData} {c : Str} {ρ ρ' : Rho} (h : as ρ = .ok (ds, ρ')) (hm : m ds = .exc c) : callM m as ρ = .exc c := by simp [h, hm]
theorem ifO_t {t : M Bool} {f g : SM} {ρ ρ' : Rho} (h : t ρ = .ok (true, ρ')) : ifO t f g ρ = f ρ' := by simp [h]
theorem ifO_f {t : M Bool} {f g : SM} {ρ ρ' : Rho} (h : t ρ = .ok (false, ρ')) : ifO t f g ρ = g ρ' := by simp [h]
theorem drop_nx {a : M PyData} {d : PyData} {ρ ρ' : Rho} (h : a ρ = .ok (d, ρ')) : dropO a ρ = .nx ρ' := by simp [h]
theorem drop_exc {a : M PyData} {c : Str} {ρ : Rho} (h : a ρ = .exc c) : dropO a ρ = .exc c := by simp [h]
theorem for_ok {as : M (List PyData)} {g : GM} {f : SM} {ds : List PyData} {ρ ρ' : Rho} (h : as ρ = .ok (ds, ρ')) : forO as g f ρ = loopO g f ds ρ' := by simp [h]
theorem opI_ok {g : List PyData → Option (List PyData)} {as : M (List PyData)} {ds zs : List PyData} {ρ ρ' : Rho} (h : as ρ = .ok (ds, ρ')) (hg : g ds = some zs) : opI g as ρ = .ok (zs, ρ') := by simp [h, hg]
theorem seqI_l {a : M PyData} {ds : List PyData} {ρ ρ' : Rho} (h : a ρ = .ok (.list ds, ρ')) : seqI a ρ = .ok (ds, ρ') := by simp [h]
theorem seqI_t {a : M PyData} {ds : List PyData} {ρ ρ' : Rho} (h : a ρ = .ok (.tuple ds, ρ')) : seqI a ρ = .ok (ds, ρ') := by simp [h]
theorem asg_gm {a : M PyData} {g : GM} {d : PyData} {ρ ρ' ρ'' : Rho} (h : a ρ = .ok (d, ρ')) (hg : g d ρ' = .ok ρ'') : asgO a g ρ = .nx ρ'' := by simp [h, hg]
theorem op1_ok {g : PyData → Option PyData} {a : M PyData} {x z : PyData} {ρ ρ1 : Rho} (ha : a ρ = .ok (x, ρ1)) (hg : g x = some z) : op1 g a ρ = .ok (z, ρ1) := by simp [ha, hg]
theorem slc_ok {a : M PyData} {l h : M (Option Int)} {x z : PyData} {lo hi : Option Int} {ρ ρ1 ρ2 ρ3 : Rho} (ha : a ρ = .ok (x, ρ1)) (hl : l ρ1 = .ok (lo, ρ2)) (hh : h ρ2 = .ok (hi, ρ3)) (hg : gCut lo hi x = some z) : slc a l h ρ = .ok (z, ρ3) := by simp [ha, hl, hh, hg]
theorem prt_ok {a : M PyData} {i : Int} {ρ ρ1 : Rho} (ha : a ρ = .ok (.int i, ρ1)) : prt a ρ = .ok (some i, ρ1) := by simp [ha]
theorem noPrt_ok {ρ : Rho} : noPrt ρ = .ok (none, ρ) := rfl
theorem fn_rt' {k n : Nat} {f : SM} {ds : List PyData} {d : PyData} {ρ0 ρ' : Rho} (hk : ds.length = k) (h0 : start0 n ds = ρ0) (h : f ρ0 = .rt d ρ') : fnRun k n f ds = .ok d := by
  subst h0; exact fn_rt hk h
theorem brwT_ok {b : Bool} {a : M Bool} {d : Bool} {ρ ρ1 ρ2 ρ3 : Rho} (hd : demR b ρ = ρ1) (ha : a ρ1 = .ok (d, ρ2)) (hb : backR b ρ ρ2 = some ρ3) : brwT b a ρ = .ok (d, ρ3) := by
  subst hd; simp [ha, hb]
end G
set_option Elab.async false
set_option linter.all false
set_option maxRecDepth 100000
set_option maxHeartbeats 1000000
namespace G
open PySem DL
local instance : DL.TabCtx := ⟨[]⟩
end G
set_option Elab.async false
set_option linter.all false
set_option maxRecDepth 100000
set_option maxHeartbeats 1000000
namespace G
open PySem DL
local instance : DL.TabCtx := ⟨[]⟩
end G
set_option Elab.async false
set_option linter.all false
set_option maxRecDepth 100000
set_option maxHeartbeats 1000000
namespace G
open PySem DL
local instance : DL.TabCtx := ⟨[]⟩
theorem rising_cons {α : Type} {lt : α → α → Bool} {a b : α} {r : List α} : rising lt (a :: b :: r) = true ↔ lt a b = true ∧ rising lt (b :: r) = true := by
  simp [rising]
theorem rising_pw {α : Type} {lt : α → α → Bool} (tr : ∀ a b c, lt a b = true → lt b c = true → lt a c = true) : ∀ {xs : List α}, rising lt xs = true → xs.Pairwise fun a b => lt a b = true
  | [], _ => List.Pairwise.nil
  | [a], _ => List.pairwise_singleton _ _
  | a :: b :: r, h => by
    obtain ⟨h1, h2⟩ := rising_cons.mp h
    have ih := rising_pw tr h2
    refine List.pairwise_cons.mpr ⟨fun y hy => ?_, ih⟩
    rcases List.mem_cons.mp hy with rfl | hy
    · exact h1
    · exact tr _ _ _ h1 ((List.pairwise_cons.mp ih).1 y hy)
end G
set_option Elab.async false
set_option linter.all false
set_option maxRecDepth 100000
set_option maxHeartbeats 1000000
namespace G
open PySem DL
local instance : DL.TabCtx := ⟨[]⟩
end G
set_option Elab.async false
set_option linter.all false
set_option maxRecDepth 100000
set_option maxHeartbeats 1000000
namespace G
open PySem DL
local instance : DL.TabCtx := ⟨[]⟩
theorem notT_ok {t : M Bool} {b : Bool} {ρ ρ' : Rho} (h : t ρ = .ok (b, ρ')) : notT t ρ = .ok (!b, ρ') := by simp [h]
theorem orT_f {t u : M Bool} {b : Bool} {ρ ρ1 ρ2 : Rho} (h : t ρ = .ok (false, ρ1)) (h2 : u ρ1 = .ok (b, ρ2)) : orT t u ρ = .ok (b, ρ2) := by simp [h, h2]
theorem orT_t {t u : M Bool} {ρ ρ1 : Rho} (h : t ρ = .ok (true, ρ1)) : orT t u ρ = .ok (true, ρ1) := by simp [h]
end G
set_option Elab.async false
set_option linter.all false
set_option maxRecDepth 100000
set_option maxHeartbeats 1000000
namespace G
open PySem DL
local instance : DL.TabCtx := ⟨[]⟩
def bts (k : Nat) : List Nat := List.range' 3 k
section
variable {α : Type} [DecidableEq α]
/-- the first beat ahead that clashes with a beat -/
def clA (P : Nat → α) (L : Nat → Nat) (k : Nat) : Option Nat := (bts k).find? fun b => decide (P b = P (3 + k) ∧ L b ≠ L (3 + k))
/-- the first two beats that clash -/
def clO (P : Nat → α) (L : Nat → Nat) : Nat → Option (Nat × Nat)
  | 0 => none
  | k + 1 => match clO P L k with
    | some c => some c
    | none => (clA P L k).map fun b => (b, 3 + k)
def fndO (P : Nat → α) (L : Nat → Nat) (k : Nat) (q : α) : Option Nat := ((bts k).find? fun b => decide (P b = q)).map L
end
end G
set_option Elab.async false
set_option linter.all false
set_option maxRecDepth 100000
set_option maxHeartbeats 1000000
namespace G
open PySem DL
local instance : DL.TabCtx := ⟨[]⟩
end G
set_option Elab.async false
set_option linter.all false
set_option maxRecDepth 100000
set_option maxHeartbeats 1000000
namespace G
open PySem DL
local instance : DL.TabCtx := ⟨[]⟩
theorem ex_ok {a : M PyData} {f : PyData → SM} {d : PyData} {ρ ρ' : Rho} (h : a ρ = .ok (d, ρ')) : exO a f ρ = f d ρ' := by unfold exO; rw [h]
theorem ifN_f {t : M Bool} {f : SM} {ρ ρ' : Rho} (h : t ρ = .ok (false, ρ')) : ifO t f nxO ρ = .nx ρ' := (ifO_f h).trans rfl
end G
set_option Elab.async false
set_option linter.all false
set_option maxRecDepth 100000
set_option maxHeartbeats 1000000
namespace G
open PySem DL
local instance : DL.TabCtx := ⟨[]⟩
end G
set_option Elab.async false
set_option linter.all false
set_option maxRecDepth 100000
set_option maxHeartbeats 1000000
namespace G
open PySem DL
local instance : DL.TabCtx := ⟨[]⟩
theorem app_ok {i : Nat} {a : M PyData} {d : PyData} {ds : List PyData} {ρ ρ' : Rho} (h0 : ρ[i]? = some (.ow (.list ds))) (ha : a ρ = .ok (d, ρ')) (h1 : ρ'[i]? = some (.ow (.list ds))) (hl : ds.length < LIM) : appO i a ρ = .nx (ρ'.set i (.ow (.list (ds ++ [d])))) := by
  unfold appO
  rw [h0]
  simp only []
  rw [ex_ok ha]
  simp only [h1]
  exact if_pos hl
def prO (m : Nat) (os : List (Option Nat)) (a : Nat) : Nat := os.foldl (fun a o => a * if o.isNone = true then m else 1) a
section
variable {many : Int} {m : Nat} {ss : List Sg} {R : List (List Nat)} {es : List (Str × Int)}
def hmT (m : Nat) (P L : Nat → Nat) (Q K : Nat) : Nat := match clO P L K with
  | some _ => 0
  | none => prO m ((List.range Q).map fun q => fndO P L K q) 1
end
end G
set_option Elab.async false
set_option linter.all false
set_option maxRecDepth 100000
set_option maxHeartbeats 1000000
namespace G
open PySem DL
local instance : DL.TabCtx := ⟨[]⟩
end G
set_option Elab.async false
set_option linter.all false
set_option maxRecDepth 100000
set_option maxHeartbeats 1000000
namespace G
open PySem DL
local instance : DL.TabCtx := ⟨[]⟩
end G
set_option Elab.async false
set_option linter.all false
set_option maxRecDepth 100000
set_option maxHeartbeats 1000000
namespace G
open PySem DL
local instance : DL.TabCtx := ⟨[]⟩
theorem callL_ok {i : Nat} {m : PyData → List PyData → R (PyData × PyData)} {as : M (List PyData)} {ds : List PyData} {d dd dd' : PyData} {ρ : Rho} (h : ρ[i]? = some (.ow dd)) (ha : as ρ = .ok (ds, ρ)) (hm : m dd ds = .ok (d, dd')) : callL i m as ρ = .ok (d, ρ.set i (.ow dd')) := by
  simp [h, ha, hm]
end G
set_option Elab.async false
set_option linter.all false
set_option maxRecDepth 100000
set_option maxHeartbeats 1000000
namespace G
open PySem DL
local instance : DL.TabCtx := ⟨[]⟩
theorem par2_ok {i j : Nat} {a : M (List PyData)} {x y : PyData} {ρ ρ1 : Rho} (h : a ρ = .ok ([x, y], ρ1)) (hi : i < ρ1.length) (hj : j < ρ1.length) : par2 i j a ρ = .nx ((ρ1.set i (.sh x)).set j (.sh y)) := by
  unfold par2 exO; rw [h]; exact if_pos ⟨hi, hj⟩
theorem add_t {a b : List PyData} (h : a.length + b.length ≤ 1000000) : gAdd (.tuple a) (.tuple b) = some (.tuple (a ++ b)) := by
  rw [show gAdd (.tuple a) (.tuple b) = if a.length + b.length ≤ LIM then some (.tuple (a ++ b)) else none from rfl, if_pos (by rw [e_LIM]; exact h)]
end G
set_option Elab.async false
set_option linter.all false
set_option maxRecDepth 100000
set_option maxHeartbeats 1000000
namespace G
open PySem DL
local instance : DL.TabCtx := ⟨[]⟩
end G
set_option Elab.async false
set_option linter.all false
set_option maxRecDepth 100000
set_option maxHeartbeats 1000000
namespace G
open PySem DL
local instance : DL.TabCtx := ⟨[]⟩
theorem seq_ex {f g : SM} {ρ ρ1 : Rho} {Q : Rho → Prop} (h : f ρ = .nx ρ1) (k : ∃ ρ', g ρ1 = .nx ρ' ∧ Q ρ') : ∃ ρ', seqO f g ρ = .nx ρ' ∧ Q ρ' := by rw [seq_nx h]; exact k
theorem one_ex {f : SM} {ρ ρ1 : Rho} {Q : Rho → Prop} (h : f ρ = .nx ρ1) (k : Q ρ1) : ∃ ρ', f ρ = .nx ρ' ∧ Q ρ' := ⟨_, h, k⟩
theorem fn_exc {k n : Nat} {f : SM} {ds : List PyData} {c : Str} {ρ0 : Rho} (hk : ds.length = k) (h0 : start0 n ds = ρ0) (h : f ρ0 = .exc c) : fnRun k n f ds = .exc c := by
  subst h0; unfold fnRun; rw [if_pos hk, h]
theorem told_exc {f : M PyData} {c : Str} {ρ : Rho} (h : f (HD.forget ρ) = .exc c) (hc : c ∈ HD.excs := by decide) : HD.toldM f ρ = .ok (HD.refusedD c, ρ) := by
  unfold HD.toldM; rw [h]; exact if_pos hc
theorem own_ok {i : Nat} {as : M (List PyData)} {ds : List PyData} {ρ ρ' : Rho} (h : as ρ = .ok (ds, ρ')) (hl : ds.length ≤ LIM) : ownO i as ρ = .nx (ρ'.set i (.ow (.list ds))) := by
  unfold ownO exO; rw [h]; exact if_pos hl
theorem if_exc {t : M Bool} {g : SM} {c : Str} {ρ ρ' : Rho} (h : t ρ = .ok (true, ρ')) : ifO t (raiseO c) g ρ = .exc c := by rw [ifO_t h]; rfl
theorem isi_ok {T : Ty} {a : M PyData} {d : PyData} {ρ ρ' : Rho} (h : a ρ = .ok (d, ρ')) : isi T a ρ = .ok (.bool (isD T d), ρ') := by rw [e_isi, e_bind, h]; rfl
theorem isi_b {T : Ty} {a : M PyData} {d : PyData} {b : Bool} {ρ ρ' : Rho} (h : a ρ = .ok (d, ρ')) (hb : isD T d = b) : isi T a ρ = .ok (.bool b, ρ') := by rw [← hb]; exact isi_ok h
theorem andV_f {a b : M PyData} {ρ ρ1 : Rho} (h : a ρ = .ok (.bool false, ρ1)) : andV a b ρ = .ok (.bool false, ρ1) := by simp [h]
theorem andV_t {a b : M PyData} {d : PyData} {ρ ρ1 ρ2 : Rho} (h : a ρ = .ok (.bool true, ρ1)) (h2 : b ρ1 = .ok (d, ρ2)) : andV a b ρ = .ok (d, ρ2) := by simp [h, h2]
theorem ne_same {k : Nat} {d : PyData} (h : P k d) (hk : k ≤ 64 := by decide) : gNe d d = some (.bool false) := gNe_P h h True (by simp) hk hk
theorem ne_bool (a b : Bool) : gNe (.bool a) (.bool b) = some (.bool (!decide (a = b))) := by cases a <;> cases b <;> rfl
end G
set_option Elab.async false
set_option linter.all false
set_option maxRecDepth 100000
set_option maxHeartbeats 1000000
namespace G
open PySem DL
local instance : DL.TabCtx := ⟨[]⟩
end G
set_option Elab.async false
set_option linter.all false
set_option maxRecDepth 100000
set_option maxHeartbeats 1000000
namespace G
open PySem DL
local instance : DL.TabCtx := ⟨[]⟩
theorem lines_map {α : Type} (xs : List α) (enc : α → PyData) (p : α → Bool) (k many : Int) (hl : xs.length ≤ 1000) (h : ∀ x ∈ xs, m_is_whole [enc x, .int 0, .int (many - 1)] = .ok (.bool (p x))) :
    m_are_lines [.tuple (xs.map enc), .int k, .int many] = .ok (.bool (decide ((xs.length : Int) = k) && xs.all p)) := by
  have ln : gLen [PyData.tuple (xs.map enc)] = some (.int (xs.length : Nat)) := by rw [e_len_t, List.length_map]
  have ge : gEq (.int (xs.length : Nat)) (.int k) = some (.bool (decide ((xs.length : Int) = k))) := gEq_int _ _
  have lc : lcM [3] (seqI (vN 0)) (setS 3) yesT (callM m_is_whole (aC (vN 3) (aC (cD (.int 0)) (aC (op2 gSub (vN 2) (cD (.int 1))) aN)))) [.sh (.tuple (xs.map enc)), .sh (.int k), .sh (.int many), .no] = .ok (.list (xs.map fun x => .bool (p x)), [.sh (.tuple (xs.map enc)), .sh (.int k), .sh (.int many), .no]) := by
    refine lc_map xs enc (fun x => .bool (p x)) (seqI_t (vN_ok rfl)) rfl (by rw [e_LIM]; omega) fun x hx => ?_
    exact ⟨[.sh (.tuple (xs.map enc)), .sh (.int k), .sh (.int many), .sh (enc x)], rfl, callM_ok (aC_ok (vN_ok rfl) (aC_ok cD_ok (aC1 (op2_ok (vN_ok rfl) cD_ok rfl)))) (h x hx), rfl⟩
  have al := all_map p xs
  refine fn_rt' (ρ0 := [.sh (.tuple (xs.map enc)), .sh (.int k), .sh (.int many), .no]) rfl rfl (ρ' := [.sh (.tuple (xs.map enc)), .sh (.int k), .sh (.int many), .no]) ?_
  rw [b_are_lines]
  refine ret_ok (andV_t (isi_b (T := .tuple) (vN_ok rfl) rfl) ?_)
  cases hd : decide ((xs.length : Int) = k) with
  | false =>
    rw [hd] at ge
    exact andV_f (op2_ok (opA_ok (aC1 (vN_ok rfl)) ln) (vN_ok rfl) ge)
  | true =>
    rw [hd] at ge
    exact andV_t (op2_ok (opA_ok (aC1 (vN_ok rfl)) ln) (vN_ok rfl) ge) (opA_ok (aC1 lc) al)
end G
set_option Elab.async false
set_option linter.all false
set_option maxRecDepth 100000
set_option maxHeartbeats 1000000
namespace G
open PySem DL
local instance : DL.TabCtx := ⟨[]⟩
abbrev Sh (d : PyData) : Prop := SeqAt.shaped d = true
theorem lay_mem : ∀ {xs : List PyData}, PyData.canLayAll0 xs = true → ∀ x ∈ xs, x.canLay0 = true
  | x :: xs, h, y, hy => by
    have h' : (PyData.canLay0 x && PyData.canLayAll0 xs) = true := h
    rw [Bool.and_eq_true] at h'
    rcases List.mem_cons.mp hy with rfl | hy
    · exact h'.1
    · exact lay_mem h'.2 y hy
theorem depth_mem : ∀ {xs : List PyData}, ∀ x ∈ xs, x.depth ≤ PyData.depthAll xs
  | x :: xs, y, hy => by
    simp only [PyData.depthAll]
    rcases List.mem_cons.mp hy with rfl | hy
    · omega
    · have := depth_mem y hy; omega
theorem Sh.mem {xs : List PyData} (h : Sh (.tuple xs)) : ∀ x ∈ xs, Sh x := fun x hx => by
  unfold Sh SeqAt.shaped at h ⊢
  rw [Bool.and_eq_true, decide_eq_true_iff, PyData.canLay0, PyData.depth] at h
  rw [Bool.and_eq_true, decide_eq_true_iff]
  exact ⟨lay_mem h.1 x hx, Nat.le_trans (depth_mem x hx) (by omega)⟩
def inR (many : Int) : PyData → Bool
  | .int i => decide (0 ≤ i) && decide (i ≤ many - 1)
  | _ => false
def inN (nm : List Str) : PyData → Bool
  | .str s => nm.any (· == s)
  | _ => false
def W (nm : List Str) (many : Int) : Nat → PyData → Bool
  | 0, _ => false
  | _ + 1, .tuple [.str s] => s == "one"
  | n + 1, .tuple [.str s, a] => s == "not" && W nm many n a
  | n + 1, .tuple [.str s, a, b] => if s = "sings" then inN nm a && inR many b else s == "both" && (W nm many n a && W nm many n b)
  | _ + 1, _ => false
end G
set_option Elab.async false
set_option linter.all false
set_option maxRecDepth 100000
set_option maxHeartbeats 1000000
namespace G
open PySem DL
local instance : DL.TabCtx := ⟨[]⟩
end G
set_option Elab.async false
set_option linter.all false
set_option maxRecDepth 100000
set_option maxHeartbeats 1000000
namespace G
open PySem DL
local instance : DL.TabCtx := ⟨[]⟩
end G
set_option Elab.async false
set_option linter.all false
set_option maxRecDepth 100000
set_option maxHeartbeats 1000000
namespace G
open PySem DL
local instance : DL.TabCtx := ⟨[]⟩
end G
set_option Elab.async false
set_option linter.all false
set_option maxRecDepth 100000
set_option maxHeartbeats 1000000
namespace G
open PySem DL
local instance : DL.TabCtx := ⟨[]⟩
end G
set_option Elab.async false
set_option linter.all false
set_option maxRecDepth 100000
set_option maxHeartbeats 1000000
namespace G
open PySem DL
local instance : DL.TabCtx := ⟨[]⟩
end G
set_option Elab.async false
set_option linter.all false
set_option maxRecDepth 100000
set_option maxHeartbeats 1000000
namespace G
open PySem DL
local instance : DL.TabCtx := ⟨[]⟩
end G
set_option Elab.async false
set_option linter.all false
set_option maxRecDepth 100000
set_option maxHeartbeats 1000000
namespace G
open PySem DL
local instance : DL.TabCtx := ⟨[]⟩
def ldOf (L : List Str) (t : List Nat) (x : Str) : Option Nat := ((L.zip t).find? fun p => decide (p.1 = x)).map (·.2)
def ldC (L : List Str) (t : List Nat) : Nat → Str → Option Nat := fun _ => ldOf L t
section
variable {many : Int} {m : Nat} {ss : List Sg} {st : List (List Nat)}
def nx (m : Nat) (ss : List Sg) (L : List Str) (st : List (List Nat)) (t : List Nat) : List (List Nat) := beh st (lrow m ss (ldC L t) 0 st)
end
end G
set_option Elab.async false
set_option linter.all false
set_option maxRecDepth 100000
set_option maxHeartbeats 1000000
namespace G
open PySem DL
local instance : DL.TabCtx := ⟨[]⟩
section
variable {many : Int} {m : Nat} {ss : List Sg} {st : List (List Nat)} {L : List Str}
abbrev St := List (List Nat)
end
end G
set_option Elab.async false
set_option linter.all false
set_option maxRecDepth 100000
set_option maxHeartbeats 1000000
namespace G
open PySem DL
local instance : DL.TabCtx := ⟨[]⟩
def fresh : List St → List St → List St
  | _, [] => []
  | F, s :: R => if s ∈ F then fresh F R else s :: fresh (F ++ [s]) R
end G
set_option Elab.async false
set_option linter.all false
set_option maxRecDepth 100000
set_option maxHeartbeats 1000000
namespace G
open PySem DL
local instance : DL.TabCtx := ⟨[]⟩
def foldE {α σ β : Type} (f : α → σ → β ⊕ σ) : List α → σ → β ⊕ σ
  | [], c => .inr c
  | a :: xs, c => match f a c with
    | .inl q => .inl q
    | .inr c' => foldE f xs c'
abbrev Pth := List (List Nat)
section
variable (good : St → List Nat → Bool) (nxt : St → List Nat → St) (T : List (List Nat))
def scan1 (p : Pth) (s : St) (t : List Nat) (c : List St × List (Pth × St)) : Pth ⊕ (List St × List (Pth × St)) :=
  if good s t = true then .inl (p ++ [t]) else if nxt s t ∈ c.1 then .inr c else .inr (c.1 ++ [nxt s t], c.2 ++ [(p ++ [t], nxt s t)])
def lvl (H : List (Pth × St)) (c : List St × List (Pth × St)) : Pth ⊕ (List St × List (Pth × St)) := foldE (fun e c => foldE (scan1 good nxt e.1 e.2) T c) H c
variable (P : St → Prop) (st : St)
variable {good nxt T P st}
end
end G
set_option Elab.async false
set_option linter.all false
set_option maxRecDepth 100000
set_option maxHeartbeats 1000000
namespace G
open PySem DL
local instance : DL.TabCtx := ⟨[]⟩
end G
set_option Elab.async false
set_option linter.all false
set_option maxRecDepth 100000
set_option maxHeartbeats 1000000
namespace G
open PySem DL
local instance : DL.TabCtx := ⟨[]⟩
end G
set_option Elab.async false
set_option linter.all false
set_option maxRecDepth 100000
set_option maxHeartbeats 1000000
namespace G
open PySem DL
local instance : DL.TabCtx := ⟨[]⟩
end G
set_option Elab.async false
set_option linter.all false
set_option maxRecDepth 100000
set_option maxHeartbeats 1000000
namespace G
open PySem DL
local instance : DL.TabCtx := ⟨[]⟩
end G
set_option Elab.async false
set_option linter.all false
set_option maxRecDepth 100000
set_option maxHeartbeats 1000000
namespace G
open PySem DL
local instance : DL.TabCtx := ⟨[]⟩
open PySem.W (keyToks keyToksAll alike alikeAll dataLe)
end G
set_option Elab.async false
set_option linter.all false
set_option maxRecDepth 100000
set_option maxHeartbeats 1000000
namespace G
open PySem DL
local instance : DL.TabCtx := ⟨[]⟩
section
variable (good : St → List Nat → Bool) (nxt : St → List Nat → St) (T : List (List Nat))
abbrev KX := List St × List (Pth × St)
def adv (p : Pth) (s : St) (c : KX) (t : List Nat) : KX := if nxt s t ∈ c.1 then c else (c.1 ++ [nxt s t], c.2 ++ [(p ++ [t], nxt s t)])
variable {good nxt T}
end
end G
set_option Elab.async false
set_option linter.all false
set_option maxRecDepth 100000
set_option maxHeartbeats 1000000
namespace G
open PySem DL
local instance : DL.TabCtx := ⟨[]⟩
end G
set_option Elab.async false
set_option linter.all false
set_option maxRecDepth 100000
set_option maxHeartbeats 1000000
namespace G
open PySem DL
local instance : DL.TabCtx := ⟨[]⟩
section
variable {good : St → List Nat → Bool} {nxt : St → List Nat → St} {T : List (List Nat)} {P : St → Prop} {st : St} {fl : List Nat → List Nat}
structure DI (nxt : St → List Nat → St) (T : List (List Nat)) (P : St → Prop) (st : St) (fl : List Nat → List Nat) (d : Nat) (H : List (Pth × St)) (K : List St) : Prop where
  hd : ∀ e ∈ H, e.1.length ≤ d
  sc : ∀ w ∈ K, w = st ∨ ∃ s, P s ∧ ∃ t ∈ T, w = nxt s t ∧ ∀ u ∈ T, nxt s u ∈ K
  ln : 2 * d + 1 ≤ K.length ∨ (2 * d ≤ K.length ∧ ∃ s, P s ∧ ∃ t ∈ T, nxt s t ∈ K ∧ nxt s (fl t) = st)
end
end G
set_option Elab.async false
set_option linter.all false
set_option maxRecDepth 100000
set_option maxHeartbeats 1000000
namespace G
open PySem DL
local instance : DL.TabCtx := ⟨[]⟩
end G
set_option Elab.async false
set_option linter.all false
set_option maxRecDepth 100000
set_option maxHeartbeats 1000000
namespace G
open PySem DL
local instance : DL.TabCtx := ⟨[]⟩
end G
set_option Elab.async false
set_option linter.all false
set_option maxRecDepth 100000
set_option maxHeartbeats 1000000
namespace G
open PySem DL
local instance : DL.TabCtx := ⟨[]⟩
end G
set_option Elab.async false
set_option linter.all false
set_option maxRecDepth 100000
set_option maxHeartbeats 1000000
namespace G
open PySem DL
local instance : DL.TabCtx := ⟨[]⟩
open PySem.W (alike alikeAll)
end G
set_option Elab.async false
set_option linter.all false
set_option maxRecDepth 100000
set_option maxHeartbeats 2000000
namespace G
open PySem DL L2
local instance : DL.TabCtx := ⟨[]⟩
section
variable {α : Type} {lt : α → α → Bool}
theorem pw_rising : ∀ {l : List α}, l.Pairwise (fun a b => lt a b = true) → rising lt l = true
  | [], _ => rfl
  | [x], _ => rfl
  | x :: y :: l, h => by
    show (lt x y && rising lt (y :: l)) = true
    rw [(List.pairwise_cons.mp h).1 y List.mem_cons_self, pw_rising (List.pairwise_cons.mp h).2]; rfl
theorem uq_id [DecidableEq α] : ∀ {l : List α}, l.Nodup → uq l = l
  | [], _ => rfl
  | x :: l, h => by
    obtain ⟨h1, h2⟩ := List.nodup_cons.mp h
    unfold uq
    rw [if_neg h1, uq_id h2]
/-- just what rises is the sorted list of its different ones -/
theorem rise_uq [DecidableEq α] (O : SrtO.Swo lt) (tr : ∀ x y z, lt x y = true → lt y z = true → lt x z = true) (tri : ∀ x y, lt x y = false → lt y x = false → x = y) (l : List α) : l = SrtQ.isort lt (uq l) ↔ rising lt l = true := by
  constructor
  · intro e
    have nd : l.Nodup := by rw [e]; exact (SrtQ.isort_perm _).nodup_iff.mpr uq_nodup
    have sr : SrtO.Srtd lt l := by rw [e]; exact SrtQ.isort_srtd O _
    refine pw_rising ?_
    have both := List.Pairwise.and nd sr
    refine both.imp fun {a b} h => ?_
    cases q : lt a b with
    | true => rfl
    | false => exact absurd (tri a b q h.2) h.1
  · intro h
    have pw := rising_pw tr h
    have nd : l.Nodup := pw.imp fun {a b} h e => by subst e; rw [O.refl] at h; cases h
    have sr : SrtO.Srtd lt l := pw.imp fun {a b} h => O.asym _ _ h
    rw [uq_id nd]
    exact SrtQ.perm_uniq O tri sr (SrtQ.isort_srtd O l) (SrtQ.isort_perm l).symm
end
theorem rise_uqS (l : List Str) : l = SrtQ.isort SrtQ.ltS (uq l) ↔ rising SrtQ.ltS l = true := rise_uq SrtQ.swo_ltS (fun _ _ _ h1 h2 => SrtQ.ltS_trans h1 h2) (fun _ _ h1 h2 => SrtQ.ltS_tri h1 h2) l
theorem rise_uqP (l : List (Str × Int)) : l = SrtQ.isort SrtQ.lexS (uq l) ↔ rising SrtQ.lexS l = true := rise_uq SrtQ.swo_lexS' (fun _ _ _ h1 h2 => SrtQ.lexS_trans h1 h2) (fun _ _ h1 h2 => SrtQ.lexS_tri h1 h2) l
def W7 : List Str := ["ann", "bob", "cy", "zed", "dee", "Ann", ""]
def wb (x : Str) : Bool := decide (x ∈ (["ann", "bob", "cy", "zed", "dee"] : List Str))
theorem wl_ok : ∀ x ∈ W7, m_is_word [.str x] = .ok (.bool (wb x)) ∧ m_law_is_word [.str x] = .ok (.bool (wb x)) ∧ (PyData.str x).canLay0 = true := by
  intro x hx
  simp only [W7, List.mem_cons, List.not_mem_nil, or_false] at hx
  rcases hx with rfl | rfl | rfl | rfl | rfl | rfl | rfl <;> exact ⟨by kernel_rfl, by kernel_rfl, by decide +kernel⟩
structure Bs where
  n : PyData
  es : List (Str × Int)
  ts : List PyData
def Bs.d (b : Bs) : PyData := .tuple [b.n, .tuple (b.es.map siD), .tuple b.ts]
structure Shp (b : Bs) : Prop where
  n : b.n = .int 5 ∨ ∃ x ∈ W7, b.n = .str x
  el : b.es.length ≤ 2
  er : ∀ e ∈ b.es, e.1 ∈ W7
  tl : b.ts.length ≤ 1000
  tr : ∀ t ∈ b.ts, t = .bool true ∨ ∃ i, t = .int i
def nmB : PyData → Bool
  | .str x => wb x
  | _ => false
theorem nm_ok {n : PyData} (h : n = .int 5 ∨ ∃ x ∈ W7, n = .str x) : m_is_word [n] = .ok (.bool (nmB n)) ∧ m_law_is_word [n] = .ok (.bool (nmB n)) ∧ n.canLay0 = true ∧ n.depth ≤ 0 := by
  rcases h with rfl | ⟨x, hx, rfl⟩
  · exact ⟨by kernel_rfl, by kernel_rfl, rfl, by rw [PyData.depth]; exact Nat.le_refl _⟩
  · obtain ⟨h1, h2, h3⟩ := wl_ok x hx
    exact ⟨h1, h2, h3, by rw [PyData.depth]; exact Nat.le_refl _⟩
def erB (e : Str × Int) : Bool := wb e.1 && (decide (1 ≤ e.2) && decide (e.2 ≤ 3))
theorem ear_val {e : Str × Int} (h : e.1 ∈ W7) : m_is_ear [siD e] = .ok (.bool (erB e)) := by
  obtain ⟨h1, _, _⟩ := wl_ok e.1 h
  have iw := is_whole_int e.2 1 3
  have i0 : gIx (siD e) (.int 0) = some (.str e.1) := rfl
  have i1 : gIx (siD e) (.int 1) = some (.int e.2) := rfl
  have r : (andV (callM m_is_word (aC (op2 gIx (vN 0) (cD (.int 0))) aN)) (callM m_is_whole (aC (op2 gIx (vN 0) (cD (.int 1))) (aC (cD (.int 1)) (aC (cD (.int 3)) aN))))) [.sh (siD e)] = .ok (.bool (erB e), [.sh (siD e)]) := by
    unfold erB
    cases hb : wb e.1 with
    | false => rw [hb] at h1; exact andV_f (callM_ok (aC1 (op2_ok (vN_ok rfl) cD_ok i0)) h1)
    | true => rw [hb] at h1; exact andV_t (callM_ok (aC1 (op2_ok (vN_ok rfl) cD_ok i0)) h1) (callM_ok (aC_ok (op2_ok (vN_ok rfl) cD_ok i1) (aC_ok cD_ok (aC1 cD_ok))) iw)
  exact fn_rt' (ρ0 := [.sh (siD e)]) rfl rfl (ret_ok (andV_t (isi_b (vN_ok rfl) rfl) (andV_t (op2_ok (opA_ok (aC1 (vN_ok rfl)) rfl) cD_ok rfl) r)))
theorem ears_val {es : List (Str × Int)} (hl : es.length ≤ 2) (he : ∀ e ∈ es, e.1 ∈ W7) : m_are_ears [.tuple (es.map siD)] = .ok (.bool (es.all erB && rising SrtQ.lexS es)) := by
  have h2 : (es.length : Int) ≤ 2 := by omega
  simp [m_are_ears, b_are_ears, fnRun, start0, isD, h2]
  rw [lc_map es siD (fun e => .bool (erB e))]
  · have hr := rise_t siD SrtQ.lexS lt_ear es (by rw [e_LIM]; omega)
    cases hq : es.all erB with
    | false => simp [all_map, hq]
    | true => simp [all_map, hq, hr]
  · simp
  · rfl
  · rw [e_LIM]; omega
  · intro e h
    exact ⟨_, rfl, by simp [ear_val (he e h)], rfl⟩
def lnB (many : Int) : PyData → Bool
  | .int i => decide (0 ≤ i) && decide (i ≤ many - 1)
  | _ => false
theorem whole_val {many : Int} {t : PyData} (h : t = .bool true ∨ ∃ i, t = .int i) : m_is_whole [t, .int 0, .int (many - 1)] = .ok (.bool (lnB many t)) := by
  rcases h with rfl | ⟨i, rfl⟩
  · rfl
  · exact is_whole_int _ _ _
theorem num_eq : m_law_is_number = m_is_whole := rfl
def sgB (many : Int) (b : Bs) : Bool := nmB b.n && ((b.es.all erB && rising SrtQ.lexS b.es) && (decide ((b.ts.length : Int) = many ^ b.es.length) && b.ts.all (lnB many)))
theorem lines_val {many : Int} {b : Bs} (h : Shp b) (k : Int) : m_are_lines [.tuple b.ts, .int k, .int many] = .ok (.bool (decide ((b.ts.length : Int) = k) && b.ts.all (lnB many))) := by
  have := lines_map b.ts id (lnB many) k many h.tl fun t ht => whole_val (h.tr t ht)
  rw [List.map_id] at this
  exact this
theorem singer_val {many : Int} (m2 : 2 ≤ many) (m4 : many ≤ 4) {b : Bs} (h : Shp b) : m_is_singer [b.d, .int many] = .ok (.bool (sgB many b)) := by
  obtain ⟨k1, _, _⟩ := nm_ok h.n
  have k2 := ears_val h.el h.er
  have i0 : gIx b.d (.int 0) = some b.n := rfl
  have i1 : gIx b.d (.int 1) = some (.tuple (b.es.map siD)) := rfl
  have i2 : gIx b.d (.int 2) = some (.tuple b.ts) := rfl
  have kp := places_ok (many := many) (ds := b.es.map siD) m2 m4 (by rw [List.length_map]; exact h.el)
  have kl := lines_val (many := many) h (many ^ (b.es.map siD).length)
  rw [List.length_map] at kp kl
  unfold sgB
  generalize nmB b.n = b1 at k1 ⊢
  generalize (b.es.all erB && rising SrtQ.lexS b.es) = b2 at k2 ⊢
  generalize (decide ((b.ts.length : Int) = many ^ b.es.length) && b.ts.all (lnB many)) = b3 at kl ⊢
  have tt : (orT (notT (tst (isi .tuple (vN 0)))) (orT (tst (op2 gNe (opA gLen (aC (vN 0) aN)) (cD (.int 3)))) (orT (notT (tst (callM m_is_word (aC (op2 gIx (vN 0) (cD (.int 0))) aN)))) (notT (tst (callM m_are_ears (aC (op2 gIx (vN 0) (cD (.int 1))) aN))))))) [.sh b.d, .sh (.int many)] = .ok (!b1 || !b2, [.sh b.d, .sh (.int many)]) := by
    refine orT_f (notT_ok (b := true) (tst_ok (isi_b (vN_ok rfl) rfl))) (orT_f (tst_ok (op2_ok (opA_ok (aC1 (vN_ok rfl)) rfl) cD_ok rfl)) ?_)
    cases b1 with
    | false => exact orT_t (notT_ok (b := false) (tst_ok (callM_ok (aC1 (op2_ok (vN_ok rfl) cD_ok i0)) k1)))
    | true => exact orT_f (notT_ok (b := true) (tst_ok (callM_ok (aC1 (op2_ok (vN_ok rfl) cD_ok i0)) k1))) (notT_ok (tst_ok (callM_ok (aC1 (op2_ok (vN_ok rfl) cD_ok i1)) k2)))
  have yes : ∀ t : Bool, (!b1 || !b2) = t → fnRun 2 2 b_is_singer [b.d, .int many] = .ok (.bool (b1 && (b2 && b3))) := fun t ht => by
    rw [ht] at tt
    cases t with
    | true =>
      have e : (b1 && (b2 && b3)) = false := by cases b1 <;> cases b2 <;> simp at ht ⊢
      rw [e]
      exact fn_rt' (ρ0 := [.sh b.d, .sh (.int many)]) rfl rfl (by rw [b_is_singer]; exact seq_rt ((ifO_t tt).trans (ret_ok cD_ok)))
    | false =>
      have e : (b1 && (b2 && b3)) = b3 := by cases b1 <;> cases b2 <;> simp at ht ⊢
      rw [e]
      exact fn_rt' (ρ0 := [.sh b.d, .sh (.int many)]) rfl rfl (by
        rw [b_is_singer, seq_nx (ifN_f tt)]
        exact ret_ok (callM_ok (aC_ok (op2_ok (vN_ok rfl) cD_ok i2) (aC_ok (callM_ok (aC_ok (vN_ok rfl) (aC1 (op2_ok (vN_ok rfl) cD_ok i1))) kp) (aC1 (vN_ok rfl)))) kl))
  exact yes _ rfl
end G
set_option Elab.async false
set_option linter.all false
set_option maxRecDepth 100000
set_option maxHeartbeats 2000000
namespace G
open PySem DL L2
local instance : DL.TabCtx := ⟨[]⟩
def inQ (ns : List PyData) (x : Str) : Bool := ns.any fun z => PyData.eqv z (.str x)
def gdB (ns : List PyData) (e : Str × Int) : Bool := erB e && inQ ns e.1
/-- plain names -/
def Nms (ns : List PyData) : Prop := ns.length ≤ 1000 ∧ ∀ n ∈ ns, n = .int 5 ∨ ∃ x ∈ W7, n = .str x
theorem shaped_l {ds : List PyData} (h : ∀ d ∈ ds, d.canLay0 = true ∧ d.depth ≤ 60) : SeqAt.shaped (.list ds) = true := by
  unfold SeqAt.shaped
  have h1 : (PyData.list ds).canLay0 = true := by rw [PyData.canLay0]; exact lay_all fun x hx => (h x hx).1
  have h2 : (PyData.list ds).depth ≤ 64 := by rw [PyData.depth]; have := depth_all fun x hx => (h x hx).2; omega
  rw [h1, decide_eq_true h2]; rfl
theorem Nms.shaped {ns : List PyData} (h : Nms ns) : SeqAt.shaped (.list ns) = true := shaped_l fun n hn => by
  obtain ⟨_, _, h3, h4⟩ := nm_ok (h.2 n hn)
  exact ⟨h3, by omega⟩
theorem wl_shaped {x : Str} (h : x ∈ W7) : SeqAt.shaped (.str x) = true := by
  obtain ⟨_, _, h3⟩ := wl_ok x h
  unfold SeqAt.shaped
  rw [h3, decide_eq_true (by rw [PyData.depth]; omega)]; rfl
theorem gIn_n {ns : List PyData} (h : Nms ns) {x : Str} (hx : x ∈ W7) : gIn (.str x) (.list ns) = some (.bool (inQ ns x)) := by
  have : gIn (.str x) (.list ns) = if (SeqAt.shaped (.str x) && SeqAt.shaped (.list ns)) = true then some (.bool (ns.any fun z => PyData.eqv z (.str x))) else none := rfl
  rw [this, wl_shaped hx, h.shaped]; rfl
theorem gNotIn_n {ns : List PyData} (h : Nms ns) {x : Str} (hx : x ∈ W7) : gNotIn (.str x) (.list ns) = some (.bool (!inQ ns x)) := by
  have : gNotIn (.str x) (.list ns) = if (SeqAt.shaped (.str x) && SeqAt.shaped (.list ns)) = true then some (.bool (!ns.any fun z => PyData.eqv z (.str x))) else none := rfl
  rw [this, wl_shaped hx, h.shaped]; rfl
abbrev O01 (b : Bs) (many : Int) (ns : List PyData) (x3 x4 : Sl) : Rho := [.sh b.d, .sh (.int many), .sh (.list ns), x3, x4]
theorem own_ear {b : Bs} {many : Int} {ns : List PyData} (hn : Nms ns) {e : Str × Int} (h : e.1 ∈ W7) (x4 : Sl) : b_law_is_own_singer_L1 (O01 b many ns (.sh (siD e)) x4) = if gdB ns e = true then .nx (O01 b many ns (.sh (siD e)) x4) else .rt (.bool false) (O01 b many ns (.sh (siD e)) x4) := by
  obtain ⟨_, h1, _⟩ := wl_ok e.1 h
  have iw : m_law_is_number [.int e.2, .int 1, .int 3] = .ok (.bool (decide (1 ≤ e.2) && decide (e.2 ≤ 3))) := by rw [num_eq]; exact is_whole_int _ _ _
  have i0 : gIx (siD e) (.int 0) = some (.str e.1) := rfl
  have i1 : gIx (siD e) (.int 1) = some (.int e.2) := rfl
  have t1 : (orT (notT (tst (isi .tuple (vN 3)))) (orT (tst (op2 gNe (opA gLen (aC (vN 3) aN)) (cD (.int 2)))) (notT (tst (callM m_law_is_word (aC (op2 gIx (vN 3) (cD (.int 0))) aN)))))) (O01 b many ns (.sh (siD e)) x4) = .ok (!wb e.1, O01 b many ns (.sh (siD e)) x4) :=
    orT_f (notT_ok (b := true) (tst_ok (isi_b (vN_ok rfl) rfl))) (orT_f (tst_ok (op2_ok (opA_ok (aC1 (vN_ok rfl)) rfl) cD_ok rfl)) (notT_ok (tst_ok (callM_ok (aC1 (op2_ok (vN_ok rfl) cD_ok i0)) h1))))
  have t2 := notT_ok (tst_ok (callM_ok (ρ := O01 b many ns (.sh (siD e)) x4) (aC_ok (op2_ok (vN_ok (i := 3) rfl) cD_ok i1) (aC_ok cD_ok (aC1 cD_ok))) iw))
  have t3 := tst_ok (op2_ok (ρ := O01 b many ns (.sh (siD e)) x4) (op2_ok (vN_ok (i := 3) rfl) cD_ok i0) (vN_ok (i := 2) rfl) (gNotIn_n hn h))
  unfold gdB erB
  rw [b_law_is_own_singer_L1]
  cases hw : wb e.1 with
  | false =>
    rw [hw] at t1
    exact seq_rt ((ifO_t t1).trans (ret_ok cD_ok))
  | true =>
    rw [hw] at t1
    rw [seq_nx (ifN_f t1)]
    cases hr : (decide (1 ≤ e.2) && decide (e.2 ≤ 3)) with
    | false =>
      rw [hr] at t2
      exact seq_rt ((ifO_t t2).trans (ret_ok cD_ok))
    | true =>
      rw [hr] at t2
      rw [seq_nx (ifN_f t2)]
      cases hi : inQ ns e.1 with
      | false =>
        rw [hi] at t3
        exact (ifO_t t3).trans (ret_ok cD_ok)
      | true =>
        rw [hi] at t3
        exact ifN_f t3
theorem own_ears {b : Bs} {many : Int} {ns : List PyData} (hn : Nms ns) (x4 : Sl) : ∀ (es : List (Str × Int)) (x3 : Sl), (∀ e ∈ es, e.1 ∈ W7) → ∃ y3, loopO (setS 3) b_law_is_own_singer_L1 (es.map siD) (O01 b many ns x3 x4) = if es.all (gdB ns) = true then .nx (O01 b many ns y3 x4) else .rt (.bool false) (O01 b many ns y3 x4)
  | [], x3, _ => ⟨x3, rfl⟩
  | e :: es, x3, h => by
    have k := own_ear (b := b) (many := many) hn (h e List.mem_cons_self) x4
    have hs : setS 3 (siD e) (O01 b many ns x3 x4) = .ok (O01 b many ns (.sh (siD e)) x4) := rfl
    rw [List.map_cons, List.all_cons]
    unfold loopO
    rw [hs]
    simp only []
    rw [k]
    cases hg : gdB ns e with
    | false => exact ⟨.sh (siD e), rfl⟩
    | true =>
      obtain ⟨y3, k2⟩ := own_ears hn x4 es (.sh (siD e)) fun e he => h e (List.mem_cons_of_mem _ he)
      exact ⟨y3, by rw [Bool.true_and]; exact k2⟩
def owB (many : Int) (ns : List PyData) (b : Bs) : Bool := sgB many b && b.es.all fun e => inQ ns e.1
theorem owB_eq (many : Int) (ns : List PyData) (b : Bs) : owB many ns b = (nmB b.n && (b.es.all (gdB ns) && (rising SrtQ.lexS b.es && (decide ((b.ts.length : Int) = many ^ b.es.length) && b.ts.all (lnB many))))) := by
  have : b.es.all (gdB ns) = (b.es.all erB && b.es.all fun e => inQ ns e.1) := by
    unfold gdB
    induction b.es with
    | nil => rfl
    | cons e es ih => simp only [List.all_cons, ih]; cases erB e <;> cases inQ ns e.1 <;> cases es.all erB <;> cases (es.all fun e => inQ ns e.1) <;> rfl
  rw [this]
  unfold owB sgB
  cases nmB b.n <;> cases b.es.all erB <;> cases rising SrtQ.lexS b.es <;> cases (b.es.all fun e => inQ ns e.1) <;> simp
theorem eq_nil {ds : List PyData} (h : SeqAt.shaped (.list ds) = true) : gEq (.list ds) (.list []) = some (.bool ds.isEmpty) := by
  unfold gEq
  rw [h, show SeqAt.shaped (.list []) = true from by decide +kernel]
  cases ds with
  | nil => rfl
  | cons d ds => simp [PyData.eqv, PyData.eqvAll]
theorem filt_nil {α : Type} (p : α → Bool) (l : List α) : (l.filter fun x => !p x).isEmpty = l.all p := by
  induction l with
  | nil => rfl
  | cons x l ih =>
    cases h : p x with
    | true => simp [h] at ih ⊢; exact ih
    | false => simp [h]
theorem P_wear {k : Nat} {e : Str × Int} (h : e.1 ∈ W7) : P (k + 1) (siD e) := .tuple fun x hx => by
  simp at hx; rcases hx with rfl | rfl
  · exact .str (wl_ok _ h).2.2
  · exact .int _
theorem own_val {many : Int} (m2 : 2 ≤ many) (m4 : many ≤ 4) {b : Bs} (h : Shp b) {ns : List PyData} (hn : Nms ns) : m_law_is_own_singer [b.d, .int many, .list ns] = .ok (.bool (owB many ns b)) := by
  obtain ⟨_, k1, _⟩ := nm_ok h.n
  have i0 : gIx b.d (.int 0) = some b.n := rfl
  have i1 : gIx b.d (.int 1) = some (.tuple (b.es.map siD)) := rfl
  have i2 : gIx b.d (.int 2) = some (.tuple b.ts) := rfl
  have el := h.el
  obtain ⟨y3, kL⟩ := own_ears (b := b) (many := many) hn .no b.es .no h.er
  have t1 : (orT (notT (tst (isi .tuple (vN 0)))) (orT (tst (op2 gNe (opA gLen (aC (vN 0) aN)) (cD (.int 3)))) (notT (tst (callM m_law_is_word (aC (op2 gIx (vN 0) (cD (.int 0))) aN)))))) (O01 b many ns .no .no) = .ok (!nmB b.n, O01 b many ns .no .no) :=
    orT_f (notT_ok (b := true) (tst_ok (isi_b (vN_ok rfl) rfl))) (orT_f (tst_ok (op2_ok (opA_ok (aC1 (vN_ok rfl)) rfl) cD_ok rfl)) (notT_ok (tst_ok (callM_ok (aC1 (op2_ok (vN_ok rfl) cD_ok i0)) k1))))
  have t2 : (notT (tst (isi .tuple (op2 gIx (vN 0) (cD (.int 1)))))) (O01 b many ns .no .no) = .ok (false, O01 b many ns .no .no) := notT_ok (b := true) (tst_ok (isi_b (op2_ok (vN_ok rfl) cD_ok i1) rfl))
  have gu : gSortU (.tuple (b.es.map siD)) = some (.list ((SrtQ.isort SrtQ.lexS (uq b.es)).map siD)) := by
    show ((pairsD (b.es.map pairE)).bind fun ps => if ps.length ≤ 3 then some (PyData.list ((SrtQ.isort SrtQ.lexS (uq ps)).map pairE)) else none) = _
    rw [pairsD_map]
    exact if_pos (by omega)
  have glt : gGt (.int (b.es.map siD).length) (.int 2) = some (.bool false) := by rw [e_gt, decide_eq_false (by rw [List.length_map]; omega)]
  have gne : gNe (.list (b.es.map siD)) (.list ((SrtQ.isort SrtQ.lexS (uq b.es)).map siD)) = some (.bool (!rising SrtQ.lexS b.es)) := by
    rw [gNe_P (j := 2) (k := 2) (.list fun x hx => ?_) (.list fun x hx => ?_) (b.es = SrtQ.isort SrtQ.lexS (uq b.es)) (by
      rw [PyData.list.injEq]; exact map_inj fun _ _ => siD_inj)]
    · have e := rise_uqP b.es
      cases hr : rising SrtQ.lexS b.es with
      | true => rw [hr] at e; rw [decide_eq_true (e.mpr rfl)]
      | false => rw [hr] at e; rw [decide_eq_false fun z => Bool.false_ne_true (e.mp z)]
    · obtain ⟨e, he, rfl⟩ := List.mem_map.mp hx
      exact P_wear (h.er e he)
    · obtain ⟨e, he, rfl⟩ := List.mem_map.mp hx
      exact P_wear (h.er e (uq_mem.mp ((SrtQ.isort_perm _).mem_iff.mp he)))
  have gl : gList [.tuple (b.es.map siD)] = some (.list (b.es.map siD)) := rfl
  have t4 : (orT (tst (op2 gGt (opA gLen (aC (op2 gIx (vN 0) (cD (.int 1))) aN)) (cD (.int 2)))) (orT (tst (op2 gNe (opA gList (aC (op2 gIx (vN 0) (cD (.int 1))) aN)) (op1 gSortU (op2 gIx (vN 0) (cD (.int 1)))))) (notT (tst (isi .tuple (op2 gIx (vN 0) (cD (.int 2)))))))) (O01 b many ns y3 .no) = .ok (!rising SrtQ.lexS b.es, O01 b many ns y3 .no) := by
    refine orT_f (tst_ok (op2_ok (opA_ok (aC1 (op2_ok (vN_ok rfl) cD_ok i1)) e_len_t) cD_ok glt)) ?_
    have q := tst_ok (op2_ok (ρ := O01 b many ns y3 .no) (opA_ok (aC1 (op2_ok (vN_ok (i := 0) rfl) cD_ok i1)) gl) (op1_ok (op2_ok (vN_ok (i := 0) rfl) cD_ok i1) gu) gne)
    cases hr : rising SrtQ.lexS b.es with
    | false => rw [hr] at q; exact orT_t q
    | true => rw [hr] at q; exact orT_f q (notT_ok (b := true) (tst_ok (isi_b (op2_ok (vN_ok rfl) cD_ok i2) rfl)))
  have gm : gMul (.int many) (.int many) = some (.int (many * many)) := e_mul (by omega)
  have gx : gIx (.list [.int 1, .int many, .int (many * many)]) (.int (b.es.map siD).length) = some (.int (many ^ b.es.length)) := by
    rw [List.length_map]
    match he : b.es.length, el with
    | 0, _ => rw [Int.pow_zero]; rfl
    | 1, _ => rw [Int.pow_succ, Int.pow_zero, Int.one_mul]; rfl
    | 2, _ => rw [Int.pow_succ, Int.pow_succ, Int.pow_zero, Int.one_mul]; rfl
  have g5 : gNe (.int b.ts.length) (.int (many ^ b.es.length)) = some (.bool (!decide ((b.ts.length : Int) = many ^ b.es.length))) := gNe_int _ _
  have t5 : (tst (op2 gNe (opA gLen (aC (op2 gIx (vN 0) (cD (.int 2))) aN)) (op2 gIx (opA gLstD (aC (cD (.int 1)) (aC (vN 1) (aC (op2 gMul (vN 1) (vN 1)) aN)))) (opA gLen (aC (op2 gIx (vN 0) (cD (.int 1))) aN))))) (O01 b many ns y3 .no) = .ok (!decide ((b.ts.length : Int) = many ^ b.es.length), O01 b many ns y3 .no) :=
    tst_ok (op2_ok (opA_ok (aC1 (op2_ok (vN_ok rfl) cD_ok i2)) e_len_t) (op2_ok (opA_ok (aC_ok cD_ok (aC_ok (vN_ok rfl) (aC1 (op2_ok (vN_ok rfl) (vN_ok rfl) gm)))) rfl) (opA_ok (aC1 (op2_ok (vN_ok rfl) cD_ok i1)) e_len_t) gx) g5)
  have lc := lc_filt (vs := [4]) (a := seqI (op2 gIx (vN 0) (cD (.int 2)))) (g := setS 4) (t := notT (tst (callM m_law_is_number (aC (vN 4) (aC (cD (.int 0)) (aC (op2 gSub (vN 1) (cD (.int 1))) aN)))))) (e := vN 4) (ρ := O01 b many ns y3 .no) b.ts id id (fun t => !lnB many t) (by rw [List.map_id]; exact seqI_t (op2_ok (vN_ok rfl) cD_ok i2)) rfl (by rw [e_LIM]; have := h.tl; omega) fun t ht => by
    refine ⟨O01 b many ns y3 (.sh t), rfl, notT_ok (tst_ok (callM_ok (aC_ok (vN_ok rfl) (aC_ok cD_ok (aC1 (op2_ok (vN_ok rfl) cD_ok e_sub)))) (by rw [num_eq]; exact whole_val (h.tr t ht)))), fun _ => vN_ok rfl, rfl⟩
  rw [List.map_id] at lc
  have sh : SeqAt.shaped (.list (b.ts.filter fun t => !lnB many t)) = true := shaped_l fun d hd => by
    rcases h.tr d ((List.mem_filter.mp hd).1) with rfl | ⟨i, rfl⟩ <;> exact ⟨rfl, by rw [PyData.depth]; omega⟩
  have g6 := eq_nil sh
  rw [filt_nil] at g6
  have t6 := ret_ok (op2_ok (ρ := O01 b many ns y3 .no) lc (opA_ok (g := gLstD) (z := .list []) aN_ok rfl) g6)
  rw [owB_eq]
  have st : start0 5 [b.d, .int many, .list ns] = O01 b many ns .no .no := rfl
  cases hw : nmB b.n with
  | false =>
    rw [hw] at t1
    exact fn_rt' (ρ0 := O01 b many ns .no .no) rfl rfl (by rw [b_law_is_own_singer]; exact seq_rt ((ifO_t t1).trans (ret_ok cD_ok)))
  | true =>
    rw [hw] at t1
    have f3 := (for_ok (f := b_law_is_own_singer_L1) (g := setS 3) (seqI_t (op2_ok (ρ := O01 b many ns .no .no) (vN_ok (i := 0) rfl) cD_ok i1))).trans kL
    cases hg : b.es.all (gdB ns) with
    | false =>
      rw [hg] at f3
      exact fn_rt' (ρ0 := O01 b many ns .no .no) rfl rfl (by rw [b_law_is_own_singer, seq_nx (ifN_f t1), seq_nx (ifN_f t2)]; exact seq_rt f3)
    | true =>
      rw [hg] at f3
      cases hr : rising SrtQ.lexS b.es with
      | false =>
        rw [hr] at t4
        exact fn_rt' (ρ0 := O01 b many ns .no .no) rfl rfl (by rw [b_law_is_own_singer, seq_nx (ifN_f t1), seq_nx (ifN_f t2), seq_nx f3]; exact seq_rt ((ifO_t t4).trans (ret_ok cD_ok)))
      | true =>
        rw [hr] at t4
        cases hl : decide ((b.ts.length : Int) = many ^ b.es.length) with
        | false =>
          rw [hl] at t5
          exact fn_rt' (ρ0 := O01 b many ns .no .no) rfl rfl (by rw [b_law_is_own_singer, seq_nx (ifN_f t1), seq_nx (ifN_f t2), seq_nx f3, seq_nx (ifN_f t4)]; exact seq_rt ((ifO_t t5).trans (ret_ok cD_ok)))
        | true =>
          rw [hl] at t5
          exact fn_rt' (ρ0 := O01 b many ns .no .no) rfl rfl (by rw [b_law_is_own_singer, seq_nx (ifN_f t1), seq_nx (ifN_f t2), seq_nx f3, seq_nx (ifN_f t4), seq_nx (ifN_f t5)]; exact t6)
end G
set_option Elab.async false
set_option linter.all false
set_option maxRecDepth 100000
set_option maxHeartbeats 2000000
namespace G
open PySem DL L2
local instance : DL.TabCtx := ⟨[]⟩
def thD (many : Int) (bs : List Bs) : PyData := .tuple [.int many, .tuple (bs.map Bs.d)]
def nsD (bs : List Bs) : List PyData := bs.map (·.n)
def strD : PyData → Str
  | .str x => x
  | _ => ""
theorem choir_none {many : Int} {bs : List Bs} (h2 : 2 ≤ many) (h4 : many ≤ 4) (l1 : 1 ≤ bs.length) (l4 : bs.length ≤ 4) (h : ∀ b ∈ bs, Shp b) (hb : bs.all (sgB many) = false) : m_is_choir [thD many bs] = .ok (.bool false) := by
  have a1 : (1 : Int) ≤ bs.length := by omega
  have a2 : (bs.length : Int) ≤ 4 := by omega
  simp [m_is_choir, b_is_choir, fnRun, start0, isD, thD, is_whole_int, h2, h4, a1, a2]
  rw [lc_map bs Bs.d (fun b => .bool (sgB many b))]
  rotate_left
  · simp
  · rfl
  · rw [e_LIM]; omega
  · exact fun s hs => ⟨_, rfl, by simp [singer_val h2 h4 (h s hs)], rfl⟩
  simp [all_map, hb]
def earsIn (bs : List Bs) : Bool := bs.all fun b => b.es.all fun e => inQ (nsD bs) e.1
section
variable {many : Int} {bs : List Bs}
theorem nms_of (l4 : bs.length ≤ 4) (h : ∀ b ∈ bs, Shp b) : Nms (nsD bs) := ⟨by unfold nsD; rw [List.length_map]; omega, fun n hn => by
  obtain ⟨b, hb, rfl⟩ := List.mem_map.mp hn
  exact (h b hb).n⟩
/-- all the singers' names are words, then -/
theorem names_str (h : ∀ b ∈ bs, Shp b) (hw : bs.all (sgB many) = true) : nsD bs = ((nsD bs).map strD).map .str ∧ ∀ x ∈ (nsD bs).map strD, x ∈ W7 := by
  unfold nsD
  induction bs with
  | nil => exact ⟨rfl, fun x hx => nomatch hx⟩
  | cons b bs ih =>
    rw [List.all_cons, Bool.and_eq_true] at hw
    obtain ⟨h1, h2⟩ := ih (fun b hb => h b (List.mem_cons_of_mem _ hb)) hw.2
    have hn := (h b List.mem_cons_self).n
    have hb : nmB b.n = true := (Bool.and_eq_true_iff.mp hw.1).1
    rcases hn with e | ⟨x, hx, e⟩
    · rw [e] at hb; cases hb
    · refine ⟨?_, fun y hy => ?_⟩
      · rw [List.map_cons, List.map_cons, List.map_cons, ← h1, e]; rfl
      · rw [List.map_cons, List.map_cons, List.mem_cons] at hy
        rcases hy with rfl | hy
        · rw [e]; exact hx
        · exact h2 y hy
theorem choir_all (m2 : 2 ≤ many) (m4 : many ≤ 4) (l1 : 1 ≤ bs.length) (l4 : bs.length ≤ 4) (h : ∀ b ∈ bs, Shp b) (hw : bs.all (sgB many) = true) : m_is_choir [thD many bs] = .ok (.bool (rising SrtQ.ltS ((nsD bs).map strD) && earsIn bs)) := by
  have a1 : (1 : Int) ≤ bs.length := by omega
  have a2 : (bs.length : Int) ≤ 4 := by omega
  have hl : bs.length ≤ LIM := by rw [e_LIM]; omega
  obtain ⟨hs, hW7⟩ := names_str h hw
  have hn := nms_of l4 h
  have hr := rise_l PyData.str SrtQ.ltS lt_str ((nsD bs).map strD) (by rw [List.length_map]; unfold nsD; rw [List.length_map]; exact hl)
  rw [← hs] at hr
  have hr : m_rise [.list (bs.map fun b => b.n)] = .ok (.bool (rising SrtQ.ltS ((nsD bs).map strD))) := hr
  simp [m_is_choir, b_is_choir, fnRun, start0, isD, thD, is_whole_int, m2, m4, a1, a2]
  rw [lc_map bs Bs.d (fun _ => .bool true)]
  rotate_left
  · simp
  · rfl
  · exact hl
  · exact fun b hb => ⟨_, rfl, by
      have := singer_val m2 m4 (h b hb)
      rw [List.all_eq_true.mp hw b hb] at this
      simp [this], rfl⟩
  simp [all_map]
  rw [lc_map bs Bs.d (fun b => b.n)]
  rotate_left
  · simp
  · rfl
  · exact hl
  · exact fun s hs => ⟨_, rfl, by simp [Bs.d], rfl⟩
  simp only [hr]
  cases hrs : rising SrtQ.ltS ((nsD bs).map strD) with
  | false => simp
  | true =>
    simp
    rw [lc_map bs Bs.d (fun b => b.n)]
    rotate_left
    · simp
    · rfl
    · exact hl
    · exact fun s hs => ⟨_, rfl, by simp [Bs.d], rfl⟩
    simp
    rw [lc2_map bs Bs.d (fun b => b.es) siD (fun _ e => .bool (inQ (nsD bs) e.1))]
    · have : (bs.flatMap fun x => x.es.map fun e => PyData.bool (inQ (nsD bs) e.1)) = (bs.flatMap fun x => x.es).map fun e => PyData.bool (inQ (nsD bs) e.1) := by rw [List.map_flatMap]
      rw [this]
      simp only [all_map, List.all_flatMap]
      rfl
    · simp
    · rfl
    · have : ∀ xs : List Bs, (∀ s ∈ xs, s.es.length ≤ 2) → (xs.flatMap fun s => s.es).length ≤ 2 * xs.length := by
        intro xs
        induction xs with
        | nil => intro _; simp
        | cons x xs ih =>
          intro hh
          have b1 := hh x (List.mem_cons_self ..)
          have b2 := ih fun y hy => hh y (List.mem_cons_of_mem _ hy)
          simp only [List.flatMap_cons, List.length_append, List.length_cons]
          omega
      have := this bs fun s hs => (h s hs).el
      rw [e_LIM]; omega
    · decide
    · intro s hs
      refine ⟨_, rfl, rfl, by simp [Bs.d], fun e he => ⟨_, rfl, ?_, rfl⟩⟩
      have := gIn_n hn ((h s hs).er e he)
      unfold nsD at this ⊢
      simp [siD, this]
def gdC (many : Int) (bs : List Bs) : Bool := bs.all (owB many (nsD bs)) && decide ((nsD bs).map strD = SrtQ.isort SrtQ.ltS (uq ((nsD bs).map strD)))
theorem own_all (many : Int) (bs : List Bs) (ns : List PyData) : bs.all (owB many ns) = (bs.all (sgB many) && bs.all fun b => b.es.all fun e => inQ ns e.1) := by
  induction bs with
  | nil => rfl
  | cons b bs ih =>
    simp only [List.all_cons, ih, owB]
    cases sgB many b <;> cases (b.es.all fun e => inQ ns e.1) <;> cases bs.all (sgB many) <;> cases (bs.all fun b => b.es.all fun e => inQ ns e.1) <;> rfl
/-- what is_choir says of it is what the law looks for -/
theorem choir_val (m2 : 2 ≤ many) (m4 : many ≤ 4) (l1 : 1 ≤ bs.length) (l4 : bs.length ≤ 4) (h : ∀ b ∈ bs, Shp b) : m_is_choir [thD many bs] = .ok (.bool (gdC many bs)) := by
  have oa : gdC many bs = ((bs.all (sgB many) && earsIn bs) && decide ((nsD bs).map strD = SrtQ.isort SrtQ.ltS (uq ((nsD bs).map strD)))) := by
    unfold gdC earsIn
    rw [own_all]
  have e : decide ((nsD bs).map strD = SrtQ.isort SrtQ.ltS (uq ((nsD bs).map strD))) = rising SrtQ.ltS ((nsD bs).map strD) := by
    have q := rise_uqS ((nsD bs).map strD)
    cases hr : rising SrtQ.ltS ((nsD bs).map strD) with
    | true => rw [hr] at q; exact decide_eq_true (q.mpr rfl)
    | false => rw [hr] at q; exact decide_eq_false fun z => Bool.false_ne_true (q.mp z)
  rw [oa, e]
  cases hw : bs.all (sgB many) with
  | true =>
    rw [choir_all m2 m4 l1 l4 h hw]
    generalize rising SrtQ.ltS ((nsD bs).map strD) = r
    cases r <;> cases earsIn bs <;> rfl
  | false => exact choir_none m2 m4 l1 l4 h hw
end
end G
set_option Elab.async false
set_option linter.all false
set_option maxRecDepth 100000
set_option maxHeartbeats 2000000
namespace G
open PySem DL L2
local instance : DL.TabCtx := ⟨[]⟩
def ofSg (s : Sg) : Bs := ⟨.str s.name, s.ears, s.tab.map .int⟩
theorem shp_sg {many : Int} {ss : List Sg} (hG : Good many ss) (hc : ss.map (·.name) = crew3.take ss.length) : ∀ s ∈ ss, Shp (ofSg s) := by
  have nw : ∀ x ∈ ss.map (·.name), x ∈ W7 := fun x hx => by
    rw [hc] at hx
    have := List.mem_of_mem_take hx
    simp only [crew3, List.mem_cons, List.not_mem_nil, or_false] at this
    rcases this with rfl | rfl | rfl <;> simp [W7]
  intro s hs
  have g := hG.sg s hs
  refine ⟨.inr ⟨s.name, nw _ (List.mem_map.mpr ⟨s, hs, rfl⟩), rfl⟩, g.elen, fun e he => nw _ (g.ear e he).2.1, ?_, fun t ht => ?_⟩
  · show (s.tab.map PyData.int).length ≤ 1000
    rw [List.length_map]
    have := g.tlen
    have := (pow_le hG.m2 hG.m4 g.elen).2
    omega
  · obtain ⟨i, _, rfl⟩ := List.mem_map.mp ht
    exact .inr ⟨i, rfl⟩
abbrev row1 : PyData := .list [.str "Ann", .str "", .int 5, .str "zed", .str "bob"]
abbrev row2 : PyData := .list [.tuple [], .tuple [.tuple [.str "ann", .int 1]], .tuple [.tuple [.str "ann", .int 4]], .tuple [.tuple [.str "dee", .int 1]], .tuple [.tuple [.str "ann", .int 2], .tuple [.str "ann", .int 1]]]
abbrev row3 (many : Int) (ts : List PyData) : PyData := .list [.tuple [], .tuple [.int 0], .tuple ts, .tuple [.int many], .tuple [.int 0, .bool true]]
abbrev bentD (many : Int) (ts : List PyData) : PyData := .list [row1, row2, row3 many ts]
theorem bent_ok {many : Int} {ts : List PyData} (ht : ts.length ≤ 1000 ∧ ∀ t ∈ ts, t = .int 1) {s : Sg} (hs : Shp (ofSg s)) {act r : Int} (a0 : 0 ≤ act) (a3 : act < 3) (r0 : 0 ≤ r) (r5 : r < 5) :
    ∃ row x l1 l2 b', gIx (bentD many ts) (.int act) = some row ∧ gIx row (.int r) = some x ∧ gCut none (some act) s.d = some (.tuple l1) ∧ gCut (some (act + 1)) none s.d = some (.tuple l2) ∧ gAdd (.tuple l1) (.tuple [x]) = some (.tuple (l1 ++ [x])) ∧ gAdd (.tuple (l1 ++ [x])) (.tuple l2) = some (Bs.d b') ∧ Shp b' := by
  have ac : act = 0 ∨ act = 1 ∨ act = 2 := by omega
  have rc : r = 0 ∨ r = 1 ∨ r = 2 ∨ r = 3 ∨ r = 4 := by omega
  have w : ∀ {x : Str} {i : Int}, x ∈ W7 → ∀ e ∈ [(x, i)], e.1 ∈ W7 := fun h e he => by rw [List.mem_singleton] at he; subst he; exact h
  have one : ∀ {i : Int}, ∀ t ∈ [PyData.int i], t = .bool true ∨ ∃ i, t = .int i := fun t ht => by rw [List.mem_singleton] at ht; exact .inr ⟨_, ht⟩
  rcases ac with rfl | rfl | rfl
  · have go : ∀ x : PyData, gIx row1 (.int r) = some x → (x = .int 5 ∨ ∃ y ∈ W7, x = .str y) → ∃ row x l1 l2 b', gIx (bentD many ts) (.int 0) = some row ∧ gIx row (.int r) = some x ∧ gCut none (some 0) s.d = some (.tuple l1) ∧ gCut (some (0 + 1)) none s.d = some (.tuple l2) ∧ gAdd (.tuple l1) (.tuple [x]) = some (.tuple (l1 ++ [x])) ∧ gAdd (.tuple (l1 ++ [x])) (.tuple l2) = some (Bs.d b') ∧ Shp b' :=
      fun x hx hn => ⟨row1, x, [], [.tuple (s.ears.map siD), .tuple (s.tab.map .int)], ⟨x, s.ears, s.tab.map .int⟩, rfl, hx, rfl, rfl, rfl, rfl, ⟨hn, hs.el, hs.er, hs.tl, hs.tr⟩⟩
    rcases rc with rfl | rfl | rfl | rfl | rfl
    · exact go (.str "Ann") rfl (.inr ⟨_, by simp [W7], rfl⟩)
    · exact go (.str "") rfl (.inr ⟨_, by simp [W7], rfl⟩)
    · exact go (.int 5) rfl (.inl rfl)
    · exact go (.str "zed") rfl (.inr ⟨_, by simp [W7], rfl⟩)
    · exact go (.str "bob") rfl (.inr ⟨_, by simp [W7], rfl⟩)
  · have go : ∀ es : List (Str × Int), gIx row2 (.int r) = some (.tuple (es.map siD)) → es.length ≤ 2 → (∀ e ∈ es, e.1 ∈ W7) → ∃ row x l1 l2 b', gIx (bentD many ts) (.int 1) = some row ∧ gIx row (.int r) = some x ∧ gCut none (some 1) s.d = some (.tuple l1) ∧ gCut (some (1 + 1)) none s.d = some (.tuple l2) ∧ gAdd (.tuple l1) (.tuple [x]) = some (.tuple (l1 ++ [x])) ∧ gAdd (.tuple (l1 ++ [x])) (.tuple l2) = some (Bs.d b') ∧ Shp b' :=
      fun es hx hl he => ⟨row2, .tuple (es.map siD), [.str s.name], [.tuple (s.tab.map .int)], ⟨.str s.name, es, s.tab.map .int⟩, rfl, hx, rfl, rfl, rfl, rfl, ⟨hs.n, hl, he, hs.tl, hs.tr⟩⟩
    rcases rc with rfl | rfl | rfl | rfl | rfl
    · exact go [] rfl (by decide) (fun e he => nomatch he)
    · exact go [("ann", 1)] rfl (by decide) (w (by simp [W7]))
    · exact go [("ann", 4)] rfl (by decide) (w (by simp [W7]))
    · exact go [("dee", 1)] rfl (by decide) (w (by simp [W7]))
    · exact go [("ann", 2), ("ann", 1)] rfl (by decide) (fun e he => by simp at he; rcases he with rfl | rfl <;> simp [W7])
  · have go : ∀ us : List PyData, gIx (row3 many ts) (.int r) = some (.tuple us) → us.length ≤ 1000 → (∀ t ∈ us, t = .bool true ∨ ∃ i, t = .int i) → ∃ row x l1 l2 b', gIx (bentD many ts) (.int 2) = some row ∧ gIx row (.int r) = some x ∧ gCut none (some 2) s.d = some (.tuple l1) ∧ gCut (some (2 + 1)) none s.d = some (.tuple l2) ∧ gAdd (.tuple l1) (.tuple [x]) = some (.tuple (l1 ++ [x])) ∧ gAdd (.tuple (l1 ++ [x])) (.tuple l2) = some (Bs.d b') ∧ Shp b' :=
      fun us hx hl he => ⟨row3 many ts, .tuple us, [.str s.name, .tuple (s.ears.map siD)], [], ⟨.str s.name, s.ears, us⟩, rfl, hx, rfl, rfl, rfl, rfl, ⟨hs.n, hs.el, hs.er, hl, he⟩⟩
    rcases rc with rfl | rfl | rfl | rfl | rfl
    · exact go [] rfl (by decide) (fun e he => nomatch he)
    · exact go [.int 0] rfl (by decide) one
    · exact go ts rfl ht.1 (fun t h => .inr ⟨1, ht.2 t h⟩)
    · exact go [.int many] rfl (by simp) one
    · exact go [.int 0, .bool true] rfl (by decide) (fun t h => by simp at h; rcases h with rfl | rfl; exact .inr ⟨0, rfl⟩; exact .inl rfl)
theorem bs_lay {b : Bs} (h : Shp b) : b.d.canLay0 = true ∧ b.d.depth ≤ 60 := by
  obtain ⟨_, _, h3, h4⟩ := nm_ok h.n
  have e1 : ∀ x ∈ b.es.map siD, x.canLay0 = true ∧ x.depth ≤ 1 := fun x hx => by
    obtain ⟨e, he, rfl⟩ := List.mem_map.mp hx
    exact (P_wear (k := 0) (h.er e he)).lay
  have t1 : ∀ x ∈ b.ts, x.canLay0 = true ∧ x.depth ≤ 1 := fun x hx => by
    rcases h.tr x hx with rfl | ⟨i, rfl⟩ <;> exact ⟨rfl, by rw [PyData.depth]; omega⟩
  have e2 : (PyData.tuple (b.es.map siD)).canLay0 = true ∧ (PyData.tuple (b.es.map siD)).depth ≤ 2 := ⟨by rw [PyData.canLay0]; exact lay_all fun x hx => (e1 x hx).1, by rw [PyData.depth]; have := depth_all fun x hx => (e1 x hx).2; omega⟩
  have t2 : (PyData.tuple b.ts).canLay0 = true ∧ (PyData.tuple b.ts).depth ≤ 2 := ⟨by rw [PyData.canLay0]; exact lay_all fun x hx => (t1 x hx).1, by rw [PyData.depth]; have := depth_all fun x hx => (t1 x hx).2; omega⟩
  have all : ∀ x ∈ [b.n, .tuple (b.es.map siD), .tuple b.ts], x.canLay0 = true ∧ x.depth ≤ 2 := fun x hx => by
    simp only [List.mem_cons, List.not_mem_nil, or_false] at hx
    rcases hx with rfl | rfl | rfl
    · exact ⟨h3, by omega⟩
    · exact e2
    · exact t2
  exact ⟨by show (PyData.tuple _).canLay0 = true; rw [PyData.canLay0]; exact lay_all fun x hx => (all x hx).1, by show (PyData.tuple _).depth ≤ 60; rw [PyData.depth]; have := depth_all fun x hx => (all x hx).2; omega⟩
abbrev T01 (d : Int × Int) (many : Int) (ss : List Sg) (cr : PyData) (x6 x11 x12 x13 x14 x15 x16 x17 x18 x20 : Sl) : Rho :=
  [.no, .ow (dcD d), .sh (chD many ss), .sh (.int many), .sh (.tuple (ss.map Sg.d)), .sh cr, x6, .no, .no, .no, .no, x11, x12, x13, x14, x15, x16, x17, x18, .no, x20, .no]
theorem goodV {many : Int} {bs : List Bs} (h : ∀ b ∈ bs, Shp b) (l4 : bs.length ≤ 4) {ρ : Rho} (h17 : ρ[17]? = some (.sh (.bool (bs.all (owB many (nsD bs)))))) (h16 : ρ[16]? = some (.sh (.list (nsD bs)))) : andV (vN 17) (op2 gEq (vN 16) (op1 gSortU (vN 16))) ρ = .ok (.bool (gdC many bs), ρ) := by
  unfold gdC
  cases hf : bs.all (owB many (nsD bs)) with
  | false => rw [hf] at h17; exact andV_f (vN_ok h17)
  | true =>
    rw [hf] at h17
    have hw : bs.all (sgB many) = true := by rw [own_all, Bool.and_eq_true] at hf; exact hf.1
    obtain ⟨hs, hW7⟩ := names_str h hw
    have hl : ((nsD bs).map strD).length ≤ 4 := by unfold nsD; rw [List.length_map, List.length_map]; exact l4
    have gu : gSortU (.list (nsD bs)) = some (.list ((SrtQ.isort SrtQ.ltS (uq ((nsD bs).map strD))).map .str)) := by
      conv => lhs; rw [hs]
      show (txtsD (((nsD bs).map strD).map PyData.str)).bind (fun xs => if xs.length < 64 then some (PyData.list ((SrtQ.isort SrtQ.ltS (uq xs)).map .str)) else none) = _
      rw [txtsD_map]
      exact if_pos (by omega)
    have ge : gEq (.list (nsD bs)) (.list ((SrtQ.isort SrtQ.ltS (uq ((nsD bs).map strD))).map .str)) = some (.bool (decide ((nsD bs).map strD = SrtQ.isort SrtQ.ltS (uq ((nsD bs).map strD))))) := by
      conv => lhs; arg 1; rw [hs]
      refine gEq_P (j := 1) (k := 1) (.list fun x hx => ?_) (.list fun x hx => ?_) _ (by rw [PyData.list.injEq]; exact map_inj fun _ _ => by simp)
      · obtain ⟨y, hy, rfl⟩ := List.mem_map.mp hx
        exact .str (wl_ok y (hW7 y hy)).2.2
      · obtain ⟨y, hy, rfl⟩ := List.mem_map.mp hx
        exact .str (wl_ok y (hW7 y (uq_mem.mp ((SrtQ.isort_perm _).mem_iff.mp hy)))).2.2
    exact andV_t (vN_ok h17) (op2_ok (vN_ok h16) (op1_ok (vN_ok h16) gu) ge)
theorem turn01 {many : Int} {ss : List Sg} (hG : Good many ss) (hc : ss.map (·.name) = crew3.take ss.length) (l3 : ss.length ≤ 3) (d : Int × Int) (cr : PyData) (x6 x11 x12 x13 x14 x15 x16 x17 x18 : Sl) :
    ∃ d' y11 y12 y13 y14 y15 y16 y17 y18, b_law_L1 (T01 d many ss cr x6 x11 x12 x13 x14 x15 x16 x17 x18 .no) = .nx (T01 d' many ss cr x6 y11 y12 y13 y14 y15 y16 y17 y18 .no) := by
  have m2 := hG.m2
  have m4 := hG.m4
  have l1 := hG.l1
  have sg := shp_sg hG hc
  obtain ⟨at_, d1, k1, a0, a1⟩ := roll_ex d ss.length (by omega) (by omega)
  obtain ⟨act, d2, k2, c0, c3⟩ := roll_ex d1 3 (by decide) (by decide)
  obtain ⟨r, d3, k3, r0, r5⟩ := roll_ex d2 5 (by decide) (by decide)
  obtain ⟨k, rfl⟩ : ∃ k : Nat, at_ = k := ⟨at_.toNat, by omega⟩
  have hk : k < ss.length := by omega
  have ln4 : gLen [.tuple (ss.map Sg.d)] = some (.int ss.length) := by rw [e_len_t, List.length_map]
  obtain ⟨ts, gm, ht⟩ : ∃ ts, gMul (.tuple [.int 1]) (.int many) = some (.tuple ts) ∧ (ts.length ≤ 1000 ∧ ∀ t ∈ ts, t = PyData.int 1) := by
    have : many = 2 ∨ many = 3 ∨ many = 4 := by omega
    rcases this with rfl | rfl | rfl
    · exact ⟨[.int 1, .int 1], rfl, by decide, by simp⟩
    · exact ⟨[.int 1, .int 1, .int 1], rfl, by decide, by simp⟩
    · exact ⟨[.int 1, .int 1, .int 1, .int 1], rfl, by decide, by simp⟩
  have hs := sg ss[k] (List.getElem_mem hk)
  obtain ⟨row, x, p1, p2, b', i1, i2, i3, i4, i5, i6, hb'⟩ := bent_ok (many := many) ht hs c0 c3 r0 r5
  have ix4 : gIx (.tuple (ss.map Sg.d)) (.int (k : Nat)) = some ss[k].d := by
    rw [e_ix_t, e_at, List.getElem?_map, List.getElem?_eq_getElem hk]; rfl
  have gac : gAdd (.int act) (.int 1) = some (.int (act + 1)) := e_add
  have gat : gAdd (.int (k : Nat)) (.int 1) = some (.int ((k + 1 : Nat) : Int)) := by rw [e_add]; rfl
  have cu1 : gCut none (some ((k : Nat) : Int)) (.tuple (ss.map Sg.d)) = some (.tuple ((ss.take k).map Sg.d)) := by rw [e_cut_t, cut_to, List.map_take]
  have cu2 : gCut (some ((k + 1 : Nat) : Int)) none (.tuple (ss.map Sg.d)) = some (.tuple ((ss.drop (k + 1)).map Sg.d)) := by rw [e_cut_t, cut_from, List.map_drop]
  have ad1 : gAdd (.tuple ((ss.take k).map Sg.d)) (.tuple [b'.d]) = some (.tuple ((ss.take k).map Sg.d ++ [b'.d])) := add_t (by rw [List.length_map, List.length_take]; simp; omega)
  have ad2 : gAdd (.tuple ((ss.take k).map Sg.d ++ [b'.d])) (.tuple ((ss.drop (k + 1)).map Sg.d)) = some (.tuple ((ss.take k).map Sg.d ++ [b'.d] ++ (ss.drop (k + 1)).map Sg.d)) := add_t (by rw [List.length_append, List.length_map, List.length_take, List.length_map, List.length_drop]; simp; omega)
  obtain ⟨bs, hbs⟩ : ∃ bs : List Bs, bs = (ss.take k).map ofSg ++ b' :: (ss.drop (k + 1)).map ofSg := ⟨_, rfl⟩
  have eb : (ss.take k).map Sg.d ++ [b'.d] ++ (ss.drop (k + 1)).map Sg.d = bs.map Bs.d := by
    rw [hbs, List.map_append, List.map_cons, List.map_map, List.map_map, List.append_assoc]; rfl
  rw [eb] at ad2
  have hlen : bs.length = ss.length := by rw [hbs, List.length_append, List.length_cons, List.length_map, List.length_map, List.length_take, List.length_drop]; omega
  have hsh : ∀ b ∈ bs, Shp b := fun b hb => by
    rw [hbs] at hb
    rcases List.mem_append.mp hb with hb | hb
    · obtain ⟨s, h1, rfl⟩ := List.mem_map.mp hb
      exact sg s (List.mem_of_mem_take h1)
    · rcases List.mem_cons.mp hb with rfl | hb
      · exact hb'
      · obtain ⟨s, h1, rfl⟩ := List.mem_map.mp hb
        exact sg s (List.mem_of_mem_drop h1)
  have tv := choir_val m2 m4 (by omega) (by omega) hsh
  have nms := nms_of (by omega) hsh
  have ith : gIx (thD many bs) (.int 1) = some (.tuple (bs.map Bs.d)) := rfl
  have gt : gTupD [.int many, .tuple (bs.map Bs.d)] = some (thD many bs) := rfl
  have ne := ne_bool (gdC many bs) (gdC many bs)
  rw [decide_eq_true rfl] at ne
  rw [b_law_L1]
  refine ⟨d3, .sh (.int (k : Nat)), .sh (.int act), .sh (bentD many ts), .sh b'.d, .sh (thD many bs), .sh (.list (nsD bs)), .sh (.bool (bs.all (owB many (nsD bs)))), .sh (.bool (gdC many bs)), ?_⟩
  rw [seq_nx (par2_ok (ρ1 := T01 d2 many ss cr x6 x11 x12 x13 x14 x15 x16 x17 x18 .no) (x := .int (k : Nat)) (y := .int act) (aC_ok (callL_ok (dd := dcD d) rfl (aC1 (opA_ok (aC1 (vN_ok rfl)) ln4)) k1) (aC1 (callL_ok (dd := dcD d1) rfl (aC1 cD_ok) k2))) (by simp) (by simp))]
  simp only [List.set_cons_zero, List.set_cons_succ]
  rw [seq_nx (asg_set (d := .list [row1]) (opA_ok (aC1 (opA_ok (aC_ok cD_ok (aC_ok cD_ok (aC_ok cD_ok (aC_ok cD_ok (aC1 cD_ok))))) rfl)) rfl) (by simp))]
  simp only [List.set_cons_zero, List.set_cons_succ]
  rw [seq_nx (asg_set (d := .list [row1, row2]) (op2_ok (y := .list [row2]) (vN_ok rfl) rfl rfl) (by simp))]
  simp only [List.set_cons_zero, List.set_cons_succ]
  rw [seq_nx (asg_set (d := bentD many ts) (op2_ok (y := .list [row3 many ts]) (vN_ok rfl) (opA_ok (aC1 (opA_ok (aC_ok rfl (aC_ok rfl (aC_ok (op2_ok rfl (vN_ok rfl) gm) (aC_ok (opA_ok (aC1 (vN_ok rfl)) rfl) (aC1 rfl))))) rfl)) rfl) rfl) (by simp))]
  simp only [List.set_cons_zero, List.set_cons_succ]
  rw [seq_nx (asg_set (ρ' := T01 d3 many ss cr x6 (.sh (.int (k : Nat))) (.sh (.int act)) (.sh (bentD many ts)) x14 x15 x16 x17 x18 .no) (d := b'.d) (op2_ok (op2_ok (slc_ok (op2_ok (vN_ok rfl) (vN_ok rfl) ix4) noPrt_ok (prt_ok (vN_ok rfl)) i3) (opA_ok (aC1 (op2_ok (op2_ok (vN_ok rfl) (vN_ok rfl) i1) (callL_ok (dd := dcD d2) rfl (aC1 cD_ok) k3) i2)) rfl) i5) (slc_ok (op2_ok (vN_ok rfl) (vN_ok rfl) ix4) (prt_ok (op2_ok (vN_ok rfl) cD_ok gac)) noPrt_ok i4) i6) (by simp))]
  simp only [List.set_cons_zero, List.set_cons_succ]
  rw [seq_nx (asg_set (d := thD many bs) (opA_ok (aC_ok (vN_ok rfl) (aC1 (op2_ok (op2_ok (slc_ok (vN_ok rfl) noPrt_ok (prt_ok (vN_ok rfl)) cu1) (opA_ok (aC1 (vN_ok rfl)) rfl) ad1) (slc_ok (vN_ok rfl) (prt_ok (op2_ok (vN_ok rfl) cD_ok gat)) noPrt_ok cu2) ad2))) gt) (by simp))]
  simp only [List.set_cons_zero, List.set_cons_succ]
  rw [seq_nx (asg_set (d := .list (nsD bs)) (lc_map bs Bs.d (fun b => b.n) (seqI_t (op2_ok (vN_ok rfl) cD_ok ith)) rfl (by rw [e_LIM]; omega) fun b hb => ⟨T01 d3 many ss cr x6 (.sh (.int (k : Nat))) (.sh (.int act)) (.sh (bentD many ts)) (.sh b'.d) (.sh (thD many bs)) x16 x17 x18 (.sh b.d), rfl, op2_ok (vN_ok rfl) cD_ok (show gIx b.d (.int 0) = some b.n from rfl), rfl⟩) (by simp))]
  simp only [List.set_cons_zero, List.set_cons_succ]
  have lc := lc_filt (vs := [20]) (a := seqI (op2 gIx (vN 15) (cD (.int 1)))) (g := setS 20) (t := notT (tst (callM m_law_is_own_singer (aC (vN 20) (aC (vN 3) (aC (vN 16) aN)))))) (e := vN 20)
    (ρ := T01 d3 many ss cr x6 (.sh (.int (k : Nat))) (.sh (.int act)) (.sh (bentD many ts)) (.sh b'.d) (.sh (thD many bs)) (.sh (.list (nsD bs))) x17 x18 .no) bs Bs.d Bs.d (fun b => !owB many (nsD bs) b) (seqI_t (op2_ok (vN_ok rfl) cD_ok ith)) rfl (by rw [e_LIM]; omega) fun b hb => by
    exact ⟨T01 d3 many ss cr x6 (.sh (.int (k : Nat))) (.sh (.int act)) (.sh (bentD many ts)) (.sh b'.d) (.sh (thD many bs)) (.sh (.list (nsD bs))) x17 x18 (.sh b.d), rfl, notT_ok (tst_ok (callM_ok (aC_ok (vN_ok rfl) (aC_ok (vN_ok rfl) (aC1 (vN_ok rfl)))) (own_val m2 m4 (hsh b hb) nms))), fun _ => vN_ok rfl, rfl⟩
  have en := eq_nil (ds := (bs.filter fun b => !owB many (nsD bs) b).map Bs.d) (shaped_l fun x hx => by
    obtain ⟨b, hb, rfl⟩ := List.mem_map.mp hx
    exact bs_lay (hsh b ((List.mem_filter.mp hb).1)))
  have ei : ((bs.filter fun b => !owB many (nsD bs) b).map Bs.d).isEmpty = bs.all (owB many (nsD bs)) := by
    rw [List.isEmpty_map]; exact filt_nil _ _
  rw [ei] at en
  rw [seq_nx (asg_set (d := .bool (bs.all (owB many (nsD bs)))) (op2_ok lc (opA_ok (z := .list []) aN_ok rfl) en) (by simp))]
  simp only [List.set_cons_zero, List.set_cons_succ]
  rw [seq_nx (asg_set (goodV hsh (by omega) rfl rfl) (by simp))]
  simp only [List.set_cons_zero, List.set_cons_succ]
  exact ifN_f (tst_ok (op2_ok (callM_ok (aC1 (vN_ok rfl)) tv) (vN_ok rfl) ne))
end G
set_option Elab.async false
set_option linter.all false
set_option maxRecDepth 100000
set_option maxHeartbeats 2000000
namespace G
open PySem DL L2
local instance : DL.TabCtx := ⟨[]⟩
abbrev rfC : PyData := HD.refusedD "BadChoir"
theorem makeX_no {m : List PyData → R Ob} {fs : M (List PyData)} {ρ : Rho} {ds : List PyData} {c : Str} (ha : fs ρ = .ok (ds, ρ)) (hm : m ds = .exc c) : makeX m fs ρ = .exc c := by
  unfold makeX M.bind
  rw [ha]
  show (match m ds with | .exc c => _ | _ => _) = _
  rw [hm]
abbrev B01 (d : Int × Int) (many : Int) (ss : List Sg) (cr x6 lone five cases x10 x11 x12 x13 x14 x15 x16 x17 x18 x19 : Sl) : Rho :=
  [.no, .ow (dcD d), .sh (chD many ss), .sh (.int many), .sh (.tuple (ss.map Sg.d)), cr, x6, lone, five, cases, x10, x11, x12, x13, x14, x15, x16, x17, x18, x19, .no, .no]
theorem bad01 {a : PyData} (h : m_is_choir [a] = .ok (.bool false)) (d : Int × Int) (many : Int) (ss : List Sg) (cr x6 lone five cases x11 x12 x13 x14 x15 x16 x17 x18 x19 : Sl) :
    ∃ y19, b_law_L2 (B01 d many ss cr x6 lone five cases (.sh a) x11 x12 x13 x14 x15 x16 x17 x18 x19) = .nx (B01 d many ss cr x6 lone five cases (.sh a) x11 x12 x13 x14 x15 x16 x17 x18 y19) := by
  have nc : m_need_choir [a] = .exc "BadChoir" := fn_exc rfl rfl (by rw [b_need_choir]; exact if_exc (notT_ok (b := false) (tst_ok (callM_ok (aC1 (vN_ok rfl)) h))))
  have k1 : m_names [a] = .exc "BadChoir" := fn_exc rfl rfl (by rw [b_names]; exact seq_exc (drop_exc (callM_exc (aC1 (vN_ok rfl)) nc)))
  have k2 : m_silence [a] = .exc "BadChoir" := fn_exc rfl rfl (by rw [b_silence]; exact seq_exc (drop_exc (callM_exc (aC1 (vN_ok rfl)) nc)))
  have nb : m_need_both [a, .none] = .exc "BadChoir" := fn_exc rfl rfl (by rw [b_need_both]; exact seq_exc (drop_exc (callM_exc (aC1 (vN_ok rfl)) nc)))
  have k3 : m_song [a, .none, .none] = .exc "BadChoir" := fn_exc rfl rfl (by rw [b_song]; exact seq_exc (drop_exc (callM_exc (aC_ok (vN_ok rfl) (aC1 (vN_ok rfl))) nb)))
  have k4 : m_lean [a] = .exc "BadChoir" := fn_exc rfl rfl (by rw [b_lean]; exact seq_exc (drop_exc (callM_exc (aC1 (vN_ok rfl)) nc)))
  have k5 : m_choir_text [a] = .exc "BadChoir" := fn_exc rfl rfl (by rw [b_choir_text]; exact seq_exc (drop_exc (callM_exc (aC1 (vN_ok rfl)) nc)))
  have k6 : m_Running_init [a, .none] = .exc "BadChoir" := by
    show initR 3 b1_Running_init b2_Running_init [a, .none] = _
    unfold initR
    rw [if_pos (show ([a, PyData.none] : List PyData).length = 2 from rfl)]
    have e : b1_Running_init [.no, .sh a, .sh .none] = .exc "BadChoir" := by rw [b1_Running_init]; exact drop_exc (callM_exc (aC1 (vN_ok rfl)) nc)
    show (match b1_Running_init [.no, .sh a, .sh .none] with | .nx ρ1 => _ | .exc c => _ | _ => _) = _
    rw [e]
  have is : gIsNot (.bool false) (.bool false) = some (.bool false) := rfl
  rw [b_law_L2]
  refine ⟨.ow (.list [rfC, rfC, rfC, rfC, rfC, rfC]), ?_⟩
  rw [seq_nx (own_ok (ds := [rfC]) (aC1 (told_exc (callM_exc (aC1 (vN_ok rfl)) k1))) (by decide))]
  simp only [List.set_cons_zero, List.set_cons_succ]
  rw [seq_nx (app_ok (ds := [rfC]) rfl (told_exc (callM_exc (aC1 (vN_ok rfl)) k2)) rfl (by decide))]
  simp only [List.set_cons_zero, List.set_cons_succ]
  rw [seq_nx (app_ok (ds := [rfC] ++ [rfC]) rfl (told_exc (callM_exc (aC_ok (vN_ok rfl) (aC_ok cD_ok (aC1 cD_ok))) k3)) rfl (by decide))]
  simp only [List.set_cons_zero, List.set_cons_succ]
  rw [seq_nx (app_ok (ds := [rfC] ++ [rfC] ++ [rfC]) rfl (told_exc (callM_exc (aC1 (vN_ok rfl)) k4)) rfl (by decide))]
  simp only [List.set_cons_zero, List.set_cons_succ]
  rw [seq_nx (app_ok (ds := [rfC] ++ [rfC] ++ [rfC] ++ [rfC]) rfl (told_exc (callM_exc (aC1 (vN_ok rfl)) k5)) rfl (by decide))]
  simp only [List.set_cons_zero, List.set_cons_succ]
  rw [seq_nx (app_ok (ds := [rfC] ++ [rfC] ++ [rfC] ++ [rfC] ++ [rfC]) rfl (told_exc (makeX_no (aC_ok (vN_ok rfl) (aC1 cD_ok)) k6)) rfl (by decide))]
  simp only [List.set_cons_zero, List.set_cons_succ]
  have go : ∀ R : Rho, R = demR false (B01 d many ss cr x6 lone five cases (.sh a) x11 x12 x13 x14 x15 x16 x17 x18 (.ow (.list [rfC, rfC, rfC, rfC, rfC, rfC]))) →
      (orT (tst (op2 gIsNot (callM m_is_choir (aC (vN 10) aN)) (cD (.bool false)))) (tst (op2 gNe (vN 19) (op2 gMul (opA gLstD (aC (opA gTupD (aC (cD (.str "refused")) (aC (cD (.str "BadChoir")) aN))) aN)) (cD (.int 6)))))) R = .ok (false, R) := fun R hR => by
    have h10 : R[10]? = some (.sh a) := by rw [hR]; rfl
    have h19 : R[19]? = some (.sh (.list [rfC, rfC, rfC, rfC, rfC, rfC])) := by rw [hR]; rfl
    have gm : gMul (.list [rfC]) (.int 6) = some (.list [rfC, rfC, rfC, rfC, rfC, rfC]) := by kernel_rfl
    have gn : gNe (.list [rfC, rfC, rfC, rfC, rfC, rfC]) (.list [rfC, rfC, rfC, rfC, rfC, rfC]) = some (.bool false) := by kernel_rfl
    exact orT_f (tst_ok (op2_ok (callM_ok (aC1 (vN_ok h10)) h) cD_ok is)) (tst_ok (op2_ok (vN_ok h19) (op2_ok (opA_ok (aC1 (opA_ok (aC_ok cD_ok (aC1 cD_ok)) rfl)) rfl) cD_ok gm) gn))
  exact ifN_f (brwT_ok rfl (go _ rfl) rfl)
end G
set_option Elab.async false
set_option linter.all false
set_option maxRecDepth 100000
set_option maxHeartbeats 2000000
namespace G
open PySem DL L2
local instance : DL.TabCtx := ⟨[]⟩
theorem names01 {many : Int} {ss : List Sg} (h : Good many ss) : m_names [chD many ss] = .ok (.list (ss.map fun s => .str s.name)) := by
  have l4 := h.l4
  refine fn_rt' (ρ0 := [.sh (chD many ss)]) (ρ' := [.sh (chD many ss)]) rfl rfl ?_
  rw [b_names, seq_nx (drop_nx (callM_ok (aC1 (vN_ok rfl)) (need_choir_ok h)))]
  exact ret_ok (callM_ok (aC1 (vN_ok rfl)) (all_names_ok (by rw [e_LIM]; omega)))
theorem mul01 (x : PyData) {k : Nat} (h1 : 1 ≤ k) (hk : k ≤ 1000) : gMul (.tuple [x]) (.int (k : Nat)) = some (.tuple (List.replicate k x)) := by
  have e : gMul (.tuple [x]) (.int (k : Nat)) = if [x] ≠ [] ∧ 1 ≤ ((k : Nat) : Int) ∧ ((k : Nat) : Int) ≤ 1000 ∧ [x].length ≤ 1000 then some (.tuple (List.replicate ((k : Nat) : Int).toNat [x]).flatten) else none := rfl
  rw [e, Int.toNat_natCast, if_pos ⟨by simp, by omega, by omega, by simp⟩]
  have f : ∀ n : Nat, (List.replicate n [x]).flatten = List.replicate n x := fun n => by
    induction n with
    | zero => rfl
    | succ n ih => rw [List.replicate_succ, List.replicate_succ, List.flatten_cons, ih]; rfl
  rw [f]
abbrev hushD : PyData := .tuple [.int 0, .int 0, .int 0]
theorem hush01 {many : Int} {ss : List Sg} (h : Good many ss) : m_silence [chD many ss] = .ok (.tuple (List.replicate ss.length hushD)) := by
  have l1 := h.l1
  have l4 := h.l4
  have i1 : gIx (chD many ss) (.int 1) = some (.tuple (ss.map Sg.d)) := rfl
  have gl : gLen [.tuple (ss.map Sg.d)] = some (.int (ss.length : Nat)) := by rw [e_len_t, List.length_map]
  refine fn_rt' (ρ0 := [.sh (chD many ss)]) (ρ' := [.sh (chD many ss)]) rfl rfl ?_
  rw [b_silence, seq_nx (drop_nx (callM_ok (aC1 (vN_ok rfl)) (need_choir_ok h)))]
  exact ret_ok (op2_ok (opA_ok (aC1 (opA_ok (aC_ok cD_ok (aC_ok cD_ok (aC1 cD_ok))) rfl)) rfl) (opA_ok (aC1 (op2_ok (vN_ok rfl) cD_ok i1)) gl) (mul01 hushD l1 (by omega)))
abbrev loneD : PyData := .tuple [.str "ann", .tuple [], .tuple [.int 0]]
abbrev sD (x : Str) : PyData := .tuple [.str x, .tuple [], .tuple [.int 0]]
abbrev fiveD : PyData := .tuple [sD "sa", sD "sb", sD "sc", sD "sd", sD "se"]
abbrev casesD (ss : List Sg) : List PyData := [.none, .int 5, .tuple [], .tuple [.int 2], .list [.int 2, .tuple (ss.map Sg.d)], .tuple [.int 1, .tuple [loneD]], .tuple [.int 5, .tuple [loneD]], .tuple [.bool true, .tuple [loneD]]]
abbrev cases2D : List PyData := [.tuple [.int 2, .tuple []], .tuple [.int 2, .list [loneD]], .tuple [.int 2, .tuple [loneD, loneD]], .tuple [.int 2, fiveD]]
theorem cases_no (ss : List Sg) : ∀ a ∈ casesD ss ++ cases2D, m_is_choir [a] = .ok (.bool false) := by
  intro a ha
  simp only [List.cons_append, List.nil_append, List.mem_cons, List.not_mem_nil, or_false] at ha
  rcases ha with rfl | rfl | rfl | rfl | rfl | rfl | rfl | rfl | rfl | rfl | rfl | rfl <;> kernel_rfl
theorem k01_main (c : Int) : ∃ ρ', b_law (DL.init law_n law_di c) = .nx ρ' ∧ ρ'.length = law_n := by
  obtain ⟨many, ss, d1, a1, hG, hc, hz⟩ := any_choir_ok (c, 0)
  have l1 := hG.l1
  have l4 := hG.l4
  have l3 : ss.length ≤ 3 := by omega
  have ic := is_choir_ok hG
  have kn := names01 hG
  have ks := hush01 hG
  have kc := lcrew_ok (many := many) (ss := ss) (by rw [e_LIM]; omega)
  have wd : ∀ s ∈ ss, (PyData.str s.name).canLay0 = true := fun s hs => (hG.sg s hs).word.2
  have nn : gNe (.list (ss.map fun s => .str s.name)) (.list (ss.map fun s => .str s.name)) = some (.bool false) := ne_same (k := 1) (.list fun x hx => by
    obtain ⟨s, hs, rfl⟩ := List.mem_map.mp hx
    exact .str (wd s hs))
  have nh : gNe (.tuple (List.replicate ss.length hushD)) (.tuple (List.replicate ss.length hushD)) = some (.bool false) := ne_same (k := 2) (.tuple fun x hx => by
    obtain ⟨_, rfl⟩ := List.mem_replicate.mp hx
    exact .tuple fun y hy => by simp at hy; rw [hy]; exact .int 0)
  have lnc : gLen [.list (ss.map fun s => PyData.str s.name)] = some (.int (ss.length : Nat)) := by rw [e_len_l, List.length_map]
  have mu := mul01 hushD l1 (by omega : ss.length ≤ 1000)
  have itt : gIsNot (.bool true) (.bool true) = some (.bool false) := rfl
  generalize hcr : PyData.list (ss.map fun s => .str s.name) = cr at kc kn nn lnc
  show ∃ ρ', b_law [.no, .ow (dcD (c, 0)), .no, .no, .no, .no, .no, .no, .no, .no, .no, .no, .no, .no, .no, .no, .no, .no, .no, .no, .no, .no] = .nx ρ' ∧ ρ'.length = 22
  rw [b_law]
  refine seq_ex (asg_set (callL_ok (dd := dcD (c, 0)) rfl aN_ok a1) (by simp)) ?_
  simp only [List.set_cons_zero, List.set_cons_succ]
  refine seq_ex (asg_gm (ρ'' := [.no, .ow (dcD d1), .sh (chD many ss), .sh (.int many), .sh (.tuple (ss.map Sg.d)), .no, .no, .no, .no, .no, .no, .no, .no, .no, .no, .no, .no, .no, .no, .no, .no, .no]) (vN_ok rfl) rfl) ?_
  refine seq_ex (asg_set (callM_ok (aC1 (vN_ok rfl)) kc) (by simp)) ?_
  simp only [List.set_cons_zero, List.set_cons_succ]
  refine seq_ex (ifN_f (orT_f (tst_ok (op2_ok (callM_ok (aC1 (vN_ok rfl)) ic) cD_ok itt)) (tst_ok (op2_ok (callM_ok (aC1 (vN_ok rfl)) kn) (vN_ok rfl) nn)))) ?_
  refine seq_ex (ifN_f (tst_ok (op2_ok (callM_ok (aC1 (vN_ok rfl)) ks) (op2_ok (opA_ok (aC1 (opA_ok (aC_ok cD_ok (aC_ok cD_ok (aC1 cD_ok))) rfl)) rfl) (opA_ok (aC1 (vN_ok rfl)) lnc) mu) nh))) ?_
  obtain ⟨ρe, he, d', x6, y11, y12, y13, y14, y15, y16, y17, y18, ex⟩ := loop_inv (g := setS 6) (fb := b_law_L1) (ds := rangeD 0 10) (fun _ ρ => ∃ d x6 x11 x12 x13 x14 x15 x16 x17 x18, ρ = T01 d many ss cr x6 x11 x12 x13 x14 x15 x16 x17 x18 .no) (fun i dd ρ hd hI => by
    obtain ⟨d, x6, x11, x12, x13, x14, x15, x16, x17, x18, rfl⟩ := hI
    obtain ⟨d', y11, y12, y13, y14, y15, y16, y17, y18, e⟩ := turn01 hG hc l3 d cr (.sh dd) x11 x12 x13 x14 x15 x16 x17 x18
    exact ⟨_, _, rfl, e, d', .sh dd, y11, y12, y13, y14, y15, y16, y17, y18, rfl⟩) (ρ := T01 d1 many ss cr .no .no .no .no .no .no .no .no .no .no) ⟨d1, .no, .no, .no, .no, .no, .no, .no, .no, .no, rfl⟩
  subst ex
  have rg : rg1 [.int 10] = some (rangeD 0 10) := e_rg1 (n := 10) (by omega)
  refine seq_ex ((for_ok (opI_ok (aC1 cD_ok) rg)).trans he) ?_
  refine seq_ex (asg_set (d := loneD) (opA_ok (aC_ok cD_ok (aC_ok (opA_ok aN_ok rfl) (aC1 (opA_ok (aC1 cD_ok) rfl)))) rfl) (by simp)) ?_
  simp only [List.set_cons_zero, List.set_cons_succ]
  have f5 : (opA gTuple (aC (lcM [21] (seqI (cD (.str "abcde"))) (setS 21) yesT (opA gTupD (aC (op2 gAdd (cD (.str "s")) (vN 21)) (aC (opA gTupD aN) (aC (opA gTupD (aC (cD (.int 0)) aN)) aN))))) aN)) (B01 d' many ss (.sh cr) x6 (.sh loneD) .no .no .no y11 y12 y13 y14 y15 y16 y17 y18 .no) = .ok (fiveD, B01 d' many ss (.sh cr) x6 (.sh loneD) .no .no .no y11 y12 y13 y14 y15 y16 y17 y18 .no) := by kernel_rfl
  refine seq_ex (asg_set f5 (by simp)) ?_
  simp only [List.set_cons_zero, List.set_cons_succ]
  have f9 : (opA gLstD (aC (cD .none) (aC (cD (.int 5)) (aC (opA gTupD aN) (aC (opA gTupD (aC (cD (.int 2)) aN)) (aC (opA gLstD (aC (cD (.int 2)) (aC (vN 4) aN))) (aC (opA gTupD (aC (cD (.int 1)) (aC (opA gTupD (aC (vN 7) aN)) aN))) (aC (opA gTupD (aC (cD (.int 5)) (aC (opA gTupD (aC (vN 7) aN)) aN))) (aC (opA gTupD (aC (cD (.bool true)) (aC (opA gTupD (aC (vN 7) aN)) aN))) aN))))))))) (B01 d' many ss (.sh cr) x6 (.sh loneD) (.sh fiveD) .no .no y11 y12 y13 y14 y15 y16 y17 y18 .no) = .ok (.list (casesD ss), B01 d' many ss (.sh cr) x6 (.sh loneD) (.sh fiveD) .no .no y11 y12 y13 y14 y15 y16 y17 y18 .no) := by kernel_rfl
  refine seq_ex (asg_set f9 (by simp)) ?_
  simp only [List.set_cons_zero, List.set_cons_succ]
  have f10 : (op2 gAdd (vN 9) (opA gLstD (aC (opA gTupD (aC (cD (.int 2)) (aC (opA gTupD aN) aN))) (aC (opA gTupD (aC (cD (.int 2)) (aC (opA gLstD (aC (vN 7) aN)) aN))) (aC (opA gTupD (aC (cD (.int 2)) (aC (opA gTupD (aC (vN 7) (aC (vN 7) aN))) aN))) (aC (opA gTupD (aC (cD (.int 2)) (aC (vN 8) aN))) aN)))))) (B01 d' many ss (.sh cr) x6 (.sh loneD) (.sh fiveD) (.sh (.list (casesD ss))) .no y11 y12 y13 y14 y15 y16 y17 y18 .no) = .ok (.list (casesD ss ++ cases2D), B01 d' many ss (.sh cr) x6 (.sh loneD) (.sh fiveD) (.sh (.list (casesD ss))) .no y11 y12 y13 y14 y15 y16 y17 y18 .no) := by kernel_rfl
  refine seq_ex (asg_set f10 (by simp)) ?_
  simp only [List.set_cons_zero, List.set_cons_succ]
  obtain ⟨ρe, he2, x10, y19, ex⟩ := loop_inv (g := setS 10) (fb := b_law_L2) (ds := casesD ss ++ cases2D) (fun _ ρ => ∃ x10 x19, ρ = B01 d' many ss (.sh cr) x6 (.sh loneD) (.sh fiveD) (.sh (.list (casesD ss ++ cases2D))) x10 y11 y12 y13 y14 y15 y16 y17 y18 x19) (fun i a ρ ha hI => by
    obtain ⟨x10, x19, rfl⟩ := hI
    obtain ⟨y19, e⟩ := bad01 (cases_no ss a (List.mem_of_getElem? ha)) d' many ss (.sh cr) x6 (.sh loneD) (.sh fiveD) (.sh (.list (casesD ss ++ cases2D))) y11 y12 y13 y14 y15 y16 y17 y18 x19
    exact ⟨_, _, rfl, e, .sh a, y19, rfl⟩) (ρ := B01 d' many ss (.sh cr) x6 (.sh loneD) (.sh fiveD) (.sh (.list (casesD ss ++ cases2D))) .no y11 y12 y13 y14 y15 y16 y17 y18 .no) ⟨.no, .no, rfl⟩
  subst ex
  refine seq_ex ((for_ok (seqI_l (vN_ok rfl))).trans he2) ?_
  have c4 : gCut none (some 4) fiveD = some (.tuple [sD "sa", sD "sb", sD "sc", sD "sd"]) := by kernel_rfl
  have g4 : m_is_choir [.tuple [.int 4, .tuple [sD "sa", sD "sb", sD "sc", sD "sd"]]] = .ok (.bool true) := by kernel_rfl
  have g1 : m_is_choir [.tuple [.int 2, .tuple [loneD]]] = .ok (.bool true) := by kernel_rfl
  exact one_ex (ifN_f (orT_f (tst_ok (op2_ok (callM_ok (aC1 (opA_ok (aC_ok cD_ok (aC1 (slc_ok (vN_ok rfl) noPrt_ok (prt_ok cD_ok) c4))) rfl)) g4) cD_ok itt)) (tst_ok (op2_ok (callM_ok (aC1 (opA_ok (aC_ok cD_ok (aC1 (opA_ok (aC1 (vN_ok rfl)) rfl))) rfl)) g1) cD_ok itt)))) rfl
end G
namespace Law
theorem main : ∀ c : Int, ∃ ρ', G.b_law (DL.init G.law_n G.law_di c) = .nx ρ' ∧ ρ'.length = G.law_n := G.k01_main
end Law
set_option maxHeartbeats 0
namespace Head
open PySem PySem.Spec PyProof.Rows L2 DL G
theorem facts {K : PySem.W.Frag} {h : Heap} {mg : Str → Option Value} (X : K.In h) (G : h.Ns mainGlobals mg) (c : He.SaysD fa fn K) : Tx K mg where
  f_wall := c.def_ 0 (d := d_wall) rfl
  g_wall := He.glo_ok X G (c.fact 0 (f := .glo "_wall") rfl)
  f_is_whole := c.def_ 1 (d := d_is_whole) rfl
  g_is_whole := He.glo_ok X G (c.fact 1 (f := .glo "is_whole") rfl)
  f_is_word := c.def_ 2 (d := d_is_word) rfl
  g_is_word := He.glo_ok X G (c.fact 2 (f := .glo "is_word") rfl)
  f_rise := c.def_ 3 (d := d_rise) rfl
  g_rise := He.glo_ok X G (c.fact 3 (f := .glo "rise") rfl)
  f_are_lines := c.def_ 4 (d := d_are_lines) rfl
  g_are_lines := He.glo_ok X G (c.fact 4 (f := .glo "are_lines") rfl)
  f_is_ear := c.def_ 5 (d := d_is_ear) rfl
  g_is_ear := He.glo_ok X G (c.fact 5 (f := .glo "is_ear") rfl)
  f_are_ears := c.def_ 6 (d := d_are_ears) rfl
  g_are_ears := He.glo_ok X G (c.fact 6 (f := .glo "are_ears") rfl)
  f_places_for := c.def_ 7 (d := d_places_for) rfl
  g_places_for := He.glo_ok X G (c.fact 7 (f := .glo "places_for") rfl)
  f_is_singer := c.def_ 8 (d := d_is_singer) rfl
  g_is_singer := He.glo_ok X G (c.fact 8 (f := .glo "is_singer") rfl)
  f_is_choir := c.def_ 9 (d := d_is_choir) rfl
  g_is_choir := He.glo_ok X G (c.fact 9 (f := .glo "is_choir") rfl)
  f_need_choir := c.def_ 10 (d := d_need_choir) rfl
  g_need_choir := He.glo_ok X G (c.fact 10 (f := .glo "need_choir") rfl)
  f_all_names := c.def_ 11 (d := d_all_names) rfl
  g_all_names := He.glo_ok X G (c.fact 11 (f := .glo "all_names") rfl)
  f_names := c.def_ 12 (d := d_names) rfl
  g_names := He.glo_ok X G (c.fact 12 (f := .glo "names") rfl)
  f_silence := c.def_ 13 (d := d_silence) rfl
  g_silence := He.glo_ok X G (c.fact 13 (f := .glo "silence") rfl)
  f_is_good_standing := c.def_ 14 (d := d_is_good_standing) rfl
  g_is_good_standing := He.glo_ok X G (c.fact 14 (f := .glo "is_good_standing") rfl)
  f_need_standing := c.def_ 15 (d := d_need_standing) rfl
  g_need_standing := He.glo_ok X G (c.fact 15 (f := .glo "need_standing") rfl)
  f_number_of := c.def_ 16 (d := d_number_of) rfl
  g_number_of := He.glo_ok X G (c.fact 16 (f := .glo "number_of") rfl)
  f_heard_by := c.def_ 17 (d := d_heard_by) rfl
  g_heard_by := He.glo_ok X G (c.fact 17 (f := .glo "heard_by") rfl)
  f_place_of := c.def_ 18 (d := d_place_of) rfl
  g_place_of := He.glo_ok X G (c.fact 18 (f := .glo "place_of") rfl)
  f_table_line := c.def_ 19 (d := d_table_line) rfl
  g_table_line := He.glo_ok X G (c.fact 19 (f := .glo "table_line") rfl)
  f_all_next := c.def_ 20 (d := d_all_next) rfl
  g_all_next := He.glo_ok X G (c.fact 20 (f := .glo "all_next") rfl)
  f_behind := c.def_ 21 (d := d_behind) rfl
  g_behind := He.glo_ok X G (c.fact 21 (f := .glo "behind") rfl)
  f_on := c.def_ 22 (d := d_on) rfl
  g_on := He.glo_ok X G (c.fact 22 (f := .glo "on") rfl)
  f_do_count := c.def_ 23 (d := d_do_count) rfl
  g_do_count := He.glo_ok X G (c.fact 23 (f := .glo "do_count") rfl)
  f_ears_that_count := c.def_ 24 (d := d_ears_that_count) rfl
  g_ears_that_count := He.glo_ok X G (c.fact 24 (f := .glo "ears_that_count") rfl)
  f_lean_singer := c.def_ 25 (d := d_lean_singer) rfl
  g_lean_singer := He.glo_ok X G (c.fact 25 (f := .glo "lean_singer") rfl)
  f_leaned := c.def_ 26 (d := d_leaned) rfl
  g_leaned := He.glo_ok X G (c.fact 26 (f := .glo "leaned") rfl)
  f_lean := c.def_ 27 (d := d_lean) rfl
  g_lean := He.glo_ok X G (c.fact 27 (f := .glo "lean") rfl)
  f_need_both := c.def_ 28 (d := d_need_both) rfl
  g_need_both := He.glo_ok X G (c.fact 28 (f := .glo "need_both") rfl)
  f_need_beats := c.def_ 29 (d := d_need_beats) rfl
  g_need_beats := He.glo_ok X G (c.fact 29 (f := .glo "need_beats") rfl)
  f_rows_of := c.def_ 30 (d := d_rows_of) rfl
  g_rows_of := He.glo_ok X G (c.fact 30 (f := .glo "rows_of") rfl)
  f_song := c.def_ 31 (d := d_song) rfl
  g_song := He.glo_ok X G (c.fact 31 (f := .glo "song") rfl)
  f_singer_text := c.def_ 32 (d := d_singer_text) rfl
  g_singer_text := He.glo_ok X G (c.fact 32 (f := .glo "singer_text") rfl)
  f_choir_text := c.def_ 33 (d := d_choir_text) rfl
  g_choir_text := He.glo_ok X G (c.fact 33 (f := .glo "choir_text") rfl)
  f_law_cell := c.def_ 34 (d := d_law_cell) rfl
  g_law_cell := He.glo_ok X G (c.fact 34 (f := .glo "_law_cell") rfl)
  f_law_drawn := c.def_ 35 (d := d_law_drawn) rfl
  g_law_drawn := He.glo_ok X G (c.fact 35 (f := .glo "_law_drawn") rfl)
  f_law_roll := c.def_ 36 (d := d_law_roll) rfl
  g_law_roll := He.glo_ok X G (c.fact 36 (f := .glo "_law_roll") rfl)
  f_law_rounds := c.def_ 37 (d := d_law_rounds) rfl
  g_law_rounds := He.glo_ok X G (c.fact 37 (f := .glo "_law_rounds") rfl)
  f_law_term := c.def_ 38 (d := d_law_term) rfl
  g_law_term := He.glo_ok X G (c.fact 38 (f := .glo "_law_term") rfl)
  f_law_told := c.def_ 39 (d := d_law_told) rfl
  g_law_told := He.glo_ok X G (c.fact 39 (f := .glo "_law_told") rfl)
  f_law_any_singers := c.def_ 40 (d := d_law_any_singers) rfl
  g_law_any_singers := He.glo_ok X G (c.fact 40 (f := .glo "_law_any_singers") rfl)
  f_law_any_choir := c.def_ 41 (d := d_law_any_choir) rfl
  g_law_any_choir := He.glo_ok X G (c.fact 41 (f := .glo "_law_any_choir") rfl)
  f_law_crew := c.def_ 42 (d := d_law_crew) rfl
  g_law_crew := He.glo_ok X G (c.fact 42 (f := .glo "_law_crew") rfl)
  f_law_is_word := c.def_ 43 (d := d_law_is_word) rfl
  g_law_is_word := He.glo_ok X G (c.fact 43 (f := .glo "_law_is_word") rfl)
  f_law_is_number := c.def_ 44 (d := d_law_is_number) rfl
  g_law_is_number := He.glo_ok X G (c.fact 44 (f := .glo "_law_is_number") rfl)
  f_law_is_own_singer := c.def_ 45 (d := d_law_is_own_singer) rfl
  g_law_is_own_singer := He.glo_ok X G (c.fact 45 (f := .glo "_law_is_own_singer") rfl)
  f_law := c.def_ 46 (d := d_law) rfl
  g_law := He.glo_ok X G (c.fact 46 (f := .glo "law") rfl)
  f_Running_init := c.def_ 47 (d := d_Running_init) rfl
  f_Running_len := c.def_ 48 (d := d_Running_len) rfl
  f_Running_remember := c.def_ 49 (d := d_Running_remember) rfl
  f_Running_need_leads := c.def_ 50 (d := d_Running_need_leads) rfl
  f_Running_sing := c.def_ 51 (d := d_Running_sing) rfl
  f_Running_beat := c.def_ 52 (d := d_Running_beat) rfl
  f_Running_run := c.def_ 53 (d := d_Running_run) rfl
  f_Running_replace := c.def_ 54 (d := d_Running_replace) rfl
  f_Running_lines := c.def_ 55 (d := d_Running_lines) rfl
  f_Running_standing := c.def_ 56 (d := d_Running_standing) rfl
  f_Running_choir := c.def_ 57 (d := d_Running_choir) rfl
  f_Running_undo := c.def_ 58 (d := d_Running_undo) rfl
  lk := He.meth_ok (c.fact 91 (f := .meth "Running" "__len__") rfl)
  rk := ⟨He.cls_ok (c.fact 92 (f := .cls "Running") rfl), fun x hx => by
    simp only [obNames, List.mem_cons, List.not_mem_nil, or_false] at hx
    rcases hx with rfl | rfl | rfl | rfl | rfl | rfl
    · exact He.noat_ok (c.fact 94 (f := .noat "Running" "first") rfl)
    · exact He.noat_ok (c.fact 95 (f := .noat "Running" "crew") rfl)
    · exact He.noat_ok (c.fact 96 (f := .noat "Running" "stand") rfl)
    · exact He.noat_ok (c.fact 97 (f := .noat "Running" "sung") rfl)
    · exact He.noat_ok (c.fact 98 (f := .noat "Running" "deeds") rfl)
    · exact He.noat_ok (c.fact 99 (f := .noat "Running" "past") rfl), He.mkr_ok (c.fact 93 (f := .mkr "Running") rfl), fun x hx => by
    simp only [metNames, List.mem_cons, List.not_mem_nil, or_false] at hx
    rcases hx with rfl | rfl | rfl | rfl | rfl | rfl | rfl | rfl | rfl | rfl
    · exact He.meth_ok (c.fact 100 (f := .meth "Running" "remember") rfl)
    · exact He.meth_ok (c.fact 101 (f := .meth "Running" "need_leads") rfl)
    · exact He.meth_ok (c.fact 102 (f := .meth "Running" "sing") rfl)
    · exact He.meth_ok (c.fact 103 (f := .meth "Running" "beat") rfl)
    · exact He.meth_ok (c.fact 104 (f := .meth "Running" "run") rfl)
    · exact He.meth_ok (c.fact 105 (f := .meth "Running" "replace") rfl)
    · exact He.meth_ok (c.fact 106 (f := .meth "Running" "lines") rfl)
    · exact He.meth_ok (c.fact 107 (f := .meth "Running" "standing") rfl)
    · exact He.meth_ok (c.fact 108 (f := .meth "Running" "choir") rfl)
    · exact He.meth_ok (c.fact 109 (f := .meth "Running" "undo") rfl)⟩
  k_Clash := He.glo_ok X G (c.fact 55 (f := .glo "Clash") rfl)
  k_Running := He.glo_ok X G (c.fact 59 (f := .glo "Running") rfl)
  x_SongError := ⟨He.glo_ok X G (c.fact 47 (f := .glo "SongError") rfl), He.exc_ok (c.fact 60 (f := .exc "SongError") rfl)⟩
  x_BadChoir := ⟨He.glo_ok X G (c.fact 48 (f := .glo "BadChoir") rfl), He.exc_ok (c.fact 61 (f := .exc "BadChoir") rfl)⟩
  x_BadName := ⟨He.glo_ok X G (c.fact 49 (f := .glo "BadName") rfl), He.exc_ok (c.fact 62 (f := .exc "BadName") rfl)⟩
  x_BadStanding := ⟨He.glo_ok X G (c.fact 50 (f := .glo "BadStanding") rfl), He.exc_ok (c.fact 63 (f := .exc "BadStanding") rfl)⟩
  x_BadNumber := ⟨He.glo_ok X G (c.fact 51 (f := .glo "BadNumber") rfl), He.exc_ok (c.fact 64 (f := .exc "BadNumber") rfl)⟩
  x_BadRows := ⟨He.glo_ok X G (c.fact 52 (f := .glo "BadRows") rfl), He.exc_ok (c.fact 65 (f := .exc "BadRows") rfl)⟩
  x_BadLead := ⟨He.glo_ok X G (c.fact 53 (f := .glo "BadLead") rfl), He.exc_ok (c.fact 66 (f := .exc "BadLead") rfl)⟩
  x_BadWish := ⟨He.glo_ok X G (c.fact 54 (f := .glo "BadWish") rfl), He.exc_ok (c.fact 67 (f := .exc "BadWish") rfl)⟩
  x_Nothing := ⟨He.glo_ok X G (c.fact 56 (f := .glo "Nothing") rfl), He.exc_ok (c.fact 68 (f := .exc "Nothing") rfl)⟩
  x_Full := ⟨He.glo_ok X G (c.fact 57 (f := .glo "Full") rfl), He.exc_ok (c.fact 69 (f := .exc "Full") rfl)⟩
  x_BadText := ⟨He.glo_ok X G (c.fact 58 (f := .glo "BadText") rfl), He.exc_ok (c.fact 70 (f := .exc "BadText") rfl)⟩
  c_SMALL := He.str_ok X G (c.fact 71 (f := .str "SMALL" "abcdefghijklmnopqrstuvwxyz") rfl)
  c_LONGEST := He.int_ok X G (c.fact 72 (f := .int "LONGEST" 500) rfl)
  z_ValueError := He.free_ok X G (c.fact 73 (f := .free "ValueError") rfl)
  z_all := He.free_ok X G (c.fact 74 (f := .free "all") rfl)
  z_bool := He.free_ok X G (c.fact 75 (f := .free "bool") rfl)
  z_dict := He.free_ok X G (c.fact 76 (f := .free "dict") rfl)
  z_enumerate := He.free_ok X G (c.fact 77 (f := .free "enumerate") rfl)
  z_int := He.free_ok X G (c.fact 78 (f := .free "int") rfl)
  z_isinstance := He.free_ok X G (c.fact 79 (f := .free "isinstance") rfl)
  z_len := He.free_ok X G (c.fact 80 (f := .free "len") rfl)
  z_list := He.free_ok X G (c.fact 81 (f := .free "list") rfl)
  z_max := He.free_ok X G (c.fact 82 (f := .free "max") rfl)
  z_min := He.free_ok X G (c.fact 83 (f := .free "min") rfl)
  z_range := He.free_ok X G (c.fact 84 (f := .free "range") rfl)
  z_set := He.free_ok X G (c.fact 85 (f := .free "set") rfl)
  z_sorted := He.free_ok X G (c.fact 86 (f := .free "sorted") rfl)
  z_str := He.free_ok X G (c.fact 87 (f := .free "str") rfl)
  z_sum := He.free_ok X G (c.fact 88 (f := .free "sum") rfl)
  z_tuple := He.free_ok X G (c.fact 89 (f := .free "tuple") rfl)
  z_zip := He.free_ok X G (c.fact 90 (f := .free "zip") rfl)
end Head
open PySem PySem.W PySem.Calls PyProof.Rows
theorem PySem.Challenge.cw_hearsong_k01_whole_choirs_holds : PySem.Challenge.rw_hearsong_k01_whole_choirs.Holds := by
  w_on; o_law
  refine HandSHeadRun.head_any (r := OpenLaw.row PySem.Challenge.rw_hearsong_k01_whole_choirs) (q := view (OpenLaw.row PySem.Challenge.rw_hearsong_k01_whole_choirs).prog [68]) (H := Head.hk) (ob := Head.ob) (M := 9000) (loose := Head.loose) (d := HandSHeadRun.topDef (OpenLaw.row PySem.Challenge.rw_hearsong_k01_whole_choirs).prog 68) (kwd := []) Head.ob_eq
    (by kernel_rfl) (fun s => by kernel_rfl) Head.run (by kernel_rfl) (by kernel_rfl) (by kernel_rfl) (by kernel_rfl) (by first | assumption | decide +kernel) (by decide +kernel) ⟨by kernel_rfl, by kernel_rfl, by kernel_rfl, by kernel_rfl, by kernel_rfl, by decide +kernel⟩ ?hw ?hc
  case hw => w_witness2
  case hc =>
    refine LamX.walk_ofTsE (l := PySem.Challenge.rw_hearsong_k01_whole_choirs) (n := 63) (k := 11) (x := "script") (CX := fun w => L2N.CX (PySem.Challenge.rw_hearsong_k01_whole_choirs).prog w) rfl (by decide) (by kernel_rfl) ⟨rfl, by decide, by decide⟩ ?F (fun _ _ _ _ _ z => HD.cx_no z)
    intro w mg fa h Y Gn hmg0
    obtain ⟨K, KX, c, LS, ex⟩ := Y
    have hmg : mg ("law" : PySem.Str) = some (.ref fa) := by
      have e : (HandSHeadRun.topDef (OpenLaw.row PySem.Challenge.rw_hearsong_k01_whole_choirs).prog 68).name = ("law" : PySem.Str) := by kernel_rfl
      rw [← e]
      exact hmg0
    have T := Head.facts KX Gn c
    have e := hmg.symm.trans T.g_law
    cases e
    letI : DL.TabCtx := HD.ctxL K G.lams
    obtain ⟨fd, hF, hb⟩ := G.ok_law (P := (PySem.Challenge.rw_hearsong_k01_whole_choirs).prog) (w := w) T (ex rfl) Law.main
    exact ⟨K, KX, fd, HD.codesL K G.lams, DL.spLaw ⟨K, w⟩, fun p hp => (LS.tab p hp).1, fun p hp => (LS.tab p hp).2.1, fun p hp => (LS.tab p hp).2.2, hb, fun H a ns hl _ hH hS => ⟨HD.tabs_start hH, a, ns, rfl, hS, hl, fun _ => rfl⟩, fun base _ _ TB => hF base (HD.lamKs LS TB)⟩
