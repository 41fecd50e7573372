import PyProof.Rows.All
import HandS.ForMost
import HandS.Exc
import HandS.ExcCtx
import HandS.HotCalls
import HandS.Lambda
import HandS.EndTab
import HandS.TryOnly
import HandS.ExcOwn
import HandS.WordsExc
import HandS.IsInst
import HandS.Deep
import HandS.TupAny
import HandS.TupMul
import HandS.TupLe
import HandS.Zip
import HandS.Style
import HandS.Wide
import HandS.HeadHook1
import HandS.HeadHook2
import KE.KDictKeyed
import HandS.SortRule
import KE.GoesEnum
import HandS.SetFor
import HandS.Ends
import HandS.HeadEnd
import HandS.Conv
import PyProof.DictDisplay
import HandS.Hot
import PyProof.Rows.SumAny
import HandS.ExcIs
import HandS.HeadWalk
import KE.GoesMore
import KE.KDictZip
import KE.KDictDisplayH
import KE.KDictPairs
import HandS.DictComp
import KE.SortData
import KE.KDictCopyH
import KE.KDictSum
import KE.KTupSum
import KE.DataMinMax
import PyProof.Rows.CallKwBuiltin
import KE.GoesRaise
import HandS.Text
import HandS.FStr
import KE.DataMinKey
import KE.DataFind
import HandS.Strs
import Wide.All
import OpenK.AllK
import Wide.FinOn
import KE.KStateDown
import HandS.Base
import HandS.Call
import HandS.More
import HandS.Words
import HandS.Defaults
import HandS.Head0
import HandS.Head1
import HandS.Head2
import PySem.Challenge.RW_hearsong_k17_whole_beginnings
set_option Elab.async false
set_option linter.all false
set_option maxRecDepth 100000
set_option maxHeartbeats 1000000
namespace DL
open PySem PySem.Spec PyProof.Rows L2
abbrev St := L2.St
/-- the text's frame and the world -/
structure KW where
  k : PySem.W.Frag
  w : World
instance : Coe KW PySem.W.Frag := ⟨KW.k⟩
abbrev _root_.L2.Cx.kw (X : Cx) : KW := ⟨X.K, X.w⟩
mutual
def nkey : PyData → Option NestedKey
  | .none => some .none
  | .bool b => some (.num (if b = true then 1 else 0))
  | .int i => some (.num i)
  | .str x => some (.text x)
  | .tuple ds => (nkeys ds).map .tup
  | .list _ => none
  | .dict _ => none
def nkeys : List PyData → Option (List NestedKey)
  | [] => some []
  | d :: ds => (nkey d).bind fun k => (nkeys ds).map fun ks => k :: ks
end
/-- at a stands an exact dict of the entries xs: key, the key's address, value -/
def XOk (w : World) (a : Addr) (xs : List (NestedKey × Addr × L2.V)) (ep : Nat) (h : Heap) : Prop := xs.length ≤ sizeLine ∧ (a == sysModules) = false ∧ (xs.map (·.1)).Nodup ∧ ∃ (us : List (NestedKey × Addr × Value)) (o : Obj) (es : Array DictEntry),
  Paired (fun (x : NestedKey × Addr × L2.V) (u : NestedKey × Addr × Value) => x.1 = u.1 ∧ x.2.1 = u.2.1 ∧ RelV x.2.2 u.2.2) xs us ∧ h.get? a = some o ∧ o.ExactDict ∧ o.data = .dict es ep ∧ es.toList = us.map fun u => ⟨u.1.hash w, .ref u.2.1, u.2.2⟩
def dX (w : World) (a : Addr) (xs : List (NestedKey × Addr × L2.V)) (ep : Nat) : HO := .ext (XOk w a xs ep)
def keyD : Key → PyData
  | .inl i => .int i
  | .inr x => .str x
mutual
inductive Rep (K : KW) (H : Hp) : V → PyData → Prop
  | non : Rep K H .non .none
  | bl (b : Bool) : Rep K H (.bl b) (.bool b)
  | int (i : Int) : Rep K H (.int i) (.int i)
  | str (x : Str) : Rep K H (.str x) (.str x)
  | lst {a : Addr} {xs : List V} {ds : List PyData} : H a = some (.lst xs) → RepL K H xs ds → Rep K H (.ref a) (.list ds)
  | tup {a : Addr} {xs : List V} {ds : List PyData} : H a = some (.tup xs) → RepL K H xs ds → Rep K H (.ref a) (.tuple ds)
  | dk {a : Addr} {kvs : List (Key × V)} {ps : List (PyData × PyData)} : H a = some (.dK kvs) → RepK K H kvs ps → ps ≠ [] → Rep K H (.ref a) (.dict ps)
  | dt {a : Addr} {xs : List (NestedKey × Addr × V)} {ep : Nat} {ps : List (PyData × PyData)} : H a = some (dX K.w a xs ep) → RepT K H xs ps → Rep K H (.ref a) (.dict ps)
inductive RepL (K : KW) (H : Hp) : List V → List PyData → Prop
  | nil : RepL K H [] []
  | cons {v : V} {vs : List V} {d : PyData} {ds : List PyData} : Rep K H v d → RepL K H vs ds → RepL K H (v :: vs) (d :: ds)
inductive RepK (K : KW) (H : Hp) : List (Key × V) → List (PyData × PyData) → Prop
  | nil : RepK K H [] []
  | cons {k : Key} {v : V} {kvs : List (Key × V)} {d : PyData} {ps : List (PyData × PyData)} : Rep K H v d → RepK K H kvs ps → RepK K H ((k, v) :: kvs) ((keyD k, d) :: ps)
inductive RepT (K : KW) (H : Hp) : List (NestedKey × Addr × V) → List (PyData × PyData) → Prop
  | nil : RepT K H [] []
  | cons {k : NestedKey} {b : Addr} {v : V} {xs : List (NestedKey × Addr × V)} {dk d : PyData} {ps : List (PyData × PyData)} : Rep K H (.ref b) dk → nkey dk = some k → k.depth ≤ 8 → Rep K H v d → RepT K H xs ps → RepT K H ((k, b, v) :: xs) ((dk, d) :: ps)
end
theorem sqt {K : PySem.W.Frag} {V H : Hp} {a : Addr} {xs : List L2.V} (e : Same V H) (h : V a = some (.tup xs)) : SqT K H a xs := .inl (.inl (e _ _ h))
mutual
theorem Rep.mono {K : KW} {H H' : Hp} (e : Same H H') : ∀ {v : V} {d : PyData}, Rep K H v d → Rep K H' v d
  | _, _, .non => .non
  | _, _, .bl b => .bl b
  | _, _, .int i => .int i
  | _, _, .str x => .str x
  | _, _, .lst h r => .lst (e _ _ h) (RepL.mono e r)
  | _, _, .tup h r => .tup (e _ _ h) (RepL.mono e r)
  | _, _, .dk h r n => .dk (e _ _ h) (RepK.mono e r) n
  | _, _, .dt h r => .dt (e _ _ h) (RepT.mono e r)
theorem RepL.mono {K : KW} {H H' : Hp} (e : Same H H') : ∀ {vs : List V} {ds : List PyData}, RepL K H vs ds → RepL K H' vs ds
  | _, _, .nil => .nil
  | _, _, .cons r t => .cons (Rep.mono e r) (RepL.mono e t)
theorem RepK.mono {K : KW} {H H' : Hp} (e : Same H H') : ∀ {vs : List (Key × V)} {ds : List (PyData × PyData)}, RepK K H vs ds → RepK K H' vs ds
  | _, _, .nil => .nil
  | _, _, .cons r t => .cons (Rep.mono e r) (RepK.mono e t)
theorem RepT.mono {K : KW} {H H' : Hp} (e : Same H H') : ∀ {vs : List (NestedKey × Addr × V)} {ds : List (PyData × PyData)}, RepT K H vs ds → RepT K H' vs ds
  | _, _, .nil => .nil
  | _, _, .cons q n z r t => .cons (Rep.mono e q) n z (Rep.mono e r) (RepT.mono e t)
end
theorem RepL.length {K : KW} {H : Hp} : ∀ {vs : List V} {ds : List PyData}, RepL K H vs ds → vs.length = ds.length
  | _, _, .nil => rfl
  | _, _, .cons _ t => by simp [RepL.length t]
theorem RepL.get {K : KW} {H : Hp} : ∀ {vs : List V} {ds : List PyData} (i : Nat) {d : PyData}, RepL K H vs ds → ds[i]? = some d → ∃ v, vs[i]? = some v ∧ Rep K H v d
  | _, _, _, _, .nil, h => by simp at h
  | _, _, 0, _, .cons r t, h => by simp at h; subst h; exact ⟨_, rfl, r⟩
  | _, _, i + 1, _, .cons r t, h => by
    obtain ⟨v, h1, h2⟩ := RepL.get i t (by simpa using h)
    exact ⟨v, by simpa using h1, h2⟩
theorem RepL.append {K : KW} {H : Hp} : ∀ {vs us : List V} {ds es : List PyData}, RepL K H vs ds → RepL K H us es → RepL K H (vs ++ us) (ds ++ es)
  | _, _, _, _, .nil, h => h
  | _, _, _, _, .cons r t, h => .cons r (RepL.append t h)
theorem RepL.drop {K : KW} {H : Hp} : ∀ (n : Nat) {vs : List V} {ds : List PyData}, RepL K H vs ds → RepL K H (vs.drop n) (ds.drop n)
  | 0, _, _, h => h
  | _ + 1, _, _, .nil => .nil
  | n + 1, _, _, .cons _ t => RepL.drop n t
theorem RepL.take {K : KW} {H : Hp} : ∀ (n : Nat) {vs : List V} {ds : List PyData}, RepL K H vs ds → RepL K H (vs.take n) (ds.take n)
  | 0, _, _, _ => .nil
  | _ + 1, _, _, .nil => .nil
  | n + 1, _, _, .cons r t => .cons r (RepL.take n t)
theorem RepL.set {K : KW} {H : Hp} {v : V} {d : PyData} (r : Rep K H v d) : ∀ (i : Nat) {vs : List V} {ds : List PyData}, RepL K H vs ds → RepL K H (vs.set i v) (ds.set i d)
  | _, _, _, .nil => .nil
  | 0, _, _, .cons _ t => .cons r t
  | i + 1, _, _, .cons q t => .cons q (RepL.set r i t)
theorem RepL.rep {K : KW} {H : Hp} {vs : List V} {ds : List PyData} (h : RepL K H vs ds) : ∀ n : Nat, RepL K H (List.replicate n vs).flatten (List.replicate n ds).flatten
  | 0 => .nil
  | n + 1 => by
    rw [List.replicate_succ, List.replicate_succ]
    exact h.append (h.rep n)
mutual
def imm : PyData → Bool
  | .none => true
  | .bool _ => true
  | .int _ => true
  | .str _ => true
  | .tuple ds => immL ds
  | .list _ => false
  | .dict _ => false
def immL : List PyData → Bool
  | [] => true
  | d :: ds => imm d && immL ds
end
/-- every tuple of H stands in H' -/
def SameT (H H' : Hp) : Prop := (∀ b xs, H b = some (.tup xs) → H' b = some (.tup xs)) ∧ ∀ b o xs, H b = some (.frz o (.tup xs)) → H' b = some (.frz o (.tup xs))
mutual
theorem Rep.imm {K : KW} {H H' : Hp} (e : SameT H H') : ∀ {v : V} {d : PyData}, Rep K H v d → imm d = true → Rep K H' v d
  | _, _, .non, _ => .non
  | _, _, .bl b, _ => .bl b
  | _, _, .int i, _ => .int i
  | _, _, .str x, _ => .str x
  | _, _, .lst h r, q => by simp [DL.imm] at q
  | _, _, .tup h r, q => .tup (e.1 _ _ h) (RepL.imm e r (by simpa [DL.imm] using q))
  | _, _, .dk h r _, q => by simp [DL.imm] at q
  | _, _, .dt h r, q => by simp [DL.imm] at q
theorem RepL.imm {K : KW} {H H' : Hp} (e : SameT H H') : ∀ {vs : List V} {ds : List PyData}, RepL K H vs ds → immL ds = true → RepL K H' vs ds
  | _, _, .nil, _ => .nil
  | _, _, .cons r t, q => by
    have q' := Bool.and_eq_true_iff.mp q
    exact .cons (Rep.imm e r q'.1) (RepL.imm e t q'.2)
end
mutual
theorem Rep.dp {K : KW} {H : Hp} : ∀ {v : V} {d : PyData}, Rep K H v d → d.canLay0 = true → Dp K H v d
  | _, _, .non, _ => .non
  | _, _, .bl b, _ => .bl b
  | _, _, .int i, _ => .int i
  | _, _, .str x, _ => .str x
  | _, _, .lst h r, q => .lst (.inl (.inl h)) (RepL.dp r (by simpa [PyData.canLay0] using q))
  | _, _, .tup h r, q => .tup (.inl (.inl h)) (RepL.dp r (by simpa [PyData.canLay0] using q))
  | _, _, .dk h r _, q => by simp [PyData.canLay0] at q
  | _, _, .dt h r, q => by simp [PyData.canLay0] at q
theorem RepL.dp {K : KW} {H : Hp} : ∀ {vs : List V} {ds : List PyData}, RepL K H vs ds → PyData.canLayAll0 ds = true → DpAll K H vs ds
  | _, _, .nil, _ => .nil
  | _, _, .cons r t, q => by
    have q' := Bool.and_eq_true_iff.mp q
    exact .cons (Rep.dp r q'.1) (RepL.dp t q'.2)
end
/-- defs that make lambdas -/
def lamNames : List Str := ["law", "_law_names_refused", "_law_rows_refused", "silent_from", "all_soonest", "found_leading", "parting"]
/-- a def's code object and its table -/
def tabOf (K : PySem.W.Frag) (x : Str) : Option (Addr × Addr) := match K.lookup (He.ga K x) with
  | some ⟨_, _, .func fd, _⟩ => (match fd.code with
    | .ref c => (match K.lookup c with
      | some ⟨_, _, .fields vs, _⟩ => (match (vs[11]? : Option Value) with
        | some (Value.ref p) => some (c, p)
        | _ => none)
      | _ => none)
    | _ => none)
  | _ => none
def tabs (K : PySem.W.Frag) : List (Addr × Str) := lamNames.filterMap fun x => (tabOf K x).map fun q => (q.2, x ++ ".<locals>.<lambda>")
abbrev nT (o : HO) : Prop := ∀ ps, o ≠ .tbl ps
/-- no table, no code object -/
structure Plain (o : HO) : Prop where
  t : nT o
  c : ∀ c q, o ≠ LamX.CodeO c q
theorem plain_lst {xs : List V} : Plain (.lst xs) := ⟨fun _ z => (by cases z), fun _ _ z => (by unfold LamX.CodeO at z; cases z)⟩
theorem plain_dK {xs : List (Key × V)} : Plain (.dK xs) := ⟨fun _ z => (by cases z), fun _ _ z => (by unfold LamX.CodeO at z; cases z)⟩
theorem plain_dX {w : World} {a : Addr} {xs : List (NestedKey × Addr × V)} {ep : Nat} : Plain (dX w a xs ep) := by
  refine ⟨fun _ z => (by unfold dX at z; cases z), fun c q z => ?_⟩
  unfold LamX.CodeO dX at z
  have e := HO.ext.inj z
  have e2 := congrFun e { objs := Array.replicate (c + 1) { cls := .none, data := .fields #[.none, .str q 0] } }
  have k : XOk w a xs ep { objs := Array.replicate (c + 1) { cls := .none, data := .fields #[.none, .str q 0] } } := by
    rw [e2]
    refine ⟨{ cls := .none, data := .fields #[.none, .str q 0] }, #[.none, .str q 0], 0, ?_, rfl, rfl⟩
    simp [Heap.get?]
  obtain ⟨_, _, _, us, o, es, _, ho, _, hd, _⟩ := k
  unfold Heap.get? at ho
  simp only [Array.getElem?_replicate] at ho
  split at ho
  · cases ho
  · split at ho
    · cases ho; cases hd
    · cases ho
theorem tabs_upd {T : List (Addr × Str)} {H : Hp} {p : Addr} {o : HO} (h : ∀ x, H p = some x → Plain x) (t : LamX.Tabs T H) : LamX.Tabs T (upd H p o) := fun q hq => by
  obtain ⟨ps, h1, h2, h3⟩ := t q hq
  refine ⟨ps, ?_, h2, fun pos cv hc => ?_⟩
  · rw [upd_ne (fun z => (h _ (by rw [← z]; exact h1)).t _ rfl)]; exact h1
  · obtain ⟨c, e1, e2⟩ := h3 pos cv hc
    refine ⟨c, e1, ?_⟩
    rw [upd_ne (fun z => (h _ (by rw [← z]; exact e2)).c _ _ rfl)]; exact e2
/-- the tables, each with the name of its code objects -/
class TabCtx where
  T : List (Addr × Str)
variable [TabCtx]
abbrev TBS : List (Addr × Str) := TabCtx.T
def TabV (H V : Hp) : Prop := LamX.Tabs TBS H ∧ ∀ p ∈ TBS, V p.1 = none
structure Ext (H V H' V' : Hp) : Prop where
  h : LamX.ExtN H H'
  v : Same V V'
  s : Same V' H'
  f : ∀ b, V b = none → H b ≠ none → V' b = none
  th : ∀ b, H b ≠ none → H' b ≠ none
  t : LamX.Tabs TBS H → LamX.Tabs TBS H'
theorem Same.th {H H' : Hp} (e : Same H H') (b : Addr) (h : H b ≠ none) : H' b ≠ none := by
  cases q : H b with
  | none => exact absurd q h
  | some o => rw [e b o q]; exact fun z => nomatch z
theorem Ext.of {H V H' V' : Hp} (h : Same H H') (v : Same V V') (s : Same V' H') (f : ∀ b, V b = none → H b ≠ none → V' b = none) : Ext H V H' V' :=
  ⟨LamX.ExtN.of h, v, s, f, Same.th h, fun t => t.ext h⟩
theorem Ext.refl {H V : Hp} (s : Same V H) : Ext H V H V := .of (Same.refl _) (Same.refl _) s fun _ h _ => h
theorem Ext.trans {H V H1 V1 H2 V2 : Hp} (a : Ext H V H1 V1) (b : Ext H1 V1 H2 V2) : Ext H V H2 V2 :=
  ⟨a.h.trans b.h, a.v.trans b.v, b.s, (fun c h1 h2 => b.f c (a.f c h1 h2) (a.th c h2)), (fun c h => b.th c (a.th c h)), fun t => b.t (a.t t)⟩
theorem Ext.free {H V H' V' : Hp} (x : Ext H V H' V') {b : Addr} (h : H' b = none) : H b = none := by
  cases e : H b with
  | none => rfl
  | some o => exact absurd h (x.th b (by rw [e]; exact fun z => nomatch z))
theorem same_new {H : Hp} {p : Addr} {o : HO} (h : H p = none) : Same H (upd H p o) := fun b x e => by
  rw [upd_ne (ne_of_none e h)]
  exact e
theorem Ext.new {H V : Hp} {p : Addr} {o : HO} (s : Same V H) (h : H p = none) : Ext H V (upd H p o) (upd V p o) := by
  have hv : V p = none := s.free h
  refine .of (same_new h) (same_new hv) (fun b x e => ?_) (fun b h1 h2 => ?_)
  · by_cases q : b = p
    · subst q; rw [upd_same] at e ⊢; exact e
    · rw [upd_ne q] at e ⊢; exact s b x e
  · rw [upd_ne (fun q => h2 (by rw [q]; exact h))]; exact h1
/-- a new cell that is not seen -/
theorem Ext.hid {H V : Hp} {p : Addr} {o : HO} (s : Same V H) (h : H p = none) : Ext H V (upd H p o) V :=
  .of (same_new h) (Same.refl _) (s.trans (same_new h)) fun _ h1 _ => h1
inductive R (α : Type) where
  | ok (a : α)
  | exc (c : Str)
  | bad
def R.bind {α β : Type} (r : R α) (k : α → R β) : R β := match r with
  | .ok a => k a
  | .exc c => .exc c
  | .bad => .bad
instance : Monad R where
  pure := R.ok
  bind := R.bind
/-- a slot: nothing, data that may be shared, a list or a dict that this slot alone knows -/
inductive Sl where
  | no
  | sh (d : PyData)
  | ow (d : PyData)
abbrev Rho := List Sl
def M (α : Type) : Type := Rho → R (α × Rho)
def M.pure {α : Type} (a : α) : M α := fun ρ => .ok (a, ρ)
def M.bind {α β : Type} (f : M α) (k : α → M β) : M β := fun ρ => match f ρ with
  | .ok (a, ρ') => k a ρ'
  | .exc c => .exc c
  | .bad => .bad
instance : Monad M where
  pure := M.pure
  bind := M.bind
/-- an answer, the slots as they are -/
def M.lift {α : Type} (r : R α) : M α := fun ρ => match r with
  | .ok a => .ok (a, ρ)
  | .exc c => .exc c
  | .bad => .bad
def M.opt {α : Type} (r : Option α) : M α := fun ρ => match r with
  | some a => .ok (a, ρ)
  | none => .bad
/-- what is wanted of exceptions; the frame's entry: all of the heap, what is seen; the slot 0's own address, where it is lent -/
structure Fr where
  H0 : Hp
  V0 : Hp
  lent : Option Addr
  W : Value → St → Hp → Prop
  /-- the slot that is lent -/
  ls : Nat
theorem ne_ls {i l : Nat} (h : Nat.beq i l = false) : i ≠ l := fun z => by subst z; rw [Nat.beq_refl] at h; cases h
theorem nm_ls {l : Nat} {vs : List Nat} (h : vs.contains l = false) : l ∉ vs := fun z => by
  have := List.contains_iff_mem.mpr z
  rw [h] at this; cases this
def OwnAt (K : KW) (V H : Hp) (a : Addr) : PyData → Prop
  | .list ds => ∃ vs, H a = some (.lst vs) ∧ RepL K V vs ds
  | .dict ps => (∃ kvs, H a = some (.dK kvs) ∧ RepK K V kvs ps ∧ ps ≠ []) ∨ ∃ xs ep, H a = some (dX K.w a xs ep) ∧ RepT K V xs ps
  | _ => False
theorem OwnAt.there {K : KW} {V H : Hp} {a : Addr} {d : PyData} (h : OwnAt K V H a d) : ∃ o, H a = some o ∧ (∀ xs, o ≠ .tup xs) ∧ (∀ u xs, o ≠ .frz u (.tup xs)) ∧ Plain o := by
  cases d with
  | list ds => obtain ⟨vs, e, _⟩ := h; exact ⟨_, e, (fun _ z => nomatch z), (fun _ _ z => nomatch z), plain_lst⟩
  | dict ps =>
    rcases h with ⟨kvs, e, _⟩ | ⟨kvs, ep, e, _⟩
    · exact ⟨_, e, (fun _ z => nomatch z), (fun _ _ z => nomatch z), plain_dK⟩
    · exact ⟨_, e, (fun _ z => nomatch z), (fun _ _ z => nomatch z), plain_dX⟩
  | _ => exact h.elim
theorem OwnAt.plain {K : KW} {V H : Hp} {a : Addr} {d : PyData} (h : OwnAt K V H a d) : ∀ x, H a = some x → Plain x := fun x e => by
  obtain ⟨o, ho, _, _, p⟩ := h.there
  rw [e] at ho; cases ho; exact p
theorem OwnAt.mono {K : KW} {V H V' H' : Hp} {a : Addr} {d : PyData} (h : OwnAt K V H a d) (v : Same V V') (k : ∀ o, H a = some o → nT o → H' a = some o) : OwnAt K V' H' a d := by
  cases d with
  | list ds => obtain ⟨vs, e, r⟩ := h; exact ⟨vs, k _ e plain_lst.t, r.mono v⟩
  | dict ps =>
    rcases h with ⟨kvs, e, r, n⟩ | ⟨kvs, ep, e, r⟩
    · exact .inl ⟨kvs, k _ e plain_dK.t, r.mono v, n⟩
    · exact .inr ⟨kvs, ep, k _ e plain_dX.t, r.mono v⟩
  | _ => exact h.elim
/-- an own thing that is let go of is data like others -/
theorem OwnAt.rep {K : KW} {V H : Hp} {a : Addr} {d : PyData} (h : OwnAt K V H a d) (v : Same V H) : Rep K H (.ref a) d := by
  cases d with
  | list ds => obtain ⟨vs, e, r⟩ := h; exact .lst e (r.mono v)
  | dict ps =>
    rcases h with ⟨kvs, e, r, n⟩ | ⟨kvs, ep, e, r⟩
    · exact .dk e (r.mono v) n
    · exact .dt e (r.mono v)
  | _ => exact h.elim
structure EnvR (K : KW) (F : Fr) (H V : Hp) (σ : St) (ρ : Rho) : Prop where
  len : σ.length = ρ.length
  ext : Ext F.H0 F.V0 H V
  sh : ∀ (i : Nat) (d : PyData), ρ[i]? = some (.sh d) → ∃ v, σ[i]? = some (some v) ∧ Rep K V v d
  ow : ∀ (i : Nat) (d : PyData), ρ[i]? = some (.ow d) → ∃ a, σ[i]? = some (some (.ref a)) ∧ V a = none ∧ F.H0 a = none ∧ OwnAt K V H a d
  dis : ∀ (i j : Nat) (a : Addr) (d e : PyData), ρ[i]? = some (.ow d) → ρ[j]? = some (.ow e) → σ[i]? = some (some (.ref a)) → σ[j]? = some (some (.ref a)) → i = j
  lent : ∀ a, F.lent = some a → σ[F.ls]? = some (some (.ref a))
  tab : TabV F.H0 F.V0
theorem EnvR.tabs {K : KW} {F : Fr} {H V : Hp} {σ : St} {ρ : Rho} (E : EnvR K F H V σ ρ) : TabV H V := ⟨E.ext.t E.tab.1, fun p hp => E.ext.f p.1 (E.tab.2 p hp) (by
  obtain ⟨ps, h, _⟩ := E.tab.1 p hp
  rw [h]; exact fun z => nomatch z)⟩
def IsOwn (σ : St) (ρ : Rho) (b : Addr) : Prop := ∃ (i : Nat) (d : PyData), ρ[i]? = some (.ow d) ∧ σ[i]? = some (some (.ref b))
/-- what an expression does -/
structure Stp (K : KW) (F : Fr) (σ : St) (ρ ρ' : Rho) (H V H' V' : Hp) : Prop where
  env : EnvR K F H' V' σ ρ'
  v : Same V V'
  keep : ∀ b o, H b = some o → nT o → ¬ IsOwn σ ρ b → H' b = some o
  own : ∀ b, IsOwn σ ρ' b → IsOwn σ ρ b
  shs : ∀ (i : Nat) (d : PyData), ρ'[i]? = some (.sh d) → ρ[i]? = some (.sh d)
  f : ∀ b, V b = none → H b ≠ none → V' b = none
  th : ∀ b, H b ≠ none → H' b ≠ none
section
variable {K : KW} {F : Fr} {σ : St} {ρ ρ1 ρ2 : Rho} {H V H1 V1 H2 V2 : Hp}
theorem Stp.trans (a : Stp K F σ ρ ρ1 H V H1 V1) (b : Stp K F σ ρ1 ρ2 H1 V1 H2 V2) : Stp K F σ ρ ρ2 H V H2 V2 :=
  ⟨b.env, a.v.trans b.v, fun c o e nt n => b.keep c o (a.keep c o e nt n) nt fun q => n (a.own c q), (fun c q => a.own c (b.own c q)), (fun i d q => a.shs i d (b.shs i d q)), (fun c h1 h2 => b.f c (a.f c h1 h2) (a.th c h2)), fun c h => b.th c (a.th c h)⟩
theorem EnvR.grow (E : EnvR K F H V σ ρ) (e : Ext H V H1 V1) : EnvR K F H1 V1 σ ρ := by
  refine ⟨E.len, E.ext.trans e, fun i d h => ?_, fun i d h => ?_, E.dis, E.lent, E.tab⟩
  · obtain ⟨v, h1, h2⟩ := E.sh i d h
    exact ⟨v, h1, h2.mono e.v⟩
  · obtain ⟨a, h1, h2, h3, h4⟩ := E.ow i d h
    obtain ⟨o, ho, _⟩ := h4.there
    exact ⟨a, h1, e.f a h2 (by rw [ho]; exact fun q => nomatch q), h3, h4.mono e.v fun o q n => e.h _ _ q n⟩
theorem EnvR.step (E : EnvR K F H V σ ρ) (e : Ext H V H1 V1) : Stp K F σ ρ ρ H V H1 V1 := ⟨E.grow e, e.v, (fun b o q n _ => e.h b o q n), (fun _ q => q), (fun _ _ q => q), e.f, e.th⟩
theorem EnvR.refl (E : EnvR K F H V σ ρ) : Stp K F σ ρ ρ H V H V := ⟨E, Same.refl _, (fun _ _ q _ _ => q), (fun _ q => q), (fun _ _ q => q), (fun _ h _ => h), fun _ h => h⟩
theorem EnvR.sub (E : EnvR K F H V σ ρ) : Same V H := E.ext.s
/-- what is wanted behind an expression -/
def Goal {α β : Type} (K : KW) (F : Fr) (σ : St) (ρ : Rho) (H V : Hp) (rep : Hp → β → α → Prop) (r : R (α × Rho)) (Q : β → Hp → Prop) : Prop := match r with
  | .ok (a, ρ') => ∀ b H' V', Stp K F σ ρ ρ' H V H' V' → rep V' b a → Q b H'
  | .exc c => ∀ H' V', Ext F.H0 F.V0 H' V' → F.W (.ref (He.ga K c)) σ H'
  | .bad => False
theorem Goal.after {α β : Type} {rep : Hp → β → α → Prop} {r : R (α × Rho)} {Q : β → Hp → Prop} (st : Stp K F σ ρ ρ1 H V H1 V1) (g : Goal K F σ ρ H V rep r Q) : Goal K F σ ρ1 H1 V1 rep r Q := by
  cases r with
  | ok p => exact fun b H' V' s => g b H' V' (st.trans s)
  | exc c => exact g
  | bad => exact g
theorem Goal.bind {α β α' β' : Type} {rep1 : Hp → β → α → Prop} {rep2 : Hp → β' → α' → Prop} {f : M α} {k : α → M α'} {Q : β' → Hp → Prop} {Q1 : β → Hp → Prop}
    (g : Goal K F σ ρ H V rep2 (M.bind f k ρ) Q)
    (h : ∀ b a H' V' ρ', Stp K F σ ρ ρ' H V H' V' → rep1 V' b a → Goal K F σ ρ' H' V' rep2 (k a ρ') Q → Q1 b H') : Goal K F σ ρ H V rep1 (f ρ) Q1 := by
  unfold M.bind at g
  cases e : f ρ with
  | ok p =>
    obtain ⟨a, ρ'⟩ := p
    rw [e] at g
    exact fun b H' V' st r => h b a H' V' ρ' st r (Goal.after st g)
  | exc c => rw [e] at g; exact g
  | bad => rw [e] at g; exact g
end
section
variable (K : KW) (F : Fr)
def tM (f : M PyData) : TE := fun σ H Q => ∃ V ρ, EnvR K F H V σ ρ ∧ Goal K F σ ρ H V (Rep K) (f ρ) Q
def tMA (f : M (List PyData)) : TA := fun σ H Q => ∃ V ρ, EnvR K F H V σ ρ ∧ Goal K F σ ρ H V (RepL K) (f ρ) Q
def tMT (f : M Bool) : TT := fun σ H Q => ∃ V ρ, EnvR K F H V σ ρ ∧ Goal K F σ ρ H V (fun _ b a => b = a) (f ρ) Q
end
def PM (X : Cx) (F : Fr) (e : Expr) (f : M PyData) : Prop := PE X e (tM X.kw F f)
def PMA (X : Cx) (F : Fr) (es : List Expr) (f : M (List PyData)) : Prop := PA X es (tMA X.kw F f)
def PMT (X : Cx) (F : Fr) (e : Expr) (f : M Bool) : Prop := PT X e (tMT X.kw F f)
def PMW (X : Cx) (F : Fr) (e : Expr) (f : M Bool) : Prop := PW X e (tMT X.kw F f)
theorem PE.imp {X : Cx} {e : Expr} {t u : TE} (h : PE X e t) (i : ∀ σ H Q, u σ H Q → t σ H Q) : PE X e u := ⟨fun pins s σ H Q I q => h.run pins s σ H Q I (i σ H Q q)⟩
theorem PT.imp {X : Cx} {e : Expr} {t u : TT} (h : PT X e t) (i : ∀ σ H Q, u σ H Q → t σ H Q) : PT X e u := ⟨fun pins s σ H Q I q => h.run pins s σ H Q I (i σ H Q q)⟩
theorem PW.imp {X : Cx} {e : Expr} {t u : TT} (h : PW X e t) (i : ∀ σ H Q, u σ H Q → t σ H Q) : PW X e u := ⟨fun wh pins s σ H Q I q => h.run wh pins s σ H Q I (i σ H Q q)⟩
theorem PA.imp {X : Cx} {e : List Expr} {t u : TA} (h : PA X e t) (i : ∀ σ H Q, u σ H Q → t σ H Q) : PA X e u := ⟨fun pos pins s σ H Q I q => h.run pos pins s σ H Q I (i σ H Q q)⟩
theorem PS.imp {X : Cx} {e : Stmt} {t u : TS} (h : PS X e t) (i : ∀ D σ H, u D σ H → t D σ H) : PS X e u := ⟨fun pins s σ H D I q => h.run pins s σ H D I (i D σ H q)⟩
theorem PSs.imp {X : Cx} {e : List Stmt} {t u : TS} (h : PSs X e t) (i : ∀ D σ H, u D σ H → t D σ H) : PSs X e u := ⟨fun pins s σ H D I q => h.run pins s σ H D I (i D σ H q)⟩
end DL
set_option Elab.async false
set_option linter.all false
set_option maxRecDepth 100000
set_option maxHeartbeats 1000000
namespace DL
open PySem PySem.Spec PyProof.Rows L2
variable [TabCtx]
def LIM : Nat := 1000000
theorem lim_le : LIM ≤ sizeLine := by rw [sizeLine_eq]; decide
theorem lim_lt : LIM < sizeLine := by rw [sizeLine_eq]; decide
def vN (i : Nat) : M PyData := fun ρ => match ρ[i]? with
  | some (.sh d) => .ok (d, ρ)
  | _ => .bad
def cD (d : PyData) : M PyData := M.pure d
def op1 (g : PyData → Option PyData) (a : M PyData) : M PyData := M.bind a fun x => M.opt (g x)
def op2 (g : PyData → PyData → Option PyData) (a b : M PyData) : M PyData := M.bind a fun x => M.bind b fun y => M.opt (g x y)
def aN : M (List PyData) := M.pure []
def aC (a : M PyData) (r : M (List PyData)) : M (List PyData) := M.bind a fun x => M.bind r fun xs => M.pure (x :: xs)
def opA (g : List PyData → Option PyData) (a : M (List PyData)) : M PyData := M.bind a fun ds => M.opt (g ds)
def callM (m : List PyData → R PyData) (a : M (List PyData)) : M PyData := M.bind a fun ds => M.lift (m ds)
def gTupD (ds : List PyData) : Option PyData := if ds.length ≤ LIM then some (.tuple ds) else none
def gLstD (ds : List PyData) : Option PyData := if ds.length ≤ LIM then some (.list ds) else none
def asB : PyData → Option Bool
  | .bool b => some b
  | _ => none
def tst (a : M PyData) : M Bool := M.bind a fun x => M.opt (asB x)
def andT (a b : M Bool) : M Bool := M.bind a fun x => if x = true then b else M.pure false
def orT (a b : M Bool) : M Bool := M.bind a fun x => if x = true then M.pure true else b
def notT (a : M Bool) : M Bool := M.bind a fun x => M.pure (!x)
def andV (a b : M PyData) : M PyData := M.bind a fun x => M.bind (M.opt (asB x)) fun c => if c = true then b else M.pure (.bool false)
def orV (a b : M PyData) : M PyData := M.bind a fun x => M.bind (M.opt (asB x)) fun c => if c = true then M.pure (.bool true) else b
def notV (a : M PyData) : M PyData := op1 (fun x => (asB x).map fun b => .bool (!b)) a
def ifV (t : M Bool) (a b : M PyData) : M PyData := M.bind t fun c => if c = true then a else b
def chain (g g' : PyData → PyData → Option PyData) (a b c : M PyData) : M PyData := M.bind a fun x => M.bind b fun y => M.bind (M.opt ((g x y).bind asB)) fun k => if k = true then M.bind c fun z => M.opt (g' y z) else M.pure (.bool false)
def OpD (K : KW) (r : R2) (g : PyData → PyData → Option PyData) : Prop := ∀ (x y : V) (dx dy z : PyData) (H V : Hp) (Q : VK), Same V H → Rep K V x dx → Rep K V y dy → g dx dy = some z →
  (∀ v H' V', Ext H V H' V' → Rep K V' v z → Q v H') → r x y H Q
def CallD (K : KW) (r : List V → Hp → VK → Prop) (g : List PyData → Option PyData) : Prop := ∀ (xs : List V) (ds : List PyData) (z : PyData) (H V : Hp) (Q : VK), Same V H → RepL K V xs ds → g ds = some z →
  (∀ v H' V', Ext H V H' V' → Rep K V' v z → Q v H') → r xs H Q
section
variable {K : KW} {F : Fr} {σ : St} {ρ : Rho} {H V : Hp} {Q : VK}
theorem Goal.opt {α β : Type} {rep : Hp → β → α → Prop} {Q : β → Hp → Prop} {o : Option α} (E : EnvR K F H V σ ρ) (g : Goal K F σ ρ H V rep (M.opt o ρ) Q) : ∃ z, o = some z ∧ ∀ v H' V', Ext H V H' V' → rep V' v z → Q v H' := by
  cases o with
  | none => exact False.elim g
  | some z => exact ⟨z, rfl, fun v H' V' e r => g v H' V' (E.step e) r⟩
theorem Goal.pure {α β : Type} {rep : Hp → β → α → Prop} {Q : β → Hp → Prop} {a : α} (E : EnvR K F H V σ ρ) (g : Goal K F σ ρ H V rep (M.pure a ρ) Q) : ∀ v H' V', Ext H V H' V' → rep V' v a → Q v H' :=
  fun v H' V' e r => g v H' V' (E.step e) r
theorem Goal.pure0 {α β : Type} {rep : Hp → β → α → Prop} {Q : β → Hp → Prop} {a : α} {v : β} (E : EnvR K F H V σ ρ) (g : Goal K F σ ρ H V rep (M.pure a ρ) Q) (r : rep V v a) : Q v H :=
  Goal.pure E g v H V (Ext.refl E.sub) r
end
section
variable {X : Cx} {F : Fr} {e a b c : Expr} {es : List Expr} {pos : Pos} {fa fb fc : M PyData} {fs : M (List PyData)} {ft fu : M Bool}
theorem pm_var (i : Nat) {x : Str} (hN : X.N[i]? = some x := by rfl) (hv : Vis X.env.scope x := by first | exact Or.inl rfl | exact Or.inr (Or.inl rfl) | exact Or.inr (Or.inr rfl)) (hd : (x == ("__debug__" : Str)) = false := by decide)
    (hcd : (x == ("__classdict__" : Str)) = false := by decide) : PM X F (.Name x pos) (vN i) := by
  refine PE.imp (pe_var hN hv hd hcd) fun σ H Q ⟨V, ρ, E, g⟩ => ?_
  unfold vN at g
  cases e : ρ[i]? with
  | none => rw [e] at g; exact False.elim g
  | some s =>
    rw [e] at g
    cases s with
    | sh d =>
      obtain ⟨v, h1, h2⟩ := E.sh i d e
      exact ⟨v, h1, g v H V E.refl h2⟩
    | no => exact False.elim g
    | ow d => exact False.elim g
theorem pm_const {d : PyData} {v : V} (h : PE X e (tC v)) (r : ∀ V, Rep X.kw V v d) : PM X F e (cD d) := PE.imp h fun σ H Q ⟨V, ρ, E, g⟩ => Goal.pure0 E g (r V)
theorem pm_int {i j} : PM X F (.Constant (.int i) j pos) (cD (.int i)) := pm_const pe_int fun _ => .int i
theorem pm_bl {i j} : PM X F (.Constant (.bool i) j pos) (cD (.bool i)) := pm_const pe_bl fun _ => .bl i
theorem pm_non {j} : PM X F (.Constant .none j pos) (cD .none) := pm_const pe_non fun _ => .non
theorem pm_str {i j} : PM X F (.Constant (.str i) j pos) (cD (.str i)) := pm_const pe_str fun _ => .str i
theorem pm_gint {x : Str} {i : Int} (hm : ∃ t, X.mg x = some (.int i t)) (hg : Gl X x := by rfl) (hd : (x == ("__debug__" : Str)) = false := by decide) : PM X F (.Name x pos) (cD (.int i)) := by
  obtain ⟨t, hm⟩ := hm
  exact pm_const (v := .int i) (pe_glob hg hm ⟨t, rfl⟩ hd) fun _ => .int i
theorem pm_gstr {x z : Str} (hm : ∃ t, X.mg x = some (.str z t)) (hg : Gl X x := by rfl) (hd : (x == ("__debug__" : Str)) = false := by decide) : PM X F (.Name x pos) (cD (.str z)) := by
  obtain ⟨t, hm⟩ := hm
  exact pm_const (v := .str z) (pe_glob hg hm ⟨t, rfl⟩ hd) fun _ => .str z
theorem tOp_of {K : KW} {r : R2} {g : PyData → PyData → Option PyData} (od : OpD K r g) {σ : St} {H : Hp} {Q : VK} (h : tM K F (op2 g fa fb) σ H Q) : tOp r (tM K F fa) (tM K F fb) σ H Q := by
  obtain ⟨V, ρ, E, g0⟩ := h
  refine ⟨V, ρ, E, Goal.bind g0 fun x dx H1 V1 ρ1 st1 r1 g1 => ⟨V1, ρ1, st1.env, Goal.bind g1 fun y dy H2 V2 ρ2 st2 r2 g2 => ?_⟩⟩
  obtain ⟨z, ez, q⟩ := Goal.opt st2.env g2
  exact od x y dx dy z H2 V2 Q st2.env.sub (r1.mono st2.v) r2 ez q
theorem pm_op {op : Operator} {r : R2} {g : PyData → PyData → Option PyData} (ho : OpR X (binaryOp op) r) (od : OpD X.kw r g) (ha : PM X F a fa) (hb : PM X F b fb) : PM X F (.BinOp a op b pos) (op2 g fa fb) :=
  PE.imp (pe_op ho ha hb) fun _ _ _ h => tOp_of od h
theorem pm_cmp {op : CmpOp} {r : R2} {g : PyData → PyData → Option PyData} (ho : OpR X (compareOp op) r) (od : OpD X.kw r g) (ha : PM X F a fa) (hb : PM X F b fb) (hm : behindInMarks op b = false := by first | exact nomark _ | rfl) : PM X F (.Compare a [op] [b] pos) (op2 g fa fb) :=
  PE.imp (pe_cmpR ho ha hb hm) fun _ _ _ h => tOp_of od h
theorem pm_ix {r : R2} {g : PyData → PyData → Option PyData} (hr : IxR X r) (od : OpD X.kw r g) (ha : PM X F a fa) (hb : PM X F b fb) (hs : PlainIx b := by exact fun _ _ => rfl) : PM X F (.Subscript a b pos) (op2 g fa fb) :=
  PE.imp (pe_ix hr ha hb hs) fun _ _ _ h => tOp_of od h
theorem pma_nil : PMA X F [] aN := PA.imp pa_nil fun σ H Q ⟨V, ρ, E, g⟩ => Goal.pure0 E g .nil
theorem pma_cons (ha : PM X F e fa) (hr : PMA X F es fs) (hs : starEach (e :: es) X.env = (false, eval e X.env) :: starEach es X.env := by rfl) : PMA X F (e :: es) (aC fa fs) := by
  refine PA.imp (pa_cons ha hr hs) fun σ H Q ⟨V, ρ, E, g0⟩ => ⟨V, ρ, E, Goal.bind g0 fun x dx H1 V1 ρ1 st1 r1 g1 => ⟨V1, ρ1, st1.env, Goal.bind g1 fun y dy H2 V2 ρ2 st2 r2 g2 => ?_⟩⟩
  exact Goal.pure0 st2.env g2 (.cons (r1.mono st2.v) r2)
theorem pm_tup {x1} (h : PMA X F es fs) : PM X F (.Tuple es x1 pos) (opA gTupD fs) := by
  refine PE.imp (pe_tup h) fun σ H Q ⟨V, ρ, E, g0⟩ => ⟨V, ρ, E, Goal.bind g0 fun xs ds H1 V1 ρ1 st1 r1 g1 => ?_⟩
  obtain ⟨z, ez, q⟩ := Goal.opt st1.env g1
  unfold gTupD at ez
  split at ez
  · rename_i hl
    cases ez
    exact ⟨by rw [r1.length]; exact Nat.le_trans hl lim_le, fun p hp => q _ _ _ (Ext.new st1.env.sub hp) (.tup upd_same (r1.mono (same_new (st1.env.sub.free hp))))⟩
  · cases ez
theorem pm_lst (h : PMA X F es fs) : PM X F (.List es pos) (opA gLstD fs) := by
  refine PE.imp (pe_lst h) fun σ H Q ⟨V, ρ, E, g0⟩ => ⟨V, ρ, E, Goal.bind g0 fun xs ds H1 V1 ρ1 st1 r1 g1 => ?_⟩
  obtain ⟨z, ez, q⟩ := Goal.opt st1.env g1
  unfold gLstD at ez
  split at ez
  · rename_i hl
    cases ez
    exact ⟨by rw [r1.length]; exact Nat.le_trans hl lim_le, fun p hp => q _ _ _ (Ext.new st1.env.sub hp) (.lst upd_same (r1.mono (same_new (st1.env.sub.free hp))))⟩
  · cases ez
theorem tCB_of {K : KW} {r : List V → Hp → VK → Prop} {g : List PyData → Option PyData} (od : CallD K r g) {σ : St} {H : Hp} {Q : VK} (h : tM K F (opA g fs) σ H Q) : tCB r (tMA K F fs) σ H Q := by
  obtain ⟨V, ρ, E, g0⟩ := h
  refine ⟨V, ρ, E, Goal.bind g0 fun x dx H1 V1 ρ1 st1 r1 g1 => ?_⟩
  obtain ⟨z, ez, q⟩ := Goal.opt st1.env g1
  exact od x dx z H1 V1 Q st1.env.sub r1 ez q
theorem pm_callB {id : String} {x : Str} {p : Pos} {r : List V → Hp → VK → Prop} {g : List PyData → Option PyData} (hc : CallR X (.builtin id) r) (od : CallD X.kw r g) (hm : X.mg x = none) (ha : PMA X F (e :: es) fs) (hv : bootBuiltins x = some (.builtin id) := by decide +kernel) (hg : Gl X x := by rfl)
    (hn : x ≠ "__name__" := by decide) (hdb : (x == ("__debug__" : Str)) = false := by decide)
    (he : starEach (e :: es) X.env = (false, eval e X.env) :: starEach es X.env := by rfl) (hpl : (backTo pos (starEach es X.env)).any (·.1) = false := by rfl) : PM X F (.Call (.Name x p) (e :: es) [] pos) (opA g fs) :=
  PE.imp (pe_callB hc hg hm hv ha hn hdb he hpl) fun _ _ _ h => tCB_of od h
theorem pm_callTy {T : String} {x : Str} {p : Pos} {r : List V → Hp → VK → Prop} {g : List PyData → Option PyData} (hc : CallR X (.type T) r) (od : CallD X.kw r g) (hm : X.mg x = none) (ha : PMA X F (e :: es) fs) (hv : bootBuiltins x = some (.type T) := by decide +kernel) (hg : Gl X x := by rfl)
    (hn : x ≠ "__name__" := by decide) (hdb : (x == ("__debug__" : Str)) = false := by decide)
    (he : starEach (e :: es) X.env = (false, eval e X.env) :: starEach es X.env := by rfl) (hpl : (backTo pos (starEach es X.env)).any (·.1) = false := by rfl) : PM X F (.Call (.Name x p) (e :: es) [] pos) (opA g fs) :=
  PE.imp (pe_callTy hc hg hm hv ha hn hdb he hpl) fun _ _ _ h => tCB_of od h
theorem pmt_val (h : PM X F e fa) (he : ∀ whole, isTrue e X.env whole = (do let v ← whole; standAt e.pos; holding [v] (truthy v)) := by intro _; rfl) : PMT X F e (tst fa) := by
  refine PT.imp (pt_val h he) fun σ H Q ⟨V, ρ, E, g0⟩ => ⟨V, ρ, E, Goal.bind g0 fun x dx H1 V1 ρ1 st1 r1 g1 => ?_⟩
  obtain ⟨z, ez, q⟩ := Goal.opt st1.env g1
  cases r1 with
  | bl b => cases ez; exact ⟨_, rfl, q _ _ _ (Ext.refl st1.env.sub) rfl⟩
  | _ => cases ez
theorem pmt_cmp {op : CmpOp} {r : R2} {g : PyData → PyData → Option PyData} (ho : OpR X (compareOp op) r) (od : OpD X.kw r g) (ha : PM X F a fa) (hb : PM X F b fb) (hm : behindInMarks op b = false := by first | exact nomark _ | rfl) : PMT X F (.Compare a [op] [b] pos) (tst (op2 g fa fb)) := by
  refine PT.imp (pt_cmpR ho ha hb hm) fun σ H Q h => ?_
  have h2 : tM X.kw F (op2 g fa fb) σ H fun x H' => ∃ k, x = .bl k ∧ Q k H' := by
    obtain ⟨V, ρ, E, g0⟩ := h
    refine ⟨V, ρ, E, Goal.bind g0 fun x dx H1 V1 ρ1 st1 r1 g1 => ?_⟩
    obtain ⟨z, ez, q⟩ := Goal.opt st1.env g1
    cases r1 with
    | bl b => cases ez; exact ⟨_, rfl, q _ _ _ (Ext.refl st1.env.sub) rfl⟩
    | _ => cases ez
  exact tOp_of od h2
theorem pmw_and1 (ha : PMT X F a ft) : PMW X F (.BoolOp .And [a] pos) ft := pw_and1 ha
theorem pmw_or1 (ha : PMT X F a ft) : PMW X F (.BoolOp .Or [a] pos) ft := pw_or1 ha
theorem pmw_and {rest : List Expr} (ha : PMT X F a ft) (hb : PMW X F (.BoolOp .And (b :: rest) pos) fu) : PMW X F (.BoolOp .And (a :: b :: rest) pos) (andT ft fu) := by
  refine PW.imp (pw_and ha hb) fun σ H Q ⟨V, ρ, E, g0⟩ => ⟨V, ρ, E, Goal.bind g0 fun x dx H1 V1 ρ1 st1 r1 g1 => ?_⟩
  subst r1
  cases x with
  | true => exact ⟨V1, ρ1, st1.env, g1⟩
  | false => exact Goal.pure0 st1.env g1 rfl
theorem pmw_or {rest : List Expr} (ha : PMT X F a ft) (hb : PMW X F (.BoolOp .Or (b :: rest) pos) fu) : PMW X F (.BoolOp .Or (a :: b :: rest) pos) (orT ft fu) := by
  refine PW.imp (pw_or ha hb) fun σ H Q ⟨V, ρ, E, g0⟩ => ⟨V, ρ, E, Goal.bind g0 fun x dx H1 V1 ρ1 st1 r1 g1 => ?_⟩
  subst r1
  cases x with
  | true => exact Goal.pure0 st1.env g1 rfl
  | false => exact ⟨V1, ρ1, st1.env, g1⟩
theorem pmt_w (h : PMW X F e ft) : PMT X F e ft := PW.pt h
theorem pmt_not (ha : PMT X F a ft) : PMT X F (.UnaryOp .Not a pos) (notT ft) := by
  refine PT.imp (pt_not ha) fun σ H Q ⟨V, ρ, E, g0⟩ => ⟨V, ρ, E, Goal.bind g0 fun x dx H1 V1 ρ1 st1 r1 g1 => ?_⟩
  subst r1
  exact Goal.pure0 st1.env g1 rfl
theorem pm_one {op} (h : PM X F a fa) : PM X F (.BoolOp op [a] pos) fa := pe_one h
theorem pm_and {rest : List Expr} (ha : PM X F a fa) (hb : PM X F (.BoolOp .And (b :: rest) pos) fb) : PM X F (.BoolOp .And (a :: b :: rest) pos) (andV fa fb) := by
  refine PE.imp (pe_and ha hb) fun σ H Q ⟨V, ρ, E, g0⟩ => ⟨V, ρ, E, Goal.bind g0 fun x dx H1 V1 ρ1 st1 r1 g1 => ?_⟩
  cases r1 with
  | bl b =>
    refine ⟨b, rfl, ?_⟩
    cases b with
    | true => exact ⟨V1, ρ1, st1.env, g1⟩
    | false => exact Goal.pure0 st1.env g1 (.bl false)
  | _ => exact False.elim g1
theorem pm_not (ha : PM X F a fa) : PM X F (.UnaryOp .Not a pos) (notV fa) := by
  refine PE.imp (pe_not ha) fun σ H Q ⟨V, ρ, E, g0⟩ => ⟨V, ρ, E, Goal.bind g0 fun x dx H1 V1 ρ1 st1 r1 g1 => ?_⟩
  obtain ⟨z, ez, q⟩ := Goal.opt st1.env g1
  cases r1 with
  | bl b => cases ez; exact ⟨b, rfl, q _ _ _ (Ext.refl st1.env.sub) (.bl _)⟩
  | _ => cases ez
theorem pm_if (hc : PMT X F c ft) (ha : PM X F a fa) (hb : PM X F b fb) : PM X F (.IfExp c a b pos) (ifV ft fa fb) := by
  refine PE.imp (pe_ifExp hc ha hb) fun σ H Q ⟨V, ρ, E, g0⟩ => ⟨V, ρ, E, Goal.bind g0 fun x dx H1 V1 ρ1 st1 r1 g1 => ?_⟩
  subst r1
  cases x with
  | true => exact ⟨V1, ρ1, st1.env, g1⟩
  | false => exact ⟨V1, ρ1, st1.env, g1⟩
theorem tChain_of {K : KW} {r r' : R2} {g g' : PyData → PyData → Option PyData} (od : OpD K r g) (od' : OpD K r' g') {σ : St} {H : Hp} {Q : VK} (h : tM K F (chain g g' fa fb fc) σ H Q) : tChain r r' (tM K F fa) (tM K F fb) (tM K F fc) σ H Q := by
  obtain ⟨V, ρ, E, g0⟩ := h
  refine ⟨V, ρ, E, Goal.bind g0 fun x dx H1 V1 ρ1 st1 r1 g1 => ⟨V1, ρ1, st1.env, Goal.bind g1 fun y dy H2 V2 ρ2 st2 r2 g2 => ?_⟩⟩
  cases e : g dx dy with
  | none =>
    unfold M.bind M.opt at g2
    rw [e] at g2
    exact False.elim g2
  | some w =>
    unfold M.bind at g2
    rw [e] at g2
    cases w with
    | bool k =>
      refine od x y dx dy (.bool k) H2 V2 _ st2.env.sub (r1.mono st2.v) r2 e fun v H3 V3 ex rv => ?_
      have E3 := st2.env.step ex
      have g3 : Goal K F σ ρ2 H2 V2 (Rep K) ((if k = true then M.bind fc fun z => M.opt (g' dy z) else M.pure (.bool false)) ρ2) Q := g2
      cases rv
      refine ⟨k, rfl, ?_⟩
      have g4 := Goal.after E3 g3
      cases k with
      | false => exact Goal.pure0 E3.env g4 (.bl false)
      | true =>
        rw [if_pos rfl]
        refine ⟨V3, ρ2, E3.env, Goal.bind g4 fun z dz H4 V4 ρ4 st4 r4 g5 => ?_⟩
        obtain ⟨z', ez, q⟩ := Goal.opt st4.env g5
        exact od' y z dy dz z' H4 V4 Q st4.env.sub ((r2.mono ex.v).mono st4.v) r4 ez q
    | _ => exact False.elim g2
theorem pm_chain {op op' : CmpOp} {r r' : R2} {g g' : PyData → PyData → Option PyData} (ho : OpR X (compareOp op) r) (od : OpD X.kw r g) (ho' : OpR X (compareOp op') r') (od' : OpD X.kw r' g') (ha : PM X F a fa) (hb : PM X F b fb) (hc : PM X F c fc)
    (hm : lastMarks [op, op'] [b, c] = false := by with_unfolding_all rfl) : PM X F (.Compare a [op, op'] [b, c] pos) (chain g g' fa fb fc) := PE.imp (pe_chain ho ho' ha hb hc hm) fun _ _ _ h => tChain_of od od' h
theorem pmt_chain {op op' : CmpOp} {r r' : R2} {g g' : PyData → PyData → Option PyData} (ho : OpR X (compareOp op) r) (od : OpD X.kw r g) (ho' : OpR X (compareOp op') r') (od' : OpD X.kw r' g') (ha : PM X F a fa) (hb : PM X F b fb) (hc : PM X F c fc)
    (hm : lastMarks [op, op'] [b, c] = false := by with_unfolding_all rfl) : PMT X F (.Compare a [op, op'] [b, c] pos) (tst (chain g g' fa fb fc)) := by
  refine PT.imp (pt_chain ho ho' ha hb hc hm) fun σ H Q h => ?_
  have h2 : tM X.kw F (chain g g' fa fb fc) σ H fun x H' => ∃ k, x = .bl k ∧ Q k H' := by
    obtain ⟨V, ρ, E, g0⟩ := h
    refine ⟨V, ρ, E, Goal.bind g0 fun x dx H1 V1 ρ1 st1 r1 g1 => ?_⟩
    obtain ⟨z, ez, q⟩ := Goal.opt st1.env g1
    cases r1 with
    | bl b => cases ez; exact ⟨_, rfl, q _ _ _ (Ext.refl st1.env.sub) rfl⟩
    | _ => cases ez
  exact tChain_of od od' h2
end
end DL
set_option Elab.async false
set_option linter.all false
set_option maxRecDepth 100000
set_option maxHeartbeats 1000000
namespace DL
open PySem PySem.Spec PyProof.Rows L2
variable [TabCtx]
theorem ite_some {c : Prop} [Decidable c] {a z : PyData} (h : (if c then some a else none) = some z) : c ∧ a = z := by
  by_cases hc : c
  · rw [if_pos hc] at h; exact ⟨hc, Option.some.inj h⟩
  · rw [if_neg hc] at h; cases h
section
variable {K : KW} {H V : Hp}
theorem new_tup {xs : List L2.V} {ds : List PyData} {p : Addr} (s : Same V H) (hp : H p = none) (r : RepL K V xs ds) : Rep K (upd V p (.tup xs)) (.ref p) (.tuple ds) := .tup upd_same (r.mono (same_new (s.free hp)))
theorem new_lst {xs : List L2.V} {ds : List PyData} {p : Addr} (s : Same V H) (hp : H p = none) (r : RepL K V xs ds) : Rep K (upd V p (.lst xs)) (.ref p) (.list ds) := .lst upd_same (r.mono (same_new (s.free hp)))
end
def gAdd : PyData → PyData → Option PyData
  | .int i, .int j => some (.int (i + j))
  | .tuple a, .tuple b => if a.length + b.length ≤ LIM then some (.tuple (a ++ b)) else none
  | .list a, .list b => if a.length + b.length ≤ LIM then some (.list (a ++ b)) else none
  | .str a, .str b => if a.length + b.length ≤ LIM then some (.str (a ++ b)) else none
  | _, _ => none
def rAddD (K : KW) : R2 := fun x y H Q => (rI0 fun i j => .int (i + j)) x y H Q ∨ (rCatA K x y H Q ∨ (rCat x y H Q ∨ ∃ i j, x = .str i ∧ y = .str j ∧ i.length + j.length ≤ sizeLine ∧ Q (.str (i ++ j)) H))
theorem op_addD {X : Cx} : OpR X (binaryOp .Add) (rAddD X.kw) := op_add.or (op_catA.or (op_cat.or op_add_str))
theorem od_add {K : KW} : OpD K (rAddD K) gAdd := by
  intro x y dx dy z H V Q s rx ry e q
  cases rx with
  | int i =>
    cases ry with
    | int j => cases e; exact .inl ⟨i, j, rfl, rfl, q _ _ _ (Ext.refl s) (.int _)⟩
    | _ => cases e
  | str i =>
    cases ry with
    | str j =>
      obtain ⟨hl, rfl⟩ := ite_some e
      exact .inr (.inr (.inr ⟨i, j, rfl, rfl, Nat.le_trans hl lim_le, q _ _ _ (Ext.refl s) (.str _)⟩))
    | _ => cases e
  | @lst a xs ds ha ra =>
    cases ry with
    | @lst b ys es hb rb =>
      obtain ⟨hl, rfl⟩ := ite_some e
      refine .inr (.inr (.inl ⟨a, b, xs, ys, rfl, rfl, s _ _ ha, s _ _ hb, ?_, fun p hp => q _ _ _ (Ext.new s hp) (new_lst s hp (ra.append rb))⟩))
      rw [ra.length, rb.length]; exact Nat.le_trans hl lim_le
    | _ => cases e
  | @tup a xs ds ha ra =>
    cases ry with
    | @tup b ys es hb rb =>
      obtain ⟨hl, rfl⟩ := ite_some e
      refine .inr (.inl ⟨a, b, xs, ys, rfl, rfl, sqt s ha, sqt s hb, ?_, fun hx => ?_, fun hx hy => ?_, fun hx hy p hp => q _ _ _ (Ext.new s hp) (new_tup s hp (ra.append rb))⟩)
      · rw [ra.length, rb.length]; exact Nat.le_trans hl lim_le
      · subst hx; cases ra; exact q _ _ _ (Ext.refl s) (.tup hb rb)
      · subst hy; cases rb; exact q _ _ _ (Ext.refl s) (by rw [List.append_nil]; exact .tup ha ra)
    | _ => cases e
  | _ => cases e
def gSub : PyData → PyData → Option PyData
  | .int i, .int j => some (.int (i - j))
  | _, _ => none
theorem od_sub {K : KW} : OpD K (rI0 fun i j => .int (i - j)) gSub := by
  intro x y dx dy z H V Q s rx ry e q
  cases rx with
  | int i =>
    cases ry with
    | int j => cases e; exact ⟨i, j, rfl, rfl, q _ _ _ (Ext.refl s) (.int _)⟩
    | _ => cases e
  | _ => cases e
def gMod : PyData → PyData → Option PyData
  | .int i, .int j => if 0 < j then some (.int (i % j)) else none
  | _, _ => none
theorem od_mod {K : KW} : OpD K (rI (fun _ j => 0 < j) fun i j => .int (i % j)) gMod := by
  intro x y dx dy z H V Q s rx ry e q
  cases rx with
  | int i =>
    cases ry with
    | int j =>
      obtain ⟨hj, rfl⟩ := ite_some e
      exact ⟨i, j, rfl, rfl, hj, q _ _ _ (Ext.refl s) (.int _)⟩
    | _ => cases e
  | _ => cases e
def gDiv : PyData → PyData → Option PyData
  | .int i, .int j => if 0 < j ∧ j < 2 ^ 200 then some (.int (i / j)) else none
  | _, _ => none
theorem od_div {K : KW} : OpD K (rI CDivW fun i j => .int (i / j)) gDiv := by
  intro x y dx dy z H V Q s rx ry e q
  cases rx with
  | int i =>
    cases ry with
    | int j =>
      obtain ⟨hj, rfl⟩ := ite_some e
      exact ⟨i, j, rfl, rfl, wide_div (b := 200) hj.1 (by have h1 := hj.1; have h2 := hj.2; omega) (by decide) (by decide), q _ _ _ (Ext.refl s) (.int _)⟩
    | _ => cases e
  | _ => cases e
def gMul : PyData → PyData → Option PyData
  | .int i, .int j => if ((-(2 ^ 64) < i ∧ i < 2 ^ 64) ∨ (-(2 ^ 64) < j ∧ j < 2 ^ 64)) ∨ (i.natAbs < 2 ^ 2000 ∧ j.natAbs < 2 ^ 2000) then some (.int (i * j)) else none
  | .list a, .int k => if -(2 ^ 63) ≤ k ∧ k < 2 ^ 63 ∧ a.length * k.toNat ≤ LIM then some (.list (List.replicate k.toNat a).flatten) else none
  | .tuple a, .int k => if a ≠ [] ∧ 1 ≤ k ∧ k ≤ 1000 ∧ a.length ≤ 1000 then some (.tuple (List.replicate k.toNat a).flatten) else none
  | _, _ => none
theorem tuple_mul1 (l : Addr) (items : Array Value) (n : Nat) (dd : Option Addr) (sl : Array (Option Value)) (u : Tok) :
    Meets (Builtin.«tuple.__mul__» ⟨[.ref l, .int 1 u], []⟩) (fun _ R s => s.heap.get? l = some { cls := .type "tuple", dict := dd, data := .seq items n, slots := sl } ∧
      R (.ok (.ret (Value.ref l))) s) :=
  .of_wp fun prog w A R s h => by
    obtain ⟨hp, g, d, tk, os⟩ := s
    obtain ⟨hl, h⟩ := h
    have f1 := AutoSeq1.idx_int
    wp_walk using wpAny_loadPart' hl
    exact ⟨_, rfl, h⟩
def rRepT1 (K : PySem.W.Frag) : R2 := fun x y H Q => ∃ l xs, x = .ref l ∧ y = .int 1 ∧ SqT K H l xs ∧ Q (.ref l) H
theorem op_repT1 {X : Cx} : OpR X (binaryOp .Mult) (rRepT1 X.K) := by
  intro pins s σ H x y v u Q I rx ry h
  obtain ⟨l, xs, rfl, rfl, hT, q⟩ := h
  cases rx
  obtain ⟨t, rfl⟩ := ry
  obtain ⟨its, r, ⟨⟨cls, dd, data, sl⟩, ho, hc, n, hd⟩, hs⟩ := I.tuple hT
  simp only at hc hd
  subst hc hd
  exact wpAny_binaryOp_repeat_ref (T := "tuple") (U := "int") (by decide) ⟨_, ho, rfl⟩ (fun s' => typeIs_int s' 1 t) noFill_tuple_mul F.fills_int_mul F.slot_int_rmul repeat_tuple F.slot_int_index.lookup
    (call_meets F.slot_int_rmul (typeIs_int s 1 t) F.entry_int_rmul (F.args_int_rmul_2 _ _) (int_rmul_tuple 1 t l its.toArray n dd sl)
      ⟨ho, rfl, ⟨_, ho, rfl⟩, call_meets F.slot_tuple_mul ⟨_, ho, rfl⟩ F.entry_tuple_mul (F.args_tuple_mul_2 _ _) (tuple_mul1 l its.toArray n dd sl t) ⟨ho, .ref l, H, I, rfl, q⟩⟩)
def rMulD (K : KW) : R2 := fun x y H Q => (rI CMul fun i j => .int (i * j)) x y H Q ∨ ((rI CMulW fun i j => .int (i * j)) x y H Q ∨ (rRep x y H Q ∨ (rRepT K x y H Q ∨ rRepT1 K x y H Q)))
theorem op_mulD {X : Cx} : OpR X (binaryOp .Mult) (rMulD X.kw) := op_mul.or (op_mulW.or (op_rep.or (op_repT.or op_repT1)))
theorem od_mul {K : KW} : OpD K (rMulD K) gMul := by
  intro x y dx dy z H V Q s rx ry e q
  cases rx with
  | int i =>
    cases ry with
    | int j =>
      obtain ⟨hj, rfl⟩ := ite_some e
      rcases hj with hj | hj
      · exact .inl ⟨i, j, rfl, rfl, hj, q _ _ _ (Ext.refl s) (.int _)⟩
      · exact .inr (.inl ⟨i, j, rfl, rfl, wide_mul hj.1 hj.2 (by decide) (by decide) (by decide), q _ _ _ (Ext.refl s) (.int _)⟩)
    | _ => cases e
  | @lst a xs ds ha ra =>
    cases ry with
    | int k =>
      obtain ⟨hl, rfl⟩ := ite_some e
      exact .inr (.inr (.inl ⟨a, k, xs, rfl, rfl, s _ _ ha, hl.1, hl.2.1, by rw [ra.length]; exact Nat.le_trans hl.2.2 lim_le, fun p hp => q _ _ _ (Ext.new s hp) (new_lst s hp (ra.rep _))⟩))
    | _ => cases e
  | @tup a xs ds ha ra =>
    cases ry with
    | int k =>
      obtain ⟨hl, rfl⟩ := ite_some e
      by_cases hk : k = 1
      · subst hk
        refine .inr (.inr (.inr (.inr ⟨a, xs, rfl, rfl, sqt s ha, q _ _ _ (Ext.refl s) ?_⟩)))
        have e1 : (List.replicate (1 : Int).toNat ds).flatten = ds := by simp
        rw [e1]
        exact .tup ha ra
      · refine .inr (.inr (.inr (.inl ⟨a, k, xs, rfl, rfl, sqt s ha, fun h => hl.1 ?_, by have := hl.2.1; omega, hl.2.2.1, by rw [ra.length]; exact hl.2.2.2, fun p hp => q _ _ _ (Ext.new s hp) (new_tup s hp (ra.rep _))⟩)))
        subst h; cases ra; rfl
    | _ => cases e
  | _ => cases e
def gPow : PyData → PyData → Option PyData
  | .int i, .int j => if 0 ≤ j ∧ j ≤ 1000 ∧ i.natAbs < 2 ^ 64 then some (.int (i ^ j.toNat)) else none
  | _, _ => none
theorem od_pow {K : KW} : OpD K (rI CPow fun i j => .int (i ^ j.toNat)) gPow := by
  intro x y dx dy z H V Q s rx ry e q
  cases rx with
  | int i =>
    cases ry with
    | int j =>
      obtain ⟨hj, rfl⟩ := ite_some e
      exact ⟨i, j, rfl, rfl, ⟨hj.1, by have := hj.2.1; omega, hj.2.2⟩, q _ _ _ (Ext.refl s) (.int _)⟩
    | _ => cases e
  | _ => cases e
def gCmpI (p : Int → Int → Bool) : PyData → PyData → Option PyData
  | .int i, .int j => some (.bool (p i j))
  | _, _ => none
theorem od_cmpI {K : KW} {p : Int → Int → Bool} : OpD K (rI0 fun i j => .bl (p i j)) (gCmpI p) := by
  intro x y dx dy z H V Q s rx ry e q
  cases rx with
  | int i =>
    cases ry with
    | int j => cases e; exact ⟨i, j, rfl, rfl, q _ _ _ (Ext.refl s) (.bl _)⟩
    | _ => cases e
  | _ => cases e
def gLe := gCmpI fun i j => decide (i ≤ j)
def gGt := gCmpI fun i j => decide (j < i)
def gGe := gCmpI fun i j => decide (j ≤ i)
theorem od_le {K : KW} : OpD K (rI0 fun i j => .bl (decide (i ≤ j))) gLe := od_cmpI
theorem od_gt {K : KW} : OpD K (rI0 fun i j => .bl (decide (j < i))) gGt := od_cmpI
theorem od_ge {K : KW} : OpD K (rI0 fun i j => .bl (decide (j ≤ i))) gGe := od_cmpI
def gEq (x y : PyData) : Option PyData := if (SeqAt.shaped x && SeqAt.shaped y) = true then some (.bool (PyData.eqv x y)) else none
def gNe (x y : PyData) : Option PyData := if (SeqAt.shaped x && SeqAt.shaped y) = true then some (.bool (!PyData.eqv x y)) else none
theorem od_eq {K : KW} : OpD K (rEqD K) gEq := by
  intro x y dx dy z H V Q s rx ry e q
  obtain ⟨h, rfl⟩ := ite_some e
  obtain ⟨h1, h2⟩ := Bool.and_eq_true_iff.mp h
  exact ⟨dx, dy, (rx.mono s).dp (SeqAt.canLay_of_shaped h1), (ry.mono s).dp (SeqAt.canLay_of_shaped h2), h1, h2, q _ _ _ (Ext.refl s) (.bl _)⟩
theorem od_ne {K : KW} : OpD K (rNeD K) gNe := by
  intro x y dx dy z H V Q s rx ry e q
  obtain ⟨h, rfl⟩ := ite_some e
  obtain ⟨h1, h2⟩ := Bool.and_eq_true_iff.mp h
  exact ⟨dx, dy, (rx.mono s).dp (SeqAt.canLay_of_shaped h1), (ry.mono s).dp (SeqAt.canLay_of_shaped h2), h1, h2, q _ _ _ (Ext.refl s) (.bl _)⟩
def isNone : PyData → Bool
  | .none => true
  | _ => false
def gIs : PyData → PyData → Option PyData
  | x, .none => some (.bool (isNone x))
  | .bool a, .bool b => some (.bool (decide (a = b)))
  | _, _ => none
theorem isNone_rep {K : KW} {V : Hp} {x : L2.V} {d : PyData} (r : Rep K V x d) : decide (x = .non) = isNone d := by
  cases r <;> rfl
def rIsD : R2 := fun x y H Q => (y = .non ∧ Q (.bl (decide (x = .non))) H) ∨ ∃ a b, x = .bl a ∧ y = .bl b ∧ Q (.bl (decide (a = b))) H
theorem op_isD {X : Cx} : OpR X (compareOp .Is) rIsD := op_isN.or op_is_bl
theorem od_is {K : KW} : OpD K rIsD gIs := by
  intro x y dx dy z H V Q s rx ry e q
  cases ry with
  | non =>
    have e2 : z = .bool (isNone dx) := by cases dx <;> exact (Option.some.inj e).symm
    subst e2
    exact .inl ⟨rfl, by rw [isNone_rep rx]; exact q _ _ _ (Ext.refl s) (.bl _)⟩
  | bl b =>
    cases rx with
    | bl a => cases e; exact .inr ⟨a, b, rfl, rfl, q _ _ _ (Ext.refl s) (.bl _)⟩
    | _ => cases e
  | _ => cases rx <;> cases e
def gIn : PyData → PyData → Option PyData
  | x, .list ds => if (SeqAt.shaped x && SeqAt.shaped (.list ds)) = true then some (.bool (ds.any fun z => PyData.eqv z x)) else none
  | x, .tuple ds => if (SeqAt.shaped x && SeqAt.shaped (.tuple ds)) = true then some (.bool (ds.any fun z => PyData.eqv z x)) else none
  | .str x, .str z => match x.cps.toList with
    | [c] => some (.bool (decide (c ∈ z.cps.toList)))
    | _ => none
  | _, _ => none
def gNotIn : PyData → PyData → Option PyData
  | x, .list ds => if (SeqAt.shaped x && SeqAt.shaped (.list ds)) = true then some (.bool (!ds.any fun z => PyData.eqv z x)) else none
  | x, .tuple ds => if (SeqAt.shaped x && SeqAt.shaped (.tuple ds)) = true then some (.bool (!ds.any fun z => PyData.eqv z x)) else none
  | _, _ => none
/-- in a tuple -/
def rInT (K : KW) : R2 := fun x y H Q => ∃ dx es, Dp K H x dx ∧ Dp K H y (.tuple es) ∧ SeqAt.shaped dx = true ∧ SeqAt.shaped (.tuple es) = true ∧ Q (.bl (es.any fun z => PyData.eqv z dx)) H
def rNotInT (K : KW) : R2 := fun x y H Q => ∃ dx es, Dp K H x dx ∧ Dp K H y (.tuple es) ∧ SeqAt.shaped dx = true ∧ SeqAt.shaped (.tuple es) = true ∧ Q (.bl (!es.any fun z => PyData.eqv z dx)) H
theorem op_inT {X : Cx} (hu : X.A.units + 65 < cLine) : OpR X (compareOp .In) (rInT X.kw) := by
  intro pins s σ H x y v u Q I rx ry ⟨dx, es, h1, h2, s1, s2, q⟩
  obtain ⟨as, r1⟩ := Dp.reads I dx x v h1 rx
  obtain ⟨bs, r2⟩ := Dp.reads I (.tuple es) y u h2 ry
  exact SeqAt.in_tuple_reads r2 r1 (by have := SeqAt.canLay_of_shaped s2; rw [PyData.canLay0] at this; exact this) (SeqAt.canLay_of_shaped s1) (room_in_shaped s1 hu) ⟨.bl _, H, I, rfl, q⟩
theorem op_notInT {X : Cx} (hu : X.A.units + 65 < cLine) : OpR X (compareOp .NotIn) (rNotInT X.kw) := by
  intro pins s σ H x y v u Q I rx ry ⟨dx, es, h1, h2, s1, s2, q⟩
  obtain ⟨as, r1⟩ := Dp.reads I dx x v h1 rx
  obtain ⟨bs, r2⟩ := Dp.reads I (.tuple es) y u h2 ry
  exact SeqAt.notIn_tuple_reads r2 r1 (by have := SeqAt.canLay_of_shaped s2; rw [PyData.canLay0] at this; exact this) (SeqAt.canLay_of_shaped s1) (room_in_shaped s1 hu) ⟨.bl _, H, I, rfl, q⟩
def rSign : R2 := fun x y H Q => ∃ (c : Nat) (z : Str), x = .str ⟨#[c]⟩ ∧ y = .str z ∧ Q (.bl (decide (c ∈ z.cps.toList))) H
def rInAll (K : KW) : R2 := fun x y H Q => rInD K x y H Q ∨ (rInT K x y H Q ∨ rSign x y H Q)
theorem op_inAll {X : Cx} (hu : X.A.units + 65 < cLine) : OpR X (compareOp .In) (rInAll X.kw) := (op_inD hu).or ((op_inT hu).or op_in_sign)
def rNotInAll (K : KW) : R2 := fun x y H Q => rNotInD K x y H Q ∨ rNotInT K x y H Q
theorem op_notInAll {X : Cx} (hu : X.A.units + 65 < cLine) : OpR X (compareOp .NotIn) (rNotInAll X.kw) := (op_notInD hu).or (op_notInT hu)
theorem od_in {K : KW} : OpD K (rInAll K) gIn := by
  intro x y dx dy z H V Q s rx ry e q
  cases ry with
  | @lst a xs ds ha ra =>
    have e2 : (if (SeqAt.shaped dx && SeqAt.shaped (.list ds)) = true then some (PyData.bool (ds.any fun z => PyData.eqv z dx)) else none) = some z := by cases dx <;> exact e
    obtain ⟨h, rfl⟩ := ite_some e2
    obtain ⟨h1, h2⟩ := Bool.and_eq_true_iff.mp h
    exact .inl ⟨dx, ds, (rx.mono s).dp (SeqAt.canLay_of_shaped h1), ((Rep.lst ha ra).mono s).dp (SeqAt.canLay_of_shaped h2), h1, h2, q _ _ _ (Ext.refl s) (.bl _)⟩
  | @tup a xs ds ha ra =>
    have e2 : (if (SeqAt.shaped dx && SeqAt.shaped (.tuple ds)) = true then some (PyData.bool (ds.any fun z => PyData.eqv z dx)) else none) = some z := by cases dx <;> exact e
    obtain ⟨h, rfl⟩ := ite_some e2
    obtain ⟨h1, h2⟩ := Bool.and_eq_true_iff.mp h
    exact .inr (.inl ⟨dx, ds, (rx.mono s).dp (SeqAt.canLay_of_shaped h1), ((Rep.tup ha ra).mono s).dp (SeqAt.canLay_of_shaped h2), h1, h2, q _ _ _ (Ext.refl s) (.bl _)⟩)
  | str w =>
    cases rx with
    | str u =>
      obtain ⟨l⟩ := u
      obtain ⟨l⟩ := l
      match l, e with
      | [c], e =>
        cases e
        exact .inr (.inr ⟨c, w, rfl, rfl, q _ _ _ (Ext.refl s) (.bl _)⟩)
      | [], e => cases e
      | _ :: _ :: _, e => cases e
    | _ => cases e
  | _ => cases rx <;> cases e
theorem od_notIn {K : KW} : OpD K (rNotInAll K) gNotIn := by
  intro x y dx dy z H V Q s rx ry e q
  cases ry with
  | @lst a xs ds ha ra =>
    have e2 : (if (SeqAt.shaped dx && SeqAt.shaped (.list ds)) = true then some (PyData.bool (!ds.any fun z => PyData.eqv z dx)) else none) = some z := by cases dx <;> exact e
    obtain ⟨h, rfl⟩ := ite_some e2
    obtain ⟨h1, h2⟩ := Bool.and_eq_true_iff.mp h
    exact .inl ⟨dx, ds, (rx.mono s).dp (SeqAt.canLay_of_shaped h1), ((Rep.lst ha ra).mono s).dp (SeqAt.canLay_of_shaped h2), h1, h2, q _ _ _ (Ext.refl s) (.bl _)⟩
  | @tup a xs ds ha ra =>
    have e2 : (if (SeqAt.shaped dx && SeqAt.shaped (.tuple ds)) = true then some (PyData.bool (!ds.any fun z => PyData.eqv z dx)) else none) = some z := by cases dx <;> exact e
    obtain ⟨h, rfl⟩ := ite_some e2
    obtain ⟨h1, h2⟩ := Bool.and_eq_true_iff.mp h
    exact .inr ⟨dx, ds, (rx.mono s).dp (SeqAt.canLay_of_shaped h1), ((Rep.tup ha ra).mono s).dp (SeqAt.canLay_of_shaped h2), h1, h2, q _ _ _ (Ext.refl s) (.bl _)⟩
  | _ => cases rx <;> cases e
def atD (ds : List PyData) (i : Int) : Option PyData := if 0 ≤ i then ds[i.toNat]? else if -(ds.length : Int) ≤ i then ds[(i + ds.length).toNat]? else none
def gIx : PyData → PyData → Option PyData
  | .list ds, .int i => atD ds i
  | .tuple ds, .int i => atD ds i
  | _, _ => none
theorem atD_get {K : KW} {V : Hp} {xs : List L2.V} {ds : List PyData} {i : Int} {z : PyData} (r : RepL K V xs ds) (h : atD ds i = some z) : ∃ v, atI xs i = some v ∧ Rep K V v z := by
  unfold atD at h
  unfold atI ixN
  have hl := r.length
  by_cases h0 : 0 ≤ i
  · rw [if_pos h0] at h ⊢
    obtain ⟨hlt, _⟩ := List.getElem?_eq_some_iff.mp h
    obtain ⟨v, h1, h2⟩ := r.get _ h
    rw [if_pos (by omega)]
    exact ⟨v, h1, h2⟩
  · rw [if_neg h0] at h ⊢
    by_cases hn : -(ds.length : Int) ≤ i
    · rw [if_pos hn] at h
      rw [if_pos (by omega)]
      obtain ⟨v, h1, h2⟩ := r.get _ h
      exact ⟨v, by rw [hl]; exact h1, h2⟩
    · rw [if_neg hn] at h; cases h
theorem od_ix {K : KW} : OpD K (rIx K) gIx := by
  intro x y dx dy z H V Q s rx ry e q
  cases rx with
  | @lst a xs ds ha ra =>
    cases ry with
    | int i =>
      obtain ⟨v, h1, h2⟩ := atD_get ra e
      exact .inl ⟨a, xs, i, v, rfl, rfl, .inl (.inl (s _ _ ha)), h1, q _ _ _ (Ext.refl s) h2⟩
    | _ => cases e
  | @tup a xs ds ha ra =>
    cases ry with
    | int i =>
      obtain ⟨v, h1, h2⟩ := atD_get ra e
      exact .inr (.inl ⟨a, xs, i, v, rfl, rfl, sqt s ha, h1, q _ _ _ (Ext.refl s) h2⟩)
    | _ => cases e
  | _ => cases ry <;> cases e
def cutD (ds : List PyData) (lo hi : Option Int) : List PyData := (ds.drop (HT.sIx ds.length 0 lo)).take (HT.sIx ds.length ds.length hi - HT.sIx ds.length 0 lo)
theorem cut_rep {K : KW} {V : Hp} {xs : List L2.V} {ds : List PyData} (r : RepL K V xs ds) (lo hi : Option Int) : RepL K V (cutV xs lo hi) (cutD ds lo hi) := by
  unfold cutV cutD
  rw [r.length]
  exact (r.drop _).take _
def gCut (lo hi : Option Int) : PyData → Option PyData
  | .list ds => some (.list (cutD ds lo hi))
  | .tuple ds => some (.tuple (cutD ds lo hi))
  | _ => none
def asI : PyData → Option Int
  | .int i => some i
  | _ => none
/-- a part of a slice -/
def prt (a : M PyData) : M (Option Int) := M.bind a fun x => M.bind (M.opt (asI x)) fun i => M.pure (some i)
def noPrt : M (Option Int) := M.pure none
def slc (a : M PyData) (lo hi : M (Option Int)) : M PyData := M.bind a fun x => M.bind lo fun l => M.bind hi fun h => M.opt (gCut l h x)
def tMO (K : KW) (F : Fr) (f : M (Option Int)) : TO := fun σ H Q => ∃ V ρ, EnvR K F H V σ ρ ∧ Goal K F σ ρ H V (fun _ b a => b = a) (f ρ) Q
def PMO (X : Cx) (F : Fr) (e : Option Expr) (f : M (Option Int)) : Prop := PO X e (tMO X.kw F f)
theorem PO.imp {X : Cx} {e : Option Expr} {t u : TO} (h : PO X e t) (i : ∀ σ H Q, u σ H Q → t σ H Q) : PO X e u := by
  obtain ⟨r⟩ := h
  exact ⟨fun pins s σ H Q I q => r pins s σ H Q I (i σ H Q q)⟩
section
variable {X : Cx} {F : Fr} {e : Expr} {fa : M PyData} {fl fh : M (Option Int)}
theorem pmo_none : PMO X F none noPrt := PO.imp po_none fun σ H Q ⟨V, ρ, E, g⟩ => Goal.pure0 E g rfl
theorem pmo_some (h : PM X F e fa) : PMO X F (some e) (prt fa) := by
  refine PO.imp (po_some h) fun σ H Q ⟨V, ρ, E, g0⟩ => ⟨V, ρ, E, Goal.bind g0 fun x dx H1 V1 ρ1 st1 r1 g1 => ?_⟩
  cases r1 with
  | int i => exact ⟨i, rfl, Goal.pure0 st1.env g1 rfl⟩
  | _ => exact False.elim g1
theorem pm_slice {lo hi : Option Expr} {p2 pos : Pos} (he : PM X F e fa) (hl : PMO X F lo fl) (hh : PMO X F hi fh) : PM X F (.Subscript e (.Slice lo hi none p2) pos) (slc fa fl fh) := by
  refine PE.imp (pe_slice (sl_list.or sl_tupA) he hl hh) fun σ H Q ⟨V, ρ, E, g0⟩ => ⟨V, ρ, E, Goal.bind g0 fun x dx H1 V1 ρ1 st1 r1 g1 =>
    ⟨V1, ρ1, st1.env, Goal.bind g1 fun l l' H2 V2 ρ2 st2 r2 g2 => ⟨V2, ρ2, st2.env, Goal.bind g2 fun h h' H3 V3 ρ3 st3 r3 g3 => ?_⟩⟩⟩
  subst r2 r3
  obtain ⟨z, ez, q⟩ := Goal.opt st3.env g3
  have rx := (r1.mono st2.v).mono st3.v
  have s := st3.env.sub
  cases rx with
  | @lst a xs ds ha ra =>
    cases ez
    exact .inl ⟨a, xs, rfl, .inl (.inl (s _ _ ha)), fun p hp => q _ _ _ (Ext.new s hp) (new_lst s hp (cut_rep ra l h))⟩
  | @tup a xs ds ha ra =>
    cases ez
    refine .inr ⟨a, xs, rfl, sqt s ha, fun hw => ?_, fun hw p hp => q _ _ _ (Ext.new s hp) (new_tup s hp (cut_rep ra l h))⟩
    refine q _ _ _ (Ext.refl s) ?_
    have e2 : cutD ds l h = ds := by
      unfold cutD
      rw [← ra.length, hw.1, hw.2, List.drop_zero, Nat.sub_zero, ra.length]
      exact List.take_length
    rw [e2]
    exact .tup ha ra
  | _ => cases ez
end
def gLen : List PyData → Option PyData
  | [.list ds] => some (.int ds.length)
  | [.tuple ds] => some (.int ds.length)
  | [.str x] => if x.length ≤ LIM then some (.int x.length) else none
  | _ => none
theorem cd_len {K : KW} : CallD K (fun xs H Q => ∃ x n, xs = [x] ∧ LenV K x H n ∧ Q (.int n) H) gLen := by
  intro xs ds z H V Q s r e q
  cases r with
  | nil => cases e
  | cons r1 r2 =>
    cases r2 with
    | cons _ _ => cases r1 <;> cases e
    | nil =>
      cases r1 with
      | @lst a ys es ha ra => cases e; exact ⟨_, ys.length, rfl, .inl ⟨ys, .inl (.inl (s _ _ ha)), rfl⟩, by rw [ra.length]; exact q _ _ _ (Ext.refl s) (.int _)⟩
      | @tup a ys es ha ra => cases e; exact ⟨_, ys.length, rfl, .inr ⟨ys, sqt s ha, rfl⟩, by rw [ra.length]; exact q _ _ _ (Ext.refl s) (.int _)⟩
      | str x =>
        obtain ⟨h, rfl⟩ := ite_some e
        exact ⟨_, _, rfl, ⟨Nat.le_trans h lim_le, rfl⟩, q _ _ _ (Ext.refl s) (.int _)⟩
      | _ => cases e
end DL
set_option Elab.async false
set_option linter.all false
set_option maxRecDepth 100000
set_option maxHeartbeats 1000000
namespace DL
open PySem PySem.Spec PyProof.Rows L2
variable [TabCtx]
inductive O where
  | nx (ρ : Rho)
  | rt (d : PyData) (ρ : Rho)
  | rf (d : PyData) (ρ : Rho)
  | bk (ρ : Rho)
  | ct (ρ : Rho)
  | exc (c : Str)
  | bad
abbrev SM := Rho → O
def seqO (f g : SM) : SM := fun ρ => match f ρ with
  | .nx ρ' => g ρ'
  | o => o
def nxO : SM := fun ρ => .nx ρ
section
variable {K : KW} {F : Fr} {σ : St} {ρ ρ1 : Rho} {H V H1 V1 : Hp}
/-- a value that is new since the frame began -/
def Fsh (F : Fr) (v : L2.V) : Prop := ∀ p, v = .ref p → F.H0 p = none ∧ F.lent ≠ some p
/-- what is wanted behind a statement -/
def GoalS (K : KW) (F : Fr) (V : Hp) (o : O) (D : Ends) : Prop := match o with
  | .nx ρ' => ∀ σ' H' V', EnvR K F H' V' σ' ρ' → Same V V' → D.nx σ' H'
  | .rt d ρ' => ∀ v σ' H' V', EnvR K F H' V' σ' ρ' → Same V V' → Rep K V' v d → D.rt v H'
  | .rf d ρ' => ∀ v σ' H' V', EnvR K F H' V' σ' ρ' → Same V V' → Rep K V' v d → Fsh F v → D.rt v H'
  | .bk ρ' => ∀ σ' H' V', EnvR K F H' V' σ' ρ' → Same V V' → D.bk σ' H'
  | .ct ρ' => ∀ σ' H' V', EnvR K F H' V' σ' ρ' → Same V V' → D.ct σ' H'
  | .exc c => ∀ σ' H' V', Ext F.H0 F.V0 H' V' → F.W (.ref (He.ga K c)) σ' H'
  | .bad => False
def tS (K : KW) (F : Fr) (f : SM) : TS := fun D σ H => ∃ V ρ, EnvR K F H V σ ρ ∧ GoalS K F V (f ρ) D
theorem GoalS.mono {o : O} {D : Ends} (v : Same V V1) (g : GoalS K F V o D) : GoalS K F V1 o D := by
  cases o with
  | nx ρ' => exact fun σ' H' V' E s => g σ' H' V' E (v.trans s)
  | rt d ρ' => exact fun x σ' H' V' E s => g x σ' H' V' E (v.trans s)
  | rf d ρ' => exact fun x σ' H' V' E s => g x σ' H' V' E (v.trans s)
  | bk ρ' => exact fun σ' H' V' E s => g σ' H' V' E (v.trans s)
  | ct ρ' => exact fun σ' H' V' E s => g σ' H' V' E (v.trans s)
  | exc c => exact g
  | bad => exact g
/-- an expression ahead of a statement's end -/
def exO {α : Type} (f : M α) (k : α → SM) : SM := fun ρ => match f ρ with
  | .ok (a, ρ') => k a ρ'
  | .exc c => .exc c
  | .bad => .bad
theorem Goal.ex {α β : Type} {rep1 : Hp → β → α → Prop} {f : M α} {k : α → SM} {D : Ends} {Q1 : β → Hp → Prop}
    (g : GoalS K F V (exO f k ρ) D)
    (h : ∀ b a H' V' ρ', Stp K F σ ρ ρ' H V H' V' → rep1 V' b a → GoalS K F V' (k a ρ') D → Q1 b H') : Goal K F σ ρ H V rep1 (f ρ) Q1 := by
  unfold exO at g
  cases e : f ρ with
  | ok p =>
    obtain ⟨a, ρ'⟩ := p
    rw [e] at g
    exact fun b H' V' st r => h b a H' V' ρ' st r (GoalS.mono st.v g)
  | exc c => rw [e] at g; exact fun H' V' x => g σ H' V' x
  | bad => rw [e] at g; exact g
end
def PMS (X : Cx) (F : Fr) (st : Stmt) (f : SM) : Prop := PS X st (tS X.kw F f)
def PMSs (X : Cx) (F : Fr) (st : List Stmt) (f : SM) : Prop := PSs X st (tS X.kw F f)
section
variable {X : Cx} {F : Fr} {st : Stmt} {rest sts : List Stmt} {f g : SM} {e : Expr} {fa : M PyData} {ft : M Bool} {pos : Pos}
theorem pms_nil : PMSs X F [] nxO := PSs.imp pss_nil fun D σ H ⟨V, ρ, E, g⟩ => g σ H V E (Same.refl _)
theorem pms_cons (h1 : PMS X F st f) (h2 : PMSs X F rest g) : PMSs X F (st :: rest) (seqO f g) := by
  refine PSs.imp (pss_cons h1 h2) fun D σ H ⟨V, ρ, E, g0⟩ => ⟨V, ρ, E, ?_⟩
  unfold seqO at g0
  cases e : f ρ with
  | nx ρ' => rw [e] at g0; exact fun σ' H' V' E' v => ⟨V', ρ', E', GoalS.mono v g0⟩
  | rt d ρ' => rw [e] at g0; exact g0
  | rf d ρ' => rw [e] at g0; exact g0
  | bk ρ' => rw [e] at g0; exact g0
  | ct ρ' => rw [e] at g0; exact g0
  | exc c => rw [e] at g0; exact g0
  | bad => rw [e] at g0; exact g0
theorem pms_one (h1 : PMS X F st f) : PMSs X F [st] f := pss_one h1
def dropO (a : M PyData) : SM := exO a fun _ => nxO
theorem pms_expr (h : PM X F e fa) (hs : swapsWith e none pos.line X.env = pure false := by rfl) : PMS X F (.Expr e pos) (dropO fa) :=
  PS.imp (ps_expr h hs) fun D σ H ⟨V, ρ, E, g⟩ => ⟨V, ρ, E, Goal.ex g fun v d H1 V1 ρ1 st1 r1 g1 => g1 σ H1 V1 st1.env (Same.refl _)⟩
def retO (a : M PyData) : SM := exO a fun d ρ => .rt d ρ
theorem pms_ret (h : PM X F e fa) : PMS X F (.Return (some e) pos) (retO fa) :=
  PS.imp (ps_ret h) fun D σ H ⟨V, ρ, E, g⟩ => ⟨V, ρ, E, Goal.ex g fun v d H1 V1 ρ1 st1 r1 g1 => g1 v σ H1 V1 st1.env (Same.refl _) r1⟩
def ifO (t : M Bool) (f g : SM) : SM := exO t fun b => if b = true then f else g
theorem pms_if {c : Expr} {a b : List Stmt} (hc : PMT X F c ft) (ha : PMSs X F a f) (hb : PMSs X F b g) : PMS X F (.If c a b pos) (ifO ft f g) := by
  refine PS.imp (ps_if hc ha hb) fun D σ H ⟨V, ρ, E, g⟩ => ⟨V, ρ, E, Goal.ex g fun v d H1 V1 ρ1 st1 r1 g1 => ?_⟩
  subst r1
  cases v with
  | true => exact ⟨V1, ρ1, st1.env, g1⟩
  | false => exact ⟨V1, ρ1, st1.env, g1⟩
/-- an exception: raise C('..') -/
def raiseO (c : Str) : SM := fun _ => .exc c
theorem takesN0 {X : Cx} : L2N.Takes X (fun _ _ _ _ => False) := fun _ _ ⟨_, _, _, _, _, _, _, _, _, _, _, _, _, _, _, _, w⟩ => w.elim
/-- what the context asks: exceptions reach the frame's wish -/
def Tk (X : Cx) (F : Fr) : Prop := L2N.Takes X fun cls d σ H => d = none ∧ F.W cls σ H
structure ExcF (K : PySem.W.Frag) (mg : Str → Option Value) (c : Str) : Prop where
  g : mg c = some (.ref (He.ga K c))
  x : PySem.W.excIn K (He.ga K c) He.veBase "ValueError.__new__" = true ∧ PySem.W.keepIn K (.ref (He.ga K c)) = true ∧ PySem.W.subIn K (.ref (He.ga K c)) (.type "BaseException") = some true ∧ PySem.W.typeIn K (.ref (He.ga K c)) = some (.type "type")
theorem pms_raise {c m : Str} {j : Nat} {p p2 pos2 : Pos} (T : ExcF X.K X.mg c) (tk : Tk X F) (hc : X.calm = true := by rfl) (hg : Gl X c := by rfl) (hdb : (c == ("__debug__" : Str)) = false := by decide) : PMS X F (.Raise (some (.Call (.Name c p) [.Constant (.str m) j p2] [] pos2)) none pos) (raiseO c) := by
  refine PS.imp (L2N.ps_raise hc tk (L2N.pmk_own PySem.F.excBase_ValueError T.x.1 T.g T.x.2.1 (raises_own T.x.2.2.1 T.x.2.2.2) hg hdb)) fun D σ H ⟨V, ρ, E, g⟩ => ?_
  exact ⟨rfl, g σ H V E.ext⟩
end
def GM := PyData → Rho → R Rho
def tGM (K : KW) (F : Fr) (is : List Nat) (g : GM) : TG := fun v σ H Q => ∃ V ρ d, EnvR K F H V σ ρ ∧ Rep K V v d ∧ match g d ρ with
  | .ok ρ' => ∀ σ' H' V', EnvR K F H' V' σ' ρ' → Ext H V H' V' → (∀ vs : List Nat, (∀ i ∈ is, i ∈ vs) → wipe σ' vs = wipe σ vs) → (∀ b, IsOwn σ' ρ' b → IsOwn σ ρ b) → (∀ (i : Nat) (d : PyData), i ∉ is → ρ'[i]? = some (.sh d) → ρ[i]? = some (.sh d)) → Q σ' H'
  | .exc _ => False
  | .bad => False
def PMG (X : Cx) (F : Fr) (tg : Expr) (is : List Nat) (g : GM) : Prop := PG X tg (tGM X.kw F is g)
def PMGs (X : Cx) (F : Fr) (tgs : List Expr) (is : List Nat) (g : List PyData → Rho → R Rho) : Prop := PGs X tgs fun vs σ H Q => ∃ V ρ ds, EnvR X.kw F H V σ ρ ∧ RepL X.kw V vs ds ∧ match g ds ρ with
  | .ok ρ' => ∀ σ' H' V', EnvR X.kw F H' V' σ' ρ' → Ext H V H' V' → (∀ vs : List Nat, (∀ i ∈ is, i ∈ vs) → wipe σ' vs = wipe σ vs) → (∀ b, IsOwn σ' ρ' b → IsOwn σ ρ b) → (∀ (i : Nat) (d : PyData), i ∉ is → ρ'[i]? = some (.sh d) → ρ[i]? = some (.sh d)) → Q σ' H'
  | .exc _ => False
  | .bad => False
theorem PG.imp {X : Cx} {e : Expr} {t u : TG} (h : PG X e t) (i : ∀ v σ H Q, u v σ H Q → t v σ H Q) : PG X e u := ⟨fun pins s σ H v w Q I r q => h.run pins s σ H v w Q I r (i v σ H Q q)⟩
theorem PGs.imp {X : Cx} {e : List Expr} {t u : TGs} (h : PGs X e t) (i : ∀ v σ H Q, u v σ H Q → t v σ H Q) : PGs X e u := ⟨fun pins s σ H v w Q I r q => h.run pins s σ H v w Q I r (i v σ H Q q)⟩
/-- a slot is given data -/
def setS (i : Nat) : GM := fun d ρ => if i < ρ.length then .ok (ρ.set i (.sh d)) else .bad
section
variable {K : KW} {F : Fr} {σ : St} {ρ ρ1 : Rho} {H V H1 V1 : Hp} {X : Cx} {pos : Pos}
theorem EnvR.setSh (E : EnvR K F H V σ ρ) {i : Nat} {v : L2.V} {d : PyData} (r : Rep K V v d) (hl : i ≠ F.ls ∨ F.lent = none) : EnvR K F H V (σ.set i (some v)) (ρ.set i (.sh d)) := by
  have hlen := E.len
  refine ⟨by simp [hlen], E.ext, fun j e h => ?_, fun j e h => ?_, fun j k a e e' h1 h2 h3 h4 => ?_, fun a ha => ?_, E.tab⟩
  · by_cases hj : i = j
    · subst hj
      by_cases hi : i < ρ.length
      · rw [List.getElem?_set_self hi] at h
        cases h
        exact ⟨v, List.getElem?_set_self (by omega), r⟩
      · rw [List.getElem?_eq_none (by simpa using hi)] at h; cases h
    · rw [List.getElem?_set_ne hj] at h ⊢
      exact E.sh j e h
  · by_cases hj : i = j
    · subst hj
      by_cases hi : i < ρ.length
      · rw [List.getElem?_set_self hi] at h; cases h
      · rw [List.getElem?_eq_none (by simpa using hi)] at h; cases h
    · rw [List.getElem?_set_ne hj] at h ⊢
      exact E.ow j e h
  · have ne : ∀ {m : Nat} {x : PyData}, (ρ.set i (.sh d))[m]? = some (.ow x) → i ≠ m := fun {m x} q z => by
      subst z
      by_cases hi : i < ρ.length
      · rw [List.getElem?_set_self hi] at q; cases q
      · rw [List.getElem?_eq_none (by simpa using hi)] at q; cases q
    have n1 := ne h1
    have n2 := ne h2
    rw [List.getElem?_set_ne n1] at h1 h3
    rw [List.getElem?_set_ne n2] at h2 h4
    exact E.dis j k a e e' h1 h2 h3 h4
  · rcases hl with hl | hl
    · rw [List.getElem?_set_ne hl]; exact E.lent a ha
    · rw [hl] at ha; cases ha
theorem wipe_set {σ : St} {i : Nat} {x : Option L2.V} : ∀ {vs : List Nat}, i ∈ vs → wipe (σ.set i x) vs = wipe σ vs
  | [], h => by cases h
  | v :: vs, h => by
    show (wipe (σ.set i x) vs).set v none = (wipe σ vs).set v none
    by_cases e : i ∈ vs
    · rw [wipe_set e]
    · have e2 : i = v := by
        rcases List.mem_cons.mp h with z | z
        · exact z
        · exact absurd z e
      subst e2
      have key : ∀ {ws : List Nat}, i ∉ ws → wipe (σ.set i x) ws = (wipe σ ws).set i x := by
        intro ws
        induction ws with
        | nil => intro _; rfl
        | cons w ws ih =>
          intro hn
          show (wipe (σ.set i x) ws).set w none = ((wipe σ ws).set w none).set i x
          rw [ih fun z => hn (List.mem_cons_of_mem _ z), List.set_comm _ _ (fun z => hn (by rw [z]; exact List.mem_cons_self))]
      rw [key e, List.set_set]
theorem isOwn_set {σ : St} {ρ : Rho} {i : Nat} {d : PyData} {v : Option L2.V} {b : Addr} (h : IsOwn (σ.set i v) (ρ.set i (.sh d)) b) : IsOwn σ ρ b := by
  obtain ⟨j, e, h1, h2⟩ := h
  have ne : i ≠ j := fun z => by
    subst z
    by_cases hi : i < ρ.length
    · rw [List.getElem?_set_self hi] at h1; cases h1
    · rw [List.getElem?_eq_none (by simpa using hi)] at h1; cases h1
  rw [List.getElem?_set_ne ne] at h1 h2
  exact ⟨j, e, h1, h2⟩
theorem pmg_name (i : Nat) {x : Str} (hN : X.N.Nodup) (hi : X.N[i]? = some x := by rfl) (hx : Loc X.env.scope x := by first | exact Or.inl rfl | exact Or.inr rfl) (hl : i ≠ F.ls ∨ F.lent = none := by first | exact Or.inr rfl | exact Or.inl (ne_ls rfl))
    (hf : X.fn x = true ∨ X.env.scope.names.lookup x = some .local := by first | exact .inl rfl | exact .inr rfl | assumption) : PMG X F (.Name x pos) [i] (setS i) := by
  refine PG.imp (pg_name hN hi hx hf) fun v σ H Q ⟨V, ρ, d, E, r, g⟩ => ?_
  unfold setS at g
  by_cases hlt : i < ρ.length
  · rw [if_pos hlt] at g
    exact g _ _ _ (E.setSh r hl) (Ext.refl E.sub) (fun vs hv => wipe_set (hv i (List.mem_singleton.mpr rfl))) (fun b hb => isOwn_set hb) fun j e hj q => by
      rw [List.getElem?_set_ne (fun z => hj (List.mem_singleton.mpr z.symm))] at q
      exact q
  · rw [if_neg hlt] at g
    exact False.elim g
def gsN : List PyData → Rho → R Rho := fun ds ρ => match ds with
  | [] => .ok ρ
  | _ => .bad
def gsC (g : GM) (gs : List PyData → Rho → R Rho) : List PyData → Rho → R Rho := fun ds ρ => match ds with
  | d :: ds => R.bind (g d ρ) fun ρ' => gs ds ρ'
  | [] => .bad
theorem pmgs_nil : PMGs X F [] [] gsN := by
  refine PGs.imp pgs_nil fun vs σ H Q ⟨V, ρ, ds, E, r, g⟩ => ?_
  cases r with
  | nil => exact ⟨rfl, g _ _ _ E (Ext.refl E.sub) (fun _ _ => rfl) (fun _ h => h) fun _ _ _ h => h⟩
  | cons _ _ => exact False.elim g
theorem pmgs_cons {e : Expr} {es : List Expr} {is js : List Nat} {g : GM} {gs : List PyData → Rho → R Rho} (h1 : PMG X F e is g) (h2 : PMGs X F es js gs)
    (hs : (assignEach (e :: es) X.env).map (·.2) = assign e X.env :: (assignEach es X.env).map (·.2) := by rfl) : PMGs X F (e :: es) (is ++ js) (gsC g gs) := by
  refine PGs.imp (pgs_cons h1 h2 hs) fun vs σ H Q ⟨V, ρ, ds, E, r, g0⟩ => ?_
  cases r with
  | nil => exact False.elim g0
  | @cons v vs d ds r1 r2 =>
    refine ⟨v, vs, rfl, V, ρ, d, E, r1, ?_⟩
    have g0 : (match R.bind (g d ρ) fun ρ' => gs ds ρ' with
      | .ok ρ' => ∀ σ' H' V', EnvR X.kw F H' V' σ' ρ' → Ext H V H' V' → (∀ vs : List Nat, (∀ i ∈ is ++ js, i ∈ vs) → wipe σ' vs = wipe σ vs) → (∀ b, IsOwn σ' ρ' b → IsOwn σ ρ b) → (∀ (i : Nat) (d : PyData), i ∉ is ++ js → ρ'[i]? = some (.sh d) → ρ[i]? = some (.sh d)) → Q σ' H'
      | .exc _ => False
      | .bad => False) := g0
    cases e1 : g d ρ with
    | ok ρ1 =>
      rw [e1] at g0
      intro σ1 H1 V1 E1 x1 w1 o1 p1
      refine ⟨V1, ρ1, ds, E1, r2.mono x1.v, ?_⟩
      have g0 : (match gs ds ρ1 with
        | .ok ρ' => ∀ σ' H' V', EnvR X.kw F H' V' σ' ρ' → Ext H V H' V' → (∀ vs : List Nat, (∀ i ∈ is ++ js, i ∈ vs) → wipe σ' vs = wipe σ vs) → (∀ b, IsOwn σ' ρ' b → IsOwn σ ρ b) → (∀ (i : Nat) (d : PyData), i ∉ is ++ js → ρ'[i]? = some (.sh d) → ρ[i]? = some (.sh d)) → Q σ' H'
        | .exc _ => False
        | .bad => False) := g0
      cases e2 : gs ds ρ1 with
      | ok ρ2 =>
        rw [e2] at g0
        intro σ2 H2 V2 E2 x2 w2 o2 p2
        exact g0 σ2 H2 V2 E2 (x1.trans x2) (fun vs hv => (w2 vs fun i hi => hv i (List.mem_append_right _ hi)).trans (w1 vs fun i hi => hv i (List.mem_append_left _ hi))) (fun b hb => o1 b (o2 b hb)) fun i d hi q => p1 i d (fun z => hi (List.mem_append_left _ z)) (p2 i d (fun z => hi (List.mem_append_right _ z)) q)
      | exc c => rw [e2] at g0; exact g0
      | bad => rw [e2] at g0; exact g0
    | exc c => rw [e1] at g0; exact g0
    | bad => rw [e1] at g0; exact g0
/-- a tuple taken apart -/
def unT (gs : List PyData → Rho → R Rho) : GM := fun d ρ => match d with
  | .tuple ds => gs ds ρ
  | _ => .bad
theorem pmg_tup {es : List Expr} {k : Nat} {is : List Nat} {gs : List PyData → Rho → R Rho} {n : Nat} (h : PMGs X F es is gs) (hgn : ∀ ds ρ ρ', gs ds ρ = .ok ρ' → ds.length = n) (hc : X.calm = true := by rfl)
    (hn : (assignEach es X.env).length = n := by rfl) (hst : (assignEach es X.env).findIdx? (·.1) = none := by rfl) : PMG X F (.Tuple es k pos) is (unT gs) := by
  refine PG.imp (pg_tup hc h hn hst) fun v σ H Q ⟨V, ρ, d, E, r, g⟩ => ?_
  cases r with
  | @tup a xs ds ha ra =>
    have g : (match gs ds ρ with
      | .ok ρ' => ∀ σ' H' V', EnvR X.kw F H' V' σ' ρ' → Ext H V H' V' → (∀ vs : List Nat, (∀ i ∈ is, i ∈ vs) → wipe σ' vs = wipe σ vs) → (∀ b, IsOwn σ' ρ' b → IsOwn σ ρ b) → (∀ (i : Nat) (d : PyData), i ∉ is → ρ'[i]? = some (.sh d) → ρ[i]? = some (.sh d)) → Q σ' H'
      | .exc _ => False
      | .bad => False) := g
    refine ⟨a, xs, rfl, sqt E.sub ha, ?_, V, ρ, ds, E, ra, g⟩
    cases e : gs ds ρ with
    | ok ρ' => rw [ra.length]; exact hgn ds ρ ρ' e
    | exc c => rw [e] at g; exact False.elim g
    | bad => rw [e] at g; exact False.elim g
  | _ => exact False.elim g
/-- assignment -/
def asgO (a : M PyData) (g : GM) : SM := exO a fun d ρ => match g d ρ with
  | .ok ρ' => .nx ρ'
  | .exc c => .bad
  | .bad => .bad
theorem asg_goal {D : Ends} {is : List Nat} {g : GM} {d : PyData} {v : L2.V} (E : EnvR K F H V σ ρ) (r : Rep K V v d) (g1 : GoalS K F V (match g d ρ with
  | .ok ρ' => .nx ρ'
  | .exc c => .bad
  | .bad => .bad) D) : tGM K F is g v σ H D.nx := by
  refine ⟨V, ρ, d, E, r, ?_⟩
  cases e : g d ρ with
  | ok ρ' => rw [e] at g1; exact fun σ' H' V' E' x _ _ _ => g1 σ' H' V' E' x.v
  | exc c => rw [e] at g1; exact g1
  | bad => rw [e] at g1; exact g1
theorem pms_asg {tg e : Expr} {fa : M PyData} {is : List Nat} {g : GM} (he : PM X F e fa) (hg : PMG X F tg is g) (hs : swapsWithSole [tg] e pos.line X.env = pure false := by rfl) (hw : swappedStores [tg] e X.env = pure none := by rfl)
    (h1 : (assignEach [tg] X.env).map (·.2) = [assign tg X.env] := by rfl) : PMS X F (.Assign [tg] e pos) (asgO fa g) :=
  PS.imp (ps_asg he hg hs hw h1) fun D σ H ⟨V, ρ, E, g⟩ => ⟨V, ρ, E, Goal.ex g fun v d H1 V1 ρ1 st1 r1 g1 => asg_goal st1.env r1 g1⟩
theorem pms_set (i : Nat) {x : Str} {e : Expr} {fa : M PyData} {pos' : Pos} (he : PM X F e fa) (hN : X.N.Nodup) (hi : X.N[i]? = some x := by rfl) (hx : Loc X.env.scope x := by first | exact Or.inl rfl | exact Or.inr rfl) (hl : i ≠ F.ls ∨ F.lent = none := by first | exact Or.inr rfl | exact Or.inl (ne_ls rfl))
    (hs : swapsWith e (some (.Name x pos')) pos.line X.env = pure false := by rfl) (hf : X.fn x = true ∨ X.env.scope.names.lookup x = some .local := by first | exact .inl rfl | exact .inr rfl | assumption) :
    PMS X F (.Assign [.Name x pos'] e pos) (asgO fa (setS i)) := by
  refine PS.imp (ps_set hN hi hx he hs hf) fun D σ H ⟨V, ρ, E, g⟩ => ⟨V, ρ, E, Goal.ex g fun v d H1 V1 ρ1 st1 r1 g1 => ?_⟩
  unfold setS at g1
  by_cases hlt : i < ρ1.length
  · rw [if_pos hlt] at g1
    exact g1 _ _ _ (st1.env.setSh r1 hl) (Same.refl _)
  · rw [if_neg hlt] at g1
    exact False.elim g1
/-- a, b = x, y -/
def par2 (i j : Nat) (a : M (List PyData)) : SM := exO a fun ds ρ => match ds with
  | [x, y] => if i < ρ.length ∧ j < ρ.length then .nx ((ρ.set i (.sh x)).set j (.sh y)) else .bad
  | _ => .bad
theorem pms_par (i j : Nat) {x y : Str} {a b : Expr} {fs : M (List PyData)} {px py pt : Pos} {kt k2 pt2} (ha : PMA X F [a, b] fs) (hN : X.N.Nodup) (hi : X.N[i]? = some x := by rfl) (hj : X.N[j]? = some y := by rfl) (hij : i ≠ j := by decide)
    (hx : X.env.scope.names.lookup x = some .local := by rfl) (hy : X.env.scope.names.lookup y = some .local := by rfl) (hli : i ≠ F.ls ∨ F.lent = none := by first | exact Or.inr rfl | exact Or.inl (ne_ls rfl)) (hlj : j ≠ F.ls ∨ F.lent = none := by first | exact Or.inr rfl | exact Or.inl (ne_ls rfl))
    (hw : swappedStores [.Tuple [.Name x px, .Name y py] kt pt] (.Tuple [a, b] k2 pt2) X.env = pure (some [x, y]) := by rfl)
    (hs : swapsWithSole [.Tuple [.Name x px, .Name y py] kt pt] (.Tuple [a, b] k2 pt2) pos.line X.env = pure false := by rfl) (hc : X.calm = true := by rfl) :
    PMS X F (.Assign [.Tuple [.Name x px, .Name y py] kt pt] (.Tuple [a, b] k2 pt2) pos) (par2 i j fs) := by
  refine PS.imp (ps_par hc hN hi hj hij hx hy ha hw hs) fun D σ H ⟨V, ρ, E, g⟩ => ⟨V, ρ, E, Goal.ex g fun vs ds H1 V1 ρ1 st1 r1 g1 => ?_⟩
  cases r1 with
  | nil => exact False.elim g1
  | @cons v vs d ds r1 r2 =>
    cases r2 with
    | nil => exact False.elim g1
    | @cons v2 vs d2 ds r2 r3 =>
      cases r3 with
      | cons _ _ => exact False.elim g1
      | nil =>
        have g1 : GoalS X.kw F V1 (if i < ρ1.length ∧ j < ρ1.length then .nx ((ρ1.set i (.sh d)).set j (.sh d2)) else .bad) D := g1
        by_cases hlt : i < ρ1.length ∧ j < ρ1.length
        · rw [if_pos hlt] at g1
          exact ⟨v, v2, rfl, g1 _ _ _ ((st1.env.setSh r1 hli).setSh r2 hlj) (Same.refl _)⟩
        · rw [if_neg hlt] at g1
          exact False.elim g1
end
end DL
set_option Elab.async false
set_option linter.all false
set_option maxRecDepth 100000
set_option maxHeartbeats 1000000
namespace DL
open PySem PySem.Spec PyProof.Rows L2
variable [TabCtx]
/-- it walks ds, whatever comes beside what is seen at V -/
def ItD (K : KW) (J : It) (V : Hp) (ds : List PyData) : Prop := ∀ (i : Nat) (H' V' : Hp), Same V V' → Same V' H' →
  (∀ d, ds[i]? = some d → J.go i H' ∧ ∀ x H'', J.yld i H' x H'' → ∃ V'', Ext H' V' H'' V'' ∧ Rep K V'' x d) ∧ (i = ds.length → J.stop i H')
theorem ItD.mono {K : KW} {J : It} {V V1 : Hp} {ds : List PyData} (h : ItD K J V ds) (v : Same V V1) : ItD K J V1 ds := fun i H' V' s1 s2 => h i H' V' (v.trans s1) s2
def tI (K : KW) (F : Fr) (f : M (List PyData)) : TI := fun σ H R => ∃ V ρ, EnvR K F H V σ ρ ∧ Goal K F σ ρ H V (fun V' (J : It) ds => ItD K J V' ds) (f ρ) R
def PMI (X : Cx) (F : Fr) (tg iter : Expr) (f : M (List PyData)) : Prop := PI X tg iter (tI X.kw F f)
theorem PI.imp {X : Cx} {tg e : Expr} {t u : TI} (h : PI X tg e t) (i : ∀ σ H Q, u σ H Q → t σ H Q) : PI X tg e u := ⟨fun pins s σ H R I q => h.run pins s σ H R I (i σ H R q)⟩
def itL {K : KW} {a : Addr} {xs : List L2.V} {V : Hp} {ds : List PyData} (h : V a = some (.lst xs)) (r : RepL K V xs ds) : ItD K (Itl K a) V ds := by
  intro i H' V' s1 s2
  have hq : SqL K H' a xs := .inl (.inl (s2 _ _ (s1 _ _ h)))
  refine ⟨fun d hd => ?_, fun e => ⟨xs, hq, by rw [r.length, e]; exact Nat.le_refl _⟩⟩
  obtain ⟨v, h1, h2⟩ := r.get i hd
  refine ⟨⟨xs, v, hq, h1⟩, fun x H'' hy => ?_⟩
  obtain ⟨e, hy⟩ := hy
  subst e
  have e2 : v = x := Option.some.inj (h1.symm.trans (hy xs hq))
  subst e2
  exact ⟨V', Ext.refl s2, h2.mono s1⟩
def itT {K : KW} {a : Addr} {xs : List L2.V} {V : Hp} {ds : List PyData} (h : V a = some (.tup xs)) (r : RepL K V xs ds) : ItD K (Itt K a) V ds := by
  intro i H' V' s1 s2
  have hq : SqT K H' a xs := sqt s2 (s1 _ _ h)
  refine ⟨fun d hd => ?_, fun e => ⟨xs, hq, by rw [r.length, e]; exact Nat.le_refl _⟩⟩
  obtain ⟨v, h1, h2⟩ := r.get i hd
  refine ⟨⟨xs, v, hq, h1⟩, fun x H'' hy => ?_⟩
  obtain ⟨e, hy⟩ := hy
  subst e
  have e2 : v = x := Option.some.inj (h1.symm.trans (hy xs hq))
  subst e2
  exact ⟨V', Ext.refl s2, h2.mono s1⟩
def signD (c : Nat) : PyData := .str ⟨#[c]⟩
def itS {K : KW} {x : Str} {V : Hp} : ItD K (Its x) V (x.cps.toList.map signD) := by
  intro i H' V' s1 s2
  refine ⟨fun d hd => ?_, fun e => ?_⟩
  · rw [List.getElem?_map] at hd
    obtain ⟨c, hc, ed⟩ := Option.map_eq_some_iff.mp hd
    subst ed
    have hlt : i < x.cps.toList.length := (List.getElem?_eq_some_iff.mp hc).1
    refine ⟨by show i < x.cps.size; simpa using hlt, fun v H'' hy => ?_⟩
    obtain ⟨e, c', hc', ev⟩ := hy
    subst e ev
    have e2 : c = c' := by
      rw [← Array.getElem?_toList] at hc'
      exact Option.some.inj (hc.symm.trans hc')
    subst e2
    exact ⟨V', Ext.refl s2, .str _⟩
  · show x.cps.size ≤ i
    rw [e, List.length_map, Array.length_toList]
    exact Nat.le_refl _
def rangeD (lo : Int) (n : Nat) : List PyData := (List.range n).map fun i => .int (lo + (i : Nat))
def itR {K : KW} {lo : Int} {n : Nat} {V : Hp} : ItD K (Itr lo n) V (rangeD lo n) := by
  intro i H' V' s1 s2
  unfold rangeD
  refine ⟨fun d hd => ?_, fun e => ?_⟩
  · rw [List.getElem?_map] at hd
    obtain ⟨c, hc, ed⟩ := Option.map_eq_some_iff.mp hd
    obtain ⟨h1, h2⟩ := List.getElem?_eq_some_iff.mp hc
    rw [List.length_range] at h1
    rw [List.getElem_range] at h2
    subst h2 ed
    refine ⟨h1, fun v H'' hy => ?_⟩
    obtain ⟨e, ev⟩ := hy
    subst e ev
    exact ⟨V', Ext.refl s2, .int _⟩
  · show n ≤ i
    rw [e, List.length_map, List.length_range]
    exact Nat.le_refl _
/-- a list, a tuple, a text -/
def itemsD : PyData → Option (List PyData)
  | .list ds => some ds
  | .tuple ds => some ds
  | .str x => some (x.cps.toList.map signD)
  | _ => none
def seqI (a : M PyData) : M (List PyData) := M.bind a fun d => M.opt (itemsD d)
def iSeq (K : KW) (tl : TE) : TI := fun σ H R => tl σ H fun x H1 => (∃ a, x = .ref a ∧ (∃ xs, SqL K H1 a xs) ∧ R (Itl K a) H1) ∨ (∃ a, x = .ref a ∧ (∃ xs, SqT K H1 a xs) ∧ R (Itt K a) H1) ∨ ∃ z, x = .str z ∧ R (Its z) H1
section
variable {X : Cx} {F : Fr} {tg l e e2 : Expr} {pos : Pos} {fa fb : M PyData} {fs : M (List PyData)}
theorem pi_seq {tl : TE} (hl : PE X l tl) : PI X tg l (iSeq X.kw tl) := by
  refine ⟨fun pins s σ H R I h => ?_⟩
  refine thn (hl.run pins s σ H _ I h) fun v s1 ⟨x, H1, I1, r1, q1⟩ => ?_
  rcases q1 with ⟨a, e, ⟨xs, hq⟩, q⟩ | ⟨a, e, ⟨xs, hq⟩, q⟩ | ⟨z, e, q⟩
  · subst e
    cases r1
    obtain ⟨its, rv, p, hz⟩ := I1.list hq
    refine wpAny_pyIter_list p.isList ?_
    refine ⟨s1.heap.objs.size, [s1.heap.objs.size], _, _, H1, rfl, I1.kept (t' := s1.toks) fun b o e => Heap.get?_push_of_some _ e, turn_list a _, ⟨_, Heap.get?_push_size _ rfl, rfl, rfl⟩, fun b hb => ?_, q⟩
    have e : b = s1.heap.objs.size := by simpa using hb
    subst e
    exact I1.fpOk (Nat.le_refl _) (I1.hok.fresh (Nat.le_refl _))
  · subst e
    cases r1
    obtain ⟨its, rv, p, hz⟩ := I1.tuple hq
    refine wpAny_pyIter_tuple (show s1.heap.IsTuple a its.toArray from p) ?_
    refine ⟨s1.heap.objs.size, [s1.heap.objs.size], _, _, H1, rfl, I1.kept (t' := s1.toks) fun b o e => Heap.get?_push_of_some _ e, turn_tuple a _, ⟨_, Heap.get?_push_size _ rfl, rfl, rfl⟩, fun b hb => ?_, q⟩
    have e : b = s1.heap.objs.size := by simpa using hb
    subst e
    exact I1.fpOk (Nat.le_refl _) (I1.hok.fresh (Nat.le_refl _))
  · subst e
    obtain ⟨t, rfl⟩ := r1
    cases ha : z.cps.all (· < 128)
    · exact wpAny_pyIter_wide ha (pi_one (tk := s1.toks) I1 _ (turn_str _ z t "str_iterator" (.inr rfl)) ⟨_, Heap.get?_push_size _ rfl, rfl, rfl⟩ q)
    · exact wpAny_pyIter_ascii ha (pi_one (tk := s1.toks) I1 _ (turn_str _ z t "str_ascii_iterator" (.inl rfl)) ⟨_, Heap.get?_push_size _ rfl, rfl, rfl⟩ q)
theorem pmi_seq (h : PM X F l fa) : PMI X F tg l (seqI fa) := by
  refine PI.imp (pi_seq h) fun σ H R ⟨V, ρ, E, g0⟩ => ⟨V, ρ, E, Goal.bind g0 fun x dx H1 V1 ρ1 st1 r1 g1 => ?_⟩
  obtain ⟨z, ez, q⟩ := Goal.opt st1.env g1
  have s := st1.env.sub
  cases r1 with
  | @lst a xs ds ha ra => cases ez; exact .inl ⟨a, rfl, ⟨xs, .inl (.inl (s _ _ ha))⟩, q _ _ _ (Ext.refl s) (itL ha ra)⟩
  | @tup a xs ds ha ra => cases ez; exact .inr (.inl ⟨a, rfl, ⟨xs, sqt s ha⟩, q _ _ _ (Ext.refl s) (itT ha ra)⟩)
  | str x => cases ez; exact .inr (.inr ⟨x, rfl, q _ _ _ (Ext.refl s) itS⟩)
  | _ => cases ez
def rg1 : List PyData → Option (List PyData)
  | [.int j] => if -(2 ^ 62) ≤ j ∧ j < 2 ^ 62 then some (rangeD 0 j.toNat) else none
  | _ => none
def opI (g : List PyData → Option (List PyData)) (a : M (List PyData)) : M (List PyData) := M.bind a fun ds => M.opt (g ds)
theorem ite_someL {α : Type} {c : Prop} [Decidable c] {a z : α} (h : (if c then some a else none) = some z) : c ∧ a = z := by
  by_cases hc : c
  · rw [if_pos hc] at h; exact ⟨hc, Option.some.inj h⟩
  · rw [if_neg hc] at h; cases h
theorem pmi_range1 {p : Pos} (hm : X.mg "range" = none) (ha : PMA X F [e] fs) (hg : Gl X "range" := by rfl) (hs : starEach [e] X.env = [(false, eval e X.env)] := by rfl) : PMI X F tg (.Call (.Name "range" p) [e] [] pos) (opI rg1 fs) := by
  refine PI.imp (pi_range1 hg hm ha hs) fun σ H R ⟨V, ρ, E, g0⟩ => ⟨V, ρ, E, Goal.bind g0 fun x dx H1 V1 ρ1 st1 r1 g1 => ?_⟩
  obtain ⟨z, ez, q⟩ := Goal.opt st1.env g1
  cases r1 with
  | nil => cases ez
  | cons r1 r2 =>
    cases r2 with
    | cons _ _ => cases r1 <;> cases ez
    | nil =>
      cases r1 with
      | int j =>
        obtain ⟨h, rfl⟩ := ite_someL ez
        exact ⟨j, rfl, h.1, h.2, q _ _ _ (Ext.refl st1.env.sub) itR⟩
      | _ => cases ez
def zipD (a b : List PyData) : List PyData := (a.zip b).map fun p => .tuple [p.1, p.2]
def gZip : List PyData → Option (List PyData)
  | [.list a, .list b] => some (zipD a b)
  | [.tuple a, .tuple b] => some (zipD a b)
  | _ => none
theorem zipD_get {a b : List PyData} {i : Nat} {d : PyData} (h : (zipD a b)[i]? = some d) : ∃ x y, a[i]? = some x ∧ b[i]? = some y ∧ d = .tuple [x, y] := by
  unfold zipD at h
  rw [List.getElem?_map] at h
  obtain ⟨⟨x, y⟩, h1, h2⟩ := Option.map_eq_some_iff.mp h
  obtain ⟨h3, h4⟩ := List.getElem?_zip_eq_some.mp h1
  exact ⟨x, y, h3, h4, h2.symm⟩
theorem zipD_len {a b : List PyData} : (zipD a b).length = min a.length b.length := by
  unfold zipD
  rw [List.length_map, List.length_zip]
theorem itZ {K : KW} {a b : Addr} {xs ys : List L2.V} {V : Hp} {ds es : List PyData} (ha : V a = some (.lst xs)) (ra : RepL K V xs ds) (hb : V b = some (.lst ys)) (rb : RepL K V ys es) : ItD K (Itz K a b) V (zipD ds es) := by
  intro i H' V' s1 s2
  have q1 : SqL K H' a xs := .inl (.inl (s2 _ _ (s1 _ _ ha)))
  have q2 : SqL K H' b ys := .inl (.inl (s2 _ _ (s1 _ _ hb)))
  refine ⟨fun d hd => ?_, fun e => ⟨xs, ys, q1, q2, ?_⟩⟩
  · obtain ⟨x, y, hx, hy, rfl⟩ := zipD_get hd
    obtain ⟨v, h1, h2⟩ := ra.get i hx
    obtain ⟨u, h3, h4⟩ := rb.get i hy
    refine ⟨⟨xs, ys, v, u, q1, q2, h1, h3⟩, fun z H'' hyl => ?_⟩
    obtain ⟨T, x', y', rfl, hT, rfl, f1, f2⟩ := hyl
    have e1 : v = x' := Option.some.inj (h1.symm.trans (f1 xs q1))
    have e2 : u = y' := Option.some.inj (h3.symm.trans (f2 ys q2))
    subst e1 e2
    exact ⟨_, Ext.new s2 hT, new_tup s2 hT (.cons (h2.mono s1) (.cons (h4.mono s1) .nil))⟩
  · rw [zipD_len] at e
    rw [ra.length, rb.length]
    omega
theorem itZT {K : KW} {a b : Addr} {xs ys : List L2.V} {V : Hp} {ds es : List PyData} (ha : V a = some (.tup xs)) (ra : RepL K V xs ds) (hb : V b = some (.tup ys)) (rb : RepL K V ys es) : ItD K (RZ.ItzT K a b) V (zipD ds es) := by
  intro i H' V' s1 s2
  have q1 : SqT K H' a xs := sqt s2 (s1 _ _ ha)
  have q2 : SqT K H' b ys := sqt s2 (s1 _ _ hb)
  refine ⟨fun d hd => ?_, fun e => ⟨xs, ys, q1, q2, ?_⟩⟩
  · obtain ⟨x, y, hx, hy, rfl⟩ := zipD_get hd
    obtain ⟨v, h1, h2⟩ := ra.get i hx
    obtain ⟨u, h3, h4⟩ := rb.get i hy
    refine ⟨⟨xs, ys, v, u, q1, q2, h1, h3⟩, fun z H'' hyl => ?_⟩
    obtain ⟨T, x', y', rfl, hT, rfl, f1, f2⟩ := hyl
    have e1 : v = x' := Option.some.inj (h1.symm.trans (f1 xs q1))
    have e2 : u = y' := Option.some.inj (h3.symm.trans (f2 ys q2))
    subst e1 e2
    exact ⟨_, Ext.new s2 hT, new_tup s2 hT (.cons (h2.mono s1) (.cons (h4.mono s1) .nil))⟩
  · rw [zipD_len] at e
    rw [ra.length, rb.length]
    omega
theorem pmi_zip {elts : List Expr} {kk : Nat} {tpos p : Pos} (hm : X.mg "zip" = none) (ha : PMA X F [e, e2] fs) (hg : Gl X "zip" := by rfl) (hs : starEach [e, e2] X.env = (false, eval e X.env) :: starEach [e2] X.env := by rfl) (hpl : (backTo pos (starEach [e2] X.env)).any (·.1) = false := by rfl) :
    PMI X F (.Tuple elts kk tpos) (.Call (.Name "zip" p) [e, e2] [] pos) (opI gZip fs) := by
  refine PI.imp (RZ.pi_zipA hg hm ha hs hpl) fun σ H R ⟨V, ρ, E, g0⟩ => ⟨V, ρ, E, Goal.bind g0 fun x dx H1 V1 ρ1 st1 r1 g1 => ?_⟩
  obtain ⟨z, ez, q⟩ := Goal.opt st1.env g1
  have s := st1.env.sub
  cases r1 with
  | nil => cases ez
  | cons r1 r2 =>
    cases r2 with
    | nil => cases r1 <;> cases ez
    | cons r2 r3 =>
      cases r3 with
      | cons _ _ => cases r1 <;> cases r2 <;> cases ez
      | nil =>
        cases r1 with
        | @lst a xs ds ha ra =>
          cases r2 with
          | @lst b ys es hb rb => cases ez; exact ⟨a, b, xs, ys, rfl, .inl ⟨.inl (.inl (s _ _ ha)), .inl (.inl (s _ _ hb)), q _ _ _ (Ext.refl s) (itZ ha ra hb rb)⟩⟩
          | _ => cases ez
        | @tup a xs ds ha ra =>
          cases r2 with
          | @tup b ys es hb rb => cases ez; exact ⟨a, b, xs, ys, rfl, .inr ⟨sqt s ha, sqt s hb, q _ _ _ (Ext.refl s) (itZT ha ra hb rb)⟩⟩
          | _ => cases ez
        | _ => cases r2 <;> cases ez
end
def loopO (g : GM) (body : SM) : List PyData → Rho → O
  | [], ρ => .nx ρ
  | d :: ds, ρ => match g d ρ with
    | .ok ρ1 => (match body ρ1 with
      | .nx ρ2 => loopO g body ds ρ2
      | .ct ρ2 => loopO g body ds ρ2
      | .bk ρ2 => .nx ρ2
      | .rt x ρ2 => .rt x ρ2
      | .rf x ρ2 => .rf x ρ2
      | .exc c => .exc c
      | .bad => .bad)
    | .exc _ => .bad
    | .bad => .bad
def forO (a : M (List PyData)) (g : GM) (body : SM) : SM := exO a fun ds => loopO g body ds
section
variable {X : Cx} {F : Fr} {tg iter : Expr} {body : List Stmt} {pos : Pos} {fi : M (List PyData)} {is : List Nat} {g : GM} {fb : SM}
theorem pms_for (hp : PassesOwn (model X.prog X.w) X.A X.env X.xe) (hi : PMI X F tg iter fi) (hg : PMG X F tg is g) (hb : PMSs X F body fb) (hc : X.calm = true := by rfl)
    (hs : ∀ x, foldedSetIterable iter X.env x = pure x := by intro _; rfl) : PMS X F (.For tg iter body [] pos) (forO fi g fb) := by
  refine PS.imp (ps_for hp hc hi hg hb hs) fun D σ H ⟨V, ρ, E, g0⟩ => ⟨V, ρ, E, Goal.ex g0 fun J ds H1 V1 ρ1 st1 it g1 => ?_⟩
  refine ⟨fun i m σ' H' => m = ds.length - i ∧ i ≤ ds.length ∧ ∃ V' ρ', EnvR X.kw F H' V' σ' ρ' ∧ Same V1 V' ∧ GoalS X.kw F V' (loopO g fb (ds.drop i) ρ') D,
    ⟨ds.length, rfl, Nat.zero_le _, V1, ρ1, st1.env, Same.refl _, g1⟩, ?_⟩
  rintro i m σ' H' ⟨rfl, hle, V', ρ', E', sv, gl⟩
  obtain ⟨h1, h2⟩ := it i H' V' sv E'.sub
  by_cases hlt : i < ds.length
  · have hd : ds[i]? = some ds[i] := List.getElem?_eq_getElem hlt
    obtain ⟨go, yl⟩ := h1 _ hd
    rw [List.drop_eq_getElem_cons hlt] at gl
    refine .inr ⟨go, fun σ2 H2 => ∃ V2 ρ2, EnvR X.kw F H2 V2 σ2 ρ2 ∧ Same V1 V2 ∧ GoalS X.kw F V2 (loopO g fb (ds.drop (i + 1)) ρ2) D, fun σ2 H2 h => ⟨ds.length - (i + 1), by omega, rfl, hlt, h⟩, fun x H2 y => ?_⟩
    obtain ⟨V2, x2, r2⟩ := yl x H2 y
    refine ⟨V2, ρ', ds[i], E'.grow x2, r2, ?_⟩
    unfold loopO at gl
    cases eg : g ds[i] ρ' with
    | exc c => rw [eg] at gl; exact gl
    | bad => rw [eg] at gl; exact gl
    | ok ρ3 =>
      rw [eg] at gl
      intro σ3 H3 V3 E3 x3 _ _ _
      refine ⟨V3, ρ3, E3, ?_⟩
      have v3 : Same V' V3 := x2.v.trans x3.v
      have gl : GoalS X.kw F V' (match fb ρ3 with
        | .nx ρ2 => loopO g fb (ds.drop (i + 1)) ρ2
        | .ct ρ2 => loopO g fb (ds.drop (i + 1)) ρ2
        | .bk ρ2 => .nx ρ2
        | .rt x ρ2 => .rt x ρ2
        | .rf x ρ2 => .rf x ρ2
        | .exc c => .exc c
        | .bad => .bad) D := gl
      cases eb : fb ρ3 with
      | nx ρ4 => rw [eb] at gl; exact fun σ4 H4 V4 E4 v4 => ⟨V4, ρ4, E4, (sv.trans v3).trans v4, GoalS.mono (v3.trans v4) gl⟩
      | ct ρ4 => rw [eb] at gl; exact fun σ4 H4 V4 E4 v4 => ⟨V4, ρ4, E4, (sv.trans v3).trans v4, GoalS.mono (v3.trans v4) gl⟩
      | bk ρ4 => rw [eb] at gl; exact fun σ4 H4 V4 E4 v4 => gl σ4 H4 V4 E4 (v3.trans v4)
      | rt x ρ4 => rw [eb] at gl; exact fun v σ4 H4 V4 E4 v4 => gl v σ4 H4 V4 E4 (v3.trans v4)
      | rf x ρ4 => rw [eb] at gl; exact fun v σ4 H4 V4 E4 v4 => gl v σ4 H4 V4 E4 (v3.trans v4)
      | exc c => rw [eb] at gl; exact gl
      | bad => rw [eb] at gl; exact gl
  · have e : i = ds.length := by omega
    subst e
    rw [List.drop_length] at gl
    exact .inl ⟨h2 rfl, gl σ' H' V' E' (Same.refl _)⟩
end
end DL
set_option Elab.async false
set_option linter.all false
set_option maxRecDepth 100000
set_option maxHeartbeats 1000000
namespace DL
open PySem PySem.Spec PyProof.Rows L2
variable [TabCtx]
def start0 (n : Nat) (ds : List PyData) : Rho := ds.map .sh ++ List.replicate (n - ds.length) .no
/-- a def of k parameters, n slots -/
def fnRun (k n : Nat) (f : SM) (ds : List PyData) : R PyData := if ds.length = k then (match f (start0 n ds) with
  | .rt d _ => .ok d
  | .rf d _ => .ok d
  | .nx _ => .ok .none
  | .exc c => .exc c
  | _ => .bad) else .bad
def spF (K : KW) (n : Nat) (m : List PyData → R PyData) : Sp := fun vs H Q E => vs.length = n ∧ ∃ V ds, TabV H V ∧ Same V H ∧ RepL K V vs ds ∧ match m ds with
  | .ok d => ∀ v H' V', Ext H V H' V' → Rep K V' v d → Q v H'
  | .exc c => ∀ H' V', Ext H V H' V' → E (.ref (He.ga K c)) none H'
  | .bad => False
def FnD (P : Program) (w : World) (K : PySem.W.Frag) (mg : Str → Option Value) (base : Heap) (lvl : Nat) (x : Str) (ps : List Str) (m : List PyData → R PyData) : Prop :=
  ∃ fd, FnOk P w K mg base (L2N.CX P w) lvl (He.ga K x) fd ps (spF ⟨K, w⟩ ps.length m) ∧ Binds K fd ps [] ∧ PySem.W.keepIn K (.ref (He.ga K x)) = true ∧ mg x = some (.ref (He.ga K x)) ∧ ∀ ds, m ds ≠ .bad → ds.length = ps.length
theorem FnD.mono {P : Program} {w : World} {K : PySem.W.Frag} {mg : Str → Option Value} {base : Heap} {j k : Nat} {x : Str} {ps : List Str} {m : List PyData → R PyData} (F : FnD P w K mg base j x ps m) (h : j ≤ k) : FnD P w K mg base k x ps m := by
  obtain ⟨fd, h1, h2⟩ := F
  exact ⟨fd, h1.mono h, h2⟩
abbrev mkF (H V : Hp) (E : XK) : Fr := ⟨H, V, none, fun cls _ H' => E cls none H', 0⟩
theorem repL_get {K : KW} {V : Hp} {vs : List L2.V} {ds : List PyData} (r : RepL K V vs ds) {n : Nat} {N : List Str} (hn : N.length = n) (hle : vs.length ≤ n) {H : Hp} {E : XK} (s : Same V H) (ht : TabV H V) : EnvR K (mkF H V E) H V (L2.start N vs) (start0 n ds) := by
  have hl := r.length
  refine ⟨by simp [L2.start, start0, hl, hn], Ext.refl s, fun i d h => ?_, fun i d h => ?_, fun i j a d e h => ?_, (fun a h => by cases h), ht⟩
  · unfold start0 at h
    unfold L2.start
    by_cases hi : i < ds.length
    · rw [List.getElem?_append_left (by simpa using hi), List.getElem?_map] at h
      obtain ⟨d', h1, h2⟩ := Option.map_eq_some_iff.mp h
      cases h2
      obtain ⟨v, h3, h4⟩ := r.get i h1
      exact ⟨v, by rw [List.getElem?_append_left (by rw [List.length_map]; omega), List.getElem?_map, h3]; rfl, h4⟩
    · rw [List.getElem?_append_right (by simpa using hi), List.getElem?_replicate] at h
      split at h <;> cases h
  · unfold start0 at h
    by_cases hi : i < ds.length
    · rw [List.getElem?_append_left (by simpa using hi), List.getElem?_map] at h
      obtain ⟨d', h1, h2⟩ := Option.map_eq_some_iff.mp h
      cases h2
    · rw [List.getElem?_append_right (by simpa using hi), List.getElem?_replicate] at h
      split at h <;> cases h
  · unfold start0 at h
    by_cases hi : i < ds.length
    · rw [List.getElem?_append_left (by simpa using hi), List.getElem?_map] at h
      obtain ⟨d', h1, h2⟩ := Option.map_eq_some_iff.mp h
      cases h2
    · rw [List.getElem?_append_right (by simpa using hi), List.getElem?_replicate] at h
      split at h <;> cases h
section
variable {P : Program} {w : World} {K : PySem.W.Frag} {mg : Str → Option Value} {base : Heap} {x : Str} {params : Arguments} {body : List Stmt} {scope : Scope} {fd : FuncData}
abbrev cxF (P : Program) (w : World) (K : PySem.W.Frag) (mg : Str → Option Value) (base : Heap) (N : List Str) (x : Str) (scope : Scope) (cdv : Value) (A : Around) (outer : List Env) (s : Shared) (H : Hp) (E : XK) : Cx := cxOf (L2N.CX P w) P w K mg base N x scope (He.ga K x) cdv A outer s H E
theorem tk_fn {N : List Str} {cdv : Value} {A : Around} {outer : List Env} {s : Shared} {H : Hp} {E : XK} {H0 V0 : Hp} {l : Option Addr} {n0 : Nat} : Tk (cxF P w K mg base N x scope cdv A outer s H E) ⟨H0, V0, l, fun cls _ H' => E cls none H', n0⟩ := by
  have t : L2N.Takes (cxF P w K mg base N x scope cdv A outer s H E) (fun cls d _ H' => E cls d H') := L2N.takes_of rfl rfl rfl rfl
  refine t.imp fun c d σ H' ⟨h1, h2⟩ => ?_
  rw [h1]
  exact h2
theorem fn_mk {N ps : List Str} {k : Nat} {f : SM} (D : FunD K x x params body scope [] [] (He.ga K x) fd) (hx : mg x = some (.ref (He.ga K x))) (S : FnScope N ps scope)
    (hbd : ∀ (kV doc pm : Value) (an : Option Addr) (cdv ct : Value) (us : List Value), us.length = ps.length → bindArgs (PySem.W.fnOf x x params body scope .none kV doc pm an cdv ct) ⟨us, []⟩ = pure (ps.zip us))
    (hps : ps.length ≤ N.length)
    (hb : ∀ (cdv : Value) (A : Around) (outer : List Env) (s : Shared) (H V : Hp) (E : XK), Room k (A.deeper (envOfC x scope s.heap.objs.size (He.ga K x) cdv)) → PMSs (cxF P w K mg base N x scope cdv A outer s H E) (mkF H V E) body f) :
    FnD P w K mg base (k + 1) x ps (fnRun ps.length N.length f) := by
  refine ⟨fd, D.ok (CX := L2N.CX P w) S (fun vs H Q E h => h.1) fun cdv A outer s H vs Q E hr h => ?_, D.bindsN hbd, D.kp, hx, fun ds h => ?_⟩
  · obtain ⟨hl, V, ds, ht, sv, r, g⟩ := h
    refine ⟨_, hb cdv A outer s H V E hr, V, start0 N.length ds, repL_get r rfl (by omega) sv ht, ?_⟩
    unfold fnRun at g
    rw [if_pos (by rw [← r.length]; exact hl)] at g
    show GoalS ⟨K, w⟩ (mkF H V E) V (f (start0 N.length ds)) _
    cases e : f (start0 N.length ds) with
    | rt d ρ' => rw [e] at g; exact fun v σ' H' V' E' _ r' => g v H' V' E'.ext r'
    | rf d ρ' => rw [e] at g; exact fun v σ' H' V' E' _ r' _ => g v H' V' E'.ext r'
    | nx ρ' => rw [e] at g; exact fun σ' H' V' E' _ => g .non H' V' E'.ext .non
    | exc c => rw [e] at g; exact fun σ' H' V' x => g H' V' x
    | bk ρ' => rw [e] at g; exact False.elim g
    | ct ρ' => rw [e] at g; exact False.elim g
    | bad => rw [e] at g; exact False.elim g
  · unfold fnRun at h
    by_cases hl : ds.length = ps.length
    · exact hl
    · rw [if_neg hl] at h; exact absurd rfl h
end
section
variable {X : Cx} {F : Fr} {e : Expr} {es : List Expr} {fs : M (List PyData)} {pos p : Pos}
/-- f(..) -/
theorem pm_call {lvl : Nat} {x : Str} {ps : List Str} {m : List PyData → R PyData} (G : FnD X.prog X.w X.K X.mg X.base lvl x ps m) (hr : Room lvl X.A) (tk : Tk X F) (ha : PMA X F (e :: es) fs) (hg : Gl X x := by rfl)
    (hdb : (x == ("__debug__" : Str)) = false := by decide) (he : starEach (e :: es) X.env = (false, eval e X.env) :: starEach es X.env := by rfl) (hpl : (backTo pos (starEach es X.env)).any (·.1) = false := by rfl) : PM X F (.Call (.Name x p) (e :: es) [] pos) (callM m fs) := by
  obtain ⟨fd, G1, G2, G3, G4, G5⟩ := G
  refine PE.imp (pe_callS G1 hr hg G4 G3 G2 (fun σ => L2N.passAt tk σ) ha hdb he hpl) fun σ H Q ⟨V, ρ, E, g0⟩ => ⟨V, ρ, E, Goal.bind g0 fun vs ds H1 V1 ρ1 st1 r1 g1 => ?_⟩
  unfold M.lift at g1
  cases em : m ds with
  | ok d =>
    rw [em] at g1
    refine ⟨by rw [r1.length]; exact G5 ds (by rw [em]; exact fun z => nomatch z), V1, ds, st1.env.tabs, st1.env.sub, r1, ?_⟩
    rw [em]
    exact fun v H' V' x r => g1 v H' V' (st1.env.step x) r
  | exc c =>
    rw [em] at g1
    refine ⟨by rw [r1.length]; exact G5 ds (by rw [em]; exact fun z => nomatch z), V1, ds, st1.env.tabs, st1.env.sub, r1, ?_⟩
    rw [em]
    exact fun H' V' x => ⟨rfl, g1 H' V' (st1.env.ext.trans x)⟩
  | bad => rw [em] at g1; exact False.elim g1
end
def Fr.nox (F : Fr) : Fr := { F with W := fun _ _ _ => False }
theorem EnvR.nox {K : KW} {F : Fr} {H V : Hp} {σ : St} {ρ : Rho} (E : EnvR K F H V σ ρ) : EnvR K F.nox H V σ ρ := ⟨E.len, E.ext, E.sh, E.ow, E.dis, E.lent, E.tab⟩
theorem EnvR.unnox {K : KW} {F : Fr} {H V : Hp} {σ : St} {ρ : Rho} (E : EnvR K F.nox H V σ ρ) : EnvR K F H V σ ρ := ⟨E.len, E.ext, E.sh, E.ow, E.dis, E.lent, E.tab⟩
theorem Stp.unnox {K : KW} {F : Fr} {σ : St} {ρ ρ' : Rho} {H V H' V' : Hp} (s : Stp K F.nox σ ρ ρ' H V H' V') : Stp K F σ ρ ρ' H V H' V' := ⟨s.env.unnox, s.v, s.keep, s.own, s.shs, s.f, s.th⟩
theorem tk_nox {X : Cx} {F : Fr} : Tk X F.nox := L2N.Takes.imp takesN0 fun _ _ _ _ h => h.2
def wipeR (ρ : Rho) : List Nat → Rho
  | [] => ρ
  | v :: vs => (wipeR ρ vs).set v .no
def isOw : Option Sl → Bool
  | some (.ow _) => true
  | _ => false
/-- the slots vs of ρ, the others of ρ' -/
def resR (ρ ρ' : Rho) : List Nat → Rho
  | [] => ρ'
  | v :: vs => (resR ρ ρ' vs).set v (ρ.getD v .no)
def lcLoop (vs : List Nat) (g : GM) (t : M Bool) (e : M PyData) : List PyData → Rho → List PyData → R (List PyData × Rho)
  | [], ρ, acc => .ok (acc, ρ)
  | d :: ds, ρ, acc => match g d (wipeR ρ vs) with
    | .ok ρ1 => (match t ρ1 with
      | .ok (true, ρ2) => (match e ρ2 with
        | .ok (y, ρ3) => if acc.length < LIM then lcLoop vs g t e ds ρ3 (acc ++ [y]) else .bad
        | _ => .bad)
      | .ok (false, ρ2) => lcLoop vs g t e ds ρ2 acc
      | _ => .bad)
    | _ => .bad
def lcM (vs : List Nat) (a : M (List PyData)) (g : GM) (t : M Bool) (e : M PyData) : M PyData := M.bind a fun ds ρ => if vs.any (fun i => isOw ρ[i]?) = true then .bad else (match lcLoop vs g t e ds ρ [] with
  | .ok (acc, ρ') => .ok (.list acc, resR ρ ρ' vs)
  | _ => .bad)
theorem wipeR_len (ρ : Rho) : ∀ vs, (wipeR ρ vs).length = ρ.length
  | [] => rfl
  | v :: vs => by unfold wipeR; rw [List.length_set, wipeR_len ρ vs]
theorem wipeR_some {ρ : Rho} {i : Nat} {s : Sl} : s ≠ .no → ∀ {vs : List Nat}, (wipeR ρ vs)[i]? = some s → ρ[i]? = some s ∧ i ∉ vs
  | hs, [], h => ⟨h, by simp⟩
  | hs, v :: vs, h => by
    unfold wipeR at h
    by_cases hi : v = i
    · subst hi
      by_cases hv : v < (wipeR ρ vs).length
      · rw [List.getElem?_set_self hv] at h; cases h; exact absurd rfl hs
      · rw [List.getElem?_eq_none (by simpa using hv)] at h; cases h
    · rw [List.getElem?_set_ne hi] at h
      obtain ⟨h1, h2⟩ := wipeR_some hs h
      exact ⟨h1, by simp only [List.mem_cons, not_or]; exact ⟨fun e => hi e.symm, h2⟩⟩
theorem wipeR_out {ρ : Rho} {i : Nat} : ∀ {vs : List Nat}, i ∉ vs → (wipeR ρ vs)[i]? = ρ[i]?
  | [], _ => rfl
  | v :: vs, h => by
    unfold wipeR
    rw [List.getElem?_set_ne (fun e => h (by rw [e]; exact List.mem_cons_self)), wipeR_out fun z => h (List.mem_cons_of_mem _ z)]
theorem wipe_outL {σ : St} {i : Nat} : ∀ {vs : List Nat}, i ∉ vs → (wipe σ vs)[i]? = σ[i]?
  | [], _ => rfl
  | v :: vs, h => by
    unfold wipe
    rw [List.getElem?_set_ne (fun e => h (by rw [e]; exact List.mem_cons_self)), wipe_outL fun z => h (List.mem_cons_of_mem _ z)]
theorem wipe_in {σ : St} {i : Nat} : ∀ {vs : List Nat}, i ∈ vs → i < σ.length → (wipe σ vs)[i]? = some none
  | v :: vs, h, hl => by
    unfold wipe
    by_cases e : v = i
    · subst e; exact List.getElem?_set_self (by rw [wipe_length]; exact hl)
    · rw [List.getElem?_set_ne e]
      rcases List.mem_cons.mp h with z | z
      · exact absurd z.symm e
      · exact wipe_in z hl
theorem wipe_wipe (σ : St) (vs : List Nat) : wipe (wipe σ vs) vs = wipe σ vs := by
  apply List.ext_getElem?
  intro i
  by_cases h : i ∈ vs
  · by_cases hl : i < σ.length
    · rw [wipe_in h (by rw [wipe_length]; exact hl), wipe_in h hl]
    · rw [List.getElem?_eq_none (by simp only [wipe_length]; omega), List.getElem?_eq_none (by simp only [wipe_length]; omega)]
  · rw [wipe_outL h]
theorem resR_len (ρ ρ' : Rho) : ∀ vs, (resR ρ ρ' vs).length = ρ'.length
  | [] => rfl
  | v :: vs => by unfold resR; rw [List.length_set, resR_len ρ ρ' vs]
theorem resR_out {ρ ρ' : Rho} {i : Nat} : ∀ {vs : List Nat}, i ∉ vs → (resR ρ ρ' vs)[i]? = ρ'[i]?
  | [], _ => rfl
  | v :: vs, h => by
    unfold resR
    rw [List.getElem?_set_ne (fun e => h (by rw [e]; exact List.mem_cons_self)), resR_out fun z => h (List.mem_cons_of_mem _ z)]
theorem resR_in {ρ ρ' : Rho} {i : Nat} : ∀ {vs : List Nat}, i ∈ vs → i < ρ'.length → (resR ρ ρ' vs)[i]? = some (ρ.getD i .no)
  | v :: vs, h, hl => by
    unfold resR
    by_cases e : v = i
    · subst e; exact List.getElem?_set_self (by rw [resR_len]; exact hl)
    · rw [List.getElem?_set_ne e]
      rcases List.mem_cons.mp h with z | z
      · exact absurd z.symm e
      · exact resR_in z hl
section
variable {K : KW} {F : Fr} {σ : St} {ρ ρ1 : Rho} {H V H1 V1 : Hp}
theorem EnvR.wipe (E : EnvR K F H V σ ρ) {vs : List Nat} (hl : F.ls ∉ vs ∨ F.lent = none) : EnvR K F H V (wipe σ vs) (wipeR ρ vs) := by
  refine ⟨by rw [wipe_length, wipeR_len, E.len], E.ext, fun i d h => ?_, fun i d h => ?_, fun i j a d e h1 h2 h3 h4 => ?_, fun a ha => ?_, E.tab⟩
  · obtain ⟨h1, h2⟩ := wipeR_some (by intro z; cases z) h
    rw [wipe_outL h2]
    exact E.sh i d h1
  · obtain ⟨h1, h2⟩ := wipeR_some (by intro z; cases z) h
    rw [wipe_outL h2]
    exact E.ow i d h1
  · obtain ⟨h1, n1⟩ := wipeR_some (by intro z; cases z) h1
    obtain ⟨h2, n2⟩ := wipeR_some (by intro z; cases z) h2
    rw [wipe_outL n1] at h3
    rw [wipe_outL n2] at h4
    exact E.dis i j a d e h1 h2 h3 h4
  · rcases hl with hl | hl
    · rw [wipe_outL hl]; exact E.lent a ha
    · rw [hl] at ha; cases ha
theorem isOwn_wipe {vs : List Nat} {b : Addr} (h : IsOwn (L2.wipe σ vs) (wipeR ρ vs) b) : IsOwn σ ρ b := by
  obtain ⟨i, d, h1, h2⟩ := h
  obtain ⟨h1, n1⟩ := wipeR_some (by intro z; cases z) h1
  rw [wipe_outL n1] at h2
  exact ⟨i, d, h1, h2⟩
/-- a cell beside: not seen, of no slot -/
theorem EnvR.beside (E : EnvR K F H V σ ρ) {p : Addr} {o : HO} (hp : ∀ x, H p = some x → Plain x) (h1 : V p = none) (h2 : F.H0 p = none) (h3 : ¬ IsOwn σ ρ p) : EnvR K F (upd H p o) V σ ρ := by
  refine ⟨E.len, ⟨fun b x e n => ?_, E.ext.v, fun b x e => ?_, E.ext.f, fun b h => ?_, fun t => tabs_upd hp (E.ext.t t)⟩, E.sh, fun i d h => ?_, E.dis, E.lent, E.tab⟩
  · rw [upd_ne (fun z => by rw [z, h2] at e; cases e)]; exact E.ext.h b x e n
  · rw [upd_ne (fun z => by rw [z, h1] at e; cases e)]; exact E.ext.s b x e
  · rw [upd_ne (fun z => h (by rw [z]; exact h2))]; exact E.ext.th b h
  · obtain ⟨a, q1, q2, q3, q4⟩ := E.ow i d h
    refine ⟨a, q1, q2, q3, q4.mono (Same.refl _) fun o e _ => ?_⟩
    rw [upd_ne (fun z => h3 ⟨i, d, h, by rw [← z]; exact q1⟩)]
    exact e
/-- .. that comes to be seen -/
theorem EnvR.show (E : EnvR K F H V σ ρ) {p : Addr} {o : HO} (h0 : H p = some o) (h1 : V p = none) (h2 : F.H0 p = none) (h3 : ¬ IsOwn σ ρ p) : EnvR K F H (upd V p o) σ ρ := by
  have sv : Same V (upd V p o) := same_new h1
  refine ⟨E.len, ⟨E.ext.h, E.ext.v.trans sv, fun b x e => ?_, fun b q1 q2 => ?_, E.ext.th, E.ext.t⟩, fun i d h => ?_, fun i d h => ?_, E.dis, E.lent, E.tab⟩
  · by_cases hb : b = p
    · subst hb; rw [upd_same] at e; cases e; exact h0
    · rw [upd_ne hb] at e; exact E.ext.s b x e
  · rw [upd_ne (fun z => q2 (by rw [z]; exact h2))]; exact E.ext.f b q1 q2
  · obtain ⟨v, q1, q2⟩ := E.sh i d h
    exact ⟨v, q1, q2.mono sv⟩
  · obtain ⟨a, q1, q2, q3, q4⟩ := E.ow i d h
    exact ⟨a, q1, by rw [upd_ne (fun z => h3 ⟨i, d, h, by rw [← z]; exact q1⟩)]; exact q2, q3, q4.mono sv fun _ e _ => e⟩
theorem EnvR.restore (E : EnvR K F H V σ ρ) (E1 : EnvR K F H1 V1 (L2.wipe σ vs) (wipeR ρ1 vs)) (v : Same V V1) (hv : ∀ i ∈ vs, isOw ρ[i]? = false) : EnvR K F H1 V1 σ (resR ρ ρ1 vs) := by
  have l1 : σ.length = ρ1.length := by
    have := E1.len
    rw [wipe_length, wipeR_len] at this
    exact this
  refine ⟨by rw [resR_len]; exact l1, E1.ext, fun i d h => ?_, fun i d h => ?_, fun i j a d e h1 h2 h3 h4 => ?_, E.lent, E.tab⟩
  · by_cases hi : i ∈ vs
    · by_cases hl : i < ρ1.length
      · rw [resR_in hi hl] at h
        have h' : ρ.getD i .no = .sh d := Option.some.inj h
        rw [List.getD_eq_getElem?_getD] at h'
        cases q : ρ[i]? with
        | none => rw [q] at h'; cases h'
        | some s =>
          rw [q] at h'
          have h' : s = .sh d := h'
          subst h'
          obtain ⟨x, q1, q2⟩ := E.sh i d q
          exact ⟨x, q1, q2.mono v⟩
      · rw [List.getElem?_eq_none (by rw [resR_len]; omega)] at h; cases h
    · rw [resR_out hi] at h
      obtain ⟨x, q1, q2⟩ := E1.sh i d (by rw [wipeR_out hi]; exact h)
      rw [wipe_outL hi] at q1
      exact ⟨x, q1, q2⟩
  · have hi : i ∉ vs := fun hi => by
      by_cases hl : i < ρ1.length
      · rw [resR_in hi hl] at h
        have h' : ρ.getD i .no = .ow d := Option.some.inj h
        rw [List.getD_eq_getElem?_getD] at h'
        have q := hv i hi
        cases q' : ρ[i]? with
        | none => rw [q'] at h'; cases h'
        | some s =>
          rw [q'] at h' q
          have h' : s = .ow d := h'
          subst h'
          cases q
      · rw [List.getElem?_eq_none (by rw [resR_len]; omega)] at h; cases h
    rw [resR_out hi] at h
    obtain ⟨x, q1, q2⟩ := E1.ow i d (by rw [wipeR_out hi]; exact h)
    rw [wipe_outL hi] at q1
    exact ⟨x, q1, q2⟩
  · have no : ∀ {i : Nat} {d : PyData}, (resR ρ ρ1 vs)[i]? = some (.ow d) → i ∉ vs := fun {i d} h hi => by
      by_cases hl : i < ρ1.length
      · rw [resR_in hi hl] at h
        have h' : ρ.getD i .no = .ow d := Option.some.inj h
        rw [List.getD_eq_getElem?_getD] at h'
        have q := hv i hi
        cases q' : ρ[i]? with
        | none => rw [q'] at h'; cases h'
        | some s =>
          rw [q'] at h' q
          have h' : s = .ow d := h'
          subst h'
          cases q
      · rw [List.getElem?_eq_none (by rw [resR_len]; omega)] at h; cases h
    have n1 := no h1
    have n2 := no h2
    rw [resR_out n1] at h1
    rw [resR_out n2] at h2
    exact E1.dis i j a d e (by rw [wipeR_out n1]; exact h1) (by rw [wipeR_out n2]; exact h2) (by rw [wipe_outL n1]; exact h3) (by rw [wipe_outL n2]; exact h4)
end
section
variable {X : Cx} {F : Fr}
def PMTs (X : Cx) (F : Fr) (ifs : List Expr) (f : M Bool) : Prop := PTs X ifs (tMT X.kw F f)
def yesT : M Bool := M.pure true
theorem PTs.imp {X : Cx} {e : List Expr} {t u : TT} (h : PTs X e t) (i : ∀ σ H Q, u σ H Q → t σ H Q) : PTs X e u := by
  obtain ⟨r⟩ := h
  exact ⟨fun pins s σ H Q I q => r pins s σ H Q I (i σ H Q q)⟩
theorem pmts_nil : PMTs X F [] yesT := PTs.imp pts_nil fun σ H Q ⟨V, ρ, E, g⟩ => Goal.pure0 E g rfl
theorem pmts_one {c : Expr} {ft : M Bool} (h : PMT X F c ft) : PMTs X F [c] ft := pts_one h
/-- what holds of a comprehension's new list at D, its values ys, data acc, within the block: slots σ', data ρ' -/
structure LI (K : KW) (F : Fr) (vs : List Nat) (σ : St) (ρ1 : Rho) (H1 V1 : Hp) (D : Addr) (σ' : St) (ρ' : Rho) (H' V' : Hp) (ys : List L2.V) (acc : List PyData) : Prop where
  env : EnvR K F H' V' σ' ρ'
  sv : Same V1 V'
  hD : H' D = some (.lst ys)
  rl : RepL K V' ys acc
  vD : V' D = none
  ho : ∀ b, IsOwn σ' ρ' b → IsOwn σ ρ1 b
  kp : ∀ b o, H1 b = some o → nT o → ¬ IsOwn σ ρ1 b → H' b = some o
  sh : ∀ (j : Nat) (d : PyData), j ∉ vs → ρ'[j]? = some (.sh d) → ρ1[j]? = some (.sh d)
  fr : ∀ b, V1 b = none → H1 b ≠ none → V' b = none
  th : ∀ b, H1 b ≠ none → H' b ≠ none
  nD : ¬ IsOwn σ ρ1 D
  h0 : F.H0 D = none
  h1 : H1 D = none
section
variable {K : KW} {F : Fr} {vs : List Nat} {σ : St} {ρ1 : Rho} {H1 V1 : Hp} {D : Addr} {σ' σ2 : St} {ρ' ρ2 : Rho} {H' V' H2 V2 : Hp} {ys : List L2.V} {acc : List PyData}
theorem LI.start (E : EnvR K F H1 V1 σ ρ1) (hD : H1 D = none) : LI K F vs σ ρ1 H1 V1 D σ ρ1 (upd H1 D (.lst [])) V1 [] [] where
  env := E.grow (Ext.hid E.sub hD)
  sv := Same.refl _
  hD := upd_same
  rl := .nil
  vD := E.sub.free hD
  ho := fun _ h => h
  kp := fun b o q _ _ => same_new hD b o q
  sh := fun _ _ _ q => q
  fr := fun _ q _ => q
  th := Same.th (same_new hD)
  nD := fun h => by
    obtain ⟨i, d, h1, h2⟩ := h
    obtain ⟨a, q1, q2, q3, q4⟩ := E.ow i d h1
    have e : a = D := by rw [h2] at q1; exact (L2.V.ref.inj (Option.some.inj (Option.some.inj q1))).symm
    obtain ⟨o, q5, _⟩ := q4.there
    rw [e, hD] at q5
    cases q5
  h0 := E.ext.free hD
  h1 := hD
theorem LI.someD (I : LI K F vs σ ρ1 H1 V1 D σ' ρ' H' V' ys acc) : H' D ≠ none := by rw [I.hD]; exact fun z => nomatch z
theorem LI.wipe (I : LI K F vs σ ρ1 H1 V1 D σ' ρ' H' V' ys acc) (ws : List Nat) (hl : F.ls ∉ ws ∨ F.lent = none) : LI K F vs σ ρ1 H1 V1 D (L2.wipe σ' ws) (wipeR ρ' ws) H' V' ys acc :=
  { I with env := I.env.wipe hl, ho := fun b h => I.ho b (isOwn_wipe h), sh := fun j d hj q => I.sh j d hj (wipeR_some (by intro z; cases z) q).1 }
theorem LI.ext (I : LI K F vs σ ρ1 H1 V1 D σ' ρ' H' V' ys acc) (x : Ext H' V' H2 V2) : LI K F vs σ ρ1 H1 V1 D σ' ρ' H2 V2 ys acc :=
  { I with env := I.env.grow x, sv := I.sv.trans x.v, hD := x.h _ _ I.hD plain_lst.t, rl := I.rl.mono x.v, vD := x.f D I.vD I.someD, kp := fun b o q n m => x.h _ _ (I.kp b o q n m) n, fr := fun b h1 h2 => x.f b (I.fr b h1 h2) (I.th b h2), th := fun b h => x.th b (I.th b h) }
theorem LI.tgt {is : List Nat} (I : LI K F vs σ ρ1 H1 V1 D σ' ρ' H' V' ys acc) (E : EnvR K F H2 V2 σ2 ρ2) (x : Ext H' V' H2 V2) (o : ∀ b, IsOwn σ2 ρ2 b → IsOwn σ' ρ' b) (p : ∀ (i : Nat) (d : PyData), i ∉ is → ρ2[i]? = some (.sh d) → ρ'[i]? = some (.sh d)) (his : ∀ i ∈ is, i ∈ vs) :
    LI K F vs σ ρ1 H1 V1 D σ2 ρ2 H2 V2 ys acc :=
  { I.ext x with env := E, ho := fun b h => I.ho b (o b h), sh := fun j d hj q => I.sh j d hj (p j d (fun z => hj (his j z)) q) }
theorem LI.stp (I : LI K F vs σ ρ1 H1 V1 D σ' ρ' H' V' ys acc) (s : Stp K F σ' ρ' ρ2 H' V' H2 V2) : LI K F vs σ ρ1 H1 V1 D σ' ρ2 H2 V2 ys acc where
  env := s.env
  sv := I.sv.trans s.v
  hD := s.keep _ _ I.hD plain_lst.t fun h => I.nD (I.ho D h)
  rl := I.rl.mono s.v
  vD := s.f D I.vD I.someD
  ho := fun b h => I.ho b (s.own b h)
  kp := fun b o q n m => s.keep b o (I.kp b o q n m) n fun h => m (I.ho b h)
  sh := fun j d hj q => I.sh j d hj (s.shs j d q)
  fr := fun b h1 h2 => s.f b (I.fr b h1 h2) (I.th b h2)
  th := fun b h => s.th b (I.th b h)
  nD := I.nD
  h0 := I.h0
  h1 := I.h1
theorem LI.app {y : L2.V} {d : PyData} (I : LI K F vs σ ρ1 H1 V1 D σ' ρ' H' V' ys acc) (r : Rep K V' y d) : LI K F vs σ ρ1 H1 V1 D σ' ρ' (upd H' D (.lst (ys ++ [y]))) V' (ys ++ [y]) (acc ++ [d]) := by
  refine ⟨I.env.beside (fun x e => by rw [I.hD] at e; cases e; exact plain_lst) I.vD I.h0 fun h => I.nD (I.ho D h), I.sv, upd_same, I.rl.append (.cons r .nil), I.vD, I.ho, fun b o q n m => ?_, I.sh, I.fr, fun b h => ?_, I.nD, I.h0, I.h1⟩
  · rw [upd_ne (fun z => by rw [z, I.h1] at q; cases q)]
    exact I.kp b o q n m
  · rw [upd_ne (fun z => h (by rw [z]; exact I.h1))]
    exact I.th b h
theorem resR_ow {ρ1 ρ' : Rho} {vs : List Nat} (hv : ∀ i ∈ vs, isOw ρ1[i]? = false) {j : Nat} {d : PyData} (h : (resR ρ1 ρ' vs)[j]? = some (.ow d)) : j ∉ vs := fun hj => by
  by_cases hl : j < ρ'.length
  · rw [resR_in hj hl] at h
    have h' : ρ1.getD j .no = .ow d := Option.some.inj h
    rw [List.getD_eq_getElem?_getD] at h'
    have q := hv j hj
    cases q' : ρ1[j]? with
    | none => rw [q'] at h'; cases h'
    | some s =>
      rw [q'] at h' q
      have h' : s = .ow d := h'
      subst h'
      cases q
  · rw [List.getElem?_eq_none (by rw [resR_len]; omega)] at h; cases h
/-- the list is done -/
theorem LI.done (E : EnvR K F H1 V1 σ ρ1) (I : LI K F vs σ ρ1 H1 V1 D (L2.wipe σ vs) (wipeR ρ' vs) H' V' ys acc) (hv : ∀ i ∈ vs, isOw ρ1[i]? = false) :
    Stp K F σ ρ1 (resR ρ1 ρ' vs) H1 V1 H' (upd V' D (.lst ys)) ∧ Rep K (upd V' D (.lst ys)) (.ref D) (.list acc) := by
  have nD : ¬ IsOwn (L2.wipe σ vs) (wipeR ρ' vs) D := fun h => I.nD (I.ho D h)
  have Es : EnvR K F H' (upd V' D (.lst ys)) (L2.wipe σ vs) (wipeR ρ' vs) := I.env.show I.hD I.vD I.h0 nD
  have svD : Same V' (upd V' D (.lst ys)) := same_new I.vD
  refine ⟨⟨E.restore Es (I.sv.trans svD) hv, I.sv.trans svD, I.kp, fun b h => ?_, fun j d q => ?_, fun b h1 h2 => ?_, I.th⟩, .lst upd_same (I.rl.mono svD)⟩
  · obtain ⟨j, d, h1, h2⟩ := h
    have nj := resR_ow hv h1
    rw [resR_out nj] at h1
    exact I.ho b ⟨j, d, by rw [wipeR_out nj]; exact h1, by rw [wipe_outL nj]; exact h2⟩
  · by_cases hj : j ∈ vs
    · by_cases hl : j < ρ'.length
      · rw [resR_in hj hl] at q
        have h' : ρ1.getD j .no = .sh d := Option.some.inj q
        rw [List.getD_eq_getElem?_getD] at h'
        cases q' : ρ1[j]? with
        | none => rw [q'] at h'; cases h'
        | some s =>
          rw [q'] at h'
          have h' : s = .sh d := h'
          rw [h']
      · rw [List.getElem?_eq_none (by rw [resR_len]; omega)] at q; cases q
    · rw [resR_out hj] at q
      exact I.sh j d hj (by rw [wipeR_out hj]; exact q)
  · rw [upd_ne (fun z => h2 (by rw [z]; exact I.h1))]
    exact I.fr b h1 h2
end
theorem lcM_run {vs : List Nat} {l : R (List PyData × Rho)} {K : KW} {σ : St} {ρ1 : Rho} {H1 V1 : Hp} {Q : VK} (g1 : Goal K F σ ρ1 H1 V1 (Rep K) (if (vs.any fun i => isOw ρ1[i]?) = true then .bad else (match l with
      | .ok (acc, ρ') => .ok (.list acc, resR ρ1 ρ' vs)
      | _ => .bad)) Q) : ∃ acc ρ', l = .ok (acc, ρ') ∧ (∀ i ∈ vs, isOw ρ1[i]? = false) ∧ ∀ b H' V', Stp K F σ ρ1 (resR ρ1 ρ' vs) H1 V1 H' V' → Rep K V' b (.list acc) → Q b H' := by
  by_cases hany : (vs.any fun i => isOw ρ1[i]?) = true
  · rw [if_pos hany] at g1
    exact False.elim g1
  · rw [if_neg hany] at g1
    have hv : ∀ i ∈ vs, isOw ρ1[i]? = false := fun i hi => by
      cases q : isOw ρ1[i]? with
      | false => rfl
      | true => exact absurd (List.any_eq_true.mpr ⟨i, hi, q⟩) hany
    cases l with
    | exc c => exact False.elim g1
    | bad => exact False.elim g1
    | ok pr =>
      obtain ⟨acc, ρ'⟩ := pr
      exact ⟨acc, ρ', rfl, hv, g1⟩
theorem lc_of {K : KW} {vs is : List Nat} {fi : M (List PyData)} {g : GM} {ft : M Bool} {fe : M PyData} (his : ∀ i ∈ is, i ∈ vs) (hl : F.ls ∉ vs ∨ F.lent = none) {σ : St} {H : Hp} {Q : VK} (h : tM K F (lcM vs fi g ft fe) σ H Q) :
    tLc (tI K F fi) (tGM K F.nox is g) (tMT K F.nox ft) (tM K F.nox fe) vs σ H Q := by
  obtain ⟨V, ρ, E, g0⟩ := h
  refine ⟨V, ρ, E, Goal.bind g0 fun J ds H1 V1 ρ1 st1 it g1 => fun D hD => ?_⟩
  obtain ⟨acc, ρ', hL, hv, q⟩ := lcM_run g1
  refine ⟨fun i m H' => m = ds.length - i ∧ i ≤ ds.length ∧ ∃ V' ρc ys accd, LI K F vs σ ρ1 H1 V1 D (L2.wipe σ vs) (wipeR ρc vs) H' V' ys accd ∧ lcLoop vs g ft fe (ds.drop i) ρc accd = .ok (acc, ρ'),
    ⟨ds.length, rfl, Nat.zero_le _, V1, ρ1, [], [], (LI.start st1.env hD).wipe vs hl, hL⟩, ?_⟩
  rintro i m H' ⟨rfl, hle, V', ρc, ys, accd, I, hE⟩
  obtain ⟨i1, i2⟩ := it i H' V' I.sv I.env.sub
  by_cases hlt : i < ds.length
  · obtain ⟨go, yl⟩ := i1 _ (List.getElem?_eq_getElem hlt)
    rw [List.drop_eq_getElem_cons hlt] at hE
    refine .inr ⟨go, fun H2 => ∃ V' ρc ys accd, LI K F vs σ ρ1 H1 V1 D (L2.wipe σ vs) (wipeR ρc vs) H2 V' ys accd ∧ lcLoop vs g ft fe (ds.drop (i + 1)) ρc accd = .ok (acc, ρ'), fun H2 h => ⟨ds.length - (i + 1), by omega, rfl, hlt, h⟩, fun x H2 y => ?_⟩
    obtain ⟨V2, x2, r2⟩ := yl x H2 y
    have I2 := I.ext x2
    refine ⟨V2, wipeR ρc vs, ds[i], I2.env.nox, r2, ?_⟩
    unfold lcLoop at hE
    cases eg : g ds[i] (wipeR ρc vs) with
    | exc c => rw [eg] at hE; cases hE
    | bad => rw [eg] at hE; cases hE
    | ok ρ3 =>
      rw [eg] at hE
      intro σ3 H3 V3 E3 x3 w3 o3 p3
      have ew : L2.wipe σ3 vs = L2.wipe σ vs := (w3 vs his).trans (wipe_wipe σ vs)
      have I3 := I2.tgt E3.unnox x3 o3 p3 his
      refine ⟨ew, V3, ρ3, E3, ?_⟩
      have hE : (match ft ρ3 with
        | .ok (true, ρ2) => (match fe ρ2 with
          | .ok (y, ρ3) => if accd.length < LIM then lcLoop vs g ft fe (ds.drop (i + 1)) ρ3 (accd ++ [y]) else .bad
          | _ => .bad)
        | .ok (false, ρ2) => lcLoop vs g ft fe (ds.drop (i + 1)) ρ2 accd
        | _ => .bad) = .ok (acc, ρ') := hE
      show Goal K F.nox σ3 ρ3 H3 V3 (fun _ (b : Bool) a => b = a) (ft ρ3) _
      cases et : ft ρ3 with
      | exc c => rw [et] at hE; cases hE
      | bad => rw [et] at hE; cases hE
      | ok pt =>
        obtain ⟨bt, ρ4⟩ := pt
        rw [et] at hE
        intro b' H4 V4 st4 eb
        subst eb
        have I4 := I3.stp st4.unnox
        cases b' with
        | false =>
          show if false = true then _ else _
          rw [if_neg Bool.false_ne_true]
          have I5 := I4.wipe vs hl
          rw [ew] at I5
          exact ⟨V4, ρ4, ys, accd, I5, hE⟩
        | true =>
          rw [if_pos rfl]
          refine ⟨V4, ρ4, st4.env, ?_⟩
          have hE : (match fe ρ4 with
            | .ok (y, ρ3) => if accd.length < LIM then lcLoop vs g ft fe (ds.drop (i + 1)) ρ3 (accd ++ [y]) else .bad
            | _ => .bad) = .ok (acc, ρ') := hE
          cases ee : fe ρ4 with
          | exc c => rw [ee] at hE; cases hE
          | bad => rw [ee] at hE; cases hE
          | ok pe =>
            obtain ⟨yd, ρ5⟩ := pe
            rw [ee] at hE
            have hE : (if accd.length < LIM then lcLoop vs g ft fe (ds.drop (i + 1)) ρ5 (accd ++ [yd]) else .bad) = .ok (acc, ρ') := hE
            intro yv H5 V5 st5 ry
            by_cases hlm : accd.length < LIM
            · rw [if_pos hlm] at hE
              have I5 := I4.stp st5.unnox
              have I6 := (I5.app ry).wipe vs hl
              rw [ew] at I6
              exact ⟨ys, I5.hD, by rw [I5.rl.length]; exact Nat.lt_trans hlm lim_lt, V5, ρ5, _, _, I6, hE⟩
            · rw [if_neg hlm] at hE; cases hE
  · have ei : i = ds.length := by omega
    subst ei
    rw [List.drop_length] at hE
    have hE : R.ok (accd, ρc) = R.ok (acc, ρ') := hE
    injection hE with hE
    injection hE with ea er
    subst ea er
    obtain ⟨s1, s2⟩ := LI.done st1.env I hv
    exact .inl ⟨i2 rfl, q _ _ _ s1 s2⟩
abbrev Blk (X : Cx) (scope : Scope) (P : Cx → Prop) : Prop := ∀ (s : Shared) (H : Hp) (C : Addr) (cl : List (Str × Addr)) (fp : List Addr), P (X.blk s H scope (compEnvC scope cl C X.env) fp)
theorem pm_lc {elt tg iter : Expr} {ifs : List Expr} {scope : Scope} {pos : Pos} {fi : M (List PyData)} {is : List Nat} {g : GM} {ft : M Bool} {fe : M PyData} (own : List (Str × Nat)) (hi : PMI X F tg iter fi) (ok : BlkOk X.N X.env.scope scope own) (hN : X.N.Nodup)
    (hg : Blk X scope fun Y => PMG Y F.nox tg is g) (ht : Blk X scope fun Y => PMTs Y F.nox ifs ft) (he : Blk X scope fun Y => PM Y F.nox elt fe)
    (his : ∀ i ∈ is, i ∈ own.map (·.2) := by decide) (hl : F.ls ∉ own.map (·.2) ∨ F.lent = none := by first | exact Or.inr rfl | exact Or.inl (nm_ls rfl)) (hc : X.calm = true := by rfl) (hs : ∀ x, foldedSetIterable iter X.env x = pure x := by intro _; rfl) :
    PM X F (.ListComp elt [⟨tg, iter, ifs, 0⟩] scope pos) (lcM (own.map (·.2)) fi g ft fe) :=
  PE.imp (pe_lc (g := tGM X.kw F.nox is g) (tt := tMT X.kw F.nox ft) (te := tM X.kw F.nox fe) hc hN hi ok hg ht he hs) fun _ _ _ h => lc_of his hl h
theorem asg_of {f : M PyData} {i : Nat} {D : Ends} {σ : St} {H : Hp} {K : KW} (hl : i ≠ F.ls ∨ F.lent = none) (h : tS K F (asgO f (setS i)) D σ H) : tM K F f σ H fun x H1 => gName i x σ H1 D.nx := by
  obtain ⟨V, ρ, E, g⟩ := h
  refine ⟨V, ρ, E, Goal.ex g fun v d H1 V1 ρ1 st1 r1 g1 => ?_⟩
  unfold setS at g1
  by_cases hlt : i < ρ1.length
  · rw [if_pos hlt] at g1
    exact g1 _ _ _ (st1.env.setSh r1 hl) (Same.refl _)
  · rw [if_neg hlt] at g1
    exact False.elim g1
theorem pms_setLc (i : Nat) {y : Str} {py spos : Pos} {elt tg iter : Expr} {ifs : List Expr} {scope : Scope} {pos : Pos} {fi : M (List PyData)} {is : List Nat} {g : GM} {ft : M Bool} {fe : M PyData} (own : List (Str × Nat)) (hi : PMI X F tg iter fi) (ok : BlkOk X.N X.env.scope scope own) (hN : X.N.Nodup)
    (hg : Blk X scope fun Y => PMG Y F.nox tg is g) (ht : Blk X scope fun Y => PMTs Y F.nox ifs ft) (he : Blk X scope fun Y => PM Y F.nox elt fe)
    (hy : X.N[i]? = some y := by rfl) (hyl : X.env.scope.names.lookup y = some .local := by rfl)
    (hsw : swapsWith (.ListComp elt [⟨tg, iter, ifs, 0⟩] scope pos) (some (.Name y py)) spos.line X.env = pure true := by exact sw_true rfl rfl rfl (by decide +kernel))
    (his : ∀ i ∈ is, i ∈ own.map (·.2) := by decide) (hl : F.ls ∉ own.map (·.2) ∨ F.lent = none := by first | exact Or.inr rfl | exact Or.inl (nm_ls rfl)) (hli : i ≠ F.ls ∨ F.lent = none := by first | exact Or.inr rfl | exact Or.inl (ne_ls rfl)) (hc : X.calm = true := by rfl) (hs : ∀ x, foldedSetIterable iter X.env x = pure x := by intro _; rfl) :
    PMS X F (.Assign [.Name y py] (.ListComp elt [⟨tg, iter, ifs, 0⟩] scope pos) spos) (asgO (lcM (own.map (·.2)) fi g ft fe) (setS i)) :=
  PS.imp (ps_setLc (g := tGM X.kw F.nox is g) (tt := tMT X.kw F.nox ft) (te := tM X.kw F.nox fe) hc hN hy hyl hsw hi ok hg ht he hs) fun _ _ _ h => lc_of his hl (asg_of hli h)
end
end DL
set_option Elab.async false
set_option linter.all false
set_option maxRecDepth 100000
set_option maxHeartbeats 1000000
namespace DL
open PySem PySem.Spec PyProof.Rows L2
variable [TabCtx]
def lcLoop2 (vs vs1 : List Nat) (g : GM) (t : M Bool) (fi1 : M (List PyData)) (g1 : GM) (t1 : M Bool) (e : M PyData) : List PyData → Rho → List PyData → R (List PyData × Rho)
  | [], ρ, acc => .ok (acc, ρ)
  | d :: ds, ρ, acc => match g d (wipeR ρ vs) with
    | .ok ρ1 => (match t ρ1 with
      | .ok (true, ρ2) => (match fi1 ρ2 with
        | .ok (ds1, ρ3) => (match lcLoop vs1 g1 t1 e ds1 ρ3 acc with
          | .ok (acc', ρ4) => lcLoop2 vs vs1 g t fi1 g1 t1 e ds ρ4 acc'
          | _ => .bad)
        | _ => .bad)
      | .ok (false, ρ2) => lcLoop2 vs vs1 g t fi1 g1 t1 e ds ρ2 acc
      | _ => .bad)
    | _ => .bad
def lcM2 (vs vs1 : List Nat) (a : M (List PyData)) (g : GM) (t : M Bool) (fi1 : M (List PyData)) (g1 : GM) (t1 : M Bool) (e : M PyData) : M PyData := M.bind a fun ds ρ => if vs.any (fun i => isOw ρ[i]?) = true then .bad else (match lcLoop2 vs vs1 g t fi1 g1 t1 e ds ρ [] with
  | .ok (acc, ρ') => .ok (.list acc, resR ρ ρ' vs)
  | _ => .bad)
theorem wipe_sub (σ : St) {vs ws : List Nat} (h : ∀ i ∈ ws, i ∈ vs) : L2.wipe (L2.wipe σ ws) vs = L2.wipe σ vs := by
  apply List.ext_getElem?
  intro i
  by_cases hi : i ∈ vs
  · by_cases hl : i < σ.length
    · rw [wipe_in hi (by rw [wipe_length]; exact hl), wipe_in hi hl]
    · rw [List.getElem?_eq_none (by simp only [wipe_length]; omega), List.getElem?_eq_none (by simp only [wipe_length]; omega)]
  · rw [wipe_outL hi, wipe_outL hi, wipe_outL fun z => hi (h i z)]
theorem wipeR_in {ρ : Rho} {i : Nat} : ∀ {vs : List Nat}, i ∈ vs → i < ρ.length → (wipeR ρ vs)[i]? = some .no
  | v :: vs, h, hl => by
    unfold wipeR
    by_cases e : v = i
    · subst e; exact List.getElem?_set_self (by rw [wipeR_len]; exact hl)
    · rw [List.getElem?_set_ne e]
      rcases List.mem_cons.mp h with z | z
      · exact absurd z.symm e
      · exact wipeR_in z hl
theorem wipeR_sub (ρ : Rho) {vs ws : List Nat} (h : ∀ i ∈ ws, i ∈ vs) : wipeR (wipeR ρ ws) vs = wipeR ρ vs := by
  apply List.ext_getElem?
  intro i
  by_cases hi : i ∈ vs
  · by_cases hl : i < ρ.length
    · rw [wipeR_in hi (by rw [wipeR_len]; exact hl), wipeR_in hi hl]
    · rw [List.getElem?_eq_none (by simp only [wipeR_len]; omega), List.getElem?_eq_none (by simp only [wipeR_len]; omega)]
  · rw [wipeR_out hi, wipeR_out hi, wipeR_out fun z => hi (h i z)]
section
variable {X : Cx} {F : Fr}
theorem lc2_of {K : KW} {vs vs1 is is1 : List Nat} {fi fi1 : M (List PyData)} {g g1 : GM} {ft ft1 : M Bool} {fe : M PyData} (his : ∀ i ∈ is, i ∈ vs) (his1 : ∀ i ∈ is1, i ∈ vs1) (hv1 : ∀ i ∈ vs1, i ∈ vs) (hl : F.ls ∉ vs ∨ F.lent = none) {σ : St} {H : Hp} {Q : VK} (h : tM K F (lcM2 vs vs1 fi g ft fi1 g1 ft1 fe) σ H Q) :
    tLc2 (tI K F fi) (tGM K F.nox is g) (tMT K F.nox ft) (tI K F.nox fi1) (tGM K F.nox is1 g1) (tMT K F.nox ft1) (tM K F.nox fe) vs vs1 σ H Q := by
  obtain ⟨V, ρ, E, g0⟩ := h
  refine ⟨V, ρ, E, Goal.bind g0 fun J ds H1 V1 ρ1 st1 it g1' => fun D hD => ?_⟩
  obtain ⟨acc, ρ', hL, hv, q⟩ := lcM_run g1'
  have hl1 : F.ls ∉ vs1 ∨ F.lent = none := hl.imp (fun h z => h (hv1 _ z)) id
  have LD : ∀ ds' ρ acc, lcLoop2 vs vs1 g ft fi1 g1 ft1 fe (ds' : List PyData) ρ acc = lcLoop2 vs vs1 g ft fi1 g1 ft1 fe ds' ρ acc := fun _ _ _ => rfl
  refine ⟨fun i m H' => m = ds.length - i ∧ i ≤ ds.length ∧ ∃ V' ρc ys accd, LI K F vs σ ρ1 H1 V1 D (L2.wipe σ vs) (wipeR ρc vs) H' V' ys accd ∧ lcLoop2 vs vs1 g ft fi1 g1 ft1 fe (ds.drop i) ρc accd = .ok (acc, ρ'),
    ⟨ds.length, rfl, Nat.zero_le _, V1, ρ1, [], [], (LI.start st1.env hD).wipe vs hl, hL⟩, ?_⟩
  rintro i m H' ⟨rfl, hle, V', ρc, ys, accd, I, hE⟩
  obtain ⟨i1, i2⟩ := it i H' V' I.sv I.env.sub
  by_cases hlt : i < ds.length
  · obtain ⟨go, yl⟩ := i1 _ (List.getElem?_eq_getElem hlt)
    rw [List.drop_eq_getElem_cons hlt] at hE
    refine .inr ⟨go, fun H2 => ∃ V' ρc ys accd, LI K F vs σ ρ1 H1 V1 D (L2.wipe σ vs) (wipeR ρc vs) H2 V' ys accd ∧ lcLoop2 vs vs1 g ft fi1 g1 ft1 fe (ds.drop (i + 1)) ρc accd = .ok (acc, ρ'), fun H2 h => ⟨ds.length - (i + 1), by omega, rfl, hlt, h⟩, fun x H2 y => ?_⟩
    obtain ⟨V2, x2, r2⟩ := yl x H2 y
    have I2 := I.ext x2
    refine ⟨V2, wipeR ρc vs, ds[i], I2.env.nox, r2, ?_⟩
    unfold lcLoop2 at hE
    cases eg : g ds[i] (wipeR ρc vs) with
    | exc c => rw [eg] at hE; cases hE
    | bad => rw [eg] at hE; cases hE
    | ok ρ3 =>
      rw [eg] at hE
      intro σ3 H3 V3 E3 x3 w3 o3 p3
      have ew : L2.wipe σ3 vs = L2.wipe σ vs := (w3 vs his).trans (wipe_wipe σ vs)
      have I3 := I2.tgt E3.unnox x3 o3 p3 his
      refine ⟨ew, V3, ρ3, E3, ?_⟩
      have hE : (match ft ρ3 with
        | .ok (true, ρ2) => (match fi1 ρ2 with
          | .ok (ds1, ρ3) => (match lcLoop vs1 g1 ft1 fe ds1 ρ3 accd with
            | .ok (acc', ρ4) => lcLoop2 vs vs1 g ft fi1 g1 ft1 fe (ds.drop (i + 1)) ρ4 acc'
            | _ => .bad)
          | _ => .bad)
        | .ok (false, ρ2) => lcLoop2 vs vs1 g ft fi1 g1 ft1 fe (ds.drop (i + 1)) ρ2 accd
        | _ => .bad) = .ok (acc, ρ') := hE
      show Goal K F.nox σ3 ρ3 H3 V3 (fun _ (b : Bool) a => b = a) (ft ρ3) _
      cases et : ft ρ3 with
      | exc c => rw [et] at hE; cases hE
      | bad => rw [et] at hE; cases hE
      | ok pt =>
        obtain ⟨bt, ρ4⟩ := pt
        rw [et] at hE
        intro b' H4 V4 st4 eb
        subst eb
        have I4 := I3.stp st4.unnox
        cases b' with
        | false =>
          show if false = true then _ else _
          rw [if_neg Bool.false_ne_true]
          have I5 := I4.wipe vs hl
          rw [ew] at I5
          exact ⟨V4, ρ4, ys, accd, I5, hE⟩
        | true =>
          rw [if_pos rfl]
          refine ⟨V4, ρ4, st4.env, ?_⟩
          have hE : (match fi1 ρ4 with
            | .ok (ds1, ρ3) => (match lcLoop vs1 g1 ft1 fe ds1 ρ3 accd with
              | .ok (acc', ρ4) => lcLoop2 vs vs1 g ft fi1 g1 ft1 fe (ds.drop (i + 1)) ρ4 acc'
              | _ => .bad)
            | _ => .bad) = .ok (acc, ρ') := hE
          cases ei : fi1 ρ4 with
          | exc c => rw [ei] at hE; cases hE
          | bad => rw [ei] at hE; cases hE
          | ok pi =>
            obtain ⟨ds1, ρ5⟩ := pi
            rw [ei] at hE
            have hE : (match lcLoop vs1 g1 ft1 fe ds1 ρ5 accd with
              | .ok (acc', ρ4) => lcLoop2 vs vs1 g ft fi1 g1 ft1 fe (ds.drop (i + 1)) ρ4 acc'
              | _ => .bad) = .ok (acc, ρ') := hE
            intro J1 H5 V5 st5 it1
            have I5 := I4.stp st5.unnox
            cases el : lcLoop vs1 g1 ft1 fe ds1 ρ5 accd with
            | exc c => rw [el] at hE; cases hE
            | bad => rw [el] at hE; cases hE
            | ok pl =>
              obtain ⟨acc', ρ6⟩ := pl
              rw [el] at hE
              have hE : lcLoop2 vs vs1 g ft fi1 g1 ft1 fe (ds.drop (i + 1)) ρ6 acc' = .ok (acc, ρ') := hE
              refine ⟨fun j k H' => k = ds1.length - j ∧ j ≤ ds1.length ∧ ∃ V' ρc ys accd, LI K F vs σ ρ1 H1 V1 D (L2.wipe σ3 vs1) (wipeR ρc vs1) H' V' ys accd ∧ Same V5 V' ∧ lcLoop vs1 g1 ft1 fe (ds1.drop j) ρc accd = .ok (acc', ρ6),
                ⟨ds1.length, rfl, Nat.zero_le _, V5, ρ5, ys, accd, I5.wipe vs1 hl1, Same.refl _, el⟩, ?_⟩
              rintro j k Hj ⟨rfl, hlj, Vj, ρj, yj, aj, Ij, svj, ej⟩
              obtain ⟨j1, j2⟩ := it1 j Hj Vj svj Ij.env.sub
              by_cases hltj : j < ds1.length
              · obtain ⟨go1, yl1⟩ := j1 _ (List.getElem?_eq_getElem hltj)
                rw [List.drop_eq_getElem_cons hltj] at ej
                refine .inr ⟨go1, fun H2 => ∃ V' ρc ys accd, LI K F vs σ ρ1 H1 V1 D (L2.wipe σ3 vs1) (wipeR ρc vs1) H2 V' ys accd ∧ Same V5 V' ∧ lcLoop vs1 g1 ft1 fe (ds1.drop (j + 1)) ρc accd = .ok (acc', ρ6), fun H2 h => ⟨ds1.length - (j + 1), by omega, rfl, hltj, h⟩, fun xj H6 yyj => ?_⟩
                obtain ⟨V6, x6, r6⟩ := yl1 xj H6 yyj
                have I6 := Ij.ext x6
                refine ⟨V6, wipeR ρj vs1, ds1[j], I6.env.nox, r6, ?_⟩
                unfold lcLoop at ej
                cases eg1 : g1 ds1[j] (wipeR ρj vs1) with
                | exc c => rw [eg1] at ej; cases ej
                | bad => rw [eg1] at ej; cases ej
                | ok ρ7 =>
                  rw [eg1] at ej
                  intro σ7 H7 V7 E7 x7 w7 o7 p7
                  have ew7 : L2.wipe σ7 vs1 = L2.wipe σ3 vs1 := (w7 vs1 his1).trans (wipe_wipe σ3 vs1)
                  have I7 := I6.tgt E7.unnox x7 o7 p7 (fun i hi => hv1 i (his1 i hi))
                  have sv7 : Same V5 V7 := (svj.trans x6.v).trans x7.v
                  refine ⟨ew7, V7, ρ7, E7, ?_⟩
                  have ej : (match ft1 ρ7 with
                    | .ok (true, ρ2) => (match fe ρ2 with
                      | .ok (y, ρ3) => if aj.length < LIM then lcLoop vs1 g1 ft1 fe (ds1.drop (j + 1)) ρ3 (aj ++ [y]) else .bad
                      | _ => .bad)
                    | .ok (false, ρ2) => lcLoop vs1 g1 ft1 fe (ds1.drop (j + 1)) ρ2 aj
                    | _ => .bad) = .ok (acc', ρ6) := ej
                  show Goal K F.nox σ7 ρ7 H7 V7 (fun _ (b : Bool) a => b = a) (ft1 ρ7) _
                  cases et1 : ft1 ρ7 with
                  | exc c => rw [et1] at ej; cases ej
                  | bad => rw [et1] at ej; cases ej
                  | ok pt1 =>
                    obtain ⟨bt1, ρ8⟩ := pt1
                    rw [et1] at ej
                    intro b1 H8 V8 st8 eb1
                    subst eb1
                    have I8 := I7.stp st8.unnox
                    cases b1 with
                    | false =>
                      show if false = true then _ else _
                      rw [if_neg Bool.false_ne_true]
                      have I9 := I8.wipe vs1 hl1
                      rw [ew7] at I9
                      exact ⟨V8, ρ8, yj, aj, I9, sv7.trans st8.v, ej⟩
                    | true =>
                      rw [if_pos rfl]
                      refine ⟨V8, ρ8, st8.env, ?_⟩
                      have ej : (match fe ρ8 with
                        | .ok (y, ρ3) => if aj.length < LIM then lcLoop vs1 g1 ft1 fe (ds1.drop (j + 1)) ρ3 (aj ++ [y]) else .bad
                        | _ => .bad) = .ok (acc', ρ6) := ej
                      cases ee : fe ρ8 with
                      | exc c => rw [ee] at ej; cases ej
                      | bad => rw [ee] at ej; cases ej
                      | ok pe =>
                        obtain ⟨yd, ρ9⟩ := pe
                        rw [ee] at ej
                        have ej : (if aj.length < LIM then lcLoop vs1 g1 ft1 fe (ds1.drop (j + 1)) ρ9 (aj ++ [yd]) else .bad) = .ok (acc', ρ6) := ej
                        intro yv H9 V9 st9 ry
                        by_cases hlm : aj.length < LIM
                        · rw [if_pos hlm] at ej
                          have I9 := I8.stp st9.unnox
                          have I10 := (I9.app ry).wipe vs1 hl1
                          rw [ew7] at I10
                          exact ⟨yj, I9.hD, by rw [I9.rl.length]; exact Nat.lt_trans hlm lim_lt, V9, ρ9, _, _, I10, (sv7.trans st8.v).trans st9.v, ej⟩
                        · rw [if_neg hlm] at ej; cases ej
              · have ejj : j = ds1.length := by omega
                subst ejj
                rw [List.drop_length] at ej
                have ej : R.ok (aj, ρj) = R.ok (acc', ρ6) := ej
                injection ej with ej
                injection ej with ea er
                subst ea er
                have I6 := Ij.wipe vs hl
                rw [wipe_sub σ3 hv1, wipeR_sub ρj hv1, ew] at I6
                exact .inl ⟨j2 rfl, Vj, ρj, yj, aj, I6, hE⟩
  · have ei : i = ds.length := by omega
    subst ei
    rw [List.drop_length] at hE
    have hE : R.ok (accd, ρc) = R.ok (acc, ρ') := hE
    injection hE with hE
    injection hE with ea er
    subst ea er
    obtain ⟨s1, s2⟩ := LI.done st1.env I hv
    exact .inl ⟨i2 rfl, q _ _ _ s1 s2⟩
theorem pm_lc2 {elt tg iter tg1 iter1 : Expr} {ifs ifs1 : List Expr} {scope : Scope} {pos : Pos} {fi fi1 : M (List PyData)} {is is1 : List Nat} {g g1 : GM} {ft ft1 : M Bool} {fe : M PyData} (own : List (Str × Nat)) (vs1 : List Nat) (hi : PMI X F tg iter fi) (ok : BlkOk X.N X.env.scope scope own) (hN : X.N.Nodup)
    (hg : Blk X scope fun Y => PMG Y F.nox tg is g) (ht : Blk X scope fun Y => PMTs Y F.nox ifs ft) (hi1 : Blk X scope fun Y => PMI Y F.nox tg1 iter1 fi1) (hg1 : Blk X scope fun Y => PMG Y F.nox tg1 is1 g1) (ht1 : Blk X scope fun Y => PMTs Y F.nox ifs1 ft1) (he : Blk X scope fun Y => PM Y F.nox elt fe)
    (his : ∀ i ∈ is, i ∈ own.map (·.2) := by decide) (his1 : ∀ i ∈ is1, i ∈ vs1 := by decide) (hv1 : ∀ i ∈ vs1, i ∈ own.map (·.2) := by decide) (hl : F.ls ∉ own.map (·.2) ∨ F.lent = none := by first | exact Or.inr rfl | exact Or.inl (nm_ls rfl)) (hc : X.calm = true := by rfl) (hs : ∀ x, foldedSetIterable iter X.env x = pure x := by intro _; rfl) (hs1 : ∀ env x, foldedSetIterable iter1 env x = pure x := by intro _ _; rfl) :
    PM X F (.ListComp elt [⟨tg, iter, ifs, 0⟩, ⟨tg1, iter1, ifs1, 0⟩] scope pos) (lcM2 (own.map (·.2)) vs1 fi g ft fi1 g1 ft1 fe) :=
  PE.imp (pe_lc2 (wi1 := tI X.kw F.nox fi1) (g := tGM X.kw F.nox is g) (tt := tMT X.kw F.nox ft) (g1 := tGM X.kw F.nox is1 g1) (tt1 := tMT X.kw F.nox ft1) (te := tM X.kw F.nox fe) hc hN hi ok hv1 hg ht hi1 hg1 ht1 he hs hs1) fun _ _ _ h => lc2_of his his1 hv1 hl h
end
end DL
set_option Elab.async false
set_option linter.all false
set_option maxRecDepth 100000
set_option maxHeartbeats 1000000
namespace DL
open PySem PySem.Spec PyProof.Rows L2
variable [TabCtx]
section
variable {K : KW} {F : Fr} {σ : St} {ρ ρ1 : Rho} {H V H1 V1 : Hp}
theorem getElem_set_some {α : Type} {l : List α} {i j : Nat} {x y : α} (h : (l.set i x)[j]? = some y) : (i = j ∧ x = y ∧ i < l.length) ∨ (i ≠ j ∧ l[j]? = some y) := by
  by_cases e : i = j
  · subst e
    by_cases hi : i < l.length
    · rw [List.getElem?_set_self hi] at h
      exact .inl ⟨rfl, Option.some.inj h, hi⟩
    · rw [List.getElem?_eq_none (by simpa using hi)] at h; cases h
  · rw [List.getElem?_set_ne e] at h
    exact .inr ⟨e, h⟩
/-- a slot is given a new own thing -/
theorem EnvR.setOw (E : EnvR K F H V σ ρ) {i : Nat} {p : Addr} {o : HO} {d : PyData} (hp : H p = none) (r : OwnAt K V (upd H p o) p d) (hl : i ≠ F.ls ∨ F.lent = none) : EnvR K F (upd H p o) V (σ.set i (some (.ref p))) (ρ.set i (.ow d)) := by
  have hlen := E.len
  have E1 := E.grow (Ext.hid (o := o) E.sub hp)
  have np : ∀ {j : Nat} {e : PyData} {a : Addr}, ρ[j]? = some (.ow e) → σ[j]? = some (some (.ref a)) → a ≠ p := fun {j e a} h1 h2 z => by
    obtain ⟨b, q1, q2, q3, q4⟩ := E.ow j e h1
    rw [h2] at q1
    cases q1
    obtain ⟨o, q5, _⟩ := q4.there
    rw [z, hp] at q5
    cases q5
  refine ⟨by simp [hlen], E1.ext, fun j e h => ?_, fun j e h => ?_, fun j k a e e' h1 h2 h3 h4 => ?_, fun a ha => ?_, E.tab⟩
  · rcases getElem_set_some h with ⟨_, q, _⟩ | ⟨n, q⟩
    · cases q
    · rw [List.getElem?_set_ne n]; exact E1.sh j e q
  · rcases getElem_set_some h with ⟨rfl, q, hi⟩ | ⟨n, q⟩
    · cases q
      exact ⟨p, List.getElem?_set_self (by omega), E.sub.free hp, E.ext.free hp, r⟩
    · rw [List.getElem?_set_ne n]; exact E1.ow j e q
  · rcases getElem_set_some h1 with ⟨rfl, _, _⟩ | ⟨n1, q1⟩
    · rcases getElem_set_some h2 with ⟨rfl, _, _⟩ | ⟨n2, q2⟩
      · rfl
      · rcases getElem_set_some h3 with ⟨_, q3, _⟩ | ⟨n3, _⟩
        · rcases getElem_set_some h4 with ⟨z, _, _⟩ | ⟨_, q4⟩
          · exact absurd z n2
          · exact absurd (L2.V.ref.inj (Option.some.inj q3)).symm (np q2 q4)
        · exact absurd rfl n3
    · rcases getElem_set_some h2 with ⟨rfl, _, _⟩ | ⟨n2, q2⟩
      · rcases getElem_set_some h4 with ⟨_, q4, _⟩ | ⟨n3, _⟩
        · rcases getElem_set_some h3 with ⟨z, _, _⟩ | ⟨_, q3⟩
          · exact absurd z n1
          · exact absurd (L2.V.ref.inj (Option.some.inj q4)).symm (np q1 q3)
        · exact absurd rfl n3
      · rw [List.getElem?_set_ne n1] at h3
        rw [List.getElem?_set_ne n2] at h4
        exact E.dis j k a e e' q1 q2 h3 h4
  · rcases hl with hl | hl
    · rw [List.getElem?_set_ne hl]; exact E.lent a ha
    · rw [hl] at ha; cases ha
/-- an own thing is changed -/
theorem EnvR.updOw (E : EnvR K F H V σ ρ) {i : Nat} {p : Addr} {o : HO} {d d' : PyData} (h0 : ρ[i]? = some (.ow d)) (h1 : σ[i]? = some (some (.ref p))) (r : OwnAt K V (upd H p o) p d') : EnvR K F (upd H p o) V σ (ρ.set i (.ow d')) := by
  obtain ⟨b, q1, q2, q3, q4⟩ := E.ow i d h0
  rw [h1] at q1
  cases q1
  refine ⟨by simp [E.len], ⟨fun b x e n => ?_, E.ext.v, fun b x e => ?_, E.ext.f, fun b h => ?_, fun t => tabs_upd q4.plain (E.ext.t t)⟩, fun j e h => ?_, fun j e h => ?_, fun j k a e e' h1' h2 h3 h4 => ?_, E.lent, E.tab⟩
  · rw [upd_ne (fun z => by rw [z, q3] at e; cases e)]; exact E.ext.h b x e n
  · rw [upd_ne (fun z => by rw [z, q2] at e; cases e)]; exact E.ext.s b x e
  · rw [upd_ne (fun z => h (by rw [z]; exact q3))]; exact E.ext.th b h
  · rcases getElem_set_some h with ⟨_, q, _⟩ | ⟨n, q⟩
    · cases q
    · exact E.sh j e q
  · rcases getElem_set_some h with ⟨rfl, q, hi⟩ | ⟨n, q⟩
    · cases q
      exact ⟨p, h1, q2, q3, r⟩
    · obtain ⟨a, w1, w2, w3, w4⟩ := E.ow j e q
      refine ⟨a, w1, w2, w3, w4.mono (Same.refl _) fun o' e' _ => ?_⟩
      rw [upd_ne (fun z => n (by rw [z] at w1; exact E.dis i j p d e h0 q h1 w1))]
      exact e'
  · have f : ∀ {j : Nat} {e : PyData}, (ρ.set i (.ow d'))[j]? = some (.ow e) → ∃ e, ρ[j]? = some (.ow e) := fun {j e} h => by
      rcases getElem_set_some h with ⟨rfl, q, hi⟩ | ⟨n, q⟩
      · exact ⟨d, h0⟩
      · exact ⟨e, q⟩
    obtain ⟨e1, w1⟩ := f h1'
    obtain ⟨e2, w2⟩ := f h2
    exact E.dis j k a e1 e2 w1 w2 h3 h4
end
def ownO (i : Nat) (a : M (List PyData)) : SM := exO a fun ds ρ => if ds.length ≤ LIM then .nx (ρ.set i (.ow (.list ds))) else .bad
def appO (i : Nat) (a : M PyData) : SM := fun ρ => match ρ[i]? with
  | some (.ow (.list _)) => exO a (fun d ρ => match ρ[i]? with
    | some (.ow (.list ds)) => if ds.length < LIM then .nx (ρ.set i (.ow (.list (ds ++ [d])))) else .bad
    | _ => .bad) ρ
  | _ => .bad
/-- o[k] of an own list -/
def ixI (i : Nat) (a : M PyData) : M PyData := M.bind a fun k ρ => match ρ[i]?, k with
  | some (.ow (.list ds)), .int j => (match atD ds j with
    | some z => .ok (z, ρ)
    | none => .bad)
  | _, _ => .bad
def ixO (i : Nat) (a : M PyData) : M PyData := fun ρ => if isOw ρ[i]? = true then ixI i a ρ else .bad
/-- o[k] = e of an own list -/
def sixI (i : Nat) (d : PyData) (k : M PyData) : SM := exO k fun j ρ => match ρ[i]?, j with
  | some (.ow (.list ds)), .int j => (match ixN ds.length j with
    | some n => .nx (ρ.set i (.ow (.list (ds.set n d))))
    | none => .bad)
  | _, _ => .bad
def sixO (i : Nat) (k a : M PyData) : SM := exO a fun d ρ => if isOw ρ[i]? = true then sixI i d k ρ else .bad
section
variable {X : Cx} {F : Fr} {e k : Expr} {es : List Expr} {fa fk : M PyData} {fs : M (List PyData)} {pos : Pos}
theorem pms_own (i : Nat) {x : Str} {pos' posl : Pos} (ha : PMA X F es fs) (hN : X.N.Nodup) (hi : X.N[i]? = some x := by rfl) (hx : Loc X.env.scope x := by first | exact Or.inl rfl | exact Or.inr rfl) (hl : i ≠ F.ls ∨ F.lent = none := by first | exact Or.inr rfl | exact Or.inl (ne_ls rfl))
    (hs : swapsWith (.List es posl) (some (.Name x pos')) pos.line X.env = pure false := by rfl) (hf : X.fn x = true ∨ X.env.scope.names.lookup x = some .local := by first | exact .inl rfl | exact .inr rfl | assumption) :
    PMS X F (.Assign [.Name x pos'] (.List es posl) pos) (ownO i fs) := by
  refine PS.imp (ps_set hN hi hx (pe_lst ha) hs hf) fun D σ H ⟨V, ρ, E, g⟩ => ⟨V, ρ, E, Goal.ex g fun xs ds H1 V1 ρ1 st1 r1 g1 => ?_⟩
  by_cases hlm : ds.length ≤ LIM
  · have g1 : GoalS X.kw F V1 (if ds.length ≤ LIM then .nx (ρ1.set i (.ow (.list ds))) else .bad) D := g1
    rw [if_pos hlm] at g1
    refine ⟨by rw [r1.length]; exact Nat.le_trans hlm lim_le, fun p hp => ?_⟩
    exact g1 _ _ _ (st1.env.setOw hp ⟨xs, upd_same, r1⟩ hl) (Same.refl _)
  · have g1 : GoalS X.kw F V1 (if ds.length ≤ LIM then .nx (ρ1.set i (.ow (.list ds))) else .bad) D := g1
    rw [if_neg hlm] at g1
    exact False.elim g1
theorem pms_app (i : Nat) {x : Str} {px apos cpos : Pos} (ha : PM X F e fa) (hN : X.N[i]? = some x := by rfl) (hv : Vis X.env.scope x := by first | exact Or.inl rfl | exact Or.inr (Or.inl rfl) | exact Or.inr (Or.inr rfl)) (hd : (x == ("__debug__" : Str)) = false := by decide) (hcd : (x == ("__classdict__" : Str)) = false := by decide)
    (hbase : attributeBase (.Name x px) "append" X.env (eval (.Name x px) X.env) = eval (.Name x px) X.env := by rfl)
    (hfew : ((backTo cpos (starEach [e] X.env)).all (fun x => !x.1) && (backToKw cpos (keywordEach [] X.env)).all (fun x => x.1.isSome) && decide ([e].length + ([] : List Keyword).length + (if ([] : List Keyword).isEmpty then 0 else 1) < 30)) = true := by rfl)
    (hline : (apos.endLine == cpos.line) = true := by rfl) (hs : starEach [e] X.env = (false, eval e X.env) :: starEach [] X.env := by rfl) (hplain : (backTo cpos (starEach [] X.env)).any (·.1) = false := by rfl)
    (hsw : swapsWith (.Call (.Attribute (.Name x px) "append" apos) [e] [] cpos) none pos.line X.env = pure false := by rfl) :
    PMS X F (.Expr (.Call (.Attribute (.Name x px) "append" apos) [e] [] cpos) pos) (appO i fa) := by
  refine PS.imp (ps_expr (pe_bm PySem.F.plainAttrs_list PySem.F.slot_list_append PySem.F.type_list_append mt_append (pe_var hN hv hd hcd) (pa_cons ha pa_nil hs) hbase hfew hline hs hplain) hsw) fun D σ H ⟨V, ρ, E, g⟩ => ?_
  unfold appO at g
  cases eo : ρ[i]? with
  | none => rw [eo] at g; exact False.elim g
  | some s =>
    rw [eo] at g
    cases s with
    | no => exact False.elim g
    | sh d => exact False.elim g
    | ow d =>
      cases d with
      | list ds0 =>
        obtain ⟨a, h1, h2, h3, xs0, h4, h5⟩ := E.ow i _ eo
        refine ⟨.ref a, h1, .inl ⟨rfl, xs0, .inl (.inl h4)⟩, V, ρ, E, Goal.ex g fun v d H1 V1 ρ1 st1 r1 g1 => ?_⟩
        cases eo1 : ρ1[i]? with
        | none => rw [eo1] at g1; exact False.elim g1
        | some s1 =>
          rw [eo1] at g1
          cases s1 with
          | no => exact False.elim g1
          | sh d => exact False.elim g1
          | ow d1 =>
            cases d1 with
            | list ds =>
              have g1 : GoalS X.kw F V1 (if ds.length < LIM then .nx (ρ1.set i (.ow (.list (ds ++ [d])))) else .bad) D := g1
              obtain ⟨a', q1, q2, q3, xs, q4, q5⟩ := st1.env.ow i _ eo1
              have ea : a' = a := by rw [h1] at q1; exact (L2.V.ref.inj (Option.some.inj (Option.some.inj q1))).symm
              subst ea
              by_cases hlm : ds.length < LIM
              · rw [if_pos hlm] at g1
                refine ⟨a', xs, v, rfl, rfl, q4, by rw [q5.length]; exact Nat.lt_trans hlm lim_lt, ?_⟩
                exact g1 _ _ _ (st1.env.updOw eo1 q1 ⟨_, upd_same, q5.append (.cons r1 .nil)⟩) (Same.refl _)
              · rw [if_neg hlm] at g1
                exact False.elim g1
            | _ => exact False.elim g1
      | _ => exact False.elim g
theorem pm_ixO (i : Nat) {x : Str} {px : Pos} (hk : PM X F k fk) (hN : X.N[i]? = some x := by rfl) (hv : Vis X.env.scope x := by first | exact Or.inl rfl | exact Or.inr (Or.inl rfl) | exact Or.inr (Or.inr rfl)) (hd : (x == ("__debug__" : Str)) = false := by decide) (hcd : (x == ("__classdict__" : Str)) = false := by decide)
    (hs : PlainIx k := by exact fun _ _ => rfl) : PM X F (.Subscript (.Name x px) k pos) (ixO i fk) := by
  refine PE.imp (pe_ix ix_list (pe_var hN hv hd hcd) hk hs) fun σ H Q ⟨V, ρ, E, g⟩ => ?_
  have g : Goal X.kw F σ ρ H V (Rep X.kw) (if isOw ρ[i]? = true then ixI i fk ρ else .bad) Q := g
  by_cases hio : isOw ρ[i]? = true
  · rw [if_pos hio] at g
    cases eo : ρ[i]? with
    | none => rw [eo] at hio; cases hio
    | some s =>
      cases s with
      | no => rw [eo] at hio; cases hio
      | sh d => rw [eo] at hio; cases hio
      | ow d0 =>
        obtain ⟨a, h1, h2, h3, h4⟩ := E.ow i _ eo
        refine ⟨.ref a, h1, V, ρ, E, Goal.bind g fun v d H1 V1 ρ1 st1 r1 g1 => ?_⟩
        cases eo1 : ρ1[i]? with
        | none => rw [eo1] at g1; exact False.elim g1
        | some s1 =>
          rw [eo1] at g1
          cases s1 with
          | no => exact False.elim g1
          | sh d => exact False.elim g1
          | ow d1 =>
            cases d1 with
            | list ds =>
              cases r1 with
              | int j =>
                have g1 : Goal X.kw F σ ρ1 H1 V1 (Rep X.kw) (match atD ds j with
                  | some z => .ok (z, ρ1)
                  | none => .bad) Q := g1
                obtain ⟨a', q1, q2, q3, xs, q4, q5⟩ := st1.env.ow i _ eo1
                have ea : a' = a := by rw [h1] at q1; exact (L2.V.ref.inj (Option.some.inj (Option.some.inj q1))).symm
                subst ea
                cases ez : atD ds j with
                | none => rw [ez] at g1; exact False.elim g1
                | some z =>
                  rw [ez] at g1
                  obtain ⟨u, w1, w2⟩ := atD_get q5 ez
                  exact ⟨a', xs, j, u, rfl, rfl, .inl (.inl q4), w1, g1 u H1 V1 st1.env.refl w2⟩
              | _ => exact False.elim g1
            | _ => exact False.elim g1
  · rw [if_neg hio] at g
    exact False.elim g
theorem pms_six (i : Nat) {x : Str} {px spos : Pos} (ha : PM X F e fa) (hk : PM X F k fk) (hN : X.N[i]? = some x := by rfl) (hv : Vis X.env.scope x := by first | exact Or.inl rfl | exact Or.inr (Or.inl rfl) | exact Or.inr (Or.inr rfl)) (hd : (x == ("__debug__" : Str)) = false := by decide) (hcd : (x == ("__classdict__" : Str)) = false := by decide)
    (has : ∀ v, assign (.Subscript (.Name x px) k spos) X.env v = (do
      let ov ← holding [v] (eval (.Name x px) X.env)
      let iv ← holding [v, ov] (eval k X.env)
      standAt spos
      holding [v, ov, iv] (setItem ov iv v)
      release [v, ov, iv] []) := by intro _; rfl) (hs : swapsWithSole [.Subscript (.Name x px) k spos] e pos.line X.env = pure false := by rfl) (hw : swappedStores [.Subscript (.Name x px) k spos] e X.env = pure none := by rfl)
    (h1 : (assignEach [.Subscript (.Name x px) k spos] X.env).map (·.2) = [assign (.Subscript (.Name x px) k spos) X.env] := by rfl) :
    PMS X F (.Assign [.Subscript (.Name x px) k spos] e pos) (sixO i fk fa) := by
  refine PS.imp (ps_asg ha (pg_sub (pe_var hN hv hd hcd) hk set_list has) hs hw h1) fun D σ H ⟨V, ρ, E, g⟩ => ⟨V, ρ, E, Goal.ex g fun v d H1 V1 ρ1 st1 r1 g1 => ?_⟩
  have g1 : GoalS X.kw F V1 (if isOw ρ1[i]? = true then sixI i d fk ρ1 else .bad) D := g1
  by_cases hio : isOw ρ1[i]? = true
  · rw [if_pos hio] at g1
    cases eo : ρ1[i]? with
    | none => rw [eo] at hio; cases hio
    | some s =>
      cases s with
      | no => rw [eo] at hio; cases hio
      | sh d => rw [eo] at hio; cases hio
      | ow d0 =>
        obtain ⟨a, h1, h2, h3, h4⟩ := st1.env.ow i _ eo
        refine ⟨.ref a, h1, V1, ρ1, st1.env, Goal.ex g1 fun j dj H2 V2 ρ2 st2 r2 g2 => ?_⟩
        cases eo1 : ρ2[i]? with
        | none => rw [eo1] at g2; exact False.elim g2
        | some s1 =>
          rw [eo1] at g2
          cases s1 with
          | no => exact False.elim g2
          | sh d => exact False.elim g2
          | ow d1 =>
            cases d1 with
            | list ds =>
              cases r2 with
              | int j =>
                have g2 : GoalS X.kw F V2 (match ixN ds.length j with
                  | some n => .nx (ρ2.set i (.ow (.list (ds.set n d))))
                  | none => .bad) D := g2
                obtain ⟨a', q1, q2, q3, xs, q4, q5⟩ := st2.env.ow i _ eo1
                have ea : a' = a := by rw [h1] at q1; exact (L2.V.ref.inj (Option.some.inj (Option.some.inj q1))).symm
                subst ea
                cases ez : ixN ds.length j with
                | none => rw [ez] at g2; exact False.elim g2
                | some n =>
                  rw [ez] at g2
                  exact ⟨a', xs, j, n, rfl, rfl, q4, by rw [q5.length]; exact ez, g2 _ _ _ (st2.env.updOw eo1 q1 ⟨_, upd_same, q5.set (r1.mono st2.v) n⟩) (Same.refl _)⟩
              | _ => exact False.elim g2
            | _ => exact False.elim g2
  · rw [if_neg hio] at g1
    exact False.elim g1
end
def hide (H : Hp) (a : Addr) : Hp := fun b => if b = a then none else H b
theorem hide_ne {H : Hp} {a b : Addr} (h : b ≠ a) : hide H a b = H b := by unfold hide; rw [if_neg h]
theorem hide_eq {H : Hp} {a : Addr} : hide H a a = none := by unfold hide; rw [if_pos rfl]
theorem hide_same {H : Hp} {a : Addr} : Same (hide H a) H := fun b o e => by
  by_cases h : b = a
  · rw [h, hide_eq] at e; cases e
  · rw [hide_ne h] at e; exact e
theorem tabs_hide {T : List (Addr × Str)} {H : Hp} {a : Addr} (h : ∀ x, H a = some x → Plain x) (t : LamX.Tabs T H) : LamX.Tabs T (hide H a) := fun q hq => by
  obtain ⟨ps, h1, h2, h3⟩ := t q hq
  refine ⟨ps, ?_, h2, fun pos cv hc => ?_⟩
  · rw [hide_ne (fun z => (h _ (by rw [← z]; exact h1)).t _ rfl)]; exact h1
  · obtain ⟨c, e1, e2⟩ := h3 pos cv hc
    refine ⟨c, e1, ?_⟩
    rw [hide_ne (fun z => (h _ (by rw [← z]; exact e2)).c _ _ rfl)]; exact e2
def start1 (n : Nat) (dd : PyData) (ds : List PyData) : Rho := .ow dd :: (ds.map .sh ++ List.replicate (n - 1 - ds.length) .no)
/-- a def of k parameters besides the lent one, n slots -/
def fnRunL (k n : Nat) (f : SM) (dd : PyData) (ds : List PyData) : R (PyData × PyData) := if ds.length = k then (match f (start1 n dd ds) with
  | .rt d ρ => (match ρ[0]? with
    | some (Sl.ow dd') => .ok (d, dd')
    | _ => .bad)
  | .rf d ρ => (match ρ[0]? with
    | some (Sl.ow dd') => .ok (d, dd')
    | _ => .bad)
  | .nx ρ => (match ρ[0]? with
    | some (Sl.ow dd') => .ok (.none, dd')
    | _ => .bad)
  | .exc c => .exc c
  | _ => .bad) else .bad
def spL (K : KW) (n : Nat) (m : PyData → List PyData → R (PyData × PyData)) : Sp := fun vs H Q E => vs.length = n ∧ ∃ a vs' V dd ds, TabV H V ∧ vs = .ref a :: vs' ∧ Same V H ∧ V a = none ∧ OwnAt K V H a dd ∧ RepL K V vs' ds ∧ match m dd ds with
  | .ok (d, dd') => ∀ v H' V', Ext (hide H a) V H' V' → V' a = none → OwnAt K V' H' a dd' → Rep K V' v d → Q v H'
  | .exc c => ∀ H' V', Ext (hide H a) V H' V' → E (.ref (He.ga K c)) none H'
  | .bad => False
def FnL (P : Program) (w : World) (K : PySem.W.Frag) (mg : Str → Option Value) (base : Heap) (lvl : Nat) (x : Str) (ps : List Str) (m : PyData → List PyData → R (PyData × PyData)) : Prop :=
  ∃ fd, FnOk P w K mg base (L2N.CX P w) lvl (He.ga K x) fd ps (spL ⟨K, w⟩ ps.length m) ∧ Binds K fd ps [] ∧ PySem.W.keepIn K (.ref (He.ga K x)) = true ∧ mg x = some (.ref (He.ga K x)) ∧ ∀ dd ds, m dd ds ≠ .bad → ds.length + 1 = ps.length
abbrev mkL (H V : Hp) (a : Addr) (E : XK) : Fr := ⟨hide H a, V, some a, fun cls _ H' => E cls none H', 0⟩
section
variable {P : Program} {w : World} {K : PySem.W.Frag} {mg : Str → Option Value} {base : Heap} {x : Str} {params : Arguments} {body : List Stmt} {scope : Scope} {fd : FuncData}
theorem env_lent {V H : Hp} {vs : List L2.V} {ds : List PyData} {a : Addr} {dd : PyData} (r : RepL ⟨K, w⟩ V vs ds) {N : List Str} (hle : vs.length + 1 ≤ N.length) {E : XK} (s : Same V H) (hv : V a = none) (ho : OwnAt ⟨K, w⟩ V H a dd) (ht : TabV H V) : EnvR ⟨K, w⟩ (mkL H V a E) H V (L2.start N (.ref a :: vs)) (start1 N.length dd ds) := by
  have hl := r.length
  have f : ∀ {i : Nat} {t : Sl}, (start1 N.length dd ds)[i]? = some t → (i = 0 ∧ t = .ow dd) ∨ (∃ j d, i = j + 1 ∧ ds[j]? = some d ∧ t = .sh d) ∨ t = .no := fun {i t} h => by
    unfold start1 at h
    cases i with
    | zero => exact .inl ⟨rfl, (Option.some.inj h).symm⟩
    | succ j =>
      rw [List.getElem?_cons_succ] at h
      by_cases hi : j < ds.length
      · rw [List.getElem?_append_left (by simpa using hi), List.getElem?_map] at h
        obtain ⟨d', h1, h2⟩ := Option.map_eq_some_iff.mp h
        exact .inr (.inl ⟨j, d', rfl, h1, h2.symm⟩)
      · rw [List.getElem?_append_right (by simpa using hi), List.getElem?_replicate] at h
        split at h
        · exact .inr (.inr (Option.some.inj h).symm)
        · cases h
  refine ⟨?_, .of hide_same (Same.refl _) s (fun _ h _ => h), fun i d h => ?_, fun i d h => ?_, fun i j b d e h1 h2 _ _ => ?_, fun b h => ?_, tabs_hide ho.plain ht.1, ht.2⟩
  · simp only [L2.start, start1, List.length_append, List.length_map, List.length_cons, List.length_replicate, hl]
    omega
  · rcases f h with ⟨_, z⟩ | ⟨j, d', rfl, hj, z⟩ | z
    · cases z
    · cases z
      obtain ⟨v, h3, h4⟩ := r.get j hj
      refine ⟨v, ?_, h4⟩
      unfold L2.start
      have hj' : j < vs.length := (List.getElem?_eq_some_iff.mp h3).1
      rw [List.getElem?_append_left (by simp only [List.length_map, List.length_cons]; omega), List.getElem?_map, List.getElem?_cons_succ, h3]
      rfl
    · cases z
  · rcases f h with ⟨rfl, z⟩ | ⟨j, d', rfl, hj, z⟩ | z
    · cases z
      exact ⟨a, rfl, hv, hide_eq, ho⟩
    · cases z
    · cases z
  · rcases f h1 with ⟨rfl, _⟩ | ⟨j, d', _, _, z⟩ | z
    · rcases f h2 with ⟨rfl, _⟩ | ⟨j, d', _, _, z⟩ | z
      · rfl
      · cases z
      · cases z
    · cases z
    · cases z
  · cases h
    rfl
theorem fn_mkL {N ps : List Str} {k : Nat} {f : SM} (D : FunD K x x params body scope [] [] (He.ga K x) fd) (hx : mg x = some (.ref (He.ga K x))) (S : FnScope N ps scope)
    (hbd : ∀ (kV doc pm : Value) (an : Option Addr) (cdv ct : Value) (us : List Value), us.length = ps.length → bindArgs (PySem.W.fnOf x x params body scope .none kV doc pm an cdv ct) ⟨us, []⟩ = pure (ps.zip us))
    (hps : ps.length ≤ N.length) (hp0 : 0 < ps.length)
    (hb : ∀ (cdv : Value) (A : Around) (outer : List Env) (s : Shared) (H V : Hp) (a : Addr) (E : XK), Room k (A.deeper (envOfC x scope s.heap.objs.size (He.ga K x) cdv)) → PMSs (cxF P w K mg base N x scope cdv A outer s H E) (mkL H V a E) body f) :
    FnL P w K mg base (k + 1) x ps (fnRunL (ps.length - 1) N.length f) := by
  refine ⟨fd, D.ok (CX := L2N.CX P w) S (fun vs H Q E h => h.1) fun cdv A outer s H vs Q E hr h => ?_, D.bindsN hbd, D.kp, hx, fun dd ds h => ?_⟩
  · obtain ⟨hl, a, vs', V, dd, ds, ht, rfl, sv, va, ho, r, g⟩ := h
    rw [List.length_cons] at hl
    refine ⟨_, hb cdv A outer s H V a E hr, V, start1 N.length dd ds, env_lent r (by omega) sv va ho ht, ?_⟩
    unfold fnRunL at g
    rw [if_pos (by rw [← r.length]; omega)] at g
    show GoalS ⟨K, w⟩ (mkL H V a E) V (f (start1 N.length dd ds)) _
    have fin : ∀ {v : L2.V} {d : PyData} {ρ' : Rho} {σ' : St} {H' V' : Hp}, EnvR ⟨K, w⟩ (mkL H V a E) H' V' σ' ρ' → Rep ⟨K, w⟩ V' v d → (match (match ρ'[0]? with
        | some (.ow dd') => (.ok (d, dd') : R (PyData × PyData))
        | _ => .bad) with
      | .ok (d, dd') => ∀ v H' V', Ext (hide H a) V H' V' → V' a = none → OwnAt ⟨K, w⟩ V' H' a dd' → Rep ⟨K, w⟩ V' v d → Q v H'
      | .exc c => ∀ H' V', Ext (hide H a) V H' V' → E (.ref (He.ga K c)) none H'
      | .bad => False) → Q v H' := fun {v d ρ' σ' H' V'} E' r' g => by
      cases e0 : ρ'[0]? with
      | none => rw [e0] at g; exact False.elim g
      | some t =>
        rw [e0] at g
        cases t with
        | no => exact False.elim g
        | sh d => exact False.elim g
        | ow dd' =>
          obtain ⟨b, q1, q2, q3, q4⟩ := E'.ow 0 dd' e0
          have eb : b = a := by
            have := E'.lent a rfl
            rw [q1] at this
            exact L2.V.ref.inj (Option.some.inj (Option.some.inj this))
          subst eb
          exact g v H' V' E'.ext q2 q4 r'
    cases e : f (start1 N.length dd ds) with
    | rt d ρ' => rw [e] at g; exact fun v σ' H' V' E' _ r' => fin E' r' g
    | rf d ρ' => rw [e] at g; exact fun v σ' H' V' E' _ r' _ => fin E' r' g
    | nx ρ' => rw [e] at g; exact fun σ' H' V' E' _ => fin E' .non g
    | exc c => rw [e] at g; exact fun σ' H' V' x => g H' V' x
    | bk ρ' => rw [e] at g; exact False.elim g
    | ct ρ' => rw [e] at g; exact False.elim g
    | bad => rw [e] at g; exact False.elim g
  · unfold fnRunL at h
    by_cases hl : ds.length = ps.length - 1
    · omega
    · rw [if_neg hl] at h; exact absurd rfl h
end
/-- f(d, ..), d an own list in slot i -/
def callI (i : Nat) (m : PyData → List PyData → R (PyData × PyData)) (a : M (List PyData)) : M PyData := M.bind a fun ds ρ => match ρ[i]? with
  | some (.ow dd) => (match m dd ds with
    | .ok (d, dd') => .ok (d, ρ.set i (.ow dd'))
    | .exc c => .exc c
    | .bad => .bad)
  | _ => .bad
def callL (i : Nat) (m : PyData → List PyData → R (PyData × PyData)) (a : M (List PyData)) : M PyData := fun ρ => if isOw ρ[i]? = true then callI i m a ρ else .bad
theorem EnvR.lendX {K : KW} {F : Fr} {σ : St} {ρ : Rho} {H V H' V' : Hp} (E : EnvR K F H V σ ρ) {i : Nat} {a : Addr} {dd : PyData} (h0 : ρ[i]? = some (.ow dd)) (h1 : σ[i]? = some (some (.ref a))) (x : Ext (hide H a) V H' V') : Ext F.H0 F.V0 H' V' := by
  obtain ⟨b, q1, q2, q3, q4⟩ := E.ow i dd h0
  rw [h1] at q1
  cases q1
  have ne : ∀ {b : Addr}, F.H0 b ≠ none → b ≠ a := fun {b} e z => e (by rw [z]; exact q3)
  exact ⟨fun b o e n => x.h b o (by rw [hide_ne (ne (by rw [e]; exact fun z => nomatch z))]; exact E.ext.h b o e n) n, E.ext.v.trans x.v, x.s, (fun b e1 e2 => x.f b (E.ext.f b e1 e2) (by rw [hide_ne (ne e2)]; exact E.ext.th b e2)), (fun b h => x.th b (by rw [hide_ne (ne h)]; exact E.ext.th b h)), fun t => x.t (tabs_hide q4.plain (E.ext.t t))⟩
theorem EnvR.lend {K : KW} {F : Fr} {σ : St} {ρ : Rho} {H V H' V' : Hp} (E : EnvR K F H V σ ρ) {i : Nat} {a : Addr} {dd dd' : PyData} (h0 : ρ[i]? = some (.ow dd)) (h1 : σ[i]? = some (some (.ref a))) (x : Ext (hide H a) V H' V') (va : V' a = none) (ho : OwnAt K V' H' a dd') : Stp K F σ ρ (ρ.set i (.ow dd')) H V H' V' := by
  obtain ⟨b, q1, q2, q3, q4⟩ := E.ow i dd h0
  rw [h1] at q1
  cases q1
  have hil : i < ρ.length := (List.getElem?_eq_some_iff.mp h0).1
  have ne : ∀ {b : Addr} {o : HO}, F.H0 b = some o → b ≠ a := fun {b o} e z => by rw [z, q3] at e; cases e
  have kx : ∀ b o, H b = some o → nT o → b ≠ a → H' b = some o := fun b o e nt n => x.h b o (by rw [hide_ne n]; exact e) nt
  have fx : ∀ b, V b = none → H b ≠ none → V' b = none := fun b e1 e2 => by
    by_cases n : b = a
    · rw [n]; exact va
    · exact x.f b e1 (by rw [hide_ne n]; exact e2)
  have ext : Ext F.H0 F.V0 H' V' := E.lendX h0 h1 x
  have ow : ∀ {j : Nat} {e : PyData}, (ρ.set i (.ow dd'))[j]? = some (.ow e) → ∃ e, ρ[j]? = some (.ow e) := fun {j e} h => by
    rcases getElem_set_some h with ⟨rfl, q, hi⟩ | ⟨n, q⟩
    · exact ⟨dd, h0⟩
    · exact ⟨e, q⟩
  refine ⟨⟨by simp [E.len], ext, fun j e h => ?_, fun j e h => ?_, fun j k b e e' w1 w2 w3 w4 => ?_, E.lent, E.tab⟩, x.v, fun b o e nt n => kx b o e nt fun z => n ⟨i, dd, h0, by rw [z]; exact h1⟩, fun b h => ?_, fun j e h => ?_, fx, fun b h => ?_⟩
  · rcases getElem_set_some h with ⟨_, q, _⟩ | ⟨n, q⟩
    · cases q
    · obtain ⟨v, w1, w2⟩ := E.sh j e q
      exact ⟨v, w1, w2.mono x.v⟩
  · rcases getElem_set_some h with ⟨rfl, q, hi⟩ | ⟨n, q⟩
    · cases q
      exact ⟨a, h1, va, q3, ho⟩
    · obtain ⟨b, w1, w2, w3, w4⟩ := E.ow j e q
      have nb : b ≠ a := fun z => n (by rw [z] at w1; exact E.dis i j a dd e h0 q h1 w1)
      obtain ⟨o, w5, _⟩ := w4.there
      exact ⟨b, w1, fx b w2 (by rw [w5]; exact fun z => nomatch z), w3, w4.mono x.v fun o e nt => kx b o e nt nb⟩
  · obtain ⟨e1, u1⟩ := ow w1
    obtain ⟨e2, u2⟩ := ow w2
    exact E.dis j k b e1 e2 u1 u2 w3 w4
  · obtain ⟨j, e, w1, w2⟩ := h
    obtain ⟨e1, u1⟩ := ow w1
    exact ⟨j, e1, u1, w2⟩
  · rcases getElem_set_some h with ⟨_, q, _⟩ | ⟨n, q⟩
    · cases q
    · exact q
  · by_cases n : b = a
    · rw [n]
      obtain ⟨o, w5, _⟩ := ho.there
      rw [w5]
      exact fun z => nomatch z
    · exact x.th b (by rw [hide_ne n]; exact h)
section
variable {X : Cx} {F : Fr} {es : List Expr} {fs : M (List PyData)} {pos p : Pos}
theorem pm_callL (i : Nat) {y : Str} {py : Pos} {lvl : Nat} {x : Str} {ps : List Str} {m : PyData → List PyData → R (PyData × PyData)} (G : FnL X.prog X.w X.K X.mg X.base lvl x ps m) (hr : Room lvl X.A) (tk : Tk X F) (ha : PMA X F es fs) (hg : Gl X x := by rfl)
    (hN : X.N[i]? = some y := by rfl) (hv : Vis X.env.scope y := by first | exact Or.inl rfl | exact Or.inr (Or.inl rfl) | exact Or.inr (Or.inr rfl)) (hd : (y == ("__debug__" : Str)) = false := by decide) (hcd : (y == ("__classdict__" : Str)) = false := by decide)
    (hdb : (x == ("__debug__" : Str)) = false := by decide) (he : starEach (.Name y py :: es) X.env = (false, eval (.Name y py) X.env) :: starEach es X.env := by rfl) (hpl : (backTo pos (starEach es X.env)).any (·.1) = false := by rfl) : PM X F (.Call (.Name x p) (.Name y py :: es) [] pos) (callL i m fs) := by
  obtain ⟨fd, G1, G2, G3, G4, G5⟩ := G
  refine PE.imp (pe_callS G1 hr hg G4 G3 G2 (fun σ => L2N.passAt tk σ) (pa_cons (pe_var hN hv hd hcd) ha he) hdb he hpl) fun σ H Q ⟨V, ρ, E, g0⟩ => ?_
  have g0 : Goal X.kw F σ ρ H V (Rep X.kw) (if isOw ρ[i]? = true then callI i m fs ρ else .bad) Q := g0
  by_cases hio : isOw ρ[i]? = true
  · rw [if_pos hio] at g0
    cases eo : ρ[i]? with
    | none => rw [eo] at hio; cases hio
    | some s =>
      cases s with
      | no => rw [eo] at hio; cases hio
      | sh d => rw [eo] at hio; cases hio
      | ow d0 =>
        obtain ⟨a, h1, h2, h3, h4⟩ := E.ow i _ eo
        refine ⟨.ref a, h1, V, ρ, E, Goal.bind g0 fun vs ds H1 V1 ρ1 st1 r1 g1 => ?_⟩
        cases eo1 : ρ1[i]? with
        | none => rw [eo1] at g1; exact False.elim g1
        | some s1 =>
          rw [eo1] at g1
          cases s1 with
          | no => exact False.elim g1
          | sh d => exact False.elim g1
          | ow dd =>
            obtain ⟨a', q1, q2, q3, q4⟩ := st1.env.ow i _ eo1
            have ea : a' = a := by rw [h1] at q1; exact (L2.V.ref.inj (Option.some.inj (Option.some.inj q1))).symm
            subst ea
            have g1 : Goal X.kw F σ ρ1 H1 V1 (Rep X.kw) (match m dd ds with
              | .ok (d, dd') => .ok (d, ρ1.set i (.ow dd'))
              | .exc c => .exc c
              | .bad => .bad) Q := g1
            have len : ∀ (h : m dd ds ≠ .bad), (L2.V.ref a' :: vs).length = ps.length := fun h => by rw [List.length_cons, r1.length]; exact G5 dd ds h
            cases em : m dd ds with
            | ok pr =>
              obtain ⟨d, dd'⟩ := pr
              rw [em] at g1
              refine ⟨len (by rw [em]; exact fun z => nomatch z), a', vs, V1, dd, ds, st1.env.tabs, rfl, st1.env.sub, q2, q4, r1, ?_⟩
              rw [em]
              exact fun v H' V' x va ho r => g1 v H' V' (st1.env.lend eo1 q1 x va ho) r
            | exc c =>
              rw [em] at g1
              refine ⟨len (by rw [em]; exact fun z => nomatch z), a', vs, V1, dd, ds, st1.env.tabs, rfl, st1.env.sub, q2, q4, r1, ?_⟩
              rw [em]
              exact fun H' V' x => ⟨rfl, g1 H' V' (st1.env.lendX eo1 q1 x)⟩
            | bad => rw [em] at g1; exact False.elim g1
  · rw [if_neg hio] at g0
    exact False.elim g0
end
end DL
set_option Elab.async false
set_option linter.all false
set_option maxRecDepth 100000
set_option maxHeartbeats 1000000
namespace DL
open PySem PySem.Spec PyProof.Rows L2
variable [TabCtx]
def demSl : Sl → Sl
  | .ow d => .sh d
  | s => s
/-- true: slot 0 (a lent thing) stays own -/
def demR : Bool → Rho → Rho
  | false, ρ => ρ.map demSl
  | true, [] => []
  | true, s :: ρ => s :: ρ.map demSl
def immSl : Sl → Bool
  | .ow (.list ds) => immL ds
  | .no => true
  | _ => false
def backR : Bool → Rho → Rho → Option Rho
  | false, ρ, _ => some ρ
  | true, _ :: r, s :: _ => if immSl s = true then some (s :: r) else none
  | true, _, _ => none
def brw (b : Bool) (f : M PyData) : M PyData := fun ρ => match f (demR b ρ) with
  | .ok (d, ρ') => if imm d = true then (match backR b ρ ρ' with
    | some ρ'' => .ok (d, ρ'')
    | none => .bad) else .bad
  | .exc c => .exc c
  | .bad => .bad
theorem demR_len (b : Bool) (ρ : Rho) : (demR b ρ).length = ρ.length := by
  cases b with
  | false => exact List.length_map ..
  | true => cases ρ with
    | nil => rfl
    | cons s r => simp [demR]
theorem demR_ow {b : Bool} {ρ : Rho} {i : Nat} {d : PyData} (h : (demR b ρ)[i]? = some (.ow d)) : i = 0 ∧ b = true ∧ ρ[i]? = some (.ow d) := by
  have m : ∀ {r : Rho} {i : Nat}, (r.map demSl)[i]? ≠ some (.ow d) := fun {r i} h => by
    rw [List.getElem?_map] at h
    obtain ⟨s, _, h2⟩ := Option.map_eq_some_iff.mp h
    cases s <;> cases h2
  cases b with
  | false => exact absurd h m
  | true => cases ρ with
    | nil => cases h
    | cons s r =>
      cases i with
      | zero => exact ⟨rfl, rfl, h⟩
      | succ i => exact absurd (show (r.map demSl)[i]? = some (.ow d) from h) m
theorem demR_sh {b : Bool} {ρ : Rho} {i : Nat} {d : PyData} (h : (demR b ρ)[i]? = some (.sh d)) : ρ[i]? = some (.sh d) ∨ (ρ[i]? = some (.ow d) ∧ (b = true → i ≠ 0)) := by
  have m : ∀ {r : Rho} {i : Nat}, (r.map demSl)[i]? = some (.sh d) → r[i]? = some (.sh d) ∨ r[i]? = some (.ow d) := fun {r i} h => by
    rw [List.getElem?_map] at h
    obtain ⟨s, h1, h2⟩ := Option.map_eq_some_iff.mp h
    cases s with
    | no => cases h2
    | sh e => cases h2; exact .inl h1
    | ow e => cases h2; exact .inr h1
  cases b with
  | false => exact (m h).imp id fun q => ⟨q, fun z => nomatch z⟩
  | true => cases ρ with
    | nil => cases h
    | cons s r =>
      cases i with
      | zero => exact .inl h
      | succ i => exact (m (show (r.map demSl)[i]? = some (.sh d) from h)).imp id fun q => ⟨q, fun _ => Nat.succ_ne_zero i⟩
theorem demR_keep {ρ : Rho} {d : PyData} (h : ρ[0]? = some (.ow d)) : (demR true ρ)[0]? = some (.ow d) := by
  cases ρ with
  | nil => cases h
  | cons s r => exact h
open Classical in
/-- what is seen if own things are -/
noncomputable def shown (P : Addr → Prop) (V H : Hp) : Hp := fun c => if P c then H c else V c
open Classical in
noncomputable def veiled (P : Addr → Prop) (V : Hp) : Hp := fun c => if P c then none else V c
section
variable {K : KW} {F : Fr} {σ : St} {ρ ρ' ρ'' : Rho} {H V H' V' : Hp}
theorem shown_p {P : Addr → Prop} {c : Addr} (h : P c) : shown P V H c = H c := by unfold shown; rw [if_pos h]
theorem shown_n {P : Addr → Prop} {c : Addr} (h : ¬ P c) : shown P V H c = V c := by unfold shown; rw [if_neg h]
theorem veiled_p {P : Addr → Prop} {c : Addr} (h : P c) : veiled P V c = none := by unfold veiled; rw [if_pos h]
theorem veiled_n {P : Addr → Prop} {c : Addr} (h : ¬ P c) : veiled P V c = V c := by unfold veiled; rw [if_neg h]
def Let (σ : St) (ρ : Rho) (b : Bool) (c : Addr) : Prop := IsOwn σ ρ c ∧ ¬ IsOwn σ (demR b ρ) c
theorem EnvR.own_at (E : EnvR K F H V σ ρ) {c : Addr} (h : IsOwn σ ρ c) : V c = none ∧ F.H0 c = none ∧ ∃ o, H c = some o ∧ (∀ xs, o ≠ .tup xs) ∧ (∀ u xs, o ≠ .frz u (.tup xs)) ∧ Plain o := by
  obtain ⟨i, d, h1, h2⟩ := h
  obtain ⟨a, q1, q2, q3, q4⟩ := E.ow i d h1
  rw [h2] at q1
  cases q1
  exact ⟨q2, q3, q4.there⟩
theorem EnvR.let_at (E : EnvR K F H V σ ρ) {b : Bool} {i : Nat} {d : PyData} {a : Addr} (h : ρ[i]? = some (.ow d)) (h2 : σ[i]? = some (some (.ref a))) (hb : b = true → i ≠ 0) : Let σ ρ b a := by
  refine ⟨⟨i, d, h, h2⟩, fun ⟨j, e, q1, q2⟩ => ?_⟩
  obtain ⟨rfl, hb', q3⟩ := demR_ow q1
  exact hb hb' (E.dis i 0 a d e h q3 h2 q2)
theorem EnvR.dem (E : EnvR K F H V σ ρ) (b : Bool) : EnvR K F H (shown (Let σ ρ b) V H) σ (demR b ρ) := by
  have sv : Same V (shown (Let σ ρ b) V H) := fun c o e => by
    rw [shown_n (fun h => by rw [(E.own_at h.1).1] at e; cases e)]; exact e
  refine ⟨by rw [demR_len]; exact E.len, ⟨E.ext.h, E.ext.v.trans sv, fun c o e => ?_, fun c h1 h2 => ?_, E.ext.th, E.ext.t⟩, fun i d h => ?_, fun i d h => ?_, fun i j a d e h1 h2 h3 h4 => ?_, E.lent, E.tab⟩
  · by_cases h : Let σ ρ b c
    · rw [shown_p h] at e; exact e
    · rw [shown_n h] at e; exact E.sub c o e
  · rw [shown_n (fun h => h2 (E.own_at h.1).2.1)]; exact E.ext.f c h1 h2
  · rcases demR_sh h with q | ⟨q, hb⟩
    · obtain ⟨v, w1, w2⟩ := E.sh i d q
      exact ⟨v, w1, w2.mono sv⟩
    · obtain ⟨a, w1, w2, w3, w4⟩ := E.ow i d q
      refine ⟨.ref a, w1, ?_⟩
      have el : shown (Let σ ρ b) V H a = H a := shown_p (E.let_at q w1 hb)
      cases d with
      | list ds => obtain ⟨vs, e, r⟩ := w4; exact .lst (el.trans e) (r.mono sv)
      | dict ps =>
        rcases w4 with ⟨kvs, e, r, n⟩ | ⟨kvs, ep, e, r⟩
        · exact .dk (el.trans e) (r.mono sv) n
        · exact .dt (el.trans e) (r.mono sv)
      | _ => exact w4.elim
  · obtain ⟨rfl, hb, q⟩ := demR_ow h
    obtain ⟨a, w1, w2, w3, w4⟩ := E.ow 0 d q
    exact ⟨a, w1, by rw [shown_n (fun z => z.2 ⟨0, d, h, w1⟩)]; exact w2, w3, w4.mono sv fun _ e _ => e⟩
  · exact E.dis i j a d e (demR_ow h1).2.2 (demR_ow h2).2.2 h3 h4
theorem immL_mono {K : KW} {V V' H : Hp} {a : Addr} {s : Sl} {d : PyData} (e : s = .ow d) (h : immSl s = true) (o : OwnAt K V H a d) (t : SameT V V') : OwnAt K V' H a d := by
  subst e
  cases d with
  | list ds => obtain ⟨vs, e, r⟩ := o; exact ⟨vs, e, r.imm t h⟩
  | _ => cases h
theorem EnvR.back (E : EnvR K F H V σ ρ) {b : Bool} (st : Stp K F σ (demR b ρ) ρ' H (shown (Let σ ρ b) V H) H' V') (hb : backR b ρ ρ' = some ρ'') :
    Stp K F σ ρ ρ'' H V H' (veiled (Let σ ρ b) V') ∧ SameT V' (veiled (Let σ ρ b) V') := by
  have sT : SameT V' (veiled (Let σ ρ b) V') := by
    have no : ∀ c, Let σ ρ b c → ∃ o, V' c = some o ∧ (∀ xs, o ≠ .tup xs) ∧ ∀ u xs, o ≠ .frz u (.tup xs) := fun c h => by
      obtain ⟨_, _, o, q1, q2, q3, _⟩ := E.own_at h.1
      exact ⟨o, st.v c o (by rw [shown_p h]; exact q1), q2, q3⟩
    refine ⟨fun c xs e => ?_, fun c u xs e => ?_⟩
    · rw [veiled_n (fun h => by obtain ⟨o, q1, q2, _⟩ := no c h; rw [q1] at e; exact q2 xs (Option.some.inj e))]; exact e
    · rw [veiled_n (fun h => by obtain ⟨o, q1, _, q2⟩ := no c h; rw [q1] at e; exact q2 u xs (Option.some.inj e))]; exact e
  have sv : Same V (veiled (Let σ ρ b) V') := fun c o e => by
    have n : ¬ Let σ ρ b c := fun h => by rw [(E.own_at h.1).1] at e; cases e
    rw [veiled_n n]
    exact st.v c o (by rw [shown_n n]; exact e)
  have kp : ∀ c o, H c = some o → nT o → ¬ IsOwn σ (demR b ρ) c → H' c = some o := st.keep
  have od : ∀ {c}, IsOwn σ (demR b ρ) c → IsOwn σ ρ c := fun {c} ⟨i, d, h1, h2⟩ => ⟨i, d, (demR_ow h1).2.2, h2⟩
  -- the slots behind
  have sl : ∀ {i : Nat} {t : Sl}, ρ''[i]? = some t → (ρ[i]? = some t ∧ (b = true → i ≠ 0)) ∨ (i = 0 ∧ b = true ∧ ρ'[0]? = some t ∧ immSl t = true) := fun {i t} h => by
    cases b with
    | false =>
      cases hb
      exact .inl ⟨h, fun z => nomatch z⟩
    | true =>
      cases ρ with
      | nil => cases ρ' <;> cases hb
      | cons s r =>
        cases ρ' with
        | nil => cases hb
        | cons s' r' =>
          have hb : (if immSl s' = true then some (s' :: r) else none) = some ρ'' := hb
          by_cases hi : immSl s' = true
          · rw [if_pos hi] at hb
            cases hb
            cases i with
            | zero =>
              have e : s' = t := Option.some.inj h
              subst e
              exact .inr ⟨rfl, rfl, rfl, hi⟩
            | succ i => exact .inl ⟨h, fun _ => Nat.succ_ne_zero i⟩
          · rw [if_neg hi] at hb; cases hb
  have len : ρ''.length = ρ.length := by
    cases b with
    | false => cases hb; rfl
    | true =>
      cases ρ with
      | nil => cases ρ' <;> cases hb
      | cons s r =>
        cases ρ' with
        | nil => cases hb
        | cons s' r' =>
          have hb : (if immSl s' = true then some (s' :: r) else none) = some ρ'' := hb
          by_cases hi : immSl s' = true
          · rw [if_pos hi] at hb; cases hb; rfl
          · rw [if_neg hi] at hb; cases hb
  have ow0 : ∀ {d : PyData}, ρ'[0]? = some (.ow d) → ∃ e, ρ[0]? = some (.ow e) := fun {d} h => by
    obtain ⟨a, w1, _⟩ := st.env.ow 0 d h
    obtain ⟨j, e, q1, q2⟩ := st.own a ⟨0, d, h, w1⟩
    obtain ⟨rfl, _, q3⟩ := demR_ow q1
    exact ⟨e, q3⟩
  have owf : ∀ {i : Nat} {d : PyData}, ρ''[i]? = some (.ow d) → ∃ e, ρ[i]? = some (.ow e) := fun {i d} h => by
    rcases sl h with ⟨q, _⟩ | ⟨rfl, _, q, _⟩
    · exact ⟨d, q⟩
    · exact ow0 q
  refine ⟨⟨⟨by rw [len]; exact E.len, ⟨st.env.ext.h, E.ext.v.trans sv, fun c o e => ?_, fun c h1 h2 => ?_, st.env.ext.th, st.env.ext.t⟩, fun i d h => ?_, fun i d h => ?_, fun i j a d e h1 h2 h3 h4 => ?_, E.lent, E.tab⟩, sv, fun c o e nt n => kp c o e nt fun z => n (od z), fun c h => ?_, fun i d h => ?_, fun c h1 h2 => ?_, st.th⟩, sT⟩
  · by_cases h : Let σ ρ b c
    · rw [veiled_p h] at e; cases e
    · rw [veiled_n h] at e; exact st.env.ext.s c o e
  · by_cases h : Let σ ρ b c
    · exact veiled_p h
    · rw [veiled_n h]; exact st.env.ext.f c h1 h2
  · rcases sl h with ⟨q, _⟩ | ⟨_, _, _, q⟩
    · obtain ⟨v, w1, w2⟩ := E.sh i d q
      exact ⟨v, w1, w2.mono sv⟩
    · cases q
  · rcases sl h with ⟨q, hb'⟩ | ⟨rfl, hb', q, hi⟩
    · obtain ⟨a, w1, w2, w3, w4⟩ := E.ow i d q
      have la := E.let_at q w1 hb'
      exact ⟨a, w1, veiled_p la, w3, w4.mono sv fun o e nt => kp a o e nt la.2⟩
    · obtain ⟨a, w1, w2, w3, w4⟩ := st.env.ow 0 d q
      obtain ⟨e, q2⟩ := ow0 q
      have n : ¬ Let σ ρ b a := fun h => h.2 (by subst hb'; exact ⟨0, e, demR_keep q2, w1⟩)
      exact ⟨a, w1, by rw [veiled_n n]; exact w2, w3, immL_mono rfl hi w4 sT⟩
  · obtain ⟨e1, q1⟩ := owf h1
    obtain ⟨e2, q2⟩ := owf h2
    exact E.dis i j a e1 e2 q1 q2 h3 h4
  · obtain ⟨i, d, h1, h2⟩ := h
    obtain ⟨e, q⟩ := owf h1
    exact ⟨i, e, q, h2⟩
  · rcases sl h with ⟨q, _⟩ | ⟨_, _, _, q⟩
    · exact q
    · cases q
  · by_cases h : Let σ ρ b c
    · exact veiled_p h
    · rw [veiled_n h]; exact st.f c (by rw [shown_n h]; exact h1) h2
end
section
variable {X : Cx} {F : Fr} {e : Expr} {fa : M PyData} {pos : Pos}
theorem pm_brw (b : Bool) (h : PM X F e fa) : PM X F e (brw b fa) := by
  refine PE.imp h fun σ H Q ⟨V, ρ, E, g⟩ => ⟨shown (Let σ ρ b) V H, demR b ρ, E.dem b, ?_⟩
  have g : Goal X.kw F σ ρ H V (Rep X.kw) (match fa (demR b ρ) with
    | .ok (d, ρ') => if imm d = true then (match backR b ρ ρ' with
      | some ρ'' => .ok (d, ρ'')
      | none => .bad) else .bad
    | .exc c => .exc c
    | .bad => .bad) Q := g
  cases ef : fa (demR b ρ) with
  | exc c => rw [ef] at g; exact g
  | bad => rw [ef] at g; exact g
  | ok pr =>
    obtain ⟨d, ρ'⟩ := pr
    rw [ef] at g
    have g : Goal X.kw F σ ρ H V (Rep X.kw) (if imm d = true then (match backR b ρ ρ' with
      | some ρ'' => .ok (d, ρ'')
      | none => .bad) else .bad) Q := g
    by_cases hi : imm d = true
    · rw [if_pos hi] at g
      intro v H' V' st r
      cases eb : backR b ρ ρ' with
      | none => rw [eb] at g; exact False.elim g
      | some ρ'' =>
        rw [eb] at g
        obtain ⟨s1, s2⟩ := E.back st eb
        exact g v H' _ s1 (r.imm s2 hi)
    · rw [if_neg hi] at g
      exact False.elim g
/-- a statement that lets own things go -/
def demO (b : Bool) (f : SM) : SM := fun ρ => f (demR b ρ)
theorem pms_dem (b : Bool) {st : Stmt} {f : SM} (h : PMS X F st f) : PMS X F st (demO b f) := by
  refine PS.imp h fun D σ H ⟨V, ρ, E, g⟩ => ⟨shown (Let σ ρ b) V H, demR b ρ, E.dem b, GoalS.mono (fun c o e => ?_) g⟩
  rw [shown_n (fun h => by rw [(E.own_at h.1).1] at e; cases e)]
  exact e
end
end DL
set_option Elab.async false
set_option linter.all false
set_option maxRecDepth 100000
set_option maxHeartbeats 1000000
namespace SrtQ
open PySem PyProof.Rows Srt
open SrtO hiding Str
def ltS (a b : Str) : Bool := decide (a.cps.toList < b.cps.toList)
def lexS (p q : Str × Int) : Bool := if p.1 = q.1 then decide (p.2 < q.2) else ltS p.1 q.1
theorem str_ext {a b : Str} (h : a.cps.toList = b.cps.toList) : a = b := by
  obtain ⟨a⟩ := a
  obtain ⟨b⟩ := b
  have h : a = b := by
    obtain ⟨a⟩ := a
    obtain ⟨b⟩ := b
    exact congrArg Array.mk h
  rw [h]
theorem ltS_irrefl (a : Str) : ltS a a = false := decide_eq_false (List.lt_irrefl _)
theorem ltS_asym {a b : Str} (h : ltS a b = true) : ltS b a = false := decide_eq_false (List.lt_asymm (of_decide_eq_true h))
theorem ltS_tri {a b : Str} (h1 : ltS a b = false) (h2 : ltS b a = false) : a = b := by
  have h1 := of_decide_eq_false h1
  have h2 := of_decide_eq_false h2
  exact str_ext (List.le_antisymm (List.not_lt.mp h2) (List.not_lt.mp h1))
theorem ltS_trans {a b c : Str} (h1 : ltS a b = true) (h2 : ltS b c = true) : ltS a c = true := decide_eq_true (List.lt_trans (of_decide_eq_true h1) (of_decide_eq_true h2))
theorem lexS_asym {p q : Str × Int} (h : lexS p q = true) : lexS q p = false := by
  unfold lexS at *
  by_cases e : p.1 = q.1
  · rw [if_pos e] at h
    rw [if_pos e.symm]
    have := of_decide_eq_true h
    exact decide_eq_false (by omega)
  · rw [if_neg e] at h
    rw [if_neg (fun z => e z.symm)]
    exact ltS_asym h
theorem lexS_tri {p q : Str × Int} (h1 : lexS p q = false) (h2 : lexS q p = false) : p = q := by
  unfold lexS at *
  by_cases e : p.1 = q.1
  · rw [if_pos e] at h1
    rw [if_pos e.symm] at h2
    have := of_decide_eq_false h1
    have := of_decide_eq_false h2
    exact Prod.ext e (by omega)
  · rw [if_neg e] at h1
    rw [if_neg (fun z => e z.symm)] at h2
    exact absurd (ltS_tri h1 h2) e
theorem lexS_trans {p q r : Str × Int} (h1 : lexS p q = true) (h2 : lexS q r = true) : lexS p r = true := by
  unfold lexS at *
  by_cases e : p.1 = q.1
  · rw [if_pos e] at h1
    by_cases e2 : q.1 = r.1
    · rw [if_pos e2] at h2
      rw [if_pos (e.trans e2)]
      have := of_decide_eq_true h1
      have := of_decide_eq_true h2
      exact decide_eq_true (by omega)
    · rw [if_neg e2] at h2
      rw [if_neg (fun z => e2 (e.symm.trans z)), e]
      exact h2
  · rw [if_neg e] at h1
    by_cases e2 : q.1 = r.1
    · rw [if_neg (fun z => e (z.trans e2.symm)), ← e2]
      exact h1
    · rw [if_neg e2] at h2
      have h3 := ltS_trans h1 h2
      by_cases e3 : p.1 = r.1
      · rw [e3] at h3; rw [ltS_irrefl] at h3; cases h3
      · rw [if_neg e3]; exact h3
theorem swo_lexS' : Swo lexS := by
  refine ⟨fun x y h => lexS_asym h, fun x y z h1 h2 => ?_⟩
  rcases bcase (lexS z x) with h | h
  · rcases bcase (lexS x y) with q | q
    · have := lexS_trans h q
      rw [this] at h2; cases h2
    · have e := lexS_tri q h1
      subst e
      exact h2
  · exact h
theorem swo_lexS {α : Type} (k : α → Str × Int) : Swo fun v u => lexS (k v) (k u) := ⟨fun x y h => swo_lexS'.asym _ _ h, fun x y z h1 h2 => swo_lexS'.tr _ _ _ h1 h2⟩
section
variable {prog : Program} {w : World} {A : Around} {E : Value → Shared → Prop} {s : Shared}
/-- v is a tuple of a text and an int -/
def IsSI (h : Heap) (v : Value) (x : Str) (y : Int) : Prop := ∃ a o t u n, v = .ref a ∧ h.get? a = some o ∧ o.cls = .type "tuple" ∧ o.data = .seq #[.str x t, .int y u] n
theorem IsSI.keeps {h h' : Heap} {v : Value} {x : Str} {y : Int} (p : IsSI h v x y) (k : ∀ b o, h.get? b = some o → o.cls = .type "tuple" → h'.get? b = some o) : IsSI h' v x y := by
  obtain ⟨a, o, t, u, n, e, ho, hc, hd⟩ := p
  exact ⟨a, o, t, u, n, e, k _ _ ho hc, hc, hd⟩
theorem si_cmp {vs : List Value} {k : Value → Str × Int} (hp : ∀ v ∈ vs, IsSI s.heap v (k v).1 (k v).2) : Cmp prog w A s (tuples' true) (fun p => p.1 ∈ vs) (lt2 fun v u => lexS (k v) (k u)) := by
  intro p q hm hm'
  have h1 := hp _ hm
  have h2 := hp _ hm'
  show wpAny (model prog w) A (keyLt' (tuples' true) p.1 q.1) (fun r s' => s' = s ∧ r = lexS (k p.1) (k q.1)) (fun _ _ => False) s
  unfold lexS
  generalize (k p.1).1 = x at h1 ⊢
  generalize (k p.1).2 = y at h1 ⊢
  generalize (k q.1).1 = x' at h2 ⊢
  generalize (k q.1).2 = y' at h2 ⊢
  obtain ⟨a, o, t, u, n, e, ho, hc, hd⟩ := h1
  obtain ⟨a', o', t', u', n', e', ho', hc', hd'⟩ := h2
  rw [e, e']
  refine PySem.W.kat_lt ho hd ho' hd' ?_
  show PySem.W.KatLex prog w A true (decide (2 < 2)) _ [(.str x t, .str x' t'), (.int y u, .int y' u')] 0 s
  refine PySem.W.kat_cons (SeqAt.EqAt.str_str x t x' t' prog w _ _ ?_)
  refine PySem.W.kat_go (fun e1 => ?_) (fun e1 => ?_)
  · have ex : x = x' := by simpa using e1
    refine PySem.W.kat_yes (PySem.W.kat_cons (SeqAt.EqAt.int_int y u y' u' prog w _ _ ?_))
    refine PySem.W.kat_go (fun e2 => ?_) (fun e2 => ?_)
    · have ey : y = y' := by simpa using e2
      have e3 : (if x = x' then decide (y < y') else ltS x x') = false := by
        rw [if_pos ex, ey]
        exact decide_eq_false (Int.lt_irrefl _)
      exact PySem.W.kat_yes (PySem.W.kat_nil ⟨rfl, e3.symm⟩)
    · have e3 : (if x = x' then decide (y < y') else ltS x x') = decide (y < y') := if_pos ex
      refine PySem.W.kat_no (PySem.W.kat_one _ _ (PyProof.Rows.lt_int ?_))
      exact (show s = s ∧ decide (y < y') = (if x = x' then decide (y < y') else ltS x x') from ⟨rfl, e3.symm⟩)
  · have ex : ¬ x = x' := by simpa using e1
    have e3 : (if x = x' then decide (y < y') else ltS x x') = ltS x x' := if_neg ex
    exact PySem.W.kat_no (oneLt_str ⟨rfl, e3.symm⟩)
theorem si_firsts {h : Heap} : ∀ {vs : List Value}, (∀ v ∈ vs, ∃ x y, IsSI h v x y) → ∃ fs : List Value, PySem.W.KatTups h vs fs ∧ fs.length = vs.length ∧ ∀ f ∈ fs, ∃ x t, f = Value.str x t
  | [], _ => ⟨[], PySem.W.KatTups.nil, rfl, fun _ hm => by simp at hm⟩
  | v :: vs, hp => by
    obtain ⟨fs, h1, h2, h3⟩ := si_firsts (vs := vs) fun v' hm => hp v' (List.mem_cons_of_mem _ hm)
    obtain ⟨x, y, a, o, t, u, n, e, ho, hc, hd⟩ := hp v (List.mem_cons_self ..)
    subst e
    refine ⟨.str x t :: fs, PySem.W.KatTups.cons ho hc hd rfl h1, by rw [List.length_cons, List.length_cons, h2], fun f hm => ?_⟩
    rcases List.mem_cons.mp hm with rfl | hm
    · exact ⟨x, t, rfl⟩
    · exact h3 f hm
theorem si_sortable {a : Addr} {vs : List Value} {k : Value → Str × Int} (h0 : 0 < vs.length) (hp : ∀ v ∈ vs, IsSI s.heap v (k v).1 (k v).2) (ha : ∀ o, s.heap.get? a = some o → o.cls ≠ .type "tuple") : SortableO prog w A s a vs fun v u => lexS (k v) (k u) := by
  intro h' keep
  have hp' : ∀ v ∈ vs, IsSI h' v (k v).1 (k v).2 := fun v hm => (hp v hm).keeps fun b o e c => keep b o (fun z => by subst z; exact ha o e c) e
  obtain ⟨fs, h1, h2, h3⟩ := si_firsts fun v hm => ⟨_, _, hp' v hm⟩
  refine ⟨tuples' true, fun Q E hq => ?_, si_cmp hp'⟩
  refine PySem.W.kat_kind (T := .type "str") h1 (by omega) (fun f hm => ?_) (by rfl) ?_
  · obtain ⟨x, t, rfl⟩ := h3 f hm
    exact PySem.W.Looks.now
  · have e : (Value.type "str" != Value.type "tuple") = true := by first | decide +kernel | rfl | decide
    rw [e]
    exact hq
/-- sorted of a list or a tuple of pairs -/
theorem sorted_sq {l : Addr} {T : String} {o : Obj} {vs : List Value} {n : Nat} {k : Value → Str × Int} {Q : Value → Shared → Prop} (hT : T = "list" ∨ T = "tuple") (ho : s.heap.get? l = some o) (hc : o.cls = .type T) (hd : o.data = .seq vs.toArray n) (hz : vs.length ≤ sizeLine) (hp : ∀ v ∈ vs, IsSI s.heap v (k v).1 (k v).2)
    (fin : ∀ (h0 h1 : Heap) (d : Addr) (out : List Value), (∀ b o, s.heap.get? b = some o → h0.get? b = some o) → Srtd (fun v u => lexS (k v) (k u)) out → Stb (fun v u => lexS (k v) (k u)) out vs → (∀ b o, h0.get? b = some o → h1.get? b = some o) → h0.objs.size ≤ d → (∃ n, h1.get? d = some (seqObj "list" out.toArray n)) → Q (.ref d) { s with heap := h1 }) :
    wpAny (model prog w) A (call (.builtin "sorted") [.ref l]) Q E s := by
  refine Calls.call_function_entry kind_sorted plain_sorted entry_sorted (args_sorted1 (.ref l)) ?_
  unfold Builtin.«sorted»
  refine wpAny_bind (m := checkCount "sorted" 1 1 _) (wpAny_pure (wpAny_bind (wpAny_collect_seq l hT ho hc hd (fun h0 k0 => ?_) (by rw [List.size_toArray]; exact hz))))
  show wpAny _ _ _ _ _ { s with heap := h0 }
  have e0 : vs.toArray.toList = vs := by simp
  rw [e0]
  refine wpAny_bind (wpAny_newList (s := { s with heap := h0 }) ?_ hz)
  have hat : (h0.push (seqObj "list" vs.toArray 0)).get? h0.objs.size = some (seqObj "list" vs.toArray 0) := Heap.get?_push_size _ rfl
  have k1 : ∀ b o, h0.get? b = some o → b ≠ h0.objs.size ∧ (h0.push (seqObj "list" vs.toArray 0)).get? b = some o := fun b o q => ⟨Nat.ne_of_lt (Heap.lt_size q), Heap.get?_push_of_some _ q⟩
  show wpAny _ _ _ _ _ { s with heap := h0.push (seqObj "list" vs.toArray 0) }
  refine wpAny_bind (wpAny_holding (wpAny_call_entry slot_list_sort ⟨_, hat, rfl⟩ entry_list_sort (list_sort_ord (s := { s with heap := h0.push (seqObj "list" vs.toArray 0) }) (swo_lexS k) hat hz (fun h2 => ?_) fun out hs hb => ⟨_, rfl, ?_⟩) (args_list_sort _)))
  · refine si_sortable (s := { s with heap := h0.push (seqObj "list" vs.toArray 0) }) (by omega) (fun v hm => (hp v hm).keeps fun b o e _ => (k1 b o (k0 b o e)).2) fun o e => ?_
    have e' : some o = some (seqObj "list" vs.toArray 0) := e.symm.trans hat
    cases e'
    exact fun c => absurd (Value.type.inj c) (by decide)
  · refine wpAny_pure ⟨_, rfl, fin h0 _ _ out k0 hs hb (fun b o e => ?_) (Nat.le_refl _) (sortedHeap_at (n := 0) hat)⟩
    obtain ⟨z1, z2⟩ := k1 b o e
    rw [sortedHeap_old z1 (by rw [size_push']; exact Nat.lt_succ_of_lt (Heap.lt_size e))]
    exact z2
theorem sorted_si {l : Addr} {vs : List Value} {k : Value → Str × Int} {Q : Value → Shared → Prop} (hl : s.heap.IsList l vs.toArray) (hz : vs.length ≤ sizeLine) (hp : ∀ v ∈ vs, IsSI s.heap v (k v).1 (k v).2)
    (h : ∀ (h' : Heap) (d : Addr) (out : List Value), Srtd (fun v u => lexS (k v) (k u)) out → Stb (fun v u => lexS (k v) (k u)) out vs → (∀ b o, s.heap.get? b = some o → h'.get? b = some o) → s.heap.objs.size ≤ d → (∃ n, h'.get? d = some (seqObj "list" out.toArray n)) → Q (.ref d) { s with heap := h' }) :
    wpAny (model prog w) A (call (.builtin "sorted") [.ref l]) Q E s := by
  refine sorted_ord (swo_lexS k) hl hz (fun h2 h₁ a ha kk => ?_) fun out hs hb => ?_
  · refine si_sortable (s := { s with heap := h₁ }) (by omega) (fun v hm => (hp v hm).keeps fun b o e _ => (kk b o e).2) fun o e => ?_
    have e' : some o = some (seqObj "list" vs.toArray 0) := e.symm.trans ha
    cases e'
    intro c
    exact absurd (Value.type.inj c) (by decide)
  · exact h _ _ out hs hb (fun b o e => sortedAll_old e) (Nat.le_succ _) (sortedAll_at s.heap vs out.toArray)
end
/-- insertion -/
def ins {α : Type} (lt : α → α → Bool) (x : α) : List α → List α
  | [] => [x]
  | y :: l => if lt x y = true then x :: y :: l else y :: ins lt x l
def isort {α : Type} (lt : α → α → Bool) : List α → List α
  | [] => []
  | x :: l => ins lt x (isort lt l)
theorem ins_perm {α : Type} {lt : α → α → Bool} {x : α} : ∀ l : List α, (ins lt x l).Perm (x :: l)
  | [] => .refl _
  | y :: l => by
    unfold ins
    by_cases h : lt x y = true
    · rw [if_pos h]
    · rw [if_neg h]
      exact ((ins_perm l).cons y).trans (.swap ..)
theorem isort_perm {α : Type} {lt : α → α → Bool} : ∀ l : List α, (isort lt l).Perm l
  | [] => .refl _
  | x :: l => (ins_perm _).trans ((isort_perm l).cons x)
theorem ins_srtd {α : Type} {lt : α → α → Bool} (O : Swo lt) {x : α} : ∀ {l : List α}, Srtd lt l → Srtd lt (ins lt x l)
  | [], _ => srtd_one x
  | y :: l, h => by
    unfold ins
    by_cases q : lt x y = true
    · rw [if_pos q]
      exact List.pairwise_cons.mpr ⟨fun z hz => O.asym _ _ (O.lt_all h q z hz), h⟩
    · rw [if_neg q]
      have hq : lt x y = false := by cases e : lt x y; rfl; exact absurd e q
      refine List.pairwise_cons.mpr ⟨fun z hz => ?_, ins_srtd O (List.pairwise_cons.mp h).2⟩
      rcases List.mem_cons.mp ((ins_perm l).mem_iff.mp hz) with e | hz
      · rw [e]; exact hq
      · exact srtd_head h z hz
theorem isort_srtd {α : Type} {lt : α → α → Bool} (O : Swo lt) : ∀ l : List α, Srtd lt (isort lt l)
  | [] => List.Pairwise.nil
  | x :: l => ins_srtd O (isort_srtd O l)
theorem perm_uniq {α : Type} {lt : α → α → Bool} (O : Swo lt) (tri : ∀ x y, lt x y = false → lt y x = false → x = y) : ∀ {l m : List α}, Srtd lt l → Srtd lt m → l.Perm m → l = m
  | [], m, _, _, h => (List.Perm.eq_nil h.symm).symm
  | x :: l, [], _, _, h => absurd h.length_eq (by simp)
  | x :: l, y :: m, hl, hm, h => by
    have h1 : lt x y = false := by
      rcases List.mem_cons.mp (h.mem_iff.mp (List.mem_cons_self (a := x) (l := l))) with e | hx
      · rw [e]; exact O.refl y
      · exact srtd_head hm x hx
    have h2 : lt y x = false := by
      rcases List.mem_cons.mp (h.mem_iff.mpr (List.mem_cons_self (a := y) (l := m))) with e | hy
      · rw [e]; exact O.refl x
      · exact srtd_head hl y hy
    have e := tri x y h1 h2
    subst e
    rw [perm_uniq O tri (List.pairwise_cons.mp hl).2 (List.pairwise_cons.mp hm).2 h.cons_inv]
end SrtQ
namespace DL
open PySem PySem.Spec PyProof.Rows L2
variable [TabCtx]
/-- sorted of pairs of a text and an int -/
def rSortSI (K : KW) : List L2.V → Hp → VK → Prop := fun vs H Q => ∃ (a : Addr) (xs : List L2.V) (k : L2.V → Str × Int), vs = [V.ref a] ∧ SqL K H a xs ∧ (∀ x ∈ xs, ∃ t, x = V.ref t ∧ SqT K H t [.str (k x).1, .int (k x).2]) ∧
  ∀ ys p, SrtO.Srtd (fun x y => SrtQ.lexS (k x) (k y)) ys → ys.Perm xs → H p = none → Q (.ref p) (upd H p (.lst ys))
theorem cr_sortSI {X : Cx} : CallR X (.builtin "sorted") (rSortSI X.kw) := by
  intro pins s σ H vs us Q I r h
  obtain ⟨a, xs, k, rfl, hs, hx, q⟩ := h
  obtain ⟨its, rv, hl, hz⟩ := I.list hs
  obtain ⟨u, rfl, ru⟩ := vals1 r
  obtain rfl : u = Value.ref a := ru
  obtain ⟨e1, e2⟩ := refs_back rv fun x m => by
    obtain ⟨t, e, _⟩ := hx x m
    exact ⟨t, e⟩
  refine SrtQ.sorted_si (k := fun u => k (backV u)) hl.isList (by rw [← rv.length]; exact hz) (fun v hv => ?_) fun h' d out h1 h2 kp hd hn => ?_
  · obtain ⟨t, rfl⟩ := e2 v hv
    have hm : V.ref t ∈ xs := by rw [e1]; exact List.mem_map.mpr ⟨_, hv, rfl⟩
    obtain ⟨t', e, ht⟩ := hx _ hm
    cases e
    obtain ⟨its2, r2, ⟨o, ho, hc, n, hd⟩, _⟩ := I.tuple ht
    obtain ⟨u1, u2, rfl, ri, rj⟩ := vals2 r2
    obtain ⟨t1, rfl⟩ := ri
    obtain ⟨t2, rfl⟩ := rj
    exact ⟨t, o, t1, t2, n, rfl, ho, hc, hd⟩
  · have h3 : ∀ u ∈ out, ∃ a, u = Value.ref a := fun u hu => e2 u (h2.perm.mem_iff.mp hu)
    obtain ⟨n, hn⟩ := hn
    have hb : (out.map backV).Perm xs := by
      rw [e1]
      exact h2.perm.map backV
    refine ⟨.ref d, upd H d (.lst (out.map backV)), I.laid (t' := s.toks) kp hd ⟨?_, out, n, vals_back h3, hn⟩, rfl, q _ d (List.pairwise_map.mpr h1) hb (I.hok.fresh hd)⟩
    rw [hb.length_eq]
    exact hz
def rSortST (K : KW) : List L2.V → Hp → VK → Prop := fun vs H Q => ∃ (a : Addr) (xs : List L2.V) (k : L2.V → Str × Int), vs = [V.ref a] ∧ SqT K H a xs ∧ (∀ x ∈ xs, ∃ t, x = V.ref t ∧ SqT K H t [.str (k x).1, .int (k x).2]) ∧
  ∀ ys p, SrtO.Srtd (fun x y => SrtQ.lexS (k x) (k y)) ys → ys.Perm xs → H p = none → Q (.ref p) (upd H p (.lst ys))
theorem cr_sortST {X : Cx} : CallR X (.builtin "sorted") (rSortST X.kw) := by
  intro pins s σ H vs us Q I r h
  obtain ⟨a, xs, k, rfl, hs, hx, q⟩ := h
  obtain ⟨its, rv, ⟨o0, ho0, hc0, n0, hd0⟩, hz⟩ := I.tuple hs
  obtain ⟨u, rfl, ru⟩ := vals1 r
  obtain rfl : u = Value.ref a := ru
  obtain ⟨e1, e2⟩ := refs_back rv fun x m => by
    obtain ⟨t, e, _⟩ := hx x m
    exact ⟨t, e⟩
  refine SrtQ.sorted_sq (k := fun u => k (backV u)) (.inr rfl) ho0 hc0 hd0 (by rw [← rv.length]; exact hz) (fun v hv => ?_) fun h0 h' d out kp0 h1 h2 kp hd hn => ?_
  · obtain ⟨t, rfl⟩ := e2 v hv
    have hm : V.ref t ∈ xs := by rw [e1]; exact List.mem_map.mpr ⟨_, hv, rfl⟩
    obtain ⟨t', e, ht⟩ := hx _ hm
    cases e
    obtain ⟨its2, r2, ⟨o, ho, hc, n, hd⟩, _⟩ := I.tuple ht
    obtain ⟨u1, u2, rfl, ri, rj⟩ := vals2 r2
    obtain ⟨t1, rfl⟩ := ri
    obtain ⟨t2, rfl⟩ := rj
    exact ⟨t, o, t1, t2, n, rfl, ho, hc, hd⟩
  · have h3 : ∀ u ∈ out, ∃ a, u = Value.ref a := fun u hu => e2 u (h2.perm.mem_iff.mp hu)
    obtain ⟨n, hn⟩ := hn
    have hb : (out.map backV).Perm xs := by
      rw [e1]
      exact h2.perm.map backV
    have I0 : Inv X pins σ H { s with heap := h0, toks := s.toks } := I.kept kp0
    refine ⟨.ref d, upd H d (.lst (out.map backV)), I0.laid (t' := s.toks) kp hd ⟨?_, out, n, vals_back h3, hn⟩, rfl, q _ d (List.pairwise_map.mpr h1) hb (I0.hok.fresh hd)⟩
    rw [hb.length_eq]
    exact hz
def rSortAll (K : KW) : List L2.V → Hp → VK → Prop := fun vs H Q => rSortSI K vs H Q ∨ rSortST K vs H Q
theorem cr_sortAll {X : Cx} : CallR X (.builtin "sorted") (rSortAll X.kw) := by
  intro pins s σ H vs us Q I r h
  rcases h with h | h
  · exact cr_sortSI pins s σ H vs us Q I r h
  · exact cr_sortST pins s σ H vs us Q I r h
def siOf : PyData → Option (Str × Int)
  | .tuple [.str x, .int i] => some (x, i)
  | _ => none
def siD (p : Str × Int) : PyData := .tuple [.str p.1, .int p.2]
def gSorted : List PyData → Option PyData
  | [.list ds] => (ds.mapM siOf).map fun ks => .list ((SrtQ.isort SrtQ.lexS ks).map siD)
  | [.tuple ds] => (ds.mapM siOf).map fun ks => .list ((SrtQ.isort SrtQ.lexS ks).map siD)
  | _ => none
theorem siOf_some {d : PyData} {p : Str × Int} (h : siOf d = some p) : d = siD p := by
  unfold siOf at h
  split at h
  · cases h; rfl
  · cases h
theorem mapM_si : ∀ {ds : List PyData} {ks : List (Str × Int)}, ds.mapM siOf = some ks → ds = ks.map siD
  | [], ks, h => by simp at h; subst h; rfl
  | d :: ds, ks, h => by
    rw [List.mapM_cons] at h
    cases e : siOf d with
    | none => rw [e] at h; cases h
    | some p =>
      rw [e] at h
      cases e2 : ds.mapM siOf with
      | none => rw [e2] at h; cases h
      | some r =>
        rw [e2] at h
        have h : some (p :: r) = some ks := h
        cases h
        rw [siOf_some e, mapM_si e2]
        rfl
theorem rep_si {K : KW} {V : Hp} {x : L2.V} {p : Str × Int} (h : Rep K V x (siD p)) : ∃ t, x = .ref t ∧ V t = some (.tup [.str p.1, .int p.2]) := by
  cases h with
  | @tup a xs ds ha ra =>
    refine ⟨a, rfl, ?_⟩
    cases ra with
    | cons r1 r2 =>
      cases r2 with
      | cons r2 r3 =>
        cases r3
        cases r1
        cases r2
        exact ha
theorem siD_inj {p q : Str × Int} (h : siD p = siD q) : p = q := by
  unfold siD at h
  injection h with h
  injection h with h1 h2
  injection h1 with h1
  injection h2 with h2
  injection h2 with h2
  exact Prod.ext h1 h2
theorem rep_si_inj {K : KW} {V : Hp} {x : L2.V} {p q : Str × Int} (h : Rep K V x (siD p)) (h' : Rep K V x (siD q)) : p = q := by
  obtain ⟨t, e1, e2⟩ := rep_si h
  obtain ⟨t', e3, e4⟩ := rep_si h'
  rw [e1] at e3
  cases e3
  rw [e2] at e4
  injection e4 with e4
  injection e4 with e4
  injection e4 with e5 e6
  injection e5 with e5
  injection e6 with e6
  injection e6 with e6
  exact Prod.ext e5 e6
theorem repL_mem {K : KW} {V : Hp} : ∀ {ys : List L2.V} {ks : List (Str × Int)}, RepL K V ys (ks.map siD) → ∀ y ∈ ys, ∃ p, Rep K V y (siD p)
  | [], _, _, _, hy => by cases hy
  | y :: ys, [], h, _, _ => by cases h
  | y :: ys, p :: ks, h, z, hz => by
    cases h with
    | cons r1 r2 =>
      rcases List.mem_cons.mp hz with e | hz
      · rw [e]; exact ⟨p, r1⟩
      · exact repL_mem r2 z hz
theorem repL_keys {K : KW} {V : Hp} {k : L2.V → Str × Int} : ∀ {ys : List L2.V} {ks : List (Str × Int)}, RepL K V ys (ks.map siD) → (∀ y ∈ ys, ∀ p, Rep K V y (siD p) → k y = p) → ys.map k = ks
  | [], [], _, _ => rfl
  | [], _ :: _, h, _ => by cases h
  | _ :: _, [], h, _ => by cases h
  | y :: ys, p :: ks, h, hk => by
    cases h with
    | cons r1 r2 => rw [List.map_cons, hk y List.mem_cons_self p r1, repL_keys r2 fun z hz => hk z (List.mem_cons_of_mem _ hz)]
theorem keys_repL {K : KW} {V : Hp} {k : L2.V → Str × Int} : ∀ {ys : List L2.V}, (∀ y ∈ ys, Rep K V y (siD (k y))) → RepL K V ys ((ys.map k).map siD)
  | [], _ => .nil
  | y :: ys, h => .cons (h y List.mem_cons_self) (keys_repL fun z hz => h z (List.mem_cons_of_mem _ hz))
open Classical in
theorem siKey (K : KW) (V : Hp) : ∃ k : L2.V → Str × Int, ∀ v p, Rep K V v (siD p) → k v = p :=
  ⟨fun v => if h : ∃ p, Rep K V v (siD p) then Classical.choose h else (Str.empty, 0), fun v p h => by
    have hex : ∃ p, Rep K V v (siD p) := ⟨p, h⟩
    show (if h : ∃ p, Rep K V v (siD p) then Classical.choose h else (Str.empty, 0)) = p
    rw [dif_pos hex]
    exact rep_si_inj (Classical.choose_spec hex) h⟩
theorem cd_sorted {K : KW} : CallD K (rSortAll K) gSorted := by
  intro xs ds z H V Q s r e q
  cases r with
  | nil => cases e
  | cons r1 r2 =>
    cases r2 with
    | cons _ _ => cases r1 <;> cases e
    | nil =>
      cases r1 with
      | @lst a ys es ha ra =>
        have e : (es.mapM siOf).map (fun ks => PyData.list ((SrtQ.isort SrtQ.lexS ks).map siD)) = some z := e
        obtain ⟨ks, hk, rfl⟩ := Option.map_eq_some_iff.mp e
        have he := mapM_si hk
        subst he
        obtain ⟨k, kk⟩ := siKey K V
        have km : ∀ y ∈ ys, Rep K V y (siD (k y)) := fun y hy => by
          obtain ⟨p, hp⟩ := repL_mem ra y hy
          rw [kk y p hp]
          exact hp
        refine Or.inl ⟨a, ys, k, rfl, .inl (.inl (s _ _ ha)), fun y hy => ?_, fun out p h1 h2 hp => ?_⟩
        · obtain ⟨t, e1, e2⟩ := rep_si (km y hy)
          exact ⟨t, e1, .inl (.inl (s _ _ e2))⟩
        · have e1 : out.map k = SrtQ.isort SrtQ.lexS ks := by
            refine SrtQ.perm_uniq SrtQ.swo_lexS' (fun x y => SrtQ.lexS_tri) (List.pairwise_map.mpr h1) (SrtQ.isort_srtd SrtQ.swo_lexS' ks) ?_
            rw [← repL_keys (k := k) ra fun y _ p h => kk y p h]
            exact (h2.map k).trans (SrtQ.isort_perm _).symm
          rw [← e1] at q
          exact q _ _ _ (Ext.new s hp) (new_lst s hp (keys_repL fun y hy => km y (h2.mem_iff.mp hy)))
      | @tup a ys es ha ra =>
        have e : (es.mapM siOf).map (fun ks => PyData.list ((SrtQ.isort SrtQ.lexS ks).map siD)) = some z := e
        obtain ⟨ks, hk, rfl⟩ := Option.map_eq_some_iff.mp e
        have he := mapM_si hk
        subst he
        obtain ⟨k, kk⟩ := siKey K V
        have km : ∀ y ∈ ys, Rep K V y (siD (k y)) := fun y hy => by
          obtain ⟨p, hp⟩ := repL_mem ra y hy
          rw [kk y p hp]
          exact hp
        refine Or.inr ⟨a, ys, k, rfl, sqt s ha, fun y hy => ?_, fun out p h1 h2 hp => ?_⟩
        · obtain ⟨t, e1, e2⟩ := rep_si (km y hy)
          exact ⟨t, e1, .inl (.inl (s _ _ e2))⟩
        · have e1 : out.map k = SrtQ.isort SrtQ.lexS ks := by
            refine SrtQ.perm_uniq SrtQ.swo_lexS' (fun x y => SrtQ.lexS_tri) (List.pairwise_map.mpr h1) (SrtQ.isort_srtd SrtQ.swo_lexS' ks) ?_
            rw [← repL_keys (k := k) ra fun y _ p h => kk y p h]
            exact (h2.map k).trans (SrtQ.isort_perm _).symm
          rw [← e1] at q
          exact q _ _ _ (Ext.new s hp) (new_lst s hp (keys_repL fun y hy => km y (h2.mem_iff.mp hy)))
      | _ => cases e
def flatLt : PyData → PyData → Option Bool
  | .int i, .int j => some (decide (i < j))
  | .str x, .str y => some (SrtQ.ltS x y)
  | _, _ => none
/-- lexical order of tuples of flat data -/
def lexD : List PyData → List PyData → Option Bool
  | [], [] => some false
  | [], _ :: _ => some true
  | _ :: _, [] => some false
  | x :: xs, y :: ys => (flatLt x y).bind fun b => (lexD xs ys).map fun c => if PyData.eqv x y = true then c else b
def gLt : PyData → PyData → Option PyData
  | .tuple xs, .tuple ys => (lexD xs ys).map .bool
  | x, y => (flatLt x y).map .bool
end DL
namespace DL
open PySem PySem.Spec PyProof.Rows L2
variable [TabCtx]
def fltV : L2.V → L2.V → Option Bool
  | .int i, .int j => some (decide (i < j))
  | .str x, .str y => some (SrtQ.ltS x y)
  | _, _ => none
def lexV : List L2.V → List L2.V → Option Bool
  | [], [] => some false
  | [], _ :: _ => some true
  | _ :: _, [] => some false
  | x :: xs, y :: ys => (fltV x y).bind fun b => (lexV xs ys).map fun c => if eqV x y = true then c else b
theorem lexV_cons {x y : L2.V} {xs ys : List L2.V} {b : Bool} (h : lexV (x :: xs) (y :: ys) = some b) : ∃ c d, fltV x y = some c ∧ lexV xs ys = some d ∧ b = if eqV x y = true then d else c := by
  have h : (fltV x y).bind (fun b => (lexV xs ys).map fun c => if eqV x y = true then c else b) = some b := h
  cases e1 : fltV x y with
  | none => rw [e1] at h; cases h
  | some c =>
    rw [e1] at h
    cases e2 : lexV xs ys with
    | none => rw [e2] at h; cases h
    | some d => rw [e2] at h; exact ⟨c, d, rfl, rfl, (Option.some.inj h).symm⟩
theorem lexV_flat : ∀ {xs ys : List L2.V} {b : Bool}, lexV xs ys = some b → ∀ (j : Nat) (x y : L2.V), xs[j]? = some x → ys[j]? = some y → ∃ c, fltV x y = some c
  | [], _, _, _, j, x, y, h1, _ => by simp at h1
  | _ :: _, [], _, _, j, x, y, _, h2 => by simp at h2
  | x :: xs, y :: ys, b, h, 0, u, v, h1, h2 => by
    cases h1; cases h2
    obtain ⟨c, d, e, _⟩ := lexV_cons h
    exact ⟨c, e⟩
  | x :: xs, y :: ys, b, h, j + 1, u, v, h1, h2 => by
    obtain ⟨c, d, _, e, _⟩ := lexV_cons h
    exact lexV_flat e j u v (by simpa using h1) (by simpa using h2)
theorem lexV_at {e r : Nat → Bool} {z : Bool} : ∀ {xs ys : List L2.V} {b : Bool} (i : Nat), lexV xs ys = some b → z = decide (xs.length < ys.length) → (∀ (j : Nat) (x y : L2.V), xs[j]? = some x → ys[j]? = some y → e (i + j) = eqV x y ∧ r (i + j) = (fltV x y).getD false) →
    Ob.lexAt e r z i (min xs.length ys.length) = b
  | [], [], b, i, h, hz, _ => by cases h; rw [hz]; rfl
  | [], _ :: _, b, i, h, hz, _ => by cases h; rw [hz]; simp [Ob.lexAt_zero]
  | _ :: _, [], b, i, h, hz, _ => by cases h; rw [hz]; simp [Ob.lexAt_zero]
  | x :: xs, y :: ys, b, i, h, hz, ht => by
    obtain ⟨c, d, h1, h2, rfl⟩ := lexV_cons h
    have m : min (x :: xs).length (y :: ys).length = min xs.length ys.length + 1 := by simp only [List.length_cons]; omega
    rw [m, Ob.lexAt_succ]
    obtain ⟨t1, t2⟩ := ht 0 x y rfl rfl
    rw [Nat.add_zero] at t1 t2
    rw [t1, t2, h1]
    by_cases q : eqV x y = true
    · rw [if_pos q, if_pos q]
      refine lexV_at (i + 1) h2 (by rw [hz]; simp) fun j u v hu hv => ?_
      have := ht (j + 1) u v (by simpa using hu) (by simpa using hv)
      rw [show i + 1 + j = i + (j + 1) by omega]
      exact this
    · rw [if_neg q, if_neg q]; rfl
theorem fltV_flat {x y : L2.V} {c : Bool} (h : fltV x y = some c) : flatV x = true ∧ flatV y = true := by
  cases x <;> cases y <;> first | exact ⟨rfl, rfl⟩ | cases h
theorem rc_flt {A : Around} {s : Shared} {x y : L2.V} {u v : Value} {c : Bool} (rx : RelV x u) (ry : RelV y v) (h : fltV x y = some c) : Ob.RcOp .Lt A s u v c := by
  cases x with
  | int i =>
    cases y with
    | int j =>
      cases h
      obtain ⟨t, rfl⟩ := rx
      obtain ⟨t', rfl⟩ := ry
      exact Ob.RcOp.lt_int _ _ _ _
    | _ => cases h
  | str i =>
    cases y with
    | str j =>
      cases h
      obtain ⟨t, rfl⟩ := rx
      obtain ⟨t', rfl⟩ := ry
      exact fun _ _ _ _ h => lt_str h
    | _ => cases h
  | _ => cases h
def rLtTD (K : KW) : R2 := fun x y H Q => ∃ (a b : Addr) (xs ys : List L2.V) (c : Bool), x = .ref a ∧ y = .ref b ∧ SqT K H a xs ∧ SqT K H b ys ∧ lexV xs ys = some c ∧ Q (.bl c) H
theorem op_ltTD {X : Cx} (hu : X.A.units < cLine) : OpR X (compareOp .Lt) (rLtTD X.kw) := by
  intro pins s σ H x y v u Q I rx ry h
  obtain ⟨a, b, xs, ys, c, rfl, rfl, ha, hb, hl, q⟩ := h
  cases rx
  cases ry
  obtain ⟨its, r1, p1, _⟩ := I.tuple ha
  obtain ⟨its2, r2, p2, _⟩ := I.tuple hb
  have at1 : ∀ j (h1 : j < its.toArray.size), ∃ x, xs[j]? = some x ∧ RelV x its.toArray[j] := fun j h1 => by
    have h1' : j < xs.length := by rw [r1.length]; simpa using h1
    obtain ⟨u, e1, e2⟩ := r1.get (List.getElem?_eq_getElem h1')
    have e3 : its.toArray[j] = u := by
      have : its[j]? = some its.toArray[j] := by simp
      rw [e1] at this
      exact (Option.some.inj this).symm
    exact ⟨_, List.getElem?_eq_getElem h1', by rw [e3]; exact e2⟩
  have at2 : ∀ j (h1 : j < its2.toArray.size), ∃ x, ys[j]? = some x ∧ RelV x its2.toArray[j] := fun j h1 => by
    have h1' : j < ys.length := by rw [r2.length]; simpa using h1
    obtain ⟨u, e1, e2⟩ := r2.get (List.getElem?_eq_getElem h1')
    have e3 : its2.toArray[j] = u := by
      have : its2[j]? = some its2.toArray[j] := by simp
      rw [e1] at this
      exact (Option.some.inj this).symm
    exact ⟨_, List.getElem?_eq_getElem h1', by rw [e3]; exact e2⟩
  have e1 : its.toArray.size = xs.length := by rw [List.size_toArray]; exact r1.length.symm
  have e2 : its2.toArray.size = ys.length := by rw [List.size_toArray]; exact r2.length.symm
  have R := Ob.RcOp.tuples_lt (A := X.A) (s := s) (e := fun j => eqV (xs.getD j .non) (ys.getD j .non)) (r := fun j => (fltV (xs.getD j .non) (ys.getD j .non)).getD false) p1 p2 hu (fun j h1 h2 => by
    obtain ⟨x, g1, r1⟩ := at1 j h1
    obtain ⟨y, g2, r2⟩ := at2 j h2
    obtain ⟨c, hc⟩ := lexV_flat hl j x y g1 g2
    obtain ⟨f1, f2⟩ := fltV_flat hc
    show SeqAt.EqAt _ _ _ _ (eqV (xs.getD j .non) (ys.getD j .non))
    rw [List.getD_eq_getElem?_getD, List.getD_eq_getElem?_getD, g1, g2]
    exact eqAt_V r1 r2 f1 f2) (fun j h1 h2 _ => by
    obtain ⟨x, g1, r1⟩ := at1 j h1
    obtain ⟨y, g2, r2⟩ := at2 j h2
    obtain ⟨c, hc⟩ := lexV_flat hl j x y g1 g2
    show Ob.RcOp .Lt _ _ _ _ ((fltV (xs.getD j .non) (ys.getD j .non)).getD false)
    rw [List.getD_eq_getElem?_getD, List.getD_eq_getElem?_getD, g1, g2]
    show Ob.RcOp .Lt _ _ _ _ ((fltV x y).getD false)
    rw [hc]
    exact rc_flt r1 r2 hc)
  rw [e1, e2, lexV_at 0 hl rfl (fun j x y h1 h2 => by
    rw [Nat.zero_add, List.getD_eq_getElem?_getD, List.getD_eq_getElem?_getD, h1, h2]
    exact ⟨rfl, rfl⟩)] at R
  have z : wpAny (model X.prog X.w) X.A (compareOp .Lt (.ref a) (.ref b)) (EP X pins σ Q) X.xe s := R X.prog X.w X.xe (EP X pins σ Q) ⟨.bl _, H, I, rfl, q⟩
  exact z
def rLtAll (K : KW) : R2 := fun x y H Q => (rI0 fun i j => .bl (decide (i < j))) x y H Q ∨ ((∃ i j, x = .str i ∧ y = .str j ∧ Q (.bl (decide (i.cps.toList < j.cps.toList))) H) ∨ rLtTD K x y H Q)
theorem op_ltAll {X : Cx} (hu : X.A.units < cLine) : OpR X (compareOp .Lt) (rLtAll X.kw) := op_lt.or (op_lt_str.or (op_ltTD hu))
theorem flt_rep {K : KW} {V : Hp} {x y : L2.V} {dx dy : PyData} {b : Bool} (rx : Rep K V x dx) (ry : Rep K V y dy) (h : flatLt dx dy = some b) : fltV x y = some b ∧ eqV x y = PyData.eqv dx dy := by
  cases rx with
  | int i => cases ry with
    | int j => exact ⟨h, by rw [PyData.eqv]; rfl⟩
    | _ => cases h
  | str i => cases ry with
    | str j => exact ⟨h, by rw [PyData.eqv]; rfl⟩
    | _ => cases h
  | _ => cases ry <;> cases h
theorem lex_rep {K : KW} {V : Hp} : ∀ {xs ys : List L2.V} {ds es : List PyData} {b : Bool}, RepL K V xs ds → RepL K V ys es → lexD ds es = some b → lexV xs ys = some b
  | _, _, _, _, _, .nil, .nil, h => h
  | _, _, _, _, _, .nil, .cons _ _, h => h
  | _, _, _, _, _, .cons _ _, .nil, h => h
  | _, _, _, _, b, @RepL.cons _ _ x xs dx ds rx r1, @RepL.cons _ _ y ys dy es ry r2, h => by
    have h : (flatLt dx dy).bind (fun b => (lexD ds es).map fun c => if PyData.eqv dx dy = true then c else b) = some b := h
    cases e1 : flatLt dx dy with
    | none => rw [e1] at h; cases h
    | some c =>
      rw [e1] at h
      cases e2 : lexD ds es with
      | none => rw [e2] at h; cases h
      | some d =>
        rw [e2] at h
        obtain ⟨f1, f2⟩ := flt_rep rx ry e1
        show (fltV x y).bind (fun b => (lexV xs ys).map fun c => if eqV x y = true then c else b) = some b
        rw [f1, lex_rep r1 r2 e2, f2]
        exact h
theorem od_lt {K : KW} : OpD K (rLtAll K) gLt := by
  intro x y dx dy z H V Q s rx ry e q
  cases rx with
  | int i => cases ry with
    | int j => cases e; exact .inl ⟨i, j, rfl, rfl, q _ _ _ (Ext.refl s) (.bl _)⟩
    | _ => cases e
  | str i => cases ry with
    | str j => cases e; exact .inr (.inl ⟨i, j, rfl, rfl, q _ _ _ (Ext.refl s) (.bl _)⟩)
    | _ => cases e
  | @tup a xs ds ha ra => cases ry with
    | @tup b ys es hb rb =>
      have e : (lexD ds es).map PyData.bool = some z := e
      obtain ⟨c, hc, rfl⟩ := Option.map_eq_some_iff.mp e
      exact .inr (.inr ⟨a, b, xs, ys, c, rfl, rfl, sqt s ha, sqt s hb, lex_rep ra rb hc, q _ _ _ (Ext.refl s) (.bl _)⟩)
    | _ => cases e
  | _ => cases ry <;> cases e
end DL
set_option Elab.async false
set_option linter.all false
set_option maxRecDepth 100000
set_option maxHeartbeats 1000000
namespace PySem
open Sem (wp)
theorem meets_enumerate_newB1 {v : Value} {o : Obj} {H : Heap → Prop} (B : Begins v o H) :
    Meets (Builtin.«enumerate.__new__» ⟨[.type "enumerate", v], []⟩) (fun _ R s => H s.heap ∧
      R (.ok (.ret (.ref (s.heap.push o).objs.size))) { s with heap := (s.heap.push o).push { cls := .type "enumerate", data := .fields #[.none, .bool false, .ref s.heap.objs.size, rawInt 0, .none, .none] } }) :=
  .of_wp fun prog w A R s h => by
    obtain ⟨hp, g, d, tk, os⟩ := s; obtain ⟨h1, h⟩ := h
    have hsub := sub_enumerate
    have q1 : ∀ {A' : Around} {E : Value → Shared → Prop} {Q : Value → Shared → Prop}, Q (.ref hp.objs.size) ⟨hp.push o, g, d, tk, os⟩ → wpAny (model prog w) A' (pyIter v) Q E ⟨hp, g, d, tk, os⟩ :=
      fun q => B.iter prog w _ _ ⟨hp, g, d, tk, os⟩ _ h1 q
    wp_walk using q1
    refine wpAny_stack_any fun st => wpAny_pure ?_
    split
    · rename_i c _ _ _ _ _
      cases (c == Value.type "enumerate")
      · wp_walk using q1
        exact ⟨_, rfl, h⟩
      · wp_walk using q1
        exact ⟨_, rfl, h⟩
    · wp_walk using q1
      exact ⟨_, rfl, h⟩
theorem call_enumerate_tuple {prog : Program} {w : World} {A : Around} {E : Value → Shared → Prop} {s : Shared} {l : Addr} {items : Array Value} {Q : Value → Shared → Prop} (hL : s.heap.IsTuple l items)
    (h : ∀ h', IsEnum h' (s.heap.objs.size + 1) s.heap.objs.size 0 .none → h'.IsTupleIter s.heap.objs.size l 0 → h'.objs.size = s.heap.objs.size + 2 →
      (∀ b o, s.heap.get? b = some o → h'.get? b = some o) → Q (.ref (s.heap.objs.size + 1)) { s with heap := h' }) :
    wpAny (model prog w) A (call (.type "enumerate") [.ref l]) Q E s := by
  refine callType_new F.called_enumerate (by decide) (F.typeCall_enumerate_1 _) (F.newCall_enumerate_1 _) (fun obj => F.args_object_init_2 obj _) F.entry_enumerate_new
    (meets_enumerate_newB1 (begins_tuple l items)) ⟨hL, ?_⟩
  have hz : (s.heap.push { cls := .type "tuple_iterator", data := .fields #[.ref l, .int 0 0] }).objs.size = s.heap.objs.size + 1 := Heap.size_push ..
  show _ ∧ _
  rw [hz]
  have he : IsEnum ((s.heap.push { cls := .type "tuple_iterator", data := .fields #[.ref l, .int 0 0] }).push
      { cls := .type "enumerate", data := .fields #[.none, .bool false, .ref s.heap.objs.size, rawInt 0, .none, .none] }) (s.heap.objs.size + 1) s.heap.objs.size 0 .none := by
    have := Heap.get?_push_size (s.heap.push { cls := .type "tuple_iterator", data := .fields #[.ref l, .int 0 0] })
      (o := { cls := .type "enumerate", data := .fields #[.none, .bool false, .ref s.heap.objs.size, rawInt 0, .none, .none] }) rfl
    rw [hz] at this; exact this
  refine ⟨⟨_, he, rfl⟩, h _ he ⟨_, Heap.get?_push_of_some _ (Heap.get?_push_size _ rfl), rfl, rfl⟩ (by rw [Heap.size_push, hz]) fun b o x => Heap.get?_push_of_some _ (Heap.get?_push_of_some _ x)⟩
end PySem
namespace DL
open PySem PySem.Spec PyProof.Rows L2
variable [TabCtx]
/-- the tuple at a, each item in a new pair -/
def IteT (K : PySem.W.Frag) (a : Addr) : It :=
  ⟨fun i H => ∃ (xs : List L2.V) (x : L2.V), SqT K H a xs ∧ xs[i]? = some x, fun i H v H' => ∃ T x, v = .ref T ∧ H T = none ∧ H' = upd H T (.tup [.int (i : Nat), x]) ∧ ∀ xs, SqT K H a xs → xs[i]? = some x, fun i H => ∃ xs : List L2.V, SqT K H a xs ∧ xs.length = i⟩
theorem turn_enumT {P : Program} {w : World} {K : PySem.W.Frag} {elts : List Expr} {kk : Nat} {tpos : Pos} (a e it : Addr) (hai : a ≠ it) (hae : e ≠ a) :
    Turn P w K (.Tuple elts kk tpos) (IteT K a) [e, it] e (fun i h => (∃ old, IsEnum h e it ((i : Nat) : Int) old) ∧ h.IsTupleIter it a i ∧ e ≠ it) where
  mem := by simp
  obj := fun i h st b hb => by
    obtain ⟨⟨old, he⟩, ⟨o, ho, hc, hd⟩, _⟩ := st
    have e' : b = e ∨ b = it := by simpa using hb
    rcases e' with z | z
    · rw [z]; exact ⟨_, he, fun v q => nomatch q⟩
    · rw [z]; exact ⟨o, ho, fun v q => by rw [hd] at q; cases q⟩
  keep := fun i h h' st k => let ⟨⟨old, he⟩, hi, hne⟩ := st; ⟨⟨old, k e (by simp) _ he⟩, hi.at fun o q => k it (by simp) o q, hne⟩
  item := by
    intro X hP hw hK hc i pins s σ H E I hf st hg
    subst hP hw hK
    obtain ⟨⟨old, he⟩, hit, hne⟩ := st
    obtain ⟨xs, x, hq, hx⟩ := hg
    obtain ⟨its, rv, p, hz⟩ := I.tuple hq
    obtain ⟨u, hu, ru⟩ := rv.get hx
    have hel : e < s.heap.objs.size := Heap.lt_size he
    have hil : it < s.heap.objs.size := by obtain ⟨_, q, _⟩ := hit; exact Heap.lt_size q
    have hlt : i < its.toArray.size := by
      have := (List.getElem?_eq_some_iff.mp hu).1
      simpa using this
    have D := Draws.tuple (prog := X.prog) (w := X.w) (A := X.A.in1) (I.ok.hd hc) it a hai its.toArray
    refine wpAny_pyNext_enum_itemD D he ⟨hit, p⟩ hlt hne (by simp [hne, hae]) fun y h' tk hy ho hst' hT hsz hk => ?_
    have eyu : y = u := by
      have h1 : its.toArray[i]? = some y := hy
      rw [List.getElem?_toArray, hu] at h1
      exact (Option.some.inj h1).symm
    subst eyu
    refine ⟨_, rfl, wpAny_letOwnedTupleGo_enum (s := { s with heap := h', toks := tk + 1 }) ho fun h'' he' sb => ?_⟩
    have hT2 : h''.get? s.heap.objs.size = some { cls := .type "tuple", data := .seq #[.int i tk, y] } := (sb.2 _ (Nat.ne_of_gt hel)).trans hT
    have new : ObjOk X.prog X.w (upd H s.heap.objs.size (.tup [.int (i : Nat), x])) h'' s.heap.objs.size (.tup [.int (i : Nat), x]) :=
      ⟨by show 2 ≤ sizeLine; decide, [.int i tk, y], .cons ⟨_, rfl⟩ (.cons ru .nil), ⟨_, hT2, rfl, _, rfl⟩⟩
    have I1 : Inv X pins σ (upd H s.heap.objs.size (.tup [.int (i : Nat), x])) { s with heap := h'', toks := tk + 1 } :=
      I.turnedNew (ch := [e, it]) (fun b ob hb q => (sb.2 b (fun z => hb (by simp [z]))).trans (hk b ob (fun z => hb (by simp [z])) (fun z => hb (by simp [z])) q)) hf (Nat.le_refl _) new
    refine ⟨.ref s.heap.objs.size, _, I1, rfl, ⟨_, x, rfl, I.hok.fresh (Nat.le_refl _), rfl, fun ys hy => by rw [I.tuple_inj hy hq]; exact hx⟩, ⟨⟨y, ?_⟩, hst'.1.at fun o q => (sb.2 it (Ne.symm hne)).trans q, hne⟩, fun b hb => ?_⟩
    · have e1 : ((i + 1 : Nat) : Int) = (i : Int) + 1 := by omega
      rw [e1]; exact he'
    · have hb' : b < s.heap.objs.size := by
        have e' : b = e ∨ b = it := by simpa using hb
        rcases e' with z | z
        · rw [z]; exact hel
        · rw [z]; exact hil
      rw [upd_ne (Nat.ne_of_lt hb')]
      exact (hf b hb).1
  done := by
    intro X hP hw hK hc i pins s σ H E I hf st hg
    subst hP hw hK
    obtain ⟨⟨old, he⟩, hit, hne⟩ := st
    obtain ⟨xs, hq, hx⟩ := hg
    obtain ⟨its, rv, p, hz⟩ := I.tuple hq
    obtain ⟨f0, f1, f2, f3, f4, f5⟩ := hf it (by simp)
    have hl := rv.length
    have D := Draws.tuple (prog := X.prog) (w := X.w) (A := X.A.in1) (I.ok.hd hc) it a hai its.toArray
    have en : i = its.toArray.size := by
      rw [List.size_toArray, ← hl]; exact hx.symm
    subst en
    exact wpAny_pyNext_enum_endD D he ⟨hit, p⟩ fun h' eb => ⟨rfl, I.turned (t' := s.toks) (fun b o hb q => eb b o hb q) f0 f1 f3 f4 f5⟩
  self := fun A i s Q E st h => let ⟨⟨_, he⟩, _⟩ := st; wpAny_pyIter_enum he h
def iEnumA (K : PySem.W.Frag) (ta : TA) : TI := fun σ H R => ta σ H fun vs H1 => ∃ a xs, vs = [.ref a] ∧ ((SqL K H1 a xs ∧ R (Ite K a) H1) ∨ (SqT K H1 a xs ∧ R (IteT K a) H1))
theorem pi_enumA {X : Cx} {e : Expr} {ta : TA} {p pos tpos : Pos} {elts : List Expr} {kk : Nat} (hg : Gl X "enumerate") (hm : X.mg "enumerate" = none) (ha : PA X [e] ta) (hs : starEach [e] X.env = [(false, eval e X.env)] := by rfl) :
    PI X (.Tuple elts kk tpos) (.Call (.Name "enumerate" p) [e] [] pos) (iEnumA X.kw ta) := by
  refine ⟨fun pins s σ H R I h => ?_⟩
  refine Call_ (ld_blt I hg hm boot_enumerate (PyProof.Rows.callWith_type1 (thn (ha.run pos pins s σ H _ I h) fun us s1 ⟨vs, H1, I1, r1, q1⟩ => ?_) hs rfl))
  obtain ⟨a, xs, ex, q1⟩ := q1
  subst ex
  cases r1 with
  | cons r rr =>
    cases rr
    cases r
    rcases q1 with ⟨hq, q⟩ | ⟨hq, q⟩
    · obtain ⟨its, rv, p', hz⟩ := I1.list hq
      refine call_enumerate_list p'.isList fun h' he hit hsz hk => wpAny_pyIter_enum he ?_
      have I2 : Inv X pins σ H1 { s1 with heap := h' } := I1.kept (t' := s1.toks) hk
      refine ⟨s1.heap.objs.size + 1, [s1.heap.objs.size + 1, s1.heap.objs.size], _, _, H1, rfl, I2, turn_enum a (s1.heap.objs.size + 1) s1.heap.objs.size, ⟨⟨.none, he⟩, hit, Nat.succ_ne_self _⟩, fun b hb => ?_, q⟩
      have e' : b = s1.heap.objs.size + 1 ∨ b = s1.heap.objs.size := by simpa using hb
      have hle : s1.heap.objs.size ≤ b := by
        rcases e' with z | z
        · rw [z]; exact Nat.le_add_right _ _
        · rw [z]; exact Nat.le_refl _
      exact I1.fpOk hle (I1.hok.fresh hle)
    · obtain ⟨its, rv, p', hz⟩ := I1.tuple hq
      have hlt : a < s1.heap.objs.size := p'.lt
      refine call_enumerate_tuple (show s1.heap.IsTuple a its.toArray from p') fun h' he hit hsz hk => wpAny_pyIter_enum he ?_
      have I2 : Inv X pins σ H1 { s1 with heap := h' } := I1.kept (t' := s1.toks) hk
      refine ⟨s1.heap.objs.size + 1, [s1.heap.objs.size + 1, s1.heap.objs.size], _, _, H1, rfl, I2, turn_enumT a (s1.heap.objs.size + 1) s1.heap.objs.size (Nat.ne_of_lt hlt) (Nat.ne_of_gt (Nat.lt_succ_of_lt hlt)), ⟨⟨.none, he⟩, hit, Nat.succ_ne_self _⟩, fun b hb => ?_, q⟩
      have e' : b = s1.heap.objs.size + 1 ∨ b = s1.heap.objs.size := by simpa using hb
      have hle : s1.heap.objs.size ≤ b := by
        rcases e' with z | z
        · rw [z]; exact Nat.le_add_right _ _
        · rw [z]; exact Nat.le_refl _
      exact I1.fpOk hle (I1.hok.fresh hle)
def enumD (i : Nat) : List PyData → List PyData
  | [] => []
  | d :: ds => .tuple [.int (i : Nat), d] :: enumD (i + 1) ds
theorem enumD_get : ∀ (ds : List PyData) (k i : Nat), (enumD k ds)[i]? = (ds[i]?).map fun d => .tuple [.int ((k + i : Nat) : Int), d]
  | [], _, _ => by simp [enumD]
  | d :: ds, k, 0 => rfl
  | d :: ds, k, i + 1 => by
    show (enumD (k + 1) ds)[i]? = _
    rw [enumD_get ds (k + 1) i, List.getElem?_cons_succ, show k + 1 + i = k + (i + 1) by omega]
theorem enumD_len : ∀ (ds : List PyData) (k : Nat), (enumD k ds).length = ds.length
  | [], _ => rfl
  | d :: ds, k => congrArg Nat.succ (enumD_len ds (k + 1))
def gEnum : List PyData → Option (List PyData)
  | [.list a] => some (enumD 0 a)
  | [.tuple a] => some (enumD 0 a)
  | _ => none
theorem itE {K : KW} {a : Addr} {xs : List L2.V} {V : Hp} {ds : List PyData} (ha : V a = some (.lst xs)) (ra : RepL K V xs ds) : ItD K (Ite K a) V (enumD 0 ds) := by
  intro i H' V' s1 s2
  have q1 : SqL K H' a xs := .inl (.inl (s2 _ _ (s1 _ _ ha)))
  refine ⟨fun d hd => ?_, fun e => ⟨xs, q1, by rw [ra.length, e, enumD_len]; exact Nat.le_refl _⟩⟩
  rw [enumD_get, Nat.zero_add] at hd
  obtain ⟨d', h1, rfl⟩ := Option.map_eq_some_iff.mp hd
  obtain ⟨v, h2, h3⟩ := ra.get i h1
  refine ⟨⟨xs, v, q1, h2⟩, fun z H'' hy => ?_⟩
  obtain ⟨T, x, rfl, hT, rfl, f⟩ := hy
  have e1 : v = x := Option.some.inj (h2.symm.trans (f xs q1))
  subst e1
  exact ⟨_, Ext.new s2 hT, new_tup s2 hT (.cons (.int _) (.cons (h3.mono s1) .nil))⟩
theorem itET {K : KW} {a : Addr} {xs : List L2.V} {V : Hp} {ds : List PyData} (ha : V a = some (.tup xs)) (ra : RepL K V xs ds) : ItD K (IteT K a) V (enumD 0 ds) := by
  intro i H' V' s1 s2
  have q1 : SqT K H' a xs := sqt s2 (s1 _ _ ha)
  refine ⟨fun d hd => ?_, fun e => ⟨xs, q1, by rw [ra.length, e, enumD_len]⟩⟩
  rw [enumD_get, Nat.zero_add] at hd
  obtain ⟨d', h1, rfl⟩ := Option.map_eq_some_iff.mp hd
  obtain ⟨v, h2, h3⟩ := ra.get i h1
  refine ⟨⟨xs, v, q1, h2⟩, fun z H'' hy => ?_⟩
  obtain ⟨T, x, rfl, hT, rfl, f⟩ := hy
  have e1 : v = x := Option.some.inj (h2.symm.trans (f xs q1))
  subst e1
  exact ⟨_, Ext.new s2 hT, new_tup s2 hT (.cons (.int _) (.cons (h3.mono s1) .nil))⟩
section
variable {X : Cx} {F : Fr} {e : Expr} {fs : M (List PyData)} {fa : M PyData} {pos p : Pos}
theorem pmi_enum {elts : List Expr} {kk : Nat} {tpos : Pos} (hm : X.mg "enumerate" = none) (ha : PMA X F [e] fs) (hg : Gl X "enumerate" := by rfl) (hs : starEach [e] X.env = [(false, eval e X.env)] := by rfl) :
    PMI X F (.Tuple elts kk tpos) (.Call (.Name "enumerate" p) [e] [] pos) (opI gEnum fs) := by
  refine PI.imp (pi_enumA hg hm ha hs) fun σ H R ⟨V, ρ, E, g0⟩ => ⟨V, ρ, E, Goal.bind g0 fun x dx H1 V1 ρ1 st1 r1 g1 => ?_⟩
  obtain ⟨z, ez, q⟩ := Goal.opt st1.env g1
  have s := st1.env.sub
  cases r1 with
  | nil => cases ez
  | cons r1 r2 =>
    cases r2 with
    | cons _ _ => cases r1 <;> cases ez
    | nil =>
      cases r1 with
      | @lst a xs ds ha ra => cases ez; exact ⟨a, xs, rfl, .inl ⟨.inl (.inl (s _ _ ha)), q _ _ _ (Ext.refl s) (itE ha ra)⟩⟩
      | @tup a xs ds ha ra => cases ez; exact ⟨a, xs, rfl, .inr ⟨sqt s ha, q _ _ _ (Ext.refl s) (itET ha ra)⟩⟩
      | _ => cases ez
end
def boolsD : List PyData → Option (List Bool)
  | [] => some []
  | .bool b :: ds => (boolsD ds).map fun bs => b :: bs
  | _ :: _ => none
theorem bools_rep {K : KW} {V : Hp} : ∀ {xs : List L2.V} {ds : List PyData} {bs : List Bool}, RepL K V xs ds → boolsD ds = some bs → xs = bs.map L2.V.bl
  | _, _, _, .nil, h => by cases h; rfl
  | _, _, bs, @RepL.cons _ _ x xs d ds r t, h => by
    cases r with
    | bl b =>
      have h : (boolsD ds).map (fun bs => b :: bs) = some bs := h
      obtain ⟨cs, h1, rfl⟩ := Option.map_eq_some_iff.mp h
      rw [bools_rep t h1]
      rfl
    | _ => cases h
def gAll : List PyData → Option PyData
  | [.list ds] => (boolsD ds).map fun bs => .bool (bs.all id)
  | _ => none
theorem cd_all {K : KW} : CallD K (rAll K) gAll := by
  intro xs ds z H V Q s r e q
  cases r with
  | nil => cases e
  | cons r1 r2 =>
    cases r2 with
    | cons _ _ => cases r1 <;> cases e
    | nil =>
      cases r1 with
      | @lst a ys es ha ra =>
        have e : (boolsD es).map (fun bs => PyData.bool (bs.all id)) = some z := e
        obtain ⟨bs, hb, rfl⟩ := Option.map_eq_some_iff.mp e
        have hy := bools_rep ra hb
        subst hy
        exact ⟨a, bs, rfl, .inl (.inl (s _ _ ha)), q _ _ _ (Ext.refl s) (.bl _)⟩
      | _ => cases e
def gTuple : List PyData → Option PyData
  | [.list ds] => some (.tuple ds)
  | [.tuple ds] => some (.tuple ds)
  | _ => none
theorem cd_tuple {K : KW} : CallD K (fun xs H Q => ∃ p ys, xs = [.ref p] ∧ ((SqL K H p ys ∧ ∀ l, H l = none → Q (.ref l) (upd H l (.tup ys))) ∨ (SqT K H p ys ∧ Q (.ref p) H))) gTuple := by
  intro xs ds z H V Q s r e q
  cases r with
  | nil => cases e
  | cons r1 r2 =>
    cases r2 with
    | cons _ _ => cases r1 <;> cases e
    | nil =>
      cases r1 with
      | @lst a ys es ha ra => cases e; exact ⟨a, ys, rfl, .inl ⟨.inl (.inl (s _ _ ha)), fun p hp => q _ _ _ (Ext.new s hp) (new_tup s hp ra)⟩⟩
      | @tup a ys es ha ra => cases e; exact ⟨a, ys, rfl, .inr ⟨sqt s ha, q _ _ _ (Ext.refl s) (.tup ha ra)⟩⟩
      | _ => cases e
def gMin : List PyData → Option PyData
  | [.int i, .int j] => some (.int (if j < i then j else i))
  | _ => none
theorem RepL.ints2 {K : KW} {V : Hp} {xs : List L2.V} {i j : Int} (r : RepL K V xs [.int i, .int j]) : xs = [.int i, .int j] := by
  cases r with
  | cons r1 r2 =>
    cases r2 with
    | cons r2 r3 =>
      cases r3
      cases r1
      cases r2
      rfl
theorem cd_min {K : KW} : CallD K (fun xs H Q => ∃ i j, xs = [.int i, .int j] ∧ Q (.int (if j < i then j else i)) H) gMin := by
  intro xs ds z H V Q s r e q
  unfold gMin at e
  split at e
  · rename_i i j
    cases e
    exact ⟨i, j, r.ints2, q _ _ _ (Ext.refl s) (.int _)⟩
  · cases e
def intsD : List PyData → Option (List Int)
  | [] => some []
  | .int b :: ds => (intsD ds).map fun bs => b :: bs
  | _ :: _ => none
theorem ints_rep {K : KW} {V : Hp} : ∀ {xs : List L2.V} {ds : List PyData} {bs : List Int}, RepL K V xs ds → intsD ds = some bs → xs = bs.map L2.V.int
  | _, _, _, .nil, h => by cases h; rfl
  | _, _, bs, @RepL.cons _ _ x xs d ds r t, h => by
    cases r with
    | int b =>
      have h : (intsD ds).map (fun bs => b :: bs) = some bs := h
      obtain ⟨cs, h1, rfl⟩ := Option.map_eq_some_iff.mp h
      rw [ints_rep t h1]
      rfl
    | _ => cases h
def gSum : List PyData → Option PyData
  | [.list ds] => (intsD ds).map fun bs => .int bs.sum
  | _ => none
theorem cd_sum {K : KW} : CallD K (rSum K) gSum := by
  intro xs ds z H V Q s r e q
  cases r with
  | nil => cases e
  | cons r1 r2 =>
    cases r2 with
    | cons _ _ => cases r1 <;> cases e
    | nil =>
      cases r1 with
      | @lst a ys es ha ra =>
        have e : (intsD es).map (fun bs => PyData.int bs.sum) = some z := e
        obtain ⟨bs, hb, rfl⟩ := Option.map_eq_some_iff.mp e
        have hy := ints_rep ra hb
        subst hy
        exact ⟨a, bs, rfl, .inl (.inl (s _ _ ha)), q _ _ _ (Ext.refl s) (.int _)⟩
      | _ => cases e
end DL
set_option Elab.async false
set_option linter.all false
set_option maxRecDepth 100000
set_option maxHeartbeats 1000000
namespace DL
open PySem PySem.Spec PyProof.Rows L2
variable [TabCtx]
def tyD : PyData → String
  | .none => "NoneType"
  | .bool _ => "bool"
  | .int _ => "int"
  | .str _ => "str"
  | .list _ => "list"
  | .tuple _ => "tuple"
  | .dict _ => "dict"
/-- a value's type; a dict by tuples besides -/
def TyY (K : KW) (H : Hp) (x : L2.V) (t : Value) : Prop := TyX K H x t ∨ ∃ a xs ep, x = .ref a ∧ H a = some (dX K.w a xs ep) ∧ t = .type "dict"
theorem ty_rep {K : KW} {V H : Hp} {x : L2.V} {d : PyData} (s : Same V H) (r : Rep K V x d) : TyY K H x (.type (tyD d)) := by
  cases r with
  | non => exact .inl (.base .non)
  | bl b => exact .inl (.base (.bl b))
  | int i => exact .inl (.base (.int i))
  | str x => exact .inl (.base (.str x))
  | lst h _ => exact .inl (.base (.lst (s _ _ h)))
  | tup h _ => exact .inl (.base (.tup (s _ _ h)))
  | dk h _ => exact .inl (.base (.dK (s _ _ h)))
  | dt h _ => exact .inr ⟨_, _, _, rfl, s _ _ h, rfl⟩
def rIsiY (K : KW) : List L2.V → Hp → VK → Prop := fun xs H Q => ∃ x c t u b, xs = [x, c] ∧ ClsV c u ∧ TyY K H x t ∧ PySem.W.kitOne K t u = some b ∧ Q (.bl b) H
theorem call_isiY {X : Cx} : CallR X (.builtin "isinstance") (rIsiY X.kw) := by
  intro pins s σ H xs us Q I r h
  obtain ⟨x, c, t, u, b, rfl, k, ty, e, q⟩ := h
  rcases ty with ty | ⟨a, ys, ep, rfl, hx, rfl⟩
  · exact call_isi pins s σ H _ us Q I r ⟨x, c, t, u, b, rfl, k, ty, e, q⟩
  · cases r with
    | cons r1 r =>
      cases r with
      | cons r2 r =>
        cases r
        have e2 := k.eq r2
        subst e2
        cases r1
        obtain ⟨⟨_, _, _, us, o, es, _, h1, h2, _⟩, _, _⟩ := (show ObjOk X.prog X.w H s.heap a (dX X.w a ys ep) from I.hok a _ hx)
        exact PySem.W.kia_one (PySem.W.kitx_dict (a := a)) I.kIn ⟨o, h1, h2.1⟩ e (fun z => nomatch z) fun tk => ⟨.bl b, H, I.tok tk, rfl, q⟩
inductive Ty where
  | int | bool | str | list | tuple | dict
def Ty.name : Ty → String
  | .int => "int"
  | .bool => "bool"
  | .str => "str"
  | .list => "list"
  | .tuple => "tuple"
  | .dict => "dict"
def isD : Ty → PyData → Bool
  | .int, .int _ => true
  | .int, .bool _ => true
  | .bool, .bool _ => true
  | .str, .str _ => true
  | .list, .list _ => true
  | .tuple, .tuple _ => true
  | .dict, .dict _ => true
  | _, _ => false
theorem kb (T : Ty) (d : PyData) : kitB (tyD d) T.name = some (isD T d) := by
  cases T <;> cases d <;> first
    | exact (by decide +kernel : kitB "NoneType" "int" = some false) | exact (by decide +kernel : kitB "bool" "int" = some true) | exact (by decide +kernel : kitB "int" "int" = some true) | exact (by decide +kernel : kitB "str" "int" = some false) | exact (by decide +kernel : kitB "list" "int" = some false) | exact (by decide +kernel : kitB "tuple" "int" = some false) | exact (by decide +kernel : kitB "dict" "int" = some false)
    | exact (by decide +kernel : kitB "NoneType" "bool" = some false) | exact (by decide +kernel : kitB "bool" "bool" = some true) | exact (by decide +kernel : kitB "int" "bool" = some false) | exact (by decide +kernel : kitB "str" "bool" = some false) | exact (by decide +kernel : kitB "list" "bool" = some false) | exact (by decide +kernel : kitB "tuple" "bool" = some false) | exact (by decide +kernel : kitB "dict" "bool" = some false)
    | exact (by decide +kernel : kitB "NoneType" "str" = some false) | exact (by decide +kernel : kitB "bool" "str" = some false) | exact (by decide +kernel : kitB "int" "str" = some false) | exact (by decide +kernel : kitB "str" "str" = some true) | exact (by decide +kernel : kitB "list" "str" = some false) | exact (by decide +kernel : kitB "tuple" "str" = some false) | exact (by decide +kernel : kitB "dict" "str" = some false)
    | exact (by decide +kernel : kitB "NoneType" "list" = some false) | exact (by decide +kernel : kitB "bool" "list" = some false) | exact (by decide +kernel : kitB "int" "list" = some false) | exact (by decide +kernel : kitB "str" "list" = some false) | exact (by decide +kernel : kitB "list" "list" = some true) | exact (by decide +kernel : kitB "tuple" "list" = some false) | exact (by decide +kernel : kitB "dict" "list" = some false)
    | exact (by decide +kernel : kitB "NoneType" "tuple" = some false) | exact (by decide +kernel : kitB "bool" "tuple" = some false) | exact (by decide +kernel : kitB "int" "tuple" = some false) | exact (by decide +kernel : kitB "str" "tuple" = some false) | exact (by decide +kernel : kitB "list" "tuple" = some false) | exact (by decide +kernel : kitB "tuple" "tuple" = some true) | exact (by decide +kernel : kitB "dict" "tuple" = some false)
    | exact (by decide +kernel : kitB "NoneType" "dict" = some false) | exact (by decide +kernel : kitB "bool" "dict" = some false) | exact (by decide +kernel : kitB "int" "dict" = some false) | exact (by decide +kernel : kitB "str" "dict" = some false) | exact (by decide +kernel : kitB "list" "dict" = some false) | exact (by decide +kernel : kitB "tuple" "dict" = some false) | exact (by decide +kernel : kitB "dict" "dict" = some true)
/-- isinstance(x, T), T a built-in class -/
def isi (T : Ty) (a : M PyData) : M PyData := op1 (fun d => some (.bool (isD T d))) a
section
variable {X : Cx} {F : Fr} {e : Expr} {es : List Expr} {fs : M (List PyData)} {fa : M PyData} {pos p p2 : Pos}
theorem pm_isi (T : Ty) {t : Str} (hm : X.mg "isinstance" = none) (hmt : X.mg t = none) (ha : PM X F e fa) (ht : bootBuiltins t = some (.type T.name) := by decide +kernel) (hg : Gl X "isinstance" := by rfl) (hgt : Gl X t := by rfl)
    (hn : t ≠ "__name__" := by decide) (hd : (t == ("__debug__" : Str)) = false := by decide)
    (he : starEach [e, .Name t p2] X.env = (false, eval e X.env) :: starEach [.Name t p2] X.env := by rfl) (he2 : starEach [.Name t p2] X.env = (false, eval (.Name t p2) X.env) :: starEach [] X.env := by rfl) (hpl : (backTo pos (starEach [.Name t p2] X.env)).any (·.1) = false := by rfl) :
    PM X F (.Call (.Name "isinstance" p) [e, .Name t p2] [] pos) (isi T fa) := by
  have h2 : PE X (.Name t p2) (tC (.ty T.name)) := pe_bltn hgt hmt ht rfl hn hd
  refine PE.imp (pe_callB call_isiY hg hm (by decide +kernel) (pa_cons ha (pa_cons h2 pa_nil he2) he) (by decide) (by decide) he hpl) fun σ H Q ⟨V, ρ, E, g0⟩ => ⟨V, ρ, E, Goal.bind g0 fun x dx H1 V1 ρ1 st1 r1 g1 => ?_⟩
  obtain ⟨z, ez, q⟩ := Goal.opt st1.env g1
  cases ez
  exact ⟨x, .ty T.name, .type (tyD dx), .type T.name, isD T dx, rfl, .ty T.name, ty_rep st1.env.sub r1, kit_ty (kb T dx), q _ _ _ (Ext.refl st1.env.sub) (.bl _)⟩
end
def findD (x : PyData) : List PyData → Option Nat
  | [] => none
  | y :: ys => if PyData.eqv y x = true then some 0 else (findD x ys).map (· + 1)
theorem findD_spec {x : PyData} : ∀ {ys : List PyData} {j : Nat}, findD x ys = some j → (∃ z, ys[j]? = some z ∧ PyData.eqv z x = true) ∧ ∀ (m : Nat) (z : PyData), m < j → ys[m]? = some z → PyData.eqv z x = false
  | [], j, h => by cases h
  | y :: ys, j, h => by
    unfold findD at h
    by_cases e : PyData.eqv y x = true
    · rw [if_pos e] at h
      cases h
      exact ⟨⟨y, rfl, e⟩, fun m z hm => absurd hm (Nat.not_lt_zero m)⟩
    · rw [if_neg e] at h
      obtain ⟨k, hk, rfl⟩ := Option.map_eq_some_iff.mp h
      obtain ⟨⟨z, h1, h2⟩, h3⟩ := findD_spec hk
      refine ⟨⟨z, h1, h2⟩, fun m w hm hw => ?_⟩
      cases m with
      | zero => cases hw; cases q : PyData.eqv y x; rfl; exact absurd q e
      | succ m => exact h3 m w (by omega) hw
def gIndex : PyData → List PyData → Option PyData
  | .list ds, [x] => if (SeqAt.shaped x && SeqAt.shaped (.list ds)) = true then (findD x ds).map fun j => .int (j : Nat) else none
  | _, _ => none
def asL : PyData → Option (List PyData)
  | .list ds => some ds
  | _ => none
/-- a list's method -/
def opM (g : PyData → List PyData → Option PyData) (a : M PyData) (as : M (List PyData)) : M PyData := M.bind a fun x => M.bind (M.opt (asL x)) fun _ => M.bind as fun xs => M.opt (g x xs)
theorem md_index {K : KW} {x : L2.V} {xs : List L2.V} {dx : PyData} {ds : List PyData} {z : PyData} {H V : Hp} {Q : VK} (s : Same V H) (rx : Rep K V x dx) (rs : RepL K V xs ds) (e : gIndex dx ds = some z) (q : ∀ v H' V', Ext H V H' V' → Rep K V' v z → Q v H') : rIndexD K x xs H Q := by
  cases rx with
  | @lst a ys es ha ra =>
    cases rs with
    | nil => cases e
    | @cons y ys' d ds' r1 r2 =>
      cases r2 with
      | cons _ _ => cases e
      | nil =>
        have e : (if (SeqAt.shaped d && SeqAt.shaped (.list es)) = true then (findD d es).map fun j => PyData.int (j : Nat) else none) = some z := e
        by_cases h : (SeqAt.shaped d && SeqAt.shaped (.list es)) = true
        · rw [if_pos h] at e
          obtain ⟨h1, h2⟩ := Bool.and_eq_true_iff.mp h
          obtain ⟨j, hj, rfl⟩ := Option.map_eq_some_iff.mp e
          obtain ⟨⟨w, w1, w2⟩, w3⟩ := findD_spec hj
          exact ⟨a, y, d, es, j, w, rfl, rfl, ((Rep.lst ha ra).mono s).dp (SeqAt.canLay_of_shaped h2), (r1.mono s).dp (SeqAt.canLay_of_shaped h1), h2, h1, w1, w2, w3, q _ _ _ (Ext.refl s) (.int _)⟩
        · rw [if_neg h] at e; cases e
  | _ => cases rs <;> cases e
section
variable {X : Cx} {F : Fr} {o e : Expr} {es : List Expr} {fs : M (List PyData)} {fa : M PyData} {cpos apos : Pos}
theorem pm_index (hu : X.A.units + 65 < cLine) (ho : PM X F o fa) (ha : PMA X F [e] fs) (hbase : attributeBase o "index" X.env (eval o X.env) = eval o X.env := by rfl)
    (hfew : ((backTo cpos (starEach [e] X.env)).all (fun x => !x.1) && (backToKw cpos (keywordEach [] X.env)).all (fun x => x.1.isSome) && decide ([e].length + ([] : List Keyword).length + (if ([] : List Keyword).isEmpty then 0 else 1) < 30)) = true := by rfl)
    (hline : (apos.endLine == cpos.line) = true := by rfl) (hs : starEach [e] X.env = (false, eval e X.env) :: starEach [] X.env := by rfl) (hplain : (backTo cpos (starEach [] X.env)).any (·.1) = false := by rfl) :
    PM X F (.Call (.Attribute o "index" apos) [e] [] cpos) (opM gIndex fa fs) := by
  refine PE.imp (pe_bm PySem.F.plainAttrs_list PySem.F.slot_list_index PySem.F.type_list_index (mt_indexD hu) ho ha hbase hfew hline hs hplain) fun σ H Q ⟨V, ρ, E, g0⟩ => ⟨V, ρ, E, Goal.bind g0 fun x dx H1 V1 ρ1 st1 r1 g1 => ?_⟩
  cases r1 with
  | @lst a ys es ha ra =>
    refine ⟨.inl ⟨rfl, ys, .inl (.inl (st1.env.sub _ _ ha))⟩, V1, ρ1, st1.env, Goal.bind g1 fun xs ds H2 V2 ρ2 st2 r2 g2 => ?_⟩
    obtain ⟨z, ez, q⟩ := Goal.opt st2.env g2
    exact md_index st2.env.sub ((Rep.lst ha ra).mono st2.v) r2 ez q
  | _ => exact False.elim g1
end
def dd : List Int → List Int
  | [] => []
  | x :: xs => if x ∈ xs then dd xs else x :: dd xs
theorem dd_mem {k : Int} : ∀ {xs : List Int}, k ∈ dd xs ↔ k ∈ xs
  | [] => Iff.rfl
  | x :: xs => by
    unfold dd
    by_cases h : x ∈ xs
    · rw [if_pos h, dd_mem, List.mem_cons]
      exact ⟨.inr, fun q => q.elim (fun e => by rw [e]; exact h) id⟩
    · rw [if_neg h, List.mem_cons, List.mem_cons, dd_mem]
theorem dd_nodup : ∀ {xs : List Int}, (dd xs).Nodup
  | [] => List.nodup_nil
  | x :: xs => by
    unfold dd
    by_cases h : x ∈ xs
    · rw [if_pos h]; exact dd_nodup
    · rw [if_neg h]; exact List.nodup_cons.mpr ⟨fun q => h (dd_mem.mp q), dd_nodup⟩
theorem nodup_len {l m : List Int} (h1 : l.Nodup) (h2 : m.Nodup) (h : ∀ k, k ∈ l ↔ k ∈ m) : l.length = m.length := ((List.perm_ext_iff_of_nodup h1 h2).mpr h).length_eq
theorem step_nodup {l : List Int} {k : Int} (h : l.Nodup) : (step_dedup l k).Nodup ∧ ∀ j, j ∈ step_dedup l k ↔ j ∈ l ∨ j = k := by
  unfold step_dedup
  cases e : l.any (· == k) with
  | true =>
    obtain ⟨x, h1, h2⟩ := List.any_eq_true.mp e
    have e2 : x = k := eq_of_beq h2
    subst e2
    exact ⟨h, fun j => ⟨.inl, fun q => q.elim id fun e => by rw [e]; exact h1⟩⟩
  | false =>
    have n : k ∉ l := fun q => by
      have : (l.any fun x => x == k) = true := List.any_eq_true.mpr ⟨k, q, beq_self_eq_true k⟩
      rw [e] at this; cases this
    refine ⟨?_, fun j => by simp⟩
    show (l ++ [k]).Nodup
    exact List.nodup_append.mpr ⟨h, List.nodup_cons.mpr ⟨by simp, List.nodup_nil⟩, fun a ha b hb z => n (by rw [List.mem_singleton.mp hb] at z; rw [← z]; exact ha)⟩
theorem fold_nodup : ∀ (ns l : List Int), l.Nodup → (ns.foldl step_dedup l).Nodup ∧ ∀ j, j ∈ ns.foldl step_dedup l ↔ j ∈ l ∨ j ∈ ns
  | [], l, h => ⟨h, fun j => by simp⟩
  | n :: ns, l, h => by
    obtain ⟨h1, h2⟩ := step_nodup (k := n) h
    obtain ⟨h3, h4⟩ := fold_nodup ns _ h1
    refine ⟨h3, fun j => ?_⟩
    show j ∈ ns.foldl step_dedup (step_dedup l n) ↔ _
    rw [h4 j, h2 j, List.mem_cons]
    constructor
    · rintro ((a | a) | a)
      · exact .inl a
      · exact .inr (.inl a)
      · exact .inr (.inr a)
    · rintro (a | a | a)
      · exact .inl (.inl a)
      · exact .inl (.inr a)
      · exact .inr a
theorem firstMet_len (ns : List Int) : (firstMet (fun i => ns.getD i 0) ns.length).length = (dd ns).length := by
  have e : (List.range ns.length).map (fun i => ns.getD i 0) = ns := by
    apply List.ext_getElem?
    intro i
    rw [List.getElem?_map]
    by_cases h : i < ns.length
    · simp [h]
    · simp [h]
  unfold firstMet
  rw [e]
  obtain ⟨h1, h2⟩ := fold_nodup ns [] List.nodup_nil
  exact nodup_len h1 dd_nodup fun k => by rw [h2 k, dd_mem]; simp
def setLen : PyData → Option PyData
  | .list ds => (intsD ds).bind fun ns => if ns.length ≤ 4000 then some (.int (dd ns).length) else none
  | .tuple ds => (intsD ds).bind fun ns => if ns.length ≤ 4000 then some (.int (dd ns).length) else none
  | _ => none
section
variable {X : Cx} {F : Fr} {a : Expr} {fa : M PyData} {p p2 q pos : Pos}
theorem pm_setLen (hm : X.mg "len" = none) (hm2 : X.mg "set" = none) (ha : PM X F a fa) (hg : Gl X "len" := by rfl) (hg2 : Gl X "set" := by rfl) (hc : X.calm = true := by rfl)
    (na : starEach [a] X.env = (false, eval a X.env) :: starEach [] X.env := by rfl) : PM X F (.Call (.Name "len" p) [.Call (.Name "set" p2) [a] [] q] [] pos) (op1 setLen fa) := by
  refine ⟨fun pins s σ H Q I h => ?_⟩
  refine Call_ (ld_blt I hg hm boot_len ?_)
  refine PyProof.Rows.callWith_builtin1 (PyProof.Rows.args_cons ?_ rfl) rfl rfl
  refine Call_ (ld_blt I hg2 hm2 boot_set ?_)
  obtain ⟨V, ρ, E, g0⟩ := h
  refine PyProof.Rows.callWith_type1 (PyProof.Rows.args_cons (thn (ha.run pins s σ H (fun x H1 => (∃ (l : Addr) (ns : List Int), x = .ref l ∧ (SqL X.kw H1 l (ns.map L2.V.int) ∨ SqT X.kw H1 l (ns.map L2.V.int)) ∧ ns.length ≤ 4000 ∧ Q (.int ((dd ns).length : Nat)) H1)) I ⟨V, ρ, E, Goal.bind g0 fun x dx H1 V1 ρ1 st1 r1 g1 => ?_⟩) fun v s1 ⟨x, H1, I1, r1, q1⟩ => PyProof.Rows.args_nil ?_) na) na rfl
  · obtain ⟨z, ez, q⟩ := Goal.opt st1.env g1
    have fin : ∀ {ds : List PyData}, ((intsD ds).bind fun ns => if ns.length ≤ 4000 then some (PyData.int (dd ns).length) else none) = some z → ∃ ns, intsD ds = some ns ∧ ns.length ≤ 4000 ∧ z = .int (dd ns).length := fun {ds} h => by
      cases e : intsD ds with
      | none => rw [e] at h; cases h
      | some ns =>
        rw [e] at h
        obtain ⟨h1, h2⟩ := ite_some h
        exact ⟨ns, rfl, h1, h2.symm⟩
    cases r1 with
    | @lst b xs ds hb rb =>
      obtain ⟨ns, h1, h2, rfl⟩ := fin ez
      have e := ints_rep rb h1
      subst e
      exact ⟨b, ns, rfl, .inl (.inl (.inl (st1.env.sub _ _ hb))), h2, q _ _ _ (Ext.refl st1.env.sub) (.int _)⟩
    | @tup b xs ds hb rb =>
      obtain ⟨ns, h1, h2, rfl⟩ := fin ez
      have e := ints_rep rb h1
      subst e
      exact ⟨b, ns, rfl, .inr (sqt st1.env.sub hb), h2, q _ _ _ (Ext.refl st1.env.sub) (.int _)⟩
    | _ => cases ez
  · obtain ⟨l, ns, rfl, hq, hl, q1⟩ := q1
    cases r1
    rcases hq with hq | hq
    · obtain ⟨its, r, pl, hz⟩ := I1.list hq
      have hlen : its.toArray.size = ns.length := by rw [List.size_toArray, ← r.length, List.length_map]
      refine call_set_list (I1.ok.hd hc) pl.isList (by simpa using RZ.intsAre_vals r) (by rw [hlen]; unfold scanBound; omega) fun h' tk hS hk => ?_
      refine PyProof.Rows.args_nil ?_
      rw [hlen, firstMet_len] at hS
      obtain ⟨o, es, ep, t, ho, hex, hd, _, _, _, hf, hn⟩ := hS
      have I2 : Inv X pins σ H1 { s1 with heap := h', toks := tk } := I1.kept fun b o e => hk b o (Heap.lt_size e) e
      have hle : (dd ns).length ≤ 4000 := by
        rw [← firstMet_len]
        exact Nat.le_trans (firstMet_length_le _ _) hl
      exact call_len_set ho hex hd hf (by rw [hn] <;> omega) ⟨.int (dd ns).length, H1, I2.tok _, ⟨_, by rw [hn]⟩, q1⟩
    · obtain ⟨its, r, pl, hz⟩ := I1.tuple hq
      refine L2.call_set_tupI ns (I1.ok.hd hc) (show s1.heap.IsTuple l its.toArray from pl) (by simpa using RZ.intsAre_vals r) (by unfold scanBound; omega) fun h' tk c hS hle hk => ?_
      refine PyProof.Rows.args_nil ?_
      obtain ⟨o, es, ep, t, ho, hex, hd, _, hnd, hmem, _, hf, hn, _⟩ := hS
      have ec : c = (dd ns).length := by
        rw [← hn, ← Array.length_toList, ← List.length_map (f := keyOf)]
        refine nodup_len hnd dd_nodup fun k => ?_
        rw [← hmem k, dd_mem]
        simp
      have I2 : Inv X pins σ H1 { s1 with heap := h', toks := tk } := I1.kept hk
      exact call_len_set ho hex hd hf (by rw [hn] <;> omega) ⟨.int (dd ns).length, H1, I2.tok _, ⟨_, by rw [hn, ec]⟩, q1⟩
end
end DL
set_option Elab.async false
set_option linter.all false
set_option maxRecDepth 100000
set_option maxHeartbeats 1000000
namespace DL
open PySem PySem.Spec PyProof.Rows L2
variable [TabCtx]
theorem u65 {k : Nat} {A : Around} (r : Room k A) : A.units + 65 < cLine := by have := r.un; omega
/-- tests over own things -/
def brwT (b : Bool) (f : M Bool) : M Bool := fun ρ => match f (demR b ρ) with
  | .ok (d, ρ') => (match backR b ρ ρ' with
    | some ρ'' => .ok (d, ρ'')
    | none => .bad)
  | .exc c => .exc c
  | .bad => .bad
theorem pmt_brw {X : Cx} {F : Fr} {e : Expr} {fa : M Bool} (b : Bool) (h : PMT X F e fa) : PMT X F e (brwT b fa) := by
  refine PT.imp h fun σ H Q ⟨V, ρ, E, g⟩ => ⟨shown (Let σ ρ b) V H, demR b ρ, E.dem b, ?_⟩
  have g : Goal X.kw F σ ρ H V (fun _ (b : Bool) a => b = a) (match fa (demR b ρ) with
    | .ok (d, ρ') => (match backR b ρ ρ' with
      | some ρ'' => .ok (d, ρ'')
      | none => .bad)
    | .exc c => .exc c
    | .bad => .bad) Q := g
  cases ef : fa (demR b ρ) with
  | exc c => rw [ef] at g; exact g
  | bad => rw [ef] at g; exact g
  | ok pr =>
    obtain ⟨d, ρ'⟩ := pr
    rw [ef] at g
    have g : Goal X.kw F σ ρ H V (fun _ (b : Bool) a => b = a) (match backR b ρ ρ' with
      | some ρ'' => .ok (d, ρ'')
      | none => .bad) Q := g
    intro v H' V' st r
    cases eb : backR b ρ ρ' with
    | none => rw [eb] at g; exact False.elim g
    | some ρ'' =>
      rw [eb] at g
      obtain ⟨s1, s2⟩ := E.back st eb
      exact g v H' _ s1 r
theorem gsN_len {ds : List PyData} {ρ ρ' : Rho} (h : gsN ds ρ = .ok ρ') : ds.length = 0 := by
  cases ds with
  | nil => rfl
  | cons _ _ => cases h
theorem gsC_len {g : GM} {gs : List PyData → Rho → R Rho} {n : Nat} (hg : ∀ ds ρ ρ', gs ds ρ = .ok ρ' → ds.length = n) : ∀ ds ρ ρ', gsC g gs ds ρ = .ok ρ' → ds.length = n + 1 := fun ds ρ ρ' h => by
  cases ds with
  | nil => cases h
  | cons d ds =>
    have h : R.bind (g d ρ) (fun ρ' => gs ds ρ') = .ok ρ' := h
    cases e : g d ρ with
    | ok ρ1 => rw [e] at h; rw [List.length_cons, hg ds ρ1 ρ' h]
    | exc c => rw [e] at h; cases h
    | bad => rw [e] at h; cases h
end DL
set_option Elab.async false
set_option linter.all false
set_option maxRecDepth 100000
set_option maxHeartbeats 1000000
namespace DL
open PySem PySem.Spec PyProof.Rows L2
variable [TabCtx]
/-- _law_cell -/
def cellI (ns : List Int) (k : Int) : Int := if ns = [] then k * 7919 else ns.getD (k % ns.length).toNat 0 + k / ns.length * 104729
def spCell (K : KW) : Sp := fun vs H Q _ => ∃ (a : Addr) (ns : List Int) (k : Int), vs = [.ref a, .int k] ∧ SqL K H a (ns.map V.int) ∧ 0 ≤ k ∧ k < 1000 ∧ ns.length ≤ 1000 ∧ ∀ H', Same H H' → Q (.int (cellI ns k)) H'
abbrev rMulI : R2 := rI CMul fun i j => .int (i * j)
def t_cell (K : KW) : TS :=
  tSeq (tIfS (tTest (tOp (rEqD K) (tVar 0) (tLst tNil))) (tRet (tOp rMulI (tVar 1) (tC (.int 7919)))) tNext)
    (tRet (tOp (rI0 fun i j => .int (i + j)) (tOp (rIxL K) (tVar 0) (tOp (rI (fun _ j => 0 < j) fun i j => .int (i % j)) (tVar 1) (tCB (fun xs H Q => ∃ x n, xs = [x] ∧ LenV K x H n ∧ Q (.int n) H) (tCons (tVar 0) tNil))))
      (tOp rMulI (tOp (rI CDivW fun i j => .int (i / j)) (tVar 1) (tCB (fun xs H Q => ∃ x n, xs = [x] ∧ LenV K x H n ∧ Q (.int n) H) (tCons (tVar 0) tNil))) (tC (.int 104729)))))
theorem dp_ints {K : KW} {H : Hp} : ∀ ns : List Int, DpAll K H (ns.map V.int) (ns.map PyData.int)
  | [] => .nil
  | n :: ns => .cons (.int n) (dp_ints ns)
theorem ints_lay : ∀ ns : List Int, PyData.canLayAll0 (ns.map PyData.int) = true
  | [] => rfl
  | n :: ns => by
    show (PyData.canLay0 (.int n) && PyData.canLayAll0 (ns.map PyData.int)) = true
    rw [ints_lay ns]; rfl
theorem ints_depth : ∀ ns : List Int, PyData.depthAll (ns.map PyData.int) = 0
  | [] => by simp [PyData.depthAll]
  | n :: ns => by
    have := ints_depth ns
    simp [PyData.depthAll, PyData.depth, this]
theorem ints_shaped (ns : List Int) : SeqAt.shaped (.list (ns.map PyData.int)) = true := by
  unfold SeqAt.shaped
  have h1 : PyData.canLay0 (.list (ns.map PyData.int)) = true := by
    rw [PyData.canLay0]; exact ints_lay ns
  have h2 : PyData.depth (.list (ns.map PyData.int)) ≤ 64 := by
    rw [PyData.depth, ints_depth]; decide
  rw [h1, decide_eq_true h2]; rfl
theorem pure_cell {K : KW} (vs : List L2.V) (H : Hp) (Q : VK) (E : XK) (h : spCell K vs H Q E) : t_cell K { nx := fun _ H' => Q .non H', rt := Q } (L2.start ["script", "k"] vs) H := by
  obtain ⟨a, ns, k, rfl, hS, h0, h1, hl, q⟩ := h
  refine ⟨.ref a, rfl, Nat.zero_le _, fun p hp => ?_⟩
  have s1 : Same H (upd H p (.lst [])) := same_new hp
  have hS1 := s1.seq hS
  refine ⟨.list (ns.map .int), .list [], .lst hS1 (dp_ints ns), .lst (.inl (.inl upd_same)) .nil, ints_shaped ns, ints_shaped [], _, rfl, ?_⟩
  cases ns with
  | nil =>
    have e : PyData.eqv (.list (List.map PyData.int [])) (.list []) = true := by rw [PyData.eqv]; rfl
    rw [e, if_pos rfl]
    refine ⟨.int k, rfl, k, 7919, rfl, rfl, .inl ⟨by omega, by omega⟩, ?_⟩
    exact q _ s1
  | cons n ns =>
    have e : PyData.eqv (.list (List.map PyData.int (n :: ns))) (.list []) = false := by rw [PyData.eqv]; rfl
    rw [e, if_neg Bool.false_ne_true]
    have hlen : LenV K (.ref a) (upd H p (.lst [])) (n :: ns).length := .inl ⟨_, hS1, (List.length_map ..).symm⟩
    have hpos : (0 : Int) < ((n :: ns).length : Nat) := by simp only [List.length_cons]; omega
    have hm0 : 0 ≤ k % (((n :: ns).length : Nat) : Int) := Int.emod_nonneg _ (by omega)
    have hm1 : k % (((n :: ns).length : Nat) : Int) < ((n :: ns).length : Nat) := Int.emod_lt_of_pos _ hpos
    have hix : ((n :: ns).map V.int)[(k % (((n :: ns).length : Nat) : Int)).toNat]? = some (.int ((n :: ns).getD (k % (((n :: ns).length : Nat) : Int)).toNat 0)) := by
      have hlt : (k % (((n :: ns).length : Nat) : Int)).toNat < (n :: ns).length := by omega
      rw [List.getElem?_map, List.getD_eq_getElem?_getD, List.getElem?_eq_getElem hlt]
      rfl
    have hat := atI_nat hix
    rw [Int.toNat_of_nonneg hm0] at hat
    refine ⟨.ref a, rfl, .int k, rfl, .ref a, rfl, _, _, rfl, hlen, k, _, rfl, rfl, hpos, a, _, _, _, rfl, rfl, hS1, hat, .int k, rfl, .ref a, rfl, _, _, rfl, hlen, k, _, rfl, rfl, ?_, _, _, rfl, rfl, .inr ⟨by omega, by omega⟩, _, _, rfl, rfl, ?_⟩
    · refine wide_div (b := 200) hpos ?_ (by decide) (by decide)
      have : (((n :: ns).length : Nat) : Int).natAbs = (n :: ns).length := Int.natAbs_natCast _
      rw [this]
      exact Nat.lt_of_le_of_lt hl (by decide)
    · have e2 : cellI (n :: ns) k = (n :: ns).getD (k % (((n :: ns).length : Nat) : Int)).toNat 0 + k / (((n :: ns).length : Nat) : Int) * 104729 := by
        unfold cellI; rw [if_neg (by simp)]
      rw [e2] at q
      exact q _ s1
/-- _law_rounds: the new lists stand at as, their list at p -/
def Rounds (cs : List Int) (H : Hp) (p : Addr) (as : List Addr) : Prop := H p = some (.lst (as.map V.ref)) ∧ as.length = cs.length ∧ as.Nodup ∧ p ∉ as ∧ ∀ (i : Nat) (a : Addr) (c : Int), as[i]? = some a → cs[i]? = some c → H a = some (.lst [.int c, .int 0])
def roundsI (ns : List Int) (high : Int) : List Int := (List.range (max 1 (min high ns.length)).toNat).map fun i => cellI ns ((0 : Int) + (i : Nat))
def spRounds (K : KW) : Sp := fun vs H Q _ => ∃ (a : Addr) (ns : List Int) (high : Int), vs = [.ref a, .int high] ∧ SqL K H a (ns.map V.int) ∧ 0 ≤ high ∧ high < 1000 ∧ ns.length ≤ 1000 ∧ ∀ H' p as, Same H H' → Rounds (roundsI ns high) H' p as → Q (.ref p) H'
def t_rounds (K : KW) (E : XK) : TS :=
  tRet (tLc (iRng1 (tCons (tCB (fun xs H Q => ∃ i j, xs = [.int i, .int j] ∧ Q (.int (if j > i then j else i)) H) (tCons (tC (.int 1)) (tCons (tCB (fun xs H Q => ∃ i j, xs = [.int i, .int j] ∧ Q (.int (if j < i then j else i)) H) (tCons (tVar 1) (tCons (tCB (fun xs H Q => ∃ x n, xs = [x] ∧ LenV K x H n ∧ Q (.int n) H) (tCons (tVar 0) tNil)) tNil))) tNil))) tNil))
    (gName 2) tYes (tLst (tCons (tCallS (spCell K) (fun _ _ _ _ => False) (tCons (tVar 0) (tCons (tVar 2) tNil))) (tCons (tC (.int 0)) tNil))) [2])
theorem pure_rounds {K : KW} (vs : List L2.V) (H : Hp) (Q : VK) (E : XK) (h : spRounds K vs H Q E) : t_rounds K E { nx := fun _ H' => Q .non H', rt := Q } (L2.start ["script", "high", "k"] vs) H := by
  obtain ⟨a, ns, high, rfl, hS, h0, h1, hl, q⟩ := h
  refine ⟨.int high, rfl, .ref a, rfl, _, ns.length, rfl, .inl ⟨_, hS, (List.length_map ..).symm⟩, _, _, rfl, _, _, rfl, ?_⟩
  have em : (if (if ((ns.length : Nat) : Int) < high then ((ns.length : Nat) : Int) else high) > 1 then (if ((ns.length : Nat) : Int) < high then ((ns.length : Nat) : Int) else high) else 1) = max 1 (min high ns.length) := by
    by_cases c : ((ns.length : Nat) : Int) < high
    · rw [if_pos c]
      by_cases c2 : ((ns.length : Nat) : Int) > 1
      · rw [if_pos c2]; omega
      · rw [if_neg c2]; omega
    · rw [if_neg c]
      by_cases c2 : high > 1
      · rw [if_pos c2]; omega
      · rw [if_neg c2]; omega
  rw [em]
  refine ⟨_, rfl, by omega, by omega, fun D hD => ?_⟩
  refine lc_range (lo := 0) (n := (max 1 (min high ns.length)).toNat) (fun i H' => ∃ as : List Addr, Same H H' ∧ H' D = some (.lst (as.map V.ref)) ∧ as.length = i ∧ as.Nodup ∧ D ∉ as ∧ ∀ (j : Nat) (b : Addr), as[j]? = some b → H' b = some (.lst [.int (cellI ns ((0 : Int) + (j : Nat))), .int 0]))
    ⟨[], same_new hD, upd_same, rfl, List.nodup_nil, by simp, fun j b hb => by simp at hb⟩ (fun i H' hi hP => ?_) fun H' hP => ?_
  · obtain ⟨as, hs, hd, hlen, hnd, hDn, hat⟩ := hP
    have hi2 : (max 1 (min high (ns.length : Int))).toNat ≤ 1000 := by omega
    refine ⟨rfl, ?_⟩
    refine Eq.mpr (if_pos (e := False) (rfl : true = true)) ?_
    refine ⟨.ref a, rfl, .int ((0 : Int) + (i : Nat)), rfl, a, ns, (0 : Int) + (i : Nat), rfl, hs.seq hS, by omega, by omega, hl, fun H2 s2 => ⟨by show 2 ≤ sizeLine; decide, fun p hp => ?_⟩⟩
    have s3 : Same H2 (upd H2 p (.lst [.int (cellI ns ((0 : Int) + (i : Nat))), .int 0])) := same_new hp
    have hD2 : H2 D = some (.lst (as.map V.ref)) := s2 _ _ hd
    have pD : p ≠ D := fun e => by rw [e, hD2] at hp; cases hp
    have pas : p ∉ as := fun e => by
      obtain ⟨j, hj⟩ := List.mem_iff_getElem?.mp e
      have := s2 _ _ (hat j p hj)
      rw [hp] at this
      cases this
    refine ⟨as.map V.ref, by rw [upd_ne (Ne.symm pD)]; exact hD2, by rw [List.length_map, hlen]; exact Nat.lt_of_lt_of_le hi (Nat.le_trans hi2 (by decide)), as ++ [p], ?_, ?_, ?_, ?_, ?_, ?_⟩
    · intro b o e
      have nb : b ≠ D := fun z => by rw [z, hD] at e; cases e
      rw [upd_ne nb]
      exact s3 _ _ (s2 _ _ (hs _ _ e))
    · rw [upd_same, List.map_append]; rfl
    · rw [List.length_append, hlen]; rfl
    · exact List.nodup_append.mpr ⟨hnd, List.nodup_cons.mpr ⟨by simp, List.nodup_nil⟩, fun x hx y hy z => pas (by rw [List.mem_singleton.mp hy] at z; rw [← z]; exact hx)⟩
    · intro e
      rcases List.mem_append.mp e with e | e
      · exact hDn e
      · exact pD (List.mem_singleton.mp e).symm
    · intro j b hb
      by_cases hj : j < as.length
      · rw [List.getElem?_append_left hj] at hb
        have nb : b ≠ D := fun z => hDn (by rw [← z]; exact List.mem_of_getElem? hb)
        have nbp : b ≠ p := fun z => pas (by rw [← z]; exact List.mem_of_getElem? hb)
        rw [upd_ne nb, upd_ne nbp]
        exact s2 _ _ (hat j b hb)
      · rw [List.getElem?_append_right (by omega)] at hb
        have ej : j = as.length := by
          have := (List.getElem?_eq_some_iff.mp hb).1
          simp at this
          omega
        subst ej
        rw [Nat.sub_self] at hb
        cases hb
        rw [upd_ne pD, upd_same, hlen]
  · obtain ⟨as, hs, hd, hlen, hnd, hDn, hat⟩ := hP
    refine q H' D as hs ⟨hd, ?_, hnd, hDn, fun i b c h1 h2 => ?_⟩
    · unfold roundsI; rw [List.length_map, List.length_range]; exact hlen
    · rw [hat i b h1]
      unfold roundsI at h2
      rw [List.getElem?_map] at h2
      obtain ⟨j, h3, h4⟩ := Option.map_eq_some_iff.mp h2
      have h5 := (List.getElem?_eq_some_iff.mp h3).2
      rw [List.getElem_range] at h5
      subst h5 h4
      rfl
/-- the slots ahead of a turn: the draw alone is known -/
def init (n di : Nat) (c : Int) : Rho := (List.replicate n Sl.no).set di (.ow (.list [.int c, .int 0]))
def spLaw (K : KW) : Sp := fun vs H Q _ => LamX.Tabs TBS H ∧ ∃ (a : Addr) (ns : List Int), vs = [.ref a] ∧ SqL K H a (ns.map V.int) ∧ ns.length ≤ 63 ∧ ∀ H', Q (.bl true) H'
abbrev mkZ (H : Hp) (a : Addr) : Fr := ⟨hide H a, fun _ => none, none, fun _ _ _ => False, 0⟩
theorem tk_z {X : Cx} {H : Hp} {a : Addr} : Tk X (mkZ H a) := L2N.Takes.imp takesN0 fun _ _ _ _ h => h.2
theorem env_init {K : KW} {H : Hp} {a : Addr} {σ : St} {n di : Nat} {c : Int} (hn : σ.length = n) (hd : di < n) (ha : H a = some (.lst [.int c, .int 0])) (hs : σ[di]? = some (some (.ref a))) (ht : LamX.Tabs TBS H) : EnvR K (mkZ H a) H (fun _ => none) σ (init n di c) := by
  have f : ∀ {i : Nat} {t : Sl}, (init n di c)[i]? = some t → (i = di ∧ t = .ow (.list [.int c, .int 0])) ∨ t = .no := fun {i t} h => by
    unfold init at h
    rcases getElem_set_some h with ⟨e1, e2, _⟩ | ⟨_, e2⟩
    · exact .inl ⟨e1.symm, e2.symm⟩
    · rw [List.getElem?_replicate] at e2
      split at e2
      · exact .inr (Option.some.inj e2).symm
      · cases e2
  refine ⟨by simp [init, hn], .of hide_same (fun _ _ h => h) (fun _ _ h => (by cases h)) (fun _ h _ => h), fun i d h => ?_, fun i d h => ?_, fun i j b d e h1 h2 _ _ => ?_, (fun b h => by cases h), tabs_hide (fun x e => by rw [ha] at e; cases e; exact plain_lst) ht, fun _ _ => rfl⟩
  · rcases f h with ⟨_, z⟩ | z <;> cases z
  · rcases f h with ⟨rfl, z⟩ | z
    · cases z
      exact ⟨a, hs, rfl, hide_eq, _, ha, .cons (.int c) (.cons (.int 0) .nil)⟩
    · cases z
  · rcases f h1 with ⟨rfl, _⟩ | z
    · rcases f h2 with ⟨rfl, _⟩ | z
      · rfl
      · cases z
    · cases z
end DL
set_option Elab.async false
set_option linter.all false
set_option maxRecDepth 100000
set_option maxHeartbeats 1000000
namespace DL
open PySem PySem.Spec PyProof.Rows L2
variable [TabCtx]
def tBody (K : KW) (b : SM) : TS := fun D σ H => ∃ a, tS K (mkZ H a) b D σ H
theorem pss_body {X : Cx} {body : List Stmt} {b : SM} (h : ∀ H a, PMSs X (mkZ H a) body b) : PSs X body (tBody X.kw b) := ⟨fun pins s σ H D i ⟨a, g⟩ => (h H a).run pins s σ H D i g⟩
def t_law (K : KW) (hi : Int) (di : Nat) (b : SM) : TS := tSeq (tFor (iList K (tCallS (spRounds K) (fun _ _ _ _ => False) (tCons (tVar 0) (tCons (tC (.int hi)) tNil)))) (gName di) (tBody K b)) (tRet (tC (.bl true)))
theorem pure_law {K : KW} {hi : Int} {di : Nat} {b : SM} {N : List Str} (hd : di < N.length) (h0 : 0 ≤ hi) (h1 : hi < 1000) (hb : ∀ c : Int, ∃ ρ', b (init N.length di c) = .nx ρ' ∧ ρ'.length = N.length) (vs : List L2.V) (H : Hp) (Q : VK) (E : XK) (h : spLaw K vs H Q E) (hl0 : ∀ v, (L2.start N [v])[0]? = some (some v)) (hl : ∀ v, (L2.start N [v]).length = N.length) :
    t_law K hi di b { nx := fun _ H' => Q .non H', rt := Q } (L2.start N vs) H := by
  obtain ⟨ht, a, ns, rfl, hS, hm, q⟩ := h
  refine ⟨.ref a, hl0 _, a, ns, hi, rfl, hS, h0, h1, by omega, fun H1 p as s1 r1 => ⟨p, rfl, ⟨_, .inl (.inl r1.1)⟩, ?_⟩⟩
  obtain ⟨r1, r2, r3, r4, r5⟩ := r1
  refine for_list (xs := as.map V.ref) (fun i σ H' => (σ.length = N.length ∧ LamX.Tabs TBS H') ∧ H' p = some (.lst (as.map V.ref)) ∧ ∀ (j : Nat) (a : Addr) (c : Int), i ≤ j → as[j]? = some a → (roundsI ns hi)[j]? = some c → H' a = some (.lst [.int c, .int 0])) ⟨⟨hl _, ht.ext s1⟩, r1, fun j a c _ => r5 j a c⟩ (fun i σ H' _ h => .inl (.inl h.2.1)) (fun i x σ H' hx hP => ?_) fun σ H' _ => q H'
  obtain ⟨⟨p1, pt⟩, p2, p3⟩ := hP
  rw [List.getElem?_map] at hx
  obtain ⟨ai, hai, rfl⟩ := Option.map_eq_some_iff.mp hx
  have hil : i < as.length := (List.getElem?_eq_some_iff.mp hai).1
  have hc : (roundsI ns hi)[i]? = some ((roundsI ns hi)[i]'(by omega)) := List.getElem?_eq_getElem _
  obtain ⟨ρ', e1, e2⟩ := hb ((roundsI ns hi)[i]'(by omega))
  refine ⟨ai, fun _ => none, init N.length di ((roundsI ns hi)[i]'(by omega)), env_init (by rw [List.length_set]; exact p1) hd (p3 i ai _ (Nat.le_refl i) hai hc) (by rw [List.getElem?_set_self (by omega)]) pt, ?_⟩
  rw [e1]
  intro σ' H2 V' E' _
  have keep : ∀ b o, b ≠ ai → H' b = some o → nT o → H2 b = some o := fun b o nb e nt => E'.ext.h b o (by show hide H' ai b = some o; unfold hide; rw [if_neg nb]; exact e) nt
  refine ⟨⟨E'.len.trans e2, E'.tabs.1⟩, keep _ _ (fun z => r4 (by rw [z]; exact List.mem_of_getElem? hai)) p2 plain_lst.t, fun j b c hj hbj hcj => keep _ _ (fun z => ?_) (p3 j b c (by omega) hbj hcj) plain_lst.t⟩
  subst z
  have := (List.getElem?_inj hil r3).mp (hai.trans hbj.symm)
  omega
/-- an error's carrier, at any world -/
def CXE (P : Program) : CXT := fun outer H s E e s' => ∃ w, L2N.CX P w outer H s E e s'
theorem cxe_no {P : Program} {H : Hp} {s : Shared} {e : Value} {s' : Shared} (h : CXE P [] H s (fun _ _ _ => False) e s') : False := by
  obtain ⟨w, a, B, H', cls, d, h⟩ := h
  exact h.2.2.2.2.2.2.2
end DL
set_option Elab.async false
set_option linter.all false
set_option maxRecDepth 100000
set_option maxHeartbeats 1000000
namespace DL
open PySem PySem.Spec PyProof.Rows L2
variable [TabCtx]
mutual
inductive NAt (H : Hp) : NestedKey → L2.V → Prop
  | non : NAt H .none .non
  | bl (b : Bool) : NAt H (.num (if b = true then 1 else 0)) (.bl b)
  | int (i : Int) : NAt H (.num i) (.int i)
  | str (x : Str) : NAt H (.text x) (.str x)
  | tup {b : Addr} {ks : List NestedKey} {vs : List L2.V} : H b = some (.tup vs) → NAts H ks vs → NAt H (.tup ks) (.ref b)
inductive NAts (H : Hp) : List NestedKey → List L2.V → Prop
  | nil : NAts H [] []
  | cons {k : NestedKey} {v : L2.V} {ks : List NestedKey} {vs : List L2.V} : NAt H k v → NAts H ks vs → NAts H (k :: ks) (v :: vs)
end
mutual
theorem Rep.key {K : KW} {V H : Hp} (s : Same V H) : ∀ {v : L2.V} {d : PyData} {k : NestedKey}, Rep K V v d → nkey d = some k → NAt H k v
  | _, _, _, .non, h => by rw [nkey] at h; cases h; exact .non
  | _, _, _, .bl b, h => by rw [nkey] at h; cases h; exact .bl b
  | _, _, _, .int i, h => by rw [nkey] at h; cases h; exact .int i
  | _, _, _, .str x, h => by rw [nkey] at h; cases h; exact .str x
  | _, _, _, .lst _ _, h => by rw [nkey] at h; cases h
  | _, _, _, .dk _ _ _, h => by rw [nkey] at h; cases h
  | _, _, _, .dt _ _, h => by rw [nkey] at h; cases h
  | _, _, _, .tup ha r, h => by
    rw [nkey] at h
    obtain ⟨ks, h1, h2⟩ := Option.map_eq_some_iff.mp h
    subst h2
    exact .tup (s _ _ ha) (RepL.keys s r h1)
theorem RepL.keys {K : KW} {V H : Hp} (s : Same V H) : ∀ {vs : List L2.V} {ds : List PyData} {ks : List NestedKey}, RepL K V vs ds → nkeys ds = some ks → NAts H ks vs
  | _, _, _, .nil, h => by rw [nkeys] at h; cases h; exact .nil
  | _, _, _, .cons r t, h => by
    rw [nkeys] at h
    obtain ⟨k, h1, h2⟩ := Option.bind_eq_some_iff.mp h
    obtain ⟨ks, h3, h4⟩ := Option.map_eq_some_iff.mp h2
    subst h4
    exact .cons (Rep.key s r h1) (RepL.keys s t h3)
end
mutual
theorem NAt.is {P : Program} {w : World} {H : Hp} {h : Heap} (ok : HOk P w H h) : ∀ {k : NestedKey} {v : L2.V} {u : Value}, NAt H k v → RelV v u → NestedIs h k u
  | _, _, _, .non, r => by cases (show _ = Value.none from r); exact .none
  | _, _, _, .bl b, r => by cases (show _ = Value.bool b from r); exact .bool rfl
  | _, _, _, .int i, r => by obtain ⟨t, rfl⟩ := r; exact .int i t
  | _, _, _, .str x, r => by obtain ⟨t, rfl⟩ := r; exact .text x t
  | _, _, _, .tup (b := b) (vs := vs) ha q, r => by
    cases (show _ = Value.ref b from r)
    obtain ⟨_, its, rv, o, h1, h2, n, h3⟩ := (show ObjOk P w H h b (.tup vs) from ok b _ ha)
    exact .tup h1 h2 h3 (by simpa using NAts.is ok q rv)
theorem NAts.is {P : Program} {w : World} {H : Hp} {h : Heap} (ok : HOk P w H h) : ∀ {ks : List NestedKey} {vs : List L2.V} {us : List Value}, NAts H ks vs → Vals vs us → NestedAll h ks us
  | _, _, _, .nil, r => by cases r; exact .nil
  | _, _, _, .cons q t, r => by
    cases r with
    | cons r1 r2 => exact .cons (NAt.is ok q r1) (NAts.is ok t r2)
end
def KeysAt (H : Hp) (xs : List (NestedKey × Addr × L2.V)) : Prop := ∀ x ∈ xs, NAt H x.1 (.ref x.2.1) ∧ x.1.depth ≤ 8
theorem RepT.keysAt {K : KW} {V H : Hp} (s : Same V H) : ∀ {xs : List (NestedKey × Addr × L2.V)} {ps : List (PyData × PyData)}, RepT K V xs ps → KeysAt H xs
  | _, _, .nil => fun x hx => nomatch hx
  | _, _, .cons q n z r t => fun x hx => by
    rcases List.mem_cons.mp hx with e | e
    · subst e; exact ⟨q.key s n, z⟩
    · exact RepT.keysAt s t x e
def vx (xs : List (NestedKey × Addr × L2.V)) : List (NestedKey × L2.V) := xs.map fun x => (x.1, x.2.2)
abbrev PX : List (NestedKey × Addr × L2.V) → List (NestedKey × Addr × Value) → Prop := Paired fun (x : NestedKey × Addr × L2.V) (u : NestedKey × Addr × Value) => x.1 = u.1 ∧ x.2.1 = u.2.1 ∧ RelV x.2.2 u.2.2
theorem PX.val {xs : List (NestedKey × Addr × L2.V)} {us : List (NestedKey × Addr × Value)} (r : PX xs us) (k : NestedKey) : RelO (valV (vx xs) k) ((atKey us k).map (·.2)) := by
  induction r with
  | nil => exact True.intro
  | @cons p q ps qs h t ih =>
    obtain ⟨h1, _, h2⟩ := h
    by_cases e : p.1 = k
    · have e' : q.1 = k := h1.symm.trans e
      have b : atKey (q :: qs) k = some q.2 := by simp [atKey, List.find?_cons, e']
      have a : valV (vx (p :: ps)) k = some p.2.2 := valV_pos (p := (p.1, p.2.2)) e
      rw [a, b]; exact h2
    · have e' : ¬ q.1 = k := fun z => e (h1.trans z)
      have b : atKey (q :: qs) k = atKey qs k := by simp [atKey, List.find?_cons, e']
      have a : valV (vx (p :: ps)) k = valV (vx ps) k := valV_neg (p := (p.1, p.2.2)) e
      rw [a, b]; exact ih
/-- in its place, or at the end -/
def putX (xs : List (NestedKey × Addr × L2.V)) (k : NestedKey) (b : Addr) (v : L2.V) : List (NestedKey × Addr × L2.V) :=
  if (xs.any fun x => decide (x.1 = k)) = true then xs.map (fun x => if x.1 = k then (x.1, x.2.1, v) else x) else xs ++ [(k, b, v)]
theorem PX.any {xs : List (NestedKey × Addr × L2.V)} {us : List (NestedKey × Addr × Value)} (r : PX xs us) (k : NestedKey) : (xs.any fun x => decide (x.1 = k)) = (atKey us k).isSome := by
  induction r with
  | nil => rfl
  | @cons p q ps qs h t ih =>
    rw [List.any_cons]
    by_cases e : p.1 = k
    · have e' : q.1 = k := h.1.symm.trans e
      simp [atKey, List.find?_cons, e', e]
    · have e' : ¬ q.1 = k := fun z => e (h.1.trans z)
      have b : atKey (q :: qs) k = atKey qs k := by simp [atKey, List.find?_cons, e']
      rw [b, decide_eq_false e, Bool.false_or]; exact ih
theorem PX.repl {xs : List (NestedKey × Addr × L2.V)} {us : List (NestedKey × Addr × Value)} (r : PX xs us) (k : NestedKey) {y : L2.V} {u : Value} (ry : RelV y u) :
    PX (xs.map fun x => if x.1 = k then (x.1, x.2.1, y) else x) (us.map (putAt k u)) := by
  induction r with
  | nil => exact .nil
  | @cons p q ps qs h t ih =>
    rw [List.map_cons, List.map_cons]
    refine .cons ?_ ih
    obtain ⟨h1, h2, h3⟩ := h
    unfold putAt
    by_cases e : p.1 = k
    · rw [if_pos e, if_pos (h1.symm.trans e)]; exact ⟨h1, h2, ry⟩
    · rw [if_neg e, if_neg (fun z => e (h1.trans z))]; exact ⟨h1, h2, h3⟩
theorem PX.put {xs : List (NestedKey × Addr × L2.V)} {us : List (NestedKey × Addr × Value)} (r : PX xs us) (k : NestedKey) {b : Addr} {y : L2.V} {u : Value} (ry : RelV y u) : PX (putX xs k b y) (storedH us k b u) := by
  unfold putX storedH
  rw [r.any k]
  by_cases q : (atKey us k).isSome = true
  · rw [if_pos q, if_pos q]; exact r.repl k ry
  · rw [if_neg q, if_neg q]; exact Paired.snoc r ⟨rfl, rfl, ry⟩
theorem PX.keys {xs : List (NestedKey × Addr × L2.V)} {us : List (NestedKey × Addr × Value)} (r : PX xs us) : xs.map (·.1) = us.map (·.1) := by
  induction r with
  | nil => rfl
  | cons h t ih => rw [List.map_cons, List.map_cons, ih, h.1]
theorem length_putX (xs : List (NestedKey × Addr × L2.V)) (k : NestedKey) (b : Addr) (v : L2.V) : (putX xs k b v).length ≤ xs.length + 1 := by
  unfold putX
  split
  · rw [List.length_map]; omega
  · rw [List.length_append, List.length_cons, List.length_nil]; omega
theorem PX.mem {xs : List (NestedKey × Addr × L2.V)} {us : List (NestedKey × Addr × Value)} (r : PX xs us) : ∀ u ∈ us, ∃ x ∈ xs, x.1 = u.1 ∧ x.2.1 = u.2.1 := by
  induction r with
  | nil => exact fun u hu => nomatch hu
  | @cons p q ps qs h t ih =>
    intro u hu
    rcases List.mem_cons.mp hu with e | e
    · subst e; exact ⟨p, List.mem_cons_self, h.1, h.2.1⟩
    · obtain ⟨x, h1, h2⟩ := ih u e; exact ⟨x, List.mem_cons_of_mem _ h1, h2⟩
section
variable {P : Program} {w : World} {H : Hp} {h : Heap} {a : Addr}
theorem dx_of {xs : List (NestedKey × Addr × L2.V)} {ep : Nat} (ok : HOk P w H h) (e : H a = some (dX w a xs ep)) (ks : KeysAt H xs) : xs.length ≤ sizeLine ∧ (a == sysModules) = false ∧ ∃ us, PX xs us ∧ h.DictOfH (nestedKind P w) a us := by
  obtain ⟨⟨z, y, nd, us, o, es, r, h1, h2, h3, h4⟩, _, _⟩ := (show ObjOk P w H h a (dX w a xs ep) from ok a _ e)
  refine ⟨z, y, us, r, o, es, ep, h1, h2, h3, h4, fun u hu => ?_, by rw [← PX.keys r]; exact nd⟩
  obtain ⟨x, hx, e1, e2⟩ := PX.mem r u hu
  obtain ⟨n, dp⟩ := ks x hx
  rw [← e1, ← e2]
  exact ⟨n.is ok rfl, dp⟩
theorem dx_nil {ep : Nat} (ok : HOk P w H h) (e : H a = some (dX w a [] ep)) : (a == sysModules) = false ∧ h.DictOf (mixKind P w) a [] := by
  obtain ⟨⟨z, y, nd, us, o, es, r, h1, h2, h3, h4⟩, _, _⟩ := (show ObjOk P w H h a (dX w a [] ep) from ok a _ e)
  cases r
  have he : es = #[] := by
    have : es.toList = [] := h4
    exact Array.toList_inj.mp (by simpa using this)
  subst he
  exact ⟨y, o, #[], ep, h1, h2, h3, fun e he => by simp at he, .nil, List.nodup_nil⟩
end
def isTupD : PyData → Bool
  | .tuple _ => true
  | _ => false
def plainD : PyData → Bool
  | .int _ => true
  | .str _ => true
  | _ => false
def deepD (k : PyData) : Bool := match nkey k with
  | some n => decide (n.depth ≤ 8)
  | none => false
def keyEqD (a b : PyData) : Bool := decide (nkey a = nkey b)
def dlook (ps : List (PyData × PyData)) (k : PyData) : Option PyData := (ps.find? fun p => keyEqD p.1 k).map (·.2)
def keyOk (ps : List (PyData × PyData)) (k : PyData) : Bool := (plainD k && ps.all fun p => plainD p.1) || (isTupD k && deepD k && ps.all fun p => isTupD p.1)
def dput (ps : List (PyData × PyData)) (k v : PyData) : List (PyData × PyData) := if (ps.any fun p => keyEqD p.1 k) = true then ps.map (fun p => if keyEqD p.1 k = true then (p.1, v) else p) else ps ++ [(k, v)]
/-- what stands at y in the dict at a -/
def DGX (w : World) (H : Hp) (a : Addr) (y : L2.V) (r : Option L2.V) : Prop :=
  (∃ kvs k, H a = some (.dK kvs) ∧ y = kV k ∧ r = valV kvs k) ∨
  (∃ xs ep k b, H a = some (dX w a xs ep) ∧ KeysAt H xs ∧ y = .ref b ∧ NAt H k (.ref b) ∧ k.depth ≤ 8 ∧ r = valV (vx xs) k) ∨
  ∃ ep k, H a = some (dX w a [] ep) ∧ y = kV k ∧ r = none
theorem keyD_nkey (k : Key) : nkey (keyD k) = some (match k with | .inl i => .num i | .inr x => .text x) := by
  cases k with
  | inl i => show nkey (.int i) = _; rw [nkey]
  | inr x => show nkey (.str x) = _; rw [nkey]
theorem keyEq_keyD (a b : Key) : keyEqD (keyD a) (keyD b) = decide (a = b) := by
  unfold keyEqD
  rw [keyD_nkey, keyD_nkey]
  cases a with
  | inl i => cases b with
    | inl j =>
      by_cases e : i = j
      · subst e; simp
      · rw [decide_eq_false (fun z => e (by injection z with z; injection z)), decide_eq_false (fun z => e (Sum.inl.inj z))]
    | inr y => rw [decide_eq_false (fun z => by injection z with z; cases z), decide_eq_false (fun z => nomatch z)]
  | inr x => cases b with
    | inl j => rw [decide_eq_false (fun z => by injection z with z; cases z), decide_eq_false (fun z => nomatch z)]
    | inr y =>
      by_cases e : x = y
      · subst e; simp
      · rw [decide_eq_false (fun z => e (by injection z with z; injection z)), decide_eq_false (fun z => e (Sum.inr.inj z))]
theorem plain_key {K : KW} {V : Hp} {y : L2.V} {k : PyData} (r : Rep K V y k) (h : plainD k = true) : ∃ q, k = keyD q ∧ y = kV q := by
  cases r with
  | int i => exact ⟨.inl i, rfl, rfl⟩
  | str x => exact ⟨.inr x, rfl, rfl⟩
  | _ => cases h
theorem RepK.look {K : KW} {V : Hp} (q : Key) : ∀ {kvs : List (Key × L2.V)} {ps : List (PyData × PyData)}, RepK K V kvs ps → (match dlook ps (keyD q) with | some d => ∃ v, valV kvs q = some v ∧ Rep K V v d | none => valV kvs q = none)
  | _, _, .nil => rfl
  | _, _, .cons (k := k) (v := v) (kvs := kvs) (d := d) (ps := ps) r t => by
    by_cases e : k = q
    · have a : dlook ((keyD k, d) :: ps) (keyD q) = some d := by
        unfold dlook; rw [List.find?_cons_of_pos (by show keyEqD (keyD k) (keyD q) = true; rw [keyEq_keyD, decide_eq_true e])]; rfl
      rw [a]
      exact ⟨v, valV_pos (p := (k, v)) e, r⟩
    · have a : dlook ((keyD k, d) :: ps) (keyD q) = dlook ps (keyD q) := by
        unfold dlook; rw [List.find?_cons_of_neg (by show ¬ keyEqD (keyD k) (keyD q) = true; rw [keyEq_keyD, decide_eq_false e]; exact Bool.false_ne_true)]
      have b : valV ((k, v) :: kvs) q = valV kvs q := valV_neg (p := (k, v)) e
      rw [a, b]
      exact RepK.look q t
theorem RepT.look {K : KW} {V : Hp} {kd : PyData} {q : NestedKey} (hq : nkey kd = some q) : ∀ {xs : List (NestedKey × Addr × L2.V)} {ps : List (PyData × PyData)}, RepT K V xs ps → (match dlook ps kd with | some d => ∃ v, valV (vx xs) q = some v ∧ Rep K V v d | none => valV (vx xs) q = none)
  | _, _, .nil => rfl
  | _, _, .cons (k := k) (b := b) (v := v) (xs := xs) (dk := dk) (d := d) (ps := ps) _ n _ r t => by
    have ek : keyEqD dk kd = decide (k = q) := by
      unfold keyEqD
      rw [n, hq]
      by_cases e : k = q
      · subst e; simp
      · rw [decide_eq_false e, decide_eq_false (fun z => e (Option.some.inj z))]
    by_cases e : k = q
    · have a : dlook ((dk, d) :: ps) kd = some d := by
        unfold dlook; rw [List.find?_cons_of_pos (by show keyEqD dk kd = true; rw [ek, decide_eq_true e])]; rfl
      rw [a]
      exact ⟨v, valV_pos (p := (k, v)) e, r⟩
    · have a : dlook ((dk, d) :: ps) kd = dlook ps kd := by
        unfold dlook; rw [List.find?_cons_of_neg (by show ¬ keyEqD dk kd = true; rw [ek, decide_eq_false e]; exact Bool.false_ne_true)]
      have c : valV (vx ((k, b, v) :: xs)) q = valV (vx xs) q := valV_neg (p := (k, v)) e
      rw [a, c]
      exact RepT.look hq t
theorem RepT.tups {K : KW} {V : Hp} : ∀ {xs : List (NestedKey × Addr × L2.V)} {ps : List (PyData × PyData)}, RepT K V xs ps → (ps.all fun p => plainD p.1) = true → xs = []
  | _, _, .nil, _ => rfl
  | _, _, .cons q n _ _ _, h => by
    rw [List.all_cons, Bool.and_eq_true] at h
    have h := h.1
    cases q <;> cases h
theorem RepK.plains {K : KW} {V : Hp} {kvs : List (Key × L2.V)} {ps : List (PyData × PyData)} (r : RepK K V kvs ps) (h : (ps.all fun p => isTupD p.1) = true) : ps = [] := by
  cases r with
  | nil => rfl
  | @cons k _ _ _ _ _ _ =>
    rw [List.all_cons, Bool.and_eq_true] at h
    have h := h.1
    cases k <;> cases h
/-- a key that is a tuple -/
theorem tup_key {K : KW} {V H : Hp} (s : Same V H) {y : L2.V} {k : PyData} (r : Rep K V y k) (h : isTupD k = true) (hd : deepD k = true) : ∃ q b, nkey k = some q ∧ y = .ref b ∧ NAt H q (.ref b) ∧ q.depth ≤ 8 := by
  unfold deepD at hd
  cases e : nkey k with
  | none => rw [e] at hd; cases hd
  | some q =>
    rw [e] at hd
    have nq := r.key s e
    cases r with
    | @tup b _ _ _ _ => exact ⟨q, b, rfl, rfl, nq, of_decide_eq_true hd⟩
    | _ => cases h
theorem Rep.look {K : KW} {V H : Hp} (s : Same V H) {a : Addr} {y : L2.V} {ps : List (PyData × PyData)} {k : PyData} (r : Rep K V (.ref a) (.dict ps)) (ry : Rep K V y k) (ok : keyOk ps k = true) : ∃ o, DGX K.w H a y o ∧ (match dlook ps k with | some d => ∃ v, o = some v ∧ Rep K V v d | none => o = none) := by
  rcases Bool.or_eq_true_iff.mp ok with ok | ok
  · obtain ⟨o1, o2⟩ := Bool.and_eq_true_iff.mp ok
    obtain ⟨q, rfl, rfl⟩ := plain_key ry o1
    cases r with
    | @dk _ kvs _ h rk n =>
      refine ⟨valV kvs q, .inl ⟨kvs, q, s _ _ h, rfl, rfl⟩, ?_⟩
      exact RepK.look q rk
    | @dt _ xs ep _ h rt =>
      have e := rt.tups o2
      subst e
      cases rt
      exact ⟨none, .inr (.inr ⟨ep, q, s _ _ h, rfl, rfl⟩), rfl⟩
  · obtain ⟨o12, o3⟩ := Bool.and_eq_true_iff.mp ok
    obtain ⟨o1, o2⟩ := Bool.and_eq_true_iff.mp o12
    obtain ⟨q, b, e1, rfl, nq, dq⟩ := tup_key s ry o1 o2
    cases r with
    | @dk _ kvs _ h rk n => exact absurd (rk.plains o3) n
    | @dt _ xs ep _ h rt => exact ⟨valV (vx xs) q, .inr (.inl ⟨xs, ep, q, b, s _ _ h, rt.keysAt s, rfl, nq, dq, rfl⟩), RepT.look e1 rt⟩
end DL
set_option Elab.async false
set_option linter.all false
set_option maxRecDepth 100000
set_option maxHeartbeats 1000000
namespace DL
open PySem PySem.Spec PyProof.Rows L2
variable [TabCtx]
section
variable {X : Cx} {pins : List (Addr × Obj)} {σ : St} {H : Hp} {s : Shared} {a : Addr} {y v : L2.V} {u r : Value} {o : Option L2.V} {A : Around} {E : Value → Shared → Prop}
theorem room8 (hu : A.units + 10 < cLine) : (nestedKind X.prog X.w).room A.in1 := by
  show A.units + 1 + 8 < cLine
  omega
theorem x_getItem {Q : Value → Shared → Prop} (hu : A.units + 10 < cLine) (I : L2.Inv X pins σ H s) (g : DGX X.w H a y (some v)) (ry : L2.RelV y u) (h : ∀ w' s', L2.Inv X pins σ H s' → L2.RelV v w' → Q w' s') :
    wpAny (model X.prog X.w) A (getItem (.ref a) u) Q E s := by
  rcases g with ⟨kvs, k, e, ey, l⟩ | ⟨xs, ep0, k, b, e, ks, ey, eb, dp, l⟩ | ⟨ep0, k, e, ey, l⟩
  · exact d_getItem (by omega) I (.inl ⟨kvs, k, .inl e, ey, l⟩) ry h
  · subst ey
    cases (show u = Value.ref b from ry)
    obtain ⟨z, hd, us, rel, dd⟩ := dx_of I.hok e ks
    obtain ⟨w', hw, rw'⟩ := RelO.some_of (v := v) (o := (atKey us k).map (·.2)) (by rw [l]; exact PX.val rel k)
    obtain ⟨p, hp, hp2⟩ := Option.map_eq_some_iff.mp hw
    refine wpAny_getItem_heap (room8 hu) ⟨eb.is I.hok rfl, dp⟩ dd hp ?_
    rw [hp2]
    exact h w' _ (I.tok _) rw'
  · cases l
theorem x_notIn {Q : Value → Shared → Prop} (hu : A.units + 10 < cLine) (I : L2.Inv X pins σ H s) (g : DGX X.w H a y o) (ry : L2.RelV y u) (h : ∀ s', L2.Inv X pins σ H s' → Q (.bool (!o.isSome)) s') :
    wpAny (model X.prog X.w) A (compareOp .NotIn u (.ref a)) Q E s := by
  rcases g with ⟨kvs, k, e, ey, l⟩ | ⟨xs, ep0, k, b, e, ks, ey, eb, dp, l⟩ | ⟨ep0, k, e, ey, l⟩
  · exact d_notIn (by omega) I (.inl ⟨kvs, k, .inl e, ey, l⟩) ry h
  · subst ey
    cases (show u = Value.ref b from ry)
    obtain ⟨z, hd, us, rel, dd⟩ := dx_of I.hok e ks
    refine wpAny_notIn_heap (room8 hu) ⟨eb.is I.hok rfl, dp⟩ hd dd ?_
    have q := (PX.val rel k).isSome_eq
    rw [Option.isSome_map] at q
    rw [← q, ← l]
    exact h _ (I.tok _)
  · subst ey l
    obtain ⟨hd, dd⟩ := dx_nil I.hok e
    refine wpAny_notIn_of (kV_is ry) hd dd.mapOf ?_
    exact h _ (I.tok _)
theorem x_get1 {Q : Value → Shared → Prop} (hu : A.units + 10 < cLine) (I : L2.Inv X pins σ H s) (g : DGX X.w H a y o) (ry : L2.RelV y u) (h : ∀ w' s', L2.Inv X pins σ H s' → L2.RelV (o.getD .non) w' → Q w' s') :
    wpAny (model X.prog X.w) A (call (.builtin "dict.get") [.ref a, u]) Q E s := by
  rcases g with ⟨kvs, k, e, ey, l⟩ | ⟨xs, ep0, k, b, e, ks, ey, eb, dp, l⟩ | ⟨ep0, k, e, ey, l⟩
  · exact d_get1 (by omega) I (.inl ⟨kvs, k, .inl e, ey, l⟩) ry h
  · subst ey
    cases (show u = Value.ref b from ry)
    obtain ⟨z, hd, us, rel, dd⟩ := dx_of I.hok e ks
    refine call_meetsIn PySem.F.slot_dict_get dd.typeIs PySem.F.entry_dict_get (PySem.F.args_dict_get_2 _ _) (meetsH_dict_get (nestedKind X.prog X.w) a b hd) ⟨room8 hu, k, us, ⟨eb.is I.hok rfl, dp⟩, dd, h _ _ (I.tok _) ?_⟩
    rw [l]
    exact (PX.val rel k).getD rfl
  · subst ey l
    obtain ⟨hd, dd⟩ := dx_nil I.hok e
    exact call_meetsIn PySem.F.slot_dict_get dd.typeIs PySem.F.entry_dict_get (PySem.F.args_dict_get_2 _ _) (meets_dict_get (mixKind X.prog X.w) a (kV_is ry) hd) ⟨_, dd.mapOf, h _ _ (I.tok _) rfl⟩
theorem x_get2 {d : L2.V} {Q : Value → Shared → Prop} (hu : A.units + 10 < cLine) (I : L2.Inv X pins σ H s) (g : DGX X.w H a y o) (ry : L2.RelV y u) (rd : L2.RelV d r) (h : ∀ w' s', L2.Inv X pins σ H s' → L2.RelV (o.getD d) w' → Q w' s') :
    wpAny (model X.prog X.w) A (call (.builtin "dict.get") [.ref a, u, r]) Q E s := by
  rcases g with ⟨kvs, k, e, ey, l⟩ | ⟨xs, ep0, k, b, e, ks, ey, eb, dp, l⟩ | ⟨ep0, k, e, ey, l⟩
  · exact d_get2 (by omega) I (.inl ⟨kvs, k, .inl e, ey, l⟩) ry rd h
  · subst ey
    cases (show u = Value.ref b from ry)
    obtain ⟨z, hd, us, rel, dd⟩ := dx_of I.hok e ks
    refine call_meetsIn PySem.F.slot_dict_get dd.typeIs PySem.F.entry_dict_get (PySem.F.args_dict_get_3 _ _ _) (meetsH_dict_get_default (nestedKind X.prog X.w) a b hd r) ⟨room8 hu, k, us, ⟨eb.is I.hok rfl, dp⟩, dd, h _ _ (I.tok _) ?_⟩
    rw [l]
    exact (PX.val rel k).getD rd
  · subst ey l
    obtain ⟨hd, dd⟩ := dx_nil I.hok e
    exact call_meetsIn PySem.F.slot_dict_get dd.typeIs PySem.F.entry_dict_get (PySem.F.args_dict_get_3 _ _ _) (meets_dict_get_default (mixKind X.prog X.w) a (kV_is ry) hd r) ⟨_, dd.mapOf, h _ _ (I.tok _) rd⟩
/-- a is a dict -/
def IsDX (w : World) (H : Hp) (a : Addr) : Prop := (∃ kvs, H a = some (.dK kvs)) ∨ ∃ xs ep, H a = some (dX w a xs ep)
theorem isDX_at (I : L2.Inv X pins σ H s) (d : IsDX X.w H a) :
    s.TypeIs (.ref a) "dict" ∧ (∀ b, Value.ref a = .ref b → ∃ ob, s.heap.get? b = some ob ∧ ob.dict = none) ∧ (a == sysModules) = false := by
  rcases d with ⟨kvs, e⟩ | ⟨xs, ep, e⟩
  · exact isD_at I (.inl ⟨kvs, .inl e⟩)
  · obtain ⟨⟨z, y, nd, us, o, es, r, h1, h2, h3, h4⟩, _, _⟩ := (show ObjOk X.prog X.w H s.heap a (dX X.w a xs ep) from I.hok a _ e)
    refine ⟨⟨o, h1, h2.1⟩, fun b q => ?_, y⟩
    cases q
    exact ⟨o, h1, h2.2.1⟩
theorem xok_stable {w : World} {xs : List (NestedKey × Addr × L2.V)} {ep : Nat} : ∀ h1 h2 : Heap, XOk w a xs ep h1 → (∀ o, h1.get? a = some o → h2.get? a = some o) → XOk w a xs ep h2 := by
  rintro h1 h2 ⟨z, y, nd, us, o, es, r, e1, e2, e3, e4⟩ k
  exact ⟨z, y, nd, us, o, es, r, k _ e1, e2, e3, e4⟩
theorem dx_new {P : Program} {w : World} {h' : Heap} {xs : List (NestedKey × Addr × L2.V)} {us : List (NestedKey × Addr × Value)} (z : xs.length ≤ sizeLine) (hd : (a == sysModules) = false) (rel : PX xs us) (dd : h'.DictOfH (nestedKind P w) a us) :
    ∃ ep, ∀ H' : Hp, ObjOk P w H' h' a (dX w a xs ep) := by
  obtain ⟨o, es, ep, h1, h2, h3, h4, _, h5⟩ := dd
  exact ⟨ep, fun H' => ⟨⟨z, hd, by rw [PX.keys rel]; exact h5, us, o, es, rel, h1, h2, h3, h4⟩, ⟨o, h1⟩, xok_stable⟩⟩
/-- the heap behind a[y] = v -/
def DPX (w : World) (H : Hp) (a : Addr) (y v : L2.V) (H' : Nat → Hp) : Prop :=
  (∃ kvs k, H a = some (.dK kvs) ∧ y = kV k ∧ kvs.length < sizeLine ∧ H' = fun _ => upd H a (.dK (putK kvs k v))) ∨
  (∃ xs ep k b, H a = some (dX w a xs ep) ∧ KeysAt H xs ∧ y = .ref b ∧ NAt H k (.ref b) ∧ k.depth ≤ 8 ∧ xs.length < sizeLine ∧ H' = fun ep => upd H a (dX w a (putX xs k b v) ep)) ∨
  ∃ ep k, H a = some (dX w a [] ep) ∧ y = kV k ∧ H' = fun _ => upd H a (.dK [(k, v)])
theorem x_setItem {H' : Nat → Hp} {Q : Unit → Shared → Prop} (hu : A.units + 10 < cLine) (I : L2.Inv X pins σ H s) (g : DPX X.w H a y v H') (ry : L2.RelV y u) (rv : L2.RelV v r) (h : ∀ ep s', L2.Inv X pins σ (H' ep) s' → Q () s') :
    wpAny (model X.prog X.w) A (setItem (.ref a) u r) Q E s := by
  rcases g with ⟨kvs, k, e, ey, l, eH⟩ | ⟨xs, ep0, k, b, e, ks, ey, eb, dp, l, eH⟩ | ⟨ep0, k, e, ey, eH⟩
  · exact d_setItem (by omega) I (.inl ⟨kvs, k, e, ey, l, rfl⟩) ry rv fun s' J => h 0 s' (by rw [eH]; exact J)
  · subst ey eH
    cases (show u = Value.ref b from ry)
    obtain ⟨z, hd, us, rel, dd⟩ := dx_of I.hok e ks
    have hz : us.length ≤ sizeLine := by rw [← Paired.length rel]; exact z
    have hl : (putX xs k b v).length ≤ sizeLine := by have := length_putX xs k b v; omega
    refine wpAny_setItem_heap (hsz := hz) (room8 hu) ⟨eb.is I.hok rfl, dp⟩ dd fun h' dd' hs => ?_
    obtain ⟨q, es, ep, hq, _⟩ := id dd'
    obtain ⟨ep1, ob1⟩ := dx_new hl hd (PX.put rel k rv) dd'
    exact h ep1 _ (d_write I (by rw [e]; exact True.intro) hs ⟨q, hq⟩ (ob1 _))
  · subst ey eH
    obtain ⟨hd, dd⟩ := dx_nil I.hok e
    refine wpAny_setItem_pairs (hsz := Nat.zero_le _) (kV_is ry) dd fun h' dd' hs => h 0 _ ?_
    have he : ∃ q, h'.get? a = some q := let ⟨q, _, _, hq, _⟩ := dd'; ⟨q, hq⟩
    exact d_write I (by rw [e]; exact True.intro) hs he (dk_new (by show 1 ≤ sizeLine; decide) hd (.cons ⟨rfl, rv⟩ .nil) dd')
end
end DL
set_option Elab.async false
set_option linter.all false
set_option maxRecDepth 100000
set_option maxHeartbeats 1000000
namespace DL
open PySem PySem.Spec PyProof.Rows L2
variable [TabCtx]
def HidV (K : KW) (H0 V' H' : Hp) (v : L2.V) (d : PyData) : Prop := ∃ a, v = .ref a ∧ V' a = none ∧ H0 a = none ∧ OwnAt K V' H' a d
def GoalF (K : KW) (F : Fr) (σ : St) (ρ : Rho) (H V : Hp) (r : R (PyData × Rho)) (Q : VK) : Prop := match r with
  | .ok (d, ρ') => ∀ v H' V', Stp K F σ ρ ρ' H V H' V' → HidV K H V' H' v d → Q v H'
  | .exc c => ∀ H' V', Ext F.H0 F.V0 H' V' → F.W (.ref (He.ga K c)) σ H'
  | .bad => False
def GoalR (K : KW) (F : Fr) (σ : St) (H V : Hp) (Q : VK) : R PyData → Prop
  | .ok d => ∀ v H' V', Ext H V H' V' → HidV K H V' H' v d → Q v H'
  | .exc c => ∀ H' V', Ext F.H0 F.V0 H' V' → F.W (.ref (He.ga K c)) σ H'
  | .bad => False
def tMF (K : KW) (F : Fr) (f : M PyData) : TE := fun σ H Q => ∃ V ρ, EnvR K F H V σ ρ ∧ GoalF K F σ ρ H V (f ρ) Q
def PMF (X : Cx) (F : Fr) (e : Expr) (f : M PyData) : Prop := PE X e (tMF X.kw F f)
section
variable {K : KW} {F : Fr} {σ : St} {ρ ρ1 : Rho} {H V H1 V1 : Hp} {Q : VK}
theorem GoalF.after {r : R (PyData × Rho)} (st : Stp K F σ ρ ρ1 H V H1 V1) (g : GoalF K F σ ρ H V r Q) : GoalF K F σ ρ1 H1 V1 r Q := by
  cases r with
  | ok p =>
    intro v H' V' s hv
    obtain ⟨a, e, h1, h2, h3⟩ := hv
    refine g v H' V' (st.trans s) ⟨a, e, h1, ?_, h3⟩
    cases q : H a with
    | none => rfl
    | some o => exact absurd h2 (st.th a (by rw [q]; exact fun z => nomatch z))
  | exc c => exact g
  | bad => exact g
theorem GoalF.bind {α β : Type} {rep1 : Hp → β → α → Prop} {f : M α} {k : α → M PyData} {Q1 : β → Hp → Prop} (g : GoalF K F σ ρ H V (M.bind f k ρ) Q)
    (h : ∀ b a H' V' ρ', Stp K F σ ρ ρ' H V H' V' → rep1 V' b a → GoalF K F σ ρ' H' V' (k a ρ') Q → Q1 b H') : Goal K F σ ρ H V rep1 (f ρ) Q1 := by
  unfold M.bind at g
  cases e : f ρ with
  | ok p =>
    obtain ⟨a, ρ'⟩ := p
    rw [e] at g
    exact fun b H' V' st r => h b a H' V' ρ' st r (GoalF.after st g)
  | exc c => rw [e] at g; exact g
  | bad => rw [e] at g; exact g
theorem GoalF.opt {o : Option PyData} (E : EnvR K F H V σ ρ) (g : GoalF K F σ ρ H V (M.opt o ρ) Q) : ∃ z, o = some z ∧ ∀ v H' V', Ext H V H' V' → HidV K H V' H' v z → Q v H' := by
  cases o with
  | none => exact False.elim g
  | some z => exact ⟨z, rfl, fun v H' V' e r => g v H' V' (E.step e) r⟩
theorem GoalF.lift {m : R PyData} (E : EnvR K F H V σ ρ) (g : GoalF K F σ ρ H V (M.lift m ρ) Q) : GoalR K F σ H V Q m := by
  cases m with
  | ok d => exact fun v H' V' e r => g v H' V' (E.step e) r
  | exc c => exact g
  | bad => exact g
theorem GoalF.ex {f : M PyData} {k : PyData → SM} {D : Ends} {Q1 : VK} (g : GoalS K F V (exO f k ρ) D)
    (h : ∀ v d H' V' ρ', Stp K F σ ρ ρ' H V H' V' → HidV K H V' H' v d → GoalS K F V' (k d ρ') D → Q1 v H') : GoalF K F σ ρ H V (f ρ) Q1 := by
  unfold exO at g
  cases e : f ρ with
  | ok p =>
    obtain ⟨a, ρ'⟩ := p
    rw [e] at g
    exact fun b H' V' st r => h b a H' V' ρ' st r (GoalS.mono st.v g)
  | exc c => rw [e] at g; exact fun H' V' x => g σ H' V' x
  | bad => rw [e] at g; exact g
theorem Stp.notOwn (E : EnvR K F H V σ ρ) (st : Stp K F σ ρ ρ1 H V H1 V1) {a : Addr} (h : H a = none) : ¬ IsOwn σ ρ1 a := fun z => by
  obtain ⟨i, d, q1, q2⟩ := st.own a z
  obtain ⟨b, w1, w2, w3, w4⟩ := E.ow i d q1
  rw [q2] at w1
  cases w1
  obtain ⟨o, q5, _⟩ := w4.there
  rw [h] at q5
  cases q5
theorem OwnAt.show {a : Addr} {d : PyData} (o : OwnAt K V H a d) (hv : V a = none) : ∃ u, H a = some u ∧ Rep K (upd V a u) (.ref a) d := by
  have sv : ∀ u, Same V (upd V a u) := fun u => same_new hv
  cases d with
  | list ds => obtain ⟨vs, e, r⟩ := o; exact ⟨_, e, .lst upd_same (r.mono (sv _))⟩
  | dict ps =>
    rcases o with ⟨kvs, e, r, n⟩ | ⟨xs, ep, e, r⟩
    · exact ⟨_, e, .dk upd_same (r.mono (sv _)) n⟩
    · exact ⟨_, e, .dt upd_same (r.mono (sv _))⟩
  | _ => exact o.elim
/-- a hidden thing comes to be seen -/
theorem Stp.show (E : EnvR K F H V σ ρ) (st : Stp K F σ ρ ρ1 H V H1 V1) {a : Addr} {u : HO} (h0 : H a = none) (h1 : V1 a = none) (h2 : H1 a = some u) : Stp K F σ ρ ρ1 H V H1 (upd V1 a u) := by
  have sv : Same V1 (upd V1 a u) := same_new h1
  refine ⟨st.env.show h2 h1 (E.ext.free h0) (st.notOwn E h0), st.v.trans sv, st.keep, st.own, st.shs, fun b q1 q2 => ?_, st.th⟩
  rw [upd_ne (fun z => q2 (by rw [z]; exact h0))]
  exact st.f b q1 q2
theorem EnvR.setHid (E : EnvR K F H V σ ρ) {i : Nat} {p : Addr} {d : PyData} (hv : V p = none) (h0 : F.H0 p = none) (hn : ¬ IsOwn σ ρ p) (r : OwnAt K V H p d) (hl : i ≠ F.ls ∨ F.lent = none) : EnvR K F H V (σ.set i (some (.ref p))) (ρ.set i (.ow d)) := by
  have hlen := E.len
  refine ⟨by simp [hlen], E.ext, fun j e h => ?_, fun j e h => ?_, fun j k a e e' h1 h2 h3 h4 => ?_, fun a ha => ?_, E.tab⟩
  · rcases getElem_set_some h with ⟨_, q, _⟩ | ⟨n, q⟩
    · cases q
    · rw [List.getElem?_set_ne n]; exact E.sh j e q
  · rcases getElem_set_some h with ⟨rfl, q, hi⟩ | ⟨n, q⟩
    · cases q
      exact ⟨p, List.getElem?_set_self (by omega), hv, h0, r⟩
    · rw [List.getElem?_set_ne n]; exact E.ow j e q
  · rcases getElem_set_some h1 with ⟨rfl, _, _⟩ | ⟨n1, q1⟩
    · rcases getElem_set_some h2 with ⟨rfl, _, _⟩ | ⟨n2, q2⟩
      · rfl
      · rcases getElem_set_some h3 with ⟨_, q3, _⟩ | ⟨n3, _⟩
        · rcases getElem_set_some h4 with ⟨z, _, _⟩ | ⟨_, q4⟩
          · exact absurd z n2
          · exact absurd ⟨k, _, q2, by rw [q4, ← q3]⟩ hn
        · exact absurd rfl n3
    · rcases getElem_set_some h2 with ⟨rfl, _, _⟩ | ⟨n2, q2⟩
      · rcases getElem_set_some h4 with ⟨_, q4, _⟩ | ⟨n3, _⟩
        · rcases getElem_set_some h3 with ⟨z, _, _⟩ | ⟨_, q3⟩
          · exact absurd z n1
          · exact absurd ⟨j, _, q1, by rw [q3, ← q4]⟩ hn
        · exact absurd rfl n3
      · rw [List.getElem?_set_ne n1] at h3
        rw [List.getElem?_set_ne n2] at h4
        exact E.dis j k a e e' q1 q2 h3 h4
  · rcases hl with hl | hl
    · rw [List.getElem?_set_ne hl]; exact E.lent a ha
    · rw [hl] at ha; cases ha
end
section
variable {X : Cx} {F : Fr} {e k : Expr} {es : List Expr} {fa fk : M PyData} {fs : M (List PyData)} {pos : Pos}
theorem PMF.pm (h : PMF X F e fa) : PM X F e fa := by
  refine PE.imp h fun σ H Q ⟨V, ρ, E, g⟩ => ⟨V, ρ, E, ?_⟩
  cases ef : fa ρ with
  | exc c => rw [ef] at g; exact g
  | bad => rw [ef] at g; exact g
  | ok pr =>
    obtain ⟨d, ρ'⟩ := pr
    rw [ef] at g
    intro v H' V' st hv
    obtain ⟨a, rfl, h1, h2, h3⟩ := hv
    obtain ⟨u, q1, q2⟩ := h3.show h1
    exact g _ H' _ (st.show E h2 h1 q1) q2
/-- x = e, e a new thing, x keeps it alone -/
def ownFO (i : Nat) (a : M PyData) : SM := exO a fun d ρ => .nx (ρ.set i (.ow d))
theorem pms_ownF (i : Nat) {x : Str} {pos' : Pos} (he : PMF X F e fa) (hN : X.N.Nodup) (hi : X.N[i]? = some x := by rfl) (hx : Loc X.env.scope x := by first | exact Or.inl rfl | exact Or.inr rfl) (hl : i ≠ F.ls ∨ F.lent = none := by first | exact Or.inr rfl | exact Or.inl (ne_ls rfl))
    (hs : swapsWith e (some (.Name x pos')) pos.line X.env = pure false := by rfl) (hf : X.fn x = true ∨ X.env.scope.names.lookup x = some .local := by first | exact .inl rfl | exact .inr rfl | assumption) :
    PMS X F (.Assign [.Name x pos'] e pos) (ownFO i fa) := by
  refine PS.imp (ps_set hN hi hx he hs hf) fun D σ H ⟨V, ρ, E, g⟩ => ⟨V, ρ, E, GoalF.ex g fun v d H1 V1 ρ1 st1 hv g1 => ?_⟩
  obtain ⟨a, rfl, h1, h2, h3⟩ := hv
  exact g1 _ _ _ (st1.env.setHid h1 (E.ext.free h2) (st1.notOwn E h2) h3 hl) (Same.refl _)
theorem pmf_lst {posl : Pos} (ha : PMA X F es fs) : PMF X F (.List es posl) (opA gLstD fs) := by
  refine PE.imp (pe_lst ha) fun σ H Q ⟨V, ρ, E, g0⟩ => ⟨V, ρ, E, GoalF.bind g0 fun xs ds H1 V1 ρ1 st1 r1 g1 => ?_⟩
  obtain ⟨z, ez, q⟩ := GoalF.opt st1.env g1
  unfold gLstD at ez
  split at ez
  · rename_i hl
    cases ez
    exact ⟨by rw [r1.length]; exact Nat.le_trans hl lim_le, fun p hp => q _ _ _ (Ext.hid st1.env.sub hp) ⟨p, rfl, st1.env.sub.free hp, hp, xs, upd_same, r1⟩⟩
  · cases ez
def tDNewX (w : World) : TE := fun _ H Q => ∀ p ep, H p = none → Q (.ref p) (upd H p (dX w p [] ep))
theorem pe_dnewX : PE X (.Dict [] [] pos) (tDNewX X.w) := ⟨fun pins s σ H Q I h => by
  obtain ⟨ep, ob⟩ := dx_new (P := X.prog) (w := X.w) (Nat.zero_le _) (beq_eq_false_iff_ne.mpr (Ne.symm (Nat.ne_of_lt I.big))) .nil (Heap.DictOfH.new s.heap)
  exact wpAny_Dict_empty ⟨.ref s.heap.objs.size, _, I.laid (a := s.heap.objs.size) (o := dX X.w s.heap.objs.size [] ep) (t' := s.toks) (fun _ _ q => Heap.get?_push_of_some _ q) (Nat.le_refl _) (ob _), rfl, h _ ep (I.hok.fresh (Nat.le_refl _))⟩⟩
theorem pmf_dnew : PMF X F (.Dict [] [] pos) (cD (.dict [])) := by
  refine PE.imp pe_dnewX fun σ H Q ⟨V, ρ, E, g0⟩ p ep hp => ?_
  exact g0 _ _ _ (E.step (Ext.hid E.sub hp)) ⟨p, rfl, E.sub.free hp, hp, .inr ⟨[], ep, upd_same, .nil⟩⟩
theorem pm_dnew : PM X F (.Dict [] [] pos) (cD (.dict [])) := pmf_dnew.pm
end
end DL
set_option Elab.async false
set_option linter.all false
set_option maxRecDepth 100000
set_option maxHeartbeats 1000000
namespace DL
open PySem PySem.Spec PyProof.Rows L2
variable [TabCtx]
def gCutL (lo hi : Option Int) : PyData → Option PyData
  | .list ds => some (.list (cutD ds lo hi))
  | _ => none
def slcL (a : M PyData) (lo hi : M (Option Int)) : M PyData := M.bind a fun x => M.bind lo fun l => M.bind hi fun h => M.opt (gCutL l h x)
/-- the list is done, and not seen yet -/
theorem LI.hid {K : KW} {F : Fr} {vs : List Nat} {σ : St} {ρ1 ρ' : Rho} {H1 V1 H' V' : Hp} {D : Addr} {ys : List L2.V} {acc : List PyData} (E : EnvR K F H1 V1 σ ρ1) (I : LI K F vs σ ρ1 H1 V1 D (L2.wipe σ vs) (wipeR ρ' vs) H' V' ys acc) (hv : ∀ i ∈ vs, isOw ρ1[i]? = false) :
    Stp K F σ ρ1 (resR ρ1 ρ' vs) H1 V1 H' V' ∧ V' D = none ∧ H' D = some (.lst ys) := by
  refine ⟨⟨E.restore I.env I.sv hv, I.sv, I.kp, fun b h => ?_, fun j d q => ?_, I.fr, I.th⟩, I.vD, I.hD⟩
  · obtain ⟨j, d, h1, h2⟩ := h
    have nj := resR_ow hv h1
    rw [resR_out nj] at h1
    exact I.ho b ⟨j, d, by rw [wipeR_out nj]; exact h1, by rw [wipe_outL nj]; exact h2⟩
  · by_cases hj : j ∈ vs
    · by_cases hl : j < ρ'.length
      · rw [resR_in hj hl] at q
        have h' : ρ1.getD j .no = .sh d := Option.some.inj q
        rw [List.getD_eq_getElem?_getD] at h'
        cases q' : ρ1[j]? with
        | none => rw [q'] at h'; cases h'
        | some s =>
          rw [q'] at h'
          have h' : s = .sh d := h'
          rw [h']
      · rw [List.getElem?_eq_none (by rw [resR_len]; omega)] at q; cases q
    · rw [resR_out hj] at q
      exact I.sh j d hj (by rw [wipeR_out hj]; exact q)
section
variable {X : Cx} {F : Fr}
theorem lcF_run {vs : List Nat} {l : R (List PyData × Rho)} {K : KW} {σ : St} {ρ1 : Rho} {H1 V1 : Hp} {Q : VK} (g1 : GoalF K F σ ρ1 H1 V1 (if (vs.any fun i => isOw ρ1[i]?) = true then .bad else (match l with
      | .ok (acc, ρ') => .ok (.list acc, resR ρ1 ρ' vs)
      | _ => .bad)) Q) : ∃ acc ρ', l = .ok (acc, ρ') ∧ (∀ i ∈ vs, isOw ρ1[i]? = false) ∧ ∀ b H' V', Stp K F σ ρ1 (resR ρ1 ρ' vs) H1 V1 H' V' → HidV K H1 V' H' b (.list acc) → Q b H' := by
  by_cases hany : (vs.any fun i => isOw ρ1[i]?) = true
  · rw [if_pos hany] at g1
    exact False.elim g1
  · rw [if_neg hany] at g1
    have hv : ∀ i ∈ vs, isOw ρ1[i]? = false := fun i hi => by
      cases q : isOw ρ1[i]? with
      | false => rfl
      | true => exact absurd (List.any_eq_true.mpr ⟨i, hi, q⟩) hany
    cases l with
    | exc c => exact False.elim g1
    | bad => exact False.elim g1
    | ok pr =>
      obtain ⟨acc, ρ'⟩ := pr
      exact ⟨acc, ρ', rfl, hv, g1⟩
theorem lcF_of {K : KW} {vs is : List Nat} {fi : M (List PyData)} {g : GM} {ft : M Bool} {fe : M PyData} (his : ∀ i ∈ is, i ∈ vs) (hl : F.ls ∉ vs ∨ F.lent = none) {σ : St} {H : Hp} {Q : VK} (h : tMF K F (lcM vs fi g ft fe) σ H Q) :
    tLc (tI K F fi) (tGM K F.nox is g) (tMT K F.nox ft) (tM K F.nox fe) vs σ H Q := by
  obtain ⟨V, ρ, E, g0⟩ := h
  refine ⟨V, ρ, E, GoalF.bind g0 fun J ds H1 V1 ρ1 st1 it g1 => fun D hD => ?_⟩
  obtain ⟨acc, ρ', hL, hv, q⟩ := lcF_run g1
  refine ⟨fun i m H' => m = ds.length - i ∧ i ≤ ds.length ∧ ∃ V' ρc ys accd, LI K F vs σ ρ1 H1 V1 D (L2.wipe σ vs) (wipeR ρc vs) H' V' ys accd ∧ lcLoop vs g ft fe (ds.drop i) ρc accd = .ok (acc, ρ'),
    ⟨ds.length, rfl, Nat.zero_le _, V1, ρ1, [], [], (LI.start st1.env hD).wipe vs hl, hL⟩, ?_⟩
  rintro i m H' ⟨rfl, hle, V', ρc, ys, accd, I, hE⟩
  obtain ⟨i1, i2⟩ := it i H' V' I.sv I.env.sub
  by_cases hlt : i < ds.length
  · obtain ⟨go, yl⟩ := i1 _ (List.getElem?_eq_getElem hlt)
    rw [List.drop_eq_getElem_cons hlt] at hE
    refine .inr ⟨go, fun H2 => ∃ V' ρc ys accd, LI K F vs σ ρ1 H1 V1 D (L2.wipe σ vs) (wipeR ρc vs) H2 V' ys accd ∧ lcLoop vs g ft fe (ds.drop (i + 1)) ρc accd = .ok (acc, ρ'), fun H2 h => ⟨ds.length - (i + 1), by omega, rfl, hlt, h⟩, fun x H2 y => ?_⟩
    obtain ⟨V2, x2, r2⟩ := yl x H2 y
    have I2 := I.ext x2
    refine ⟨V2, wipeR ρc vs, ds[i], I2.env.nox, r2, ?_⟩
    unfold lcLoop at hE
    cases eg : g ds[i] (wipeR ρc vs) with
    | exc c => rw [eg] at hE; cases hE
    | bad => rw [eg] at hE; cases hE
    | ok ρ3 =>
      rw [eg] at hE
      intro σ3 H3 V3 E3 x3 w3 o3 p3
      have ew : L2.wipe σ3 vs = L2.wipe σ vs := (w3 vs his).trans (wipe_wipe σ vs)
      have I3 := I2.tgt E3.unnox x3 o3 p3 his
      refine ⟨ew, V3, ρ3, E3, ?_⟩
      have hE : (match ft ρ3 with
        | .ok (true, ρ2) => (match fe ρ2 with
          | .ok (y, ρ3) => if accd.length < LIM then lcLoop vs g ft fe (ds.drop (i + 1)) ρ3 (accd ++ [y]) else .bad
          | _ => .bad)
        | .ok (false, ρ2) => lcLoop vs g ft fe (ds.drop (i + 1)) ρ2 accd
        | _ => .bad) = .ok (acc, ρ') := hE
      show Goal K F.nox σ3 ρ3 H3 V3 (fun _ (b : Bool) a => b = a) (ft ρ3) _
      cases et : ft ρ3 with
      | exc c => rw [et] at hE; cases hE
      | bad => rw [et] at hE; cases hE
      | ok pt =>
        obtain ⟨bt, ρ4⟩ := pt
        rw [et] at hE
        intro b' H4 V4 st4 eb
        subst eb
        have I4 := I3.stp st4.unnox
        cases b' with
        | false =>
          show if false = true then _ else _
          rw [if_neg Bool.false_ne_true]
          have I5 := I4.wipe vs hl
          rw [ew] at I5
          exact ⟨V4, ρ4, ys, accd, I5, hE⟩
        | true =>
          rw [if_pos rfl]
          refine ⟨V4, ρ4, st4.env, ?_⟩
          have hE : (match fe ρ4 with
            | .ok (y, ρ3) => if accd.length < LIM then lcLoop vs g ft fe (ds.drop (i + 1)) ρ3 (accd ++ [y]) else .bad
            | _ => .bad) = .ok (acc, ρ') := hE
          cases ee : fe ρ4 with
          | exc c => rw [ee] at hE; cases hE
          | bad => rw [ee] at hE; cases hE
          | ok pe =>
            obtain ⟨yd, ρ5⟩ := pe
            rw [ee] at hE
            have hE : (if accd.length < LIM then lcLoop vs g ft fe (ds.drop (i + 1)) ρ5 (accd ++ [yd]) else .bad) = .ok (acc, ρ') := hE
            intro yv H5 V5 st5 ry
            by_cases hlm : accd.length < LIM
            · rw [if_pos hlm] at hE
              have I5 := I4.stp st5.unnox
              have I6 := (I5.app ry).wipe vs hl
              rw [ew] at I6
              exact ⟨ys, I5.hD, by rw [I5.rl.length]; exact Nat.lt_trans hlm lim_lt, V5, ρ5, _, _, I6, hE⟩
            · rw [if_neg hlm] at hE; cases hE
  · have ei : i = ds.length := by omega
    subst ei
    rw [List.drop_length] at hE
    have hE : R.ok (accd, ρc) = R.ok (acc, ρ') := hE
    injection hE with hE
    injection hE with ea er
    subst ea er
    obtain ⟨s1, s2, s3⟩ := LI.hid st1.env I hv
    exact .inl ⟨i2 rfl, q _ _ _ s1 ⟨D, rfl, s2, hD, ys, s3, I.rl⟩⟩
theorem pmf_lc {elt tg iter : Expr} {ifs : List Expr} {scope : Scope} {pos : Pos} {fi : M (List PyData)} {is : List Nat} {g : GM} {ft : M Bool} {fe : M PyData} (own : List (Str × Nat)) (hi : PMI X F tg iter fi) (ok : BlkOk X.N X.env.scope scope own) (hN : X.N.Nodup)
    (hg : Blk X scope fun Y => PMG Y F.nox tg is g) (ht : Blk X scope fun Y => PMTs Y F.nox ifs ft) (he : Blk X scope fun Y => PM Y F.nox elt fe)
    (his : ∀ i ∈ is, i ∈ own.map (·.2) := by decide) (hl : F.ls ∉ own.map (·.2) ∨ F.lent = none := by first | exact Or.inr rfl | exact Or.inl (nm_ls rfl)) (hc : X.calm = true := by rfl) (hs : ∀ x, foldedSetIterable iter X.env x = pure x := by intro _; rfl) :
    PMF X F (.ListComp elt [⟨tg, iter, ifs, 0⟩] scope pos) (lcM (own.map (·.2)) fi g ft fe) :=
  PE.imp (pe_lc (g := tGM X.kw F.nox is g) (tt := tMT X.kw F.nox ft) (te := tM X.kw F.nox fe) hc hN hi ok hg ht he hs) fun _ _ _ h => lcF_of his hl h
/-- a slice of a list -/
theorem pmf_slice {e : Expr} {fa : M PyData} {fl fh : M (Option Int)} {lo hi : Option Expr} {p2 pos : Pos} (he : PM X F e fa) (hl : PMO X F lo fl) (hh : PMO X F hi fh) : PMF X F (.Subscript e (.Slice lo hi none p2) pos) (slcL fa fl fh) := by
  refine PE.imp (pe_slice sl_list he hl hh) fun σ H Q ⟨V, ρ, E, g0⟩ => ⟨V, ρ, E, GoalF.bind g0 fun x dx H1 V1 ρ1 st1 r1 g1 =>
    ⟨V1, ρ1, st1.env, GoalF.bind g1 fun l l' H2 V2 ρ2 st2 r2 g2 => ⟨V2, ρ2, st2.env, GoalF.bind g2 fun h h' H3 V3 ρ3 st3 r3 g3 => ?_⟩⟩⟩
  subst r2 r3
  obtain ⟨z, ez, q⟩ := GoalF.opt st3.env g3
  have rx := (r1.mono st2.v).mono st3.v
  have s := st3.env.sub
  cases rx with
  | @lst a xs ds ha ra =>
    cases ez
    exact ⟨a, xs, rfl, .inl (.inl (s _ _ ha)), fun p hp => q _ _ _ (Ext.hid s hp) ⟨p, rfl, s.free hp, hp, _, upd_same, cut_rep ra l h⟩⟩
  | _ => cases ez
end
end DL
set_option Elab.async false
set_option linter.all false
set_option maxRecDepth 100000
set_option maxHeartbeats 1000000
namespace DL
open PySem PySem.Spec PyProof.Rows L2
variable [TabCtx]
section
variable {X : Cx} {F : Fr} {e : Expr} {fa : M PyData} {pos : Pos}
def retF (a : M PyData) : SM := exO a fun d ρ => .rf d ρ
theorem pms_retF (h : PMF X F e fa) (hl : F.lent = none := by rfl) : PMS X F (.Return (some e) pos) (retF fa) :=
  PS.imp (ps_ret h) fun D σ H ⟨V, ρ, E, g⟩ => ⟨V, ρ, E, GoalF.ex g fun v d H1 V1 ρ1 st1 hv g1 => by
    obtain ⟨a, rfl, h1, h2, h3⟩ := hv
    obtain ⟨u, q1, q2⟩ := h3.show h1
    exact g1 _ σ H1 _ (st1.show E h2 h1 q1).env (same_new h1) q2 fun p hp => by
      cases hp
      exact ⟨E.ext.free h2, by rw [hl]; exact fun z => nomatch z⟩⟩
end
def fnRunF (k n : Nat) (f : SM) (ds : List PyData) : R PyData := if ds.length = k then (match f (start0 n ds) with
  | .rf d _ => .ok d
  | .exc c => .exc c
  | _ => .bad) else .bad
def spFF (K : KW) (n : Nat) (m : List PyData → R PyData) : Sp := fun vs H Q E => vs.length = n ∧ ∃ V ds, TabV H V ∧ Same V H ∧ RepL K V vs ds ∧ match m ds with
  | .ok d => ∀ v H' V', Ext H V H' V' → Rep K V' v d → (∀ p, v = .ref p → H p = none) → Q v H'
  | .exc c => ∀ H' V', Ext H V H' V' → E (.ref (He.ga K c)) none H'
  | .bad => False
def FnF (P : Program) (w : World) (K : PySem.W.Frag) (mg : Str → Option Value) (base : Heap) (lvl : Nat) (x : Str) (ps : List Str) (m : List PyData → R PyData) : Prop :=
  ∃ fd, FnOk P w K mg base (L2N.CX P w) lvl (He.ga K x) fd ps (spFF ⟨K, w⟩ ps.length m) ∧ Binds K fd ps [] ∧ PySem.W.keepIn K (.ref (He.ga K x)) = true ∧ mg x = some (.ref (He.ga K x)) ∧ ∀ ds, m ds ≠ .bad → ds.length = ps.length
section
variable {P : Program} {w : World} {K : PySem.W.Frag} {mg : Str → Option Value} {base : Heap} {x : Str} {params : Arguments} {body : List Stmt} {scope : Scope} {fd : FuncData}
theorem FnF.fnD {lvl : Nat} {ps : List Str} {m : List PyData → R PyData} (F : FnF P w K mg base lvl x ps m) : FnD P w K mg base lvl x ps m := by
  obtain ⟨fd, h1, h2⟩ := F
  refine ⟨fd, ⟨fun vs H Q E h => h.1, fun A outer s H args us vs Q E hr he hb hv hs => h1.run A outer s H args us vs Q E hr he hb hv ?_⟩, h2⟩
  obtain ⟨hl, V, ds, ht, sv, r, g⟩ := hs
  refine ⟨hl, V, ds, ht, sv, r, ?_⟩
  cases em : m ds with
  | ok d => rw [em] at g; exact fun v H' V' x r _ => g v H' V' x r
  | exc c => rw [em] at g; exact g
  | bad => rw [em] at g; exact g
theorem fn_mkF {N ps : List Str} {k : Nat} {f : SM} (D : FunD K x x params body scope [] [] (He.ga K x) fd) (hx : mg x = some (.ref (He.ga K x))) (S : FnScope N ps scope)
    (hbd : ∀ (kV doc pm : Value) (an : Option Addr) (cdv ct : Value) (us : List Value), us.length = ps.length → bindArgs (PySem.W.fnOf x x params body scope .none kV doc pm an cdv ct) ⟨us, []⟩ = pure (ps.zip us))
    (hps : ps.length ≤ N.length)
    (hb : ∀ (cdv : Value) (A : Around) (outer : List Env) (s : Shared) (H V : Hp) (E : XK), Room k (A.deeper (envOfC x scope s.heap.objs.size (He.ga K x) cdv)) → PMSs (cxF P w K mg base N x scope cdv A outer s H E) (mkF H V E) body f) :
    FnF P w K mg base (k + 1) x ps (fnRunF ps.length N.length f) := by
  refine ⟨fd, D.ok (CX := L2N.CX P w) S (fun vs H Q E h => h.1) fun cdv A outer s H vs Q E hr h => ?_, D.bindsN hbd, D.kp, hx, fun ds h => ?_⟩
  · obtain ⟨hl, V, ds, ht, sv, r, g⟩ := h
    refine ⟨_, hb cdv A outer s H V E hr, V, start0 N.length ds, repL_get r rfl (by omega) sv ht, ?_⟩
    unfold fnRunF at g
    rw [if_pos (by rw [← r.length]; exact hl)] at g
    show GoalS ⟨K, w⟩ (mkF H V E) V (f (start0 N.length ds)) _
    cases e : f (start0 N.length ds) with
    | rt d ρ' => rw [e] at g; exact False.elim g
    | rf d ρ' => rw [e] at g; exact fun v σ' H' V' E' _ r' fr => g v H' V' E'.ext r' fun p hp => (fr p hp).1
    | nx ρ' => rw [e] at g; exact False.elim g
    | exc c => rw [e] at g; exact fun σ' H' V' x => g H' V' x
    | bk ρ' => rw [e] at g; exact False.elim g
    | ct ρ' => rw [e] at g; exact False.elim g
    | bad => rw [e] at g; exact False.elim g
  · unfold fnRunF at h
    by_cases hl : ds.length = ps.length
    · exact hl
    · rw [if_neg hl] at h; exact absurd rfl h
end
/-- what is seen at V, and the tuples of V' -/
def unsee (V V' : Hp) : Hp := fun b => match V b with
  | some o => some o
  | none => (match V' b with
    | some (.tup xs) => some (.tup xs)
    | some (.frz o (.tup xs)) => some (.frz o (.tup xs))
    | _ => none)
theorem unsee_v {V V' : Hp} : Same V (unsee V V') := fun b o e => by unfold unsee; rw [e]
theorem unsee_s {V V' : Hp} (s : Same V V') : Same (unsee V V') V' := fun b o e => by
  unfold unsee at e
  cases q : V b with
  | some u => rw [q] at e; cases e; exact s b o q
  | none =>
    rw [q] at e
    cases q' : V' b with
    | none => rw [q'] at e; cases e
    | some u =>
      rw [q'] at e
      cases u with
      | tup xs => exact e
      | frz ob u => cases u <;> first | exact e | cases e
      | _ => cases e
theorem unsee_t {V V' : Hp} (s : Same V V') : SameT V' (unsee V V') := by
  refine ⟨fun b xs e => ?_, fun b o xs e => ?_⟩
  · unfold unsee
    cases q : V b with
    | some u => rw [s b u q] at e; exact e
    | none => show (match V' b with | some (.tup xs) => some (HO.tup xs) | some (.frz o (.tup xs)) => some (.frz o (.tup xs)) | _ => none) = _; rw [e]
  · unfold unsee
    cases q : V b with
    | some u => rw [s b u q] at e; exact e
    | none => show (match V' b with | some (.tup xs) => some (HO.tup xs) | some (.frz o (.tup xs)) => some (.frz o (.tup xs)) | _ => none) = _; rw [e]
theorem Ext.unsee {H V H' V' : Hp} (x : Ext H V H' V') : Ext H V H' (unsee V V') := by
  refine ⟨x.h, unsee_v, (unsee_s x.v).trans x.s, fun b h1 h2 => ?_, x.th, x.t⟩
  cases q : DL.unsee V V' b with
  | none => rfl
  | some o =>
    have := unsee_s x.v b o q
    rw [x.f b h1 h2] at this
    cases this
/-- a list of things that nothing can change -/
def immC : PyData → Bool
  | .list ds => immL ds
  | _ => false
def immR : R PyData → R PyData
  | .ok d => if immC d = true then .ok d else .bad
  | .exc c => .exc c
  | .bad => .bad
def callF (m : List PyData → R PyData) (a : M (List PyData)) : M PyData := M.bind a fun ds => M.lift (immR (m ds))
section
variable {X : Cx} {F : Fr} {e : Expr} {es : List Expr} {fs : M (List PyData)} {pos p : Pos}
theorem pmf_call {lvl : Nat} {x : Str} {ps : List Str} {m : List PyData → R PyData} (G : FnF X.prog X.w X.K X.mg X.base lvl x ps m) (hr : Room lvl X.A) (tk : Tk X F) (ha : PMA X F (e :: es) fs) (hg : Gl X x := by rfl)
    (hdb : (x == ("__debug__" : Str)) = false := by decide) (he : starEach (e :: es) X.env = (false, eval e X.env) :: starEach es X.env := by rfl) (hpl : (backTo pos (starEach es X.env)).any (·.1) = false := by rfl) : PMF X F (.Call (.Name x p) (e :: es) [] pos) (callF m fs) := by
  obtain ⟨fd, G1, G2, G3, G4, G5⟩ := G
  refine PE.imp (pe_callS G1 hr hg G4 G3 G2 (fun σ => L2N.passAt tk σ) ha hdb he hpl) fun σ H Q ⟨V, ρ, E, g0⟩ => ⟨V, ρ, E, GoalF.bind g0 fun vs ds H1 V1 ρ1 st1 r1 g1 => ?_⟩
  have g1 := GoalF.lift st1.env g1
  cases em : m ds with
  | ok d =>
    rw [em] at g1
    refine ⟨by rw [r1.length]; exact G5 ds (by rw [em]; exact fun z => nomatch z), V1, ds, st1.env.tabs, st1.env.sub, r1, ?_⟩
    rw [em]
    intro v H' V' x r fr
    have g1 : GoalR X.kw F σ H1 V1 Q (if immC d = true then R.ok d else .bad) := g1
    by_cases hi : immC d = true
    · rw [if_pos hi] at g1
      cases r with
      | @lst a xs es ha ra =>
        have h1 : H1 a = none := fr a rfl
        refine g1 _ _ _ x.unsee ⟨a, rfl, ?_, h1, xs, x.s _ _ ha, ra.imm (unsee_t x.v) hi⟩
        unfold DL.unsee
        rw [st1.env.sub.free h1, ha]
      | _ => cases hi
    · rw [if_neg hi] at g1
      exact False.elim g1
  | exc c =>
    rw [em] at g1
    refine ⟨by rw [r1.length]; exact G5 ds (by rw [em]; exact fun z => nomatch z), V1, ds, st1.env.tabs, st1.env.sub, r1, ?_⟩
    rw [em]
    exact fun H' V' x => ⟨rfl, g1 H' V' (st1.env.ext.trans x)⟩
  | bad => rw [em] at g1; exact False.elim g1
end
end DL
set_option Elab.async false
set_option linter.all false
set_option maxRecDepth 100000
set_option maxHeartbeats 1000000
namespace DL
open PySem PySem.Spec PyProof.Rows L2
variable [TabCtx]
def gNotInX : PyData → PyData → Option PyData := fun k d => match d with
  | .dict ps => if keyOk ps k = true then some (.bool (!(dlook ps k).isSome)) else none
  | _ => none
def gIxX : PyData → PyData → Option PyData := fun d k => match d with
  | .dict ps => if keyOk ps k = true then dlook ps k else none
  | _ => none
def rNotInX (w : World) : R2 := fun x y H Q => ∃ a o, y = .ref a ∧ DGX w H a x o ∧ Q (.bl (!o.isSome)) H
section
variable {X : Cx}
theorem op_notInX (hu : X.A.units + 64 < cLine) : OpR X (compareOp .NotIn) (rNotInX X.w) := by
  intro pins s σ H x y v u Q I rx ry h
  obtain ⟨a, o, rfl, g, q⟩ := h
  cases ry
  exact x_notIn (by omega) I g rx fun s' I' => ⟨.bl (!o.isSome), H, I', rfl, q⟩
end
theorem rep_ref {K : KW} {V : Hp} {y : L2.V} {ps : List (PyData × PyData)} (r : Rep K V y (.dict ps)) : ∃ a, y = .ref a ∧ Rep K V (.ref a) (.dict ps) := by
  cases r with
  | dk h r n => exact ⟨_, rfl, .dk h r n⟩
  | dt h r => exact ⟨_, rfl, .dt h r⟩
theorem look_some {α : Type} {P : α → PyData → Prop} {o : Option α} {r : Option PyData} (h : match r with | some d => ∃ v, o = some v ∧ P v d | none => o = none) : o.isSome = r.isSome := by
  cases r with
  | none => have h : o = none := h; rw [h]; rfl
  | some d => obtain ⟨v, h, _⟩ := (show ∃ v, o = some v ∧ P v d from h); rw [h]; rfl
theorem od_notInX {K : KW} : OpD K (rNotInX K.w) gNotInX := by
  intro x y dx dy z H V Q s rx ry e q
  cases dy with
  | dict ps =>
    obtain ⟨ok, rfl⟩ := ite_some (show (if keyOk ps dx = true then some (PyData.bool (!(dlook ps dx).isSome)) else none) = some z from e)
    obtain ⟨a, rfl, ra⟩ := rep_ref ry
    obtain ⟨o, g, l⟩ := Rep.look s ra rx ok
    refine ⟨a, o, rfl, g, ?_⟩
    rw [look_some l]
    exact q _ _ _ (Ext.refl s) (.bl _)
  | _ => cases e
section
variable {X : Cx} {F : Fr} {o k x : Expr} {pos : Pos} {fo fk fx : M PyData}
theorem isDX_rep {K : KW} {V H : Hp} (s : Same V H) {a : Addr} {ps : List (PyData × PyData)} (r : Rep K V (.ref a) (.dict ps)) : IsDX K.w H a := by
  cases r with
  | dk h _ _ => exact .inl ⟨_, s _ _ h⟩
  | dt h _ => exact .inr ⟨_, _, s _ _ h⟩
def tDGX (w : World) (td ty : TE) : TE := fun σ H Q => td σ H fun x H1 => ty σ H1 fun y H2 => ∃ a v, x = .ref a ∧ IsDX w H2 a ∧ DGX w H2 a y (some v) ∧ Q v H2
theorem pe_dgetX' {td ty : TE} (hu : X.A.units + 64 < cLine) (ho : PE X o td) (hi : PE X k ty) (hs : NoSl k) : PE X (.Subscript o k pos) (tDGX X.w td ty) := by
  refine ⟨fun pins s σ H Q I h => ?_⟩
  refine subD_of PySem.F.slot_dict_getitem.lookup hs (thn (ho.run pins s σ H _ I h) fun u s1 ⟨x, H1, I1, rx, q1⟩ => thn (hi.run pins s1 σ H1 _ I1 q1) fun iv s2 ⟨y, H2, I2, ry, a, v, ex, isd, g, q2⟩ => ?_)
  subst ex
  obtain rfl : u = Value.ref a := rx
  exact ⟨(isDX_at I2 isd).1, x_getItem (by omega) I2 g ry fun w' s3 I3 rw' => ⟨v, H2, I3, rw', q2⟩⟩
/-- d[k] -/
theorem pm_dix (hu : X.A.units + 64 < cLine) (ho : PM X F o fo) (hk : PM X F k fk) (hs : NoSl k := by exact fun _ _ => rfl) : PM X F (.Subscript o k pos) (op2 gIxX fo fk) := by
  refine PE.imp (pe_dgetX' hu ho hk hs) fun σ H Q ⟨V, ρ, E, g0⟩ => ⟨V, ρ, E, Goal.bind g0 fun x dx H1 V1 ρ1 st1 r1 g1 => ⟨V1, ρ1, st1.env, Goal.bind g1 fun y dy H2 V2 ρ2 st2 r2 g2 => ?_⟩⟩
  obtain ⟨z, ez, q⟩ := Goal.opt st2.env g2
  have s := st2.env.sub
  cases dx with
  | dict ps =>
    have ez : (if keyOk ps dy = true then dlook ps dy else none) = some z := ez
    by_cases ok : keyOk ps dy = true
    · rw [if_pos ok] at ez
      obtain ⟨a, rfl, ra⟩ := rep_ref (r1.mono st2.v)
      obtain ⟨ov, g, l⟩ := Rep.look s ra r2 ok
      rw [ez] at l
      obtain ⟨v, rfl, rv⟩ := l
      exact ⟨a, v, rfl, isDX_rep s ra, g, q _ _ _ (Ext.refl s) rv⟩
    · rw [if_neg ok] at ez; cases ez
  | _ => cases ez
/-- d.get(k), d.get(k, x) -/
def isDict : PyData → Bool
  | .dict _ => true
  | _ => false
def gGet1 (d k : PyData) : Option PyData := match d with
  | .dict ps => if keyOk ps k = true then some ((dlook ps k).getD .none) else none
  | _ => none
def gGet2 (d k x : PyData) : Option PyData := match d with
  | .dict ps => if keyOk ps k = true then some ((dlook ps k).getD x) else none
  | _ => none
def dget1 (fo fk : M PyData) : M PyData := M.bind fo fun d => if isDict d = true then M.bind fk fun k => M.opt (gGet1 d k) else fun _ => .bad
def dget2 (fo fk fx : M PyData) : M PyData := M.bind fo fun d => if isDict d = true then M.bind fk fun k => M.bind fx fun x => M.opt (gGet2 d k x) else fun _ => .bad
def tDGX1 (w : World) (td ty : TE) : TE := fun σ H Q => td σ H fun x H1 => ∃ a, x = .ref a ∧ IsDX w H1 a ∧ ty σ H1 fun y H2 => ∃ o, DGX w H2 a y o ∧ Q (o.getD .non) H2
def tDGX2 (w : World) (td ty tx : TE) : TE := fun σ H Q => td σ H fun x H1 => ∃ a, x = .ref a ∧ IsDX w H1 a ∧ ty σ H1 fun y H2 => tx σ H2 fun z H3 => ∃ o, DGX w H3 a y o ∧ Q (o.getD z) H3
theorem pe_dgx1 {td ty : TE} {apos : Pos} (hu : X.A.units + 64 < cLine) (ho : PE X o td) (he : PE X k ty) (m : M1 X o "get" apos k pos) : PE X (.Call (.Attribute o "get" apos) [k] [] pos) (tDGX1 X.w td ty) := by
  refine ⟨fun pins s σ H Q I h => ?_⟩
  refine wpAny_Call_method m.base m.few m.line PySem.F.plainAttrs_dict PySem.F.slot_dict_get PySem.F.type_dict_get (thn (ho.run pins s σ H _ I h) fun u s1 ⟨x, H1, I1, rx, a, ex, d, q1⟩ => ?_)
  subst ex
  obtain rfl : u = Value.ref a := rx
  obtain ⟨t1, t2, _⟩ := isDX_at I1 d
  refine ⟨t1, t2, ?_⟩
  rw [m.trees]
  refine Calls.callWith_builtin rfl (Calls.evalArgs_plain (Calls.spliced_cons (thn (he.run pins s1 σ H1 _ I1 q1) fun iv s2 ⟨y, H2, I2, ry, ov, g, q2⟩ => Calls.spliced_nil ?_)))
  exact x_get1 (by omega) I2 g ry fun w' s3 I3 rw' => ⟨_, H2, I3, rw', q2⟩
theorem pe_dgx2 {td ty tx : TE} {apos : Pos} (hu : X.A.units + 64 < cLine) (ho : PE X o td) (he : PE X k ty) (hf : PE X x tx) (m : M2 X o "get" apos k x pos) : PE X (.Call (.Attribute o "get" apos) [k, x] [] pos) (tDGX2 X.w td ty tx) := by
  refine ⟨fun pins s σ H Q I h => ?_⟩
  refine wpAny_Call_method m.base m.few m.line PySem.F.plainAttrs_dict PySem.F.slot_dict_get PySem.F.type_dict_get (thn (ho.run pins s σ H _ I h) fun u s1 ⟨x, H1, I1, rx, a, ex, d, q1⟩ => ?_)
  subst ex
  obtain rfl : u = Value.ref a := rx
  obtain ⟨t1, t2, _⟩ := isDX_at I1 d
  refine ⟨t1, t2, ?_⟩
  rw [m.trees]
  refine Calls.callWith_builtin rfl (Calls.evalArgs_plain (Calls.spliced_cons (thn (he.run pins s1 σ H1 _ I1 q1) fun iv s2 ⟨y, H2, I2, ry, q2⟩ =>
    Calls.spliced_cons (thn (hf.run pins s2 σ H2 _ I2 q2) fun fv s3 ⟨z, H3, I3, rz, ov, g, q3⟩ => Calls.spliced_nil ?_))))
  exact x_get2 (by omega) I3 g ry rz fun w' s4 I4 rw' => ⟨_, H3, I4, rw', q3⟩
theorem pm_dget1 {apos : Pos} (hu : X.A.units + 64 < cLine) (ho : PM X F o fo) (hk : PM X F k fk) (m : M1 X o "get" apos k pos := by exact ⟨rfl, rfl, rfl, rfl⟩) : PM X F (.Call (.Attribute o "get" apos) [k] [] pos) (dget1 fo fk) := by
  refine PE.imp (pe_dgx1 hu ho hk m) fun σ H Q ⟨V, ρ, E, g0⟩ => ⟨V, ρ, E, Goal.bind g0 fun x dx H1 V1 ρ1 st1 r1 g1 => ?_⟩
  cases dx with
  | dict ps =>
    obtain ⟨a, rfl, ra⟩ := rep_ref r1
    refine ⟨a, rfl, isDX_rep st1.env.sub ra, V1, ρ1, st1.env, Goal.bind g1 fun y dy H2 V2 ρ2 st2 r2 g2 => ?_⟩
    obtain ⟨z, ez, q⟩ := Goal.opt st2.env g2
    have s := st2.env.sub
    obtain ⟨ok, rfl⟩ := ite_some (show (if keyOk ps dy = true then some ((dlook ps dy).getD .none) else none) = some z from ez)
    obtain ⟨ov, g, l⟩ := Rep.look s (ra.mono st2.v) r2 ok
    refine ⟨ov, g, q _ _ _ (Ext.refl s) ?_⟩
    cases el : dlook ps dy with
    | none => rw [el] at l; have l : ov = none := l; rw [l]; exact .non
    | some d => rw [el] at l; obtain ⟨v, rfl, rv⟩ := l; exact rv
  | _ => exact False.elim g1
theorem pm_dget2 {apos : Pos} (hu : X.A.units + 64 < cLine) (ho : PM X F o fo) (hk : PM X F k fk) (hx : PM X F x fx) (m : M2 X o "get" apos k x pos := by exact ⟨rfl, rfl, rfl, rfl⟩) : PM X F (.Call (.Attribute o "get" apos) [k, x] [] pos) (dget2 fo fk fx) := by
  refine PE.imp (pe_dgx2 hu ho hk hx m) fun σ H Q ⟨V, ρ, E, g0⟩ => ⟨V, ρ, E, Goal.bind g0 fun x dx H1 V1 ρ1 st1 r1 g1 => ?_⟩
  cases dx with
  | dict ps =>
    obtain ⟨a, rfl, ra⟩ := rep_ref r1
    refine ⟨a, rfl, isDX_rep st1.env.sub ra, V1, ρ1, st1.env, Goal.bind g1 fun y dy H2 V2 ρ2 st2 r2 g2 => ⟨V2, ρ2, st2.env, Goal.bind g2 fun z dz H3 V3 ρ3 st3 r3 g3 => ?_⟩⟩
    obtain ⟨zz, ez, q⟩ := Goal.opt st3.env g3
    have s := st3.env.sub
    obtain ⟨ok, rfl⟩ := ite_some (show (if keyOk ps dy = true then some ((dlook ps dy).getD dz) else none) = some zz from ez)
    obtain ⟨ov, g, l⟩ := Rep.look s ((ra.mono st2.v).mono st3.v) (r2.mono st3.v) ok
    refine ⟨ov, g, q _ _ _ (Ext.refl s) ?_⟩
    cases el : dlook ps dy with
    | none => rw [el] at l; have l : ov = none := l; rw [l]; exact r3
    | some d => rw [el] at l; obtain ⟨v, rfl, rv⟩ := l; exact rv
  | _ => exact False.elim g1
end
theorem RepK.putK {K : KW} {V : Hp} {kvs : List (Key × L2.V)} {ps : List (PyData × PyData)} {q : Key} {v : L2.V} {d : PyData} (r : RepK K V kvs ps) (rv : Rep K V v d) : RepK K V (putK kvs q v) (dput ps (keyD q) d) := by
  have ha : ∀ {kvs : List (Key × L2.V)} {ps : List (PyData × PyData)}, RepK K V kvs ps → (kvs.any fun kv => decide (kv.1 = q)) = ps.any fun p => keyEqD p.1 (keyD q) := by
    intro kvs ps r
    induction ps generalizing kvs with
    | nil => cases r; rfl
    | cons p ps ih =>
      cases r with
      | cons r1 t => rw [List.any_cons, List.any_cons, ih t, keyEq_keyD]
  have hm : ∀ {kvs : List (Key × L2.V)} {ps : List (PyData × PyData)}, RepK K V kvs ps → RepK K V (kvs.map fun kv => if kv.1 = q then (kv.1, v) else kv) (ps.map fun p => if keyEqD p.1 (keyD q) = true then (p.1, d) else p) := by
    intro kvs ps r
    induction ps generalizing kvs with
    | nil => cases r; exact .nil
    | cons p ps ih =>
      cases r with
      | @cons k x kvs dx _ r1 t =>
        rw [List.map_cons, List.map_cons]
        by_cases e : k = q
        · rw [if_pos e, if_pos (by show keyEqD (keyD k) (keyD q) = true; rw [keyEq_keyD, decide_eq_true e])]
          exact .cons rv (ih t)
        · rw [if_neg e, if_neg (by show ¬ keyEqD (keyD k) (keyD q) = true; rw [keyEq_keyD, decide_eq_false e]; exact Bool.false_ne_true)]
          exact .cons r1 (ih t)
  have hs : ∀ {kvs : List (Key × L2.V)} {ps : List (PyData × PyData)}, RepK K V kvs ps → RepK K V (kvs ++ [(q, v)]) (ps ++ [(keyD q, d)]) := by
    intro kvs ps r
    induction ps generalizing kvs with
    | nil => cases r; exact .cons rv .nil
    | cons p ps ih =>
      cases r with
      | cons r1 t => exact .cons r1 (ih t)
  unfold L2.putK dput
  rw [ha r]
  by_cases e : (ps.any fun p => keyEqD p.1 (keyD q)) = true
  · rw [if_pos e, if_pos e]; exact hm r
  · rw [if_neg e, if_neg e]; exact hs r
theorem RepT.putX {K : KW} {V : Hp} {xs : List (NestedKey × Addr × L2.V)} {ps : List (PyData × PyData)} {q : NestedKey} {b : Addr} {kd : PyData} {v : L2.V} {d : PyData} (r : RepT K V xs ps) (rk : Rep K V (.ref b) kd) (hq : nkey kd = some q) (dq : q.depth ≤ 8) (rv : Rep K V v d) : RepT K V (putX xs q b v) (dput ps kd d) := by
  have ek : ∀ {dk : PyData} {k : NestedKey}, nkey dk = some k → keyEqD dk kd = decide (k = q) := by
    intro dk k n
    unfold keyEqD
    rw [n, hq]
    by_cases e : k = q
    · subst e; simp
    · rw [decide_eq_false e, decide_eq_false (fun z => e (Option.some.inj z))]
  have ha : ∀ {xs : List (NestedKey × Addr × L2.V)} {ps : List (PyData × PyData)}, RepT K V xs ps → (xs.any fun x => decide (x.1 = q)) = ps.any fun p => keyEqD p.1 kd := by
    intro xs ps r
    induction ps generalizing xs with
    | nil => cases r; rfl
    | cons p ps ih =>
      cases r with
      | cons r1 n z r2 t => rw [List.any_cons, List.any_cons, ih t, ek n]
  have hm : ∀ {xs : List (NestedKey × Addr × L2.V)} {ps : List (PyData × PyData)}, RepT K V xs ps → RepT K V (xs.map fun x => if x.1 = q then (x.1, x.2.1, v) else x) (ps.map fun p => if keyEqD p.1 kd = true then (p.1, d) else p) := by
    intro xs ps r
    induction ps generalizing xs with
    | nil => cases r; exact .nil
    | cons p ps ih =>
      cases r with
      | @cons k b x xs dk dx _ r1 n z r2 t =>
        rw [List.map_cons, List.map_cons]
        by_cases e : k = q
        · rw [if_pos e, if_pos (by show keyEqD dk kd = true; rw [ek n, decide_eq_true e])]
          exact .cons r1 n z rv (ih t)
        · rw [if_neg e, if_neg (by show ¬ keyEqD dk kd = true; rw [ek n, decide_eq_false e]; exact Bool.false_ne_true)]
          exact .cons r1 n z r2 (ih t)
  have hs : ∀ {xs : List (NestedKey × Addr × L2.V)} {ps : List (PyData × PyData)}, RepT K V xs ps → RepT K V (xs ++ [(q, b, v)]) (ps ++ [(kd, d)]) := by
    intro xs ps r
    induction ps generalizing xs with
    | nil => cases r; exact .cons rk hq dq rv .nil
    | cons p ps ih =>
      cases r with
      | cons r1 n z r2 t => exact .cons r1 n z r2 (ih t)
  unfold DL.putX dput
  rw [ha r]
  by_cases e : (ps.any fun p => keyEqD p.1 kd) = true
  · rw [if_pos e, if_pos e]; exact hm r
  · rw [if_neg e, if_neg e]; exact hs r
theorem RepK.length {K : KW} {V : Hp} : ∀ {kvs : List (Key × L2.V)} {ps : List (PyData × PyData)}, RepK K V kvs ps → kvs.length = ps.length
  | _, _, .nil => rfl
  | _, _, .cons _ t => by simp [RepK.length t]
theorem RepT.length {K : KW} {V : Hp} : ∀ {kvs : List (NestedKey × Addr × L2.V)} {ps : List (PyData × PyData)}, RepT K V kvs ps → kvs.length = ps.length
  | _, _, .nil => rfl
  | _, _, .cons _ _ _ _ t => by simp [RepT.length t]
theorem dput_ne (ps : List (PyData × PyData)) (k v : PyData) : dput ps k v ≠ [] := by
  unfold dput
  by_cases e : (ps.any fun p => keyEqD p.1 k) = true
  · rw [if_pos e]
    intro z
    have : ps = [] := by simpa using z
    subst this
    cases e
  · rw [if_neg e]; simp
/-- a[k] = d of an own dict -/
theorem OwnAt.dput {K : KW} {V H : Hp} (s : Same V H) {a : Addr} {ps : List (PyData × PyData)} {y v : L2.V} {k d : PyData} (o : OwnAt K V H a (.dict ps)) (ry : Rep K V y k) (rv : Rep K V v d) (ok : keyOk ps k = true) (hl : ps.length < LIM) :
    ∃ u : Nat → HO, DPX K.w H a y v (fun ep => upd H a (u ep)) ∧ ∀ ep, OwnAt K V (upd H a (u ep)) a (.dict (dput ps k d)) := by
  rcases Bool.or_eq_true_iff.mp ok with ok | ok
  · obtain ⟨o1, o2⟩ := Bool.and_eq_true_iff.mp ok
    obtain ⟨q, rfl, rfl⟩ := plain_key ry o1
    rcases o with ⟨kvs, e, r, n⟩ | ⟨xs, ep, e, r⟩
    · exact ⟨fun _ => .dK (putK kvs q v), .inl ⟨kvs, q, e, rfl, by rw [r.length]; exact Nat.lt_trans hl lim_lt, rfl⟩, fun _ => .inl ⟨_, upd_same, r.putK rv, dput_ne _ _ _⟩⟩
    · have e0 := r.tups o2
      subst e0
      cases r
      exact ⟨fun _ => .dK [(q, v)], .inr (.inr ⟨ep, q, e, rfl, rfl⟩), fun _ => .inl ⟨_, upd_same, (RepK.nil).putK rv, dput_ne _ _ _⟩⟩
  · obtain ⟨o12, o3⟩ := Bool.and_eq_true_iff.mp ok
    obtain ⟨o1, o2⟩ := Bool.and_eq_true_iff.mp o12
    obtain ⟨q, b, e1, rfl, nq, dq⟩ := tup_key s ry o1 o2
    rcases o with ⟨kvs, e, r, n⟩ | ⟨xs, ep, e, r⟩
    · exact absurd (r.plains o3) n
    · exact ⟨fun ep => dX K.w a (putX xs q b v) ep, .inr (.inl ⟨xs, ep, q, b, e, r.keysAt s, rfl, nq, dq, by rw [r.length]; exact Nat.lt_trans hl lim_lt, rfl⟩), fun ep => .inr ⟨_, ep, upd_same, r.putX ry e1 dq rv⟩⟩
def sDPX (w : World) (td ty tv : TE) : TS := fun D σ H => tv σ H fun v H1 => td σ H1 fun x H2 => ty σ H2 fun y H3 => ∃ a H4, x = .ref a ∧ DPX w H3 a y v H4 ∧ ∀ ep, D.nx σ (H4 ep)
/-- d[k] = e, d an own dict in slot i -/
def dsetO (i : Nat) (fk fv : M PyData) : SM := exO fv fun dv ρ => if isOw ρ[i]? = true then exO fk (fun dk ρ => match ρ[i]? with
  | some (.ow (.dict ps)) => if keyOk ps dk = true ∧ ps.length < LIM then .nx (ρ.set i (.ow (.dict (dput ps dk dv)))) else .bad
  | _ => .bad) ρ else .bad
section
variable {X : Cx} {F : Fr} {k value : Expr} {pos pos' : Pos} {fk fv : M PyData}
theorem ps_dputX {o : Expr} {td ty tv : TE} (hu : X.A.units + 64 < cLine) (ho : PE X o td) (hi : PE X k ty) (hv : PE X value tv) (hs : swapsWith value (some (.Subscript o k pos')) pos.line X.env = pure false) :
    PS X (.Assign [.Subscript o k pos'] value pos) (sDPX X.w td ty tv) := by
  refine ⟨fun pins s σ H D I h => ?_⟩
  refine wpAny_Assign_Subscript (thn (hv.run pins s σ H _ I h) fun r s1 ⟨v, H1, I1, rv, q1⟩ => thn (ho.run pins s1 σ H1 _ I1 q1) fun u s2 ⟨x, H2, I2, rx, q2⟩ => thn (hi.run pins s2 σ H2 _ I2 q2) fun iv s3 ⟨y, H3, I3, ry, a, H4, ex, g, q3⟩ => ?_) hs
  subst ex
  obtain rfl : u = Value.ref a := rx
  exact x_setItem (by omega) I3 g ry rv fun ep s4 I4 => ⟨σ, H4 ep, I4, q3 ep⟩
theorem pms_dset (i : Nat) {x : Str} {px : Pos} (hu : X.A.units + 64 < cLine) (hv : PM X F value fv) (hk : PM X F k fk) (hN : X.N[i]? = some x := by rfl) (hvs : Vis X.env.scope x := by first | exact Or.inl rfl | exact Or.inr (Or.inl rfl) | exact Or.inr (Or.inr rfl)) (hd : (x == ("__debug__" : Str)) = false := by decide) (hcd : (x == ("__classdict__" : Str)) = false := by decide)
    (hs : swapsWith value (some (.Subscript (.Name x px) k pos')) pos.line X.env = pure false := by rfl) : PMS X F (.Assign [.Subscript (.Name x px) k pos'] value pos) (dsetO i fk fv) := by
  refine PS.imp (ps_dputX hu (pe_var hN hvs hd hcd) hk hv hs) fun D σ H ⟨V, ρ, E, g⟩ => ⟨V, ρ, E, Goal.ex g fun v d H1 V1 ρ1 st1 r1 g1 => ?_⟩
  have g1 : GoalS X.kw F V1 (if isOw ρ1[i]? = true then exO fk (fun dk ρ => match ρ[i]? with
    | some (.ow (.dict ps)) => if keyOk ps dk = true ∧ ps.length < LIM then .nx (ρ.set i (.ow (.dict (dput ps dk d)))) else .bad
    | _ => .bad) ρ1 else .bad) D := g1
  by_cases hio : isOw ρ1[i]? = true
  · rw [if_pos hio] at g1
    cases eo : ρ1[i]? with
    | none => rw [eo] at hio; cases hio
    | some s =>
      cases s with
      | no => rw [eo] at hio; cases hio
      | sh d => rw [eo] at hio; cases hio
      | ow d0 =>
        obtain ⟨a, h1, h2, h3, h4⟩ := st1.env.ow i _ eo
        refine ⟨.ref a, h1, V1, ρ1, st1.env, Goal.ex g1 fun y dk H2 V2 ρ2 st2 r2 g2 => ?_⟩
        cases eo1 : ρ2[i]? with
        | none => rw [eo1] at g2; exact False.elim g2
        | some s1 =>
          rw [eo1] at g2
          cases s1 with
          | no => exact False.elim g2
          | sh d => exact False.elim g2
          | ow d1 =>
            cases d1 with
            | dict ps =>
              have g2 : GoalS X.kw F V2 (if keyOk ps dk = true ∧ ps.length < LIM then .nx (ρ2.set i (.ow (.dict (dput ps dk d)))) else .bad) D := g2
              obtain ⟨a', q1, q2, q3, q4⟩ := st2.env.ow i _ eo1
              have ea : a' = a := by rw [h1] at q1; exact (L2.V.ref.inj (Option.some.inj (Option.some.inj q1))).symm
              subst ea
              by_cases hc : keyOk ps dk = true ∧ ps.length < LIM
              · rw [if_pos hc] at g2
                obtain ⟨u, w1, w2⟩ := OwnAt.dput st2.env.sub q4 r2 (r1.mono st2.v) hc.1 hc.2
                exact ⟨a', _, rfl, w1, fun ep => g2 _ _ _ (st2.env.updOw eo1 q1 (w2 ep)) (Same.refl _)⟩
              · rw [if_neg hc] at g2
                exact False.elim g2
            | _ => exact False.elim g2
  · rw [if_neg hio] at g1
    exact False.elim g1
end
end DL
set_option Elab.async false
set_option linter.all false
set_option maxRecDepth 100000
set_option maxHeartbeats 1000000
namespace DL
open PySem PySem.Spec PyProof.Rows L2
variable [TabCtx]
inductive RepS (K : KW) (H0 V' H' : Hp) : List L2.V → List Sl → List Addr → Prop
  | nil : RepS K H0 V' H' [] [] []
  | sh {v : L2.V} {d : PyData} {vs : List L2.V} {ss : List Sl} {as : List Addr} : Rep K V' v d → RepS K H0 V' H' vs ss as → RepS K H0 V' H' (v :: vs) (.sh d :: ss) as
  | ow {a : Addr} {d : PyData} {vs : List L2.V} {ss : List Sl} {as : List Addr} : V' a = none → H0 a = none → OwnAt K V' H' a d → a ∉ as → RepS K H0 V' H' vs ss as → RepS K H0 V' H' (.ref a :: vs) (.ow d :: ss) (a :: as)
def GoalX (K : KW) (F : Fr) (σ : St) (ρ : Rho) (H V : Hp) (r : R (List Sl × Rho)) (Q : List L2.V → Hp → Prop) : Prop := match r with
  | .ok (ss, ρ') => ∀ vs H' V' as, Stp K F σ ρ ρ' H V H' V' → RepS K H V' H' vs ss as → Q vs H'
  | .exc c => ∀ H' V', Ext F.H0 F.V0 H' V' → F.W (.ref (He.ga K c)) σ H'
  | .bad => False
def tMX (K : KW) (F : Fr) (f : M (List Sl)) : TA := fun σ H Q => ∃ V ρ, EnvR K F H V σ ρ ∧ GoalX K F σ ρ H V (f ρ) Q
def PMX (X : Cx) (F : Fr) (es : List Expr) (f : M (List Sl)) : Prop := PA X es (tMX X.kw F f)
def xN : M (List Sl) := M.pure []
def xSh (a : M PyData) (r : M (List Sl)) : M (List Sl) := M.bind a fun x => M.bind r fun xs => M.pure (.sh x :: xs)
def xOw (a : M PyData) (r : M (List Sl)) : M (List Sl) := M.bind a fun x => M.bind r fun xs => M.pure (.ow x :: xs)
section
variable {K : KW} {F : Fr} {σ : St} {ρ ρ1 ρ2 : Rho} {H V H1 V1 H2 V2 : Hp}
theorem RepS.news {H0 V' H' : Hp} : ∀ {vs : List L2.V} {ss : List Sl} {as : List Addr}, RepS K H0 V' H' vs ss as → ∀ a ∈ as, H0 a = none
  | _, _, _, .nil => fun a h => nomatch h
  | _, _, _, .sh _ t => t.news
  | _, _, _, .ow _ h0 _ _ t => fun a h => by
    rcases List.mem_cons.mp h with e | e
    · rw [e]; exact h0
    · exact t.news a e
theorem RepS.old {V' H' : Hp} (k : ∀ b, H b ≠ none → H1 b ≠ none) : ∀ {vs : List L2.V} {ss : List Sl} {as : List Addr}, RepS K H1 V' H' vs ss as → RepS K H V' H' vs ss as
  | _, _, _, .nil => .nil
  | _, _, _, .sh r t => .sh r (t.old k)
  | _, _, _, .ow (a := a) h1 h0 o n t => .ow h1 (by
    cases q : H a with
    | none => rfl
    | some u => exact absurd h0 (k a (by rw [q]; exact fun z => nomatch z))) o n (t.old k)
end
section
variable {X : Cx} {F : Fr} {e : Expr} {es : List Expr} {fa : M PyData} {fs : M (List Sl)} {pos : Pos}
theorem pmx_nil : PMX X F [] xN := PA.imp pa_nil fun σ H Q ⟨V, ρ, E, g⟩ => g [] H V [] E.refl .nil
theorem goalX_bind {α β : Type} {K : KW} {σ : St} {ρ : Rho} {H V : Hp} {rep1 : Hp → β → α → Prop} {f : M α} {k : α → M (List Sl)} {Q : List L2.V → Hp → Prop} {Q1 : β → Hp → Prop} (g : GoalX K F σ ρ H V (M.bind f k ρ) Q)
    (h : ∀ b a H' V' ρ', Stp K F σ ρ ρ' H V H' V' → rep1 V' b a → (match k a ρ' with
      | .ok (ss, ρ'') => ∀ vs H'' V'' as, Stp K F σ ρ ρ'' H V H'' V'' → RepS K H V'' H'' vs ss as → Q vs H''
      | .exc c => ∀ H' V', Ext F.H0 F.V0 H' V' → F.W (.ref (He.ga K c)) σ H'
      | .bad => False) → Q1 b H') : Goal K F σ ρ H V rep1 (f ρ) Q1 := by
  unfold M.bind at g
  cases e : f ρ with
  | ok p =>
    obtain ⟨a, ρ'⟩ := p
    rw [e] at g
    exact fun b H' V' st r => h b a H' V' ρ' st r g
  | exc c => rw [e] at g; exact g
  | bad => rw [e] at g; exact g
theorem pmx_sh (ha : PM X F e fa) (hr : PMX X F es fs) (hs : starEach (e :: es) X.env = (false, eval e X.env) :: starEach es X.env := by rfl) : PMX X F (e :: es) (xSh fa fs) := by
  refine PA.imp (pa_cons ha hr hs) fun σ H Q ⟨V, ρ, E, g0⟩ => ⟨V, ρ, E, goalX_bind g0 fun v d H1 V1 ρ1 st1 r1 g1 => ⟨V1, ρ1, st1.env, ?_⟩⟩
  unfold M.bind at g1
  cases ef : fs ρ1 with
  | exc c => rw [ef] at g1; exact g1
  | bad => rw [ef] at g1; exact g1
  | ok pr =>
    obtain ⟨ss, ρ2⟩ := pr
    rw [ef] at g1
    intro vs H2 V2 as st2 r2
    exact g1 (v :: vs) H2 V2 as (st1.trans st2) (.sh (r1.mono st2.v) (r2.old st1.th))
theorem pmx_ow (ha : PMF X F e fa) (hr : PMX X F es fs) (hs : starEach (e :: es) X.env = (false, eval e X.env) :: starEach es X.env := by rfl) : PMX X F (e :: es) (xOw fa fs) := by
  refine PA.imp (pa_cons ha hr hs) fun σ H Q ⟨V, ρ, E, g0⟩ => ⟨V, ρ, E, ?_⟩
  have g0 : GoalX X.kw F σ ρ H V (M.bind fa (fun x => M.bind fs fun xs => M.pure (.ow x :: xs)) ρ) Q := g0
  unfold M.bind at g0
  cases ea : fa ρ with
  | exc c => rw [ea] at g0; exact g0
  | bad => rw [ea] at g0; exact g0
  | ok pr =>
    obtain ⟨d, ρ1⟩ := pr
    rw [ea] at g0
    intro v H1 V1 st1 hv
    obtain ⟨a, rfl, h1, h2, h3⟩ := hv
    refine ⟨V1, ρ1, st1.env, ?_⟩
    have g1 := g0
    dsimp only at g1
    cases ef : fs ρ1 with
    | exc c => rw [ef] at g1; exact g1
    | bad => rw [ef] at g1; exact g1
    | ok pr =>
      obtain ⟨ss, ρ2⟩ := pr
      rw [ef] at g1
      intro vs H2 V2 as st2 r2
      obtain ⟨o, ho, _⟩ := h3.there
      have hn : H1 a ≠ none := by rw [ho]; exact fun z => nomatch z
      exact g1 (.ref a :: vs) H2 V2 (a :: as) (st1.trans st2) (.ow (st2.f a h1 hn) h2 (h3.mono st2.v fun o q nt => st2.keep a o q nt (st1.notOwn E h2)) (fun z => hn (r2.news a z)) (r2.old st1.th))
def setL : List Nat → List Sl → Rho → Rho
  | i :: is, s :: ss, ρ => setL is ss (ρ.set i s)
  | _, _, ρ => ρ
def setV : List Nat → List L2.V → St → St
  | i :: is, v :: vs, σ => setV is vs (σ.set i (some v))
  | _, _, σ => σ
theorem EnvR.setS {K : KW} {F : Fr} {H V H0 : Hp} : ∀ {is : List Nat} {vs : List L2.V} {ss : List Sl} {as : List Addr} {σ : St} {ρ : Rho}, (∀ i ∈ is, i ≠ F.ls ∨ F.lent = none) → EnvR K F H V σ ρ → RepS K H0 V H vs ss as → (∀ a ∈ as, F.H0 a = none ∧ ¬ IsOwn σ ρ a) → EnvR K F H V (setV is vs σ) (setL is ss ρ)
  | [], _, _, _, _, _, _, E, r, _ => by cases r <;> exact E
  | i :: is, _, _, _, _, _, _, E, .nil, _ => E
  | i :: is, _, _, _, _, _, hl, E, .sh r t, ha => by
    refine EnvR.setS (is := is) (fun j hj => hl j (List.mem_cons_of_mem _ hj)) (E.setSh r (hl i List.mem_cons_self)) t (fun a h => ⟨(ha a h).1, fun z => (ha a h).2 (isOwn_set z)⟩)
  | i :: is, _, _, _, σ, ρ, hl, E, .ow (a := a) (d := d) h1 h0 o n t, ha => by
    refine EnvR.setS (is := is) (fun j hj => hl j (List.mem_cons_of_mem _ hj)) (E.setHid h1 (ha a List.mem_cons_self).1 (ha a List.mem_cons_self).2 o (hl i List.mem_cons_self)) t fun b h => ⟨(ha b (List.mem_cons_of_mem _ h)).1, fun z => ?_⟩
    obtain ⟨j, e, q1, q2⟩ := z
    rcases getElem_set_some q1 with ⟨rfl, _, _⟩ | ⟨ne, w1⟩
    · rcases getElem_set_some q2 with ⟨_, w2, _⟩ | ⟨ne, _⟩
      · have : a = b := L2.V.ref.inj (Option.some.inj w2)
        exact n (this ▸ h)
      · exact ne rfl
    · rw [List.getElem?_set_ne ne] at q2
      exact (ha b (List.mem_cons_of_mem _ h)).2 ⟨j, e, w1, q2⟩
/-- a, b, .. = e1, e2, .. -/
def parO (is : List Nat) (f : M (List Sl)) : SM := exO f fun ss ρ => if ss.length = is.length then .nx (setL is ss ρ) else .bad
theorem RepS.length {K : KW} {H0 V' H' : Hp} : ∀ {vs : List L2.V} {ss : List Sl} {as : List Addr}, RepS K H0 V' H' vs ss as → vs.length = ss.length
  | _, _, _, .nil => rfl
  | _, _, _, .sh _ t => by simp [t.length]
  | _, _, _, .ow _ _ _ _ t => by simp [t.length]
theorem par_of {K : KW} {is : List Nat} {f : M (List Sl)} {D : Ends} {σ : St} {H : Hp} (hl : ∀ i ∈ is, i ≠ F.ls ∨ F.lent = none) (h : tS K F (parO is f) D σ H) : tMX K F f σ H fun vs H1 => vs.length = is.length ∧ ∃ V1 ρ1, EnvR K F H1 V1 (setV is vs σ) ρ1 ∧ GoalS K F V1 (.nx ρ1) D := by
  obtain ⟨V, ρ, E, g⟩ := h
  refine ⟨V, ρ, E, ?_⟩
  unfold parO exO at g
  cases ef : f ρ with
  | exc c => rw [ef] at g; exact fun H' V' x => g σ H' V' x
  | bad => rw [ef] at g; exact g
  | ok pr =>
    obtain ⟨ss, ρ1⟩ := pr
    rw [ef] at g
    intro vs H1 V1 as st1 r1
    have g : GoalS K F V (if ss.length = is.length then .nx (setL is ss ρ1) else .bad) D := g
    by_cases he : ss.length = is.length
    · rw [if_pos he] at g
      exact ⟨by rw [r1.length]; exact he, V1, _, EnvR.setS (is := is) hl st1.env r1 (fun a ha => ⟨E.ext.free (r1.news a ha), st1.notOwn E (r1.news a ha)⟩), GoalS.mono st1.v g⟩
    · rw [if_neg he] at g
      exact False.elim g
theorem par_imp {K : KW} {f : M (List Sl)} {σ : St} {H : Hp} {Q Q' : List L2.V → Hp → Prop} (h : tMX K F f σ H Q) (i : ∀ vs H, Q vs H → Q' vs H) : tMX K F f σ H Q' := by
  obtain ⟨V, ρ, E, g⟩ := h
  refine ⟨V, ρ, E, ?_⟩
  cases ef : f ρ with
  | exc c => rw [ef] at g; exact g
  | bad => rw [ef] at g; exact g
  | ok pr => rw [ef] at g; exact fun vs H' V' as st r => i _ _ (g vs H' V' as st r)
theorem pms_par2 (i j : Nat) {x y : Str} {a b : Expr} {f : M (List Sl)} {px py pt pos : Pos} {kt k2 pt2} (ha : PMX X F [a, b] f) (hN : X.N.Nodup) (hi : X.N[i]? = some x := by rfl) (hj : X.N[j]? = some y := by rfl) (hij : i ≠ j := by decide)
    (hx : X.env.scope.names.lookup x = some .local := by rfl) (hy : X.env.scope.names.lookup y = some .local := by rfl) (hl : ∀ n ∈ [i, j], n ≠ F.ls ∨ F.lent = none := by first | exact fun _ _ => Or.inr rfl | (intro n hn; exact Or.inl (fun z => absurd (z ▸ hn) (nm_ls rfl))))
    (hw : swappedStores [.Tuple [.Name x px, .Name y py] kt pt] (.Tuple [a, b] k2 pt2) X.env = pure (some [x, y]) := by rfl)
    (hs : swapsWithSole [.Tuple [.Name x px, .Name y py] kt pt] (.Tuple [a, b] k2 pt2) pos.line X.env = pure false := by rfl) (hc : X.calm = true := by rfl) :
    PMS X F (.Assign [.Tuple [.Name x px, .Name y py] kt pt] (.Tuple [a, b] k2 pt2) pos) (parO [i, j] f) := by
  refine PS.imp (ps_par hc hN hi hj hij hx hy ha hw hs) fun D σ H h => par_imp (par_of hl h) fun vs H1 ⟨e, V1, ρ1, E1, g1⟩ => ?_
  match vs, e with
  | [v, w], _ => exact ⟨v, w, rfl, g1 _ _ _ E1 (Same.refl _)⟩
/-- the same where some of the names are cells: by way of a tuple -/
theorem pms_tup2 (i j : Nat) {x y : Str} {a b : Expr} {f : M (List Sl)} {px py pt pos : Pos} {kt k2 pt2} (ha : PMX X F [a, b] f) (hN : X.N.Nodup) (hi : X.N[i]? = some x := by rfl) (hj : X.N[j]? = some y := by rfl) (hij : i ≠ j := by decide)
    (hx : Loc X.env.scope x := by first | exact Or.inl rfl | exact Or.inr rfl) (hy : Loc X.env.scope y := by first | exact Or.inl rfl | exact Or.inr rfl)
    (hfx : X.fn x = true ∨ X.env.scope.names.lookup x = some .local := by first | exact .inl rfl | exact .inr rfl | assumption) (hfy : X.fn y = true ∨ X.env.scope.names.lookup y = some .local := by first | exact .inl rfl | exact .inr rfl | assumption)
    (hl : ∀ n ∈ [i, j], n ≠ F.ls ∨ F.lent = none := by first | exact fun _ _ => Or.inr rfl | (intro n hn; exact Or.inl (fun z => absurd (z ▸ hn) (nm_ls rfl))))
    (hw : swappedStores [.Tuple [.Name x px, .Name y py] kt pt] (.Tuple [a, b] k2 pt2) X.env = pure none := by rfl)
    (hs : swapsWithSole [.Tuple [.Name x px, .Name y py] kt pt] (.Tuple [a, b] k2 pt2) pos.line X.env = pure false := by rfl) (hc : X.calm = true := by rfl) :
    PMS X F (.Assign [.Tuple [.Name x px, .Name y py] kt pt] (.Tuple [a, b] k2 pt2) pos) (parO [i, j] f) := by
  refine PS.imp (ps_asg (pe_tup ha) (pg_tup hc (pgs_cons (pg_name hN hi hx hfx) (pgs_cons (pg_name hN hj hy hfy) pgs_nil rfl) rfl)) hs hw rfl) fun D σ H h => par_imp (par_of hl h) fun vs H1 ⟨e, V1, ρ1, E1, g1⟩ => ?_
  match vs, e with
  | [v, w], _ =>
    refine ⟨by show 2 ≤ sizeLine; decide, fun p hp => ⟨p, [v, w], rfl, .inl (.inl upd_same), rfl, v, [w], rfl, w, [], rfl, rfl, ?_⟩⟩
    exact g1 _ _ _ (E1.grow (Ext.hid E1.sub hp)) (Same.refl _)
theorem pms_tup3 (i j l : Nat) {x y z : Str} {a b c : Expr} {f : M (List Sl)} {px py pz pt pos : Pos} {kt k2 pt2} (ha : PMX X F [a, b, c] f) (hN : X.N.Nodup) (hi : X.N[i]? = some x := by rfl) (hj : X.N[j]? = some y := by rfl) (hll : X.N[l]? = some z := by rfl)
    (hx : Loc X.env.scope x := by first | exact Or.inl rfl | exact Or.inr rfl) (hy : Loc X.env.scope y := by first | exact Or.inl rfl | exact Or.inr rfl) (hz : Loc X.env.scope z := by first | exact Or.inl rfl | exact Or.inr rfl)
    (hfx : X.fn x = true ∨ X.env.scope.names.lookup x = some .local := by first | exact .inl rfl | exact .inr rfl | assumption) (hfy : X.fn y = true ∨ X.env.scope.names.lookup y = some .local := by first | exact .inl rfl | exact .inr rfl | assumption) (hfz : X.fn z = true ∨ X.env.scope.names.lookup z = some .local := by first | exact .inl rfl | exact .inr rfl | assumption)
    (hl : ∀ n ∈ [i, j, l], n ≠ F.ls ∨ F.lent = none := by first | exact fun _ _ => Or.inr rfl | (intro n hn; exact Or.inl (fun z => absurd (z ▸ hn) (nm_ls rfl))))
    (hw : swappedStores [.Tuple [.Name x px, .Name y py, .Name z pz] kt pt] (.Tuple [a, b, c] k2 pt2) X.env = pure none := by rfl)
    (hs : swapsWithSole [.Tuple [.Name x px, .Name y py, .Name z pz] kt pt] (.Tuple [a, b, c] k2 pt2) pos.line X.env = pure false := by rfl) (hc : X.calm = true := by rfl) :
    PMS X F (.Assign [.Tuple [.Name x px, .Name y py, .Name z pz] kt pt] (.Tuple [a, b, c] k2 pt2) pos) (parO [i, j, l] f) := by
  refine PS.imp (ps_asg (pe_tup ha) (pg_tup hc (pgs_cons (pg_name hN hi hx hfx) (pgs_cons (pg_name hN hj hy hfy) (pgs_cons (pg_name hN hll hz hfz) pgs_nil rfl) rfl) rfl)) hs hw rfl) fun D σ H h => par_imp (par_of hl h) fun vs H1 ⟨e, V1, ρ1, E1, g1⟩ => ?_
  match vs, e with
  | [v, w, u], _ =>
    refine ⟨by show 3 ≤ sizeLine; decide, fun p hp => ⟨p, [v, w, u], rfl, .inl (.inl upd_same), rfl, v, [w, u], rfl, w, [u], rfl, u, [], rfl, rfl, ?_⟩⟩
    exact g1 _ _ _ (E1.grow (Ext.hid E1.sub hp)) (Same.refl _)
end
end DL
set_option Elab.async false
set_option linter.all false
set_option maxRecDepth 100000
set_option maxHeartbeats 1000000
namespace DL
open PySem PySem.Spec PyProof.Rows L2
end DL
set_option Elab.async false
set_option linter.all false
set_option maxRecDepth 100000
set_option maxHeartbeats 1000000
namespace DL
open PySem PySem.Spec PyProof.Rows L2
end DL
set_option Elab.async false
set_option linter.all false
set_option maxRecDepth 100000
set_option maxHeartbeats 1000000
namespace DL
open PySem PySem.Spec PyProof.Rows L2
variable [TabCtx]
theorem xok_at {P : Program} {w : World} {H : Hp} {h : Heap} {d : Addr} {xs : List (NestedKey × Addr × L2.V)} {ep : Nat} (ok : HOk P w H h) (e : H d = some (dX w d xs ep)) : (d == sysModules) = false ∧ ∃ o es, h.get? d = some o ∧ o.ExactDict ∧ o.data = .dict es ep ∧ es.size = xs.length ∧
    ∀ (i : Nat) k b v, xs[i]? = some (k, b, v) → ∃ en : DictEntry, es[i]? = some en ∧ en.key = .ref b := by
  obtain ⟨⟨z, y, nd, us, o, es, r, h1, h2, h3, h4⟩, _, _⟩ := (show ObjOk P w H h d (dX w d xs ep) from ok d _ e)
  have hl : xs.length = us.length := Paired.length r
  refine ⟨y, o, es, h1, h2, h3, by rw [← Array.length_toList, h4, List.length_map, hl], fun i k b v hi => ?_⟩
  obtain ⟨u, hu, g1, g2, _⟩ := L2.paired_get r hi
  refine ⟨⟨u.1.hash w, .ref u.2.1, u.2.2⟩, ?_, ?_⟩
  · rw [← Array.getElem?_toList, h4, List.getElem?_map, hu]; rfl
  · show Value.ref u.2.1 = .ref b
    rw [← g2]
theorem RepT.key {K : KW} {V : Hp} : ∀ {xs : List (NestedKey × Addr × L2.V)} {ps : List (PyData × PyData)} (i : Nat) {d : PyData}, RepT K V xs ps → (ps.map (·.1))[i]? = some d → ∃ k b v, xs[i]? = some (k, b, v) ∧ Rep K V (.ref b) d
  | _, _, _, _, .nil, h => by simp at h
  | _, _, 0, _, .cons q n z r t, h => by
    have e := Option.some.inj h
    subst e
    exact ⟨_, _, _, rfl, q⟩
  | _, _, i + 1, _, .cons q n z r t, h => by
    obtain ⟨k, b, v, h1, h2⟩ := RepT.key i t (by simpa using h)
    exact ⟨k, b, v, by simpa using h1, h2⟩
theorem RepT.len {K : KW} {V : Hp} : ∀ {xs : List (NestedKey × Addr × L2.V)} {ps : List (PyData × PyData)}, RepT K V xs ps → xs.length = ps.length
  | _, _, .nil => rfl
  | _, _, .cons _ _ _ _ t => by simp [RepT.len t]
end DL
set_option Elab.async false
set_option linter.all false
set_option maxRecDepth 100000
set_option maxHeartbeats 1000000
namespace DL
open PySem PySem.Spec PyProof.Rows L2
variable [TabCtx]
/-- k tells v and does nothing else -/
def CSem (X : Cx) (k : Sem Value) (v : L2.V) : Prop := ∀ (pins : List (Addr × Obj)) (s : Shared) (σ : L2.St) (H : Hp) (Q : Value → Shared → Prop), L2.Inv X pins σ H s → (∀ u s', L2.Inv X pins σ H s' → L2.RelV v u → Q u s') → wpAny (model X.prog X.w) X.A k Q X.xe s
inductive PairsC (X : Cx) : List (Sem Value × Sem Value) → List (Key × L2.V) → Prop
  | nil : PairsC X [] []
  | cons {a b : Sem Value} {k : Key} {v : L2.V} {ps : List (Sem Value × Sem Value)} {kvs : List (Key × L2.V)} : CSem X a (kV k) → CSem X b v → PairsC X ps kvs → PairsC X ((a, b) :: ps) ((k, v) :: kvs)
section
variable {X : Cx} {F : Fr} {pos : Pos}
theorem PairsC.len {ps : List (Sem Value × Sem Value)} {kvs : List (Key × L2.V)} (h : PairsC X ps kvs) : ps.length = kvs.length := by
  induction h with
  | nil => rfl
  | cons _ _ _ ih => rw [List.length_cons, List.length_cons, ih]
end
end DL
set_option Elab.async false
set_option linter.all false
set_option maxRecDepth 100000
set_option maxHeartbeats 2000000
namespace HD
open PySem PySem.Spec PyProof.Rows L2 HotX
section
variable {prog : Program} {w : World} {A : Around} {E : Value → Shared → Prop} {s : Shared}
theorem next_list_end_hot {it l x1 : Addr} {i : Nat} {items : Array Value} {Q : Option Value → Shared → Prop} (hot : HotAt A x1 s.heap) (hit : s.heap.IsListIter it l i) (hl : s.heap.IsList l items) (hx : items[i]? = none)
    (hne : x1 ≠ it) (hQ : ∀ h', Heap.ExtBut it s.heap h' → Q none { s with heap := h' }) : wpAny (model prog w) A (pyNext (.ref it)) Q E s := by
  obtain ⟨o, ho, hc, hd⟩ := id hit
  obtain ⟨ol, hol, _, nl, hdl⟩ := hl
  obtain ⟨hh, o1, vs1, h1, d1, c1⟩ := hot
  unfold pyNext
  refine wpAny_bind (wpAny_attempt (wpAny_callSpecial?_slot (name := Str.ofString "__next__") hit.typeIs slot_listiter_next
    (wpAny_call_entry slot_listiter_next hit.typeIs entry_listiter_next ?_ (args_listiter_next _))))
  show wpAny _ _ (field (.ref it) 0 >>= _) _ _ s
  refine wpAny_bind (wpAny_field ho hd (x := .ref l) rfl ?_)
  show wpAny _ _ (if (Value.ref l == Value.none) = true then _ else _) _ _ s
  rw [if_neg (show ¬ ((Value.ref l == Value.none) = true) from Bool.false_ne_true)]
  show wpAny _ _ (field (.ref it) 1 >>= _) _ _ s
  refine wpAny_bind (wpAny_field ho hd (x := .int i 0) rfl ?_)
  show wpAny _ _ (seqItems? (.ref l) >>= _) _ _ s
  refine wpAny_bind (wpAny_seqItems hol hdl ?_)
  simp only [Int.toNat_natCast, hx]
  refine wpAny_bind (wpAny_rule (wpAny_bind (wpAny_setField ho hd (by simp) ?_)))
  show wpAny _ _ (newExc (.type "StopIteration") [] >>= _) _ _ _
  refine wpAny_bind ?_
  simp only [newExc, newTuple]
  refine wpAny_bind (wpAny_newObj_type ?_ (by size_fits))
  refine wpAny_bind (m := firstArgMember _ _) (wpAny_of_eq (a := Value.none) (by first | rfl | (simp only [firstArgMember]; rfl)) ?_)
  refine wpAny_newObj_type ?_ (by size_fits)
  have h1' : (s.heap.update it (Obj.mapFields fun x => x.setIfInBounds 0 Value.none)).get? x1 = some o1 := by rw [Heap.get?_update_other _ _ (Ne.symm hne)]; exact h1
  refine raiseNew_hot ⟨hh, o1, vs1, Heap.get?_push_of_some _ (Heap.get?_push_of_some _ h1'), d1, c1⟩ (Nat.ne_of_lt (Heap.lt_size (Heap.get?_push_of_some _ h1'))) (Heap.get?_push_size _ rfl) rfl (by first | (simp; done) | (simp; omega) | (simp only [Array.size_append]; simp; omega)) ?_
  refine wpAny_bind (wpAny_isInstance (T := "StopIteration") (b := true) ⟨_, Heap.get?_update_self _ (Heap.get?_push_size _ rfl) rfl, rfl⟩ isSubtype_stop ?_)
  refine wpAny_pure (hQ _ fun b ob hb e => ?_)
  have e1 : (s.heap.update it (Obj.mapFields fun x => x.setIfInBounds 0 Value.none)).get? b = some ob := by rw [Heap.get?_update_other _ _ (Ne.symm hb)]; exact e
  rw [Heap.get?_update_other _ _ (Nat.ne_of_gt (Heap.lt_size (Heap.get?_push_of_some _ e1)))]
  exact Heap.get?_push_of_some _ (Heap.get?_push_of_some _ e1)
theorem hot_ne {x1 it l : Addr} {i : Nat} {h : Heap} (hot : HotAt A x1 h) (hit : h.IsListIter it l i) : x1 ≠ it := by
  obtain ⟨_, o1, vs1, h1, d1, c1⟩ := hot
  obtain ⟨o, ho, hc, hd⟩ := hit
  intro e
  subst e
  rw [h1] at ho
  cases ho
  rw [d1] at hd
  cases hd
  simp at c1
theorem HotAt.kept {x1 : Addr} {h h' : Heap} (hot : HotAt A x1 h) (k : ∀ o, h.get? x1 = some o → h'.get? x1 = some o) : HotAt A x1 h' := by
  obtain ⟨hh, o1, vs1, h1, d1, c1⟩ := hot
  exact ⟨hh, o1, vs1, k _ h1, d1, c1⟩
end
theorem walks_listH {prog : Program} {w : World} {A : Around} (I ax x1 : Addr) (hne : ax ≠ I) (items : Array Value) :
    Walks prog w A I [I, ax, x1] [I] items.size (fun i v => items[i]? = some v) (fun i h => h.IsListIter I ax i ∧ h.IsList ax items ∧ HotAt A x1 h) where
  sub := fun b hb => by simp at hb; simp [hb]
  frame := fun _ _ _ st hk => ⟨st.1.at fun o e => hk I (by simp) o e, st.2.1.at fun o e => hk ax (by simp) o e, HotAt.kept st.2.2 fun o e => hk x1 (by simp) o e⟩
  item := fun i s Q E hi st hQ => by
    have hn := hot_ne st.2.2 st.1
    refine wpAny_pyNext_list_item st.1 st.2.1 (x := items[i]) (by simp [hi]) fun h' hit' hs' => ?_
    exact hQ _ h' s.toks (by simp [hi]) ⟨hit', st.2.1.extBut hs'.extBut hne, HotAt.kept st.2.2 fun o e => hs'.extBut x1 o hn e⟩ fun b o hb e => hs'.extBut b o (fun h => hb (by simp [h])) e
  done := fun s Q E st hQ => next_list_end_hot st.2.2 st.1 st.2.1 (by simp) (hot_ne st.2.2 st.1) fun h' he' => hQ h' s.toks fun b o hb e => he' b o (fun h => hb (by simp [h])) e
  self := fun _ _ _ _ st hQ => wpAny_pyIter_listiter st.1 hQ
section
variable {prog : Program} {w : World} {A : Around} {E : Value → Shared → Prop} {s : Shared} {l : Addr} {xs : Array (Int × Tok)}
theorem sum_hot {x1 : Addr} {Q : Value → Shared → Prop} (hot : HotAt A x1 s.heap) (hl : s.heap.IsList l (intItems xs))
    (h : ∀ h' tk t', (∀ b o, s.heap.get? b = some o → h'.get? b = some o) → Q (.int (preSum (numAt xs) xs.size) t') { s with heap := h', toks := tk }) :
    wpAny (model prog w) A (call (.builtin "sum") [.ref l]) Q E s := by
  refine call_sum_walkG (iter_intList hl fun s₂ e st hfp hlI => ?_)
  subst e
  obtain ⟨hh, o1, vs1, h1, d1, c1⟩ := hot
  have hx : x1 < s.heap.objs.size := Heap.lt_size h1
  refine ⟨_, _, _, _, _, _, numAt xs, rfl, walks_listH (A := A.in1) _ l x1 hlI (intItems xs), ⟨st.1, st.2, hh, o1, vs1, Heap.get?_push_of_some _ h1, d1, c1⟩, fun b hb => ?_, (fun _ _ => intItems_at), fun h' tk t' hk => ?_⟩
  · rcases List.mem_cons.mp hb with rfl | hb
    · exact hfp _ (by simp)
    · rcases List.mem_cons.mp hb with rfl | hb
      · exact hfp _ (by simp)
      · have : b = x1 := by simpa using hb
        subst this
        show b < (s.heap.push _).objs.size
        rw [Heap.size_push]; exact Nat.lt_succ_of_lt hx
  · have := h h' tk t' (old_kept hk)
    simpa [intItems] using this
end
end HD
set_option Elab.async false
set_option linter.all false
set_option maxRecDepth 100000
set_option maxHeartbeats 2000000
namespace HD
open PySem PySem.Spec PyProof.Rows L2 L2H HotX
section
variable {X : Cx}
/-- e tells g of x, and does nothing else -/
def Tells (te : TE) (j : Nat) (x y : V) : Prop := ∀ (σ : L2.St) (H : Hp) (Q : VK), σ[j]? = some (some x) → Q y H → te σ H Q
def tLcH (K : PySem.W.Frag) (ti te : TE) (j : Nat) : TE := fun σ H Q => ti σ H fun v H1 => ∃ (a : Addr) (xs : List V) (g : V → V), v = .ref a ∧ H1 a = some (.lst xs) ∧ xs.length ≤ 1000 ∧ (∀ x ∈ xs, Tells te j x (g x)) ∧ ∀ D, H1 D = none → Q (.ref D) (upd H1 D (.lst (xs.map g)))
theorem pe_lcH {elt iter : Expr} {x : Str} {px : Pos} {scope : Scope} {j : Nat} {pos : Pos} {ti te : TE} {p : Addr × Obj} (hot : Hot1 X.A p) (hp : p ∈ X.pn) (hN : X.N.Nodup) (hj : X.N[j]? = some x) (hi : PE X iter ti) (ok : BlkOk X.N X.env.scope scope [(x, j)])
    (hg : ∀ (s : Shared) (H : Hp) (C : Addr) (cl : List (Str × Addr)) (fp : List Addr), PG (X.blk s H scope (compEnvC scope cl C X.env) fp) (.Name x px) (gName j))
    (he : ∀ (s : Shared) (H : Hp) (C : Addr) (cl : List (Str × Addr)) (fp : List Addr), PE (X.blk s H scope (compEnvC scope cl C X.env) fp) elt te) (hs : ∀ x, foldedSetIterable iter X.env x = pure x := by intro _; rfl) :
    PE X (.ListComp elt [⟨.Name x px, iter, [], 0⟩] scope pos) (tLcH X.K ti te j) := by
  refine ⟨fun pins s σ H Q I h => ?_⟩
  rw [eval_ListComp]
  have hfree : ∀ y ∈ scope.names, y.2 = .free → ∃ c, X.env.cells.lookup y.1 = some c := fun y hy e => by
    rcases ok.free y hy e with k | k
    · exact I.ok.has _ (.inl k)
    · exact I.ok.has _ (.inr k)
  refine wpAny_comprehension_free (use := none) rfl hs (closure_ok hfree) ok.kind (fun y hy e => by rw [ok.uniq y hy, e]) (thn (hi.run pins s σ H _ I h) fun u s1 hu => ?_)
  obtain ⟨v, H1, I1, rv, a, xs, g, rfl, ha, hxl, hte, hq⟩ := hu
  obtain rfl : u = Value.ref a := rv
  obtain ⟨its, rvs, pl, hz⟩ := I1.list (.inl (.inl ha))
  have hlen := rvs.length
  refine wpAny_pyIter_list pl.isList ?_
  generalize hit : s1.heap.objs.size = it
  have nit : H1 it = none := I1.hok.fresh (Nat.le_of_eq hit)
  have hait : a ≠ it := fun z => by rw [z, nit] at ha; cases ha
  generalize hs2 : ({ s1 with heap := s1.heap.push { cls := .type "list_iterator", data := .fields #[.ref a, .int 0 0] } } : Shared) = s2
  have h2 : s2.heap = s1.heap.push { cls := .type "list_iterator", data := .fields #[.ref a, .int 0 0] } := by rw [← hs2]
  have I2 : Inv X pins σ H1 s2 := by rw [← hs2]; exact I1.kept (t' := s1.toks) fun b o e => Heap.get?_push_of_some _ e
  have f2 : FpOk X pins H1 it := I1.fpOk (Nat.le_of_eq hit) nit
  have lit : it < s2.heap.objs.size := by rw [h2, Heap.size_push, ← hit]; exact Nat.lt_succ_self _
  have st2 : s2.heap.IsListIter it a 0 := by rw [h2, ← hit]; exact ⟨_, Heap.get?_push_size _ rfl, rfl, rfl⟩
  refine wpAny_newObj_type (newEnv_comp ?_) (by show 0 ≤ sizeLine; decide)
  generalize hD : s2.heap.objs.size = D
  have hDn : H1 D = none := I2.hok.fresh (Nat.le_of_eq hD)
  have hq := hq D hDn
  have hDit : D ≠ it := by rw [← hD]; exact Nat.ne_of_gt lit
  generalize hs3 : ({ s2 with heap := s2.heap.push { cls := .type "list", data := .seq ([] : List Value).toArray } } : Shared) = s3
  have h3 : s3.heap = s2.heap.push { cls := .type "list", data := .seq ([] : List Value).toArray } := by rw [← hs3]
  have I3 : Inv X pins σ (upd H1 D (.lst [])) s3 := by
    rw [← hs3]
    refine I2.laid (t' := s2.toks) (fun b o e => Heap.get?_push_of_some _ e) (Nat.le_of_eq hD) ⟨Nat.zero_le _, [], 0, .nil, ?_⟩
    rw [← hD]
    exact Heap.get?_push_size _ rfl
  have f3 : ∀ b ∈ [it], FpOk X pins (upd H1 D (.lst [])) b ∧ b < s3.heap.objs.size := fun b hb => by
    have e : b = it := by simpa using hb
    subst e
    refine ⟨⟨?_, f2.2⟩, by rw [h3, Heap.size_push]; exact Nat.lt_succ_of_lt lit⟩
    rw [upd_ne (Ne.symm hDit)]; exact nit
  have I4 := block_start I3 ok hN f3
  have pg := hg s3 (upd H1 D (.lst [])) s3.heap.objs.size (cellsFrom (s3.heap.objs.size + 1) scope.names (cloFrom X.env.cells scope.names [])) [it]
  have pe := he s3 (upd H1 D (.lst [])) s3.heap.objs.size (cellsFrom (s3.heap.objs.size + 1) scope.names (cloFrom X.env.cells scope.names [])) [it]
  show codeAny _ _ (.compStart (.ListComp elt [⟨.Name x px, iter, [], 0⟩] scope pos) 0 (.ref it) (.ref D) (compEnvC scope (cellsFrom (s3.heap.objs.size + 1) scope.names (cloFrom X.env.cells scope.names [])) s3.heap.objs.size X.env)) (compPost (model X.prog X.w) X.A X.xe none _ (.ref D) s3.heap.objs.size) { s3 with heap := pushCells (s3.heap.push { cls := .type "dict", data := .dict #[] }) scope.names }
  generalize hce : compEnvC scope (cellsFrom (s3.heap.objs.size + 1) scope.names (cloFrom X.env.cells scope.names [])) s3.heap.objs.size X.env = ce at I4 pg pe ⊢
  have cL : ce.locals = s3.heap.objs.size := by subst hce; rfl
  generalize hH3 : upd H1 D (.lst []) = H3 at I3 I4 pg pe f3
  generalize hs4 : ({ s3 with heap := pushCells (s3.heap.push { cls := .type "dict", data := .dict #[] }) scope.names } : Shared) = s4 at I4 ⊢
  have k34 : ∀ b o, s3.heap.get? b = some o → s4.heap.get? b = some o := fun b o e => by rw [← hs4]; exact pushCells_keeps _ _ _ _ (Heap.get?_push_of_some _ e)
  have P3 := I3.pin p (List.mem_append_left _ hp)
  have lp : p.1 < s3.heap.objs.size := Heap.lt_size P3.1
  have I4p : Inv (X.blk s3 H3 scope ce [it]) [p] (wipe σ ([(x, j)].map (·.2))) H3 s4 := I4.pins_of fun q hq => by
    have e : q = p := by simpa using hq
    subst e
    exact ⟨k34 _ _ P3.1, P3.2.1, by show q.1 ≠ ce.locals; rw [cL]; exact Nat.ne_of_lt lp, fun hm => (List.mem_cons.mp (I3.stkSub q.1 hm)).elim P3.2.2.1 P3.2.2.2.1, P3.2.2.2.2⟩
  have st4 : s4.heap.IsListIter it a 0 := by
    refine st2.at fun o e => k34 _ _ ?_
    rw [h3]; exact Heap.get?_push_of_some _ e
  have aD : a ≠ D := fun z => by rw [z, hDn] at ha; cases ha
  have jl : j < X.N.length := (List.getElem?_eq_some_iff.mp hj).1
  have loop : codeAny (model X.prog X.w) X.A (.compLoop (.ListComp elt [⟨.Name x px, iter, [], 0⟩] scope pos) 0 (.ref it) (.ref D) ce) (compPost (model X.prog X.w) X.A X.xe none (EP X pins σ Q) (.ref D) s3.heap.objs.size) s4 := by
    refine compLoop_any (fun n s' => ∃ i, i ≤ xs.length ∧ n = xs.length - i ∧ Inv (X.blk s3 H3 scope ce [it]) [p] (wipe σ ([(x, j)].map (·.2))) (upd H1 D (.lst ((xs.take i).map g))) s' ∧ s'.heap.IsListIter it a i) ?_ xs.length ⟨0, Nat.zero_le _, rfl, by rw [List.take_zero, List.map_nil, hH3]; exact I4p, st4⟩
    rintro n s5 ⟨i, hil, rfl, I5, st5⟩
    have ha5 : upd H1 D (.lst ((xs.take i).map g)) a = some (.lst xs) := by rw [upd_ne aD]; exact ha
    have n5 : upd H1 D (.lst ((xs.take i).map g)) it = none := by rw [upd_ne (Ne.symm hDit)]; exact nit
    obtain ⟨its5, rv5, pl5, _⟩ := I5.list (.inl (.inl ha5))
    have hl5 := rv5.length
    have f5 : FpOk (X.blk s3 H3 scope ce [it]) [p] (upd H1 D (.lst ((xs.take i).map g))) it :=
      ⟨n5, (I5.ok.exf it (by simp)).1, I5.ok.exfs it (by simp), .inl (by simp), fun y c e => (I5.ok.exf it (by simp)).2 y c e, fun q hq => by
        have e : q = p := by simpa using hq
        subst e
        exact (f3 it (by simp)).1.2.2.2.2.2 q (List.mem_append_left _ hp)⟩
    obtain ⟨f50, f51, f52, f53, f54, f55⟩ := id f5
    have pin5 := I5.pin p (by simp)
    obtain ⟨hh, vs1, e1, c1⟩ := hot
    by_cases hlt : i < xs.length
    · obtain ⟨xv, hxv⟩ : ∃ xv, xs[i]? = some xv := ⟨_, List.getElem?_eq_getElem hlt⟩
      obtain ⟨u, hu, ru⟩ := rv5.get hxv
      refine wpAny_pyNext_list_item st5 pl5.isList (x := u) (by simpa using hu) fun h' st' sb => ?_
      have I6 : Inv (X.blk s3 H3 scope ce [it]) [p] (wipe σ ([(x, j)].map (·.2))) (upd H1 D (.lst ((xs.take i).map g))) { s5 with heap := h' } := I5.turned (t' := s5.toks) (fun b o hb e => (sb.2 b hb).trans e) f50 f51 f53 f54 f55
      obtain ⟨o, eo, co, d_o⟩ := id st'
      refine go_of (s := { s5 with heap := h' }) eo co d_o (by decide) ?_
      have I6' := I6.pinned (fp := [it]) (fun b hb => by
        have e : b = it := by simpa using hb
        subst e
        exact f5) (fun b hb => by
        have e : b = it := by simpa using hb
        subst e
        exact ⟨o, eo, fun v z => by rw [d_o] at z; cases z⟩)
      refine thnF (pg.run _ _ _ _ xv u (fun σ' H' => σ' = (wipe σ ([(x, j)].map (·.2))).set j (some xv) ∧ H' = upd H1 D (.lst ((xs.take i).map g))) I6' ru ⟨rfl, rfl⟩) fun _ s8 ⟨σ8, H8, I8, e8, eH8⟩ => ?_
      subst e8 eH8
      refine wpAny_tests_nil ?_
      simp only [if_true]
      have lw : (wipe σ ([(x, j)].map (·.2))).length = X.N.length := by rw [wipe_length]; exact I.len
      refine thnF (pe.run _ s8 _ _ (fun y H' => y = g xv ∧ H' = upd H1 D (.lst ((xs.take i).map g))) I8 (hte xv (List.mem_of_getElem? hxv) _ _ _ (by rw [List.getElem?_set_self (by rw [lw]; exact jl)]) ⟨rfl, rfl⟩)) fun z s10 ⟨yv, H10, I10, r10, ey, eH10⟩ => ?_
      subst ey eH10
      refine app_ok (X := X.blk s3 H3 scope ce [it]) (xs := (xs.take i).map g) I10 upd_same (by rw [List.length_map, List.length_take, sizeLine_eq]; omega) r10 fun s11 I11 => ?_
      refine ⟨xs.length - (i + 1), by omega, i + 1, hlt, rfl, ?_, ?_⟩
      · have e2 : upd (upd H1 D (.lst ((xs.take i).map g))) D (.lst ((xs.take i).map g ++ [g xv])) = upd H1 D (.lst ((xs.take (i + 1)).map g)) := by
          funext b
          by_cases hb : b = D
          · rw [hb, upd_same, upd_same, List.take_add_one, hxv]; simp
          · rw [upd_ne hb, upd_ne hb, upd_ne hb]
        rw [e2] at I11
        refine (I11.unpinned).weak (by rw [List.length_set]) fun k v e => ?_
        by_cases hk : k = j
        · exfalso
          subst hk
          have : (wipe σ ([(x, k)].map (·.2)))[k]? = some none := by
            show (σ.set k none)[k]? = some none
            rw [List.getElem?_set_self (by rw [I.len]; exact jl)]
          rw [this] at e; cases e
        · rw [List.getElem?_set_ne (Ne.symm hk)]; exact e
      · have := I11.pin (it, o) (List.mem_append_right _ (List.mem_append_right _ (mem_pinsAt (by simp) eo)))
        exact st'.at fun o' e' => by
          have : o' = o := by
            have e' : h'.get? it = some o' := e'
            rw [eo] at e'; exact (Option.some.inj e').symm
          subst this
          exact (I11.pin (it, o') (List.mem_append_right _ (List.mem_append_right _ (mem_pinsAt (by simp) eo)))).1
    · have ei : i = xs.length := by omega
      refine next_list_end_hot (x1 := p.1) ⟨hh, p.2, vs1, pin5.1, e1, c1⟩ st5 pl5.isList (by simp; omega) (f55 p (by simp)) fun h' eb => ?_
      have I6 : Inv (X.blk s3 H3 scope ce [it]) [p] (wipe σ ([(x, j)].map (·.2))) (upd H1 D (.lst ((xs.take i).map g))) { s5 with heap := h' } := I5.turned (t' := s5.toks) (fun b o hb e => eb b o hb e) f50 f51 f53 f54 f55
      have I7 : Inv X pins σ (upd H1 D (.lst ((xs.take i).map g))) { s5 with heap := h' } := I3.call' (ch := [it]) I6.os I6.base I6.hok I6.bare fun b hb => ⟨(f3 b hb).1.2.2.2.1, (f3 b hb).1.2.1, (f3 b hb).1.2.2.2.2.1, (f3 b hb).1.2.2.2.2.2⟩
      have nC : upd H1 D (.lst ((xs.take i).map g)) s3.heap.objs.size = none := by
        have z : upd H1 D (.lst ((xs.take i).map g)) ce.locals = none := I6.free
        rw [cL] at z
        exact z
      obtain ⟨mm, hn, _⟩ := I6.loc
      have hn : h'.Ns ce.locals mm := hn
      rw [cL] at hn
      obtain ⟨g0, g1, g2, g3, g4, g5⟩ : FpOk X pins (upd H1 D (.lst ((xs.take i).map g))) s3.heap.objs.size := I3.fpOk (Nat.le_refl _) nC
      refine ⟨mm, hn, fun h'' sb => ⟨.ref D, _, I7.turned (t' := s5.toks) (fun b o hb e => (sb.2 b hb).trans e) g0 g1 g3 g4 g5, rfl, ?_⟩⟩
      rw [ei, List.take_length]
      exact hq
  exact codeAny_compStart_list loop (wpAny_pyIter_listiter st4 loop)
end
end HD
set_option Elab.async false
set_option linter.all false
set_option maxRecDepth 100000
set_option maxHeartbeats 2000000
namespace HD
open PySem PySem.Spec PyProof.Rows L2 L2H HotX
section
variable {X : Cx}
theorem cr_sumH (hc : HotC X) : CallR X (.builtin "sum") (rSum X.K) := by
  intro pins s σ H vs us Q I r h
  obtain ⟨a, ns, rfl, hs, q⟩ := h
  obtain ⟨its, rv, hl, _⟩ := I.list hs
  obtain ⟨x1, hot⟩ := hc.at I
  rw [Vals.ref1 r]
  have hi := rv.ints
  obtain ⟨xs, e⟩ := hi.allInts.items
  have hn : numsOf (intItems xs).toList = ns := by rw [← e]; exact hi.numsOf
  rw [nums_intItems] at hn
  have hl' := hl.isList
  rw [e] at hl'
  refine sum_hot hot hl' fun h' tk t' hk => ?_
  rw [preSum_eq, List.take_of_length_le (by simp), hn]
  exact ⟨.int _, H, I.kept hk, ⟨_, rfl⟩, q⟩
/-- isinstance(e, c), e the handled exception that the context bears -/
theorem call_isH {D : Addr} {p : Addr × Obj} (hp : p ∈ X.pn) (C : ExcC X.K D) (hz : Zc (.ref D) none p.2) (hf : ∃ vs, p.2.data = .fields vs) : CallR X (.builtin "isinstance") (rIsE X.K D p.1) := by
  intro pins s σ H xs us Q I r h
  obtain ⟨c, cv, b, rfl, hcv, e, q⟩ := h
  cases r with
  | cons rx rr =>
    cases rr with
    | cons rt rr =>
      cases rr
      cases rx
      have ec := hcv _ rt
      subst ec
      obtain ⟨hget, _⟩ := I.pin p (List.mem_append_left _ hp)
      obtain ⟨vs, hv⟩ := hf
      have J : PySem.W.InstAt s.heap p.1 p.2 D none := by
        obtain ⟨pa, oc, od, oda, osl⟩ := p
        obtain ⟨h1, h2⟩ := hz
        dsimp only at h1 h2 hv
        subst h1 h2 hv
        exact ⟨hget, rfl, rfl, trivial⟩
      exact PySem.W.kia_one (PySem.W.handS_kitx_exc C.hg C.hk C.hs C.hd C.ha C.hn C.ht C.hm) I.kIn J e (fun z => nomatch z) fun tk => ⟨.bl b, H, I.kept (t' := tk) fun _ _ z => z, rfl, q⟩
end
end HD
set_option Elab.async false
set_option linter.all false
set_option maxRecDepth 100000
set_option maxHeartbeats 2000000
namespace HD
open PySem PySem.Spec PyProof.Rows L2 L2H HotX
/-- what such a def promises of the handled exception p, its arguments and the state -/
abbrev SpP := Addr × Obj → Sp
structure FnHP (P : Program) (w : World) (K : PySem.W.Frag) (mg : Str → Option Value) (base : Heap) (CX : CXT) (k : Nat) (f : Addr) (fd : FuncData) (ps : List Str) (sp : SpP) : Prop where
  len : ∀ p vs H Q E, sp p vs H Q E → vs.length = ps.length
  run : ∀ (A : Around) (outer : List Env) (s : Shared) (H : Hp) (args : Args) (us : List Value) (vs : List V) (Q : VK) (E : XK) (p : Addr × Obj), RoomH k A → Hot1 A p → PinOk outer H s p → Env0 P w K mg base A outer s H → BindsTo s fd args (ps.zip us) → Vals vs us → sp p vs H Q E →
    codeAny (model P w) A (.call (.ref f) args) (CR CX outer P w H s Q E) s
theorem fn_ofHP {CX : CXT} {P : Program} {w : World} {K : PySem.W.Frag} {mg : Str → Option Value} {base : Heap} {k : Nat} {f : Addr} {name qual : Str} {params : Arguments} {body : List Stmt} {scope : Scope} {dV kV doc pm cdv ct oc : Value} {an od : Option Addr}
    {osl : Array (Option Value)} {N ps : List Str} {sp : SpP} (lk : K.lookup f = some ⟨oc, od, .func (PySem.W.fnOf name qual params body scope dV kV doc pm an cdv ct), osl⟩) (hcd : PySem.W.codeIn K cdv qual = true) (S : FnScope N ps scope)
    (len : ∀ p vs H Q E, sp p vs H Q E → vs.length = ps.length)
    (hbody : ∀ (A : Around) (outer : List Env) (s : Shared) (H : Hp) (vs : List V) (Q : VK) (E : XK) (p : Addr × Obj), Hot1 A p → RoomH k (A.deeper (envOfC qual scope s.heap.objs.size f cdv)) → sp p vs H Q E →
      ∃ t, PSs (cxH CX P w K mg base N qual scope f cdv A outer s H E p) body t ∧ t { nx := fun _ H' => Q .non H', rt := Q } (L2.start N vs) H) :
    FnHP P w K mg base CX (k + 1) f (PySem.W.fnOf name qual params body scope dV kV doc pm an cdv ct) ps sp := by
  refine ⟨len, fun A outer s H args us vs Q E p hr hot hpin e0 hb r hsp => ?_⟩
  have hl := len _ _ _ _ _ hsp
  have KX : K.In s.heap := e0.mod.kin.keeps fun b o e => (e0.bs b o e).1
  have lim : s.heap.NoLimit := e0.mod.nolimit.keeps fun b o e => (e0.bs b o e).1
  refine codeAny_call_function hr.depth (KX _ _ lk) rfl S.co S.gen rfl (PySem.W.codeRec_of KX hcd) (hb _ _ _ _ ?_)
  refine wpAny_newFunctionEnv_cells S.kind (fun ⟨n, v⟩ hy => ?_) fun env he s1 x => ?_
  · rcases S.par n (List.of_mem_zip hy).1 with q | q
    · exact .inl q
    · exact .inr ⟨q, PySem.W.cellsFrom_some _ _ _ (.inl q)⟩
  subst he
  refine ⟨lim.keeps x.toInCall.keep, codeAny_func ?_⟩
  obtain ⟨t, ht, hq⟩ := hbody A outer s H vs Q E p hot (hr.deeper _) hsp
  have I := inv_startH (CX := CX) (E := E) (w := w) S hpin e0 hl r x
  refine wpAny_mono (ht.run [] s1 (L2.start N vs) H _ I hq) (fun fl s' hs => ?_) fun e s' hs => hs
  cases fl with
  | ret u =>
    obtain ⟨v, σ', H', J, rv, q⟩ := hs
    exact ⟨v, H', J.os, J.bare, J.base, J.hok, rv, q⟩
  | next =>
    obtain ⟨σ', H', J, q⟩ := hs
    exact ⟨V.non, H', J.os, J.bare, J.base, J.hok, rfl, q⟩
  | brk =>
    obtain ⟨_, _, _, q⟩ := hs
    exact False.elim q
  | cont =>
    obtain ⟨_, _, _, q⟩ := hs
    exact False.elim q
section
variable {X : Cx} {CX : CXT} {k : Nat} {f : Addr} {fd : FuncData} {ps : List Str} {sp : SpP} {E : L2.St → XK} {x : Str} {q pos : Pos} {e : Expr} {es : List Expr} {t : TA}
def tCallP (p : Addr × Obj) (sp : SpP) (E : L2.St → XK) (t : TA) : TE := fun σ H Q => t σ H fun vs H1 => sp p vs H1 Q (E σ)
theorem pe_callHP {p : Addr × Obj} (F : FnHP X.prog X.w X.K X.mg X.base CX k f fd ps sp) (hr : RoomH k X.A) (hot : Hot1 X.A p) (hp : p ∈ X.pn) (hg : Gl X x) (hm : X.mg x = some (.ref f)) (hk : PySem.W.keepIn X.K (.ref f) = true) (hb : Binds X.K fd ps []) (hx : ∀ σ, PassesAt CX X σ (E σ))
    (ha : PA X (e :: es) t) (hdb : (x == ("__debug__" : Str)) = false := by decide) (he : starEach (e :: es) X.env = (false, eval e X.env) :: starEach es X.env := by rfl) (hpl : (backTo pos (starEach es X.env)).any (·.1) = false := by rfl) :
    PE X (.Call (.Name x q) (e :: es) [] pos) (tCallP p sp E t) := by
  refine ⟨fun pins s σ H Q I h => ?_⟩
  refine wpAny_Call_Name_kw (ld_glob I hg hm ?_ hdb)
  refine PySem.W.callWith_K (h₀ := X.base) I.ok.mod.kin hk (thn (ha.run pos pins s σ H _ I h) fun us s1 ⟨vs, H1, I1, r, hsp⟩ => ⟨I1.kIn, ?_⟩) he hpl
  have hl : us.length = ps.length := by rw [← r.length]; exact F.len _ _ _ _ _ hsp
  have b := hb s1 us I1.kIn (by rw [List.append_nil]; exact hl)
  rw [List.append_nil] at b
  have P1 := I1.pin p (List.mem_append_left _ hp)
  have hpin : PinOk X.stack H1 s1 p := ⟨P1.1, P1.2.1, fun hm => (List.mem_cons.mp (I1.stkSub p.1 hm)).elim P1.2.2.1 P1.2.2.2.1, P1.2.2.2.2⟩
  refine wpAny_call (codeAny_mono (F.run X.A X.stack s1 H1 ⟨us, []⟩ us vs Q (E σ) p hr hot hpin I1.env0 b r hsp) fun r s' hq => ?_)
  cases r with
  | error e => exact hx σ pins H1 s1 e s' I1 hq
  | ok fl =>
    cases fl with
    | ret u => exact I1.after hq
    | next => exact False.elim hq
    | brk => exact False.elim hq
    | cont => exact False.elim hq
end
end HD
set_option Elab.async false
set_option linter.all false
set_option maxRecDepth 100000
set_option maxHeartbeats 2000000
namespace HD
open PySem PySem.Spec PyProof.Rows L2 L2H HotX
/-- the clauses, each with `as n` (slot i): what they wish of an exception of the body -/
def wAsM (K : PySem.W.Frag) (len i : Nat) (D : Ends) : List (Value × (Addr → Value → Option Addr → TS)) → WX
  | [] => fun _ _ _ _ => False
  | (c, ts) :: r => fun cls d σ H => ∃ b, PySem.W.exmOne K cls c = some b ∧ (b = true → σ.length = len → ∀ a, H a = none → ts a cls d { nx := fun σ' H' => D.nx (σ'.set i none) H', bk := fun σ' H' => D.bk (σ'.set i none) H', ct := fun σ' H' => D.ct (σ'.set i none) H', rt := D.rt } (σ.set i (some (.ref a))) H) ∧ (b = false → wAsM K len i D r cls d σ H)
inductive AsOk (X : Cx) (n : Str) : List ExceptHandler → List (Value × (Addr → Value → Option Addr → TS)) → Prop
  | nil : AsOk X n [] []
  | cons {x : Str} {c : Value} {ts : Addr → Value → Option Addr → TS} {b₀ : Stmt} {suite : List Stmt} {np pos' : Pos} {hds : List ExceptHandler} {l : List (Value × (Addr → Value → Option Addr → TS))} (hc : Names X x c)
      (hsu : ∀ (a : Addr) (oe : Obj) (cls : Value) (d : Option Addr) (pn : List (Addr × Obj)), L2N.Zn cls d oe → (∃ vs, oe.data = .fields vs) → PSs (X.suite a ((a, oe) :: pn)) (b₀ :: suite) (ts a cls d)) (r : AsOk X n hds l) :
      AsOk X n (.ExceptHandler (some (.Name x np)) (some n) (b₀ :: suite) pos' :: hds) ((c, ts) :: l)
section
variable {X : Cx} {n : Str} {i : Nat} {body : List Stmt} {h₀ : ExceptHandler} {hds : List ExceptHandler} {l : List (Value × (Addr → Value → Option Addr → TS))} {pos : Pos} {tb : WX → TS}
/-- each exception of the body is caught by one of the clauses -/
theorem ps_try_asM (hs : X.stack = X.env :: X.outer) (hf : X.env.frame = some X.env.locals) (hN : X.N.Nodup) (hi : X.N[i]? = some n) (hln : X.env.kindOf n = some .local)
    (hb : ∀ (W : WX) (pn : List (Addr × Obj)) (xe : Value → Shared → Prop), L2N.Takes (X.tr pn xe) W → PassesOwn (model X.prog X.w) X.A X.env xe → PSs (X.tr pn xe) body (tb W))
    (hh : AsOk X n (h₀ :: hds) l) : PS X (.Try body (h₀ :: hds) [] [] pos) (fun D σ H => tb (wAsM X.K X.N.length i D l) D σ H) := by
  refine ⟨fun pins s σ H D I h => ?_⟩
  have ok := I.ok
  have hfr : X.A.frames = some (X.env :: X.outer) := by rw [ok.frames, hs]
  have hloc : Loc X.env.scope n := .inl hln
  have caught : L2N.Takes (X.tr (X.pn ++ pins) fun e s₁ => wpAny (model X.prog X.w) X.A (noteFrame e X.env) (fun _ s₂ => wpAny (model X.prog X.w) X.A (setFlight e none) (fun _ s₃ =>
      wpAny (model X.prog X.w) X.A (handleBy e X.env (h₀ :: hds)) (SP X pins D) X.xe s₃) X.xe s₂) X.xe s₁) (wAsM X.K X.N.length i D l) := by
    rintro u s' ⟨a, B, sI, pins', σ', H', cls, d, rfl, J', nb, up, sky, na, os, ag, wsh⟩
    have J : Inv X pins σ' H' sI := J'.ofTry ok
    show wpAny (model X.prog X.w) X.A (noteFrame (.ref a) X.env) _ _ _
    refine L2N.Sky.land L2N.Zn.steady hfr hf (show Sky B (X.env :: X.outer) a (L2N.Zn cls d) X.env.locals s'.heap by rw [← hs]; exact sky) fun h3 fl3 up3 => ?_
    have J3 : Inv X pins σ' H' { s' with heap := h3 } := J.landed nb fl3.1 (up.trans up3) os ag
    obtain ⟨oe3, vs3, he3, hz3, hd3⟩ := fl3.there
    have nfr : a ∉ frs (X.env :: X.outer) := fun hm => by
      obtain ⟨_, o', e', hnf⟩ := fl3.2.2.1.mem hm
      rw [he3] at e'; cases e'
      exact hnf _ hd3
    have nL : a ≠ X.env.locals := fun z => nfr (List.mem_filterMap.mpr ⟨X.env, List.mem_cons_self, by rw [hf, z]⟩)
    have nF : a ∉ X.fs := fun hm => by
      obtain ⟨e, he, q⟩ := List.mem_filterMap.mp hm
      exact nfr (List.mem_filterMap.mpr ⟨e, List.mem_cons_of_mem _ he, q⟩)
    have S3 := J3.suite he3 hd3 na nL nF
    have LT : PySem.W.Looks (model X.prog X.w) h3 (typeOf (.ref a)) cls := fun A Q E s k q => wpAny_typeOf_ref (k _ _ he3) (by rw [hz3.1]; exact q)
    clear sky h
    generalize h₀ :: hds = hl at hh ⊢
    induction hh with
    | nil => exact wsh.elim
    | @cons x c ts b₀ suite np pos' hds2 l2 hc hsu r ih =>
      obtain ⟨b, hb1, hyes, hno⟩ := wsh
      refine wpAny_handleBy_cons (codeAny_handlers_test ?_) (by intro q; cases q)
      have LM := PySem.W.exm_one (M := model X.prog X.w) (J3.kIn) LT hb1
      have test : ∀ {Q : Value → Shared → Prop} {E : Value → Shared → Prop}, Q c { s' with heap := h3 } → wpAny (model X.prog X.w) (X.A.mark (some (.ref a))) (eval (.Name x np) X.env) Q E { s' with heap := h3 } := fun {Q E} q => by
        obtain ⟨hg, hdbg, hm | ⟨hm, hv, hnn⟩⟩ := hc
        · exact ld_glob (X := X.suite a ((a, oe3) :: (X.pn ++ pins))) S3 hg hm q hdbg
        · exact ld_blt (X := X.suite a ((a, oe3) :: (X.pn ++ pins))) S3 hg hm hv q hnn hdbg
      refine test (LM.here ?_)
      cases b with
      | false => exact ih (hno rfl)
      | true =>
        refine codeAny_handlers_suite_as ?_
        refine HandSPX.lands_againZ fl3 fun h4 fl4 up4 => ?_
        have J4 : Inv X pins σ' H' { s' with heap := h4 } := J.landed nb fl4.1 ((up.trans up3).trans up4) os ag
        obtain ⟨oe4, vs4, he4, hz4, hd4⟩ := fl4.there
        have S4 := J4.suite he4 hd4 na nL nF
        refine store_ok (X := X.suite a ((a, oe4) :: (X.pn ++ pins))) (v := .ref a) S4 hN hi hloc rfl (fun s5 S5 => ?_) (.inr hln)
        refine wpAny_mono ((hsu a oe4 cls d (X.pn ++ pins) hz4 ⟨_, hd4⟩).run [] s5 _ H' _ S5 (hyes rfl J.len a na)) (fun f s6 hsp => ?_) (fun _ _ z => False.elim z)
        have end_ : ∀ {σ6 : L2.St} {H6 : Hp} {Q : Shared → Prop}, Inv (X.suite a ((a, oe4) :: (X.pn ++ pins))) [] σ6 H6 s6 → (∀ s7, Inv X pins (σ6.set i none) H6 s7 → Q s7) →
            wpAny (model X.prog X.w) X.A (do bindName X.env n .none; unbindBehindTheSuite X.env n pos') (fun _ s7 => Q s7) X.xe s6 := fun {σ6 H6 Q} S6 hq => gone_ok (S6.unsuite ok) hN hi hln hq
        cases f with
        | next => obtain ⟨σ6, H6, S6, q6⟩ := hsp; exact end_ S6 fun s7 J7 => ⟨_, _, J7, q6⟩
        | brk => obtain ⟨σ6, H6, S6, q6⟩ := hsp; exact end_ S6 fun s7 J7 => ⟨_, _, J7, q6⟩
        | cont => obtain ⟨σ6, H6, S6, q6⟩ := hsp; exact end_ S6 fun s7 J7 => ⟨_, _, J7, q6⟩
        | ret u => obtain ⟨v6, σ6, H6, S6, r6, q6⟩ := hsp; exact end_ S6 fun s7 J7 => ⟨_, _, _, J7, r6, q6⟩
  refine wpAny_Try_except (wpAny_mono ((hb _ _ _ caught PassesOwn.looking).run [] s σ H D (I.toTry _) h) (fun f s1 hsp => ?_) fun e s1 he => he)
  cases f with
  | next => obtain ⟨σ', H', J', q⟩ := hsp; exact wpAny_execs_nil ⟨σ', H', J'.ofTry ok, q⟩
  | brk => obtain ⟨σ', H', J', q⟩ := hsp; exact ⟨σ', H', J'.ofTry ok, q⟩
  | cont => obtain ⟨σ', H', J', q⟩ := hsp; exact ⟨σ', H', J'.ofTry ok, q⟩
  | ret u => obtain ⟨v, σ', H', J', r, q⟩ := hsp; exact ⟨v, σ', H', J'.ofTry ok, r, q⟩
end
end HD
set_option Elab.async false
set_option linter.all false
set_option maxRecDepth 100000
set_option maxHeartbeats 2000000
namespace HD
open PySem PySem.Spec PyProof.Rows L2 L2H HotX LamX
/-- the context of the lambda's body -/
abbrev lamN (X : Cx) (A : Around) (outer : List Env) (s : Shared) (H : Hp) (E : XK) (scope : Scope) (f c' : Addr) : Cx :=
  (lamCx X A outer s H E scope f c').tr [] fun e s' => wpAny (model X.prog X.w) (A.deeper (lamEnv X scope s.heap.objs.size f c')) (leaving (lamEnv X scope s.heap.objs.size f c') e) (fun _ s'' => L2N.CX X.prog X.w outer H s E e s'') (fun e' s'' => L2N.CX X.prog X.w outer H s E e' s'') s'
section
variable {X : Cx} {pins : List (Addr × Obj)} {σ : L2.St} {H HZ : Hp} {s s1 : Shared}
theorem act_N {CXg : CXT} {Eg : XK} {Ng : List Str} {qg : Str} {sg : Scope} {g f c' : Addr} {cdg pm ctv : Value} {params : Arguments} {body : Expr} {scope : Scope} {k i : Nat} {a : Str} {pn : List (Addr × Obj)} {xe : Value → Shared → Prop} {W : WX} {E : XK} {tb : TE} {p1 p2 : Pos}
    (I : Inv X pins σ H s) (L : LamS X.env.scope scope) (hf : s.heap.get? f = some (PySem.W.kla_obj "<lambda>" (X.env.qual ++ "<lambda>") params body scope (cloFrom X.env.cells scope.names []) pm c' ctv)) (hfn : H f = none) (hfr : f ∉ frs X.stack)
    (hbind : bindArgs (PySem.W.kla_fn "<lambda>" (X.env.qual ++ "<lambda>") params body scope (cloFrom X.env.cells scope.names []) pm (.ref c') ctv) ⟨[], []⟩ = pure [])
    (tk : L2N.Takes ((cxOf CXg X.prog X.w X.K X.mg X.base Ng qg sg g cdg X.A X.stack s H Eg).tr pn xe) W) (hW : ∀ cls d σ' H', E cls d H' → W cls d σ' H') (hr : Room (k + 1) (X.A.deeper (envOfC qg sg s.heap.objs.size g cdg)))
    (hbody : ∀ (A : Around) (outer : List Env) (s : Shared) (H : Hp), Room k (A.deeper (lamEnv X scope s.heap.objs.size f c')) → PE (lamN X A outer s H E scope f c') body tb)
    (hN : Ng[i]? = some a) (hv : Vis sg a) (hd : (a == ("__debug__" : Str)) = false := by decide) (hcd : (a == ("__classdict__" : Str)) = false := by decide) :
    PE ((cxOf CXg X.prog X.w X.K X.mg X.base Ng qg sg g cdg X.A X.stack s H Eg).tr pn xe) (.Call (.Name a p1) [] [] p2)
      (fun σZ HZ Q => σZ[i]? = some (some (.ref f)) ∧ HZ c' = some (CodeO c' (X.env.qual ++ "<lambda>")) ∧ tb σ HZ Q) := by
  refine ⟨fun pinsZ sZ σZ HZ Q IZ ⟨hs, hc, ht⟩ => ?_⟩
  refine wpAny_Call_Name_kw (thn ((pe_var (pos := p1) (i := i) hN hv hd hcd).run pinsZ sZ σZ HZ (fun v H1 => v = .ref f ∧ H1 = HZ) IZ ⟨.ref f, hs, rfl, rfl⟩) fun u s1 ⟨v, H1, I1, r1, ev, eH⟩ => ?_)
  subst ev
  rw [eH] at I1
  obtain rfl : u = Value.ref f := r1
  have of1 : s1.heap.get? f = some (PySem.W.kla_obj "<lambda>" (X.env.qual ++ "<lambda>") params body scope (cloFrom X.env.cells scope.names []) pm c' ctv) := I1.base.keep f _ hf hfn hfr (fun z => nomatch (show f ∈ ([] : List Addr) from z))
  refine PySem.W.callWith_F0 ⟨_, _, _, _, of1⟩ ?_
  have un : Un (frs X.stack) [] H HZ s.heap s1.heap := I1.base
  obtain ⟨⟨oc, vs, t, hoc, hdc, hvc⟩, _, _⟩ := I1.hok c' _ hc
  have rc : codeAny (model X.prog X.w) (X.A.deeper (envOfC qg sg s.heap.objs.size g cdg)) (.call (.ref f) ⟨[], []⟩) (CR (L2N.CX X.prog X.w) (envOfC qg sg s.heap.objs.size g cdg :: X.stack) X.prog X.w HZ s1 Q E) s1 := by
    refine PySem.W.kla_callFunE hr.depth of1 rfl L.co L.gen rfl ⟨c', oc, vs, t, rfl, hoc, hdc, hvc⟩ ?_
    rw [hbind]
    refine wpAny_pure (wpAny_newFunctionEnv (fun y hy => (L.own y hy).2) (fun y hy => absurd hy (by simp)) (fun h₁ hns hsb => ⟨I1.nolimit.fresh _ hsb, ?_⟩) L.kind)
    show codeAny _ _ (.expr body (lamEnv X scope s1.heap.objs.size f c')) _ _
    have kp : ∀ b o, s1.heap.get? b = some o → h₁.get? b = some o := fun b o e => hsb.extBut b o (Nat.ne_of_lt (Heap.lt_size e)) (Heap.get?_push_of_some _ e)
    have J0 : Inv (lamCx X (X.A.deeper (envOfC qg sg s.heap.objs.size g cdg)) (envOfC qg sg s.heap.objs.size g cdg :: X.stack) s1 HZ E scope f c') [] σ HZ { s1 with heap := h₁, toks := s1.toks + ([] : List (Str × Value)).length } :=
      lam_start2 I L I1.env0 hr.hd un hns kp
    have J : Inv (lamN X (X.A.deeper (envOfC qg sg s.heap.objs.size g cdg)) (envOfC qg sg s.heap.objs.size g cdg :: X.stack) s1 HZ E scope f c') [] σ HZ { s1 with heap := h₁, toks := s1.toks + ([] : List (Str × Value)).length } := J0.toTry _
    refine PySem.W.kla_codeExpr (wpAny_mono ((hbody _ _ s1 HZ (hr.deeper _)).run [] _ _ HZ Q J ht) (fun v s' hq => ?_) fun e s' hq => hq)
    obtain ⟨w', H', J', rv, q⟩ := hq
    exact ⟨w', H', J'.os, J'.bare, J'.base, J'.hok, rv, q⟩
  have hx := L2N.passes_call (E := E) tk hW
  refine wpAny_call (codeAny_mono rc fun r s' hq => ?_)
  cases r with
  | error e => exact hx pinsZ σZ HZ s1 e s' I1 hq
  | ok fl =>
    cases fl with
    | ret u => exact I1.after hq
    | next => exact False.elim hq
    | brk => exact False.elim hq
    | cont => exact False.elim hq
end
section
variable [DL.TabCtx] {X : Cx} {pins : List (Addr × Obj)} {σ : L2.St} {H : Hp} {s : Shared}
/-- a code object is new, its table grows -/
theorem ext_grown {V : Hp} {P n : Addr} {q : Str} {ps more : Array Value} {u : HO} (hP : H P = some (.tbl ps)) (hn : H n = none) (sv : Same V H) (vP : V P = none) (ht : Tabs DL.TBS H → Tabs DL.TBS (upd (upd H P (.tbl more)) n u)) : DL.Ext H V (upd (upd H P (.tbl more)) n u) V := by
  have nn : ∀ {b : Addr}, H b ≠ none → b ≠ n := fun {b} h z => h (by rw [z]; exact hn)
  have at_ : ∀ {b : Addr}, b ≠ P → b ≠ n → upd (upd H P (.tbl more)) n u b = H b := fun {b} h1 h2 => by rw [upd_ne h2, upd_ne h1]
  refine ⟨fun b o e nt => ?_, Same.refl _, fun b o e => ?_, fun _ z _ => z, fun b h => ?_, ht⟩
  · rw [at_ (fun z => nt ps (Option.some.inj (e.symm.trans (by rw [z]; exact hP)))) (nn (by rw [e]; exact fun z => nomatch z))]; exact e
  · have e2 := sv b o e
    rw [at_ (fun z => by rw [z, vP] at e; cases e) (nn (by rw [e2]; exact fun z => nomatch z))]; exact e2
  · by_cases hb : b = P
    · rw [hb, upd_ne (by rw [← hb]; exact nn h), upd_same]; exact fun z => nomatch z
    · rw [at_ hb (nn h)]; exact h
/-- the lambda is made; what is known of the heap behind -/
theorem lam_makeT {c P : Addr} {params : Arguments} {body : Expr} {scope : Scope} {pos : Pos} {E Q : Value → Shared → Prop} (TB : TabB X.base X.mg c P) (hcode : X.env.code = .ref c) (I : Inv X pins σ H s)
    (hm : (P, X.env.qual ++ "<lambda>") ∈ DL.TBS) (hu : ∀ p ∈ DL.TBS, p.1 = P → p.2 = X.env.qual ++ "<lambda>") (hT : Tabs DL.TBS H) (hdef : defaultsOf params X.env = ([], []))
    (hfree : ∀ y ∈ scope.names, y.2 = .free → ∃ c, X.env.cells.lookup y.1 = some c)
    (h : ∀ (f n : Addr) (pm ctv : Value) (H1 : Hp) (s1 : Shared), Inv X pins σ H1 s1 → (∀ V, Same V H → V P = none → DL.Ext H V H1 V) → H1 f = none → f ∉ frs X.stack → H1 n = some (CodeO n (X.env.qual ++ "<lambda>")) →
      s1.heap.get? f = some (PySem.W.kla_obj "<lambda>" (X.env.qual ++ "<lambda>") params body scope (cloFrom X.env.cells scope.names []) pm n ctv) → s.heap.objs.size ≤ f → Q (.ref f) s1) :
    wpAny (model X.prog X.w) X.A (eval (.Lambda params body scope pos) X.env) Q E s := by
  obtain ⟨tb, hP, tOk, tAll⟩ := hT _ hm
  have gP : s.heap.get? P = some { cls := .none, data := .fields tb } := I.hok P _ hP
  have far : ∀ b, s.heap.objs.size ≤ b → b ∉ frs X.stack := fun b hb z =>
    (List.mem_cons.mp (I.stkSub _ z)).elim (fun e => Nat.lt_irrefl _ (Nat.lt_of_lt_of_le (by have := I.lt; rw [← e] at this; exact this) hb)) fun e => I.nofs hb e
  refine PySem.W.kla_eval hdef ?_
  cases q : codeAmong pos tb.toList with
  | some cv =>
    obtain ⟨n, rfl, hn⟩ := tAll pos cv q
    refine PySem.W.kla_makeFunctionHit (mg := X.mg) (closure_ok hfree) I.ok.glob (I.mod.glob.keeps I.bk) hcode (TB.code.keeps I.bk) gP tOk q (TB.bm.keeps I.bk) fun ctv h1 tk k1 sz => ?_
    refine h h1.objs.size n ((X.mg "__name__").getD .none) ctv H _ ?_ (fun V sv _ => DL.Ext.refl sv) (I.hok.fresh sz) (far _ sz) hn (Heap.get?_push_size _ rfl) sz
    exact I.kept fun b o e => Heap.get?_push_of_some _ (k1 b o e)
  | none =>
    refine PySem.W.kla_makeFunction (mg := X.mg) (closure_ok hfree) I.ok.glob (I.mod.glob.keeps I.bk) hcode (TB.code.keeps I.bk) gP tOk q TB.gP (TB.bm.keeps I.bk) fun n ctv h1 tk k1 ge lt rc tb1 => ?_
    obtain ⟨_, ob, us, t, e0, e1, e2, e3⟩ := rc
    cases e0
    have hn : H n = none := I.hok.fresh ge
    have sz : s.heap.objs.size ≤ h1.objs.size := Nat.le_trans ge (Nat.le_of_lt lt)
    have nPn : P ≠ n := ne_of_none hP hn
    have J := inv_table (t' := tk) (q := X.env.qual ++ "<lambda>") (h' := h1.push (PySem.W.kla_obj "<lambda>" (X.env.qual ++ "<lambda>") params body scope (cloFrom X.env.cells scope.names []) ((X.mg "__name__").getD .none) n ctv)) I hP (fun b o hb e => Heap.get?_push_of_some _ (k1 b o hb e))
      (Heap.get?_push_of_some _ tb1) ge ⟨ob, us, t, Heap.get?_push_of_some _ e1, e2, e3⟩
    have kept : ∀ b u, H b = some u → (∀ ps, u ≠ .tbl ps) → upd (upd H P (.tbl (tb ++ #[rawInt pos.line, rawInt pos.col, .ref n]))) n (CodeO n (X.env.qual ++ "<lambda>")) b = some u := fun b u e nt => by
      rw [upd_ne (ne_of_none e hn), upd_ne (fun z => nt tb (Option.some.inj (e.symm.trans (by rw [z]; exact hP))))]; exact e
    refine h h1.objs.size n ((X.mg "__name__").getD .none) ctv _ _ J (fun V sv vP => ext_grown (q := X.env.qual) hP hn sv vP fun _ p hp => ?_) ?_ (far _ sz) upd_same (Heap.get?_push_size _ rfl) sz
    · by_cases hb : p.1 = P
      · rw [hu p hp hb, hb]
        have eL : (tb ++ #[rawInt pos.line, rawInt pos.col, .ref n]).toList = tb.toList ++ [rawInt pos.line, rawInt pos.col, .ref n] := by simp
        refine ⟨_, by rw [upd_ne nPn, upd_same], by rw [eL]; exact PySem.TriplesOk_snoc _ _ _ _ tOk, fun p2 v2 hv => ?_⟩
        rw [eL] at hv
        rcases among_app _ tOk hv with z | z
        · obtain ⟨d, d1, d2⟩ := tAll p2 v2 z
          exact ⟨d, d1, kept _ _ d2 codeO_ne⟩
        · exact ⟨n, z, upd_same⟩
      · obtain ⟨tb', a1, a2, a3⟩ := hT p hp
        refine ⟨tb', by rw [upd_ne (ne_of_none a1 hn), upd_ne hb]; exact a1, a2, fun p2 v2 hv => ?_⟩
        obtain ⟨d, d1, d2⟩ := a3 p2 v2 hv
        exact ⟨d, d1, kept _ _ d2 codeO_ne⟩
    · rw [upd_ne (Nat.ne_of_gt lt), upd_ne (Nat.ne_of_gt (Nat.lt_of_lt_of_le (Heap.lt_size gP) sz))]
      exact I.hok.fresh sz
end
section
variable {X : Cx} {pins : List (Addr × Obj)} {σ : L2.St} {H HZ : Hp} {s s1 : Shared}
/-- the def that calls what it got -/
def GivesN (X : Cx) (Ng : List Str) (x : Str) (sg : Scope) (g : Addr) (cdg : Value) (bg : List Stmt) (a : Str) (q : Str) (TT : (XK → Hp → VK → Prop) → Hp → VK → Prop) : Prop :=
  ∀ (k : Nat) (f c' : Addr) (s : Shared) (H : Hp) (Q : VK) (tl : XK → Hp → VK → Prop), Room (k + 1) (X.A.deeper (envOfC x sg s.heap.objs.size g cdg)) →
    (∀ (W : WX) (pn : List (Addr × Obj)) (xe : Value → Shared → Prop) (E : XK) (p1 p2 : Pos), L2N.Takes ((cxOf C8.CX0 X.prog X.w X.K X.mg X.base Ng x sg g cdg X.A X.stack s H C8.E0).tr pn xe) W → (∀ cls d σ' H', E cls d H' → W cls d σ' H') →
      PE ((cxOf C8.CX0 X.prog X.w X.K X.mg X.base Ng x sg g cdg X.A X.stack s H C8.E0).tr pn xe) (.Call (.Name a p1) [] [] p2) (fun σZ HZ Q => σZ[0]? = some (some (.ref f)) ∧ HZ c' = some (CodeO c' q) ∧ tl E HZ Q)) →
    H c' = some (CodeO c' q) → TT tl H Q →
    ∃ t, PSs (cxOf C8.CX0 X.prog X.w X.K X.mg X.base Ng x sg g cdg X.A X.stack s H C8.E0).nox bg t ∧ t { nx := fun _ H' => Q .non H', rt := Q } (L2.start Ng [.ref f]) H
section
variable [DL.TabCtx]
def tLamT (P : Addr) (TT : (XK → Hp → VK → Prop) → Hp → VK → Prop) (t : XK → TE) : TE := fun σ H Q => Tabs DL.TBS H ∧ ∀ H1, (∀ V, Same V H → V P = none → DL.Ext H V H1 V) → TT (fun E H' Q' => t E σ H' Q') H1 Q
theorem lamcall_N {TT : (XK → Hp → VK → Prop) → Hp → VK → Prop} {x a : Str} {g c P : Addr} {k : Nat} {pg : Arguments} {bg : List Stmt} {sg : Scope} {dV kV doc pm cdv ct oc : Value} {an od : Option Addr} {osl : Array (Option Value)} {Ng : List Str}
    {params : Arguments} {body : Expr} {scope : Scope} {t : XK → TE} {p lpos pos : Pos} (hg : Gl X x) (hm : X.mg x = some (.ref g)) (hk : PySem.W.keepIn X.K (.ref g) = true)
    (lk : X.K.lookup g = some ⟨oc, od, .func (PySem.W.fnOf x x pg bg sg dV kV doc pm an cdv ct), osl⟩) (hcg : PySem.W.codeIn X.K cdv x = true) (hb : L2.Binds X.K (PySem.W.fnOf x x pg bg sg dV kV doc pm an cdv ct) [a] []) (Sg : FnScope Ng [a] sg) (hNg : Ng[0]? = some a) (hva : Vis sg a)
    (hG : GivesN X Ng x sg g cdv bg a (X.env.qual ++ "<lambda>") TT)
    (TB : TabB X.base X.mg c P) (hcode : X.env.code = .ref c) (hmT : (P, X.env.qual ++ "<lambda>") ∈ DL.TBS) (hu : ∀ p ∈ DL.TBS, p.1 = P → p.2 = X.env.qual ++ "<lambda>") (hr : Room (k + 2) X.A) (L : LamS X.env.scope scope) (hdef : defaultsOf params X.env = ([], []))
    (hbind : ∀ (q : Str) (cl : List (Str × Addr)) (pm cv ctv : Value), bindArgs (PySem.W.kla_fn "<lambda>" q params body scope cl pm cv ctv) ⟨[], []⟩ = pure [])
    (hbody : ∀ (A : Around) (outer : List Env) (s : Shared) (H : Hp) (E : XK) (f c' : Addr), Room k (A.deeper (lamEnv X scope s.heap.objs.size f c')) → PE (lamN X A outer s H E scope f c') body (t E))
    (hdb : (x == ("__debug__" : Str)) = false := by decide) (hd : (a == ("__debug__" : Str)) = false := by decide) (hcd : (a == ("__classdict__" : Str)) = false := by decide) :
    PE X (.Call (.Name x p) [.Lambda params body scope lpos] [] pos) (tLamT P TT t) := by
  refine ⟨fun pins s σ H Q I ⟨hT, h⟩ => ?_⟩
  refine wpAny_Call_Name_kw (ld_glob I hg hm ?_ hdb)
  refine PySem.W.callWith_K (h₀ := X.base) I.ok.mod.kin hk ?_ (by rfl) (by rfl)
  show wpAny _ _ (spliced ((false, eval (.Lambda params body scope lpos) X.env) :: backTo pos (starEach [] X.env))) _ _ s
  refine Calls.spliced_cons (lam_makeT TB hcode I hmT hu hT hdef (L.has I.ok) fun f c' pm' ctv H1 s' I1 eN hfn hfr hco hf _ => ?_)
  refine Calls.spliced_nil ⟨I1.kIn, ?_⟩
  have rc : codeAny (model X.prog X.w) X.A (.call (.ref g) ⟨[.ref f], []⟩) (CR C8.CX0 X.stack X.prog X.w H1 s' Q C8.E0) s' := by
    refine run_ofS (N := Ng) (ps := [a]) (us := [.ref f]) (vs := [.ref f]) lk hcg Sg hr I1.env0 (hb s' [.ref f] I1.kIn rfl) (.cons rfl .nil) rfl fun hr' => ?_
    obtain ⟨t', ht', hq'⟩ := hG k f c' s' H1 Q (fun E H' Q' => t E σ H' Q') hr' (fun W pn xe E p1 p2 tk hW => act_N (i := 0) I1 L hf hfn hfr (hbind _ _ _ _ _) tk hW hr' (fun A outer s H hr2 => hbody A outer s H E f c' hr2) hNg hva hd hcd) hco (h H1 eN)
    exact ⟨t', ht'.nox, hq'⟩
  refine wpAny_call (codeAny_mono rc fun r s2 hq => ?_)
  cases r with
  | error e => exact (show False from hq).elim
  | ok fl =>
    cases fl with
    | ret u => exact I1.after hq
    | next => exact False.elim hq
    | brk => exact False.elim hq
    | cont => exact False.elim hq
end
end
end HD
set_option Elab.async false
set_option linter.all false
set_option maxRecDepth 100000
set_option maxHeartbeats 2000000
namespace HD
open PySem PySem.Spec PyProof.Rows L2 L2H HotX LamX
variable [DL.TabCtx]
def refusedD (c : Str) : PyData := .tuple [.str "refused", .str c]
/-- the refusal's term -/
def spTerm (K : DL.KW) (ok : Str → Prop) : SpP := fun p vs H Q _ => vs = [.ref p.1] ∧ ∃ c V, ok c ∧ DL.TabV H V ∧ Same V H ∧ Zc (.ref (He.ga K c)) none p.2 ∧ (∃ vs, p.2.data = .fields vs) ∧ ∀ v H' V', DL.Ext H V H' V' → DL.Rep K V' v (refusedD c) → Q v H'
/-- what told makes of the lambda's reading -/
def TToldN (K : DL.KW) (ok : Str → Prop) : (XK → Hp → VK → Prop) → Hp → VK → Prop := fun tl H Q =>
  tl (fun cls d H' => ∃ c V, cls = .ref (He.ga K c) ∧ d = none ∧ ok c ∧ DL.TabV H' V ∧ Same V H' ∧ ∀ v H2 V2, DL.Ext H' V H2 V2 → DL.Rep K V2 v (refusedD c) → Q v H2) H Q
section
variable {X : Cx}
theorem pss_never {Y : Cx} {sts : List Stmt} : PSs Y sts (fun _ _ _ => False) := ⟨fun _ _ _ _ _ _ h => h.elim⟩
theorem told_N {ok : Str → Prop} {sg : Scope} {g f CL SE : Addr} {cdg : Value} {q : Str} {fd : FuncData} {s₁ : Expr} {p1 p2 p3 p4 p5 p6 p7 p8 p9 p10 p11 p12 p13 : Pos}
    (F : ∀ k, FnHP X.prog X.w X.K X.mg X.base C8.CX0 (k + 1) f fd ["e"] (spTerm X.kw ok)) (hb : L2.Binds X.K fd ["e"] []) (hkf : PySem.W.keepIn X.K (.ref f) = true) (hmf : X.mg "_law_term" = some (.ref f))
    (hgt : sg.names.lookup ("_law_term" : Str) = some .globalImplicit) (hgc : sg.names.lookup ("Clash" : Str) = some .globalImplicit) (hgs : sg.names.lookup ("SongError" : Str) = some .globalImplicit) (hle : sg.names.lookup ("e" : Str) = some .local) (hmc : X.mg "Clash" = some (.ref CL)) (hms : X.mg "SongError" = some (.ref SE))
    (hok : ∀ c, ok c → PySem.W.exmOne X.K (.ref (He.ga X.K c)) (.ref CL) = some false ∧ PySem.W.exmOne X.K (.ref (He.ga X.K c)) (.ref SE) = some true) :
    GivesN X ["deed", "e"] "_law_told" sg g cdg [.Try [.Return (some (.Call (.Name "deed" p1) [] [] p2)) p3] [.ExceptHandler (some (.Name "Clash" p4)) (some "e") [.Return (some s₁) p5] p6, .ExceptHandler (some (.Name "SongError" p7)) (some "e") [.Return (some (.Call (.Name "_law_term" p8) [.Name "e" p9] [] p10)) p11] p12] [] [] p13] "deed" q (TToldN X.kw ok) := by
  intro k fl c' s H Q tl hr act hc h
  let ts : Addr → Value → Option Addr → TS := fun a cls d D σ H => σ[1]? = some (some (.ref a)) ∧ ∃ c V, cls = .ref (He.ga X.K c) ∧ d = none ∧ ok c ∧ DL.TabV H V ∧ Same V H ∧ ∀ v H2 V2, DL.Ext H V H2 V2 → DL.Rep X.kw V2 v (refusedD c) → D.rt v H2
  refine ⟨_, pss_one (ps_try_asM (X := (cxOf C8.CX0 X.prog X.w X.K X.mg X.base ["deed", "e"] "_law_told" sg g cdg X.A X.stack s H C8.E0).nox) (n := "e") (i := 1)
      (l := [(.ref CL, fun _ _ _ _ _ _ => False), (.ref SE, ts)])
      (tb := fun W D σ H => ∃ Ech : XK, (∀ cls d σ' H', Ech cls d H' → W cls d σ' H') ∧ σ[0]? = some (some (.ref fl)) ∧ H c' = some (CodeO c' q) ∧ tl Ech H D.rt)
      rfl rfl (show (["deed", "e"] : List Str).Nodup by decide) rfl hle (fun W pn xe tk _ => ?_) (.cons ⟨hgc, by decide, .inl hmc⟩ (fun _ _ _ _ _ _ _ => pss_never) (.cons ⟨hgs, by decide, .inl hms⟩ (fun a oe cls d pn hz hf => ?_) .nil))), ?_⟩
  · refine ⟨fun pins s' σ H' D I h' => ?_⟩
    obtain ⟨Ech, hW, h1, h2, h3⟩ := h'
    exact (pss_one (ps_ret (pos := p3) (act W pn xe Ech p1 p2 tk hW))).run pins s' σ H' D I ⟨h1, h2, h3⟩
  · obtain ⟨vs, hv⟩ := hf
    have hot : Hot1 (X.A.deeper (envOfC "_law_told" sg s.heap.objs.size g cdg) |>.mark (some (.ref a))) (a, oe) := ⟨rfl, vs, hv, hz.2.2 vs hv⟩
    have hrh : RoomH (k + 1) (X.A.deeper (envOfC "_law_told" sg s.heap.objs.size g cdg) |>.mark (some (.ref a))) := ⟨hr.dp, hr.un⟩
    refine DL.PSs.imp (pss_one (ps_ret (pos := p11) (pe_callHP (p := (a, oe)) (E := fun _ => C8.E0) (F k) hrh hot (by simp) hgt hmf hkf hb (fun _ _ _ _ _ _ _ z => z.elim) (pa_cons (pe_var (i := 1) (pos := p9) rfl (.inl hle)) pa_nil)))) fun D σ H' ⟨h1, c, V, e1, e2, hk, htv, hsv, hq⟩ => ?_
    subst e1 e2
    exact ⟨.ref a, h1, rfl, c, V, hk, htv, hsv, hz.zc, ⟨vs, hv⟩, hq⟩
  · refine ⟨_, fun cls d σ' H' ⟨c, V, e1, e2, hk, htv, hsv, hq⟩ => ?_, rfl, hc, h⟩
    subst e1
    refine ⟨false, (hok c hk).1, (fun z => nomatch z), fun _ => ⟨true, (hok c hk).2, fun _ hl a na => ⟨?_, c, V, rfl, e2, hk, htv, hsv, hq⟩, (fun z => nomatch z)⟩⟩
    rw [List.getElem?_set_self (by rw [hl]; exact (by decide : 1 < (["deed", "e"] : List Str).length))]
end
end HD
set_option Elab.async false
set_option linter.all false
set_option maxRecDepth 100000
set_option maxHeartbeats 2000000
namespace HD
open PySem PySem.Spec PyProof.Rows L2 L2H HotX DL
variable [TabCtx]
section
variable {X : Cx} {F : Fr} {p1 p2 p3 pos : Pos}
theorem pm_isC {p : Addr × Obj} {D C : Addr} {c : Str} {b : Bool} (hp : p ∈ X.pn) (EC : ExcC X.K D) (hz : Zc (.ref D) none p.2) (hf : ∃ vs, p.2.data = .fields vs) (hL : F.lent = some p.1) (hmi : X.mg "isinstance" = none) (hmc : X.mg c = some (.ref C)) (hk : PySem.W.kitOne X.K (.ref D) (.ref C) = some b)
    (hls : F.ls = 0 := by rfl) (hN : X.N[0]? = some ("e" : Str) := by rfl) (hv : Vis X.env.scope "e" := by exact Or.inl rfl) (hgi : Gl X "isinstance" := by rfl) (hgc : Gl X c := by rfl) (hdb : (c == ("__debug__" : Str)) = false := by decide)
    (he : starEach [.Name "e" p2, .Name c p3] X.env = (false, eval (.Name "e" p2) X.env) :: starEach [.Name c p3] X.env := by rfl) (he2 : starEach [.Name c p3] X.env = (false, eval (.Name c p3) X.env) :: starEach [] X.env := by rfl) (hpl : (backTo pos (starEach [.Name c p3] X.env)).any (·.1) = false := by rfl) :
    PM X F (.Call (.Name "isinstance" p1) [.Name "e" p2, .Name c p3] [] pos) (cD (.bool b)) := by
  refine DL.PE.imp (pe_callB (call_isH hp EC hz hf) hgi hmi (by decide +kernel) (pa_cons (pe_var (i := 0) hN hv (by decide) (by decide)) (pa_cons (pe_glob (v := .ref C) hgc hmc rfl hdb) pa_nil he2) he) (by decide) (by decide) he hpl) fun σ H Q ⟨V, ρ, E, g⟩ => ?_
  refine ⟨.ref p.1, hls ▸ E.lent _ hL, .ref C, .ref C, b, rfl, fun u hu => hu, hk, ?_⟩
  exact g _ _ _ E.refl (.bl b)
/-- isinstance(e, ValueError) -/
theorem pm_isB {p : Addr × Obj} {D : Addr} {c t : Str} {T : String} {b : Bool} (hp : p ∈ X.pn) (EC : ExcC X.K D) (hz : Zc (.ref D) none p.2) (hf : ∃ vs, p.2.data = .fields vs) (hL : F.lent = some p.1) (hmi : X.mg "isinstance" = none) (hmc : X.mg c = none) (hbt : bootBuiltins c = some (.type T)) (hk : PySem.W.kitOne X.K (.ref D) (.type T) = some b)
    (hls : F.ls = 0 := by rfl) (hN : X.N[0]? = some ("e" : Str) := by rfl) (hv : Vis X.env.scope "e" := by exact Or.inl rfl) (hgi : Gl X "isinstance" := by rfl) (hgc : Gl X c := by rfl) (hdb : (c == ("__debug__" : Str)) = false := by decide) (hnn : c ≠ "__name__" := by decide)
    (he : starEach [.Name "e" p2, .Name c p3] X.env = (false, eval (.Name "e" p2) X.env) :: starEach [.Name c p3] X.env := by rfl) (he2 : starEach [.Name c p3] X.env = (false, eval (.Name c p3) X.env) :: starEach [] X.env := by rfl) (hpl : (backTo pos (starEach [.Name c p3] X.env)).any (·.1) = false := by rfl) :
    PM X F (.Call (.Name "isinstance" p1) [.Name "e" p2, .Name c p3] [] pos) (cD (.bool b)) := by
  refine DL.PE.imp (pe_callB (call_isH hp EC hz hf) hgi hmi (by decide +kernel) (pa_cons (pe_var (i := 0) hN hv (by decide) (by decide)) (pa_cons (pe_bltn (v := .ty T) hgc hmc hbt rfl hnn hdb) pa_nil he2) he) (by decide) (by decide) he hpl) fun σ H Q ⟨V, ρ, E, g⟩ => ?_
  refine ⟨.ref p.1, hls ▸ E.lent _ hL, .ty T, .type T, b, rfl, fun u hu => hu, hk, ?_⟩
  exact g _ _ _ E.refl (.bl b)
end
end HD
set_option Elab.async false
set_option linter.all false
set_option maxRecDepth 100000
set_option maxHeartbeats 2000000
namespace HD
open PySem PySem.Spec PyProof.Rows L2 L2H HotX DL
variable [TabCtx]
/-- [int(b) for b in l] -/
def gIntsB : PyData → Option PyData
  | .list ds => match boolsD ds with
    | some bs => if bs.length ≤ 1000 then some (.list (bs.map fun b => .int (if b then 1 else 0))) else none
    | none => none
  | _ => none
def vInt : L2.V → L2.V
  | .bl b => .int (if b then 1 else 0)
  | v => v
section
variable {X : Cx} {F : Fr}
theorem repL_ints {K : KW} {V : Hp} : ∀ bs : List Bool, RepL K V ((bs.map L2.V.bl).map vInt) (bs.map fun b => .int (if b then 1 else 0))
  | [] => .nil
  | b :: bs => .cons (.int _) (repL_ints bs)
theorem pm_lcI {elt iter : Expr} {x : Str} {px : Pos} {scope : Scope} {j : Nat} {pos : Pos} {fi : M PyData} {te : TE} {p : Addr × Obj} (hot : Hot1 X.A p) (hp : p ∈ X.pn) (hN : X.N.Nodup) (hj : X.N[j]? = some x) (hi : PM X F iter fi) (ok : BlkOk X.N X.env.scope scope [(x, j)])
    (hg : ∀ (s : Shared) (H : Hp) (C : Addr) (cl : List (Str × Addr)) (fp : List Addr), PG (X.blk s H scope (compEnvC scope cl C X.env) fp) (.Name x px) (gName j))
    (he : ∀ (s : Shared) (H : Hp) (C : Addr) (cl : List (Str × Addr)) (fp : List Addr), PE (X.blk s H scope (compEnvC scope cl C X.env) fp) elt te) (hte : ∀ b : Bool, Tells te j (.bl b) (.int (if b then 1 else 0))) (hs : ∀ x, foldedSetIterable iter X.env x = pure x := by intro _; rfl) :
    PM X F (.ListComp elt [⟨.Name x px, iter, [], 0⟩] scope pos) (op1 gIntsB fi) := by
  refine DL.PE.imp (pe_lcH hot hp hN hj hi ok hg he hs) fun σ H Q ⟨V, ρ, E, g0⟩ => ⟨V, ρ, E, Goal.bind g0 fun v d H1 V1 ρ1 st1 r1 g1 => ?_⟩
  obtain ⟨z, ez, q⟩ := Goal.opt st1.env g1
  cases r1 with
  | @lst a xs ds ha ra =>
    have ez : (match boolsD ds with
      | some bs => if bs.length ≤ 1000 then some (PyData.list (bs.map fun b => .int (if b then 1 else 0))) else none
      | none => none) = some z := ez
    cases eb : boolsD ds with
    | none => rw [eb] at ez; cases ez
    | some bs =>
      rw [eb] at ez
      simp only at ez
      split at ez
      · rename_i hl
        cases ez
        have ex := bools_rep ra eb
        subst ex
        refine ⟨a, bs.map L2.V.bl, vInt, rfl, st1.env.sub _ _ ha, by rw [List.length_map]; exact hl, fun y hy => ?_, fun D hD => q _ _ _ (Ext.new st1.env.sub hD) (.lst upd_same (repL_ints bs))⟩
        obtain ⟨b, _, rfl⟩ := List.mem_map.mp hy
        exact hte b
      · cases ez
  | _ => cases ez
end
end HD
set_option Elab.async false
set_option linter.all false
set_option maxRecDepth 100000
set_option maxHeartbeats 2000000
namespace HD
open PySem PySem.Spec PyProof.Rows L2 L2H HotX LamX DL
variable [TabCtx]
/-- the refusals but Clash -/
def excs : List Str := ["BadChoir", "BadName", "BadStanding", "BadNumber", "BadRows", "BadLead", "BadWish", "Nothing", "Full", "BadText"]
def excs1 : List Str := ["BadChoir", "BadName", "BadStanding", "BadNumber", "BadRows", "BadLead", "BadWish", "Clash", "Nothing", "Full", "BadText"]
/-- what the classes say -/
structure ExcT (K : PySem.W.Frag) : Prop where
  c : ∀ c ∈ excs, ExcC K (He.ga K c)
  k : ∀ c ∈ excs, ∀ d ∈ excs1, PySem.W.kitOne K (.ref (He.ga K c)) (.ref (He.ga K d)) = some (decide (c = d))
  v : ∀ c ∈ excs, PySem.W.kitOne K (.ref (He.ga K c)) (.type "ValueError") = some true
  m : ∀ c ∈ excs, PySem.W.exmOne K (.ref (He.ga K c)) (.ref (He.ga K "Clash")) = some false ∧ PySem.W.exmOne K (.ref (He.ga K c)) (.ref (He.ga K "SongError")) = some true
abbrev isE (c d : Str) : M PyData := cD (.bool (decide (c = d)))
theorem _root_.L2H.RoomH.units {k : Nat} {A : Around} (r : RoomH k A) : A.units + 64 < cLine := by have := r.un; omega
theorem _root_.L2H.RoomH.units0 {k : Nat} {A : Around} (r : RoomH k A) : A.units < cLine := by have := r.un; omega
theorem u65H {k : Nat} {A : Around} (r : RoomH k A) : A.units + 65 < cLine := by have := r.un; omega
section
variable {X : Cx} {F : Fr} {iter : Expr} {x : Str} {px p1 p2 p3 : Pos} {scope : Scope} {pos : Pos} {fi : M PyData} {p : Addr × Obj}
/-- [int(x) for x in l] -/
theorem pm_ints (j : Nat) (hot : Hot1 X.A p) (hp : p ∈ X.pn) (hz : X.mg "int" = none) (hN : X.N.Nodup) (hi : PM X F iter fi) (ok : BlkOk X.N X.env.scope scope [(x, j)]) (hj : X.N[j]? = some x := by rfl)
    (hl : ∀ (s : Shared) (H : Hp) (C : Addr) (cl : List (Str × Addr)) (fp : List Addr), (X.blk s H scope (compEnvC scope cl C X.env) fp).env.scope.names.lookup x = some .local := by intros; rfl) (hgi : ∀ (s : Shared) (H : Hp) (C : Addr) (cl : List (Str × Addr)) (fp : List Addr), Gl (X.blk s H scope (compEnvC scope cl C X.env) fp) "int" := by intros; rfl) (hd : (x == ("__debug__" : Str)) = false := by decide) (hcd : (x == ("__classdict__" : Str)) = false := by decide)
    (hs : ∀ x, foldedSetIterable iter X.env x = pure x := by intro _; rfl) :
    PM X F (.ListComp (.Call (.Name "int" p1) [.Name x p2] [] p3) [⟨.Name x px, iter, [], 0⟩] scope pos) (op1 gIntsB fi) :=
  pm_lcI (te := tCB (fun xs H Q => (∃ i, xs = [.int i] ∧ Q (.int i) H) ∨ ∃ k, xs = [.bl k] ∧ Q (.int (if k then 1 else 0)) H) (tCons (tVar j) tNil)) hot hp hN hj hi ok (fun a b c d e => pg_name hN hj (Or.inl (hl a b c d e)) (.inr (hl a b c d e)))
    (fun a b c d e => pe_callTy call_int1 (hgi a b c d e) hz (by decide +kernel) (pa_cons (pe_var hj (.inl (hl a b c d e)) hd hcd) pa_nil))
    (fun b σ H Q h q => ⟨.bl b, h, .inr ⟨b, rfl, q⟩⟩) hs
end
abbrev mkT (H V : Hp) (p : Addr × Obj) : Fr := ⟨H, V, some p.1, fun _ _ _ => False, 0⟩
theorem env_term {K : KW} {H V : Hp} {p : Addr × Obj} {n : Nat} {N : List Str} (hn : N.length = n + 1) (ht : TabV H V) (s : Same V H) : EnvR K (mkT H V p) H V (L2.start N [.ref p.1]) (List.replicate (n + 1) .no) := by
  have no : ∀ {i : Nat} {t : Sl}, (List.replicate (n + 1) Sl.no)[i]? = some t → t = .no := fun {i t} h => by
    rw [List.getElem?_replicate] at h
    split at h
    · exact (Option.some.inj h).symm
    · cases h
  refine ⟨by simp [L2.start, hn], Ext.refl s, fun i d h => ?_, fun i d h => ?_, fun i j a d e h => ?_, fun a h => ?_, ht⟩
  · cases no h
  · cases no h
  · cases no h
  · cases h; rfl
section
variable {P : Program} {w : World} {K : PySem.W.Frag} {mg : Str → Option Value} {base : Heap} {params : Arguments} {body : List Stmt} {scope : Scope} {fd : FuncData} {CX : CXT} {x : Str}
theorem term_mk {N : List Str} {n k : Nat} {b : Str → SM} {f : Addr} (D : FunD K x x params body scope [] [] f fd) (S : FnScope N ["e"] scope) (hn : N.length = n + 1)
    (hb : ∀ (c : Str) (cdv : Value) (A : Around) (outer : List Env) (s : Shared) (H V : Hp) (E : XK) (p : Addr × Obj), c ∈ excs → Zc (.ref (He.ga K c)) none p.2 → (∃ vs, p.2.data = .fields vs) → Hot1 (A.deeper (envOfC x scope s.heap.objs.size f cdv)) p → RoomH k (A.deeper (envOfC x scope s.heap.objs.size f cdv)) →
      PMSs (cxH CX P w K mg base N x scope f cdv A outer s H E p) (mkT H V p) body (b c))
    (hv : ∀ c ∈ excs, ∃ ρ', b c (List.replicate (n + 1) .no) = .rt (refusedD c) ρ') :
    FnHP P w K mg base CX (k + 1) f fd ["e"] (spTerm ⟨K, w⟩ (· ∈ excs)) := by
  obtain ⟨oc, od, dV, kV, doc, pm, an, cdv, ct, osl, rfl, lk, hcd, _, _⟩ := D.ex
  refine fn_ofHP lk hcd S (fun p vs H Q E h => by rw [h.1]; rfl) fun A outer s H vs Q E p hot hr h => ?_
  obtain ⟨rfl, c, V, hc, ht, sv, hz, hf, q⟩ := h
  obtain ⟨ρ', e⟩ := hv c hc
  refine ⟨_, hb c cdv A outer s H V E p hc hz hf hot hr, V, List.replicate (n + 1) .no, env_term hn ht sv, ?_⟩
  show GoalS ⟨K, w⟩ (mkT H V p) V (b c (List.replicate (n + 1) .no)) _
  rw [e]
  exact fun v σ' H' V' E' _ r' => q v H' V' E'.ext r'
end
def forget (ρ : Rho) : Rho := ρ.map fun s => match s with
  | .ow _ => .no
  | t => t
theorem EnvR.forget {K : KW} {F : Fr} {H V : Hp} {σ : L2.St} {ρ : Rho} {E : XK} (e : EnvR K F H V σ ρ) : EnvR K (mkF H V E) H V σ (forget ρ) := by
  have at_ : ∀ {i : Nat} {t : Sl}, (HD.forget ρ)[i]? = some t → (∃ d, ρ[i]? = some (.sh d) ∧ t = .sh d) ∨ t = .no := fun {i t} h => by
    unfold HD.forget at h
    rw [List.getElem?_map] at h
    obtain ⟨u, h1, h2⟩ := Option.map_eq_some_iff.mp h
    cases u with
    | no => exact .inr h2.symm
    | sh d => exact .inl ⟨d, h1, h2.symm⟩
    | ow d => exact .inr h2.symm
  refine ⟨by rw [e.len]; simp [HD.forget], Ext.refl e.sub, fun i d h => ?_, fun i d h => ?_, fun i j a d d' h => ?_, (fun a h => by cases h), e.tabs⟩
  · rcases at_ h with ⟨d', h1, h2⟩ | z
    · cases h2; exact e.sh i d h1
    · cases z
  · rcases at_ h with ⟨d', h1, h2⟩ | z
    · cases h2
    · cases z
  · rcases at_ h with ⟨d', h1, h2⟩ | z
    · cases h2
    · cases z
def toldM (f : M PyData) : M PyData := fun ρ => match f (forget ρ) with
  | .ok (d, _) => .ok (d, ρ)
  | .exc c => if c ∈ excs then .ok (refusedD c, ρ) else .bad
  | .bad => .bad
/-- the def x makes lambdas: its code object and the table -/
structure LamAt (K : PySem.W.Frag) (mg : Str → Option Value) (base : Heap) (x : Str) (cdv : Value) (c P : Addr) : Prop where
  code : cdv = .ref c
  tab : TabB base mg c P
  mem : (P, x ++ ".<locals>." ++ "<lambda>") ∈ TBS
  uniq : ∀ p ∈ TBS, p.1 = P → p.2 = x ++ ".<locals>." ++ "<lambda>"
section
variable {X : Cx} {F : Fr}
theorem tk_lam {A : Around} {outer : List Env} {s : Shared} {H H' V : Hp} {E : XK} {scope : Scope} {f c' : Addr} : Tk (lamN X A outer s H E scope f c') (mkF H' V E) := by
  have t : L2N.Takes (lamN X A outer s H E scope f c') (fun cls d _ H' => E cls d H') := L2N.takes_of rfl rfl rfl rfl
  refine t.imp fun c d σ H' ⟨h1, h2⟩ => ?_
  rw [h1]
  exact h2
theorem pm_told {x : Str} {fdt : FuncData} {pg : Arguments} {bg : List Stmt} {sg : Scope} {params : Arguments} {body : Expr} {scope : Scope} {fb : M PyData} {k : Nat} {c P : Addr} {p lpos pos : Pos}
    (D : FunD X.K "_law_told" "_law_told" pg bg sg [] [] (He.ga X.K "_law_told") fdt) (hm : X.mg "_law_told" = some (.ref (He.ga X.K "_law_told"))) (hbd : ∀ (kV doc pm : Value) (an : Option Addr) (cdv ct : Value) (us : List Value), us.length = (["deed"] : List Str).length → bindArgs (PySem.W.fnOf "_law_told" "_law_told" pg bg sg .none kV doc pm an cdv ct) ⟨us, []⟩ = pure ((["deed"] : List Str).zip us))
    (Sg : FnScope ["deed", "e"] ["deed"] sg) (hva : Vis sg "deed") (hG : ∀ cdv, GivesN X ["deed", "e"] "_law_told" sg (He.ga X.K "_law_told") cdv bg "deed" (x ++ ".<locals>." ++ "<lambda>") (TToldN X.kw (· ∈ excs)))
    (LA : LamAt X.K X.mg X.base x X.env.code c P) (hq : X.env.qual = x ++ ".<locals>.") (hr : Room (k + 2) X.A) (L : LamS X.env.scope scope)
    (hb : ∀ (A : Around) (outer : List Env) (s : Shared) (H : Hp) (E : XK) (f c' : Addr) (H' V : Hp), Room k (A.deeper (lamEnv X scope s.heap.objs.size f c')) → PM (lamN X A outer s H E scope f c') (mkF H' V E) body fb)
    (hg : Gl X "_law_told" := by rfl) (hdef : defaultsOf params X.env = ([], []) := by rfl)
    (hbind : ∀ (q : Str) (cl : List (Str × Addr)) (pm cv ctv : Value), bindArgs (PySem.W.kla_fn "<lambda>" q params body scope cl pm cv ctv) ⟨[], []⟩ = pure [] := by intros; rfl) :
    PM X F (.Call (.Name "_law_told" p) [.Lambda params body scope lpos] [] pos) (toldM fb) := by
  have hbb := D.bindsN (ps := ["deed"]) hbd
  obtain ⟨oc, od, dV, kV, doc, pm, an, cdv, ct, osl, rfl, lk, hcd, _, _⟩ := D.ex
  refine DL.PE.imp (lamcall_N (t := fun E σ H' Q => ∃ V, tM X.kw (mkF H' V E) fb σ H' Q) (TT := TToldN X.kw (· ∈ excs)) hg hm D.kp lk hcd hbb Sg rfl hva (by rw [hq]; exact hG cdv) LA.tab LA.code (by rw [hq]; exact LA.mem) (by rw [hq]; exact LA.uniq) hr L hdef hbind ?_) fun σ H Q ⟨V, ρ, E, g⟩ => ?_
  · intro A outer s H E f c' hr'
    exact ⟨fun pins s1 σ H1 Q I ⟨V, h⟩ => (hb A outer s H E f c' H1 V hr').run pins s1 σ H1 Q I h⟩
  · refine ⟨E.tabs.1, fun H1 ex => ?_⟩
    have e1 := ex V E.sub (E.tabs.2 _ LA.mem)
    have E1 := E.grow e1
    refine ⟨V, V, HD.forget ρ, EnvR.forget E1, ?_⟩
    show Goal X.kw (mkF H1 V _) σ (HD.forget ρ) H1 V (Rep X.kw) (fb (HD.forget ρ)) Q
    unfold toldM at g
    cases ef : fb (HD.forget ρ) with
    | ok pr =>
      obtain ⟨d, ρ'⟩ := pr
      rw [ef] at g
      exact fun b H' V' st r => g b H' V' (E.step (e1.trans st.env.ext)) r
    | exc cc =>
      rw [ef] at g
      have g : Goal X.kw F σ ρ H V (Rep X.kw) (if cc ∈ excs then .ok (refusedD cc, ρ) else .bad) Q := g
      by_cases hc : cc ∈ excs
      · rw [if_pos hc] at g
        intro H' V' x'
        have x2 := e1.trans x'
        refine ⟨cc, V', rfl, rfl, hc, (E.grow x2).tabs, x2.s, fun v H2 V2 x3 r => g v H2 V2 (E.step (x2.trans x3)) r⟩
      · rw [if_neg hc] at g; exact False.elim g
    | bad => rw [ef] at g; exact False.elim g
end
end HD
set_option Elab.async false
set_option linter.all false
set_option maxRecDepth 100000
set_option maxHeartbeats 2000000
namespace HD
open PySem PySem.Spec PyProof.Rows L2 L2H HotX LamX DL He
def lamQ (x : Str) : Str := x ++ ".<locals>." ++ "<lambda>"
def tabsL (K : PySem.W.Frag) (ls : List Str) : List (Addr × Str) := ls.filterMap fun x => (tabOf K x).map fun q => (q.2, lamQ x)
def codesL (K : PySem.W.Frag) (ls : List Str) : List (Addr × Addr) := ls.filterMap fun x => tabOf K x
def frT (g : Addr → Option Obj) (n : Nat) (ls : List Str) : PySem.W.Frag := frG g ((asD g n).filter fun a => !((codesL (frG g (asD g n)) ls).any fun q => q.2 == a))
def isStrV : Value → Bool
  | .str _ _ => true
  | _ => false
def isIntV : Value → Bool
  | .int _ _ => true
  | _ => false
def isBoolV : Value → Bool
  | .bool _ => true
  | _ => false
def codeB (K : PySem.W.Frag) (c P : Addr) : Bool := match K.lookup c with
  | some ⟨.type t, _, .fields vs, _⟩ => decide (t = "code") && (decide (vs[11]? = some (.ref P)) && (isStrV (vs.getD 18 .none) && (isIntV (vs.getD 7 .none) && (isBoolV (vs.getD 9 .none) && (isIntV (vs.getD 10 .none) && !(c == P))))))
  | _ => false
def emptyTab : Option Obj → Bool
  | some ⟨.none, none, .fields vs, sl⟩ => vs.isEmpty && sl.isEmpty
  | _ => false
def lamB (g : Addr → Option Obj) (K : PySem.W.Frag) (ls : List Str) : Bool := (ls.all fun x => match tabOf K x with
  | some q => codeB K q.1 q.2 && (emptyTab (g q.2) && (K.lookup q.2).isNone)
  | none => false) && (((codesL K ls).map (·.2)).eraseDups.length == ls.length)
theorem codeB_ok {K : PySem.W.Frag} {h : Heap} (X : K.In h) {c P : Addr} (e : codeB K c P = true) : PySem.W.CodeHd h c P := by
  unfold codeB at e
  split at e
  · rename_i t od vs sl q
    obtain ⟨e1, e⟩ := ba e
    obtain ⟨e2, e⟩ := ba e
    obtain ⟨e3, e⟩ := ba e
    obtain ⟨e4, e⟩ := ba e
    obtain ⟨e5, e⟩ := ba e
    obtain ⟨e6, e7⟩ := ba e
    have e2 : vs[11]? = some (.ref P) := of_decide_eq_true e2
    have e1 : t = "code" := of_decide_eq_true e1
    subst e1
    have ne : c ≠ P := fun z => by rw [z] at e7; simp at e7
    have s1 : ∃ a b, vs.getD 18 .none = .str a b := by
      cases z : vs.getD 18 .none <;> rw [z] at e3 <;> first | exact ⟨_, _, rfl⟩ | cases e3
    have s2 : ∃ a b, vs.getD 7 .none = .int a b := by
      cases z : vs.getD 7 .none <;> rw [z] at e4 <;> first | exact ⟨_, _, rfl⟩ | cases e4
    have s3 : ∃ a, vs.getD 9 .none = .bool a := by
      cases z : vs.getD 9 .none <;> rw [z] at e5 <;> first | exact ⟨_, rfl⟩ | cases e5
    have s4 : ∃ a b, vs.getD 10 .none = .int a b := by
      cases z : vs.getD 10 .none <;> rw [z] at e6 <;> first | exact ⟨_, _, rfl⟩ | cases e6
    obtain ⟨a1, a2, s1⟩ := s1
    obtain ⟨b1, b2, s2⟩ := s2
    obtain ⟨c1, s3⟩ := s3
    obtain ⟨d1, d2, s4⟩ := s4
    refine ⟨_, vs, a1, a2, b1, b2, c1, d1, d2, X _ _ q, rfl, rfl, e2, ?_, s1, s2, s3, s4, ne⟩
    simp only [Array.getD_eq_getD_getElem?, e2]; rfl
  · cases e
theorem emptyTab_ok {o : Option Obj} (e : emptyTab o = true) : o = some { cls := .none, data := .fields #[] } := by
  unfold emptyTab at e
  split at e
  · obtain ⟨e1, e2⟩ := ba e
    rw [Array.isEmpty_iff.mp e1, Array.isEmpty_iff.mp e2]
  · cases e
/-- what is known of the defs that make lambdas -/
structure LamSays (K : PySem.W.Frag) (h : Heap) (ls : List Str) : Prop where
  at_ : ∀ x ∈ ls, ∃ c P, tabOf K x = some (c, P)
  tab : ∀ p ∈ codesL K ls, h.get? p.2 = some { cls := .none, data := .fields #[] } ∧ K.lookup p.2 = none ∧ PySem.W.CodeHd h p.1 p.2
  uniq : ((codesL K ls).map (·.2)).eraseDups.length = ls.length
theorem lamB_ok {K : PySem.W.Frag} {h : Heap} (X : K.In h) {ls : List Str} (e : lamB h.get? K ls = true) : LamSays K h ls := by
  obtain ⟨e1, e2⟩ := ba e
  have all := List.all_eq_true.mp e1
  refine ⟨fun x hx => ?_, fun p hp => ?_, by simpa using e2⟩
  · have := all x hx
    cases q : tabOf K x with
    | none => rw [q] at this; cases this
    | some r => exact ⟨r.1, r.2, rfl⟩
  · obtain ⟨x, hx, q⟩ := List.mem_filterMap.mp hp
    have := all x hx
    rw [q] at this
    obtain ⟨h1, h2⟩ := ba this
    obtain ⟨h2, h3⟩ := ba h2
    exact ⟨emptyTab_ok h2, by simpa using h3, codeB_ok X h1⟩
theorem LamSays.keeps {K : PySem.W.Frag} {h h' : Heap} {ls : List Str} (L : LamSays K h ls) (k : ∀ b o, h.get? b = some o → h'.get? b = some o) : LamSays K h' ls :=
  ⟨L.at_, fun p hp => ⟨k _ _ (L.tab p hp).1, (L.tab p hp).2.1, (L.tab p hp).2.2.keeps k⟩, L.uniq⟩
theorem erase_len {α β : Type} [BEq β] [LawfulBEq β] (l : List α) (f : α → Option β) (h : (l.filterMap f).eraseDups.length = l.length) : (l.filterMap f).Nodup := by
  have h1 : (l.filterMap f).length ≤ l.length := List.length_filterMap_le f l
  have h2 : ∀ m : List β, m.eraseDups.length ≤ m.length ∧ (m.eraseDups.length = m.length → m.Nodup) := by
    intro m
    induction hm : m.length using Nat.strongRecOn generalizing m with
    | _ n ih =>
      cases m with
      | nil => simp [List.eraseDups] at *
      | cons a r =>
        rw [List.eraseDups_cons]
        have hl := List.length_filter_le (fun b => !b == a) r
        have ih1 := ih (r.filter fun b => !b == a).length (by rw [← hm]; simp only [List.length_cons]; omega) _ rfl
        refine ⟨by rw [← hm]; simp only [List.length_cons]; omega, fun e => ?_⟩
        rw [← hm] at e
        simp only [List.length_cons] at e
        have ef : (r.filter fun b => !b == a).length = r.length := by omega
        have eq : r.filter (fun b => !b == a) = r := List.filter_eq_self.mpr (List.length_filter_eq_length_iff.mp ef)
        refine List.nodup_cons.mpr ⟨fun ha => ?_, ?_⟩
        · have := List.length_filter_eq_length_iff.mp ef a ha
          simp at this
        · have := ih1.2 (by omega)
          rw [eq] at this
          exact this
  exact (h2 _).2 (by have := (h2 (l.filterMap f)).1; omega)
def excB (K : PySem.W.Frag) : Bool := excs.all fun c =>
  (eqO (PySem.W.findIn K (.ref (ga K c)) "__getattribute__") (some (some (.builtin "BaseException.__getattribute__"))) && (eqO (PySem.W.findIn K (.ref (ga K c)) "__getattr__") (some none) && (decide (PySem.W.subIn K (.ref (ga K c)) (.type "BaseException") = some true) &&
    (PySem.W.hasDictIn K (ga K c) && (eqO (PySem.W.findIn K (.ref (ga K c)) "__class__") (some (some (.builtin "object.__class__"))) && (eqO (PySem.W.specialIn K (.builtin "object.__class__") "__get__") (some (some (.builtin "getset_descriptor.__get__"))) &&
      (decide (PySem.W.takesIn K (.builtin "object.__class__") = some true) && decide (PySem.W.mroIn K (ga K c) (.type "object") = some true)))))))) &&
  ((excs1.all fun d => decide (PySem.W.kitOne K (.ref (ga K c)) (.ref (ga K d)) = some (decide (c = d)))) && (decide (PySem.W.kitOne K (.ref (ga K c)) (.type "ValueError") = some true) &&
    (decide (PySem.W.exmOne K (.ref (ga K c)) (.ref (ga K "Clash")) = some false) && decide (PySem.W.exmOne K (.ref (ga K c)) (.ref (ga K "SongError")) = some true))))
theorem excB_ok {K : PySem.W.Frag} (e : excB K = true) : ExcT K := by
  have all := List.all_eq_true.mp e
  refine ⟨fun c hc => ?_, fun c hc d hd => ?_, fun c hc => ?_, fun c hc => ?_⟩
  · obtain ⟨e, _⟩ := ba (all c hc)
    obtain ⟨e1, e⟩ := ba e
    obtain ⟨e2, e⟩ := ba e
    obtain ⟨e3, e⟩ := ba e
    obtain ⟨e4, e⟩ := ba e
    obtain ⟨e5, e⟩ := ba e
    obtain ⟨e6, e⟩ := ba e
    obtain ⟨e7, e8⟩ := ba e
    exact ⟨eqO_ok e1, eqO_ok e2, of_decide_eq_true e3, e4, eqO_ok e5, eqO_ok e6, of_decide_eq_true e7, of_decide_eq_true e8⟩
  · obtain ⟨_, e⟩ := ba (all c hc)
    obtain ⟨e1, _⟩ := ba e
    exact of_decide_eq_true (List.all_eq_true.mp e1 d hd)
  · obtain ⟨_, e⟩ := ba (all c hc)
    obtain ⟨_, e⟩ := ba e
    obtain ⟨e1, _⟩ := ba e
    exact of_decide_eq_true e1
  · obtain ⟨_, e⟩ := ba (all c hc)
    obtain ⟨_, e⟩ := ba e
    obtain ⟨_, e⟩ := ba e
    obtain ⟨e1, e2⟩ := ba e
    exact ⟨of_decide_eq_true e1, of_decide_eq_true e2⟩
def obsL (fa : List Fa) (fn : List DefD) (ls : List Str) (ex : Bool) (g : Addr → Option Obj) (K : PySem.W.Frag) : AlD × Bool := (obsD fa fn K, lamB g K ls && (!ex || excB K))
def obsLG (n : Nat) (fa : List Fa) (fn : List DefD) (ls : List Str) (ex : Bool) (g : Addr → Option Obj) : AlD × Bool := obsL fa fn ls ex g (frT g n ls)
def hookL (n : Nat) (fa : List Fa) (fn : List DefD) (ls : List Str) (ex : Bool) : PySem.W.Hook where
  α := AlD × Bool
  obs := fun s => obsLG n fa fn ls ex s.heap.get?
  val := fun _ => (valD fn, true)
  says := fun _ h => ∃ K : PySem.W.Frag, K.In h ∧ SaysD fa fn K ∧ LamSays K h ls ∧ (ex = true → ExcT K)
  of := fun _ s e => by
    have e1 : obsD fa fn (frT s.heap.get? n ls) = valD fn := congrArg Prod.fst e
    have e2 : (lamB s.heap.get? (frT s.heap.get? n ls) ls && (!ex || excB (frT s.heap.get? n ls))) = true := congrArg Prod.snd e
    obtain ⟨e3, e4⟩ := ba e2
    exact ⟨_, frG_in, e1, lamB_ok frG_in e3, fun z => excB_ok (by rw [z] at e4; exact e4)⟩
  keeps := fun _ _ _ ⟨K, hK, c, l, x⟩ k => ⟨K, PySem.W.Frag.In.keeps hK k, c, l.keeps k, x⟩
theorem obsLG_eq {n : Nat} {fa : List Fa} {fn : List DefD} {ls : List Str} {ex : Bool} {g : Addr → Option Obj} {s : Shared} (h : ∀ a, g a = s.heap.get? a) : obsLG n fa fn ls ex g = (hookL n fa fn ls ex).obs s := by
  have e : g = s.heap.get? := funext h
  rw [e] <;> rfl
/-- the tables of a law -/
@[reducible] def ctxL (K : PySem.W.Frag) (ls : List Str) : TabCtx := ⟨tabsL K ls⟩
theorem lamAt_of {K : PySem.W.Frag} {h : Heap} {ls : List Str} {mg : Str → Option Value} {base : Heap} (L : LamSays K h ls) (TB : ∀ p ∈ codesL K ls, TabB base mg p.1 p.2) {x : Str} (hx : x ∈ ls) {fd : FuncData} {oc : Value} {od : Option Addr} {osl : Array (Option Value)} (lk : K.lookup (ga K x) = some ⟨oc, od, .func fd, osl⟩) :
    letI := ctxL K ls; ∃ c P, LamAt K mg base x fd.code c P := by
  letI := ctxL K ls
  obtain ⟨c, P, e⟩ := L.at_ x hx
  have mem : (c, P) ∈ codesL K ls := List.mem_filterMap.mpr ⟨x, hx, e⟩
  have mT : (P, lamQ x) ∈ tabsL K ls := List.mem_filterMap.mpr ⟨x, hx, by rw [e]; rfl⟩
  refine ⟨c, P, ?_, TB _ mem, mT, fun p hp ep => ?_⟩
  · unfold tabOf at e
    rw [lk] at e
    dsimp only at e
    split at e
    · rename_i c' ec
      split at e
      · split at e
        · cases e; exact ec
        · cases e
      · cases e
    · cases e
  · obtain ⟨y, hy, ey⟩ := List.mem_filterMap.mp (show p ∈ tabsL K ls from hp)
    obtain ⟨q, e3, e4⟩ := Option.map_eq_some_iff.mp ey
    subst e4
    have nd : (ls.filterMap fun x => (tabOf K x).map (·.2)).Nodup := by
      refine erase_len ls _ ?_
      have z := L.uniq
      unfold codesL at z
      rw [List.map_filterMap] at z
      exact z
    -- two of them at one place are one
    have key : ∀ l : List Str, (l.filterMap fun x => (tabOf K x).map (·.2)).Nodup → x ∈ l → y ∈ l → x = y := by
      intro l
      induction l with
      | nil => intro _ h; cases h
      | cons z r ih =>
        intro nd h1 h2
        have mm : ∀ {u : Str} {q : Addr × Addr}, tabOf K u = some q → u ∈ r → q.2 ∈ r.filterMap fun x => (tabOf K x).map (·.2) := fun {u q} h1 h2 => List.mem_filterMap.mpr ⟨u, h2, by rw [h1]; rfl⟩
        rcases List.mem_cons.mp h1 with rfl | h3
        · rcases List.mem_cons.mp h2 with rfl | h2
          · rfl
          · rw [List.filterMap_cons, e] at nd
            exact absurd (by have := mm e3 h2; rw [show q.2 = P from ep] at this; exact this) (List.nodup_cons.mp nd).1
        · rcases List.mem_cons.mp h2 with rfl | h2
          · rw [List.filterMap_cons, e3] at nd
            exact absurd (by have := mm e h3; rw [← (show q.2 = P from ep)] at this; exact this) (List.nodup_cons.mp nd).1
          · refine ih ?_ h3 h2
            rw [List.filterMap_cons] at nd
            cases ez : (tabOf K z).map (·.2) with
            | none => rw [ez] at nd; exact nd
            | some w => rw [ez] at nd; exact (List.nodup_cons.mp nd).2
    have := key ls nd hx hy
    subst this
    rfl
theorem tabs_start {K : PySem.W.Frag} {ls : List Str} {H : Hp} (hH : ∀ p ∈ codesL K ls, H p.2 = some (.tbl #[])) : Tabs (tabsL K ls) H := fun p hp => by
  obtain ⟨x, hx, e⟩ := List.mem_filterMap.mp hp
  obtain ⟨q, e1, e2⟩ := Option.map_eq_some_iff.mp e
  subst e2
  exact TabS.nil (hH q (List.mem_filterMap.mpr ⟨x, hx, e1⟩))
end HD
set_option Elab.async false
set_option linter.all false
set_option maxRecDepth 100000
set_option maxHeartbeats 4000000
namespace G
open PySem PySem.Spec PyProof.Rows L2 DL
variable [TabCtx]
def top (i : Nat) : Stmt := PySem.Challenge.pw_hearsong_k17_whole_beginnings.main.body.getD i (.Pass ⟨0, 0, 0, 0⟩)
abbrev s_is_whole : Stmt := top 15
abbrev s_is_word : Stmt := top 16
abbrev s_rise : Stmt := top 17
abbrev s_are_lines : Stmt := top 18
abbrev s_is_ear : Stmt := top 19
abbrev s_are_ears : Stmt := top 20
abbrev s_places_for : Stmt := top 21
abbrev s_is_singer : Stmt := top 22
abbrev s_is_choir : Stmt := top 23
abbrev s_need_choir : Stmt := top 24
abbrev s_all_names : Stmt := top 25
abbrev s_number_of : Stmt := top 26
abbrev s_place_of : Stmt := top 27
abbrev s_do_count : Stmt := top 29
abbrev s_ears_that_count : Stmt := top 30
abbrev s_lean_singer : Stmt := top 31
abbrev s_leaned : Stmt := top 32
abbrev s_lean : Stmt := top 33
abbrev s_need_first_rows : Stmt := top 36
abbrev s_spots_for : Stmt := top 37
abbrev s_lines_for : Stmt := top 38
abbrev s_widened : Stmt := top 39
abbrev s_all_known : Stmt := top 40
abbrev s_as_standing : Stmt := top 41
abbrev s_could_begin : Stmt := top 42
abbrev s_must_begin : Stmt := top 43
abbrev s_law_cell : Stmt := top 45
abbrev s_law_drawn : Stmt := top 46
abbrev s_law_roll : Stmt := top 47
abbrev s_law_rounds : Stmt := top 48
abbrev s_law_term : Stmt := top 49
abbrev s_law_told : Stmt := top 50
abbrev s_law_any_singers : Stmt := top 51
abbrev s_law_any_choir : Stmt := top 52
abbrev s_law_any_standing : Stmt := top 53
abbrev s_law_crew : Stmt := top 54
abbrev s_law_heard : Stmt := top 55
abbrev s_law_history : Stmt := top 56
abbrev s_law_tells : Stmt := top 57
abbrev s_law_sung : Stmt := top 58
abbrev s_law_all_tuples : Stmt := top 59
abbrev s_law_asked_spots : Stmt := top 60
abbrev s_law_rows_refused : Stmt := top 61
abbrev s_law : Stmt := top 62
abbrev lams : List Str := ["_law_rows_refused", "law"]
end G
set_option maxHeartbeats 0
namespace Head
open PySem PySem.Spec PyProof.Rows L2 DL G
def d_is_whole : He.DefD := ⟨("is_whole", none), "is_whole", "is_whole", defArgs s_is_whole, defBody s_is_whole, defScope s_is_whole, [], []⟩
def d_is_word : He.DefD := ⟨("is_word", none), "is_word", "is_word", defArgs s_is_word, defBody s_is_word, defScope s_is_word, [], []⟩
def d_rise : He.DefD := ⟨("rise", none), "rise", "rise", defArgs s_rise, defBody s_rise, defScope s_rise, [], []⟩
def d_are_lines : He.DefD := ⟨("are_lines", none), "are_lines", "are_lines", defArgs s_are_lines, defBody s_are_lines, defScope s_are_lines, [], []⟩
def d_is_ear : He.DefD := ⟨("is_ear", none), "is_ear", "is_ear", defArgs s_is_ear, defBody s_is_ear, defScope s_is_ear, [], []⟩
def d_are_ears : He.DefD := ⟨("are_ears", none), "are_ears", "are_ears", defArgs s_are_ears, defBody s_are_ears, defScope s_are_ears, [], []⟩
def d_places_for : He.DefD := ⟨("places_for", none), "places_for", "places_for", defArgs s_places_for, defBody s_places_for, defScope s_places_for, [], []⟩
def d_is_singer : He.DefD := ⟨("is_singer", none), "is_singer", "is_singer", defArgs s_is_singer, defBody s_is_singer, defScope s_is_singer, [], []⟩
def d_is_choir : He.DefD := ⟨("is_choir", none), "is_choir", "is_choir", defArgs s_is_choir, defBody s_is_choir, defScope s_is_choir, [], []⟩
def d_need_choir : He.DefD := ⟨("need_choir", none), "need_choir", "need_choir", defArgs s_need_choir, defBody s_need_choir, defScope s_need_choir, [], []⟩
def d_all_names : He.DefD := ⟨("all_names", none), "all_names", "all_names", defArgs s_all_names, defBody s_all_names, defScope s_all_names, [], []⟩
def d_number_of : He.DefD := ⟨("number_of", none), "number_of", "number_of", defArgs s_number_of, defBody s_number_of, defScope s_number_of, [], []⟩
def d_place_of : He.DefD := ⟨("place_of", none), "place_of", "place_of", defArgs s_place_of, defBody s_place_of, defScope s_place_of, [], []⟩
def d_do_count : He.DefD := ⟨("do_count", none), "do_count", "do_count", defArgs s_do_count, defBody s_do_count, defScope s_do_count, [], []⟩
def d_ears_that_count : He.DefD := ⟨("ears_that_count", none), "ears_that_count", "ears_that_count", defArgs s_ears_that_count, defBody s_ears_that_count, defScope s_ears_that_count, [], []⟩
def d_lean_singer : He.DefD := ⟨("lean_singer", none), "lean_singer", "lean_singer", defArgs s_lean_singer, defBody s_lean_singer, defScope s_lean_singer, [], []⟩
def d_leaned : He.DefD := ⟨("leaned", none), "leaned", "leaned", defArgs s_leaned, defBody s_leaned, defScope s_leaned, [], []⟩
def d_lean : He.DefD := ⟨("lean", none), "lean", "lean", defArgs s_lean, defBody s_lean, defScope s_lean, [], []⟩
def d_need_first_rows : He.DefD := ⟨("need_first_rows", none), "need_first_rows", "need_first_rows", defArgs s_need_first_rows, defBody s_need_first_rows, defScope s_need_first_rows, [], []⟩
def d_spots_for : He.DefD := ⟨("spots_for", none), "spots_for", "spots_for", defArgs s_spots_for, defBody s_spots_for, defScope s_spots_for, [], []⟩
def d_lines_for : He.DefD := ⟨("lines_for", none), "lines_for", "lines_for", defArgs s_lines_for, defBody s_lines_for, defScope s_lines_for, [], []⟩
def d_widened : He.DefD := ⟨("widened", none), "widened", "widened", defArgs s_widened, defBody s_widened, defScope s_widened, [], []⟩
def d_all_known : He.DefD := ⟨("all_known", none), "all_known", "all_known", defArgs s_all_known, defBody s_all_known, defScope s_all_known, [], []⟩
def d_as_standing : He.DefD := ⟨("as_standing", none), "as_standing", "as_standing", defArgs s_as_standing, defBody s_as_standing, defScope s_as_standing, [], []⟩
def d_could_begin : He.DefD := ⟨("could_begin", none), "could_begin", "could_begin", defArgs s_could_begin, defBody s_could_begin, defScope s_could_begin, [], []⟩
def d_must_begin : He.DefD := ⟨("must_begin", none), "must_begin", "must_begin", defArgs s_must_begin, defBody s_must_begin, defScope s_must_begin, [], []⟩
def d_law_cell : He.DefD := ⟨("_law_cell", none), "_law_cell", "_law_cell", defArgs s_law_cell, defBody s_law_cell, defScope s_law_cell, [], []⟩
def d_law_drawn : He.DefD := ⟨("_law_drawn", none), "_law_drawn", "_law_drawn", defArgs s_law_drawn, defBody s_law_drawn, defScope s_law_drawn, [], []⟩
def d_law_roll : He.DefD := ⟨("_law_roll", none), "_law_roll", "_law_roll", defArgs s_law_roll, defBody s_law_roll, defScope s_law_roll, [], []⟩
def d_law_rounds : He.DefD := ⟨("_law_rounds", none), "_law_rounds", "_law_rounds", defArgs s_law_rounds, defBody s_law_rounds, defScope s_law_rounds, [], []⟩
def d_law_term : He.DefD := ⟨("_law_term", none), "_law_term", "_law_term", defArgs s_law_term, defBody s_law_term, defScope s_law_term, [], []⟩
def d_law_told : He.DefD := ⟨("_law_told", none), "_law_told", "_law_told", defArgs s_law_told, defBody s_law_told, defScope s_law_told, [], []⟩
def d_law_any_singers : He.DefD := ⟨("_law_any_singers", none), "_law_any_singers", "_law_any_singers", defArgs s_law_any_singers, defBody s_law_any_singers, defScope s_law_any_singers, [], []⟩
def d_law_any_choir : He.DefD := ⟨("_law_any_choir", none), "_law_any_choir", "_law_any_choir", defArgs s_law_any_choir, defBody s_law_any_choir, defScope s_law_any_choir, [], []⟩
def d_law_any_standing : He.DefD := ⟨("_law_any_standing", none), "_law_any_standing", "_law_any_standing", defArgs s_law_any_standing, defBody s_law_any_standing, defScope s_law_any_standing, [], []⟩
def d_law_crew : He.DefD := ⟨("_law_crew", none), "_law_crew", "_law_crew", defArgs s_law_crew, defBody s_law_crew, defScope s_law_crew, [], []⟩
def d_law_heard : He.DefD := ⟨("_law_heard", none), "_law_heard", "_law_heard", defArgs s_law_heard, defBody s_law_heard, defScope s_law_heard, [], []⟩
def d_law_history : He.DefD := ⟨("_law_history", none), "_law_history", "_law_history", defArgs s_law_history, defBody s_law_history, defScope s_law_history, [], []⟩
def d_law_tells : He.DefD := ⟨("_law_tells", none), "_law_tells", "_law_tells", defArgs s_law_tells, defBody s_law_tells, defScope s_law_tells, [], []⟩
def d_law_sung : He.DefD := ⟨("_law_sung", none), "_law_sung", "_law_sung", defArgs s_law_sung, defBody s_law_sung, defScope s_law_sung, [], []⟩
def d_law_all_tuples : He.DefD := ⟨("_law_all_tuples", none), "_law_all_tuples", "_law_all_tuples", defArgs s_law_all_tuples, defBody s_law_all_tuples, defScope s_law_all_tuples, [], []⟩
def d_law_asked_spots : He.DefD := ⟨("_law_asked_spots", none), "_law_asked_spots", "_law_asked_spots", defArgs s_law_asked_spots, defBody s_law_asked_spots, defScope s_law_asked_spots, [], []⟩
def d_law_rows_refused : He.DefD := ⟨("_law_rows_refused", none), "_law_rows_refused", "_law_rows_refused", defArgs s_law_rows_refused, defBody s_law_rows_refused, defScope s_law_rows_refused, [], []⟩
def d_law : He.DefD := ⟨("law", none), "law", "law", defArgs s_law, defBody s_law, defScope s_law, [], []⟩
def fn : List He.DefD := [d_is_whole, d_is_word, d_rise, d_are_lines, d_is_ear, d_are_ears, d_places_for, d_is_singer, d_is_choir, d_need_choir, d_all_names, d_number_of, d_place_of, d_do_count, d_ears_that_count, d_lean_singer, d_leaned, d_lean, d_need_first_rows, d_spots_for, d_lines_for, d_widened, d_all_known, d_as_standing, d_could_begin, d_must_begin, d_law_cell, d_law_drawn, d_law_roll, d_law_rounds, d_law_term, d_law_told, d_law_any_singers, d_law_any_choir, d_law_any_standing, d_law_crew, d_law_heard, d_law_history, d_law_tells, d_law_sung, d_law_all_tuples, d_law_asked_spots, d_law_rows_refused, d_law]
def fa : List He.Fa := [.glo "is_whole", .glo "is_word", .glo "rise", .glo "are_lines", .glo "is_ear", .glo "are_ears", .glo "places_for", .glo "is_singer", .glo "is_choir", .glo "need_choir", .glo "all_names", .glo "number_of", .glo "place_of", .glo "do_count", .glo "ears_that_count", .glo "lean_singer", .glo "leaned", .glo "lean", .glo "need_first_rows", .glo "spots_for", .glo "lines_for", .glo "widened", .glo "all_known", .glo "as_standing", .glo "could_begin", .glo "must_begin", .glo "_law_cell", .glo "_law_drawn", .glo "_law_roll", .glo "_law_rounds", .glo "_law_term", .glo "_law_told", .glo "_law_any_singers", .glo "_law_any_choir", .glo "_law_any_standing", .glo "_law_crew", .glo "_law_heard", .glo "_law_history", .glo "_law_tells", .glo "_law_sung", .glo "_law_all_tuples", .glo "_law_asked_spots", .glo "_law_rows_refused", .glo "law", .glo "SongError", .glo "BadChoir", .glo "BadName", .glo "BadStanding", .glo "BadNumber", .glo "BadRows", .glo "BadLead", .glo "BadWish", .glo "Clash", .glo "Nothing", .glo "Full", .glo "BadText", .exc "SongError", .exc "BadChoir", .exc "BadName", .exc "BadStanding", .exc "BadNumber", .exc "BadRows", .exc "BadLead", .exc "BadWish", .exc "Nothing", .exc "Full", .exc "BadText", .str "SMALL" "abcdefghijklmnopqrstuvwxyz", .int "MOST_BEGINNINGS" 500, .free "ValueError", .free "all", .free "bool", .free "dict", .free "enumerate", .free "int", .free "isinstance", .free "len", .free "list", .free "max", .free "min", .free "range", .free "set", .free "sorted", .free "str", .free "sum", .free "tuple", .free "zip"]
abbrev R : PySem.W.OpenRow := PySem.W.OpenLaw.row PySem.Challenge.rw_hearsong_k17_whole_beginnings
abbrev hk : PySem.W.Hook := HD.hookL 4 fa fn lams true
def ob (s : PySem.W.SharedT) : He.AlD × Bool := HD.obsLG 4 fa fn lams true (HandSHeadRun.getT s)
theorem ob_eq (s : PySem.W.SharedT) : ob s = hk.obs s.abs := HD.obsLG_eq (HandSHeadRun.getT_eq s)
def lo0 : List PySem.Str := ["is_whole", "is_word", "rise", "are_lines", "is_ear", "are_ears", "places_for", "is_singer", "is_choir", "need_choir", "all_names", "number_of", "place_of", "do_count", "ears_that_count", "lean_singer", "leaned", "lean", "need_first_rows", "spots_for", "lines_for", "widened", "all_known", "as_standing", "could_begin", "must_begin", "_law_cell", "_law_drawn", "_law_roll", "_law_rounds"]
def lo1 : List PySem.Str := ["_law_term", "_law_told", "_law_any_singers", "_law_any_choir", "_law_any_standing", "_law_crew", "_law_heard", "_law_history", "_law_tells", "_law_sung", "_law_all_tuples", "_law_asked_spots", "_law_rows_refused", "SongError", "BadChoir", "BadName", "BadStanding", "BadNumber", "BadRows", "BadLead", "BadWish", "Clash", "Nothing", "Full", "BadText", "SMALL", "MOST_BEGINNINGS"]
def loose : List PySem.Str := lo0 ++ lo1
theorem run (w : World) : HandSHeadRun.RunEq R (PySem.W.view R.prog [62]) hk ob 9000 loose w := by
  intro os
  kernel_rfl
end Head
set_option Elab.async false
set_option linter.all false
set_option maxRecDepth 100000
set_option maxHeartbeats 2000000
namespace HD
open PySem PySem.Spec PyProof.Rows L2 L2H HotX LamX DL
/-- the def x of K makes lambdas -/
def LamK [TabCtx] (K : PySem.W.Frag) (mg : Str → Option Value) (base : Heap) (x : Str) : Prop := ∀ (fd : FuncData) (oc : Value) (od : Option Addr) (osl : Array (Option Value)), K.lookup (He.ga K x) = some ⟨oc, od, .func fd, osl⟩ → ∃ c P, LamAt K mg base x fd.code c P
def LamKs [TabCtx] (K : PySem.W.Frag) (mg : Str → Option Value) (base : Heap) (ls : List Str) : Prop := ∀ x ∈ ls, LamK K mg base x
theorem lamKs {K : PySem.W.Frag} {h : Heap} {ls : List Str} {mg : Str → Option Value} {base : Heap} (L : LamSays K h ls) (TB : ∀ p ∈ codesL K ls, TabB base mg p.1 p.2) : letI := ctxL K ls; LamKs K mg base ls := by
  letI := ctxL K ls
  intro x hx fd oc od osl lk
  exact lamAt_of L TB hx lk
theorem cx_no {P : Program} {w : World} {H : Hp} {s : Shared} {e : Value} {s' : Shared} (h : L2N.CX P w [] H s (fun _ _ _ => False) e s') : False := by
  letI : TabCtx := ⟨[]⟩
  exact DL.cxe_no (P := P) ⟨w, h⟩
variable [TabCtx]
section
variable {P : Program} {w : World} {K : PySem.W.Frag} {mg : Str → Option Value} {base : Heap} {x : Str} {params : Arguments} {body : List Stmt} {scope : Scope} {fd : FuncData}
theorem fn_mkC {N ps : List Str} {k : Nat} {f : SM} (D : FunD K x x params body scope [] [] (He.ga K x) fd) (hx : mg x = some (.ref (He.ga K x))) (S : FnScope N ps scope)
    (hbd : ∀ (kV doc pm : Value) (an : Option Addr) (cdv ct : Value) (us : List Value), us.length = ps.length → bindArgs (PySem.W.fnOf x x params body scope .none kV doc pm an cdv ct) ⟨us, []⟩ = pure (ps.zip us))
    (hps : ps.length ≤ N.length) (LM : LamK K mg base x)
    (hb : ∀ (cdv : Value) (c Pt : Addr) (A : Around) (outer : List Env) (s : Shared) (H V : Hp) (E : XK), LamAt K mg base x cdv c Pt → Room k (A.deeper (envOfC x scope s.heap.objs.size (He.ga K x) cdv)) → PMSs (cxF P w K mg base N x scope cdv A outer s H E) (mkF H V E) body f) :
    FnD P w K mg base (k + 1) x ps (fnRun ps.length N.length f) := by
  have hbb := D.bindsN hbd
  obtain ⟨oc, od, dV, kV, doc, pm, an, cdv, ct, osl, rfl, lk, hcd, _, _⟩ := D.ex
  obtain ⟨c, Pt, LA⟩ := LM _ _ _ _ lk
  refine ⟨_, fn_of (CX := L2N.CX P w) lk hcd S (fun vs H Q E h => h.1) fun A outer s H vs Q E hr h => ?_, hbb, D.kp, hx, fun ds h => ?_⟩
  · obtain ⟨hl, V, ds, ht, sv, r, g⟩ := h
    refine ⟨_, hb cdv c Pt A outer s H V E LA hr, V, start0 N.length ds, repL_get r rfl (by omega) sv ht, ?_⟩
    unfold fnRun at g
    rw [if_pos (by rw [← r.length]; exact hl)] at g
    show GoalS ⟨K, w⟩ (mkF H V E) V (f (start0 N.length ds)) _
    cases e : f (start0 N.length ds) with
    | rt d ρ' => rw [e] at g; exact fun v σ' H' V' E' _ r' => g v H' V' E'.ext r'
    | rf d ρ' => rw [e] at g; exact fun v σ' H' V' E' _ r' _ => g v H' V' E'.ext r'
    | nx ρ' => rw [e] at g; exact fun σ' H' V' E' _ => g .non H' V' E'.ext .non
    | exc c => rw [e] at g; exact fun σ' H' V' x => g H' V' x
    | bk ρ' => rw [e] at g; exact False.elim g
    | ct ρ' => rw [e] at g; exact False.elim g
    | bad => rw [e] at g; exact False.elim g
  · unfold fnRun at h
    by_cases hl : ds.length = ps.length
    · exact hl
    · rw [if_neg hl] at h; exact absurd rfl h
end
end HD
set_option Elab.async false
set_option linter.all false
set_option maxRecDepth 100000
set_option maxHeartbeats 2000000
namespace HD
open PySem PySem.Spec PyProof.Rows L2 L2H HotX LamX DL
variable [TabCtx]
def Kept (P : Program) (w : World) (f : Addr) (h : Heap) : Prop := ∃ k, (k = Keeper.frame ∨ k = Keeper.machine ∨ k = Keeper.boundFrame) ∧ PySem.W.Looks (model P w) h (keeperOf (.ref f)) k
/-- what stands at f can be called: data in, data out -/
structure CbAt (P : Program) (w : World) (K : PySem.W.Frag) (mg : Str → Option Value) (base : Heap) (lvl : Nat) (H V : Hp) (f : Addr) (cb : List PyData → Option PyData) : Prop where
  run : ∀ (H' V' : Hp), Ext H V H' V' → TabV H' V' → ∀ (A : Around) (outer : List Env) (s : Shared) (us : List Value) (vs : List L2.V) (ds : List PyData) (d : PyData) (Q : VK), Room lvl A → Env0 P w K mg base A outer s H' → Vals vs us → RepL ⟨K, w⟩ V' vs ds → cb ds = some d →
    (∀ v H2 V2, Ext H' V' H2 V2 → Rep ⟨K, w⟩ V2 v d → Q v H2) → codeAny (model P w) A (.call (.ref f) ⟨us, []⟩) (CR C8.CX0 outer P w H' s Q C8.E0) s
  fn : ∀ (H' V' : Hp), Ext H V H' V' → ∀ h : Heap, HOk P w H' h → K.In h → Kept P w f h
theorem CbAt.mono {P : Program} {w : World} {K : PySem.W.Frag} {mg : Str → Option Value} {base : Heap} {lvl : Nat} {H V H1 V1 : Hp} {f : Addr} {cb : List PyData → Option PyData} (C : CbAt P w K mg base lvl H V f cb) (e : Ext H V H1 V1) : CbAt P w K mg base lvl H1 V1 f cb :=
  ⟨fun H' V' x => C.run H' V' (e.trans x), fun H' V' x => C.fn H' V' (e.trans x)⟩
end HD
set_option Elab.async false
set_option linter.all false
set_option maxRecDepth 100000
set_option maxHeartbeats 2000000
namespace HD
open PySem PySem.Spec PyProof.Rows L2 L2H HotX LamX DL
structure LamP (sc scope : Scope) (ps : List Str) : Prop where
  kind : scope.kind = .function
  co : scope.isCoroutine = false
  gen : scope.isGenerator = false
  own : ∀ y ∈ scope.names, y.2 ≠ .cell
  loc : ∀ y ∈ scope.names, y.2 = .local → y.1 ∈ ps
  free : ∀ y ∈ scope.names, y.2 = .free → sc.names.lookup y.1 = some .cell ∨ sc.names.lookup y.1 = some .free
  par : ∀ y ∈ ps, scope.names.lookup y = some .local
  nd : ps.Nodup
theorem LamP.has {X : Cx} {scope : Scope} {ps : List Str} (L : LamP X.env.scope scope ps) (ok : X.Ok) : ∀ y ∈ scope.names, y.2 = .free → ∃ c, X.env.cells.lookup y.1 = some c := fun y hy e => by
  rcases L.free y hy e with k | k
  · exact ok.has _ (.inl k)
  · exact ok.has _ (.inr k)
end HD
set_option Elab.async false
set_option linter.all false
set_option maxRecDepth 100000
set_option maxHeartbeats 2000000
set_option Elab.async false
set_option linter.all false
set_option maxRecDepth 100000
set_option maxHeartbeats 2000000
namespace DL
open PySem PySem.Spec PyProof.Rows L2
end DL
set_option Elab.async false
set_option linter.all false
set_option maxRecDepth 100000
set_option maxHeartbeats 4000000
namespace PySem
open Sem (wp)
section
variable {prog : Program} {w : World} {A : Around} {E : Value → Shared → Prop} {s : Shared} {z TI TO i1 i2 : Addr} {fp1 fp2 : List Addr} {n1 n2 i : Nat} {P1 P2 : Nat → Value → Prop} {St1 St2 : Nat → Heap → Prop} {a1 a2 : Value}
/-- the list's items: tuples in a row -/
def ZIt (P1 P2 : Nat → Value → Prop) (b0 : Nat) (acc : Array Value) (i : Nat) (h : Heap) : Prop := acc.size = i ∧ ∀ j, j < i → ∃ x y, acc[j]? = some (.ref (b0 + j)) ∧ P1 j x ∧ P2 j y ∧ IsTupOf2 h (b0 + j) x y
theorem ZIt.keep {b0 : Nat} {acc : Array Value} {h h' : Heap} (Z : ZIt P1 P2 b0 acc i h) (k : ∀ j, j < i → ∀ o, h.get? (b0 + j) = some o → h'.get? (b0 + j) = some o) : ZIt P1 P2 b0 acc i h' :=
  ⟨Z.1, fun j hj => let ⟨x, y, a, b, c, d⟩ := Z.2 j hj; ⟨x, y, a, b, c, k j hj _ d⟩⟩
end
end PySem
set_option Elab.async false
set_option linter.all false
set_option maxRecDepth 100000
set_option maxHeartbeats 4000000
namespace DL
open PySem PySem.Spec PyProof.Rows L2
variable [TabCtx]
theorem nin {x y z : Nat} (h1 : x < y ∨ y < x) (h2 : x < z ∨ z < x) : x ∉ [y, z] := by simp; omega
end DL
set_option Elab.async false
set_option linter.all false
set_option maxRecDepth 100000
set_option maxHeartbeats 4000000
namespace DL
open PySem PySem.Spec PyProof.Rows L2
variable [TabCtx]
theorem RepL.cons_inv {K : KW} {V : Hp} {vs : List L2.V} {d : PyData} {ds : List PyData} (r : RepL K V vs (d :: ds)) : ∃ v ws, vs = v :: ws ∧ Rep K V v d ∧ RepL K V ws ds := by
  cases r with
  | cons a b => exact ⟨_, _, rfl, a, b⟩
end DL
set_option Elab.async false
set_option linter.all false
set_option maxRecDepth 100000
set_option maxHeartbeats 4000000
namespace DL
open PySem PySem.Spec PyProof.Rows L2
end DL
set_option Elab.async false
set_option linter.all false
set_option maxRecDepth 100000
set_option maxHeartbeats 4000000
namespace DL
open PySem PySem.Spec PyProof.Rows L2
variable [TabCtx]
def movO (j i : Nat) : SM := fun ρ => match ρ[i]? with
  | some (.ow d) => if j < ρ.length then .nx ((ρ.set i (.sh d)).set j (.sh d)) else .bad
  | _ => .bad
section
variable {K : KW} {F : Fr} {σ : St} {ρ : Rho} {H V : Hp}
theorem EnvR.dropSl (E : EnvR K F H V σ ρ) (i : Nat) : EnvR K F H V σ (ρ.set i .no) := by
  have at_ : ∀ {j : Nat} {t : Sl}, t ≠ .no → (ρ.set i .no)[j]? = some t → ρ[j]? = some t ∧ j ≠ i := fun {j t} ht h => by
    by_cases e : i = j
    · subst e
      by_cases hi : i < ρ.length
      · rw [List.getElem?_set_self hi] at h; cases h; exact absurd rfl ht
      · rw [List.getElem?_eq_none (by simpa using hi)] at h; cases h
    · rw [List.getElem?_set_ne e] at h; exact ⟨h, Ne.symm e⟩
  refine ⟨by rw [List.length_set]; exact E.len, E.ext, fun j d h => E.sh j d (at_ (by simp) h).1, fun j d h => E.ow j d (at_ (by simp) h).1, fun a b c d e h1 h2 => E.dis a b c d e (at_ (by simp) h1).1 (at_ (by simp) h2).1, E.lent, E.tab⟩
theorem EnvR.letGo (E : EnvR K F H V σ ρ) {i : Nat} {d : PyData} (h : ρ[i]? = some (.ow d)) (hl : i ≠ F.ls ∨ F.lent = none) : ∃ a V', σ[i]? = some (some (.ref a)) ∧ EnvR K F H V' σ (ρ.set i (.sh d)) ∧ Same V V' ∧ Rep K V' (.ref a) d := by
  obtain ⟨a, h1, h2, h3, h4⟩ := E.ow i d h
  obtain ⟨u, hu, hr⟩ := h4.show h2
  have E1 := E.dropSl i
  have hno : ¬ IsOwn σ (ρ.set i .no) a := fun ⟨j, e, q1, q2⟩ => by
    by_cases z : i = j
    · subst z
      by_cases hi : i < ρ.length
      · rw [List.getElem?_set_self hi] at q1; cases q1
      · rw [List.getElem?_eq_none (by simpa using hi)] at q1; cases q1
    · rw [List.getElem?_set_ne z] at q1
      exact z (E.dis i j a d e h q1 h1 q2)
  have E2 := E1.show hu h2 h3 hno
  have E3 := E2.setSh (i := i) hr hl
  have es : σ.set i (some (.ref a)) = σ := by
    apply List.ext_getElem?
    intro j
    by_cases z : i = j
    · subst z
      have hi : i < σ.length := by
        rcases Nat.lt_or_ge i σ.length with q | q
        · exact q
        · rw [List.getElem?_eq_none q] at h1; cases h1
      rw [List.getElem?_set_self hi, h1]
    · rw [List.getElem?_set_ne z]
  rw [es, List.set_set] at E3
  exact ⟨a, _, h1, E3, same_new h2, hr⟩
end
section
variable {X : Cx} {F : Fr} {pos : Pos}
theorem pms_mov (j i : Nat) {x y : Str} {px py : Pos} (hN : X.N.Nodup) (hj : X.N[j]? = some x := by rfl) (hi : X.N[i]? = some y := by rfl) (hv : Vis X.env.scope y := by first | exact Or.inl rfl | exact Or.inr (Or.inl rfl) | exact Or.inr (Or.inr rfl)) (hx : Loc X.env.scope x := by first | exact Or.inl rfl | exact Or.inr rfl) (hl : i ≠ F.ls ∨ F.lent = none := by first | exact Or.inr rfl | exact Or.inl (ne_ls rfl)) (hlj : j ≠ F.ls ∨ F.lent = none := by first | exact Or.inr rfl | exact Or.inl (ne_ls rfl))
    (hd : (y == ("__debug__" : Str)) = false := by decide) (hcd : (y == ("__classdict__" : Str)) = false := by decide) (hs : swapsWith (.Name y py) (some (.Name x px)) pos.line X.env = pure false := by rfl) (hf : X.fn x = true ∨ X.env.scope.names.lookup x = some .local := by first | exact .inl rfl | exact .inr rfl | assumption) :
    PMS X F (.Assign [.Name x px] (.Name y py) pos) (movO j i) := by
  refine PS.imp (ps_set hN hj hx (pe_var (i := i) hi hv hd hcd) hs hf) fun D σ H ⟨V, ρ, E, g⟩ => ?_
  unfold movO at g
  cases h : ρ[i]? with
  | none => rw [h] at g; exact g.elim
  | some s =>
    rw [h] at g
    cases s with
    | no => exact False.elim g
    | sh d => exact False.elim g
    | ow d =>
      have g : GoalS X.kw F V (if j < ρ.length then .nx ((ρ.set i (.sh d)).set j (.sh d)) else .bad) D := g
      by_cases hjl : j < ρ.length
      · rw [if_pos hjl] at g
        obtain ⟨a, V', h1, E1, sv, r⟩ := E.letGo h hl
        exact ⟨.ref a, h1, g _ _ _ (E1.setSh (i := j) r hlj) sv⟩
      · rw [if_neg hjl] at g; exact False.elim g
/-- a statement that finds the slot i's own thing let go of -/
def letO (i : Nat) (f : SM) : SM := fun ρ => match ρ[i]? with
  | some (.ow d) => f (ρ.set i (.sh d))
  | _ => f ρ
theorem pms_let (i : Nat) {st : Stmt} {f : SM} (h : PMS X F st f) (hl : i ≠ F.ls ∨ F.lent = none := by first | exact Or.inr rfl | exact Or.inl (ne_ls rfl)) : PMS X F st (letO i f) := by
  refine PS.imp h fun D σ H ⟨V, ρ, E, g⟩ => ?_
  unfold letO at g
  cases hr : ρ[i]? with
  | none => rw [hr] at g; exact ⟨V, ρ, E, g⟩
  | some s =>
    rw [hr] at g
    cases s with
    | no => exact ⟨V, ρ, E, g⟩
    | sh d => exact ⟨V, ρ, E, g⟩
    | ow d =>
      obtain ⟨a, V', h1, E1, sv, r⟩ := E.letGo hr hl
      exact ⟨V', _, E1, GoalS.mono sv g⟩
end
end DL
set_option Elab.async false
set_option linter.all false
set_option maxRecDepth 100000
set_option maxHeartbeats 4000000
namespace DL
open PySem PySem.Spec PyProof.Rows L2
end DL
set_option Elab.async false
set_option linter.all false
set_option maxRecDepth 100000
set_option maxHeartbeats 4000000
namespace DL
open PySem PySem.Spec PyProof.Rows L2
variable [TabCtx]
mutual
def flatT : PyData → Bool
  | .int _ => true
  | .str _ => true
  | .tuple xs => flatTs xs
  | _ => false
def flatTs : List PyData → Bool
  | [] => true
  | x :: xs => flatT x && flatTs xs
end
section
variable {X : Cx} {pins : List (Addr × Obj)} {σ : L2.St} {H V : Hp} {s : Shared}
mutual
theorem rep_reads (I : L2.Inv X pins σ H s) (sv : Same V H) : ∀ (d : PyData) (v : L2.V) (u : Value), Rep X.kw V v d → RelV v u → flatT d = true → ∃ as, Reads s.heap u d as
  | .int i, v, u, r, ru, _ => by
    cases r
    obtain ⟨t, rfl⟩ := ru
    exact ⟨[], .int i t⟩
  | .str x, v, u, r, ru, _ => by
    cases r
    obtain ⟨t, rfl⟩ := ru
    exact ⟨[], .str x t⟩
  | .tuple xs, v, u, r, ru, h => by
    cases r with
    | tup hV rl =>
      obtain ⟨its, rv, ⟨o, ho, hc, n, hd⟩, _⟩ := I.tuple (sqt sv hV)
      cases ru
      obtain ⟨as, ra⟩ := repL_reads I sv xs _ _ rl rv (by rw [flatT] at h; exact h)
      exact ⟨as, .tuple ho hc hd (by simpa using ra)⟩
  | .none, v, u, r, ru, h => by simp [flatT] at h
  | .bool _, v, u, r, ru, h => by simp [flatT] at h
  | .list _, v, u, r, ru, h => by simp [flatT] at h
  | .dict _, v, u, r, ru, h => by simp [flatT] at h
theorem repL_reads (I : L2.Inv X pins σ H s) (sv : Same V H) : ∀ (ds : List PyData) (vs : List L2.V) (us : List Value), RepL X.kw V vs ds → L2.Vals vs us → flatTs ds = true → ∃ as, ReadsAll s.heap us ds as
  | [], vs, us, r, ru, _ => by
    cases r
    cases ru
    exact ⟨[], .nil⟩
  | d :: ds, vs, us, r, ru, h => by
    cases r with
    | cons r1 r2 =>
      cases ru with
      | cons u1 u2 =>
        rw [flatTs, Bool.and_eq_true] at h
        obtain ⟨as, h1⟩ := rep_reads I sv d _ _ r1 u1 h.1
        obtain ⟨bs, h2⟩ := repL_reads I sv ds _ _ r2 u2 h.2
        exact ⟨as ++ bs, .cons h1 h2⟩
end
end
def neT : PyData → Bool
  | .tuple (_ :: _) => true
  | _ => false
def srtOk (ds : List PyData) : Bool := (ds.all fun d => neT d && flatT d && decide (d.depth ≤ 40)) && ds.all fun d => ds.all fun e => PySem.W.alike d e
def srtD (ds : List PyData) : List PyData := ds.mergeSort (PySem.W.dataLe false fun d => d)
section
variable {K : KW} {V : Hp}
theorem each_of : ∀ {xs : List L2.V} {ds : List PyData} {us : List Value}, RepL K V xs ds → L2.Vals xs us → PySem.W.EachIs (fun u d => ∃ v, RelV v u ∧ Rep K V v d) us ds
  | _, _, _, .nil, .nil => .nil
  | _, _, _, .cons r t, .cons h q => .cons ⟨_, h, r⟩ (each_of t q)
theorem of_each : ∀ {ds : List PyData} {us : List Value}, PySem.W.EachIs (fun u d => ∃ v, RelV v u ∧ Rep K V v d) us ds → ∃ ys, L2.Vals ys us ∧ RepL K V ys ds
  | _, _, .nil => ⟨[], .nil, .nil⟩
  | _, _, .cons ⟨v, h, r⟩ t => by
    obtain ⟨ys, h1, h2⟩ := of_each t
    exact ⟨v :: ys, .cons h h1, .cons r h2⟩
theorem srt_alike {ds : List PyData} (h : srtOk ds = true) : PySem.W.AllAlike (ds.map fun d => d) := by
  rw [List.map_id']
  intro d hd e he
  exact List.all_eq_true.mp (List.all_eq_true.mp (Bool.and_eq_true_iff.mp h).2 d hd) e he
theorem srt_each {ds : List PyData} (h : srtOk ds = true) {d : PyData} (hd : d ∈ ds) : (∃ x r, d = .tuple (x :: r)) ∧ flatT d = true ∧ d.depth ≤ 40 := by
  have := List.all_eq_true.mp (Bool.and_eq_true_iff.mp h).1 d hd
  rw [Bool.and_eq_true, Bool.and_eq_true] at this
  refine ⟨?_, this.1.2, of_decide_eq_true this.2⟩
  have h1 := this.1.1
  unfold neT at h1
  split at h1
  · exact ⟨_, _, rfl⟩
  · cases h1
theorem srt_able {ds : List PyData} (h : srtOk ds = true) : PySem.W.Sortable (ds.map fun d => d) := by
  rw [List.map_id']
  exact .inl fun d hd => (srt_each h hd).1
end
def rSortT (K : KW) : List L2.V → Hp → VK → Prop := fun vs H Q => ∃ (a : Addr) (xs : List L2.V) (ds : List PyData) (V : Hp), vs = [L2.V.ref a] ∧ (SqL K.k H a xs ∨ ∃ (ys : List (NestedKey × Addr × L2.V)) (ep : Nat), H a = some (dX K.w a ys ep) ∧ xs = ys.map fun y => L2.V.ref y.2.1) ∧ Same V H ∧ RepL K V xs ds ∧ srtOk ds = true ∧
  ∀ ys p, RepL K V ys (srtD ds) → H p = none → Q (.ref p) (upd H p (.lst ys))
section
variable {X : Cx} {pins : List (Addr × Obj)} {σ : L2.St} {H V : Hp} {s : Shared}
theorem each_reads (I : L2.Inv X pins σ H s) (sv : Same V H) {ds : List PyData} {us : List Value} (h : srtOk ds = true) (e : PySem.W.EachIs (fun u d => ∃ v, RelV v u ∧ Rep X.kw V v d) us ds) {h' : Heap} (kp : ∀ b o, s.heap.get? b = some o → h'.get? b = some o) : PySem.W.EachIs (fun u d => ∃ as, Reads h' u d as) us ds :=
  (PySem.W.each_mem e).mono fun u d ⟨⟨v, r1, r2⟩, hd⟩ => by
    obtain ⟨as, r⟩ := rep_reads I sv d v u r2 r1 (srt_each h hd).2.1
    exact ⟨as, PyProof.Rows.Reads.keeps kp r⟩
end
theorem cr_sortT {X : Cx} (hcalm : X.calm = true) (hu : X.A.units + 64 < cLine) : CallR X (.builtin "sorted") (rSortT X.kw) := by
  intro pins s σ H vs us Q I r h
  obtain ⟨a, xs, ds, V, rfl, hs, sv, rl, ho, q⟩ := h
  obtain ⟨u, rfl, ru⟩ := vals1 r
  obtain rfl : u = Value.ref a := ru
  rcases hs with hs | ⟨ys, ep, hd, rfl⟩
  · obtain ⟨its, rv, hl, hz⟩ := I.list hs
    have e := each_of rl rv
    have hL : ds.length ≤ sizeLine := by rw [← e.length, ← rv.length]; exact hz
    refine PySem.W.sorted_data (R := fun u d => ∃ v, RelV v u ∧ Rep X.kw V v d) (enc := fun d => d) (bs := ds) (vs := its) hl.isList e (each_reads I sv ho e fun _ _ z => z) (srt_alike ho) (srt_able ho) hL (fun d hd => by have := (srt_each ho hd).2.2; show X.A.units + 2 + d.depth < cLine; omega) fun out hlen hE => ?_
    obtain ⟨zs, rz, rl'⟩ := of_each hE
    obtain ⟨n, hn⟩ := sortedAll_at s.heap its out.toArray
    refine ⟨.ref (s.heap.objs.size + 1), upd H (s.heap.objs.size + 1) (.lst zs), I.laid (t' := s.toks) (fun b o z => sortedAll_old z) (Nat.le_succ _) ⟨?_, out, n, rz, hn⟩, rfl, q _ _ rl' (I.hok.fresh (Nat.le_succ _))⟩
    rw [rz.length, hlen]; exact hL
  · obtain ⟨lo, o, es, h1, h2, h3, h4, h5⟩ := xok_at I.hok hd
    have raw : s.heap.DictRaw a es ep := ⟨o, h1, h2, h3⟩
    have hyl : ys.length = ds.length := by have := rl.length; rwa [List.length_map] at this
    have hL : ds.length ≤ sizeLine := by
      obtain ⟨⟨z, _⟩, _, _⟩ := (show ObjOk X.prog X.w H s.heap a (dX X.w a ys ep) from I.hok a _ hd)
      rw [← hyl]; exact z
    refine Calls.call_function_entry kind_sorted plain_sorted entry_sorted (args_sorted1 (.ref a)) ?_
    unfold Builtin.«sorted»
    refine wpAny_bind (m := checkCount "sorted" 1 1 _) (wpAny_pure (wpAny_bind (PySem.W.kdu_collect (PySem.KdlSrc.rawDict lo) (I.ok.hd hcalm) raw (by rw [h4, hyl]; exact hL) fun h0 tk acc k0 hit => ?_)))
    have ea : acc.toList = (ys.map fun y => y.2.1).map Value.ref := by
      refine List.ext_getElem? fun j => ?_
      rw [List.getElem?_map, List.getElem?_map]
      by_cases hj : j < ys.length
      · have hx : ys[j]? = some ys[j] := List.getElem?_eq_getElem hj
        obtain ⟨en, e1, e2⟩ := h5 j ys[j].1 ys[j].2.1 ys[j].2.2 hx
        have hja : j < acc.size := by rw [hit.1, h4]; exact hj
        obtain ⟨hi, e3⟩ := hit.2 j acc[j] (Array.getElem?_eq_getElem hja)
        rw [Array.getElem?_toList, Array.getElem?_eq_getElem hja, hx, e3]
        rw [Array.getElem?_eq_getElem hi] at e1
        rw [Option.some.inj e1, e2]; rfl
      · rw [List.getElem?_eq_none (by rw [Array.length_toList, hit.1, h4]; omega), List.getElem?_eq_none (by omega)]; rfl
    rw [ea]
    have rv : L2.Vals (ys.map fun y => L2.V.ref y.2.1) ((ys.map fun y => y.2.1).map Value.ref) := by
      have := vals_back (us := (ys.map fun y => y.2.1).map Value.ref) fun u hu => by obtain ⟨b, _, rfl⟩ := List.mem_map.mp hu; exact ⟨b, rfl⟩
      rw [List.map_map, List.map_map] at this
      exact this
    generalize (ys.map fun y => y.2.1).map Value.ref = its at rv ⊢
    have e := each_of rl rv
    have hz : its.length ≤ sizeLine := by rw [e.length]; exact hL
    have I0 : L2.Inv X pins σ H { s with heap := h0, toks := tk } := I.kept k0
    show wpAny _ _ _ _ _ { s with heap := h0, toks := tk }
    refine wpAny_bind (wpAny_newList (s := { s with heap := h0, toks := tk }) ?_ hz)
    have hat : (h0.push (seqObj "list" its.toArray 0)).get? h0.objs.size = some (seqObj "list" its.toArray 0) := Heap.get?_push_size _ rfl
    have k1 : ∀ b o, h0.get? b = some o → b ≠ h0.objs.size ∧ (h0.push (seqObj "list" its.toArray 0)).get? b = some o := fun b o q => ⟨Nat.ne_of_lt (Heap.lt_size q), Heap.get?_push_of_some _ q⟩
    have k2 : ∀ b o, s.heap.get? b = some o → (PySem.W.sortingHeap (h0.push (seqObj "list" its.toArray 0)) h0.objs.size its).get? b = some o := fun b o q => PySem.W.sortingHeap_old (k1 b o (k0 b o q)).1 (k1 b o (k0 b o q)).2
    have er := each_reads I sv ho e k2
    show wpAny _ _ _ _ _ { s with heap := h0.push (seqObj "list" its.toArray 0), toks := tk }
    refine wpAny_bind (wpAny_holding (wpAny_call_entry slot_list_sort ⟨_, hat, rfl⟩ entry_list_sort (PySem.W.list_sort_vals (s := { s with heap := h0.push (seqObj "list" its.toArray 0), toks := tk }) (κ := PySem.W.dataKind (PySem.W.sortingHeap (h0.push (seqObj "list" its.toArray 0)) h0.objs.size its) (ds.map fun d => d)) hat (PySem.W.SortsAt.data (s := { s with heap := PySem.W.sortingHeap (h0.push (seqObj "list" its.toArray 0)) h0.objs.size its, toks := tk }) (by rw [List.map_id']; exact er) (srt_alike ho) (srt_able ho) (fun d hd => by rw [List.map_id'] at hd; have := (srt_each ho hd).2.2; show X.A.units + 2 + d.depth < cLine; omega)) hz ⟨_, rfl, ?_⟩) (args_list_sort _)))
    have hE := PySem.W.sortVals_data (h' := PySem.W.sortingHeap (h0.push (seqObj "list" its.toArray 0)) h0.objs.size its) (R := fun u d => ∃ v, RelV v u ∧ Rep X.kw V v d) (enc := fun d => d) false e er (srt_alike ho)
    have hlen : (PySem.W.sortVals (PySem.W.dataKind (PySem.W.sortingHeap (h0.push (seqObj "list" its.toArray 0)) h0.objs.size its) (ds.map fun d => d)) false its its).length = ds.length := by rw [PySem.W.sortVals_length false rfl]; exact e.length
    obtain ⟨zs, rz, rl'⟩ := of_each hE
    obtain ⟨n, hn⟩ := sortedHeap_at (vs := its) (n := 0) (out := (PySem.W.sortVals (PySem.W.dataKind (PySem.W.sortingHeap (h0.push (seqObj "list" its.toArray 0)) h0.objs.size its) (ds.map fun d => d)) false its its).toArray) hat
    refine wpAny_pure ⟨_, rfl, .ref h0.objs.size, upd H h0.objs.size (.lst zs), I0.laid (t' := tk) (fun b o z => ?_) (Nat.le_refl _) ⟨?_, _, n, rz, hn⟩, rfl, q _ _ rl' (I0.hok.fresh (Nat.le_refl _))⟩
    · obtain ⟨z1, z2⟩ := k1 b o z
      rw [sortedHeap_old z1 (by rw [size_push']; exact Nat.lt_succ_of_lt (Heap.lt_size z))]
      exact z2
    · rw [rz.length, hlen]; exact hL
def gSortT : List PyData → Option PyData
  | [.list ds] => if srtOk ds = true then some (.list (srtD ds)) else none
  | [.dict ps] => if (ps.all fun p => isTupD p.1) = true ∧ srtOk (ps.map (·.1)) = true then some (.list (srtD (ps.map (·.1)))) else none
  | _ => none
theorem RepT.keysL {K : KW} {V : Hp} : ∀ {ys : List (NestedKey × Addr × L2.V)} {ps : List (PyData × PyData)}, RepT K V ys ps → RepL K V (ys.map fun y => L2.V.ref y.2.1) (ps.map (·.1))
  | _, _, .nil => .nil
  | _, _, .cons rk _ _ _ t => .cons rk (RepT.keysL t)
theorem cd_sortT {K : KW} : CallD K (rSortT K) gSortT := by
  intro xs ds z H V Q s r e q
  cases r with
  | nil => cases e
  | cons r1 r2 =>
    cases r2 with
    | cons _ _ => cases r1 <;> cases e
    | nil =>
      cases r1 with
      | @lst a ys es ha ra =>
        obtain ⟨h, rfl⟩ := ite_some e
        exact ⟨a, ys, es, V, rfl, .inl (.inl (.inl (s _ _ ha))), s, ra, h, fun out p rl hp => q _ _ _ (Ext.new s hp) (new_lst s hp rl)⟩
      | @dt a ys ep ps h rt =>
        obtain ⟨hc, rfl⟩ := ite_some e
        exact ⟨a, _, _, V, rfl, .inr ⟨ys, ep, s _ _ h, rfl⟩, s, rt.keysL, hc.2, fun out p rl hp => q _ _ _ (Ext.new s hp) (new_lst s hp rl)⟩
      | @dk a kvs ps h rk n =>
        obtain ⟨hc, rfl⟩ := ite_some e
        exact absurd (rk.plains hc.1) n
      | _ => cases e
end DL
set_option Elab.async false
set_option linter.all false
set_option maxRecDepth 100000
set_option maxHeartbeats 4000000
namespace DL
open PySem PySem.Spec PyProof.Rows L2
end DL
set_option Elab.async false
set_option linter.all false
set_option maxRecDepth 100000
set_option maxHeartbeats 4000000
namespace DL
open PySem PySem.Spec PyProof.Rows L2
end DL
set_option Elab.async false
set_option linter.all false
set_option maxRecDepth 100000
set_option maxHeartbeats 4000000
namespace DL
open PySem PySem.Spec PyProof.Rows L2
variable [TabCtx]
/-- what holds of a comprehension's new dict at D -/
structure DI (K : KW) (F : Fr) (vs : List Nat) (σ : St) (ρ1 : Rho) (H1 V1 : Hp) (D : Addr) (σ' : St) (ρ' : Rho) (H' V' : Hp) (ys : List (NestedKey × Addr × L2.V)) (ep : Nat) (acc : List (PyData × PyData)) : Prop where
  env : EnvR K F H' V' σ' ρ'
  sv : Same V1 V'
  hD : H' D = some (dX K.w D ys ep)
  rl : RepT K V' ys acc
  vD : V' D = none
  ho : ∀ b, IsOwn σ' ρ' b → IsOwn σ ρ1 b
  kp : ∀ b o, H1 b = some o → nT o → ¬ IsOwn σ ρ1 b → H' b = some o
  sh : ∀ (j : Nat) (d : PyData), j ∉ vs → ρ'[j]? = some (.sh d) → ρ1[j]? = some (.sh d)
  fr : ∀ b, V1 b = none → H1 b ≠ none → V' b = none
  th : ∀ b, H1 b ≠ none → H' b ≠ none
  nD : ¬ IsOwn σ ρ1 D
  h0 : F.H0 D = none
  h1 : H1 D = none
section
variable {K : KW} {F : Fr} {vs : List Nat} {σ : St} {ρ1 : Rho} {H1 V1 : Hp} {D : Addr} {σ' σ2 : St} {ρ' ρ2 : Rho} {H' V' H2 V2 : Hp} {ys : List (NestedKey × Addr × L2.V)} {ep : Nat} {acc : List (PyData × PyData)}
theorem DI.start (E : EnvR K F H1 V1 σ ρ1) (hD : H1 D = none) (ep : Nat) : DI K F vs σ ρ1 H1 V1 D σ ρ1 (upd H1 D (dX K.w D [] ep)) V1 [] ep [] := by
  have L := LI.start (vs := vs) E hD
  exact ⟨E.grow (Ext.hid E.sub hD), L.sv, upd_same, .nil, L.vD, L.ho, fun b o q _ _ => same_new hD b o q, L.sh, L.fr, Same.th (same_new hD), L.nD, L.h0, L.h1⟩
theorem DI.someD (I : DI K F vs σ ρ1 H1 V1 D σ' ρ' H' V' ys ep acc) : H' D ≠ none := by rw [I.hD]; exact fun z => nomatch z
theorem DI.wipe (I : DI K F vs σ ρ1 H1 V1 D σ' ρ' H' V' ys ep acc) (ws : List Nat) (hl : F.ls ∉ ws ∨ F.lent = none) : DI K F vs σ ρ1 H1 V1 D (L2.wipe σ' ws) (wipeR ρ' ws) H' V' ys ep acc :=
  { I with env := I.env.wipe hl, ho := fun b h => I.ho b (isOwn_wipe h), sh := fun j d hj q => I.sh j d hj (wipeR_some (by intro z; cases z) q).1 }
theorem DI.ext (I : DI K F vs σ ρ1 H1 V1 D σ' ρ' H' V' ys ep acc) (x : Ext H' V' H2 V2) : DI K F vs σ ρ1 H1 V1 D σ' ρ' H2 V2 ys ep acc :=
  { I with env := I.env.grow x, sv := I.sv.trans x.v, hD := x.h _ _ I.hD plain_dX.t, rl := I.rl.mono x.v, vD := x.f D I.vD I.someD, kp := fun b o q n m => x.h _ _ (I.kp b o q n m) n, fr := fun b h1 h2 => x.f b (I.fr b h1 h2) (I.th b h2), th := fun b h => x.th b (I.th b h) }
theorem DI.tgt {is : List Nat} (I : DI K F vs σ ρ1 H1 V1 D σ' ρ' H' V' ys ep acc) (E : EnvR K F H2 V2 σ2 ρ2) (x : Ext H' V' H2 V2) (o : ∀ b, IsOwn σ2 ρ2 b → IsOwn σ' ρ' b) (p : ∀ (i : Nat) (d : PyData), i ∉ is → ρ2[i]? = some (.sh d) → ρ'[i]? = some (.sh d)) (his : ∀ i ∈ is, i ∈ vs) :
    DI K F vs σ ρ1 H1 V1 D σ2 ρ2 H2 V2 ys ep acc :=
  { I.ext x with env := E, ho := fun b h => I.ho b (o b h), sh := fun j d hj q => I.sh j d hj (p j d (fun z => hj (his j z)) q) }
theorem DI.stp (I : DI K F vs σ ρ1 H1 V1 D σ' ρ' H' V' ys ep acc) (s : Stp K F σ' ρ' ρ2 H' V' H2 V2) : DI K F vs σ ρ1 H1 V1 D σ' ρ2 H2 V2 ys ep acc where
  env := s.env
  sv := I.sv.trans s.v
  hD := s.keep _ _ I.hD plain_dX.t fun h => I.nD (I.ho D h)
  rl := I.rl.mono s.v
  vD := s.f D I.vD I.someD
  ho := fun b h => I.ho b (s.own b h)
  kp := fun b o q n m => s.keep b o (I.kp b o q n m) n fun h => m (I.ho b h)
  sh := fun j d hj q => I.sh j d hj (s.shs j d q)
  fr := fun b h1 h2 => s.f b (I.fr b h1 h2) (I.th b h2)
  th := fun b h => s.th b (I.th b h)
  nD := I.nD
  h0 := I.h0
  h1 := I.h1
end
end DL
set_option Elab.async false
set_option linter.all false
set_option maxRecDepth 100000
set_option maxHeartbeats 4000000
namespace DL
open PySem PySem.Spec PyProof.Rows L2
end DL
set_option Elab.async false
set_option linter.all false
set_option maxRecDepth 100000
set_option maxHeartbeats 4000000
namespace DL
open PySem PySem.Spec PyProof.Rows L2
end DL
set_option Elab.async false
set_option linter.all false
set_option maxRecDepth 100000
set_option maxHeartbeats 4000000
namespace DL
open PySem PySem.Spec PyProof.Rows L2
variable [TabCtx]
def Fr.at (F : Fr) (σ : St) : Fr := { F with W := fun c _ H => F.W c σ H }
end DL
set_option Elab.async false
set_option linter.all false
set_option maxRecDepth 100000
set_option maxHeartbeats 4000000
namespace DL
open PySem PySem.Spec PyProof.Rows L2
variable [TabCtx]
abbrev mkS (l : List Nat) : Str := ⟨l.toArray⟩
end DL
set_option Elab.async false
set_option linter.all false
set_option maxRecDepth 100000
set_option maxHeartbeats 4000000
namespace HD
open PySem PySem.Spec PyProof.Rows L2 L2H HotX LamX DL
variable [TabCtx]
abbrev IS := Int × Str
/-- a tuple of a number and a text -/
def IsIS (h : Heap) (b : Addr) (k : IS) : Prop := ∃ t t', IsTup h b #[.int k.1 t, .str k.2 t']
theorem IsIS.uniq {h : Heap} {b : Addr} {k k' : IS} (x : IsIS h b k) (y : IsIS h b k') : k = k' := by
  obtain ⟨t, t', o, ho, _, n, hd⟩ := x
  obtain ⟨u, u', o', ho', _, n', hd'⟩ := y
  rw [ho] at ho'; cases ho'
  rw [hd] at hd'
  injection hd' with e _
  have e := congrArg Array.toList e
  simp at e
  exact Prod.ext e.1.1 e.2.1
theorem isIS_vals {h : Heap} {b : Addr} {k : IS} (x : IsIS h b k) {its : List Value} {xs : List L2.V} (y : IsTup h b its.toArray) (r : Vals xs its) : xs = [.int k.1, .str k.2] := by
  obtain ⟨t, t', o, ho, _, n, hd⟩ := x
  obtain ⟨o', ho', _, n', hd'⟩ := y
  rw [ho] at ho'; cases ho'
  rw [hd] at hd'
  injection hd' with e _
  have e := congrArg Array.toList e
  have e : its = [.int k.1 t, .str k.2 t'] := by simpa using e.symm
  subst e
  obtain ⟨a, b', rfl, ra, rb⟩ : ∃ a b', xs = [a, b'] ∧ RelV a (.int k.1 t) ∧ RelV b' (.str k.2 t') := by
    cases r with
    | cons r1 r2 =>
      cases r2 with
      | cons r2 r3 => cases r3; exact ⟨_, _, rfl, r1, r2⟩
  have e1 : a = .int k.1 := by
    cases a with
    | int i => obtain ⟨t0, q⟩ := (show ∃ t0, Value.int k.1 t = Value.int i t0 from ra); injection q with q; rw [q]
    | str i => obtain ⟨t0, q⟩ := (show ∃ t0, Value.int k.1 t = Value.str i t0 from ra); cases q
    | non => exact absurd (show Value.int k.1 t = Value.none from ra) (fun z => nomatch z)
    | bl v => exact absurd (show Value.int k.1 t = Value.bool v from ra) (fun z => nomatch z)
    | ref v => exact absurd (show Value.int k.1 t = Value.ref v from ra) (fun z => nomatch z)
    | byt v => exact absurd (show ∃ t0, Value.int k.1 t = Value.bytes v t0 from ra) (fun ⟨_, q⟩ => nomatch q)
    | flt v => exact absurd (show ∃ t0, Value.int k.1 t = Value.float v t0 from ra) (fun ⟨_, q⟩ => nomatch q)
    | ty v => exact absurd (show Value.int k.1 t = Value.type v from ra) (fun z => nomatch z)
  have e2 : b' = .str k.2 := by
    cases b' with
    | int i => obtain ⟨t0, q⟩ := (show ∃ t0, Value.str k.2 t' = Value.int i t0 from rb); cases q
    | str i => obtain ⟨t0, q⟩ := (show ∃ t0, Value.str k.2 t' = Value.str i t0 from rb); injection q with q; rw [q]
    | non => exact absurd (show Value.str k.2 t' = Value.none from rb) (fun z => nomatch z)
    | bl v => exact absurd (show Value.str k.2 t' = Value.bool v from rb) (fun z => nomatch z)
    | ref v => exact absurd (show Value.str k.2 t' = Value.ref v from rb) (fun z => nomatch z)
    | byt v => exact absurd (show ∃ t0, Value.str k.2 t' = Value.bytes v t0 from rb) (fun ⟨_, q⟩ => nomatch q)
    | flt v => exact absurd (show ∃ t0, Value.str k.2 t' = Value.float v t0 from rb) (fun ⟨_, q⟩ => nomatch q)
    | ty v => exact absurd (show Value.str k.2 t' = Value.type v from rb) (fun z => nomatch z)
  rw [e1, e2]
open Classical in
noncomputable def satH (h0 : Heap) (ex : List Addr) (h : Heap) (H : Hp) : Hp := fun b =>
  if q : h0.get? b = none ∧ b ∉ ex ∧ ∃ k, IsIS h b k then some (.tup [.int (choose q.2.2).1, .str (choose q.2.2).2]) else H b
section
variable {P : Program} {w : World} {h0 h : Heap} {ex : List Addr} {H : Hp} {b : Addr}
theorem sat_in {k : IS} (h1 : h0.get? b = none) (h2 : b ∉ ex) (h3 : IsIS h b k) : satH h0 ex h H b = some (.tup [.int k.1, .str k.2]) := by
  have q : h0.get? b = none ∧ b ∉ ex ∧ ∃ k, IsIS h b k := ⟨h1, h2, k, h3⟩
  unfold satH
  rw [dif_pos q]
  have := (Classical.choose_spec q.2.2).uniq h3
  rw [this]
theorem sat_out (hn : ∀ k, ¬ IsIS h b k) : satH h0 ex h H b = H b := by
  unfold satH; rw [dif_neg fun q => hn _ q.2.2.choose_spec]
theorem sat_old {o : Obj} (ho : h0.get? b = some o) : satH h0 ex h H b = H b := by
  unfold satH; rw [dif_neg fun q => by rw [ho] at q; cases q.1]
theorem sat_ex (hb : b ∈ ex) : satH h0 ex h H b = H b := by
  unfold satH; rw [dif_neg fun q => q.2.1 hb]
theorem not_is {o : Obj} (ho : h.get? b = some o) (hd : ∀ its n, o.data ≠ .seq its n) : ∀ k, ¬ IsIS h b k := fun k ⟨_, _, o', ho', _, n, hd'⟩ => by
  rw [ho] at ho'; cases ho'
  exact hd _ _ hd'
theorem sat_tup (ok : HOk P w H h) {xs : List L2.V} (e : H b = some (.tup xs)) : satH h0 ex h H b = some (.tup xs) := by
  by_cases q : h0.get? b = none ∧ b ∉ ex ∧ ∃ k, IsIS h b k
  · obtain ⟨q1, q2, k, q3⟩ := q
    rw [sat_in q1 q2 q3]
    obtain ⟨_, its, r, p⟩ := ok b _ e
    rw [isIS_vals q3 p r]
  · unfold satH; rw [dif_neg q]; exact e
theorem ObjOk.sat (ok : HOk P w H h) {a : Addr} {o : HO} (x : ObjOk P w H h a o) : ObjOk P w (satH h0 ex h H) h a o := by
  induction o with
  | dT kvs =>
    obtain ⟨z, y, xs, r, c⟩ := x
    exact ⟨z, y, xs, L2.Paired.mapP r fun p q z => ⟨z.1, sat_tup ok z.2.1, z.2.2⟩, c⟩
  | ins C dx fs =>
    obtain ⟨d, z, ne, e, mA, hns, r⟩ := x
    refine ⟨?_, z, ne, e, mA, hns, r⟩
    obtain ⟨od, es, ep, e2, e3, _⟩ := hns
    rw [sat_out (not_is e2 fun its n q => by rw [e3] at q; cases q)]
    exact d
  | frz ob u ih => exact ⟨x.1, ih x.2⟩
  | lst xs => exact x
  | tup xs => exact x
  | dK kvs => exact x
  | set S n => exact x
  | own y => exact x
  | xd fs => exact x
  | rng lo hi => exact x
  | tbl ps => exact x
  | met f y => exact x
  | ext φ => exact x
theorem HOk.sat (ok : HOk P w H h) : HOk P w (satH h0 ex h H) h := fun a o e => by
  by_cases q : h0.get? a = none ∧ a ∉ ex ∧ ∃ k, IsIS h a k
  · obtain ⟨q1, q2, k, q3⟩ := q
    rw [sat_in q1 q2 q3] at e
    cases e
    obtain ⟨t, t', p⟩ := q3
    exact ⟨by show 2 ≤ sizeLine; decide, [.int k.1 t, .str k.2 t'], .cons ⟨t, rfl⟩ (.cons ⟨t', rfl⟩ .nil), p⟩
  · have e' : H a = some o := by
      have : satH h0 ex h H a = H a := by unfold satH; rw [dif_neg q]
      rw [← this]; exact e
    exact ObjOk.sat ok (ok a o e')
theorem hok_some (ok : HOk P w H h) {o : HO} (e : H b = some o) : ∃ ob, h.get? b = some ob := by
  have lt := (ok b o e)
  have : ∀ {a : Addr} {u : HO}, ObjOk P w H h a u → ∃ ob, h.get? a = some ob := fun {a u} x1 => by
    induction u with
    | lst xs1 => obtain ⟨_, _, _, _, e⟩ := x1; exact ⟨_, e⟩
    | tup xs => obtain ⟨_, _, _, o, e, _⟩ := x1; exact ⟨_, e⟩
    | dK kvs => obtain ⟨_, _, _, _, o, _, _, e, _⟩ := x1; exact ⟨_, e⟩
    | dT kvs => obtain ⟨_, _, _, _, o, _, _, e, _⟩ := x1; exact ⟨_, e⟩
    | set S n => obtain ⟨o, _, _, _, e, _⟩ := x1; exact ⟨_, e⟩
    | ins C1 dx1 fs1 => obtain ⟨_, _, _, e, _⟩ := x1; exact ⟨_, e⟩
    | own y => obtain ⟨_, e⟩ := x1; exact ⟨_, e⟩
    | xd fs => obtain ⟨_, ⟨_, _, _, e, _⟩, _⟩ := x1; exact ⟨_, e⟩
    | rng lo1 hi1 => obtain ⟨_, _, _, e⟩ := x1; exact ⟨_, e⟩
    | frz ob u _ => obtain ⟨e, _⟩ := x1; exact ⟨_, e⟩
    | tbl ps => exact ⟨_, (show h.get? a = some _ from x1)⟩
    | met f y => exact ⟨_, (show h.get? a = some _ from x1)⟩
    | ext φ1 => obtain ⟨_, ⟨_, e⟩, _⟩ := x1; exact ⟨_, e⟩
  exact this lt
end
/-- the state between two calls -/
structure JC (P : Program) (w : World) (outer : List Env) (s0 : Shared) (H V : Hp) (ex : List Addr) (s : Shared) (H' : Hp) : Prop where
  os : s.os = s0.os
  bare : AllBare s.gens
  un : Un (frs outer) [] H H' s0.heap s.heap
  hok : HOk P w H' s.heap
  ext : Ext H V H' V
  out : ∀ b ∈ ex, H' b = none
  sat : ∀ b k, s0.heap.get? b = none → b ∉ ex → IsIS s.heap b k → H' b = some (.tup [.int k.1, .str k.2])
section
variable {P : Program} {w : World} {outer : List Env} {s0 s : Shared} {H V H2 V2 : Hp} {ex : List Addr}
theorem tabs_sat {h0 h : Heap} {T : List (Addr × Str)} (ok : HOk P w H2 h) (t : LamX.Tabs T H2) : LamX.Tabs T (satH h0 ex h H2) := fun p hp => by
  obtain ⟨ps, h1, h2, h3⟩ := t p hp
  refine ⟨ps, ?_, h2, fun pos cv hc => ?_⟩
  · have e : h.get? p.1 = some { cls := .none, data := .fields ps } := ok p.1 _ h1
    rw [sat_out (not_is e fun its n q => nomatch q)]; exact h1
  · obtain ⟨c, e1, e2⟩ := h3 pos cv hc
    refine ⟨c, e1, ?_⟩
    obtain ⟨⟨oc, vs, t, hoc, hdc, _⟩, _, _⟩ := ok c _ e2
    rw [sat_out (not_is hoc fun its n q => by rw [hdc] at q; cases q)]; exact e2
theorem JC.of (ok0 : HOk P w H s0.heap) (sv : Same V H) (hex : ∀ b ∈ ex, s0.heap.get? b = none) (os : s.os = s0.os) (bare : AllBare s.gens) (un : Un (frs outer) [] H H2 s0.heap s.heap) (hok : HOk P w H2 s.heap) (x : Ext H V H2 V2) (out : ∀ b ∈ ex, H2 b = none) : JC P w outer s0 H V ex s (satH s0.heap ex s.heap H2) := by
  have old : ∀ b o, H b = some o → satH s0.heap ex s.heap H2 b = H2 b := fun b o e => by
    obtain ⟨ob, e'⟩ := hok_some ok0 e
    exact sat_old e'
  refine ⟨os, bare, ⟨un.keep, un.slot, fun b o q n hx => ?_, un.there, fun b xs q => ?_, fun b o u q => ?_, fun b ps q => ?_⟩, HOk.sat hok, ⟨fun b o e nt => ?_, Same.refl _, fun b o e => ?_, fun b e _ => e, fun b e => ?_, fun t => tabs_sat hok (x.t t)⟩, fun b hb => ?_, fun b k e1 e2 e3 => sat_in e1 e2 e3⟩
  · rw [sat_old q]; exact un.free b o q n hx
  · rw [old b _ q]; exact un.tups b xs q
  · rw [old b _ q]; exact un.frzs b o u q
  · rw [old b _ q]; exact un.tbls b ps q
  · rw [old b o e]; exact x.h b o e nt
  · have e' := x.s b o (x.v b o e)
    rw [old b _ (sv b o e)]; exact e'
  · cases q : H b with
    | none => exact absurd q e
    | some o => rw [old b o q]; exact x.th b e
  · rw [sat_ex hb]; exact out b hb
end
end HD
set_option Elab.async false
set_option linter.all false
set_option maxRecDepth 100000
set_option maxHeartbeats 4000000
set_option Elab.async false
set_option linter.all false
set_option maxRecDepth 100000
set_option maxHeartbeats 4000000
set_option Elab.async false
set_option linter.all false
set_option maxRecDepth 100000
set_option maxHeartbeats 4000000
namespace DL
open PySem PySem.Spec PyProof.Rows L2
variable [TabCtx]
theorem RepL.erase {K : KW} {V : Hp} : ∀ {vs : List L2.V} {ds : List PyData} (k : Nat), RepL K V vs ds → RepL K V (vs.eraseIdx k) (ds.eraseIdx k)
  | _, _, _, .nil => .nil
  | _, _, 0, .cons _ t => t
  | _, _, k + 1, .cons r t => .cons r (RepL.erase k t)
end DL
set_option Elab.async false
set_option linter.all false
set_option maxRecDepth 100000
set_option maxHeartbeats 4000000
namespace DL
open PySem PySem.Spec PyProof.Rows L2
end DL
set_option Elab.async false
set_option linter.all false
set_option maxRecDepth 100000
set_option maxHeartbeats 4000000
namespace DL
open PySem PySem.Spec PyProof.Rows L2
end DL
set_option Elab.async false
set_option linter.all false
set_option maxRecDepth 100000
set_option maxHeartbeats 4000000
namespace DL
open PySem PySem.Spec PyProof.Rows L2
end DL
set_option Elab.async false
set_option linter.all false
set_option maxRecDepth 100000
set_option maxHeartbeats 4000000
namespace DL
open PySem PySem.Spec PyProof.Rows L2
variable [TabCtx]
/-- a call of dict with a dict by tuples -/
theorem call_dict_same {prog : Program} {w : World} {A : Around} {E1 : Value → Shared → Prop} {s : Shared} {c : Addr} {ys : List (NestedKey × Addr × Value)} {R : Value → Shared → Prop} (hu : (nestedKind prog w).room A.in1.in1) (hS : (c == sysModules) = false) (hd : s.heap.DictOfH (nestedKind prog w) c ys)
    (hT : ∀ y ∈ ys, s.TypeIs (.ref y.2.1) "tuple") (hN : (ys.map fun y => y.1.hash w).Nodup) (hl : ys.length ≤ sizeLine)
    (hR : ∀ h', h'.DictOfH (nestedKind prog w) s.heap.objs.size ys → (∀ b o, s.heap.get? b = some o → h'.get? b = some o) → R (.ref s.heap.objs.size) { s with heap := h' }) :
    wpAny (model prog w) A (call (.type "dict") [.ref c]) R E1 s := by
  obtain ⟨o0, es0, ep0, g0, _⟩ := id hd
  have lc : c ≠ s.heap.objs.size := Nat.ne_of_lt (Heap.lt_size g0)
  have up : ∀ b o, s.heap.get? b = some o → (s.heap.push { cls := .type "dict", data := .dict #[] }).get? b = some o := fun _ _ e => Heap.get?_push_of_some _ e
  refine callType_codes (Q₁ := fun ob t1 => ob = .ref s.heap.objs.size ∧ t1 = { s with heap := s.heap.push { cls := .type "dict", data := .dict #[] } })
    F.kt_called_dict (F.kt_typeCall_dict_1 _) F.entry_dict_init (kt_code_dict_new _ ⟨rfl, rfl⟩) ?_
  rintro ob t1 ⟨rfl, rfl⟩
  have ty : Shared.TypeIs { s with heap := s.heap.push { cls := .type "dict", data := .dict #[] } } (.ref s.heap.objs.size) "dict" := ⟨_, Heap.get?_push_size _ rfl, rfl⟩
  refine ⟨ty, F.args_dict_init_2 _ _, ?_⟩
  unfold Builtin.«dict.__init__»
  refine wpAny_bind ?_
  unfold Builtin.Dict.selfAndRest
  refine wpAny_bind (wpAny_notOrdered_dict ty ?_)
  show wpAny _ _ (pure (s.heap.objs.size, [Value.ref c])) _ _ _
  refine wpAny_pure ?_
  have hd1 : (s.heap.push { cls := .type "dict", data := .dict #[] }).DictOfH (nestedKind prog w) c ys := by
    obtain ⟨o, es, ep, h1, h2, h3, h4, h5, h6⟩ := hd
    refine ⟨o, es, ep, up _ _ h1, h2, h3, h4, fun y hy => ?_, h6⟩
    obtain ⟨n1, n2⟩ := h5 y hy
    exact ⟨NestedIs.at (fun b ob vs n hb hc => up _ _ hb) _ _ n1, n2⟩
  refine updateFrom_dictH (A := A.in1) (knd := nestedKind prog w) (kvs := []) .none hu (fun e => lc e.symm) hS (Heap.DictOfH.new s.heap) hd1 (.inr ⟨fun y hy => ?_, hN⟩) (by simpa using hl) fun h' q1 q2 q3 => ?_
  · obtain ⟨o, h1, h2⟩ := hT y hy
    exact ⟨o, up _ _ h1, h2⟩
  · refine ⟨rfl, hR h' ?_ fun b o e => (q3.2 b fun z => ?_).trans (up _ _ e)⟩
    · rw [storedAllH_nil_of_nodup ys hd.nodup] at q1; exact q1
    · rw [z] at e; exact absurd (Heap.lt_size e) (Nat.lt_irrefl _)
def isTupK : NestedKey → Bool
  | .tup _ => true
  | _ => false
def rDictC (w : World) : List L2.V → Hp → VK → Prop := fun xs H Q => ∃ (a : Addr) (ys : List (NestedKey × Addr × L2.V)) (ep : Nat), xs = [.ref a] ∧ H a = some (dX w a ys ep) ∧ KeysAt H ys ∧ (∀ y ∈ ys, isTupK y.1 = true) ∧ (ys.map fun y => y.1.hash w).Nodup ∧ ∀ p ep', H p = none → Q (.ref p) (upd H p (dX w p ys ep'))
theorem call_dictC {X : Cx} (hu : X.A.units + 64 < cLine) : CallR X (.type "dict") (rDictC X.w) := by
  intro pins s σ H xs us Q I r h
  obtain ⟨a, ys, ep, rfl, ha, hk, ht, hn, q⟩ := h
  obtain ⟨u, rfl, rx⟩ := vals1 r
  cases rx
  obtain ⟨z, hS, ws, rel, hd⟩ := dx_of I.hok ha hk
  have keyEq : ys.map (·.1) = ws.map (·.1) := PX.keys rel
  have hl : ws.length = ys.length := (Paired.length rel).symm
  have hn' : (ws.map fun y => y.1.hash X.w).Nodup := by
    have e : (ws.map fun y => y.1.hash X.w) = (ws.map (·.1)).map fun k => k.hash X.w := by rw [List.map_map]; rfl
    rw [e, ← keyEq, List.map_map]; exact hn
  have hT : ∀ y ∈ ws, s.TypeIs (.ref y.2.1) "tuple" := fun y hy => by
    obtain ⟨x, hx, e1, e2⟩ := PX.mem rel y hy
    have := ht x hx
    obtain ⟨o, es, ep', h1, h2, h3, h4, h5, h6⟩ := id hd
    obtain ⟨n1, n2⟩ := h5 y hy
    rw [e1] at this
    cases hk1 : y.1 with
    | tup ks =>
      rw [hk1] at n1
      cases n1 with
      | tup w1 w2 w3 w4 => exact ⟨_, w1, w2⟩
    | _ => rw [hk1] at this; cases this
  refine call_dict_same (by show X.A.units + 1 + 1 + 8 < cLine; omega) hS hd hT hn' (by omega) fun h' dd kp => ?_
  obtain ⟨ep', ob⟩ := dx_new z (beq_eq_false_iff_ne.mpr (Ne.symm (Nat.ne_of_lt I.big))) rel dd
  exact ⟨.ref s.heap.objs.size, _, I.laid kp (Nat.le_refl _) (ob _), rfl, q _ ep' (I.hok.fresh (Nat.le_refl _))⟩
def pHash (i j : Int) : Int := reduceHash (Builtin.Tuple.tupleHashOf [hashInt i, hashInt j])
def pairHs : List (PyData × PyData) → Option (List Int)
  | [] => some []
  | (.tuple [.int i, .int j], _) :: ps => (pairHs ps).map fun hs => pHash i j :: hs
  | _ :: _ => none
def gDictC : List PyData → Option PyData
  | [.dict ps] => (pairHs ps).bind fun hs => if hs.Nodup then some (.dict ps) else none
  | _ => none
theorem pairHs_rep {K : KW} {V : Hp} : ∀ {ys : List (NestedKey × Addr × L2.V)} {ps : List (PyData × PyData)} {hs : List Int}, RepT K V ys ps → pairHs ps = some hs → (∀ y ∈ ys, isTupK y.1 = true) ∧ ys.map (fun y => y.1.hash K.w) = hs
  | _, _, _, .nil, e => by cases e; exact ⟨(fun y hy => nomatch hy), rfl⟩
  | _, _, _, .cons (k := k) (dk := dk) q n z r t, e => by
    unfold pairHs at e
    split at e
    · next h => cases h
    · next i j d ps h =>
      injection h with h1 h2
      injection h1 with h1 h3
      subst h1 h2
      obtain ⟨hs', e1, rfl⟩ := Option.map_eq_some_iff.mp e
      obtain ⟨a1, a2⟩ := pairHs_rep t e1
      have n : some (NestedKey.tup [.num i, .num j]) = some k := n
      injection n with n
      subst n
      refine ⟨fun y hy => ?_, ?_⟩
      · rcases List.mem_cons.mp hy with w1 | hy
        · rw [w1]; rfl
        · exact a1 y hy
      · rw [List.map_cons, a2]; rfl
    · cases e
section
variable {X : Cx} {F : Fr} {e : Expr} {fs : M (List PyData)} {p pos : Pos}
theorem pmf_dictC (hm : X.mg "dict" = none) (hu : X.A.units + 64 < cLine) (ha : PMA X F [e] fs) (hg : Gl X "dict" := by rfl) (he : starEach (e :: []) X.env = (false, eval e X.env) :: starEach [] X.env := by rfl) (hpl : (backTo pos (starEach [] X.env)).any (·.1) = false := by rfl) : PMF X F (.Call (.Name "dict" p) [e] [] pos) (opA gDictC fs) := by
  refine PE.imp (pe_callTy (call_dictC hu) hg hm (by decide +kernel) ha (by decide) (by decide) he hpl) fun σ H Q ⟨V, ρ, E, g0⟩ => ⟨V, ρ, E, GoalF.bind g0 fun xs ds H1 V1 ρ1 st1 r1 g1 => ?_⟩
  obtain ⟨z, ez, q⟩ := GoalF.opt st1.env g1
  have s := st1.env.sub
  cases r1 with
  | nil => cases ez
  | cons r1 r2 =>
    cases r2 with
    | cons _ _ => cases r1 <;> cases ez
    | nil =>
      cases r1 with
      | @dk a kvs ps h rk ne =>
        exfalso
        cases rk with
        | nil => exact ne rfl
        | @cons k v kvs d ps r t => cases k <;> cases ez
      | @dt a ys ep ps h rt =>
        have ez : (pairHs ps).bind (fun hs => if hs.Nodup then some (PyData.dict ps) else none) = some z := ez
        obtain ⟨hs, e1, e2⟩ := Option.bind_eq_some_iff.mp ez
        obtain ⟨nd, rfl⟩ := ite_some e2
        obtain ⟨a1, a2⟩ := pairHs_rep rt e1
        refine ⟨a, ys, ep, rfl, s _ _ h, rt.keysAt s, a1, by rw [show (ys.map fun y => y.1.hash X.w) = hs from a2]; exact nd, fun p ep' hp => q _ _ _ (Ext.hid s hp) ⟨p, rfl, s.free hp, hp, .inr ⟨_, _, upd_same, rt⟩⟩⟩
      | _ => cases ez
end
end DL
set_option Elab.async false
set_option linter.all false
set_option maxRecDepth 100000
set_option maxHeartbeats 4000000
namespace L2
open PySem PySem.Spec PyProof.Rows
section
variable {P : Program} {w : World} {A : Around} {E : Value → Shared → Prop} {s : Shared}
abbrev set00 (w : World) : Obj := { cls := .type "set", dict := none, data := .set #[] 0 (.fresh 0 0 (!w.params.followText "set-order")) }
set_option maxRecDepth 100000 in
set_option maxHeartbeats 3200000 in
theorem call_set_lstI {b0 : Addr} {vs : Array Value} (ks : List Int) {R : Value → Shared → Prop} (h0 : A.handled = none) (hv : s.heap.IsList b0 vs) (hk : IntsAre vs.toList ks) (hsz : ks.length + 1 < scanBound)
    (fin : ∀ (h1 : Heap) (tk c : Nat), SetR w h1 s.heap.objs.size (fun j => decide (j ∈ ks)) c → c ≤ ks.length → (∀ b o, s.heap.get? b = some o → h1.get? b = some o) → R (.ref s.heap.objs.size) { s with heap := h1, toks := tk }) :
    wpAny (model P w) A (call (.type "set") [.ref b0]) R E s := by
  have vsz : vs.size = ks.length := by
    have q := IntsAre.length hk
    rw [Array.length_toList] at q
    exact q
  obtain ⟨mr1, mr2, hmro⟩ := F.called_set.mro
  have hMd := F.called_set.made
  have hSb := F.called_set.sub
  refine wpAny_call (codeAny_of_tree ?_)
  show wpAny _ _ (callAny (.type "set") _) _ _ _
  refine wpAny_pure ⟨Code.quiet_builtin _ (by decide +kernel), codeAny_builtin F.entry_type_call ?_⟩
  rw [Around.under_plain (weight_type_call_type "set" [.ref b0] []) rfl]
  have hA1 := F.called_set.notType
  have hA2 := F.called_set.canCreate
  have hA3 := F.typeCall_set_1 (.ref b0)
  repeat (any_goals (first | assumption | wp_step))
  refine codeAny_mono (code_set_led1 (.ref b0) (E := E) (Q₁ := fun ob t1 => ob = .ref s.heap.objs.size ∧ t1 = { s with heap := s.heap.push (set00 w) }) ⟨rfl, rfl⟩) fun r t1 hr => ?_
  cases r with
  | error e => exact hr
  | ok fl =>
    cases fl with
    | ret ob =>
      obtain ⟨rfl, rfl⟩ := hr
      have gS : (s.heap.push (set00 w)).get? s.heap.objs.size = some (set00 w) := Heap.get?_push_size _ rfl
      have tS : Shared.TypeIs { s with heap := s.heap.push (set00 w) } (.ref s.heap.objs.size) "set" := ⟨_, gS, rfl⟩
      have iL := F.called_set.init.lookup
      have iB := F.called_set.init.bind (.ref s.heap.objs.size)
      repeat (any_goals (first | assumption | wp_step))
      refine codeAny_mono (codeAny_call_builtin (R := wants (fun r t2 => r = .none ∧ ∃ h1 tk c, t2 = { s with heap := h1, toks := tk } ∧ SetR w h1 s.heap.objs.size (fun j => decide (j ∈ ks)) c ∧ c ≤ ks.length ∧
          (∀ b o, s.heap.get? b = some o → h1.get? b = some o)) E) F.called_set.init.plain F.entry_set_init (check_set_init_1 tS ?_)) fun r2 t2 hr2 => ?_
      · obtain ⟨o0, ho0, hc0, n0, hd0⟩ := hv
        obtain ⟨oc, od, oda, osl⟩ := o0
        simp only at hc0 hd0
        subst hc0; subst hd0
        have ho1 : (s.heap.push (set00 w)).get? b0 = some { cls := .type "list", dict := od, data := .seq vs n0, slots := osl } := Heap.get?_push_of_some _ ho0
        have sb1 := F.sub_list_set
        have sb2 := F.sub_list_frozenset
        have nd1 : (Value.type "list" == Value.type "dict") = false := by decide
        have hv1 : (s.heap.push (set00 w)).IsList b0 vs := ⟨_, ho1, rfl, n0, rfl⟩
        unfold Builtin.«set.__init__» noKeywords Builtin.Frozenset.updateFrom
        generalize hPI : pyIter = PI
        wp_walk
        subst hPI
        refine wpAny_pyIter_list hv1 ?_
        refine wpAny_bind (wpAny_runValue ?_)
        have hlt0 : b0 < s.heap.objs.size := Heap.lt_size ho0
        have hh0 : A.in1.in1.in1.handled = none := by simp [h0]
        have hz0 : (s.heap.push (set00 w)).objs.size = s.heap.objs.size + 1 := Heap.size_push ..
        have hne0 : b0 ≠ (s.heap.push (set00 w)).objs.size := by
          rw [hz0]; exact Nat.ne_of_lt (Nat.lt_succ_of_lt hlt0)
        have hnS : s.heap.objs.size ∉ [(s.heap.push (set00 w)).objs.size, b0] := by
          rw [hz0]; simp only [List.mem_cons, List.mem_singleton, List.not_mem_nil, or_false, not_or]
          exact ⟨Nat.ne_of_lt (Nat.lt_succ_self _), Nat.ne_of_gt hlt0⟩
        have hat : ∀ (i : Nat) (v : Value), vs[i]? = some v → ∃ k t, ks[i]? = some k ∧ v = .int k t := fun i v hiv => by
          have hik : i < ks.length := by rw [← vsz]; exact (Array.getElem?_eq_some_iff.mp hiv).1
          obtain ⟨t, e⟩ := PyProof.Rows.IntsAre.int_at hk i v (by rw [Array.getElem?_toList]; exact hiv)
          refine ⟨ks[i], t, List.getElem?_eq_getElem hik, ?_⟩
          rw [e, List.getD_eq_getElem?_getD, List.getElem?_eq_getElem hik] <;> rfl
        refine set_update_ints ((Walks.list hh0 _ b0 hne0 vs).toS) s.heap.objs.size
          hnS ks vsz hsz hat (vs.size - 0) 0 _ (by omega) (Nat.zero_le _)
          ⟨⟨_, Heap.get?_push_size _ rfl, rfl, rfl⟩, (hv1.push _)⟩ ?hS0 ?hR
        case hS0 =>
          have g2 : ((s.heap.push (set00 w)).push { cls := .type "list_iterator", data := .fields #[.ref b0, .int 0 0] }).get? s.heap.objs.size = some (set00 w) := Heap.get?_push_of_some _ gS
          exact ⟨0, Nat.le_refl 0, setR_new_at g2⟩
        case hR =>
          intro t3 c3 hm hc3 hS3
          obtain ⟨h3, g3, d3, tk3, os3⟩ := t3
          have e1 : g3 = s.gens := hm.gens
          have e2 : d3 = s.drawn := hm.drawn
          have e3 : os3 = s.os := hm.os
          subst e1; subst e2; subst e3
          show wpAny _ _ _ _ _ _
          refine wpAny_pure ?_
          show wpAny _ _ (ret Value.none) _ _ _
          rw [vsz] at hc3
          refine wpAny_pure ⟨rfl, h3, tk3, c3, rfl, hS3, hc3, fun b o e => ?_⟩
          have q0 : b < s.heap.objs.size := Heap.lt_size e
          have q1 : b ≠ s.heap.objs.size := Nat.ne_of_lt q0
          have q2 : b ≠ (s.heap.push (set00 w)).objs.size := by
            rw [hz0]; exact Nat.ne_of_lt (Nat.lt_succ_of_lt q0)
          exact hm.heap b o (by simp only [List.mem_cons, List.mem_singleton, List.not_mem_nil, or_false, not_or]; exact ⟨q1, q2⟩) (Heap.get?_push_of_some _ (Heap.get?_push_of_some _ e))
      · cases r2 with
        | error e => exact hr2
        | ok fl2 =>
          cases fl2 with
          | ret r =>
            obtain ⟨rfl, h3, tk3, c3, rfl, hS3, hc3, hk3⟩ := hr2
            repeat (any_goals (first | assumption | wp_step))
            exact fin _ _ _ hS3 hc3 hk3
          | _ => exact hr2.elim
    | _ => exact hr.elim
end
end L2
set_option Elab.async false
set_option linter.all false
set_option maxRecDepth 100000
set_option maxHeartbeats 4000000
namespace DL
open PySem PySem.Spec PyProof.Rows L2
variable [TabCtx]
def ltI (a b : Int) : Bool := decide (a < b)
def sortU (ns : List Int) : List Int := SrtQ.isort ltI (dd ns)
theorem swo_ltI : SrtO.Swo ltI := ⟨fun x y h => by
  unfold ltI at *; rw [decide_eq_true_iff] at h; rw [decide_eq_false_iff_not]; omega, fun x y z h1 h2 => by
  unfold ltI at *; rw [decide_eq_false_iff_not] at *; omega⟩
theorem sortU_eq {ns ms : List Int} (hp : ms.Pairwise (· < ·)) (hm : ∀ k, k ∈ ms ↔ k ∈ ns) : ms = sortU ns := by
  refine SrtQ.perm_uniq swo_ltI (fun x y h1 h2 => ?_) ?_ (SrtQ.isort_srtd swo_ltI (dd ns)) (List.Perm.trans ?_ (SrtQ.isort_perm (dd ns)).symm)
  · unfold ltI at h1 h2; rw [decide_eq_false_iff_not] at h1 h2; omega
  · exact hp.imp fun {a b} h => by unfold ltI; rw [decide_eq_false_iff_not]; omega
  · exact (List.perm_ext_iff_of_nodup (hp.imp fun {a b} h => by omega) dd_nodup).mpr fun k => by rw [hm, dd_mem]
theorem repI {K : KW} {V : Hp} : ∀ ns : List Int, RepL K V (ns.map L2.V.int) (ns.map PyData.int)
  | [] => .nil
  | n :: ns => .cons (.int n) (repI ns)
def gSortI : PyData → Option PyData
  | .list ds => (intsD ds).bind fun ns => if ns.length ≤ 4000 ∧ (dd ns).length < 64 then some (.list ((sortU ns).map .int)) else none
  | _ => none
section
variable {X : Cx} {F : Fr} {a : Expr} {fa : M PyData} {p p2 q pos : Pos}
theorem pm_sortSet (hm : X.mg "sorted" = none) (hm2 : X.mg "set" = none) (ha : PM X F a fa) (hg : Gl X "sorted" := by rfl) (hg2 : Gl X "set" := by rfl) (hc : X.calm = true := by rfl)
    (na : starEach [a] X.env = (false, eval a X.env) :: starEach [] X.env := by rfl) : PM X F (.Call (.Name "sorted" p) [.Call (.Name "set" p2) [a] [] q] [] pos) (op1 gSortI fa) := by
  refine ⟨fun pins s σ H Q I h => ?_⟩
  refine Call_ (ld_blt I hg hm boot_sorted ?_)
  refine PyProof.Rows.callWith_builtin1 (PyProof.Rows.args_cons ?_ rfl) rfl rfl
  refine Call_ (ld_blt I hg2 hm2 boot_set ?_)
  obtain ⟨V, ρ, E, g0⟩ := h
  refine PyProof.Rows.callWith_type1 (PyProof.Rows.args_cons (thn (ha.run pins s σ H (fun x H1 => (∃ (l : Addr) (ns : List Int), x = .ref l ∧ SqL X.kw H1 l (ns.map L2.V.int) ∧ (ns.length ≤ 4000 ∧ (dd ns).length < 64) ∧ ∀ p, H1 p = none → Q (.ref p) (upd H1 p (.lst ((sortU ns).map L2.V.int))))) I ⟨V, ρ, E, Goal.bind g0 fun x dx H1 V1 ρ1 st1 r1 g1 => ?_⟩) fun v s1 ⟨x, H1, I1, r1, q1⟩ => PyProof.Rows.args_nil ?_) na) na rfl
  · obtain ⟨z, ez, q⟩ := Goal.opt st1.env g1
    cases r1 with
    | @lst b xs ds hb rb =>
      have ez : ((intsD ds).bind fun ns => if ns.length ≤ 4000 ∧ (dd ns).length < 64 then some (PyData.list ((sortU ns).map .int)) else none) = some z := ez
      obtain ⟨ns, h1, h2⟩ := Option.bind_eq_some_iff.mp ez
      obtain ⟨h3, rfl⟩ := ite_some h2
      have e := ints_rep rb h1
      subst e
      refine ⟨b, ns, rfl, .inl (.inl (st1.env.sub _ _ hb)), h3, fun p hp => q _ _ _ (Ext.new st1.env.sub hp) (new_lst st1.env.sub hp ?_)⟩
      exact repI (sortU ns)
    | _ => cases ez
  · obtain ⟨l, ns, rfl, hq, hl, q1⟩ := q1
    cases r1
    obtain ⟨its, r, pl, hz⟩ := I1.list hq
    refine L2.call_set_lstI ns (I1.ok.hd hc) pl.isList (by simpa using RZ.intsAre_vals r) (by unfold scanBound; omega) fun h' tk c hS hle hk => ?_
    refine PyProof.Rows.args_nil ?_
    have I2 : Inv X pins σ H1 { s1 with heap := h', toks := tk } := I1.kept hk
    have hcn : c = (dd ns).length := by
      obtain ⟨o, es, ep, t, ho, hex, hd, g, nd, hmm, hb, hf, hn, _⟩ := id hS
      have := nodup_len nd (dd_nodup (xs := ns)) fun k => by rw [← hmm k, dd_mem]; simp
      rw [List.length_map, Array.length_toList, hn] at this
      exact this
    refine sorted_set (s := { s1 with heap := h', toks := tk }) hS (I2.ok.hd hc) (by omega) fun t2 u2 out c2 ms k g o hp hgt hi hs hms hml => ?_
    have em : ms = sortU ns := sortU_eq hs fun k => by rw [hms]; simp
    have hlen : (ms.map L2.V.int).length ≤ sizeLine := by rw [List.length_map, hml, sizeLine_eq]; omega
    have hn : H1 u2 = none := I2.hok.fresh hp
    have J : Inv X pins σ (upd H1 u2 (.lst (ms.map L2.V.int))) { ({ s1 with heap := h', toks := tk } : Shared) with heap := t2.heap, gens := t2.gens, drawn := t2.drawn, toks := t2.toks } :=
      I2.call (ch := []) (Un.laid k hp hn) (I2.hok.laid k hp ⟨hlen, out.toList, c2, vals_of_ints hi, hgt⟩) (by rw [g]; exact I2.bare) (fun _ z => nomatch z)
    have e : t2 = { ({ s1 with heap := h', toks := tk } : Shared) with heap := t2.heap, gens := t2.gens, drawn := t2.drawn, toks := t2.toks } := by
      cases t2
      cases o
      rfl
    rw [e]
    exact ⟨.ref u2, _, J, rfl, by rw [em]; exact q1 u2 hn⟩
end
end DL
set_option Elab.async false
set_option linter.all false
set_option maxRecDepth 100000
set_option maxHeartbeats 4000000
namespace G
open PySem PySem.Spec PyProof.Rows L2 DL
def b_is_whole : SM := (retO (andV (isi .int (vN 0)) (andV (notV (isi .bool (vN 0))) (chain gLe gLe (vN 1) (vN 0) (vN 2)))))
def m_is_whole : List PyData → R PyData := fnRun 3 3 b_is_whole
def b_is_word : SM := (retO (andV (isi .str (vN 0)) (andV (chain gLe gLe (cD (.int 1)) (opA gLen (aC (vN 0) aN)) (cD (.int 8))) (opA gAll (aC (lcM [1] (seqI (vN 0)) (setS 1) yesT (op2 gIn (vN 1) (cD (.str "abcdefghijklmnopqrstuvwxyz")))) aN)))))
def m_is_word : List PyData → R PyData := fnRun 1 2 b_is_word
def b_rise : SM := (retO (opA gAll (aC (lcM [1, 2] (opI gZip (aC (vN 0) (aC (slc (vN 0) (prt (cD (.int 1))) noPrt) aN))) (unT (gsC (setS 1) (gsC (setS 2) gsN))) yesT (op2 gLt (vN 1) (vN 2))) aN)))
def m_rise : List PyData → R PyData := fnRun 1 3 b_rise
def b_are_lines : SM := (retO (andV (isi .tuple (vN 0)) (andV (op2 gEq (opA gLen (aC (vN 0) aN)) (vN 1)) (opA gAll (aC (lcM [3] (seqI (vN 0)) (setS 3) yesT (callM m_is_whole (aC (vN 3) (aC (cD (.int 0)) (aC (op2 gSub (vN 2) (cD (.int 1))) aN))))) aN)))))
def m_are_lines : List PyData → R PyData := fnRun 3 4 b_are_lines
def b_is_ear : SM := (retO (andV (isi .tuple (vN 0)) (andV (op2 gEq (opA gLen (aC (vN 0) aN)) (cD (.int 2))) (andV (callM m_is_word (aC (op2 gIx (vN 0) (cD (.int 0))) aN)) (callM m_is_whole (aC (op2 gIx (vN 0) (cD (.int 1))) (aC (cD (.int 1)) (aC (cD (.int 3)) aN))))))))
def m_is_ear : List PyData → R PyData := fnRun 1 1 b_is_ear
def b_are_ears : SM := (retO (andV (isi .tuple (vN 0)) (andV (op2 gLe (opA gLen (aC (vN 0) aN)) (cD (.int 2))) (andV (opA gAll (aC (lcM [1] (seqI (vN 0)) (setS 1) yesT (callM m_is_ear (aC (vN 1) aN))) aN)) (callM m_rise (aC (vN 0) aN))))))
def m_are_ears : List PyData → R PyData := fnRun 1 2 b_are_ears
def b_places_for : SM := (retO (op2 gIx (opA gLstD (aC (cD (.int 1)) (aC (vN 0) (aC (op2 gMul (vN 0) (vN 0)) aN)))) (opA gLen (aC (vN 1) aN))))
def m_places_for : List PyData → R PyData := fnRun 2 2 b_places_for
def b_is_singer : SM := (seqO (ifO (orT (notT (tst (isi .tuple (vN 0)))) (orT (tst (op2 gNe (opA gLen (aC (vN 0) aN)) (cD (.int 3)))) (orT (notT (tst (callM m_is_word (aC (op2 gIx (vN 0) (cD (.int 0))) aN)))) (notT (tst (callM m_are_ears (aC (op2 gIx (vN 0) (cD (.int 1))) aN))))))) (retO (cD (.bool false))) nxO)
  (retO (callM m_are_lines (aC (op2 gIx (vN 0) (cD (.int 2))) (aC (callM m_places_for (aC (vN 1) (aC (op2 gIx (vN 0) (cD (.int 1))) aN))) (aC (vN 1) aN))))))
def m_is_singer : List PyData → R PyData := fnRun 2 2 b_is_singer
def b_is_choir : SM := (seqO (ifO (orT (notT (tst (isi .tuple (vN 0)))) (orT (tst (op2 gNe (opA gLen (aC (vN 0) aN)) (cD (.int 2)))) (notT (tst (callM m_is_whole (aC (op2 gIx (vN 0) (cD (.int 0))) (aC (cD (.int 2)) (aC (cD (.int 4)) aN)))))))) (retO (cD (.bool false))) nxO)
  (seqO (asgO (vN 0) (unT (gsC (setS 1) (gsC (setS 2) gsN))))
  (seqO (ifO (orT (notT (tst (isi .tuple (vN 2)))) (notT (tst (chain gLe gLe (cD (.int 1)) (opA gLen (aC (vN 2) aN)) (cD (.int 4)))))) (retO (cD (.bool false))) nxO)
  (seqO (ifO (orT (notT (tst (opA gAll (aC (lcM [4] (seqI (vN 2)) (setS 4) yesT (callM m_is_singer (aC (vN 4) (aC (vN 1) aN)))) aN)))) (notT (tst (callM m_rise (aC (lcM [4] (seqI (vN 2)) (setS 4) yesT (op2 gIx (vN 4) (cD (.int 0)))) aN))))) (retO (cD (.bool false))) nxO)
  (seqO (asgO (lcM [4] (seqI (vN 2)) (setS 4) yesT (op2 gIx (vN 4) (cD (.int 0)))) (setS 3))
  (retO (opA gAll (aC (lcM2 [4, 5] [5] (seqI (vN 2)) (setS 4) yesT (seqI (op2 gIx (vN 4) (cD (.int 1)))) (setS 5) yesT (op2 gIn (op2 gIx (vN 5) (cD (.int 0))) (vN 3))) aN))))))))
def m_is_choir : List PyData → R PyData := fnRun 1 6 b_is_choir
def b_need_choir : SM := (ifO (notT (tst (callM m_is_choir (aC (vN 0) aN)))) (raiseO "BadChoir") nxO)
def m_need_choir : List PyData → R PyData := fnRun 1 1 b_need_choir
def b_all_names : SM := (retO (lcM [1] (seqI (op2 gIx (vN 0) (cD (.int 1)))) (setS 1) yesT (op2 gIx (vN 1) (cD (.int 0)))))
def m_all_names : List PyData → R PyData := fnRun 1 2 b_all_names
def b_number_of : SM := (retO (opM gIndex (callM m_all_names (aC (vN 0) aN)) (aC (vN 1) aN)))
def m_number_of : List PyData → R PyData := fnRun 2 2 b_number_of
def b_place_of_L1 : SM := (asgO (op2 gAdd (op2 gMul (vN 2) (vN 0)) (vN 3)) (setS 2))
def b_place_of : SM := (seqO (asgO (cD (.int 0)) (setS 2))
  (seqO (forO (seqI (vN 1)) (setS 3) b_place_of_L1)
  (retO (vN 2))))
def m_place_of : List PyData → R PyData := fnRun 2 4 b_place_of
def b_do_count_L1 : SM := (seqO (asgO (lcM [7] (opI rg1 (aC (vN 0) aN)) (setS 7) yesT (ifV (tst (op2 gEq (vN 2) (cD (.int 0)))) (opA gTupD (aC (vN 7) (aC (vN 5) aN))) (opA gTupD (aC (vN 5) (aC (vN 7) aN))))) (setS 6))
  (ifO (tst (op2 gGt (op1 setLen (lcM [8] (seqI (vN 6)) (setS 8) yesT (op2 gIx (vN 4) (callM m_place_of (aC (vN 0) (aC (slc (vN 8) noPrt (prt (opA gLen (aC (vN 3) aN)))) aN)))))) (cD (.int 1)))) (retO (cD (.bool true))) nxO))
def b_do_count : SM := (seqO (asgO (opA gTupD (aC (op2 gIx (vN 1) (cD (.int 1))) (aC (op2 gIx (vN 1) (cD (.int 2))) aN))) (unT (gsC (setS 3) (gsC (setS 4) gsN))))
  (seqO (forO (opI rg1 (aC (ifV (tst (op2 gEq (opA gLen (aC (vN 3) aN)) (cD (.int 2)))) (vN 0) (cD (.int 1))) aN)) (setS 5) b_do_count_L1)
  (retO (cD (.bool false)))))
def m_do_count : List PyData → R PyData := fnRun 3 9 b_do_count
def b_ears_that_count : SM := (retO (opA gTuple (aC (lcM [2, 3] (opI gEnum (aC (op2 gIx (vN 1) (cD (.int 1))) aN)) (unT (gsC (setS 2) (gsC (setS 3) gsN))) (tst (callM m_do_count (aC (vN 0) (aC (vN 1) (aC (vN 2) aN))))) (vN 3)) aN)))
def m_ears_that_count : List PyData → R PyData := fnRun 2 4 b_ears_that_count
def b_lean_singer : SM := (seqO (asgO (vN 1) (unT (gsC (setS 2) (gsC (setS 3) (gsC (setS 4) gsN)))))
  (seqO (asgO (callM m_ears_that_count (aC (vN 0) (aC (vN 1) aN))) (setS 5))
  (seqO (ifO (tst (op2 gEq (vN 5) (vN 3))) (retO (vN 1)) nxO)
  (seqO (ifO (tst (op2 gEq (vN 5) (opA gTupD aN))) (retO (opA gTupD (aC (vN 2) (aC (opA gTupD aN) (aC (slc (vN 4) noPrt (prt (cD (.int 1)))) aN))))) nxO)
  (seqO (asgO (lcM [7] (opI rg1 (aC (vN 0) aN)) (setS 7) yesT (ifV (tst (op2 gEq (op2 gIx (vN 5) (cD (.int 0))) (op2 gIx (vN 3) (cD (.int 0))))) (op2 gMul (vN 7) (vN 0)) (vN 7))) (setS 6))
  (retO (opA gTupD (aC (vN 2) (aC (vN 5) (aC (opA gTuple (aC (lcM [8] (seqI (vN 6)) (setS 8) yesT (op2 gIx (vN 4) (vN 8))) aN)) aN))))))))))
def m_lean_singer : List PyData → R PyData := fnRun 2 9 b_lean_singer
def b_leaned : SM := (retO (opA gTupD (aC (op2 gIx (vN 0) (cD (.int 0))) (aC (opA gTuple (aC (lcM [1] (seqI (op2 gIx (vN 0) (cD (.int 1)))) (setS 1) yesT (callM m_lean_singer (aC (op2 gIx (vN 0) (cD (.int 0))) (aC (vN 1) aN)))) aN)) aN))))
def m_leaned : List PyData → R PyData := fnRun 1 2 b_leaned
def b_lean : SM := (seqO (dropO (callM m_need_choir (aC (vN 0) aN)))
  (retO (callM m_leaned (aC (vN 0) aN))))
def m_lean : List PyData → R PyData := fnRun 1 1 b_lean
def b_law_drawn : SM := (seqO (asgO (op2 gMod (op2 gAdd (op2 gMul (vN 0) (cD (.int 6364136223846793005))) (op2 gMul (op2 gAdd (vN 1) (cD (.int 1))) (cD (.int 1442695040888963407)))) (cD (.int 340282366920938463463374607431768211507))) (setS 2))
  (seqO (asgO (op2 gMod (op2 gMul (vN 2) (vN 2)) (cD (.int 340282366920938463463374607431768211297))) (setS 2))
  (seqO (asgO (op2 gMul (op2 gMul (op2 gAdd (op2 gMod (vN 2) (cD (.int 18446744073709551557))) (cD (.int 1))) (op2 gAdd (op2 gDiv (vN 2) (cD (.int 18446744073709551557))) (cD (.int 1)))) (vN 2)) (setS 2))
  (retO (op2 gMod (vN 2) (cD (.int 340282366920938463463374607431768211507)))))))
def m_law_drawn : List PyData → R PyData := fnRun 2 3 b_law_drawn
def b_law_roll : SM := (seqO (ifO (tst (op2 gGe (ixO 0 (cD (.int 0))) (op2 gPow (cD (.int 10)) (cD (.int 18))))) (seqO (asgO (op2 gMod (ixO 0 (cD (.int 0))) (vN 1)) (setS 2))
  (seqO (sixO 0 (cD (.int 0)) (op2 gDiv (ixO 0 (cD (.int 0))) (vN 1)))
  (retO (vN 2)))) nxO)
  (seqO (sixO 0 (cD (.int 1)) (op2 gAdd (ixO 0 (cD (.int 1))) (cD (.int 1))))
  (retO (op2 gMod (op2 gDiv (callM m_law_drawn (aC (ixO 0 (cD (.int 0))) (aC (ixO 0 (cD (.int 1))) aN))) (cD (.int 8))) (vN 1)))))
def m_law_roll : PyData → List PyData → R (PyData × PyData) := fnRunL 1 3 b_law_roll
def b_law_term (c : Str) : SM := (seqO (asgO (opA gLstD (aC (HD.isE c "BadChoir") (aC (HD.isE c "BadName") (aC (HD.isE c "BadStanding") (aC (HD.isE c "BadNumber") aN))))) (setS 1))
  (seqO (asgO (op2 gAdd (vN 1) (opA gLstD (aC (HD.isE c "BadRows") (aC (HD.isE c "BadLead") (aC (HD.isE c "BadWish") aN))))) (setS 1))
  (seqO (asgO (op2 gAdd (vN 1) (opA gLstD (aC (HD.isE c "Clash") (aC (HD.isE c "Nothing") (aC (HD.isE c "Full") (aC (HD.isE c "BadText") aN)))))) (setS 1))
  (seqO (asgO (opA gLstD (aC (cD (.str "BadChoir")) (aC (cD (.str "BadName")) (aC (cD (.str "BadStanding")) (aC (cD (.str "BadNumber")) (aC (cD (.str "BadRows")) (aC (cD (.str "BadLead")) (aC (cD (.str "BadWish")) aN)))))))) (setS 2))
  (seqO (asgO (op2 gAdd (vN 2) (opA gLstD (aC (cD (.str "Clash")) (aC (cD (.str "Nothing")) (aC (cD (.str "Full")) (aC (cD (.str "BadText")) aN)))))) (setS 2))
  (seqO (ifO (orT (tst (op2 gNe (opA gSum (aC (op1 HD.gIntsB (vN 1)) aN)) (cD (.int 1)))) (notT (tst (cD (.bool true))))) (retO (opA gTupD (aC (cD (.str "refused")) (aC (cD (.str "other")) aN)))) nxO)
  (retO (opA gTupD (aC (cD (.str "refused")) (aC (op2 gIx (vN 2) (opM gIndex (vN 1) (aC (cD (.bool true)) aN))) aN))))))))))
theorem v_law_term : ∀ c ∈ HD.excs, ∃ ρ', b_law_term c (List.replicate 4 .no) = .rt (HD.refusedD c) ρ' := by
  intro c hc
  simp only [HD.excs, List.mem_cons, List.not_mem_nil, or_false] at hc
  rcases hc with rfl | rfl | rfl | rfl | rfl | rfl | rfl | rfl | rfl | rfl <;> exact ⟨_, rfl⟩
def b_law_any_singers_L1 : SM := (seqO (asgO (opA gTupD (aC (op2 gIx (vN 2) (callL 0 m_law_roll (aC (opA gLen (aC (vN 2) aN)) aN))) (aC (op2 gAdd (cD (.int 1)) (callL 0 m_law_roll (aC (cD (.int 3)) aN))) aN))) (setS 8))
  (ifO (brwT true (tst (op2 gNotIn (vN 8) (vN 5)))) (appO 5 (vN 8)) nxO))
def b_law_any_singers_L2 : SM := (seqO (ownO 5 aN)
  (seqO (forO (opI rg1 (aC (callL 0 m_law_roll (aC (cD (.int 3)) aN)) aN)) (setS 6) b_law_any_singers_L1)
  (seqO (asgO (op2 gIx (opA gLstD (aC (cD (.int 1)) (aC (vN 1) (aC (op2 gMul (vN 1) (vN 1)) aN)))) (brw true (opA gLen (aC (vN 5) aN)))) (setS 7))
  (appO 3 (opA gTupD (aC (vN 4) (aC (brw true (opA gTuple (aC (opA gSorted (aC (vN 5) aN)) aN))) (aC (opA gTuple (aC (lcM [9] (opI rg1 (aC (vN 7) aN)) (setS 9) yesT (callL 0 m_law_roll (aC (vN 1) aN))) aN)) aN))))))))
def b_law_any_singers : SM := (seqO (ownO 3 aN)
  (seqO (forO (seqI (vN 2)) (setS 4) b_law_any_singers_L2)
  (retO (brw true (opA gTuple (aC (vN 3) aN))))))
def m_law_any_singers : PyData → List PyData → R (PyData × PyData) := fnRunL 2 10 b_law_any_singers
def b_law_any_choir : SM := (seqO (asgO (callL 0 m_law_roll (aC (cD (.int 6)) aN)) (setS 1))
  (seqO (asgO (op2 gIx (opA gLstD (aC (opA gTupD (aC (cD (.int 2)) (aC (cD (.int 1)) aN))) (aC (opA gTupD (aC (cD (.int 2)) (aC (cD (.int 2)) aN))) (aC (opA gTupD (aC (cD (.int 2)) (aC (cD (.int 3)) aN))) (aC (opA gTupD (aC (cD (.int 3)) (aC (cD (.int 1)) aN))) (aC (opA gTupD (aC (cD (.int 3)) (aC (cD (.int 2)) aN))) (aC (opA gTupD (aC (cD (.int 4)) (aC (cD (.int 1)) aN))) aN))))))) (vN 1)) (unT (gsC (setS 2) (gsC (setS 3) gsN))))
  (retO (opA gTupD (aC (vN 2) (aC (callL 0 m_law_any_singers (aC (vN 2) (aC (slc (opA gLstD (aC (cD (.str "ann")) (aC (cD (.str "bob")) (aC (cD (.str "cy")) aN)))) noPrt (prt (vN 3))) aN))) aN))))))
def m_law_any_choir : PyData → List PyData → R (PyData × PyData) := fnRunL 0 4 b_law_any_choir
def b_law_crew : SM := (retO (lcM [1] (seqI (op2 gIx (vN 0) (cD (.int 1)))) (setS 1) yesT (op2 gIx (vN 1) (cD (.int 0)))))
def m_law_crew : List PyData → R PyData := fnRun 1 2 b_law_crew
def b_law_any_standing_L1 : SM := (appO 2 (opA gTuple (aC (lcM [4] (opI rg1 (aC (cD (.int 3)) aN)) (setS 4) yesT (callL 0 m_law_roll (aC (op2 gIx (vN 1) (cD (.int 0))) aN))) aN)))
def b_law_any_standing : SM := (seqO (ownO 2 aN)
  (seqO (forO (seqI (op2 gIx (vN 1) (cD (.int 1)))) (setS 3) b_law_any_standing_L1)
  (retO (brw true (opA gTuple (aC (vN 2) aN))))))
def m_law_any_standing : PyData → List PyData → R (PyData × PyData) := fnRunL 1 5 b_law_any_standing
def b_law_heard : SM := (seqO (asgO (callM m_law_crew (aC (vN 0) aN)) (setS 4))
  (retO (lcM [5, 6] (seqI (vN 2)) (unT (gsC (setS 5) (gsC (setS 6) gsN))) yesT (op2 gIx (op2 gIx (vN 1) (op2 gSub (op2 gAdd (vN 3) (cD (.int 3))) (vN 6))) (opM gIndex (vN 4) (aC (vN 5) aN))))))
def m_law_heard : List PyData → R PyData := fnRun 4 7 b_law_heard
def b_law_history : SM := (retF (lcM [1] (opI rg1 (aC (cD (.int 3)) aN)) (setS 1) yesT (opA gTuple (aC (lcM [2] (seqI (vN 0)) (setS 2) yesT (op2 gIx (vN 2) (vN 1))) aN))))
def m_law_history : List PyData → R PyData := fnRunF 1 3 b_law_history
def b_law_tells_L1 : SM := (asgO (op2 gAdd (op2 gMul (vN 4) (op2 gIx (vN 0) (cD (.int 0)))) (vN 5)) (setS 4))
def b_law_tells : SM := (seqO (asgO (cD (.int 0)) (setS 4))
  (seqO (forO (seqI (callM m_law_heard (aC (vN 0) (aC (vN 2) (aC (op2 gIx (vN 1) (cD (.int 1))) (aC (vN 3) aN)))))) (setS 5) b_law_tells_L1)
  (retO (op2 gIx (op2 gIx (vN 1) (cD (.int 2))) (vN 4)))))
def m_law_tells : List PyData → R PyData := fnRun 4 6 b_law_tells
def b_law_sung_L1 : SM := (seqO (asgO (dget1 (vN 2) (opA gTupD (aC (vN 5) (aC (op2 gIx (vN 7) (cD (.int 0))) aN)))) (setS 8))
  (appO 6 (ifV (tst (op2 gIs (vN 8) (cD .none))) (brw false (callM m_law_tells (aC (vN 0) (aC (vN 7) (aC (vN 4) (aC (vN 5) aN)))))) (vN 8))))
def b_law_sung_L2 : SM := (seqO (ownO 6 aN)
  (seqO (forO (seqI (op2 gIx (vN 0) (cD (.int 1)))) (setS 7) b_law_sung_L1)
  (appO 4 (brw false (opA gTuple (aC (vN 6) aN))))))
def b_law_sung : SM := (seqO (ownFO 4 (callF m_law_history (aC (vN 1) aN)))
  (seqO (forO (opI rg1 (aC (vN 3) aN)) (setS 5) b_law_sung_L2)
  (demO false (retF (slcL (vN 4) (prt (cD (.int 3))) noPrt)))))
def m_law_sung : List PyData → R PyData := fnRunF 4 9 b_law_sung
def b_law_all_tuples_L1 : SM := (asgO (op2 gAdd (vN 4) (lcM [6] (opI rg1 (aC (vN 0) aN)) (setS 6) yesT (op2 gAdd (vN 5) (opA gTupD (aC (vN 6) aN))))) (setS 4))
def b_law_all_tuples_L2 : SM := (seqO (asgO (opA gLstD aN) (setS 4))
  (seqO (forO (seqI (vN 2)) (setS 5) b_law_all_tuples_L1)
  (asgO (vN 4) (setS 2))))
def b_law_all_tuples : SM := (seqO (asgO (opA gLstD (aC (opA gTupD aN) aN)) (setS 2))
  (seqO (forO (opI rg1 (aC (vN 1) aN)) (setS 3) b_law_all_tuples_L2)
  (retO (vN 2))))
def m_law_all_tuples : List PyData → R PyData := fnRun 2 7 b_law_all_tuples
def b_need_first_rows : SM := (seqO (ifO (orT (notT (tst (isi .list (vN 1)))) (tst (op2 gGt (opA gLen (aC (vN 1) aN)) (cD (.int 6))))) (raiseO "BadRows") nxO)
  (ifO (notT (tst (opA gAll (aC (lcM [2] (seqI (vN 1)) (setS 2) yesT (callM m_are_lines (aC (vN 2) (aC (opA gLen (aC (op2 gIx (vN 0) (cD (.int 1))) aN)) (aC (op2 gIx (vN 0) (cD (.int 0))) aN))))) aN)))) (raiseO "BadRows") nxO))
def m_need_first_rows : List PyData → R PyData := fnRun 2 3 b_need_first_rows
def b_spots_for_L1 : SM := (seqO (asgO (callM m_number_of (aC (vN 0) (aC (vN 5) aN))) (setS 7))
  (appO 4 (ifV (tst (op2 gGe (vN 3) (vN 6))) (op2 gIx (op2 gIx (vN 1) (op2 gSub (vN 3) (vN 6))) (vN 7)) (opA gTupD (aC (vN 7) (aC (op2 gSub (vN 6) (vN 3)) aN))))))
def b_spots_for : SM := (seqO (ownO 4 aN)
  (seqO (forO (seqI (vN 2)) (unT (gsC (setS 5) (gsC (setS 6) gsN))) b_spots_for_L1)
  (demO false (retO (vN 4)))))
def m_spots_for : List PyData → R PyData := fnRun 4 8 b_spots_for
def b_lines_for : SM := (retO (lcM [2] (seqI (vN 1)) (setS 2) yesT (ifV (tst (isi .tuple (vN 2))) (op2 gIxX (vN 0) (vN 2)) (vN 2))))
def m_lines_for : List PyData → R PyData := fnRun 2 3 b_lines_for
def b_widened_L1 : SM := (seqO (ownFO 8 (opA gDictC (aC (vN 6) aN)))
  (seqO (dsetO 8 (vN 4) (vN 7))
  (letO 8 (appO 5 (vN 8)))))
def b_widened_L2 : SM := (forO (opI rg1 (aC (vN 0) aN)) (setS 7) b_widened_L1)
def b_widened_L3 : SM := (ifO (andT (tst (isi .tuple (vN 4))) (tst (op2 gNotInX (vN 4) (vN 1)))) (seqO (ownO 5 aN)
  (seqO (forO (seqI (vN 3)) (setS 6) b_widened_L2)
  (movO 3 5))) nxO)
def b_widened : SM := (seqO (asgO (opA gLstD (aC (vN 1) aN)) (setS 3))
  (seqO (forO (seqI (vN 2)) (setS 4) b_widened_L3)
  (retO (vN 3))))
def m_widened : List PyData → R PyData := fnRun 3 9 b_widened
def b_all_known_L1 : SM := (ifO (tst (op2 gEq (op2 gIx (vN 9) (callM m_place_of (aC (op2 gIx (vN 0) (cD (.int 0))) (aC (callM m_lines_for (aC (vN 13) (aC (vN 10) aN))) aN)))) (op2 gIx (vN 5) (vN 6)))) (appO 11 (vN 13)) nxO)
def b_all_known_L2 : SM := (forO (seqI (callM m_widened (aC (op2 gIx (vN 0) (cD (.int 0))) (aC (vN 12) (aC (vN 10) aN))))) (setS 13) b_all_known_L1)
def b_all_known_L3 : SM := (seqO (parO [10, 11] (xSh (callM m_spots_for (aC (vN 0) (aC (vN 1) (aC (vN 8) (aC (vN 4) aN))))) (xOw (opA gLstD aN) xN)))
  (seqO (forO (seqI (vN 2)) (setS 12) b_all_known_L2)
  (movO 2 11)))
def b_all_known_L4 : SM := (forO (opI gEnum (aC (op2 gIx (vN 3) (cD (.int 1))) aN)) (unT (gsC (setS 6) (gsC (unT (gsC (setS 7) (gsC (setS 8) (gsC (setS 9) gsN)))) gsN))) b_all_known_L3)
def b_all_known : SM := (seqO (par2 2 3 (aC (opA gLstD (aC (cD (.dict [])) aN)) (aC (callM m_leaned (aC (vN 0) aN)) aN)))
  (seqO (forO (opI gEnum (aC (vN 1) aN)) (unT (gsC (setS 4) (gsC (setS 5) gsN))) b_all_known_L4)
  (seqO (ifO (tst (op2 gGt (opA gLen (aC (vN 2) aN)) (cD (.int 500)))) (raiseO "Full") nxO)
  (retO (vN 2)))))
def m_all_known : List PyData → R PyData := fnRun 2 14 b_all_known
def b_as_standing_L1 : SM := (appO 2 (opA gTuple (aC (lcM [4] (seqI (opA gTupD (aC (cD (.int 3)) (aC (cD (.int 2)) (aC (cD (.int 1)) aN))))) (setS 4) yesT (dget2 (vN 1) (opA gTupD (aC (vN 3) (aC (vN 4) aN))) (cD (.int 0)))) aN)))
def b_as_standing : SM := (seqO (ownO 2 aN)
  (seqO (forO (opI rg1 (aC (opA gLen (aC (op2 gIx (vN 0) (cD (.int 1))) aN)) aN)) (setS 3) b_as_standing_L1)
  (retO (brw false (opA gTuple (aC (vN 2) aN))))))
def m_as_standing : List PyData → R PyData := fnRun 2 5 b_as_standing
def b_could_begin : SM := (seqO (dropO (callM m_need_choir (aC (vN 0) aN)))
  (seqO (dropO (callM m_need_first_rows (aC (vN 0) (aC (vN 1) aN))))
  (retO (opA gSortT (aC (lcM [2] (seqI (callM m_all_known (aC (vN 0) (aC (vN 1) aN)))) (setS 2) yesT (callM m_as_standing (aC (vN 0) (aC (vN 2) aN)))) aN)))))
def m_could_begin : List PyData → R PyData := fnRun 2 3 b_could_begin
def b_must_begin_L1 : SM := (seqO (asgO (lcM [7] (opI rg1 (aC (cD (.int 3)) aN)) (setS 7) yesT (op1 gSortI (lcM [9] (seqI (vN 2)) (setS 9) yesT (op2 gIx (op2 gIx (vN 9) (vN 4)) (vN 7))))) (setS 5))
  (appO 3 (opA gTuple (aC (lcM [8] (seqI (vN 5)) (setS 8) yesT (ifV (tst (op2 gEq (opA gLen (aC (vN 8) aN)) (cD (.int 1)))) (op2 gIx (vN 8) (cD (.int 0))) (cD .none))) aN))))
def b_must_begin : SM := (seqO (dropO (callM m_need_choir (aC (vN 0) aN)))
  (seqO (dropO (callM m_need_first_rows (aC (vN 0) (aC (vN 1) aN))))
  (seqO (asgO (lcM [6] (seqI (callM m_all_known (aC (vN 0) (aC (vN 1) aN)))) (setS 6) yesT (callM m_as_standing (aC (vN 0) (aC (vN 6) aN)))) (setS 2))
  (seqO (ifO (tst (op2 gEq (vN 2) (opA gLstD aN))) (raiseO "Nothing") nxO)
  (seqO (ownO 3 aN)
  (seqO (forO (opI rg1 (aC (opA gLen (aC (op2 gIx (vN 0) (cD (.int 1))) aN)) aN)) (setS 4) b_must_begin_L1)
  (retO (brw false (opA gTuple (aC (vN 3) aN))))))))))
def m_must_begin : List PyData → R PyData := fnRun 2 10 b_must_begin
def b_law_asked_spots_L1 : SM := (asgO (op2 gAdd (vN 3) (lcM [9] (opI rg1 (aC (opA gMin (aC (vN 8) (aC (vN 1) aN))) aN)) (setS 9) yesT (opA gTupD (aC (opM gIndex (vN 2) (aC (vN 7) aN)) (aC (op2 gSub (vN 8) (vN 9)) aN))))) (setS 3))
def b_law_asked_spots_L2 : SM := (forO (seqI (vN 5)) (unT (gsC (setS 7) (gsC (setS 8) gsN))) b_law_asked_spots_L1)
def b_law_asked_spots : SM := (seqO (asgO (opA gTupD (aC (callM m_law_crew (aC (vN 0) aN)) (aC (opA gLstD aN) aN))) (unT (gsC (setS 2) (gsC (setS 3) gsN))))
  (seqO (forO (seqI (op2 gIx (callM m_lean (aC (vN 0) aN)) (cD (.int 1)))) (unT (gsC (setS 4) (gsC (setS 5) (gsC (setS 6) gsN)))) b_law_asked_spots_L2)
  (retO (vN 3))))
def m_law_asked_spots : List PyData → R PyData := fnRun 2 10 b_law_asked_spots
def b_law_rows_refused_L1 : SM := (seqO (ownO 4 (aC (HD.toldM (callM m_could_begin (aC (vN 0) (aC (vN 3) aN)))) aN))
  (seqO (appO 4 (HD.toldM (callM m_must_begin (aC (vN 0) (aC (vN 3) aN)))))
  (ifO (brwT false (tst (op2 gNe (vN 4) (op2 gMul (opA gLstD (aC (opA gTupD (aC (cD (.str "refused")) (aC (cD (.str "BadRows")) aN))) aN)) (cD (.int 2)))))) (retO (cD (.bool false))) nxO)))
def b_law_rows_refused : SM := (seqO (forO (seqI (opA gLstD (aC (cD .none) (aC (cD (.int 5)) (aC (opA gTupD aN) (aC (opA gLstD (aC (cD .none) aN)) (aC (opA gLstD (aC (op2 gMul (opA gTupD (aC (cD (.int 0)) aN)) (op2 gAdd (vN 1) (cD (.int 1)))) aN)) (aC (opA gLstD (aC (op2 gMul (opA gTupD (aC (vN 2) aN)) (vN 1)) aN)) (aC (op2 gMul (opA gLstD (aC (op2 gMul (opA gTupD (aC (cD (.int 0)) aN)) (vN 1)) aN)) (cD (.int 7))) aN))))))))) (setS 3) b_law_rows_refused_L1)
  (retO (cD (.bool true))))
def m_law_rows_refused : List PyData → R PyData := fnRun 3 5 b_law_rows_refused
end G
set_option Elab.async false
set_option linter.all false
set_option maxRecDepth 100000
set_option maxHeartbeats 4000000
namespace G
open PySem PySem.Spec PyProof.Rows L2 DL
def b_law_L1 : SM := (asgO (op2 gAdd (vN 11) (lcM [16] (opI rg1 (aC (cD (.int 3)) aN)) (setS 16) (tst (op2 gGt (op2 gIx (op2 gIx (vN 10) (vN 12)) (vN 16)) (cD (.int 0)))) (opA gTupD (aC (vN 12) (aC (op2 gSub (cD (.int 3)) (vN 16)) aN))))) (setS 11))
def b_law_L2 : SM := (seqO (asgO (opA gTuple (aC (lcM [12] (opI rg1 (aC (vN 4) aN)) (setS 12) yesT (slc (vN 9) (prt (op2 gMul (cD (.int 3)) (vN 12))) (prt (op2 gAdd (op2 gMul (cD (.int 3)) (vN 12)) (cD (.int 3)))))) aN)) (setS 10))
  (seqO (asgO (opA gLstD aN) (setS 11))
  (seqO (forO (opI rg1 (aC (vN 4) aN)) (setS 12) b_law_L1)
  (ifO (andT (tst (op2 gEq (lcM [18] (seqI (vN 11)) (setS 18) (tst (op2 gNotIn (vN 18) (vN 7))) (vN 18)) (opA gLstD aN))) (tst (op2 gEq (callM m_law_sung (aC (vN 2) (aC (vN 10) (aC (cD (.dict [])) (aC (vN 5) aN))))) (vN 6)))) (appO 8 (vN 10)) nxO))))
def b_law_L3 : SM := (seqO (letO 8 (asgO (lcM [16] (opI rg1 (aC (cD (.int 3)) aN)) (setS 16) yesT (op1 gSortI (lcM [18] (seqI (vN 8)) (setS 18) yesT (op2 gIx (op2 gIx (vN 18) (vN 12)) (vN 16))))) (setS 14)))
  (appO 13 (opA gTuple (aC (lcM [19] (seqI (vN 14)) (setS 19) yesT (ifV (tst (op2 gEq (opA gLen (aC (vN 19) aN)) (cD (.int 1)))) (op2 gIx (vN 19) (cD (.int 0))) (cD .none))) aN))))
def b_law : SM := (seqO (asgO (callL 1 m_law_any_choir aN) (setS 2))
  (seqO (ifO (tst (op2 gGt (opA gLen (aC (op2 gIx (vN 2) (cD (.int 1))) aN)) (cD (.int 2)))) (asgO (opA gTupD (aC (cD (.int 2)) (aC (callL 1 m_law_any_singers (aC (cD (.int 2)) (aC (opA gLstD (aC (cD (.str "ann")) (aC (cD (.str "bob")) aN))) aN))) aN))) (setS 2)) nxO)
  (seqO (parO [3, 4, 5] (xSh (op2 gIx (vN 2) (cD (.int 0))) (xSh (opA gLen (aC (op2 gIx (vN 2) (cD (.int 1))) aN)) (xSh (callL 1 m_law_roll (aC (cD (.int 7)) aN)) xN))))
  (seqO (asgO (callM m_law_sung (aC (vN 2) (aC (callL 1 m_law_any_standing (aC (vN 2) aN)) (aC (cD (.dict [])) (aC (vN 5) aN))))) (setS 6))
  (seqO (ifO (tst (op2 gEq (callL 1 m_law_roll (aC (cD (.int 3)) aN)) (cD (.int 0)))) (asgO (lcM [15] (opI rg1 (aC (vN 5) aN)) (setS 15) yesT (opA gTuple (aC (lcM [17] (seqI (op2 gIx (vN 2) (cD (.int 1)))) (setS 17) yesT (callL 1 m_law_roll (aC (vN 3) aN))) aN))) (setS 6)) nxO)
  (seqO (parO [7, 8] (xSh (callM m_law_asked_spots (aC (vN 2) (aC (vN 5) aN))) (xOw (opA gLstD aN) xN)))
  (seqO (forO (seqI (callM m_law_all_tuples (aC (vN 3) (aC (op2 gMul (cD (.int 3)) (vN 4)) aN)))) (setS 9) b_law_L2)
  (seqO (letO 8 (ifO (tst (op2 gGt (opA gLen (aC (vN 8) aN)) (cD (.int 500)))) (ifO (tst (op2 gNe (HD.toldM (callM m_could_begin (aC (vN 2) (aC (vN 6) aN)))) (opA gTupD (aC (cD (.str "refused")) (aC (cD (.str "Full")) aN))))) (retO (cD (.bool false))) nxO) (ifO (tst (op2 gNe (callM m_could_begin (aC (vN 2) (aC (vN 6) aN))) (vN 8))) (retO (cD (.bool false))) nxO)))
  (seqO (letO 8 (ifO (andT (tst (op2 gEq (vN 8) (opA gLstD aN))) (tst (op2 gNe (HD.toldM (callM m_must_begin (aC (vN 2) (aC (vN 6) aN)))) (opA gTupD (aC (cD (.str "refused")) (aC (cD (.str "Nothing")) aN)))))) (retO (cD (.bool false))) nxO))
  (seqO (ifO (tst (chain gLt gLt (cD (.int 0)) (brw false (opA gLen (aC (vN 8) aN))) (cD (.int 501)))) (seqO (ownO 13 aN)
  (seqO (forO (opI rg1 (aC (vN 4) aN)) (setS 12) b_law_L3)
  (ifO (tst (op2 gNe (callM m_must_begin (aC (vN 2) (aC (vN 6) aN))) (brw false (opA gTuple (aC (vN 13) aN))))) (retO (cD (.bool false))) nxO))) nxO)
  (ifO (notT (tst (callM m_law_rows_refused (aC (vN 2) (aC (vN 4) (aC (vN 3) aN)))))) (retO (cD (.bool false))) nxO)))))))))))
abbrev law_n : Nat := 20
abbrev law_di : Nat := 1
end G
set_option Elab.async false
set_option linter.all false
set_option maxRecDepth 100000
set_option maxHeartbeats 4000000
namespace G
open PySem PySem.Spec PyProof.Rows L2 DL
variable [TabCtx]
structure Tx (K : PySem.W.Frag) (mg : Str → Option Value) : Prop where
  f_is_whole : ∃ fd, FunD K "is_whole" "is_whole" (defArgs s_is_whole) (defBody s_is_whole) (defScope s_is_whole) [] [] (He.ga K "is_whole") fd
  g_is_whole : mg "is_whole" = some (.ref (He.ga K "is_whole"))
  f_is_word : ∃ fd, FunD K "is_word" "is_word" (defArgs s_is_word) (defBody s_is_word) (defScope s_is_word) [] [] (He.ga K "is_word") fd
  g_is_word : mg "is_word" = some (.ref (He.ga K "is_word"))
  f_rise : ∃ fd, FunD K "rise" "rise" (defArgs s_rise) (defBody s_rise) (defScope s_rise) [] [] (He.ga K "rise") fd
  g_rise : mg "rise" = some (.ref (He.ga K "rise"))
  f_are_lines : ∃ fd, FunD K "are_lines" "are_lines" (defArgs s_are_lines) (defBody s_are_lines) (defScope s_are_lines) [] [] (He.ga K "are_lines") fd
  g_are_lines : mg "are_lines" = some (.ref (He.ga K "are_lines"))
  f_is_ear : ∃ fd, FunD K "is_ear" "is_ear" (defArgs s_is_ear) (defBody s_is_ear) (defScope s_is_ear) [] [] (He.ga K "is_ear") fd
  g_is_ear : mg "is_ear" = some (.ref (He.ga K "is_ear"))
  f_are_ears : ∃ fd, FunD K "are_ears" "are_ears" (defArgs s_are_ears) (defBody s_are_ears) (defScope s_are_ears) [] [] (He.ga K "are_ears") fd
  g_are_ears : mg "are_ears" = some (.ref (He.ga K "are_ears"))
  f_places_for : ∃ fd, FunD K "places_for" "places_for" (defArgs s_places_for) (defBody s_places_for) (defScope s_places_for) [] [] (He.ga K "places_for") fd
  g_places_for : mg "places_for" = some (.ref (He.ga K "places_for"))
  f_is_singer : ∃ fd, FunD K "is_singer" "is_singer" (defArgs s_is_singer) (defBody s_is_singer) (defScope s_is_singer) [] [] (He.ga K "is_singer") fd
  g_is_singer : mg "is_singer" = some (.ref (He.ga K "is_singer"))
  f_is_choir : ∃ fd, FunD K "is_choir" "is_choir" (defArgs s_is_choir) (defBody s_is_choir) (defScope s_is_choir) [] [] (He.ga K "is_choir") fd
  g_is_choir : mg "is_choir" = some (.ref (He.ga K "is_choir"))
  f_need_choir : ∃ fd, FunD K "need_choir" "need_choir" (defArgs s_need_choir) (defBody s_need_choir) (defScope s_need_choir) [] [] (He.ga K "need_choir") fd
  g_need_choir : mg "need_choir" = some (.ref (He.ga K "need_choir"))
  f_all_names : ∃ fd, FunD K "all_names" "all_names" (defArgs s_all_names) (defBody s_all_names) (defScope s_all_names) [] [] (He.ga K "all_names") fd
  g_all_names : mg "all_names" = some (.ref (He.ga K "all_names"))
  f_number_of : ∃ fd, FunD K "number_of" "number_of" (defArgs s_number_of) (defBody s_number_of) (defScope s_number_of) [] [] (He.ga K "number_of") fd
  g_number_of : mg "number_of" = some (.ref (He.ga K "number_of"))
  f_place_of : ∃ fd, FunD K "place_of" "place_of" (defArgs s_place_of) (defBody s_place_of) (defScope s_place_of) [] [] (He.ga K "place_of") fd
  g_place_of : mg "place_of" = some (.ref (He.ga K "place_of"))
  f_do_count : ∃ fd, FunD K "do_count" "do_count" (defArgs s_do_count) (defBody s_do_count) (defScope s_do_count) [] [] (He.ga K "do_count") fd
  g_do_count : mg "do_count" = some (.ref (He.ga K "do_count"))
  f_ears_that_count : ∃ fd, FunD K "ears_that_count" "ears_that_count" (defArgs s_ears_that_count) (defBody s_ears_that_count) (defScope s_ears_that_count) [] [] (He.ga K "ears_that_count") fd
  g_ears_that_count : mg "ears_that_count" = some (.ref (He.ga K "ears_that_count"))
  f_lean_singer : ∃ fd, FunD K "lean_singer" "lean_singer" (defArgs s_lean_singer) (defBody s_lean_singer) (defScope s_lean_singer) [] [] (He.ga K "lean_singer") fd
  g_lean_singer : mg "lean_singer" = some (.ref (He.ga K "lean_singer"))
  f_leaned : ∃ fd, FunD K "leaned" "leaned" (defArgs s_leaned) (defBody s_leaned) (defScope s_leaned) [] [] (He.ga K "leaned") fd
  g_leaned : mg "leaned" = some (.ref (He.ga K "leaned"))
  f_lean : ∃ fd, FunD K "lean" "lean" (defArgs s_lean) (defBody s_lean) (defScope s_lean) [] [] (He.ga K "lean") fd
  g_lean : mg "lean" = some (.ref (He.ga K "lean"))
  f_need_first_rows : ∃ fd, FunD K "need_first_rows" "need_first_rows" (defArgs s_need_first_rows) (defBody s_need_first_rows) (defScope s_need_first_rows) [] [] (He.ga K "need_first_rows") fd
  g_need_first_rows : mg "need_first_rows" = some (.ref (He.ga K "need_first_rows"))
  f_spots_for : ∃ fd, FunD K "spots_for" "spots_for" (defArgs s_spots_for) (defBody s_spots_for) (defScope s_spots_for) [] [] (He.ga K "spots_for") fd
  g_spots_for : mg "spots_for" = some (.ref (He.ga K "spots_for"))
  f_lines_for : ∃ fd, FunD K "lines_for" "lines_for" (defArgs s_lines_for) (defBody s_lines_for) (defScope s_lines_for) [] [] (He.ga K "lines_for") fd
  g_lines_for : mg "lines_for" = some (.ref (He.ga K "lines_for"))
  f_widened : ∃ fd, FunD K "widened" "widened" (defArgs s_widened) (defBody s_widened) (defScope s_widened) [] [] (He.ga K "widened") fd
  g_widened : mg "widened" = some (.ref (He.ga K "widened"))
  f_all_known : ∃ fd, FunD K "all_known" "all_known" (defArgs s_all_known) (defBody s_all_known) (defScope s_all_known) [] [] (He.ga K "all_known") fd
  g_all_known : mg "all_known" = some (.ref (He.ga K "all_known"))
  f_as_standing : ∃ fd, FunD K "as_standing" "as_standing" (defArgs s_as_standing) (defBody s_as_standing) (defScope s_as_standing) [] [] (He.ga K "as_standing") fd
  g_as_standing : mg "as_standing" = some (.ref (He.ga K "as_standing"))
  f_could_begin : ∃ fd, FunD K "could_begin" "could_begin" (defArgs s_could_begin) (defBody s_could_begin) (defScope s_could_begin) [] [] (He.ga K "could_begin") fd
  g_could_begin : mg "could_begin" = some (.ref (He.ga K "could_begin"))
  f_must_begin : ∃ fd, FunD K "must_begin" "must_begin" (defArgs s_must_begin) (defBody s_must_begin) (defScope s_must_begin) [] [] (He.ga K "must_begin") fd
  g_must_begin : mg "must_begin" = some (.ref (He.ga K "must_begin"))
  f_law_cell : ∃ fd, FunD K "_law_cell" "_law_cell" (defArgs s_law_cell) (defBody s_law_cell) (defScope s_law_cell) [] [] (He.ga K "_law_cell") fd
  g_law_cell : mg "_law_cell" = some (.ref (He.ga K "_law_cell"))
  f_law_drawn : ∃ fd, FunD K "_law_drawn" "_law_drawn" (defArgs s_law_drawn) (defBody s_law_drawn) (defScope s_law_drawn) [] [] (He.ga K "_law_drawn") fd
  g_law_drawn : mg "_law_drawn" = some (.ref (He.ga K "_law_drawn"))
  f_law_roll : ∃ fd, FunD K "_law_roll" "_law_roll" (defArgs s_law_roll) (defBody s_law_roll) (defScope s_law_roll) [] [] (He.ga K "_law_roll") fd
  g_law_roll : mg "_law_roll" = some (.ref (He.ga K "_law_roll"))
  f_law_rounds : ∃ fd, FunD K "_law_rounds" "_law_rounds" (defArgs s_law_rounds) (defBody s_law_rounds) (defScope s_law_rounds) [] [] (He.ga K "_law_rounds") fd
  g_law_rounds : mg "_law_rounds" = some (.ref (He.ga K "_law_rounds"))
  f_law_term : ∃ fd, FunD K "_law_term" "_law_term" (defArgs s_law_term) (defBody s_law_term) (defScope s_law_term) [] [] (He.ga K "_law_term") fd
  g_law_term : mg "_law_term" = some (.ref (He.ga K "_law_term"))
  f_law_told : ∃ fd, FunD K "_law_told" "_law_told" (defArgs s_law_told) (defBody s_law_told) (defScope s_law_told) [] [] (He.ga K "_law_told") fd
  g_law_told : mg "_law_told" = some (.ref (He.ga K "_law_told"))
  f_law_any_singers : ∃ fd, FunD K "_law_any_singers" "_law_any_singers" (defArgs s_law_any_singers) (defBody s_law_any_singers) (defScope s_law_any_singers) [] [] (He.ga K "_law_any_singers") fd
  g_law_any_singers : mg "_law_any_singers" = some (.ref (He.ga K "_law_any_singers"))
  f_law_any_choir : ∃ fd, FunD K "_law_any_choir" "_law_any_choir" (defArgs s_law_any_choir) (defBody s_law_any_choir) (defScope s_law_any_choir) [] [] (He.ga K "_law_any_choir") fd
  g_law_any_choir : mg "_law_any_choir" = some (.ref (He.ga K "_law_any_choir"))
  f_law_any_standing : ∃ fd, FunD K "_law_any_standing" "_law_any_standing" (defArgs s_law_any_standing) (defBody s_law_any_standing) (defScope s_law_any_standing) [] [] (He.ga K "_law_any_standing") fd
  g_law_any_standing : mg "_law_any_standing" = some (.ref (He.ga K "_law_any_standing"))
  f_law_crew : ∃ fd, FunD K "_law_crew" "_law_crew" (defArgs s_law_crew) (defBody s_law_crew) (defScope s_law_crew) [] [] (He.ga K "_law_crew") fd
  g_law_crew : mg "_law_crew" = some (.ref (He.ga K "_law_crew"))
  f_law_heard : ∃ fd, FunD K "_law_heard" "_law_heard" (defArgs s_law_heard) (defBody s_law_heard) (defScope s_law_heard) [] [] (He.ga K "_law_heard") fd
  g_law_heard : mg "_law_heard" = some (.ref (He.ga K "_law_heard"))
  f_law_history : ∃ fd, FunD K "_law_history" "_law_history" (defArgs s_law_history) (defBody s_law_history) (defScope s_law_history) [] [] (He.ga K "_law_history") fd
  g_law_history : mg "_law_history" = some (.ref (He.ga K "_law_history"))
  f_law_tells : ∃ fd, FunD K "_law_tells" "_law_tells" (defArgs s_law_tells) (defBody s_law_tells) (defScope s_law_tells) [] [] (He.ga K "_law_tells") fd
  g_law_tells : mg "_law_tells" = some (.ref (He.ga K "_law_tells"))
  f_law_sung : ∃ fd, FunD K "_law_sung" "_law_sung" (defArgs s_law_sung) (defBody s_law_sung) (defScope s_law_sung) [] [] (He.ga K "_law_sung") fd
  g_law_sung : mg "_law_sung" = some (.ref (He.ga K "_law_sung"))
  f_law_all_tuples : ∃ fd, FunD K "_law_all_tuples" "_law_all_tuples" (defArgs s_law_all_tuples) (defBody s_law_all_tuples) (defScope s_law_all_tuples) [] [] (He.ga K "_law_all_tuples") fd
  g_law_all_tuples : mg "_law_all_tuples" = some (.ref (He.ga K "_law_all_tuples"))
  f_law_asked_spots : ∃ fd, FunD K "_law_asked_spots" "_law_asked_spots" (defArgs s_law_asked_spots) (defBody s_law_asked_spots) (defScope s_law_asked_spots) [] [] (He.ga K "_law_asked_spots") fd
  g_law_asked_spots : mg "_law_asked_spots" = some (.ref (He.ga K "_law_asked_spots"))
  f_law_rows_refused : ∃ fd, FunD K "_law_rows_refused" "_law_rows_refused" (defArgs s_law_rows_refused) (defBody s_law_rows_refused) (defScope s_law_rows_refused) [] [] (He.ga K "_law_rows_refused") fd
  g_law_rows_refused : mg "_law_rows_refused" = some (.ref (He.ga K "_law_rows_refused"))
  f_law : ∃ fd, FunD K "law" "law" (defArgs s_law) (defBody s_law) (defScope s_law) [] [] (He.ga K "law") fd
  g_law : mg "law" = some (.ref (He.ga K "law"))
  x_SongError : ExcF K mg "SongError"
  x_BadChoir : ExcF K mg "BadChoir"
  x_BadName : ExcF K mg "BadName"
  x_BadStanding : ExcF K mg "BadStanding"
  x_BadNumber : ExcF K mg "BadNumber"
  x_BadRows : ExcF K mg "BadRows"
  x_BadLead : ExcF K mg "BadLead"
  x_BadWish : ExcF K mg "BadWish"
  k_Clash : mg "Clash" = some (.ref (He.ga K "Clash"))
  x_Nothing : ExcF K mg "Nothing"
  x_Full : ExcF K mg "Full"
  x_BadText : ExcF K mg "BadText"
  c_SMALL : ∃ t, mg "SMALL" = some (.str "abcdefghijklmnopqrstuvwxyz" t)
  c_MOST_BEGINNINGS : ∃ t, mg "MOST_BEGINNINGS" = some (.int 500 t)
  z_ValueError : mg "ValueError" = none
  z_all : mg "all" = none
  z_bool : mg "bool" = none
  z_dict : mg "dict" = none
  z_enumerate : mg "enumerate" = none
  z_int : mg "int" = none
  z_isinstance : mg "isinstance" = none
  z_len : mg "len" = none
  z_list : mg "list" = none
  z_max : mg "max" = none
  z_min : mg "min" = none
  z_range : mg "range" = none
  z_set : mg "set" = none
  z_sorted : mg "sorted" = none
  z_str : mg "str" = none
  z_sum : mg "sum" = none
  z_tuple : mg "tuple" = none
  z_zip : mg "zip" = none
abbrev N_is_whole : List Str := ["thing", "low", "high"]
theorem sc_is_whole : FnScope N_is_whole ["thing", "low", "high"] (defScope s_is_whole) := ⟨rfl, rfl, rfl, by decide +kernel, rfl, by decide +kernel, by decide +kernel⟩
theorem ok_is_whole {P : Program} {w : World} {K : PySem.W.Frag} {mg : Str → Option Value} {base : Heap} (T : Tx K mg) : FnD P w K mg base 1 "is_whole" ["thing", "low", "high"] m_is_whole := by
  obtain ⟨fd, D⟩ := T.f_is_whole
  exact fn_mk D T.g_is_whole sc_is_whole (fun _ _ _ _ _ _ us hl => match us, hl with | [_, _, _], _ => rfl) (by decide) fun cdv A outer s H V E hr => (pms_one (pms_ret (pm_and (pm_isi .int T.z_isinstance T.z_int (pm_var 0)) (pm_and (pm_not (pm_isi .bool T.z_isinstance T.z_bool (pm_var 0))) (pm_one (pm_chain op_le od_le op_le od_le (pm_var 1) (pm_var 0) (pm_var 2)))))))
abbrev N_is_word : List Str := ["thing", "sign"]
theorem sc_is_word : FnScope N_is_word ["thing"] (defScope s_is_word) := ⟨rfl, rfl, rfl, by decide +kernel, rfl, by decide +kernel, by decide +kernel⟩
theorem ok_is_word {P : Program} {w : World} {K : PySem.W.Frag} {mg : Str → Option Value} {base : Heap} (T : Tx K mg) : FnD P w K mg base 1 "is_word" ["thing"] m_is_word := by
  obtain ⟨fd, D⟩ := T.f_is_word
  exact fn_mk D T.g_is_word sc_is_word (fun _ _ _ _ _ _ us hl => match us, hl with | [_], _ => rfl) (by decide) fun cdv A outer s H V E hr => (pms_one (pms_ret (pm_and (pm_isi .str T.z_isinstance T.z_str (pm_var 0)) (pm_and (pm_chain op_le od_le op_le od_le pm_int (pm_callB call_len cd_len T.z_len (pma_cons (pm_var 0) pma_nil)) pm_int) (pm_one (pm_callB (cr_all rfl) cd_all T.z_all (pma_cons (pm_lc [("sign", 1)] (pmi_seq (pm_var 0)) (blkOk_by (N := N_is_word) (sc := defScope s_is_word) (by decide +kernel)) sc_is_word.nd (fun _ _ _ _ _ => (pmg_name 1 sc_is_word.nd)) (fun _ _ _ _ _ => pmts_nil) (fun _ _ _ _ _ => (pm_cmp (op_inAll (u65 hr)) od_in (pm_var 1) (pm_gstr T.c_SMALL)))) pma_nil)))))))
abbrev N_rise : List Str := ["rows", "one", "other"]
theorem sc_rise : FnScope N_rise ["rows"] (defScope s_rise) := ⟨rfl, rfl, rfl, by decide +kernel, rfl, by decide +kernel, by decide +kernel⟩
theorem ok_rise {P : Program} {w : World} {K : PySem.W.Frag} {mg : Str → Option Value} {base : Heap} (T : Tx K mg) : FnD P w K mg base 1 "rise" ["rows"] m_rise := by
  obtain ⟨fd, D⟩ := T.f_rise
  exact fn_mk D T.g_rise sc_rise (fun _ _ _ _ _ _ us hl => match us, hl with | [_], _ => rfl) (by decide) fun cdv A outer s H V E hr => (pms_one (pms_ret (pm_callB (cr_all rfl) cd_all T.z_all (pma_cons (pm_lc [("one", 1), ("other", 2)] (pmi_zip T.z_zip (pma_cons (pm_var 0) (pma_cons (pm_slice (pm_var 0) (pmo_some pm_int) pmo_none) pma_nil))) (blkOk_by (N := N_rise) (sc := defScope s_rise) (by decide +kernel)) sc_rise.nd (fun _ _ _ _ _ => (pmg_tup (pmgs_cons (pmg_name 1 sc_rise.nd) (pmgs_cons (pmg_name 2 sc_rise.nd) pmgs_nil)) (gsC_len (gsC_len (fun _ _ _ h => gsN_len h))))) (fun _ _ _ _ _ => pmts_nil) (fun _ _ _ _ _ => (pm_cmp (op_ltAll hr.units0) od_lt (pm_var 1) (pm_var 2)))) pma_nil))))
abbrev N_are_lines : List Str := ["thing", "size", "many", "one"]
theorem sc_are_lines : FnScope N_are_lines ["thing", "size", "many"] (defScope s_are_lines) := ⟨rfl, rfl, rfl, by decide +kernel, rfl, by decide +kernel, by decide +kernel⟩
theorem ok_are_lines {P : Program} {w : World} {K : PySem.W.Frag} {mg : Str → Option Value} {base : Heap} (T : Tx K mg) : FnD P w K mg base 2 "are_lines" ["thing", "size", "many"] m_are_lines := by
  obtain ⟨fd, D⟩ := T.f_are_lines
  exact fn_mk D T.g_are_lines sc_are_lines (fun _ _ _ _ _ _ us hl => match us, hl with | [_, _, _], _ => rfl) (by decide) fun cdv A outer s H V E hr => (pms_one (pms_ret (pm_and (pm_isi .tuple T.z_isinstance T.z_tuple (pm_var 0)) (pm_and (pm_cmp (op_eqD hr.units) od_eq (pm_callB call_len cd_len T.z_len (pma_cons (pm_var 0) pma_nil)) (pm_var 1)) (pm_one (pm_callB (cr_all rfl) cd_all T.z_all (pma_cons (pm_lc [("one", 3)] (pmi_seq (pm_var 0)) (blkOk_by (N := N_are_lines) (sc := defScope s_are_lines) (by decide +kernel)) sc_are_lines.nd (fun _ _ _ _ _ => (pmg_name 3 sc_are_lines.nd)) (fun _ _ _ _ _ => pmts_nil) (fun _ _ _ _ _ => (pm_call (ok_is_whole T) (hr.mono (by decide)) tk_nox (pma_cons (pm_var 3) (pma_cons pm_int (pma_cons (pm_op op_sub od_sub (pm_var 2) pm_int) pma_nil)))))) pma_nil)))))))
abbrev N_is_ear : List Str := ["thing"]
theorem sc_is_ear : FnScope N_is_ear ["thing"] (defScope s_is_ear) := ⟨rfl, rfl, rfl, by decide +kernel, rfl, by decide +kernel, by decide +kernel⟩
theorem ok_is_ear {P : Program} {w : World} {K : PySem.W.Frag} {mg : Str → Option Value} {base : Heap} (T : Tx K mg) : FnD P w K mg base 2 "is_ear" ["thing"] m_is_ear := by
  obtain ⟨fd, D⟩ := T.f_is_ear
  exact fn_mk D T.g_is_ear sc_is_ear (fun _ _ _ _ _ _ us hl => match us, hl with | [_], _ => rfl) (by decide) fun cdv A outer s H V E hr => (pms_one (pms_ret (pm_and (pm_isi .tuple T.z_isinstance T.z_tuple (pm_var 0)) (pm_and (pm_cmp (op_eqD hr.units) od_eq (pm_callB call_len cd_len T.z_len (pma_cons (pm_var 0) pma_nil)) pm_int) (pm_and (pm_call (ok_is_word T) (hr.mono (by decide)) tk_fn (pma_cons (pm_ix ix_seq od_ix (pm_var 0) pm_int) pma_nil)) (pm_one (pm_call (ok_is_whole T) (hr.mono (by decide)) tk_fn (pma_cons (pm_ix ix_seq od_ix (pm_var 0) pm_int) (pma_cons pm_int (pma_cons pm_int pma_nil))))))))))
abbrev N_are_ears : List Str := ["thing", "one"]
theorem sc_are_ears : FnScope N_are_ears ["thing"] (defScope s_are_ears) := ⟨rfl, rfl, rfl, by decide +kernel, rfl, by decide +kernel, by decide +kernel⟩
theorem ok_are_ears {P : Program} {w : World} {K : PySem.W.Frag} {mg : Str → Option Value} {base : Heap} (T : Tx K mg) : FnD P w K mg base 3 "are_ears" ["thing"] m_are_ears := by
  obtain ⟨fd, D⟩ := T.f_are_ears
  exact fn_mk D T.g_are_ears sc_are_ears (fun _ _ _ _ _ _ us hl => match us, hl with | [_], _ => rfl) (by decide) fun cdv A outer s H V E hr => (pms_one (pms_ret (pm_and (pm_isi .tuple T.z_isinstance T.z_tuple (pm_var 0)) (pm_and (pm_cmp op_le od_le (pm_callB call_len cd_len T.z_len (pma_cons (pm_var 0) pma_nil)) pm_int) (pm_and (pm_callB (cr_all rfl) cd_all T.z_all (pma_cons (pm_lc [("one", 1)] (pmi_seq (pm_var 0)) (blkOk_by (N := N_are_ears) (sc := defScope s_are_ears) (by decide +kernel)) sc_are_ears.nd (fun _ _ _ _ _ => (pmg_name 1 sc_are_ears.nd)) (fun _ _ _ _ _ => pmts_nil) (fun _ _ _ _ _ => (pm_call (ok_is_ear T) (hr.mono (by decide)) tk_nox (pma_cons (pm_var 1) pma_nil)))) pma_nil)) (pm_one (pm_call (ok_rise T) (hr.mono (by decide)) tk_fn (pma_cons (pm_var 0) pma_nil))))))))
abbrev N_places_for : List Str := ["many", "ears"]
theorem sc_places_for : FnScope N_places_for ["many", "ears"] (defScope s_places_for) := ⟨rfl, rfl, rfl, by decide +kernel, rfl, by decide +kernel, by decide +kernel⟩
theorem ok_places_for {P : Program} {w : World} {K : PySem.W.Frag} {mg : Str → Option Value} {base : Heap} (T : Tx K mg) : FnD P w K mg base 1 "places_for" ["many", "ears"] m_places_for := by
  obtain ⟨fd, D⟩ := T.f_places_for
  exact fn_mk D T.g_places_for sc_places_for (fun _ _ _ _ _ _ us hl => match us, hl with | [_, _], _ => rfl) (by decide) fun cdv A outer s H V E hr => (pms_one (pms_ret (pm_ix ix_seq od_ix (pm_lst (pma_cons pm_int (pma_cons (pm_var 0) (pma_cons (pm_op op_mulD od_mul (pm_var 0) (pm_var 0)) pma_nil)))) (pm_callB call_len cd_len T.z_len (pma_cons (pm_var 1) pma_nil)))))
abbrev N_is_singer : List Str := ["thing", "many"]
theorem sc_is_singer : FnScope N_is_singer ["thing", "many"] (defScope s_is_singer) := ⟨rfl, rfl, rfl, by decide +kernel, rfl, by decide +kernel, by decide +kernel⟩
theorem ok_is_singer {P : Program} {w : World} {K : PySem.W.Frag} {mg : Str → Option Value} {base : Heap} (T : Tx K mg) : FnD P w K mg base 4 "is_singer" ["thing", "many"] m_is_singer := by
  obtain ⟨fd, D⟩ := T.f_is_singer
  exact fn_mk D T.g_is_singer sc_is_singer (fun _ _ _ _ _ _ us hl => match us, hl with | [_, _], _ => rfl) (by decide) fun cdv A outer s H V E hr => (pms_cons (pms_if (pmt_w (pmw_or (pmt_not (pmt_val (pm_isi .tuple T.z_isinstance T.z_tuple (pm_var 0)))) (pmw_or (pmt_cmp (op_neD hr.units) od_ne (pm_callB call_len cd_len T.z_len (pma_cons (pm_var 0) pma_nil)) pm_int) (pmw_or (pmt_not (pmt_val (pm_call (ok_is_word T) (hr.mono (by decide)) tk_fn (pma_cons (pm_ix ix_seq od_ix (pm_var 0) pm_int) pma_nil)))) (pmw_or1 (pmt_not (pmt_val (pm_call (ok_are_ears T) (hr.mono (by decide)) tk_fn (pma_cons (pm_ix ix_seq od_ix (pm_var 0) pm_int) pma_nil))))))))) (pms_one (pms_ret pm_bl)) pms_nil)
  (pms_one (pms_ret (pm_call (ok_are_lines T) (hr.mono (by decide)) tk_fn (pma_cons (pm_ix ix_seq od_ix (pm_var 0) pm_int) (pma_cons (pm_call (ok_places_for T) (hr.mono (by decide)) tk_fn (pma_cons (pm_var 1) (pma_cons (pm_ix ix_seq od_ix (pm_var 0) pm_int) pma_nil))) (pma_cons (pm_var 1) pma_nil)))))))
abbrev N_is_choir : List Str := ["thing", "many", "singers", "some", "one", "ear"]
theorem sc_is_choir : FnScope N_is_choir ["thing"] (defScope s_is_choir) := ⟨rfl, rfl, rfl, by decide +kernel, rfl, by decide +kernel, by decide +kernel⟩
theorem ok_is_choir {P : Program} {w : World} {K : PySem.W.Frag} {mg : Str → Option Value} {base : Heap} (T : Tx K mg) : FnD P w K mg base 5 "is_choir" ["thing"] m_is_choir := by
  obtain ⟨fd, D⟩ := T.f_is_choir
  exact fn_mk D T.g_is_choir sc_is_choir (fun _ _ _ _ _ _ us hl => match us, hl with | [_], _ => rfl) (by decide) fun cdv A outer s H V E hr => (pms_cons (pms_if (pmt_w (pmw_or (pmt_not (pmt_val (pm_isi .tuple T.z_isinstance T.z_tuple (pm_var 0)))) (pmw_or (pmt_cmp (op_neD hr.units) od_ne (pm_callB call_len cd_len T.z_len (pma_cons (pm_var 0) pma_nil)) pm_int) (pmw_or1 (pmt_not (pmt_val (pm_call (ok_is_whole T) (hr.mono (by decide)) tk_fn (pma_cons (pm_ix ix_seq od_ix (pm_var 0) pm_int) (pma_cons pm_int (pma_cons pm_int pma_nil)))))))))) (pms_one (pms_ret pm_bl)) pms_nil)
  (pms_cons (pms_asg (pm_var 0) (pmg_tup (pmgs_cons (pmg_name 1 sc_is_choir.nd) (pmgs_cons (pmg_name 2 sc_is_choir.nd) pmgs_nil)) (gsC_len (gsC_len (fun _ _ _ h => gsN_len h)))))
  (pms_cons (pms_if (pmt_w (pmw_or (pmt_not (pmt_val (pm_isi .tuple T.z_isinstance T.z_tuple (pm_var 2)))) (pmw_or1 (pmt_not (pmt_chain op_le od_le op_le od_le pm_int (pm_callB call_len cd_len T.z_len (pma_cons (pm_var 2) pma_nil)) pm_int))))) (pms_one (pms_ret pm_bl)) pms_nil)
  (pms_cons (pms_if (pmt_w (pmw_or (pmt_not (pmt_val (pm_callB (cr_all rfl) cd_all T.z_all (pma_cons (pm_lc [("one", 4)] (pmi_seq (pm_var 2)) (blkOk_by (N := N_is_choir) (sc := defScope s_is_choir) (by decide +kernel)) sc_is_choir.nd (fun _ _ _ _ _ => (pmg_name 4 sc_is_choir.nd)) (fun _ _ _ _ _ => pmts_nil) (fun _ _ _ _ _ => (pm_call (ok_is_singer T) (hr.mono (by decide)) tk_nox (pma_cons (pm_var 4) (pma_cons (pm_var 1) pma_nil))))) pma_nil)))) (pmw_or1 (pmt_not (pmt_val (pm_call (ok_rise T) (hr.mono (by decide)) tk_fn (pma_cons (pm_lc [("one", 4)] (pmi_seq (pm_var 2)) (blkOk_by (N := N_is_choir) (sc := defScope s_is_choir) (by decide +kernel)) sc_is_choir.nd (fun _ _ _ _ _ => (pmg_name 4 sc_is_choir.nd)) (fun _ _ _ _ _ => pmts_nil) (fun _ _ _ _ _ => (pm_ix ix_seq od_ix (pm_var 4) pm_int))) pma_nil))))))) (pms_one (pms_ret pm_bl)) pms_nil)
  (pms_cons (pms_set 3 (pm_lc [("one", 4)] (pmi_seq (pm_var 2)) (blkOk_by (N := N_is_choir) (sc := defScope s_is_choir) (by decide +kernel)) sc_is_choir.nd (fun _ _ _ _ _ => (pmg_name 4 sc_is_choir.nd)) (fun _ _ _ _ _ => pmts_nil) (fun _ _ _ _ _ => (pm_ix ix_seq od_ix (pm_var 4) pm_int))) sc_is_choir.nd)
  (pms_one (pms_ret (pm_callB (cr_all rfl) cd_all T.z_all (pma_cons (pm_lc2 [("one", 4), ("ear", 5)] [5] (pmi_seq (pm_var 2)) (blkOk_by (N := N_is_choir) (sc := defScope s_is_choir) (by decide +kernel)) sc_is_choir.nd (fun _ _ _ _ _ => (pmg_name 4 sc_is_choir.nd)) (fun _ _ _ _ _ => pmts_nil) (fun _ _ _ _ _ => (pmi_seq (pm_ix ix_seq od_ix (pm_var 4) pm_int))) (fun _ _ _ _ _ => (pmg_name 5 sc_is_choir.nd)) (fun _ _ _ _ _ => pmts_nil) (fun _ _ _ _ _ => (pm_cmp (op_inAll (u65 hr)) od_in (pm_ix ix_seq od_ix (pm_var 5) pm_int) (pm_var 3)))) pma_nil)))))))))
abbrev N_need_choir : List Str := ["thing"]
theorem sc_need_choir : FnScope N_need_choir ["thing"] (defScope s_need_choir) := ⟨rfl, rfl, rfl, by decide +kernel, rfl, by decide +kernel, by decide +kernel⟩
theorem ok_need_choir {P : Program} {w : World} {K : PySem.W.Frag} {mg : Str → Option Value} {base : Heap} (T : Tx K mg) : FnD P w K mg base 6 "need_choir" ["thing"] m_need_choir := by
  obtain ⟨fd, D⟩ := T.f_need_choir
  exact fn_mk D T.g_need_choir sc_need_choir (fun _ _ _ _ _ _ us hl => match us, hl with | [_], _ => rfl) (by decide) fun cdv A outer s H V E hr => (pms_one (pms_if (pmt_not (pmt_val (pm_call (ok_is_choir T) (hr.mono (by decide)) tk_fn (pma_cons (pm_var 0) pma_nil)))) (pms_one (pms_raise T.x_BadChoir tk_fn)) pms_nil))
abbrev N_all_names : List Str := ["choir", "one"]
theorem sc_all_names : FnScope N_all_names ["choir"] (defScope s_all_names) := ⟨rfl, rfl, rfl, by decide +kernel, rfl, by decide +kernel, by decide +kernel⟩
theorem ok_all_names {P : Program} {w : World} {K : PySem.W.Frag} {mg : Str → Option Value} {base : Heap} (T : Tx K mg) : FnD P w K mg base 1 "all_names" ["choir"] m_all_names := by
  obtain ⟨fd, D⟩ := T.f_all_names
  exact fn_mk D T.g_all_names sc_all_names (fun _ _ _ _ _ _ us hl => match us, hl with | [_], _ => rfl) (by decide) fun cdv A outer s H V E hr => (pms_one (pms_ret (pm_lc [("one", 1)] (pmi_seq (pm_ix ix_seq od_ix (pm_var 0) pm_int)) (blkOk_by (N := N_all_names) (sc := defScope s_all_names) (by decide +kernel)) sc_all_names.nd (fun _ _ _ _ _ => (pmg_name 1 sc_all_names.nd)) (fun _ _ _ _ _ => pmts_nil) (fun _ _ _ _ _ => (pm_ix ix_seq od_ix (pm_var 1) pm_int)))))
abbrev N_number_of : List Str := ["choir", "name"]
theorem sc_number_of : FnScope N_number_of ["choir", "name"] (defScope s_number_of) := ⟨rfl, rfl, rfl, by decide +kernel, rfl, by decide +kernel, by decide +kernel⟩
theorem ok_number_of {P : Program} {w : World} {K : PySem.W.Frag} {mg : Str → Option Value} {base : Heap} (T : Tx K mg) : FnD P w K mg base 2 "number_of" ["choir", "name"] m_number_of := by
  obtain ⟨fd, D⟩ := T.f_number_of
  exact fn_mk D T.g_number_of sc_number_of (fun _ _ _ _ _ _ us hl => match us, hl with | [_, _], _ => rfl) (by decide) fun cdv A outer s H V E hr => (pms_one (pms_ret (pm_index (u65 hr) (pm_call (ok_all_names T) (hr.mono (by decide)) tk_fn (pma_cons (pm_var 0) pma_nil)) (pma_cons (pm_var 1) pma_nil))))
abbrev N_place_of : List Str := ["many", "some", "found", "line"]
theorem sc_place_of : FnScope N_place_of ["many", "some"] (defScope s_place_of) := ⟨rfl, rfl, rfl, by decide +kernel, rfl, by decide +kernel, by decide +kernel⟩
theorem ok_place_of {P : Program} {w : World} {K : PySem.W.Frag} {mg : Str → Option Value} {base : Heap} (T : Tx K mg) : FnD P w K mg base 1 "place_of" ["many", "some"] m_place_of := by
  obtain ⟨fd, D⟩ := T.f_place_of
  exact fn_mk D T.g_place_of sc_place_of (fun _ _ _ _ _ _ us hl => match us, hl with | [_, _], _ => rfl) (by decide) fun cdv A outer s H V E hr => (pms_cons (pms_set 2 pm_int sc_place_of.nd)
  (pms_cons (pms_for (passes_of rfl) (pmi_seq (pm_var 1)) (pmg_name 3 sc_place_of.nd)
  (pms_one (pms_set 2 (pm_op op_addD od_add (pm_op op_mulD od_mul (pm_var 2) (pm_var 0)) (pm_var 3)) sc_place_of.nd)))
  (pms_one (pms_ret (pm_var 2)))))
abbrev N_do_count : List Str := ["many", "singer", "at", "ears", "table", "other", "some", "line", "pair"]
theorem sc_do_count : FnScope N_do_count ["many", "singer", "at"] (defScope s_do_count) := ⟨rfl, rfl, rfl, by decide +kernel, rfl, by decide +kernel, by decide +kernel⟩
theorem ok_do_count {P : Program} {w : World} {K : PySem.W.Frag} {mg : Str → Option Value} {base : Heap} (T : Tx K mg) : FnD P w K mg base 2 "do_count" ["many", "singer", "at"] m_do_count := by
  obtain ⟨fd, D⟩ := T.f_do_count
  exact fn_mk D T.g_do_count sc_do_count (fun _ _ _ _ _ _ us hl => match us, hl with | [_, _, _], _ => rfl) (by decide) fun cdv A outer s H V E hr => (pms_cons (pms_asg (pm_tup (pma_cons (pm_ix ix_seq od_ix (pm_var 1) pm_int) (pma_cons (pm_ix ix_seq od_ix (pm_var 1) pm_int) pma_nil))) (pmg_tup (pmgs_cons (pmg_name 3 sc_do_count.nd) (pmgs_cons (pmg_name 4 sc_do_count.nd) pmgs_nil)) (gsC_len (gsC_len (fun _ _ _ h => gsN_len h)))))
  (pms_cons (pms_for (passes_of rfl) (pmi_range1 T.z_range (pma_cons (pm_if (pmt_cmp (op_eqD hr.units) od_eq (pm_callB call_len cd_len T.z_len (pma_cons (pm_var 3) pma_nil)) pm_int) (pm_var 0) pm_int) pma_nil)) (pmg_name 5 sc_do_count.nd)
  (pms_cons (pms_setLc 6 [("line", 7)] (pmi_range1 T.z_range (pma_cons (pm_var 0) pma_nil)) (blkOk_by (N := N_do_count) (sc := defScope s_do_count) (by decide +kernel)) sc_do_count.nd (fun _ _ _ _ _ => (pmg_name 7 sc_do_count.nd)) (fun _ _ _ _ _ => pmts_nil) (fun _ _ _ _ _ => (pm_if (pmt_cmp (op_eqD hr.units) od_eq (pm_var 2) pm_int) (pm_tup (pma_cons (pm_var 7) (pma_cons (pm_var 5) pma_nil))) (pm_tup (pma_cons (pm_var 5) (pma_cons (pm_var 7) pma_nil))))))
  (pms_one (pms_if (pmt_cmp op_gt od_gt (pm_setLen T.z_len T.z_set (pm_lc [("pair", 8)] (pmi_seq (pm_var 6)) (blkOk_by (N := N_do_count) (sc := defScope s_do_count) (by decide +kernel)) sc_do_count.nd (fun _ _ _ _ _ => (pmg_name 8 sc_do_count.nd)) (fun _ _ _ _ _ => pmts_nil) (fun _ _ _ _ _ => (pm_ix ix_seq od_ix (pm_var 4) (pm_call (ok_place_of T) (hr.mono (by decide)) tk_nox (pma_cons (pm_var 0) (pma_cons (pm_slice (pm_var 8) pmo_none (pmo_some (pm_callB call_len cd_len T.z_len (pma_cons (pm_var 3) pma_nil)))) pma_nil))))))) pm_int) (pms_one (pms_ret pm_bl)) pms_nil))))
  (pms_one (pms_ret pm_bl))))
abbrev N_ears_that_count : List Str := ["many", "singer", "at", "ear"]
theorem sc_ears_that_count : FnScope N_ears_that_count ["many", "singer"] (defScope s_ears_that_count) := ⟨rfl, rfl, rfl, by decide +kernel, rfl, by decide +kernel, by decide +kernel⟩
theorem ok_ears_that_count {P : Program} {w : World} {K : PySem.W.Frag} {mg : Str → Option Value} {base : Heap} (T : Tx K mg) : FnD P w K mg base 3 "ears_that_count" ["many", "singer"] m_ears_that_count := by
  obtain ⟨fd, D⟩ := T.f_ears_that_count
  exact fn_mk D T.g_ears_that_count sc_ears_that_count (fun _ _ _ _ _ _ us hl => match us, hl with | [_, _], _ => rfl) (by decide) fun cdv A outer s H V E hr => (pms_one (pms_ret (pm_callTy call_tuple_of cd_tuple T.z_tuple (pma_cons (pm_lc [("at", 2), ("ear", 3)] (pmi_enum T.z_enumerate (pma_cons (pm_ix ix_seq od_ix (pm_var 1) pm_int) pma_nil)) (blkOk_by (N := N_ears_that_count) (sc := defScope s_ears_that_count) (by decide +kernel)) sc_ears_that_count.nd (fun _ _ _ _ _ => (pmg_tup (pmgs_cons (pmg_name 2 sc_ears_that_count.nd) (pmgs_cons (pmg_name 3 sc_ears_that_count.nd) pmgs_nil)) (gsC_len (gsC_len (fun _ _ _ h => gsN_len h))))) (fun _ _ _ _ _ => (pmts_one (pmt_val (pm_call (ok_do_count T) (hr.mono (by decide)) tk_nox (pma_cons (pm_var 0) (pma_cons (pm_var 1) (pma_cons (pm_var 2) pma_nil))))))) (fun _ _ _ _ _ => (pm_var 3))) pma_nil))))
abbrev N_lean_singer : List Str := ["many", "singer", "name", "ears", "table", "left", "places", "line", "place"]
theorem sc_lean_singer : FnScope N_lean_singer ["many", "singer"] (defScope s_lean_singer) := ⟨rfl, rfl, rfl, by decide +kernel, rfl, by decide +kernel, by decide +kernel⟩
theorem ok_lean_singer {P : Program} {w : World} {K : PySem.W.Frag} {mg : Str → Option Value} {base : Heap} (T : Tx K mg) : FnD P w K mg base 4 "lean_singer" ["many", "singer"] m_lean_singer := by
  obtain ⟨fd, D⟩ := T.f_lean_singer
  exact fn_mk D T.g_lean_singer sc_lean_singer (fun _ _ _ _ _ _ us hl => match us, hl with | [_, _], _ => rfl) (by decide) fun cdv A outer s H V E hr => (pms_cons (pms_asg (pm_var 1) (pmg_tup (pmgs_cons (pmg_name 2 sc_lean_singer.nd) (pmgs_cons (pmg_name 3 sc_lean_singer.nd) (pmgs_cons (pmg_name 4 sc_lean_singer.nd) pmgs_nil))) (gsC_len (gsC_len (gsC_len (fun _ _ _ h => gsN_len h))))))
  (pms_cons (pms_set 5 (pm_call (ok_ears_that_count T) (hr.mono (by decide)) tk_fn (pma_cons (pm_var 0) (pma_cons (pm_var 1) pma_nil))) sc_lean_singer.nd)
  (pms_cons (pms_if (pmt_cmp (op_eqD hr.units) od_eq (pm_var 5) (pm_var 3)) (pms_one (pms_ret (pm_var 1))) pms_nil)
  (pms_cons (pms_if (pmt_cmp (op_eqD hr.units) od_eq (pm_var 5) (pm_tup pma_nil)) (pms_one (pms_ret (pm_tup (pma_cons (pm_var 2) (pma_cons (pm_tup pma_nil) (pma_cons (pm_slice (pm_var 4) pmo_none (pmo_some pm_int)) pma_nil)))))) pms_nil)
  (pms_cons (pms_setLc 6 [("line", 7)] (pmi_range1 T.z_range (pma_cons (pm_var 0) pma_nil)) (blkOk_by (N := N_lean_singer) (sc := defScope s_lean_singer) (by decide +kernel)) sc_lean_singer.nd (fun _ _ _ _ _ => (pmg_name 7 sc_lean_singer.nd)) (fun _ _ _ _ _ => pmts_nil) (fun _ _ _ _ _ => (pm_if (pmt_cmp (op_eqD hr.units) od_eq (pm_ix ix_seq od_ix (pm_var 5) pm_int) (pm_ix ix_seq od_ix (pm_var 3) pm_int)) (pm_op op_mulD od_mul (pm_var 7) (pm_var 0)) (pm_var 7))))
  (pms_one (pms_ret (pm_tup (pma_cons (pm_var 2) (pma_cons (pm_var 5) (pma_cons (pm_callTy call_tuple_of cd_tuple T.z_tuple (pma_cons (pm_lc [("place", 8)] (pmi_seq (pm_var 6)) (blkOk_by (N := N_lean_singer) (sc := defScope s_lean_singer) (by decide +kernel)) sc_lean_singer.nd (fun _ _ _ _ _ => (pmg_name 8 sc_lean_singer.nd)) (fun _ _ _ _ _ => pmts_nil) (fun _ _ _ _ _ => (pm_ix ix_seq od_ix (pm_var 4) (pm_var 8)))) pma_nil)) pma_nil)))))))))))
abbrev N_leaned : List Str := ["choir", "singer"]
theorem sc_leaned : FnScope N_leaned ["choir"] (defScope s_leaned) := ⟨rfl, rfl, rfl, by decide +kernel, rfl, by decide +kernel, by decide +kernel⟩
theorem ok_leaned {P : Program} {w : World} {K : PySem.W.Frag} {mg : Str → Option Value} {base : Heap} (T : Tx K mg) : FnD P w K mg base 5 "leaned" ["choir"] m_leaned := by
  obtain ⟨fd, D⟩ := T.f_leaned
  exact fn_mk D T.g_leaned sc_leaned (fun _ _ _ _ _ _ us hl => match us, hl with | [_], _ => rfl) (by decide) fun cdv A outer s H V E hr => (pms_one (pms_ret (pm_tup (pma_cons (pm_ix ix_seq od_ix (pm_var 0) pm_int) (pma_cons (pm_callTy call_tuple_of cd_tuple T.z_tuple (pma_cons (pm_lc [("singer", 1)] (pmi_seq (pm_ix ix_seq od_ix (pm_var 0) pm_int)) (blkOk_by (N := N_leaned) (sc := defScope s_leaned) (by decide +kernel)) sc_leaned.nd (fun _ _ _ _ _ => (pmg_name 1 sc_leaned.nd)) (fun _ _ _ _ _ => pmts_nil) (fun _ _ _ _ _ => (pm_call (ok_lean_singer T) (hr.mono (by decide)) tk_nox (pma_cons (pm_ix ix_seq od_ix (pm_var 0) pm_int) (pma_cons (pm_var 1) pma_nil))))) pma_nil)) pma_nil)))))
abbrev N_lean : List Str := ["choir"]
theorem sc_lean : FnScope N_lean ["choir"] (defScope s_lean) := ⟨rfl, rfl, rfl, by decide +kernel, rfl, by decide +kernel, by decide +kernel⟩
theorem ok_lean {P : Program} {w : World} {K : PySem.W.Frag} {mg : Str → Option Value} {base : Heap} (T : Tx K mg) : FnD P w K mg base 7 "lean" ["choir"] m_lean := by
  obtain ⟨fd, D⟩ := T.f_lean
  exact fn_mk D T.g_lean sc_lean (fun _ _ _ _ _ _ us hl => match us, hl with | [_], _ => rfl) (by decide) fun cdv A outer s H V E hr => (pms_cons (pms_expr (pm_call (ok_need_choir T) (hr.mono (by decide)) tk_fn (pma_cons (pm_var 0) pma_nil)))
  (pms_one (pms_ret (pm_call (ok_leaned T) (hr.mono (by decide)) tk_fn (pma_cons (pm_var 0) pma_nil)))))
abbrev N_need_first_rows : List Str := ["choir", "rows", "lines"]
theorem sc_need_first_rows : FnScope N_need_first_rows ["choir", "rows"] (defScope s_need_first_rows) := ⟨rfl, rfl, rfl, by decide +kernel, rfl, by decide +kernel, by decide +kernel⟩
theorem ok_need_first_rows {P : Program} {w : World} {K : PySem.W.Frag} {mg : Str → Option Value} {base : Heap} (T : Tx K mg) : FnD P w K mg base 3 "need_first_rows" ["choir", "rows"] m_need_first_rows := by
  obtain ⟨fd, D⟩ := T.f_need_first_rows
  exact fn_mk D T.g_need_first_rows sc_need_first_rows (fun _ _ _ _ _ _ us hl => match us, hl with | [_, _], _ => rfl) (by decide) fun cdv A outer s H V E hr => (pms_cons (pms_if (pmt_w (pmw_or (pmt_not (pmt_val (pm_isi .list T.z_isinstance T.z_list (pm_var 1)))) (pmw_or1 (pmt_cmp op_gt od_gt (pm_callB call_len cd_len T.z_len (pma_cons (pm_var 1) pma_nil)) pm_int)))) (pms_one (pms_raise T.x_BadRows tk_fn)) pms_nil)
  (pms_one (pms_if (pmt_not (pmt_val (pm_callB (cr_all rfl) cd_all T.z_all (pma_cons (pm_lc [("lines", 2)] (pmi_seq (pm_var 1)) (blkOk_by (N := N_need_first_rows) (sc := defScope s_need_first_rows) (by decide +kernel)) sc_need_first_rows.nd (fun _ _ _ _ _ => (pmg_name 2 sc_need_first_rows.nd)) (fun _ _ _ _ _ => pmts_nil) (fun _ _ _ _ _ => (pm_call (ok_are_lines T) (hr.mono (by decide)) tk_nox (pma_cons (pm_var 2) (pma_cons (pm_callB call_len cd_len T.z_len (pma_cons (pm_ix ix_seq od_ix (pm_var 0) pm_int) pma_nil)) (pma_cons (pm_ix ix_seq od_ix (pm_var 0) pm_int) pma_nil)))))) pma_nil)))) (pms_one (pms_raise T.x_BadRows tk_fn)) pms_nil)))
abbrev N_spots_for : List Str := ["choir", "rows", "ears", "beat", "found", "name", "ago", "at"]
theorem sc_spots_for : FnScope N_spots_for ["choir", "rows", "ears", "beat"] (defScope s_spots_for) := ⟨rfl, rfl, rfl, by decide +kernel, rfl, by decide +kernel, by decide +kernel⟩
theorem ok_spots_for {P : Program} {w : World} {K : PySem.W.Frag} {mg : Str → Option Value} {base : Heap} (T : Tx K mg) : FnD P w K mg base 3 "spots_for" ["choir", "rows", "ears", "beat"] m_spots_for := by
  obtain ⟨fd, D⟩ := T.f_spots_for
  exact fn_mk D T.g_spots_for sc_spots_for (fun _ _ _ _ _ _ us hl => match us, hl with | [_, _, _, _], _ => rfl) (by decide) fun cdv A outer s H V E hr => (pms_cons (pms_own 4 pma_nil sc_spots_for.nd)
  (pms_cons (pms_for (passes_of rfl) (pmi_seq (pm_var 2)) (pmg_tup (pmgs_cons (pmg_name 5 sc_spots_for.nd) (pmgs_cons (pmg_name 6 sc_spots_for.nd) pmgs_nil)) (gsC_len (gsC_len (fun _ _ _ h => gsN_len h))))
  (pms_cons (pms_set 7 (pm_call (ok_number_of T) (hr.mono (by decide)) tk_fn (pma_cons (pm_var 0) (pma_cons (pm_var 5) pma_nil))) sc_spots_for.nd)
  (pms_one (pms_app 4 (pm_if (pmt_cmp op_ge od_ge (pm_var 3) (pm_var 6)) (pm_ix ix_seq od_ix (pm_ix ix_seq od_ix (pm_var 1) (pm_op op_sub od_sub (pm_var 3) (pm_var 6))) (pm_var 7)) (pm_tup (pma_cons (pm_var 7) (pma_cons (pm_op op_sub od_sub (pm_var 6) (pm_var 3)) pma_nil))))))))
  (pms_one (pms_dem false (pms_ret (pm_var 4))))))
abbrev N_lines_for : List Str := ["known", "spots", "spot"]
theorem sc_lines_for : FnScope N_lines_for ["known", "spots"] (defScope s_lines_for) := ⟨rfl, rfl, rfl, by decide +kernel, rfl, by decide +kernel, by decide +kernel⟩
theorem ok_lines_for {P : Program} {w : World} {K : PySem.W.Frag} {mg : Str → Option Value} {base : Heap} (T : Tx K mg) : FnD P w K mg base 1 "lines_for" ["known", "spots"] m_lines_for := by
  obtain ⟨fd, D⟩ := T.f_lines_for
  exact fn_mk D T.g_lines_for sc_lines_for (fun _ _ _ _ _ _ us hl => match us, hl with | [_, _], _ => rfl) (by decide) fun cdv A outer s H V E hr => (pms_one (pms_ret (pm_lc [("spot", 2)] (pmi_seq (pm_var 1)) (blkOk_by (N := N_lines_for) (sc := defScope s_lines_for) (by decide +kernel)) sc_lines_for.nd (fun _ _ _ _ _ => (pmg_name 2 sc_lines_for.nd)) (fun _ _ _ _ _ => pmts_nil) (fun _ _ _ _ _ => (pm_if (pmt_val (pm_isi .tuple T.z_isinstance T.z_tuple (pm_var 2))) (pm_dix hr.units (pm_var 0) (pm_var 2)) (pm_var 2))))))
abbrev N_widened : List Str := ["many", "known", "spots", "found", "spot", "some", "one", "line", "more"]
theorem sc_widened : FnScope N_widened ["many", "known", "spots"] (defScope s_widened) := ⟨rfl, rfl, rfl, by decide +kernel, rfl, by decide +kernel, by decide +kernel⟩
theorem ok_widened {P : Program} {w : World} {K : PySem.W.Frag} {mg : Str → Option Value} {base : Heap} (T : Tx K mg) : FnD P w K mg base 1 "widened" ["many", "known", "spots"] m_widened := by
  obtain ⟨fd, D⟩ := T.f_widened
  exact fn_mk D T.g_widened sc_widened (fun _ _ _ _ _ _ us hl => match us, hl with | [_, _, _], _ => rfl) (by decide) fun cdv A outer s H V E hr => (pms_cons (pms_set 3 (pm_lst (pma_cons (pm_var 1) pma_nil)) sc_widened.nd)
  (pms_cons (pms_for (passes_of rfl) (pmi_seq (pm_var 2)) (pmg_name 4 sc_widened.nd)
  (pms_one (pms_if (pmt_w (pmw_and (pmt_val (pm_isi .tuple T.z_isinstance T.z_tuple (pm_var 4))) (pmw_and1 (pmt_cmp (op_notInX hr.units) od_notInX (pm_var 4) (pm_var 1))))) (pms_cons (pms_own 5 pma_nil sc_widened.nd)
  (pms_cons (pms_for (passes_of rfl) (pmi_seq (pm_var 3)) (pmg_name 6 sc_widened.nd)
  (pms_one (pms_for (passes_of rfl) (pmi_range1 T.z_range (pma_cons (pm_var 0) pma_nil)) (pmg_name 7 sc_widened.nd)
  (pms_cons (pms_ownF 8 (pmf_dictC T.z_dict hr.units (pma_cons (pm_var 6) pma_nil)) sc_widened.nd)
  (pms_cons (pms_dset 8 hr.units (pm_var 7) (pm_var 4))
  (pms_one (pms_let 8 (pms_app 5 (pm_var 8)))))))))
  (pms_one (pms_mov 3 5 sc_widened.nd)))) pms_nil)))
  (pms_one (pms_ret (pm_var 3)))))
abbrev N_all_known : List Str := ["choir", "rows", "found", "lean_one", "beat", "lines", "at", "name", "ears", "table", "spots", "some", "known", "one"]
theorem sc_all_known : FnScope N_all_known ["choir", "rows"] (defScope s_all_known) := ⟨rfl, rfl, rfl, by decide +kernel, rfl, by decide +kernel, by decide +kernel⟩
theorem ok_all_known {P : Program} {w : World} {K : PySem.W.Frag} {mg : Str → Option Value} {base : Heap} (T : Tx K mg) : FnD P w K mg base 6 "all_known" ["choir", "rows"] m_all_known := by
  obtain ⟨fd, D⟩ := T.f_all_known
  exact fn_mk D T.g_all_known sc_all_known (fun _ _ _ _ _ _ us hl => match us, hl with | [_, _], _ => rfl) (by decide) fun cdv A outer s H V E hr => (pms_cons (pms_par 2 3 (pma_cons (pm_lst (pma_cons pm_dnew pma_nil)) (pma_cons (pm_call (ok_leaned T) (hr.mono (by decide)) tk_fn (pma_cons (pm_var 0) pma_nil)) pma_nil)) sc_all_known.nd)
  (pms_cons (pms_for (passes_of rfl) (pmi_enum T.z_enumerate (pma_cons (pm_var 1) pma_nil)) (pmg_tup (pmgs_cons (pmg_name 4 sc_all_known.nd) (pmgs_cons (pmg_name 5 sc_all_known.nd) pmgs_nil)) (gsC_len (gsC_len (fun _ _ _ h => gsN_len h))))
  (pms_one (pms_for (passes_of rfl) (pmi_enum T.z_enumerate (pma_cons (pm_ix ix_seq od_ix (pm_var 3) pm_int) pma_nil)) (pmg_tup (pmgs_cons (pmg_name 6 sc_all_known.nd) (pmgs_cons (pmg_tup (pmgs_cons (pmg_name 7 sc_all_known.nd) (pmgs_cons (pmg_name 8 sc_all_known.nd) (pmgs_cons (pmg_name 9 sc_all_known.nd) pmgs_nil))) (gsC_len (gsC_len (gsC_len (fun _ _ _ h => gsN_len h))))) pmgs_nil)) (gsC_len (gsC_len (fun _ _ _ h => gsN_len h))))
  (pms_cons (pms_par2 10 11 (pmx_sh (pm_call (ok_spots_for T) (hr.mono (by decide)) tk_fn (pma_cons (pm_var 0) (pma_cons (pm_var 1) (pma_cons (pm_var 8) (pma_cons (pm_var 4) pma_nil))))) (pmx_ow (pmf_lst pma_nil) pmx_nil)) sc_all_known.nd)
  (pms_cons (pms_for (passes_of rfl) (pmi_seq (pm_var 2)) (pmg_name 12 sc_all_known.nd)
  (pms_one (pms_for (passes_of rfl) (pmi_seq (pm_call (ok_widened T) (hr.mono (by decide)) tk_fn (pma_cons (pm_ix ix_seq od_ix (pm_var 0) pm_int) (pma_cons (pm_var 12) (pma_cons (pm_var 10) pma_nil))))) (pmg_name 13 sc_all_known.nd)
  (pms_one (pms_if (pmt_cmp (op_eqD hr.units) od_eq (pm_ix ix_seq od_ix (pm_var 9) (pm_call (ok_place_of T) (hr.mono (by decide)) tk_fn (pma_cons (pm_ix ix_seq od_ix (pm_var 0) pm_int) (pma_cons (pm_call (ok_lines_for T) (hr.mono (by decide)) tk_fn (pma_cons (pm_var 13) (pma_cons (pm_var 10) pma_nil))) pma_nil)))) (pm_ix ix_seq od_ix (pm_var 5) (pm_var 6))) (pms_one (pms_app 11 (pm_var 13))) pms_nil)))))
  (pms_one (pms_mov 2 11 sc_all_known.nd)))))))
  (pms_cons (pms_if (pmt_cmp op_gt od_gt (pm_callB call_len cd_len T.z_len (pma_cons (pm_var 2) pma_nil)) (pm_gint T.c_MOST_BEGINNINGS)) (pms_one (pms_raise T.x_Full tk_fn)) pms_nil)
  (pms_one (pms_ret (pm_var 2))))))
abbrev N_as_standing : List Str := ["choir", "known", "found", "at", "ago"]
theorem sc_as_standing : FnScope N_as_standing ["choir", "known"] (defScope s_as_standing) := ⟨rfl, rfl, rfl, by decide +kernel, rfl, by decide +kernel, by decide +kernel⟩
theorem ok_as_standing {P : Program} {w : World} {K : PySem.W.Frag} {mg : Str → Option Value} {base : Heap} (T : Tx K mg) : FnD P w K mg base 1 "as_standing" ["choir", "known"] m_as_standing := by
  obtain ⟨fd, D⟩ := T.f_as_standing
  exact fn_mk D T.g_as_standing sc_as_standing (fun _ _ _ _ _ _ us hl => match us, hl with | [_, _], _ => rfl) (by decide) fun cdv A outer s H V E hr => (pms_cons (pms_own 2 pma_nil sc_as_standing.nd)
  (pms_cons (pms_for (passes_of rfl) (pmi_range1 T.z_range (pma_cons (pm_callB call_len cd_len T.z_len (pma_cons (pm_ix ix_seq od_ix (pm_var 0) pm_int) pma_nil)) pma_nil)) (pmg_name 3 sc_as_standing.nd)
  (pms_one (pms_app 2 (pm_callTy call_tuple_of cd_tuple T.z_tuple (pma_cons (pm_lc [("ago", 4)] (pmi_seq (pm_tup (pma_cons pm_int (pma_cons pm_int (pma_cons pm_int pma_nil))))) (blkOk_by (N := N_as_standing) (sc := defScope s_as_standing) (by decide +kernel)) sc_as_standing.nd (fun _ _ _ _ _ => (pmg_name 4 sc_as_standing.nd)) (fun _ _ _ _ _ => pmts_nil) (fun _ _ _ _ _ => (pm_dget2 hr.units (pm_var 1) (pm_tup (pma_cons (pm_var 3) (pma_cons (pm_var 4) pma_nil))) pm_int))) pma_nil)))))
  (pms_one (pms_ret (pm_brw false (pm_callTy call_tuple_of cd_tuple T.z_tuple (pma_cons (pm_var 2) pma_nil)))))))
abbrev N_could_begin : List Str := ["choir", "rows", "known"]
theorem sc_could_begin : FnScope N_could_begin ["choir", "rows"] (defScope s_could_begin) := ⟨rfl, rfl, rfl, by decide +kernel, rfl, by decide +kernel, by decide +kernel⟩
theorem ok_could_begin {P : Program} {w : World} {K : PySem.W.Frag} {mg : Str → Option Value} {base : Heap} (T : Tx K mg) : FnD P w K mg base 7 "could_begin" ["choir", "rows"] m_could_begin := by
  obtain ⟨fd, D⟩ := T.f_could_begin
  exact fn_mk D T.g_could_begin sc_could_begin (fun _ _ _ _ _ _ us hl => match us, hl with | [_, _], _ => rfl) (by decide) fun cdv A outer s H V E hr => (pms_cons (pms_expr (pm_call (ok_need_choir T) (hr.mono (by decide)) tk_fn (pma_cons (pm_var 0) pma_nil)))
  (pms_cons (pms_expr (pm_call (ok_need_first_rows T) (hr.mono (by decide)) tk_fn (pma_cons (pm_var 0) (pma_cons (pm_var 1) pma_nil))))
  (pms_one (pms_ret (pm_callB (cr_sortT rfl hr.units) cd_sortT T.z_sorted (pma_cons (pm_lc [("known", 2)] (pmi_seq (pm_call (ok_all_known T) (hr.mono (by decide)) tk_fn (pma_cons (pm_var 0) (pma_cons (pm_var 1) pma_nil)))) (blkOk_by (N := N_could_begin) (sc := defScope s_could_begin) (by decide +kernel)) sc_could_begin.nd (fun _ _ _ _ _ => (pmg_name 2 sc_could_begin.nd)) (fun _ _ _ _ _ => pmts_nil) (fun _ _ _ _ _ => (pm_call (ok_as_standing T) (hr.mono (by decide)) tk_nox (pma_cons (pm_var 0) (pma_cons (pm_var 2) pma_nil))))) pma_nil))))))
abbrev N_must_begin : List Str := ["choir", "rows", "some", "found", "at", "row", "known", "spot", "lines", "one"]
theorem sc_must_begin : FnScope N_must_begin ["choir", "rows"] (defScope s_must_begin) := ⟨rfl, rfl, rfl, by decide +kernel, rfl, by decide +kernel, by decide +kernel⟩
theorem ok_must_begin {P : Program} {w : World} {K : PySem.W.Frag} {mg : Str → Option Value} {base : Heap} (T : Tx K mg) : FnD P w K mg base 7 "must_begin" ["choir", "rows"] m_must_begin := by
  obtain ⟨fd, D⟩ := T.f_must_begin
  exact fn_mk D T.g_must_begin sc_must_begin (fun _ _ _ _ _ _ us hl => match us, hl with | [_, _], _ => rfl) (by decide) fun cdv A outer s H V E hr => (pms_cons (pms_expr (pm_call (ok_need_choir T) (hr.mono (by decide)) tk_fn (pma_cons (pm_var 0) pma_nil)))
  (pms_cons (pms_expr (pm_call (ok_need_first_rows T) (hr.mono (by decide)) tk_fn (pma_cons (pm_var 0) (pma_cons (pm_var 1) pma_nil))))
  (pms_cons (pms_set 2 (pm_lc [("known", 6)] (pmi_seq (pm_call (ok_all_known T) (hr.mono (by decide)) tk_fn (pma_cons (pm_var 0) (pma_cons (pm_var 1) pma_nil)))) (blkOk_by (N := N_must_begin) (sc := defScope s_must_begin) (by decide +kernel)) sc_must_begin.nd (fun _ _ _ _ _ => (pmg_name 6 sc_must_begin.nd)) (fun _ _ _ _ _ => pmts_nil) (fun _ _ _ _ _ => (pm_call (ok_as_standing T) (hr.mono (by decide)) tk_nox (pma_cons (pm_var 0) (pma_cons (pm_var 6) pma_nil))))) sc_must_begin.nd)
  (pms_cons (pms_if (pmt_cmp (op_eqD hr.units) od_eq (pm_var 2) (pm_lst pma_nil)) (pms_one (pms_raise T.x_Nothing tk_fn)) pms_nil)
  (pms_cons (pms_own 3 pma_nil sc_must_begin.nd)
  (pms_cons (pms_for (passes_of rfl) (pmi_range1 T.z_range (pma_cons (pm_callB call_len cd_len T.z_len (pma_cons (pm_ix ix_seq od_ix (pm_var 0) pm_int) pma_nil)) pma_nil)) (pmg_name 4 sc_must_begin.nd)
  (pms_cons (pms_setLc 5 [("spot", 7)] (pmi_range1 T.z_range (pma_cons pm_int pma_nil)) (blkOk_by (N := N_must_begin) (sc := defScope s_must_begin) (by decide +kernel)) sc_must_begin.nd (fun _ _ _ _ _ => (pmg_name 7 sc_must_begin.nd)) (fun _ _ _ _ _ => pmts_nil) (fun _ _ _ _ _ => (pm_sortSet T.z_sorted T.z_set (pm_lc [("one", 9)] (pmi_seq (pm_var 2)) (by exact blkOk_by (by kernel_rfl)) sc_must_begin.nd (fun _ _ _ _ _ => (pmg_name 9 sc_must_begin.nd)) (fun _ _ _ _ _ => pmts_nil) (fun _ _ _ _ _ => (pm_ix ix_seq od_ix (pm_ix ix_seq od_ix (pm_var 9) (pm_var 4)) (pm_var 7)))))))
  (pms_one (pms_app 3 (pm_callTy call_tuple_of cd_tuple T.z_tuple (pma_cons (pm_lc [("lines", 8)] (pmi_seq (pm_var 5)) (blkOk_by (N := N_must_begin) (sc := defScope s_must_begin) (by decide +kernel)) sc_must_begin.nd (fun _ _ _ _ _ => (pmg_name 8 sc_must_begin.nd)) (fun _ _ _ _ _ => pmts_nil) (fun _ _ _ _ _ => (pm_if (pmt_cmp (op_eqD hr.units) od_eq (pm_callB call_len cd_len T.z_len (pma_cons (pm_var 8) pma_nil)) pm_int) (pm_ix ix_seq od_ix (pm_var 8) pm_int) pm_non))) pma_nil))))))
  (pms_one (pms_ret (pm_brw false (pm_callTy call_tuple_of cd_tuple T.z_tuple (pma_cons (pm_var 3) pma_nil)))))))))))
abbrev N_law_drawn : List Str := ["cell", "k", "more"]
theorem sc_law_drawn : FnScope N_law_drawn ["cell", "k"] (defScope s_law_drawn) := ⟨rfl, rfl, rfl, by decide +kernel, rfl, by decide +kernel, by decide +kernel⟩
theorem ok_law_drawn {P : Program} {w : World} {K : PySem.W.Frag} {mg : Str → Option Value} {base : Heap} (T : Tx K mg) : FnD P w K mg base 1 "_law_drawn" ["cell", "k"] m_law_drawn := by
  obtain ⟨fd, D⟩ := T.f_law_drawn
  exact fn_mk D T.g_law_drawn sc_law_drawn (fun _ _ _ _ _ _ us hl => match us, hl with | [_, _], _ => rfl) (by decide) fun cdv A outer s H V E hr => (pms_cons (pms_set 2 (pm_op op_mod od_mod (pm_op op_addD od_add (pm_op op_mulD od_mul (pm_var 0) pm_int) (pm_op op_mulD od_mul (pm_op op_addD od_add (pm_var 1) pm_int) pm_int)) pm_int) sc_law_drawn.nd)
  (pms_cons (pms_set 2 (pm_op op_mod od_mod (pm_op op_mulD od_mul (pm_var 2) (pm_var 2)) pm_int) sc_law_drawn.nd)
  (pms_cons (pms_set 2 (pm_op op_mulD od_mul (pm_op op_mulD od_mul (pm_op op_addD od_add (pm_op op_mod od_mod (pm_var 2) pm_int) pm_int) (pm_op op_addD od_add (pm_op op_fdivW od_div (pm_var 2) pm_int) pm_int)) (pm_var 2)) sc_law_drawn.nd)
  (pms_one (pms_ret (pm_op op_mod od_mod (pm_var 2) pm_int))))))
abbrev N_law_roll : List Str := ["dice", "many", "told"]
theorem sc_law_roll : FnScope N_law_roll ["dice", "many"] (defScope s_law_roll) := ⟨rfl, rfl, rfl, by decide +kernel, rfl, by decide +kernel, by decide +kernel⟩
theorem ok_law_roll {P : Program} {w : World} {K : PySem.W.Frag} {mg : Str → Option Value} {base : Heap} (T : Tx K mg) : FnL P w K mg base 2 "_law_roll" ["dice", "many"] m_law_roll := by
  obtain ⟨fd, D⟩ := T.f_law_roll
  exact fn_mkL D T.g_law_roll sc_law_roll (fun _ _ _ _ _ _ us hl => match us, hl with | [_, _], _ => rfl) (by decide) (by decide) fun cdv A outer s H V a E hr => (pms_cons (pms_if (pmt_cmp op_ge od_ge (pm_ixO 0 pm_int) (pm_op op_pow od_pow pm_int pm_int)) (pms_cons (pms_set 2 (pm_op op_mod od_mod (pm_ixO 0 pm_int) (pm_var 1)) sc_law_roll.nd)
  (pms_cons (pms_six 0 (pm_op op_fdivW od_div (pm_ixO 0 pm_int) (pm_var 1)) pm_int)
  (pms_one (pms_ret (pm_var 2))))) pms_nil)
  (pms_cons (pms_six 0 (pm_op op_addD od_add (pm_ixO 0 pm_int) pm_int) pm_int)
  (pms_one (pms_ret (pm_op op_mod od_mod (pm_op op_fdivW od_div (pm_call (ok_law_drawn T) (hr.mono (by decide)) tk_fn (pma_cons (pm_ixO 0 pm_int) (pma_cons (pm_ixO 0 pm_int) pma_nil))) pm_int) (pm_var 1))))))
abbrev N_law_term : List Str := ["e", "flags", "kinds", "flag"]
theorem sc_law_term : FnScope N_law_term ["e"] (defScope s_law_term) := ⟨rfl, rfl, rfl, by decide +kernel, rfl, by decide +kernel, by decide +kernel⟩
theorem ok_law_term {P : Program} {w : World} {K : PySem.W.Frag} {mg : Str → Option Value} (T : Tx K mg) (EX : HD.ExcT K) : ∃ fd, (∀ (base : Heap) (CX : CXT) (k : Nat), HD.FnHP P w K mg base CX (k + 1) (He.ga K "_law_term") fd ["e"] (HD.spTerm ⟨K, w⟩ (· ∈ HD.excs))) ∧ L2.Binds K fd ["e"] [] ∧ PySem.W.keepIn K (.ref (He.ga K "_law_term")) = true := by
  obtain ⟨fd, D⟩ := T.f_law_term
  refine ⟨fd, fun base CX k => HD.term_mk D sc_law_term rfl (fun c cdv A outer s H V E p hc hz hf hot hr => (pms_cons (pms_set 1 (pm_lst (pma_cons (HD.pm_isC List.mem_cons_self (EX.c c hc) hz hf rfl T.z_isinstance T.x_BadChoir.g (EX.k c hc "BadChoir" (by decide))) (pma_cons (HD.pm_isC List.mem_cons_self (EX.c c hc) hz hf rfl T.z_isinstance T.x_BadName.g (EX.k c hc "BadName" (by decide))) (pma_cons (HD.pm_isC List.mem_cons_self (EX.c c hc) hz hf rfl T.z_isinstance T.x_BadStanding.g (EX.k c hc "BadStanding" (by decide))) (pma_cons (HD.pm_isC List.mem_cons_self (EX.c c hc) hz hf rfl T.z_isinstance T.x_BadNumber.g (EX.k c hc "BadNumber" (by decide))) pma_nil))))) sc_law_term.nd)
  (pms_cons (pms_set 1 (pm_op op_addD od_add (pm_var 1) (pm_lst (pma_cons (HD.pm_isC List.mem_cons_self (EX.c c hc) hz hf rfl T.z_isinstance T.x_BadRows.g (EX.k c hc "BadRows" (by decide))) (pma_cons (HD.pm_isC List.mem_cons_self (EX.c c hc) hz hf rfl T.z_isinstance T.x_BadLead.g (EX.k c hc "BadLead" (by decide))) (pma_cons (HD.pm_isC List.mem_cons_self (EX.c c hc) hz hf rfl T.z_isinstance T.x_BadWish.g (EX.k c hc "BadWish" (by decide))) pma_nil))))) sc_law_term.nd)
  (pms_cons (pms_set 1 (pm_op op_addD od_add (pm_var 1) (pm_lst (pma_cons (HD.pm_isC List.mem_cons_self (EX.c c hc) hz hf rfl T.z_isinstance T.k_Clash (EX.k c hc "Clash" (by decide))) (pma_cons (HD.pm_isC List.mem_cons_self (EX.c c hc) hz hf rfl T.z_isinstance T.x_Nothing.g (EX.k c hc "Nothing" (by decide))) (pma_cons (HD.pm_isC List.mem_cons_self (EX.c c hc) hz hf rfl T.z_isinstance T.x_Full.g (EX.k c hc "Full" (by decide))) (pma_cons (HD.pm_isC List.mem_cons_self (EX.c c hc) hz hf rfl T.z_isinstance T.x_BadText.g (EX.k c hc "BadText" (by decide))) pma_nil)))))) sc_law_term.nd)
  (pms_cons (pms_set 2 (pm_lst (pma_cons pm_str (pma_cons pm_str (pma_cons pm_str (pma_cons pm_str (pma_cons pm_str (pma_cons pm_str (pma_cons pm_str pma_nil)))))))) sc_law_term.nd)
  (pms_cons (pms_set 2 (pm_op op_addD od_add (pm_var 2) (pm_lst (pma_cons pm_str (pma_cons pm_str (pma_cons pm_str (pma_cons pm_str pma_nil)))))) sc_law_term.nd)
  (pms_cons (pms_if (pmt_w (pmw_or (pmt_cmp (op_neD hr.units) od_ne (pm_callB (HD.cr_sumH ⟨p, hot, List.mem_cons_self⟩) cd_sum T.z_sum (pma_cons (HD.pm_ints 3 hot List.mem_cons_self T.z_int sc_law_term.nd (pm_var 1) (blkOk_by (N := N_law_term) (sc := defScope s_law_term) (by decide +kernel))) pma_nil)) pm_int) (pmw_or1 (pmt_not (pmt_val (HD.pm_isB (c := "ValueError") (t := "") List.mem_cons_self (EX.c c hc) hz hf rfl T.z_isinstance T.z_ValueError (by decide +kernel) (EX.v c hc))))))) (pms_one (pms_ret (pm_tup (pma_cons pm_str (pma_cons pm_str pma_nil))))) pms_nil)
  (pms_one (pms_ret (pm_tup (pma_cons pm_str (pma_cons (pm_ix ix_seq od_ix (pm_var 2) (pm_index (HD.u65H hr) (pm_var 1) (pma_cons pm_bl pma_nil))) pma_nil)))))))))))) v_law_term, D.bindsN (fun _ _ _ _ _ _ us hl => match us, hl with | [_], _ => rfl), D.kp⟩
theorem sc_law_told : FnScope ["deed", "e"] ["deed"] (defScope s_law_told) := ⟨rfl, rfl, rfl, by decide +kernel, rfl, by decide +kernel, by decide +kernel⟩
theorem pm_told_law {X : Cx} {F : Fr} {x : Str} {params : Arguments} {body : Expr} {scope : Scope} {fb : M PyData} {k : Nat} {c Pt : Addr} {p lpos pos : Pos} (T : Tx X.K X.mg) (EX : HD.ExcT X.K)
    (LA : HD.LamAt X.K X.mg X.base x X.env.code c Pt) (hq : X.env.qual = x ++ ".<locals>.") (hr : Room (k + 2) X.A) (L : LamX.LamS X.env.scope scope)
    (hb : ∀ (A : Around) (outer : List Env) (s : Shared) (H : Hp) (E : XK) (f c' : Addr) (H' V : Hp), Room k (A.deeper (LamX.lamEnv X scope s.heap.objs.size f c')) → PM (HD.lamN X A outer s H E scope f c') (mkF H' V E) body fb)
    (hg : Gl X "_law_told" := by rfl) (hdef : defaultsOf params X.env = ([], []) := by rfl)
    (hbind : ∀ (q : Str) (cl : List (Str × Addr)) (pm cv ctv : Value), bindArgs (PySem.W.kla_fn "<lambda>" q params body scope cl pm cv ctv) ⟨[], []⟩ = pure [] := by intros; rfl) :
    PM X F (.Call (.Name "_law_told" p) [.Lambda params body scope lpos] [] pos) (HD.toldM fb) := by
  obtain ⟨fdt, D⟩ := T.f_law_told
  obtain ⟨ft, F1, F2, F3⟩ := ok_law_term (P := X.prog) (w := X.w) T EX
  exact HD.pm_told D T.g_law_told (fun _ _ _ _ _ _ us hl => match us, hl with | [_], _ => rfl) sc_law_told (Or.inl rfl) (fun cdv => HD.told_N (fun k => F1 X.base C8.CX0 k) F2 F3 T.g_law_term rfl rfl rfl rfl T.k_Clash T.x_SongError.g EX.m) LA hq hr L hb hg hdef hbind
abbrev N_law_any_singers : List Str := ["dice", "many", "crew", "found", "name", "ears", "turn", "size", "ear", "place"]
theorem sc_law_any_singers : FnScope N_law_any_singers ["dice", "many", "crew"] (defScope s_law_any_singers) := ⟨rfl, rfl, rfl, by decide +kernel, rfl, by decide +kernel, by decide +kernel⟩
theorem ok_law_any_singers {P : Program} {w : World} {K : PySem.W.Frag} {mg : Str → Option Value} {base : Heap} (T : Tx K mg) : FnL P w K mg base 3 "_law_any_singers" ["dice", "many", "crew"] m_law_any_singers := by
  obtain ⟨fd, D⟩ := T.f_law_any_singers
  exact fn_mkL D T.g_law_any_singers sc_law_any_singers (fun _ _ _ _ _ _ us hl => match us, hl with | [_, _, _], _ => rfl) (by decide) (by decide) fun cdv A outer s H V a E hr => (pms_cons (pms_own 3 pma_nil sc_law_any_singers.nd)
  (pms_cons (pms_for (passes_of rfl) (pmi_seq (pm_var 2)) (pmg_name 4 sc_law_any_singers.nd)
  (pms_cons (pms_own 5 pma_nil sc_law_any_singers.nd)
  (pms_cons (pms_for (passes_of rfl) (pmi_range1 T.z_range (pma_cons (pm_callL 0 (ok_law_roll T) (hr.mono (by decide)) tk_fn (pma_cons pm_int pma_nil)) pma_nil)) (pmg_name 6 sc_law_any_singers.nd)
  (pms_cons (pms_set 8 (pm_tup (pma_cons (pm_ix ix_seq od_ix (pm_var 2) (pm_callL 0 (ok_law_roll T) (hr.mono (by decide)) tk_fn (pma_cons (pm_callB call_len cd_len T.z_len (pma_cons (pm_var 2) pma_nil)) pma_nil))) (pma_cons (pm_op op_addD od_add pm_int (pm_callL 0 (ok_law_roll T) (hr.mono (by decide)) tk_fn (pma_cons pm_int pma_nil))) pma_nil))) sc_law_any_singers.nd)
  (pms_one (pms_if (pmt_brw true (pmt_cmp (op_notInAll (u65 hr)) od_notIn (pm_var 8) (pm_var 5))) (pms_one (pms_app 5 (pm_var 8))) pms_nil))))
  (pms_cons (pms_set 7 (pm_ix ix_seq od_ix (pm_lst (pma_cons pm_int (pma_cons (pm_var 1) (pma_cons (pm_op op_mulD od_mul (pm_var 1) (pm_var 1)) pma_nil)))) (pm_brw true (pm_callB call_len cd_len T.z_len (pma_cons (pm_var 5) pma_nil)))) sc_law_any_singers.nd)
  (pms_one (pms_app 3 (pm_tup (pma_cons (pm_var 4) (pma_cons (pm_brw true (pm_callTy call_tuple_of cd_tuple T.z_tuple (pma_cons (pm_callB cr_sortAll cd_sorted T.z_sorted (pma_cons (pm_var 5) pma_nil)) pma_nil))) (pma_cons (pm_callTy call_tuple_of cd_tuple T.z_tuple (pma_cons (pm_lc [("place", 9)] (pmi_range1 T.z_range (pma_cons (pm_var 7) pma_nil)) (blkOk_by (N := N_law_any_singers) (sc := defScope s_law_any_singers) (by decide +kernel)) sc_law_any_singers.nd (fun _ _ _ _ _ => (pmg_name 9 sc_law_any_singers.nd)) (fun _ _ _ _ _ => pmts_nil) (fun _ _ _ _ _ => (pm_callL 0 (ok_law_roll T) (hr.mono (by decide)) tk_nox (pma_cons (pm_var 1) pma_nil)))) pma_nil)) pma_nil))))))))))
  (pms_one (pms_ret (pm_brw true (pm_callTy call_tuple_of cd_tuple T.z_tuple (pma_cons (pm_var 3) pma_nil)))))))
abbrev N_law_any_choir : List Str := ["dice", "act", "many", "size"]
theorem sc_law_any_choir : FnScope N_law_any_choir ["dice"] (defScope s_law_any_choir) := ⟨rfl, rfl, rfl, by decide +kernel, rfl, by decide +kernel, by decide +kernel⟩
theorem ok_law_any_choir {P : Program} {w : World} {K : PySem.W.Frag} {mg : Str → Option Value} {base : Heap} (T : Tx K mg) : FnL P w K mg base 4 "_law_any_choir" ["dice"] m_law_any_choir := by
  obtain ⟨fd, D⟩ := T.f_law_any_choir
  exact fn_mkL D T.g_law_any_choir sc_law_any_choir (fun _ _ _ _ _ _ us hl => match us, hl with | [_], _ => rfl) (by decide) (by decide) fun cdv A outer s H V a E hr => (pms_cons (pms_set 1 (pm_callL 0 (ok_law_roll T) (hr.mono (by decide)) tk_fn (pma_cons pm_int pma_nil)) sc_law_any_choir.nd)
  (pms_cons (pms_asg (pm_ix ix_seq od_ix (pm_lst (pma_cons (pm_tup (pma_cons pm_int (pma_cons pm_int pma_nil))) (pma_cons (pm_tup (pma_cons pm_int (pma_cons pm_int pma_nil))) (pma_cons (pm_tup (pma_cons pm_int (pma_cons pm_int pma_nil))) (pma_cons (pm_tup (pma_cons pm_int (pma_cons pm_int pma_nil))) (pma_cons (pm_tup (pma_cons pm_int (pma_cons pm_int pma_nil))) (pma_cons (pm_tup (pma_cons pm_int (pma_cons pm_int pma_nil))) pma_nil))))))) (pm_var 1)) (pmg_tup (pmgs_cons (pmg_name 2 sc_law_any_choir.nd) (pmgs_cons (pmg_name 3 sc_law_any_choir.nd) pmgs_nil)) (gsC_len (gsC_len (fun _ _ _ h => gsN_len h)))))
  (pms_one (pms_ret (pm_tup (pma_cons (pm_var 2) (pma_cons (pm_callL 0 (ok_law_any_singers T) (hr.mono (by decide)) tk_fn (pma_cons (pm_var 2) (pma_cons (pm_slice (pm_lst (pma_cons pm_str (pma_cons pm_str (pma_cons pm_str pma_nil)))) pmo_none (pmo_some (pm_var 3))) pma_nil))) pma_nil)))))))
abbrev N_law_any_standing : List Str := ["dice", "choir", "found", "singer", "turn"]
theorem sc_law_any_standing : FnScope N_law_any_standing ["dice", "choir"] (defScope s_law_any_standing) := ⟨rfl, rfl, rfl, by decide +kernel, rfl, by decide +kernel, by decide +kernel⟩
theorem ok_law_any_standing {P : Program} {w : World} {K : PySem.W.Frag} {mg : Str → Option Value} {base : Heap} (T : Tx K mg) : FnL P w K mg base 3 "_law_any_standing" ["dice", "choir"] m_law_any_standing := by
  obtain ⟨fd, D⟩ := T.f_law_any_standing
  exact fn_mkL D T.g_law_any_standing sc_law_any_standing (fun _ _ _ _ _ _ us hl => match us, hl with | [_, _], _ => rfl) (by decide) (by decide) fun cdv A outer s H V a E hr => (pms_cons (pms_own 2 pma_nil sc_law_any_standing.nd)
  (pms_cons (pms_for (passes_of rfl) (pmi_seq (pm_ix ix_seq od_ix (pm_var 1) pm_int)) (pmg_name 3 sc_law_any_standing.nd)
  (pms_one (pms_app 2 (pm_callTy call_tuple_of cd_tuple T.z_tuple (pma_cons (pm_lc [("turn", 4)] (pmi_range1 T.z_range (pma_cons pm_int pma_nil)) (blkOk_by (N := N_law_any_standing) (sc := defScope s_law_any_standing) (by decide +kernel)) sc_law_any_standing.nd (fun _ _ _ _ _ => (pmg_name 4 sc_law_any_standing.nd)) (fun _ _ _ _ _ => pmts_nil) (fun _ _ _ _ _ => (pm_callL 0 (ok_law_roll T) (hr.mono (by decide)) tk_nox (pma_cons (pm_ix ix_seq od_ix (pm_var 1) pm_int) pma_nil)))) pma_nil)))))
  (pms_one (pms_ret (pm_brw true (pm_callTy call_tuple_of cd_tuple T.z_tuple (pma_cons (pm_var 2) pma_nil)))))))
abbrev N_law_crew : List Str := ["choir", "singer"]
theorem sc_law_crew : FnScope N_law_crew ["choir"] (defScope s_law_crew) := ⟨rfl, rfl, rfl, by decide +kernel, rfl, by decide +kernel, by decide +kernel⟩
theorem ok_law_crew {P : Program} {w : World} {K : PySem.W.Frag} {mg : Str → Option Value} {base : Heap} (T : Tx K mg) : FnD P w K mg base 1 "_law_crew" ["choir"] m_law_crew := by
  obtain ⟨fd, D⟩ := T.f_law_crew
  exact fn_mk D T.g_law_crew sc_law_crew (fun _ _ _ _ _ _ us hl => match us, hl with | [_], _ => rfl) (by decide) fun cdv A outer s H V E hr => (pms_one (pms_ret (pm_lc [("singer", 1)] (pmi_seq (pm_ix ix_seq od_ix (pm_var 0) pm_int)) (blkOk_by (N := N_law_crew) (sc := defScope s_law_crew) (by decide +kernel)) sc_law_crew.nd (fun _ _ _ _ _ => (pmg_name 1 sc_law_crew.nd)) (fun _ _ _ _ _ => pmts_nil) (fun _ _ _ _ _ => (pm_ix ix_seq od_ix (pm_var 1) pm_int)))))
abbrev N_law_heard : List Str := ["choir", "history", "ears", "beat", "crew", "name", "ago"]
theorem sc_law_heard : FnScope N_law_heard ["choir", "history", "ears", "beat"] (defScope s_law_heard) := ⟨rfl, rfl, rfl, by decide +kernel, rfl, by decide +kernel, by decide +kernel⟩
theorem ok_law_heard {P : Program} {w : World} {K : PySem.W.Frag} {mg : Str → Option Value} {base : Heap} (T : Tx K mg) : FnD P w K mg base 2 "_law_heard" ["choir", "history", "ears", "beat"] m_law_heard := by
  obtain ⟨fd, D⟩ := T.f_law_heard
  exact fn_mk D T.g_law_heard sc_law_heard (fun _ _ _ _ _ _ us hl => match us, hl with | [_, _, _, _], _ => rfl) (by decide) fun cdv A outer s H V E hr => (pms_cons (pms_set 4 (pm_call (ok_law_crew T) (hr.mono (by decide)) tk_fn (pma_cons (pm_var 0) pma_nil)) sc_law_heard.nd)
  (pms_one (pms_ret (pm_lc [("name", 5), ("ago", 6)] (pmi_seq (pm_var 2)) (blkOk_by (N := N_law_heard) (sc := defScope s_law_heard) (by decide +kernel)) sc_law_heard.nd (fun _ _ _ _ _ => (pmg_tup (pmgs_cons (pmg_name 5 sc_law_heard.nd) (pmgs_cons (pmg_name 6 sc_law_heard.nd) pmgs_nil)) (gsC_len (gsC_len (fun _ _ _ h => gsN_len h))))) (fun _ _ _ _ _ => pmts_nil) (fun _ _ _ _ _ => (pm_ix ix_seq od_ix (pm_ix ix_seq od_ix (pm_var 1) (pm_op op_sub od_sub (pm_op op_addD od_add (pm_var 3) pm_int) (pm_var 6))) (pm_index (u65 hr) (pm_var 4) (pma_cons (pm_var 5) pma_nil))))))))
abbrev N_law_history : List Str := ["standing", "at", "row"]
theorem sc_law_history : FnScope N_law_history ["standing"] (defScope s_law_history) := ⟨rfl, rfl, rfl, by decide +kernel, rfl, by decide +kernel, by decide +kernel⟩
theorem okf_law_history {P : Program} {w : World} {K : PySem.W.Frag} {mg : Str → Option Value} {base : Heap} (T : Tx K mg) : FnF P w K mg base 1 "_law_history" ["standing"] m_law_history := by
  obtain ⟨fd, D⟩ := T.f_law_history
  exact fn_mkF D T.g_law_history sc_law_history (fun _ _ _ _ _ _ us hl => match us, hl with | [_], _ => rfl) (by decide) fun cdv A outer s H V E hr => (pms_one (pms_retF (pmf_lc [("at", 1)] (pmi_range1 T.z_range (pma_cons pm_int pma_nil)) (blkOk_by (N := N_law_history) (sc := defScope s_law_history) (by decide +kernel)) sc_law_history.nd (fun _ _ _ _ _ => (pmg_name 1 sc_law_history.nd)) (fun _ _ _ _ _ => pmts_nil) (fun _ _ _ _ _ => (pm_callTy call_tuple_of cd_tuple T.z_tuple (pma_cons (pm_lc [("row", 2)] (pmi_seq (pm_var 0)) (by exact blkOk_by (by kernel_rfl)) sc_law_history.nd (fun _ _ _ _ _ => (pmg_name 2 sc_law_history.nd)) (fun _ _ _ _ _ => pmts_nil) (fun _ _ _ _ _ => (pm_ix ix_seq od_ix (pm_var 2) (pm_var 1)))) pma_nil))))))
abbrev N_law_tells : List Str := ["choir", "singer", "history", "beat", "place", "line"]
theorem sc_law_tells : FnScope N_law_tells ["choir", "singer", "history", "beat"] (defScope s_law_tells) := ⟨rfl, rfl, rfl, by decide +kernel, rfl, by decide +kernel, by decide +kernel⟩
theorem ok_law_tells {P : Program} {w : World} {K : PySem.W.Frag} {mg : Str → Option Value} {base : Heap} (T : Tx K mg) : FnD P w K mg base 3 "_law_tells" ["choir", "singer", "history", "beat"] m_law_tells := by
  obtain ⟨fd, D⟩ := T.f_law_tells
  exact fn_mk D T.g_law_tells sc_law_tells (fun _ _ _ _ _ _ us hl => match us, hl with | [_, _, _, _], _ => rfl) (by decide) fun cdv A outer s H V E hr => (pms_cons (pms_set 4 pm_int sc_law_tells.nd)
  (pms_cons (pms_for (passes_of rfl) (pmi_seq (pm_call (ok_law_heard T) (hr.mono (by decide)) tk_fn (pma_cons (pm_var 0) (pma_cons (pm_var 2) (pma_cons (pm_ix ix_seq od_ix (pm_var 1) pm_int) (pma_cons (pm_var 3) pma_nil)))))) (pmg_name 5 sc_law_tells.nd)
  (pms_one (pms_set 4 (pm_op op_addD od_add (pm_op op_mulD od_mul (pm_var 4) (pm_ix ix_seq od_ix (pm_var 0) pm_int)) (pm_var 5)) sc_law_tells.nd)))
  (pms_one (pms_ret (pm_ix ix_seq od_ix (pm_ix ix_seq od_ix (pm_var 1) pm_int) (pm_var 4))))))
abbrev N_law_sung : List Str := ["choir", "standing", "leads", "beats", "history", "beat", "row", "singer", "own"]
theorem sc_law_sung : FnScope N_law_sung ["choir", "standing", "leads", "beats"] (defScope s_law_sung) := ⟨rfl, rfl, rfl, by decide +kernel, rfl, by decide +kernel, by decide +kernel⟩
theorem okf_law_sung {P : Program} {w : World} {K : PySem.W.Frag} {mg : Str → Option Value} {base : Heap} (T : Tx K mg) : FnF P w K mg base 4 "_law_sung" ["choir", "standing", "leads", "beats"] m_law_sung := by
  obtain ⟨fd, D⟩ := T.f_law_sung
  exact fn_mkF D T.g_law_sung sc_law_sung (fun _ _ _ _ _ _ us hl => match us, hl with | [_, _, _, _], _ => rfl) (by decide) fun cdv A outer s H V E hr => (pms_cons (pms_ownF 4 (pmf_call (okf_law_history T) (hr.mono (by decide)) tk_fn (pma_cons (pm_var 1) pma_nil)) sc_law_sung.nd)
  (pms_cons (pms_for (passes_of rfl) (pmi_range1 T.z_range (pma_cons (pm_var 3) pma_nil)) (pmg_name 5 sc_law_sung.nd)
  (pms_cons (pms_own 6 pma_nil sc_law_sung.nd)
  (pms_cons (pms_for (passes_of rfl) (pmi_seq (pm_ix ix_seq od_ix (pm_var 0) pm_int)) (pmg_name 7 sc_law_sung.nd)
  (pms_cons (pms_set 8 (pm_dget1 hr.units (pm_var 2) (pm_tup (pma_cons (pm_var 5) (pma_cons (pm_ix ix_seq od_ix (pm_var 7) pm_int) pma_nil)))) sc_law_sung.nd)
  (pms_one (pms_app 6 (pm_if (pmt_cmp op_isD od_is (pm_var 8) pm_non) (pm_brw false (pm_call (ok_law_tells T) (hr.mono (by decide)) tk_fn (pma_cons (pm_var 0) (pma_cons (pm_var 7) (pma_cons (pm_var 4) (pma_cons (pm_var 5) pma_nil)))))) (pm_var 8))))))
  (pms_one (pms_app 4 (pm_brw false (pm_callTy call_tuple_of cd_tuple T.z_tuple (pma_cons (pm_var 6) pma_nil))))))))
  (pms_one (pms_dem false (pms_retF (pmf_slice (pm_var 4) (pmo_some pm_int) pmo_none))))))
theorem ok_law_sung {P : Program} {w : World} {K : PySem.W.Frag} {mg : Str → Option Value} {base : Heap} (T : Tx K mg) : FnD P w K mg base 4 "_law_sung" ["choir", "standing", "leads", "beats"] m_law_sung := (okf_law_sung T).fnD
abbrev N_law_all_tuples : List Str := ["many", "size", "found", "turn", "longer", "one", "line"]
theorem sc_law_all_tuples : FnScope N_law_all_tuples ["many", "size"] (defScope s_law_all_tuples) := ⟨rfl, rfl, rfl, by decide +kernel, rfl, by decide +kernel, by decide +kernel⟩
theorem ok_law_all_tuples {P : Program} {w : World} {K : PySem.W.Frag} {mg : Str → Option Value} {base : Heap} (T : Tx K mg) : FnD P w K mg base 1 "_law_all_tuples" ["many", "size"] m_law_all_tuples := by
  obtain ⟨fd, D⟩ := T.f_law_all_tuples
  exact fn_mk D T.g_law_all_tuples sc_law_all_tuples (fun _ _ _ _ _ _ us hl => match us, hl with | [_, _], _ => rfl) (by decide) fun cdv A outer s H V E hr => (pms_cons (pms_set 2 (pm_lst (pma_cons (pm_tup pma_nil) pma_nil)) sc_law_all_tuples.nd)
  (pms_cons (pms_for (passes_of rfl) (pmi_range1 T.z_range (pma_cons (pm_var 1) pma_nil)) (pmg_name 3 sc_law_all_tuples.nd)
  (pms_cons (pms_set 4 (pm_lst pma_nil) sc_law_all_tuples.nd)
  (pms_cons (pms_for (passes_of rfl) (pmi_seq (pm_var 2)) (pmg_name 5 sc_law_all_tuples.nd)
  (pms_one (pms_set 4 (pm_op op_addD od_add (pm_var 4) (pm_lc [("line", 6)] (pmi_range1 T.z_range (pma_cons (pm_var 0) pma_nil)) (blkOk_by (N := N_law_all_tuples) (sc := defScope s_law_all_tuples) (by decide +kernel)) sc_law_all_tuples.nd (fun _ _ _ _ _ => (pmg_name 6 sc_law_all_tuples.nd)) (fun _ _ _ _ _ => pmts_nil) (fun _ _ _ _ _ => (pm_op op_addD od_add (pm_var 5) (pm_tup (pma_cons (pm_var 6) pma_nil)))))) sc_law_all_tuples.nd)))
  (pms_one (pms_set 2 (pm_var 4) sc_law_all_tuples.nd)))))
  (pms_one (pms_ret (pm_var 2)))))
abbrev N_law_asked_spots : List Str := ["choir", "beats", "crew", "found", "name", "ears", "table", "who", "ago", "beat"]
theorem sc_law_asked_spots : FnScope N_law_asked_spots ["choir", "beats"] (defScope s_law_asked_spots) := ⟨rfl, rfl, rfl, by decide +kernel, rfl, by decide +kernel, by decide +kernel⟩
theorem ok_law_asked_spots {P : Program} {w : World} {K : PySem.W.Frag} {mg : Str → Option Value} {base : Heap} (T : Tx K mg) : FnD P w K mg base 8 "_law_asked_spots" ["choir", "beats"] m_law_asked_spots := by
  obtain ⟨fd, D⟩ := T.f_law_asked_spots
  exact fn_mk D T.g_law_asked_spots sc_law_asked_spots (fun _ _ _ _ _ _ us hl => match us, hl with | [_, _], _ => rfl) (by decide) fun cdv A outer s H V E hr => (pms_cons (pms_asg (pm_tup (pma_cons (pm_call (ok_law_crew T) (hr.mono (by decide)) tk_fn (pma_cons (pm_var 0) pma_nil)) (pma_cons (pm_lst pma_nil) pma_nil))) (pmg_tup (pmgs_cons (pmg_name 2 sc_law_asked_spots.nd) (pmgs_cons (pmg_name 3 sc_law_asked_spots.nd) pmgs_nil)) (gsC_len (gsC_len (fun _ _ _ h => gsN_len h)))))
  (pms_cons (pms_for (passes_of rfl) (pmi_seq (pm_ix ix_seq od_ix (pm_call (ok_lean T) (hr.mono (by decide)) tk_fn (pma_cons (pm_var 0) pma_nil)) pm_int)) (pmg_tup (pmgs_cons (pmg_name 4 sc_law_asked_spots.nd) (pmgs_cons (pmg_name 5 sc_law_asked_spots.nd) (pmgs_cons (pmg_name 6 sc_law_asked_spots.nd) pmgs_nil))) (gsC_len (gsC_len (gsC_len (fun _ _ _ h => gsN_len h)))))
  (pms_one (pms_for (passes_of rfl) (pmi_seq (pm_var 5)) (pmg_tup (pmgs_cons (pmg_name 7 sc_law_asked_spots.nd) (pmgs_cons (pmg_name 8 sc_law_asked_spots.nd) pmgs_nil)) (gsC_len (gsC_len (fun _ _ _ h => gsN_len h))))
  (pms_one (pms_set 3 (pm_op op_addD od_add (pm_var 3) (pm_lc [("beat", 9)] (pmi_range1 T.z_range (pma_cons (pm_callB (call_min2 rfl) cd_min T.z_min (pma_cons (pm_var 8) (pma_cons (pm_var 1) pma_nil))) pma_nil)) (blkOk_by (N := N_law_asked_spots) (sc := defScope s_law_asked_spots) (by decide +kernel)) sc_law_asked_spots.nd (fun _ _ _ _ _ => (pmg_name 9 sc_law_asked_spots.nd)) (fun _ _ _ _ _ => pmts_nil) (fun _ _ _ _ _ => (pm_tup (pma_cons (pm_index (u65 hr) (pm_var 2) (pma_cons (pm_var 7) pma_nil)) (pma_cons (pm_op op_sub od_sub (pm_var 8) (pm_var 9)) pma_nil)))))) sc_law_asked_spots.nd)))))
  (pms_one (pms_ret (pm_var 3)))))
abbrev N_law_rows_refused : List Str := ["choir", "size", "many", "bad", "made"]
theorem sc_law_rows_refused : FnScope N_law_rows_refused ["choir", "size", "many"] (defScope s_law_rows_refused) := ⟨rfl, rfl, rfl, by decide +kernel, rfl, by decide +kernel, by decide +kernel⟩
theorem ok_law_rows_refused {P : Program} {w : World} {K : PySem.W.Frag} {mg : Str → Option Value} {base : Heap} (T : Tx K mg) (EX : HD.ExcT K) (LM : HD.LamKs K mg base lams) : FnD P w K mg base 10 "_law_rows_refused" ["choir", "size", "many"] m_law_rows_refused := by
  obtain ⟨fd, D⟩ := T.f_law_rows_refused
  exact HD.fn_mkC D T.g_law_rows_refused sc_law_rows_refused (fun _ _ _ _ _ _ us hl => match us, hl with | [_, _, _], _ => rfl) (by decide) (LM _ (by decide)) fun cdv c Pt A outer s H V E LA hr => (pms_cons (pms_for (passes_of rfl) (pmi_seq (pm_lst (pma_cons pm_non (pma_cons pm_int (pma_cons (pm_tup pma_nil) (pma_cons (pm_lst (pma_cons pm_non pma_nil)) (pma_cons (pm_lst (pma_cons (pm_op op_mulD od_mul (pm_tup (pma_cons pm_int pma_nil)) (pm_op op_addD od_add (pm_var 1) pm_int)) pma_nil)) (pma_cons (pm_lst (pma_cons (pm_op op_mulD od_mul (pm_tup (pma_cons (pm_var 2) pma_nil)) (pm_var 1)) pma_nil)) (pma_cons (pm_op op_mulD od_mul (pm_lst (pma_cons (pm_op op_mulD od_mul (pm_tup (pma_cons pm_int pma_nil)) (pm_var 1)) pma_nil)) pm_int) pma_nil))))))))) (pmg_name 3 sc_law_rows_refused.nd)
  (pms_cons (pms_own 4 (pma_cons (pm_told_law (k := 7) T EX LA rfl (hr.mono (by decide)) (LamX.lamS_by (sc := defScope s_law_rows_refused) (by decide +kernel)) (fun A outer s H E f c' H' V hr => (pm_call (ok_could_begin T) (hr.mono (by decide)) HD.tk_lam (pma_cons (pm_var 0) (pma_cons (pm_var 3) pma_nil))))) pma_nil) sc_law_rows_refused.nd)
  (pms_cons (pms_app 4 (pm_told_law (k := 7) T EX LA rfl (hr.mono (by decide)) (LamX.lamS_by (sc := defScope s_law_rows_refused) (by decide +kernel)) (fun A outer s H E f c' H' V hr => (pm_call (ok_must_begin T) (hr.mono (by decide)) HD.tk_lam (pma_cons (pm_var 0) (pma_cons (pm_var 3) pma_nil))))))
  (pms_one (pms_if (pmt_brw false (pmt_cmp (op_neD hr.units) od_ne (pm_var 4) (pm_op op_mulD od_mul (pm_lst (pma_cons (pm_tup (pma_cons pm_str (pma_cons pm_str pma_nil))) pma_nil)) pm_int))) (pms_one (pms_ret pm_bl)) pms_nil)))))
  (pms_one (pms_ret pm_bl)))
abbrev N_law_cell : List Str := ["script", "k"]
theorem sc_law_cell : FnScope N_law_cell ["script", "k"] (defScope s_law_cell) := ⟨rfl, rfl, rfl, by decide +kernel, rfl, by decide +kernel, by decide +kernel⟩
theorem ok_law_cell {P : Program} {w : World} {K : PySem.W.Frag} {mg : Str → Option Value} {base : Heap} (T : Tx K mg) : ∃ fd, FnOk P w K mg base (L2N.CX P w) 1 (He.ga K "_law_cell") fd ["script", "k"] (DL.spCell ⟨K, w⟩) ∧ Binds K fd ["script", "k"] [] ∧ PySem.W.keepIn K (.ref (He.ga K "_law_cell")) = true := by
  obtain ⟨fd, D⟩ := T.f_law_cell
  refine ⟨fd, D.ok (CX := L2N.CX P w) sc_law_cell (fun vs H Q E h => ?_) (fun cdv A outer s H vs Q E hr h => ⟨DL.t_cell ⟨K, w⟩, ?_, DL.pure_cell vs H Q E h⟩), D.bindsN (fun _ _ _ _ _ _ us hl => match us, hl with | [_, _], _ => rfl), D.kp⟩
  · obtain ⟨a, ns, k, rfl, _⟩ := h
    rfl
  · exact pss_cons (ps_if (pt_cmpR (op_eqD hr.units) (pv 0) (pe_lst pa_nil) (nomark _)) (pss_one (ps_ret (pe_op op_mul (pv 1) pe_int))) pss_nil)
      (pss_one (ps_ret (pe_op op_add (pe_ix ix_list (pv 0) (pe_op op_mod (pv 1) (pe_callB call_len rfl T.z_len (by decide +kernel) (pa_cons (pv 0) pa_nil))) (fun _ _ => rfl)) (pe_op op_mul (pe_op op_fdivW (pv 1) (pe_callB call_len rfl T.z_len (by decide +kernel) (pa_cons (pv 0) pa_nil))) pe_int))))
abbrev N_law_rounds : List Str := ["script", "high", "k"]
theorem sc_law_rounds : FnScope N_law_rounds ["script", "high"] (defScope s_law_rounds) := ⟨rfl, rfl, rfl, by decide +kernel, rfl, by decide +kernel, by decide +kernel⟩
theorem ok_law_rounds {P : Program} {w : World} {K : PySem.W.Frag} {mg : Str → Option Value} {base : Heap} (T : Tx K mg) : ∃ fd, FnOk P w K mg base (L2N.CX P w) 2 (He.ga K "_law_rounds") fd ["script", "high"] (DL.spRounds ⟨K, w⟩) ∧ Binds K fd ["script", "high"] [] ∧ PySem.W.keepIn K (.ref (He.ga K "_law_rounds")) = true := by
  obtain ⟨fd, D⟩ := T.f_law_rounds
  refine ⟨fd, D.ok (CX := L2N.CX P w) sc_law_rounds (fun vs H Q E h => ?_) (fun cdv A outer s H vs Q E hr h => ⟨DL.t_rounds ⟨K, w⟩ E, ?_, DL.pure_rounds vs H Q E h⟩), D.bindsN (fun _ _ _ _ _ _ us hl => match us, hl with | [_, _], _ => rfl), D.kp⟩
  · obtain ⟨a, ns, k, rfl, _⟩ := h
    rfl
  · obtain ⟨fc, G1, G2, G3⟩ := ok_law_cell (P := P) (w := w) (base := base) T
    exact pss_one (ps_ret (pe_lc (own := [("k", 2)]) rfl sc_law_rounds.nd
      (pi_range1 rfl T.z_range (pa_cons (pe_callB (call_max2 rfl) rfl T.z_max (by decide +kernel) (pa_cons pe_int (pa_cons (pe_callB (call_min2 rfl) rfl T.z_min (by decide +kernel) (pa_cons (pv 1) (pa_cons (pe_callB call_len rfl T.z_len (by decide +kernel) (pa_cons (pv 0) pa_nil)) pa_nil))) pa_nil))) pa_nil))
      (blkOk_by (N := N_law_rounds) (sc := defScope s_law_rounds) (by decide +kernel)) (fun _ _ _ _ _ => pg_name (i := 2) sc_law_rounds.nd rfl (Or.inl rfl)) (fun _ _ _ _ _ => pts_nil)
      (fun _ _ _ _ _ => pe_lst (pa_cons (pe_callS (k := 1) (E := fun _ _ _ _ => False) G1 (hr.mono (by decide)) rfl T.g_law_cell G3 G2 (fun σ => L2N.passAt takesN0 σ) (pa_cons (pv 0) (pa_cons (pv 2) pa_nil))) (pa_cons pe_int pa_nil)))))
abbrev N_law : List Str := ["script", "dice", "choir", "many", "size", "beats", "rows", "spots", "due", "lines", "standing", "idle", "at", "found", "row", "turn", "spot", "singer", "one", "some"]
theorem sc_law : FnScope N_law ["script"] (defScope s_law) := ⟨rfl, rfl, rfl, by decide +kernel, rfl, by decide +kernel, by decide +kernel⟩
theorem ok_law {P : Program} {w : World} {K : PySem.W.Frag} {mg : Str → Option Value} (T : Tx K mg) (EX : HD.ExcT K) (hb : ∀ c : Int, ∃ ρ', b_law (init law_n law_di c) = .nx ρ' ∧ ρ'.length = law_n) : ∃ fd, (∀ base : Heap, HD.LamKs K mg base lams → FnOk P w K mg base (L2N.CX P w) 11 (He.ga K "law") fd ["script"] (DL.spLaw ⟨K, w⟩)) ∧ ∀ (s : Shared) (v : Value), BindsTo s fd ⟨[v], []⟩ [("script", v)] := by
  obtain ⟨fd, D⟩ := T.f_law
  have hbb := fun s v => FunD.bindsA (ps := ["script"]) D (fun _ _ _ _ _ _ us hl => match us, hl with | [_], _ => rfl) s [v] rfl
  obtain ⟨oc, od, dV, kV, doc, pm, an, cdv, ct, osl, rfl, lk, hcd, _, _⟩ := D.ex
  refine ⟨_, fun base LM => fn_of (CX := L2N.CX P w) lk hcd sc_law (fun vs H Q E h => ?_) (fun A outer s H vs Q E hr h => ⟨DL.t_law ⟨K, w⟩ 3 1 b_law, ?_, DL.pure_law (N := N_law) (by decide) (by decide) (by decide) hb vs H Q E h (fun _ => rfl) (fun _ => rfl)⟩), hbb⟩
  · obtain ⟨_, a, ns, rfl, _⟩ := h
    rfl
  · obtain ⟨c, Pt, LA⟩ := LM "law" (by decide) _ _ _ _ lk
    obtain ⟨fr, G1, G2, G3⟩ := ok_law_rounds (P := P) (w := w) (base := base) T
    exact pss_cons (ps_for (passes_of rfl) rfl (pi_list (pe_callS (k := 2) (E := fun _ _ _ _ => False) G1 (hr.mono (by decide)) rfl T.g_law_rounds G3 G2 (fun σ => L2N.passAt takesN0 σ) (pa_cons (pv 0) (pa_cons pe_int pa_nil)))) (pg_name (i := 1) sc_law.nd rfl (by first | exact Or.inl rfl | exact Or.inr rfl))
      (pss_body fun H a => (pms_cons (pms_set 2 (pm_callL 1 (ok_law_any_choir T) (hr.mono (by decide)) tk_z pma_nil) sc_law.nd)
  (pms_cons (pms_if (pmt_cmp op_gt od_gt (pm_callB call_len cd_len T.z_len (pma_cons (pm_ix ix_seq od_ix (pm_var 2) pm_int) pma_nil)) pm_int) (pms_one (pms_set 2 (pm_tup (pma_cons pm_int (pma_cons (pm_callL 1 (ok_law_any_singers T) (hr.mono (by decide)) tk_z (pma_cons pm_int (pma_cons (pm_lst (pma_cons pm_str (pma_cons pm_str pma_nil))) pma_nil))) pma_nil))) sc_law.nd)) pms_nil)
  (pms_cons (pms_tup3 3 4 5 (pmx_sh (pm_ix ix_seq od_ix (pm_var 2) pm_int) (pmx_sh (pm_callB call_len cd_len T.z_len (pma_cons (pm_ix ix_seq od_ix (pm_var 2) pm_int) pma_nil)) (pmx_sh (pm_callL 1 (ok_law_roll T) (hr.mono (by decide)) tk_z (pma_cons pm_int pma_nil)) pmx_nil))) sc_law.nd)
  (pms_cons (pms_set 6 (pm_call (ok_law_sung T) (hr.mono (by decide)) tk_z (pma_cons (pm_var 2) (pma_cons (pm_callL 1 (ok_law_any_standing T) (hr.mono (by decide)) tk_z (pma_cons (pm_var 2) pma_nil)) (pma_cons pm_dnew (pma_cons (pm_var 5) pma_nil))))) sc_law.nd)
  (pms_cons (pms_if (pmt_cmp (op_eqD hr.units) od_eq (pm_callL 1 (ok_law_roll T) (hr.mono (by decide)) tk_z (pma_cons pm_int pma_nil)) pm_int) (pms_one (pms_set 6 (pm_lc [("turn", 15)] (pmi_range1 T.z_range (pma_cons (pm_var 5) pma_nil)) (blkOk_by (N := N_law) (sc := defScope s_law) (by decide +kernel)) sc_law.nd (fun _ _ _ _ _ => (pmg_name 15 sc_law.nd)) (fun _ _ _ _ _ => pmts_nil) (fun _ _ _ _ _ => (pm_callTy call_tuple_of cd_tuple T.z_tuple (pma_cons (pm_lc [("singer", 17)] (pmi_seq (pm_ix ix_seq od_ix (pm_var 2) pm_int)) (by exact blkOk_by (by kernel_rfl)) sc_law.nd (fun _ _ _ _ _ => (pmg_name 17 sc_law.nd)) (fun _ _ _ _ _ => pmts_nil) (fun _ _ _ _ _ => (pm_callL 1 (ok_law_roll T) (hr.mono (by decide)) tk_nox (pma_cons (pm_var 3) pma_nil)))) pma_nil)))) sc_law.nd)) pms_nil)
  (pms_cons (pms_tup2 7 8 (pmx_sh (pm_call (ok_law_asked_spots T) (hr.mono (by decide)) tk_z (pma_cons (pm_var 2) (pma_cons (pm_var 5) pma_nil))) (pmx_ow (pmf_lst pma_nil) pmx_nil)) sc_law.nd)
  (pms_cons (pms_for (passes_of rfl) (pmi_seq (pm_call (ok_law_all_tuples T) (hr.mono (by decide)) tk_z (pma_cons (pm_var 3) (pma_cons (pm_op op_mulD od_mul pm_int (pm_var 4)) pma_nil)))) (pmg_name 9 sc_law.nd)
  (pms_cons (pms_set 10 (pm_callTy call_tuple_of cd_tuple T.z_tuple (pma_cons (pm_lc [("at", 12)] (pmi_range1 T.z_range (pma_cons (pm_var 4) pma_nil)) (blkOk_by (N := N_law) (sc := defScope s_law) (by decide +kernel)) sc_law.nd (fun _ _ _ _ _ => (pmg_name 12 sc_law.nd)) (fun _ _ _ _ _ => pmts_nil) (fun _ _ _ _ _ => (pm_slice (pm_var 9) (pmo_some (pm_op op_mulD od_mul pm_int (pm_var 12))) (pmo_some (pm_op op_addD od_add (pm_op op_mulD od_mul pm_int (pm_var 12)) pm_int))))) pma_nil)) sc_law.nd)
  (pms_cons (pms_set 11 (pm_lst pma_nil) sc_law.nd)
  (pms_cons (pms_for (passes_of rfl) (pmi_range1 T.z_range (pma_cons (pm_var 4) pma_nil)) (pmg_name 12 sc_law.nd)
  (pms_one (pms_set 11 (pm_op op_addD od_add (pm_var 11) (pm_lc [("spot", 16)] (pmi_range1 T.z_range (pma_cons pm_int pma_nil)) (blkOk_by (N := N_law) (sc := defScope s_law) (by decide +kernel)) sc_law.nd (fun _ _ _ _ _ => (pmg_name 16 sc_law.nd)) (fun _ _ _ _ _ => (pmts_one (pmt_cmp op_gt od_gt (pm_ix ix_seq od_ix (pm_ix ix_seq od_ix (pm_var 10) (pm_var 12)) (pm_var 16)) pm_int))) (fun _ _ _ _ _ => (pm_tup (pma_cons (pm_var 12) (pma_cons (pm_op op_sub od_sub pm_int (pm_var 16)) pma_nil)))))) sc_law.nd)))
  (pms_one (pms_if (pmt_w (pmw_and (pmt_cmp (op_eqD hr.units) od_eq (pm_lc [("one", 18)] (pmi_seq (pm_var 11)) (blkOk_by (N := N_law) (sc := defScope s_law) (by decide +kernel)) sc_law.nd (fun _ _ _ _ _ => (pmg_name 18 sc_law.nd)) (fun _ _ _ _ _ => (pmts_one (pmt_cmp (op_notInAll (u65 hr)) od_notIn (pm_var 18) (pm_var 7)))) (fun _ _ _ _ _ => (pm_var 18))) (pm_lst pma_nil)) (pmw_and1 (pmt_cmp (op_eqD hr.units) od_eq (pm_call (ok_law_sung T) (hr.mono (by decide)) tk_z (pma_cons (pm_var 2) (pma_cons (pm_var 10) (pma_cons pm_dnew (pma_cons (pm_var 5) pma_nil))))) (pm_var 6))))) (pms_one (pms_app 8 (pm_var 10))) pms_nil))))))
  (pms_cons (pms_let 8 (pms_if (pmt_cmp op_gt od_gt (pm_callB call_len cd_len T.z_len (pma_cons (pm_var 8) pma_nil)) pm_int) (pms_one (pms_if (pmt_cmp (op_neD hr.units) od_ne (pm_told_law (k := 7) T EX LA rfl (hr.mono (by decide)) (LamX.lamS_by (sc := defScope s_law) (by decide +kernel)) (fun A outer s H E f c' H' V hr => (pm_call (ok_could_begin T) (hr.mono (by decide)) HD.tk_lam (pma_cons (pm_var 2) (pma_cons (pm_var 6) pma_nil))))) (pm_tup (pma_cons pm_str (pma_cons pm_str pma_nil)))) (pms_one (pms_ret pm_bl)) pms_nil)) (pms_one (pms_if (pmt_cmp (op_neD hr.units) od_ne (pm_call (ok_could_begin T) (hr.mono (by decide)) tk_z (pma_cons (pm_var 2) (pma_cons (pm_var 6) pma_nil))) (pm_var 8)) (pms_one (pms_ret pm_bl)) pms_nil))))
  (pms_cons (pms_let 8 (pms_if (pmt_w (pmw_and (pmt_cmp (op_eqD hr.units) od_eq (pm_var 8) (pm_lst pma_nil)) (pmw_and1 (pmt_cmp (op_neD hr.units) od_ne (pm_told_law (k := 7) T EX LA rfl (hr.mono (by decide)) (LamX.lamS_by (sc := defScope s_law) (by decide +kernel)) (fun A outer s H E f c' H' V hr => (pm_call (ok_must_begin T) (hr.mono (by decide)) HD.tk_lam (pma_cons (pm_var 2) (pma_cons (pm_var 6) pma_nil))))) (pm_tup (pma_cons pm_str (pma_cons pm_str pma_nil))))))) (pms_one (pms_ret pm_bl)) pms_nil))
  (pms_cons (pms_if (pmt_chain (op_ltAll hr.units0) od_lt (op_ltAll hr.units0) od_lt pm_int (pm_brw false (pm_callB call_len cd_len T.z_len (pma_cons (pm_var 8) pma_nil))) pm_int) (pms_cons (pms_own 13 pma_nil sc_law.nd)
  (pms_cons (pms_for (passes_of rfl) (pmi_range1 T.z_range (pma_cons (pm_var 4) pma_nil)) (pmg_name 12 sc_law.nd)
  (pms_cons (pms_let 8 (pms_setLc 14 [("spot", 16)] (pmi_range1 T.z_range (pma_cons pm_int pma_nil)) (blkOk_by (N := N_law) (sc := defScope s_law) (by decide +kernel)) sc_law.nd (fun _ _ _ _ _ => (pmg_name 16 sc_law.nd)) (fun _ _ _ _ _ => pmts_nil) (fun _ _ _ _ _ => (pm_sortSet T.z_sorted T.z_set (pm_lc [("one", 18)] (pmi_seq (pm_var 8)) (by exact blkOk_by (by kernel_rfl)) sc_law.nd (fun _ _ _ _ _ => (pmg_name 18 sc_law.nd)) (fun _ _ _ _ _ => pmts_nil) (fun _ _ _ _ _ => (pm_ix ix_seq od_ix (pm_ix ix_seq od_ix (pm_var 18) (pm_var 12)) (pm_var 16))))))))
  (pms_one (pms_app 13 (pm_callTy call_tuple_of cd_tuple T.z_tuple (pma_cons (pm_lc [("some", 19)] (pmi_seq (pm_var 14)) (blkOk_by (N := N_law) (sc := defScope s_law) (by decide +kernel)) sc_law.nd (fun _ _ _ _ _ => (pmg_name 19 sc_law.nd)) (fun _ _ _ _ _ => pmts_nil) (fun _ _ _ _ _ => (pm_if (pmt_cmp (op_eqD hr.units) od_eq (pm_callB call_len cd_len T.z_len (pma_cons (pm_var 19) pma_nil)) pm_int) (pm_ix ix_seq od_ix (pm_var 19) pm_int) pm_non))) pma_nil))))))
  (pms_one (pms_if (pmt_cmp (op_neD hr.units) od_ne (pm_call (ok_must_begin T) (hr.mono (by decide)) tk_z (pma_cons (pm_var 2) (pma_cons (pm_var 6) pma_nil))) (pm_brw false (pm_callTy call_tuple_of cd_tuple T.z_tuple (pma_cons (pm_var 13) pma_nil)))) (pms_one (pms_ret pm_bl)) pms_nil)))) pms_nil)
  (pms_one (pms_if (pmt_not (pmt_val (pm_call (ok_law_rows_refused T EX LM) (hr.mono (by decide)) tk_z (pma_cons (pm_var 2) (pma_cons (pm_var 4) (pma_cons (pm_var 3) pma_nil)))))) (pms_one (pms_ret pm_bl)) pms_nil)))))))))))))) (pss_one (ps_ret pe_bl))
end G
set_option Elab.async false
set_option linter.all false
set_option maxRecDepth 100000
set_option maxHeartbeats 1000000
namespace G
open PySem DL
local instance : DL.TabCtx := ⟨[]⟩
inductive P : Nat → PyData → Prop
  | none {k} : P k .none
  | int {k} (i : Int) : P k (.int i)
  | str {k} {s : Str} (h : (PyData.str s).canLay0 = true) : P k (.str s)
  | tuple {k} {xs : List PyData} (h : ∀ x ∈ xs, P k x) : P (k + 1) (.tuple xs)
  | list {k} {xs : List PyData} (h : ∀ x ∈ xs, P k x) : P (k + 1) (.list xs)
theorem P.mono {j : Nat} {d : PyData} (h : P j d) : ∀ {k : Nat}, j ≤ k → P k d := by
  induction h with
  | none => exact fun _ => .none
  | int i => exact fun _ => .int i
  | str h => exact fun _ => .str h
  | tuple _ ih => intro k hk; cases k with
    | zero => omega
    | succ k => exact .tuple fun x hx => ih x hx (by omega)
  | list _ ih => intro k hk; cases k with
    | zero => omega
    | succ k => exact .list fun x hx => ih x hx (by omega)
theorem lay_all : ∀ {xs : List PyData}, (∀ x ∈ xs, x.canLay0 = true) → PyData.canLayAll0 xs = true
  | [], _ => rfl
  | x :: xs, h => by
    show (PyData.canLay0 x && PyData.canLayAll0 xs) = true
    rw [h x (List.mem_cons_self ..), lay_all fun y hy => h y (List.mem_cons_of_mem _ hy)]
    rfl
theorem depth_all {k : Nat} : ∀ {xs : List PyData}, (∀ x ∈ xs, x.depth ≤ k) → PyData.depthAll xs ≤ k
  | [], _ => by simp [PyData.depthAll]
  | x :: xs, h => by
    have h1 := h x (List.mem_cons_self ..)
    have h2 := depth_all fun y hy => h y (List.mem_cons_of_mem _ hy)
    simp only [PyData.depthAll]
    omega
theorem P.lay {k : Nat} {d : PyData} (h : P k d) : d.canLay0 = true ∧ d.depth ≤ k := by
  induction h with
  | none => exact ⟨by rw [PyData.canLay0], by rw [PyData.depth]; omega⟩
  | int i => exact ⟨by rw [PyData.canLay0], by rw [PyData.depth]; omega⟩
  | str h => exact ⟨h, by rw [PyData.depth]; omega⟩
  | tuple _ ih => exact ⟨by rw [PyData.canLay0]; exact lay_all fun x hx => (ih x hx).1, by rw [PyData.depth]; have := depth_all fun x hx => (ih x hx).2; omega⟩
  | list _ ih => exact ⟨by rw [PyData.canLay0]; exact lay_all fun x hx => (ih x hx).1, by rw [PyData.depth]; have := depth_all fun x hx => (ih x hx).2; omega⟩
theorem P.shaped {k : Nat} {d : PyData} (h : P k d) (hk : k ≤ 64) : SeqAt.shaped d = true := by
  obtain ⟨h1, h2⟩ := h.lay
  unfold SeqAt.shaped
  rw [h1, decide_eq_true (Nat.le_trans h2 hk)]
  rfl
theorem eqv_all : ∀ {xs ys : List PyData}, (∀ x ∈ xs, ∀ y ∈ ys, x.eqv y = true ↔ x = y) → (PyData.eqvAll xs ys = true ↔ xs = ys)
  | [], [], _ => by simp [PyData.eqvAll]
  | [], _ :: _, _ => by simp [PyData.eqvAll]
  | _ :: _, [], _ => by simp [PyData.eqvAll]
  | x :: xs, y :: ys, h => by
    have h1 := h x (List.mem_cons_self ..) y (List.mem_cons_self ..)
    have h2 := eqv_all (xs := xs) (ys := ys) fun a ha b hb => h a (List.mem_cons_of_mem _ ha) b (List.mem_cons_of_mem _ hb)
    simp only [PyData.eqvAll, Bool.and_eq_true, h1, h2, List.cons.injEq]
theorem P.eqv {j : Nat} {a : PyData} (ha : P j a) : ∀ {k : Nat} {b : PyData}, P k b → (a.eqv b = true ↔ a = b) := by
  induction ha with
  | none => intro k b hb; cases hb <;> simp [PyData.eqv]
  | int i => intro k b hb; cases hb <;> simp [PyData.eqv]
  | str h => intro k b hb; cases hb <;> simp [PyData.eqv]
  | tuple _ ih =>
    intro k b hb
    cases hb with
    | tuple h2 => simp only [PyData.eqv, PyData.tuple.injEq]; exact eqv_all fun x hx y hy => ih x hx (h2 y hy)
    | _ => simp [PyData.eqv]
  | list _ ih =>
    intro k b hb
    cases hb with
    | list h2 => simp only [PyData.eqv, PyData.list.injEq]; exact eqv_all fun x hx y hy => ih x hx (h2 y hy)
    | _ => simp [PyData.eqv]
theorem gEq_P {j k : Nat} {a b : PyData} (ha : P j a) (hb : P k b) (p : Prop) [Decidable p] (hp : a = b ↔ p) (hj : j ≤ 64 := by decide) (hk : k ≤ 64 := by decide) : gEq a b = some (.bool (decide p)) := by
  unfold gEq
  rw [ha.shaped hj, hb.shaped hk]
  have : a.eqv b = decide p := by
    rw [Bool.eq_iff_iff, ha.eqv hb, hp, decide_eq_true_iff]
  rw [this]
  rfl
theorem gNe_P {j k : Nat} {a b : PyData} (ha : P j a) (hb : P k b) (p : Prop) [Decidable p] (hp : a = b ↔ p) (hj : j ≤ 64 := by decide) (hk : k ≤ 64 := by decide) : gNe a b = some (.bool (!decide p)) := by
  unfold gNe
  rw [ha.shaped hj, hb.shaped hk]
  have : a.eqv b = decide p := by
    rw [Bool.eq_iff_iff, ha.eqv hb, hp, decide_eq_true_iff]
  rw [this]
  rfl
@[simp] theorem gEq_int (i j : Int) : gEq (.int i) (.int j) = some (.bool (decide (i = j))) := gEq_P (j := 0) (k := 0) (.int i) (.int j) _ (by simp)
@[simp] theorem gNe_int (i j : Int) : gNe (.int i) (.int j) = some (.bool (!decide (i = j))) := gNe_P (j := 0) (k := 0) (.int i) (.int j) _ (by simp)
section
variable {ρ : Rho} {d x y z : PyData} {ds : List PyData} {i j : Nat} {α β : Type} {a b c : M PyData} {s t : M Bool} {as : M (List PyData)} {f g : SM}
@[simp] theorem e_bind {f : M α} {k : α → M β} : M.bind f k ρ = match f ρ with
  | .ok (a, ρ') => k a ρ'
  | .exc c => .exc c
  | .bad => .bad := rfl
@[simp] theorem e_pure {v : α} : M.pure v ρ = .ok (v, ρ) := rfl
@[simp] theorem e_lift {r : R α} : M.lift r ρ = match r with
  | .ok a => .ok (a, ρ)
  | .exc c => .exc c
  | .bad => .bad := rfl
@[simp] theorem e_some {v : α} : M.opt (some v) ρ = .ok (v, ρ) := rfl
@[simp] theorem e_vN : vN i ρ = match ρ[i]? with
  | some (.sh d) => .ok (d, ρ)
  | _ => .bad := rfl
@[simp] theorem e_cD : cD d ρ = .ok (d, ρ) := rfl
@[simp] theorem e_op1 {g : PyData → Option PyData} : op1 g a ρ = (M.bind a fun x => M.opt (g x)) ρ := rfl
@[simp] theorem e_op2 {g : PyData → PyData → Option PyData} : op2 g a b ρ = (M.bind a fun x => M.bind b fun y => M.opt (g x y)) ρ := rfl
@[simp] theorem e_aN : aN ρ = .ok ([], ρ) := rfl
@[simp] theorem e_aC : aC a as ρ = (M.bind a fun x => M.bind as fun xs => M.pure (x :: xs)) ρ := rfl
@[simp] theorem e_opA {g : List PyData → Option PyData} : opA g as ρ = (M.bind as fun ds => M.opt (g ds)) ρ := rfl
@[simp] theorem e_callM {m : List PyData → R PyData} : callM m as ρ = (M.bind as fun ds => M.lift (m ds)) ρ := rfl
@[simp] theorem e_tst : tst a ρ = (M.bind a fun x => M.opt (asB x)) ρ := rfl
@[simp] theorem e_asB {b : Bool} : asB (.bool b) = some b := rfl
@[simp] theorem e_asI {i : Int} : asI (.int i) = some i := rfl
@[simp] theorem e_asL : asL (.list ds) = some ds := rfl
@[simp] theorem e_andT : andT s t ρ = (M.bind s fun x => if x = true then t else M.pure false) ρ := rfl
@[simp] theorem e_orT : orT s t ρ = (M.bind s fun x => if x = true then M.pure true else t) ρ := rfl
@[simp] theorem e_notT : notT s ρ = (M.bind s fun x => M.pure (!x)) ρ := rfl
@[simp] theorem e_andV : andV a b ρ = (M.bind a fun x => M.bind (M.opt (asB x)) fun c => if c = true then b else M.pure (.bool false)) ρ := rfl
@[simp] theorem e_orV : orV a b ρ = (M.bind a fun x => M.bind (M.opt (asB x)) fun c => if c = true then M.pure (.bool true) else b) ρ := rfl
@[simp] theorem e_notV : notV a ρ = (M.bind a fun x => M.opt ((asB x).map fun b => .bool (!b))) ρ := rfl
@[simp] theorem e_ifV : ifV s a b ρ = (M.bind s fun c => if c = true then a else b) ρ := rfl
@[simp] theorem e_chain {g g' : PyData → PyData → Option PyData} : chain g g' a b c ρ = (M.bind a fun x => M.bind b fun y => M.bind (M.opt ((g x y).bind asB)) fun k => if k = true then M.bind c fun z => M.opt (g' y z) else M.pure (.bool false)) ρ := rfl
@[simp] theorem e_prt : prt a ρ = (M.bind a fun x => M.bind (M.opt (asI x)) fun i => M.pure (some i)) ρ := rfl
@[simp] theorem e_noPrt : noPrt ρ = .ok (none, ρ) := rfl
@[simp] theorem e_slc {l h : M (Option Int)} : slc a l h ρ = (M.bind a fun x => M.bind l fun l => M.bind h fun h => M.opt (gCut l h x)) ρ := rfl
@[simp] theorem e_seqI : seqI a ρ = (M.bind a fun d => M.opt (itemsD d)) ρ := rfl
@[simp] theorem e_opI {g : List PyData → Option (List PyData)} : opI g as ρ = (M.bind as fun ds => M.opt (g ds)) ρ := rfl
@[simp] theorem e_isi {T : Ty} : isi T a ρ = (M.bind a fun d => M.opt (some (.bool (isD T d)))) ρ := rfl
@[simp] theorem e_opM {g : PyData → List PyData → Option PyData} : opM g a as ρ = (M.bind a fun x => M.bind (M.opt (asL x)) fun _ => M.bind as fun xs => M.opt (g x xs)) ρ := rfl
@[simp] theorem e_yes : yesT ρ = .ok (true, ρ) := rfl
@[simp] theorem e_seqO : seqO f g ρ = match f ρ with
  | .nx ρ' => g ρ'
  | o => o := rfl
@[simp] theorem e_exO {f : M α} {k : α → SM} : exO f k ρ = match f ρ with
  | .ok (a, ρ') => k a ρ'
  | .exc c => .exc c
  | .bad => .bad := rfl
@[simp] theorem e_nxO : nxO ρ = .nx ρ := rfl
@[simp] theorem e_dropO : dropO a ρ = (exO a fun _ => nxO) ρ := rfl
@[simp] theorem e_retO : retO a ρ = (exO a fun d ρ => .rt d ρ) ρ := rfl
@[simp] theorem e_ifO : ifO s f g ρ = (exO s fun b => if b = true then f else g) ρ := rfl
@[simp] theorem e_raiseO {c : Str} : raiseO c ρ = .exc c := rfl
@[simp] theorem e_asgO {g : GM} : asgO a g ρ = (exO a fun d ρ => match g d ρ with
  | .ok ρ' => .nx ρ'
  | .exc c => .bad
  | .bad => .bad) ρ := rfl
@[simp] theorem e_setS : setS i d ρ = if i < ρ.length then .ok (ρ.set i (.sh d)) else .bad := rfl
@[simp] theorem e_unT {gs : List PyData → Rho → R Rho} : unT gs (.tuple ds) ρ = gs ds ρ := rfl
@[simp] theorem e_gsN : gsN [] ρ = .ok ρ := rfl
@[simp] theorem e_gsC {g : GM} {gs : List PyData → Rho → R Rho} : gsC g gs (d :: ds) ρ = R.bind (g d ρ) fun ρ' => gs ds ρ' := rfl
@[simp] theorem e_Rbind {r : R α} {k : α → R β} : R.bind r k = match r with
  | .ok a => k a
  | .exc c => .exc c
  | .bad => .bad := rfl
@[simp] theorem e_par2 : par2 i j as ρ = (exO as fun ds ρ => match ds with
  | [x, y] => if i < ρ.length ∧ j < ρ.length then .nx ((ρ.set i (.sh x)).set j (.sh y)) else .bad
  | _ => .bad) ρ := rfl
@[simp] theorem e_forO {g : GM} : forO as g f ρ = (exO as fun ds => loopO g f ds) ρ := rfl
@[simp] theorem e_items_t : itemsD (.tuple ds) = some ds := rfl
@[simp] theorem e_items_l : itemsD (.list ds) = some ds := rfl
@[simp] theorem e_ix_t {k : Int} : gIx (.tuple ds) (.int k) = atD ds k := rfl
@[simp] theorem e_ix_l {k : Int} : gIx (.list ds) (.int k) = atD ds k := rfl
@[simp] theorem e_at {k : Nat} : atD ds ((k : Nat) : Int) = ds[k]? := by
  unfold atD; rw [if_pos (by omega)]; rfl
@[simp] theorem e_at0 : atD ds 0 = ds[0]? := e_at (k := 0)
@[simp] theorem e_at1 : atD ds 1 = ds[1]? := e_at (k := 1)
@[simp] theorem e_at2 : atD ds 2 = ds[2]? := e_at (k := 2)
@[simp] theorem e_len_t : gLen [.tuple ds] = some (.int ds.length) := rfl
@[simp] theorem e_len_l : gLen [.list ds] = some (.int ds.length) := rfl
@[simp] theorem e_tuple_l : gTuple [.list ds] = some (.tuple ds) := rfl
@[simp] theorem e_tuple_t : gTuple [.tuple ds] = some (.tuple ds) := rfl
@[simp] theorem e_le {k l : Int} : gLe (.int k) (.int l) = some (.bool (decide (k ≤ l))) := rfl
@[simp] theorem e_gt {k l : Int} : gGt (.int k) (.int l) = some (.bool (decide (l < k))) := rfl
@[simp] theorem e_ge {k l : Int} : gGe (.int k) (.int l) = some (.bool (decide (l ≤ k))) := rfl
@[simp] theorem e_add {k l : Int} : gAdd (.int k) (.int l) = some (.int (k + l)) := rfl
@[simp] theorem e_sub {k l : Int} : gSub (.int k) (.int l) = some (.int (k - l)) := rfl
@[simp] theorem e_is {k l : Bool} : gIs (.bool k) (.bool l) = some (.bool (decide (k = l))) := rfl
theorem e_mul {k l : Int} (h : -(2 ^ 64) < l ∧ l < 2 ^ 64) : gMul (.int k) (.int l) = some (.int (k * l)) := if_pos (.inl (.inr h))
theorem e_mod {k l : Int} (h : 0 < l) : gMod (.int k) (.int l) = some (.int (k % l)) := if_pos h
theorem e_div {k l : Int} (h : 0 < l ∧ l < 2 ^ 200) : gDiv (.int k) (.int l) = some (.int (k / l)) := if_pos h
@[simp] theorem e_LIM : LIM = 1000000 := rfl
@[simp] theorem e_tupD : gTupD ds = if ds.length ≤ LIM then some (.tuple ds) else none := rfl
@[simp] theorem e_lstD : gLstD ds = if ds.length ≤ LIM then some (.list ds) else none := rfl
theorem e_rg1 {n : Nat} (h : n ≤ 1000000) : rg1 [.int (n : Nat)] = some (rangeD 0 n) := by
  have h1 : -(2 ^ 62) ≤ ((n : Nat) : Int) ∧ ((n : Nat) : Int) < 2 ^ 62 := by omega
  simp only [rg1]
  rw [if_pos h1, Int.toNat_natCast]
@[simp] theorem e_wipe0 {ρ : Rho} : wipeR ρ [] = ρ := rfl
@[simp] theorem e_wipe {ρ : Rho} {v : Nat} {vs : List Nat} : wipeR ρ (v :: vs) = (wipeR ρ vs).set v .no := rfl
end
theorem rangeD_map (n : Nat) : rangeD 0 n = (List.range n).map fun i => PyData.int (i : Nat) := by
  unfold rangeD; congr; funext i; rw [Int.zero_add]
theorem resR_wipe {ρ ρ' : Rho} : ∀ {vs : List Nat}, wipeR ρ' vs = wipeR ρ vs → resR ρ ρ' vs = ρ := by
  intro vs h
  have hl : ρ'.length = ρ.length := by rw [← wipeR_len ρ' vs, h, wipeR_len]
  have len : ∀ ws, (resR ρ ρ' ws).length = ρ.length := by
    intro ws
    induction ws with
    | nil => exact hl
    | cons w ws ih => unfold resR; rw [List.length_set, ih]
  have get : ∀ ws i, i ∈ ws → i < ρ.length → (resR ρ ρ' ws)[i]? = ρ[i]? := by
    intro ws
    induction ws with
    | nil => intro i hi; cases hi
    | cons w ws ih =>
      intro i hi hlt
      unfold resR
      by_cases e : w = i
      · subst e
        rw [List.getElem?_set_self (by rw [len]; exact hlt), List.getD_eq_getElem?_getD, List.getElem?_eq_getElem hlt]
        rfl
      · rw [List.getElem?_set_ne e]
        rcases List.mem_cons.mp hi with z | z
        · exact absurd z.symm e
        · exact ih i z hlt
  have out : ∀ ws i, i ∉ ws → (resR ρ ρ' ws)[i]? = ρ'[i]? := by
    intro ws
    induction ws with
    | nil => intro i _; rfl
    | cons w ws ih =>
      intro i hi
      unfold resR
      rw [List.getElem?_set_ne (fun e => hi (by rw [e]; exact List.mem_cons_self ..))]
      exact ih i fun z => hi (List.mem_cons_of_mem _ z)
  apply List.ext_getElem?
  intro i
  by_cases hi : i ∈ vs
  · by_cases hlt : i < ρ.length
    · exact get vs i hi hlt
    · rw [List.getElem?_eq_none (by rw [len]; omega), List.getElem?_eq_none (by omega)]
  · rw [out vs i hi]
    have := congrArg (fun l => l[i]?) h
    simp only [wipeR_out hi] at this
    exact this
theorem lcLoop_map {α : Type} {vs : List Nat} {g : GM} {t : M Bool} {e : M PyData} {ρ : Rho} {enc out : α → PyData} {p : α → Bool} : ∀ {xs : List α}, (∀ x ∈ xs, ∃ ρ1, g (enc x) (wipeR ρ vs) = .ok ρ1 ∧ t ρ1 = .ok (p x, ρ1) ∧ (p x = true → e ρ1 = .ok (out x, ρ1)) ∧ wipeR ρ1 vs = wipeR ρ vs) →
    ∀ {ρc : Rho} {acc : List PyData}, wipeR ρc vs = wipeR ρ vs → xs.length + acc.length ≤ LIM → ∃ ρ', lcLoop vs g t e (xs.map enc) ρc acc = .ok (acc ++ (xs.filter p).map out, ρ') ∧ wipeR ρ' vs = wipeR ρ vs
  | [], _, ρc, acc, h, _ => ⟨ρc, by simp [lcLoop], h⟩
  | x :: xs, hs, ρc, acc, h, hl => by
    obtain ⟨ρ1, h1, h2, h3, h4⟩ := hs x (List.mem_cons_self ..)
    have hr : ∀ y ∈ xs, _ := fun y hy => hs y (List.mem_cons_of_mem _ hy)
    simp only [List.length_cons] at hl
    cases hp : p x with
    | false =>
      obtain ⟨ρ', k1, k2⟩ := lcLoop_map hr (ρc := ρ1) (acc := acc) h4 (by omega)
      refine ⟨ρ', ?_, k2⟩
      rw [List.map_cons, List.filter_cons, hp]
      unfold lcLoop
      rw [h, h1]
      simp only [h2, hp]
      exact k1
    | true =>
      obtain ⟨ρ', k1, k2⟩ := lcLoop_map hr (ρc := ρ1) (acc := acc ++ [out x]) h4 (by rw [List.length_append]; simp only [List.length_cons, List.length_nil]; omega)
      refine ⟨ρ', ?_, k2⟩
      rw [List.map_cons, List.filter_cons, hp]
      unfold lcLoop
      rw [h, h1]
      simp only [h2, hp, h3 hp]
      rw [if_pos (by omega), k1]
      simp
theorem lc_filt {α : Type} {vs : List Nat} {a : M (List PyData)} {g : GM} {t : M Bool} {e : M PyData} {ρ : Rho} (xs : List α) (enc out : α → PyData) (p : α → Bool) (ha : a ρ = .ok (xs.map enc, ρ)) (ho : (vs.any fun i => isOw ρ[i]?) = false) (hl : xs.length ≤ LIM)
    (hs : ∀ x ∈ xs, ∃ ρ1, g (enc x) (wipeR ρ vs) = .ok ρ1 ∧ t ρ1 = .ok (p x, ρ1) ∧ (p x = true → e ρ1 = .ok (out x, ρ1)) ∧ wipeR ρ1 vs = wipeR ρ vs) : lcM vs a g t e ρ = .ok (.list ((xs.filter p).map out), ρ) := by
  obtain ⟨ρ', k1, k2⟩ := lcLoop_map hs (acc := []) rfl (by simpa using hl)
  unfold lcM M.bind
  simp only [ha, ho, k1]
  rw [if_neg Bool.false_ne_true, resR_wipe k2]
  rfl
theorem lc_map {α : Type} {vs : List Nat} {a : M (List PyData)} {g : GM} {e : M PyData} {ρ : Rho} (xs : List α) (enc out : α → PyData) (ha : a ρ = .ok (xs.map enc, ρ)) (ho : (vs.any fun i => isOw ρ[i]?) = false) (hl : xs.length ≤ LIM)
    (hs : ∀ x ∈ xs, ∃ ρ1, g (enc x) (wipeR ρ vs) = .ok ρ1 ∧ e ρ1 = .ok (out x, ρ1) ∧ wipeR ρ1 vs = wipeR ρ vs) : lcM vs a g yesT e ρ = .ok (.list (xs.map out), ρ) := by
  have := lc_filt (vs := vs) (t := yesT) (e := e) xs enc out (fun _ => true) ha ho hl fun x hx => by
    obtain ⟨ρ1, h1, h2, h3⟩ := hs x hx
    exact ⟨ρ1, h1, rfl, fun _ => h2, h3⟩
  rw [this, List.filter_eq_self.mpr fun _ _ => rfl]
theorem loop_inv {g : GM} {fb : SM} (I : Nat → Rho → Prop) {ds : List PyData} (h : ∀ (i : Nat) (d : PyData) (ρ : Rho), ds[i]? = some d → I i ρ → ∃ ρ1 ρ2, g d ρ = .ok ρ1 ∧ fb ρ1 = .nx ρ2 ∧ I (i + 1) ρ2) {ρ : Rho} (h0 : I 0 ρ) : ∃ ρ', loopO g fb ds ρ = .nx ρ' ∧ I ds.length ρ' := by
  induction ds generalizing I ρ with
  | nil => exact ⟨ρ, rfl, h0⟩
  | cons d ds ih =>
    obtain ⟨ρ1, ρ2, h1, h2, h3⟩ := h 0 d ρ rfl h0
    obtain ⟨ρ', k1, k2⟩ := ih (fun i => I (i + 1)) (fun i d ρ hd hi => h (i + 1) d ρ hd hi) h3
    refine ⟨ρ', ?_, k2⟩
    unfold loopO
    rw [h1]
    simp only [h2]
    exact k1
theorem bools_map {α : Type} (p : α → Bool) : ∀ xs : List α, boolsD (xs.map fun x => .bool (p x)) = some (xs.map p)
  | [] => rfl
  | x :: xs => by rw [List.map_cons, boolsD, bools_map p xs]; rfl
theorem all_map {α : Type} (p : α → Bool) (xs : List α) : gAll [.list (xs.map fun x => .bool (p x))] = some (.bool (xs.all p)) := by
  show (boolsD _).map _ = _
  rw [bools_map]
  show some (PyData.bool ((xs.map p).all id)) = _
  rw [List.all_map]; rfl
theorem ints_map : ∀ xs : List Int, intsD (xs.map PyData.int) = some xs
  | [] => rfl
  | x :: xs => by rw [List.map_cons, intsD, ints_map xs]; rfl
theorem is_whole_int (a lo hi : Int) : m_is_whole [.int a, .int lo, .int hi] = .ok (.bool (decide (lo ≤ a) && decide (a ≤ hi))) := by
  by_cases h : lo ≤ a <;> simp [m_is_whole, b_is_whole, fnRun, start0, isD, h]
theorem are_lines_ints (ns : List Int) (k many : Int) (hl : ns.length ≤ LIM) : m_are_lines [.tuple (ns.map .int), .int k, .int many] = .ok (.bool (decide ((ns.length : Int) = k) && ns.all fun n => decide (0 ≤ n) && decide (n ≤ many - 1))) := by
  by_cases h : (ns.length : Int) = k
  · simp [m_are_lines, b_are_lines, fnRun, start0, isD, h]
    rw [lc_map ns .int (fun n => .bool (decide (0 ≤ n) && decide (n ≤ many - 1)))]
    · simp [all_map]
    · simp
    · rfl
    · exact hl
    · intro n hn
      exact ⟨_, rfl, by simp [is_whole_int], rfl⟩
  · simp [m_are_lines, b_are_lines, fnRun, start0, isD, h]
end G
set_option Elab.async false
set_option linter.all false
set_option maxRecDepth 100000
set_option maxHeartbeats 1000000
namespace G
open PySem DL
local instance : DL.TabCtx := ⟨[]⟩
theorem cut_from (ds : List PyData) (k : Nat) : cutD ds (some (k : Int)) none = ds.drop k := by
  unfold cutD
  rw [HT.sIx_nat, HT.sIx_none]
  by_cases h : k ≤ ds.length
  · rw [Nat.min_eq_left h, List.take_of_length_le (by simp)]
  · rw [Nat.min_eq_right (by omega), Nat.sub_self, List.take_zero, List.drop_eq_nil_of_le (by omega)]
theorem cut_to (ds : List PyData) (k : Nat) : cutD ds none (some (k : Int)) = ds.take k := by
  unfold cutD
  rw [HT.sIx_nat, HT.sIx_none, Nat.sub_zero, List.drop_zero]
  by_cases h : k ≤ ds.length
  · rw [Nat.min_eq_left h]
  · rw [Nat.min_eq_right (by omega), List.take_of_length_le (by omega), List.take_of_length_le (by omega)]
theorem cut_mid (ds : List PyData) (j k : Nat) : cutD ds (some (j : Int)) (some (k : Int)) = (ds.drop j).take (k - j) := by
  unfold cutD
  rw [HT.sIx_nat, HT.sIx_nat]
  by_cases h : j ≤ ds.length
  · rw [Nat.min_eq_left h]
    by_cases h2 : k ≤ ds.length
    · rw [Nat.min_eq_left h2]
    · rw [Nat.min_eq_right (by omega), List.take_of_length_le (by simp), List.take_of_length_le (by simp; omega)]
  · have e : min j ds.length = ds.length := by omega
    rw [e, List.drop_length, List.drop_eq_nil_of_le (by omega), List.take_nil, List.take_nil]
@[simp] theorem cut_from1 (ds : List PyData) : cutD ds (some 1) none = ds.drop 1 := cut_from ds 1
@[simp] theorem cut_to1 (ds : List PyData) : cutD ds none (some 1) = ds.take 1 := cut_to ds 1
@[simp] theorem e_cut_t {lo hi : Option Int} {ds : List PyData} : gCut lo hi (.tuple ds) = some (.tuple (cutD ds lo hi)) := rfl
@[simp] theorem e_cut_l {lo hi : Option Int} {ds : List PyData} : gCut lo hi (.list ds) = some (.list (cutD ds lo hi)) := rfl
theorem any_eqv {j k : Nat} {x : PyData} (hx : P j x) {ds : List PyData} (hd : ∀ y ∈ ds, P k y) (p : Prop) [Decidable p] (hp : x ∈ ds ↔ p) : (ds.any fun z => PyData.eqv z x) = decide p := by
  rw [Bool.eq_iff_iff, List.any_eq_true, decide_eq_true_iff, ← hp]
  constructor
  · rintro ⟨y, hy, he⟩
    rw [((hd y hy).eqv hx).mp he] at hy
    exact hy
  · exact fun h => ⟨x, h, (hx.eqv hx).mpr rfl⟩
theorem gIn_P {j k : Nat} {x : PyData} (hx : P j x) {ds : List PyData} (hd : ∀ y ∈ ds, P k y) (p : Prop) [Decidable p] (hp : x ∈ ds ↔ p) (hj : j ≤ 64 := by decide) (hk : k + 1 ≤ 64 := by decide) : gIn x (.list ds) = some (.bool (decide p)) := by
  have : gIn x (.list ds) = if (SeqAt.shaped x && SeqAt.shaped (.list ds)) = true then some (.bool (ds.any fun z => PyData.eqv z x)) else none := by cases x <;> rfl
  rw [this, hx.shaped hj, (P.list hd).shaped hk, any_eqv hx hd p hp]
  rfl
theorem gNotIn_P {j k : Nat} {x : PyData} (hx : P j x) {ds : List PyData} (hd : ∀ y ∈ ds, P k y) (p : Prop) [Decidable p] (hp : x ∈ ds ↔ p) (hj : j ≤ 64 := by decide) (hk : k + 1 ≤ 64 := by decide) : gNotIn x (.list ds) = some (.bool (!decide p)) := by
  have : gNotIn x (.list ds) = if (SeqAt.shaped x && SeqAt.shaped (.list ds)) = true then some (.bool (!ds.any fun z => PyData.eqv z x)) else none := by cases x <;> rfl
  rw [this, hx.shaped hj, (P.list hd).shaped hk, any_eqv hx hd p hp]
  rfl
theorem lcLoop2_map {α β : Type} {vs vs1 : List Nat} {g g1 : GM} {fi1 : M (List PyData)} {e : M PyData} {ρ : Rho} {enc : α → PyData} {ys : α → List β} {enc1 : β → PyData} {out : α → β → PyData} (hsub : ∀ i ∈ vs1, i ∈ vs) : ∀ {xs : List α}, (∀ x ∈ xs, ∃ ρ1, g (enc x) (wipeR ρ vs) = .ok ρ1 ∧ wipeR ρ1 vs = wipeR ρ vs ∧ fi1 ρ1 = .ok ((ys x).map enc1, ρ1) ∧
      ∀ y ∈ ys x, ∃ ρ2, g1 (enc1 y) (wipeR ρ1 vs1) = .ok ρ2 ∧ e ρ2 = .ok (out x y, ρ2) ∧ wipeR ρ2 vs1 = wipeR ρ1 vs1) →
    ∀ {ρc : Rho} {acc : List PyData}, wipeR ρc vs = wipeR ρ vs → (xs.flatMap ys).length + acc.length ≤ LIM → ∃ ρ', lcLoop2 vs vs1 g yesT fi1 g1 yesT e (xs.map enc) ρc acc = .ok (acc ++ xs.flatMap (fun x => (ys x).map (out x)), ρ') ∧ wipeR ρ' vs = wipeR ρ vs
  | [], _, ρc, acc, h, _ => ⟨ρc, by simp [lcLoop2], h⟩
  | x :: xs, hs, ρc, acc, h, hl => by
    obtain ⟨ρ1, h1, h2, h3, h4⟩ := hs x (List.mem_cons_self ..)
    have hr : ∀ y ∈ xs, _ := fun y hy => hs y (List.mem_cons_of_mem _ hy)
    simp only [List.flatMap_cons, List.length_append] at hl
    obtain ⟨ρ3, k1, k2⟩ := lcLoop_map (vs := vs1) (g := g1) (t := yesT) (e := e) (ρ := ρ1) (enc := enc1) (out := out x) (p := fun _ => true) (xs := ys x) (fun y hy => by
      obtain ⟨ρ2, a1, a2, a3⟩ := h4 y hy
      exact ⟨ρ2, a1, rfl, fun _ => a2, a3⟩) (ρc := ρ1) (acc := acc) rfl (by omega)
    have k3 : wipeR ρ3 vs = wipeR ρ vs := by rw [← wipeR_sub ρ3 hsub, k2, wipeR_sub ρ1 hsub, h2]
    rw [List.filter_eq_self.mpr fun _ _ => rfl] at k1
    obtain ⟨ρ', l1, l2⟩ := lcLoop2_map hsub hr (ρc := ρ3) (acc := acc ++ (ys x).map (out x)) k3 (by rw [List.length_append, List.length_map]; omega)
    refine ⟨ρ', ?_, l2⟩
    rw [List.map_cons]
    unfold lcLoop2
    rw [h, h1]
    simp only [e_yes, h3, k1]
    rw [l1]
    simp
theorem lc2_map {α β : Type} {vs vs1 : List Nat} {a : M (List PyData)} {g g1 : GM} {fi1 : M (List PyData)} {e : M PyData} {ρ : Rho} (xs : List α) (enc : α → PyData) (ys : α → List β) (enc1 : β → PyData) (out : α → β → PyData) (ha : a ρ = .ok (xs.map enc, ρ)) (ho : (vs.any fun i => isOw ρ[i]?) = false) (hl : (xs.flatMap ys).length ≤ LIM) (hsub : ∀ i ∈ vs1, i ∈ vs)
    (hs : ∀ x ∈ xs, ∃ ρ1, g (enc x) (wipeR ρ vs) = .ok ρ1 ∧ wipeR ρ1 vs = wipeR ρ vs ∧ fi1 ρ1 = .ok ((ys x).map enc1, ρ1) ∧
      ∀ y ∈ ys x, ∃ ρ2, g1 (enc1 y) (wipeR ρ1 vs1) = .ok ρ2 ∧ e ρ2 = .ok (out x y, ρ2) ∧ wipeR ρ2 vs1 = wipeR ρ1 vs1) : lcM2 vs vs1 a g yesT fi1 g1 yesT e ρ = .ok (.list (xs.flatMap fun x => (ys x).map (out x)), ρ) := by
  obtain ⟨ρ', k1, k2⟩ := lcLoop2_map hsub hs (acc := []) rfl (by simpa using hl)
  unfold lcM2 M.bind
  simp only [ha, ho, k1]
  rw [if_neg Bool.false_ne_true, resR_wipe k2]
  rfl
structure Sg where
  name : Str
  ears : List (Str × Int)
  tab : List Int
deriving DecidableEq
def Sg.d (s : Sg) : PyData := .tuple [.str s.name, .tuple (s.ears.map siD), .tuple (s.tab.map .int)]
def chD (many : Int) (ss : List Sg) : PyData := .tuple [.int many, .tuple (ss.map Sg.d)]
def Wd (s : Str) : Prop := m_is_word [.str s] = .ok (.bool true) ∧ (PyData.str s).canLay0 = true
theorem wd_ann : Wd "ann" := ⟨rfl, by decide +kernel⟩
theorem wd_bob : Wd "bob" := ⟨rfl, by decide +kernel⟩
theorem wd_cy : Wd "cy" := ⟨rfl, by decide +kernel⟩
def rising {α : Type} (lt : α → α → Bool) (xs : List α) : Bool := (xs.zip xs.tail).all fun p => lt p.1 p.2
structure GSg (many : Int) (names : List Str) (s : Sg) : Prop where
  word : Wd s.name
  elen : s.ears.length ≤ 2
  ear : ∀ e ∈ s.ears, Wd e.1 ∧ e.1 ∈ names ∧ 1 ≤ e.2 ∧ e.2 ≤ 3
  rise : rising SrtQ.lexS s.ears = true
  tlen : (s.tab.length : Int) = many ^ s.ears.length
  tab : ∀ t ∈ s.tab, 0 ≤ t ∧ t < many
structure Good (many : Int) (ss : List Sg) : Prop where
  m2 : 2 ≤ many
  m4 : many ≤ 4
  l1 : 1 ≤ ss.length
  l4 : ss.length ≤ 4
  sg : ∀ s ∈ ss, GSg many (ss.map (·.name)) s
  rise : rising SrtQ.ltS (ss.map (·.name)) = true
theorem siD_inj {a b : Str × Int} : siD a = siD b ↔ a = b := by
  unfold siD; constructor
  · intro h; injection h with h; injection h with h1 h2; injection h1 with h1; injection h2 with h2 _; injection h2 with h2; exact Prod.ext h1 h2
  · rintro rfl; rfl
theorem map_inj {α β : Type} {f : α → β} (h : ∀ a b, f a = f b ↔ a = b) : ∀ {xs ys : List α}, xs.map f = ys.map f ↔ xs = ys
  | [], [] => by simp
  | [], _ :: _ => by simp
  | _ :: _, [] => by simp
  | x :: xs, y :: ys => by simp [h, map_inj h (xs := xs) (ys := ys)]
theorem P_ear {k : Nat} {e : Str × Int} (h : Wd e.1) : P (k + 1) (siD e) := .tuple fun x hx => by
  simp at hx; rcases hx with rfl | rfl
  · exact .str h.2
  · exact .int _
theorem zipD_map {α : Type} (enc : α → PyData) (xs ys : List α) : zipD (xs.map enc) (ys.map enc) = (xs.zip ys).map fun p => .tuple [enc p.1, enc p.2] := by
  unfold zipD
  rw [List.zip_map, List.map_map]; rfl
theorem rise_l {α : Type} (enc : α → PyData) (lt : α → α → Bool) (h : ∀ a b, gLt (enc a) (enc b) = some (.bool (lt a b))) (xs : List α) (hl : xs.length ≤ LIM) : m_rise [.list (xs.map enc)] = .ok (.bool (rising lt xs)) := by
  simp [m_rise, b_rise, fnRun, start0]
  rw [lc_map (xs.zip xs.tail) (fun p => .tuple [enc p.1, enc p.2]) (fun p => .bool (lt p.1 p.2))]
  · simp [all_map, rising]
  · simp [gZip]; rw [← List.map_tail, zipD_map]
  · rfl
  · rw [List.length_zip]; exact Nat.le_trans (Nat.min_le_left _ _) hl
  · intro p _
    exact ⟨_, rfl, by simp [h], rfl⟩
theorem rise_t {α : Type} (enc : α → PyData) (lt : α → α → Bool) (h : ∀ a b, gLt (enc a) (enc b) = some (.bool (lt a b))) (xs : List α) (hl : xs.length ≤ LIM) : m_rise [.tuple (xs.map enc)] = .ok (.bool (rising lt xs)) := by
  simp [m_rise, b_rise, fnRun, start0]
  rw [lc_map (xs.zip xs.tail) (fun p => .tuple [enc p.1, enc p.2]) (fun p => .bool (lt p.1 p.2))]
  · simp [all_map, rising]
  · simp [gZip]; rw [← List.map_tail, zipD_map]
  · rfl
  · rw [List.length_zip]; exact Nat.le_trans (Nat.min_le_left _ _) hl
  · intro p _
    exact ⟨_, rfl, by simp [h], rfl⟩
theorem lt_str (a b : Str) : gLt (.str a) (.str b) = some (.bool (SrtQ.ltS a b)) := rfl
theorem lt_ear (a b : Str × Int) : gLt (siD a) (siD b) = some (.bool (SrtQ.lexS a b)) := by
  unfold siD SrtQ.lexS
  simp only [gLt, lexD, flatLt, Option.bind_some, Option.map_some, PyData.eqv, beq_iff_eq]
  congr 2
  by_cases h : a.1 = b.1
  · simp [h]
    intro h2; omega
  · simp [h]
theorem is_ear_ok {e : Str × Int} (h : Wd e.1) (h1 : 1 ≤ e.2) (h3 : e.2 ≤ 3) : m_is_ear [siD e] = .ok (.bool true) := by
  simp [m_is_ear, b_is_ear, fnRun, start0, isD, siD, h.1, is_whole_int, h1, h3]
theorem are_ears_ok {es : List (Str × Int)} (hl : es.length ≤ 2) (he : ∀ e ∈ es, Wd e.1 ∧ 1 ≤ e.2 ∧ e.2 ≤ 3) (hr : rising SrtQ.lexS es = true) : m_are_ears [.tuple (es.map siD)] = .ok (.bool true) := by
  have h2 : (es.length : Int) ≤ 2 := by omega
  simp [m_are_ears, b_are_ears, fnRun, start0, isD, h2]
  rw [lc_map es siD (fun _ => .bool true)]
  · simp [all_map, rise_t siD SrtQ.lexS lt_ear es (by rw [e_LIM]; omega), hr]
  · simp
  · rfl
  · rw [e_LIM]; omega
  · intro e h
    obtain ⟨a, b, c⟩ := he e h
    exact ⟨_, rfl, by simp [is_ear_ok a b c], rfl⟩
theorem places_ok {many : Int} {ds : List PyData} (h2 : 2 ≤ many) (h4 : many ≤ 4) (hl : ds.length ≤ 2) : m_places_for [.int many, .tuple ds] = .ok (.int (many ^ ds.length)) := by
  have hm : gMul (.int many) (.int many) = some (.int (many * many)) := e_mul (by omega)
  match hd : ds.length, hl with
  | 0, _ => simp [m_places_for, b_places_for, fnRun, start0, hm, hd]
  | 1, _ => simp [m_places_for, b_places_for, fnRun, start0, hm, hd, Int.pow_succ]
  | 2, _ => simp [m_places_for, b_places_for, fnRun, start0, hm, hd, Int.pow_succ]
theorem pow_le {many : Int} (h2 : 2 ≤ many) (h4 : many ≤ 4) {n : Nat} (hn : n ≤ 2) : 1 ≤ many ^ n ∧ many ^ n ≤ 16 := by
  have : many = 2 ∨ many = 3 ∨ many = 4 := by omega
  have h : n = 0 ∨ n = 1 ∨ n = 2 := by omega
  rcases this with rfl | rfl | rfl <;> rcases h with rfl | rfl | rfl <;> decide
theorem is_singer_ok {many : Int} {names : List Str} {s : Sg} (h2 : 2 ≤ many) (h4 : many ≤ 4) (h : GSg many names s) : m_is_singer [s.d, .int many] = .ok (.bool true) := by
  have h1 := are_ears_ok h.elen (fun e he => ⟨(h.ear e he).1, (h.ear e he).2.2⟩) h.rise
  have h3 := places_ok (ds := s.ears.map siD) h2 h4 (by rw [List.length_map]; exact h.elen)
  have hw := h.word.1
  have hl : s.tab.length ≤ LIM := by
    have := h.tlen; have := (pow_le h2 h4 h.elen).2; rw [e_LIM]; omega
  have h5 := are_lines_ints s.tab (many ^ s.ears.length) many hl
  have h6 : (s.tab.all fun n => decide (0 ≤ n) && decide (n ≤ many - 1)) = true := by
    rw [List.all_eq_true]; intro t ht
    have := h.tab t ht
    rw [decide_eq_true this.1, decide_eq_true (by omega)]; rfl
  rw [h6, h.tlen, decide_eq_true rfl] at h5
  rw [List.length_map] at h3
  simp [m_is_singer, b_is_singer, fnRun, start0, isD, Sg.d, hw, h1, h3, h5]
theorem is_choir_ok {many : Int} {ss : List Sg} (h : Good many ss) : m_is_choir [chD many ss] = .ok (.bool true) := by
  have h2 := h.m2
  have h4 := h.m4
  have h1 := h.l1
  have hl4 := h.l4
  have hl : ss.length ≤ LIM := by rw [e_LIM]; omega
  have a1 : (1 : Int) ≤ ss.length := by omega
  have a2 : (ss.length : Int) ≤ 4 := by omega
  have hr := rise_l PyData.str SrtQ.ltS lt_str (ss.map (·.name)) (by rw [List.length_map]; exact hl)
  rw [List.map_map, h.rise] at hr
  have hr : m_rise [.list (ss.map fun s => .str s.name)] = .ok (.bool true) := hr
  simp [m_is_choir, b_is_choir, fnRun, start0, isD, chD, is_whole_int, h2, h4, a1, a2]
  rw [lc_map ss Sg.d (fun _ => .bool true)]
  rotate_left
  · simp
  · rfl
  · exact hl
  · exact fun s hs => ⟨_, rfl, by simp [is_singer_ok h2 h4 (h.sg s hs)], rfl⟩
  simp [all_map]
  rw [lc_map ss Sg.d (fun s => .str s.name)]
  rotate_left
  · simp
  · rfl
  · exact hl
  · exact fun s hs => ⟨_, rfl, by simp [Sg.d], rfl⟩
  simp [hr]
  rw [lc_map ss Sg.d (fun s => .str s.name)]
  rotate_left
  · simp
  · rfl
  · exact hl
  · exact fun s hs => ⟨_, rfl, by simp [Sg.d], rfl⟩
  simp
  rw [lc2_map ss Sg.d (fun s => s.ears) siD (fun _ _ => .bool true)]
  · have : (ss.flatMap fun x => x.ears.map fun _ => PyData.bool true) = (ss.flatMap fun x => x.ears).map fun _ => PyData.bool true := by rw [List.map_flatMap]
    rw [this]
    simp [all_map]
  · simp
  · rfl
  · have : ∀ xs : List Sg, (∀ s ∈ xs, s.ears.length ≤ 2) → (xs.flatMap fun s => s.ears).length ≤ 2 * xs.length := by
      intro xs
      induction xs with
      | nil => intro _; simp
      | cons x xs ih =>
        intro hh
        have b1 := hh x (List.mem_cons_self ..)
        have b2 := ih fun y hy => hh y (List.mem_cons_of_mem _ hy)
        simp only [List.flatMap_cons, List.length_append, List.length_cons]
        omega
    have := this ss fun s hs => (h.sg s hs).elen
    rw [e_LIM]; omega
  · decide
  · intro s hs
    refine ⟨_, rfl, rfl, by simp [Sg.d], fun e he => ⟨_, rfl, ?_, rfl⟩⟩
    obtain ⟨b1, b2, _⟩ := (h.sg s hs).ear e he
    have := gIn_P (j := 0) (k := 0) (x := .str e.1) (ds := ss.map fun s => .str s.name) (.str b1.2) (fun y hy => by obtain ⟨s, h1, rfl⟩ := List.mem_map.mp hy; exact .str (h.sg s h1).word.2) True (by
      simp only [iff_true]
      obtain ⟨s, h1, h2⟩ := List.mem_map.mp b2
      exact List.mem_map.mpr ⟨s, h1, by rw [h2]⟩)
    simp [siD, this]
theorem need_choir_ok {many : Int} {ss : List Sg} (h : Good many ss) : m_need_choir [chD many ss] = .ok .none := by
  simp [m_need_choir, b_need_choir, fnRun, start0, is_choir_ok h]
theorem all_names_ok {many : Int} {ss : List Sg} (hl : ss.length ≤ LIM) : m_all_names [chD many ss] = .ok (.list (ss.map fun s => .str s.name)) := by
  simp [m_all_names, b_all_names, fnRun, start0, chD]
  rw [lc_map ss Sg.d (fun s => .str s.name)]
  · simp
  · rfl
  · exact hl
  · exact fun s hs => ⟨_, rfl, by simp [Sg.d], rfl⟩
end G
set_option Elab.async false
set_option linter.all false
set_option maxRecDepth 100000
set_option maxHeartbeats 1000000
namespace G
open PySem DL
local instance : DL.TabCtx := ⟨[]⟩
section
variable {ρ : Rho} {d x y z : PyData} {ds : List PyData} {i j : Nat} {a b c : M PyData} {t : M Bool} {as : M (List PyData)} {f g : SM}
@[simp] theorem e_ownO : ownO i as ρ = (exO as fun ds ρ => if ds.length ≤ LIM then .nx (ρ.set i (.ow (.list ds))) else .bad) ρ := rfl
@[simp] theorem e_appO : appO i a ρ = match ρ[i]? with
  | some (.ow (.list _)) => exO a (fun d ρ => match ρ[i]? with
    | some (.ow (.list ds)) => if ds.length < LIM then .nx (ρ.set i (.ow (.list (ds ++ [d])))) else .bad
    | _ => .bad) ρ
  | _ => .bad := rfl
@[simp] theorem e_isOw {d : PyData} : isOw (some (.ow d)) = true := rfl
@[simp] theorem e_ixO : ixO i a ρ = if isOw ρ[i]? = true then ixI i a ρ else .bad := rfl
def ixK (i : Nat) (k : PyData) : M PyData := fun ρ => match ρ[i]?, k with
  | some (.ow (.list ds)), .int j => (match atD ds j with
    | some z => .ok (z, ρ)
    | none => .bad)
  | _, _ => .bad
@[simp] theorem e_ixI : ixI i a ρ = (M.bind a (ixK i)) ρ := rfl
@[simp] theorem e_ixK {k : Int} (h : ρ[i]? = some (.ow (.list ds))) : ixK i (.int k) ρ = match atD ds k with
    | some z => .ok (z, ρ)
    | none => .bad := by unfold ixK; rw [h]
@[simp] theorem e_sixO : sixO i b a ρ = (exO a fun d ρ => if isOw ρ[i]? = true then exO b (fun j ρ => match ρ[i]?, j with
  | some (.ow (.list ds)), .int j => (match L2.ixN ds.length j with
    | some n => .nx (ρ.set i (.ow (.list (ds.set n d))))
    | none => .bad)
  | _, _ => .bad) ρ else .bad) ρ := rfl
@[simp] theorem e_callL {m : PyData → List PyData → R (PyData × PyData)} : callL i m as ρ = if isOw ρ[i]? = true then callI i m as ρ else .bad := rfl
def callK (i : Nat) (m : PyData → List PyData → R (PyData × PyData)) (ds : List PyData) : M PyData := fun ρ => match ρ[i]? with
  | some (.ow dd) => (match m dd ds with
    | .ok (d, dd') => .ok (d, ρ.set i (.ow dd'))
    | .exc c => .exc c
    | .bad => .bad)
  | _ => .bad
@[simp] theorem e_callI {m : PyData → List PyData → R (PyData × PyData)} : callI i m as ρ = (M.bind as (callK i m)) ρ := rfl
@[simp] theorem e_callK {m : PyData → List PyData → R (PyData × PyData)} : callK i m ds ρ = match ρ[i]? with
  | some (.ow dd) => (match m dd ds with
    | .ok (d, dd') => .ok (d, ρ.set i (.ow dd'))
    | .exc c => .exc c
    | .bad => .bad)
  | _ => .bad := rfl
@[simp] theorem e_demR1 {s : Sl} : demR true (s :: ρ) = s :: ρ.map demSl := rfl
@[simp] theorem e_demR0 : demR false ρ = ρ.map demSl := rfl
@[simp] theorem e_demOw : demSl (.ow d) = .sh d := rfl
@[simp] theorem e_demSh : demSl (.sh d) = .sh d := rfl
@[simp] theorem e_demNo : demSl .no = .no := rfl
@[simp] theorem e_back1 {s s' : Sl} {ρ' : Rho} : backR true (s :: ρ) (s' :: ρ') = if immSl s' = true then some (s' :: ρ) else none := rfl
@[simp] theorem e_back0 {ρ' : Rho} : backR false ρ ρ' = some ρ := rfl
@[simp] theorem e_brw {b : Bool} : brw b a ρ = match a (demR b ρ) with
  | .ok (d, ρ') => if imm d = true then (match backR b ρ ρ' with
    | some ρ'' => .ok (d, ρ'')
    | none => .bad) else .bad
  | .exc c => .exc c
  | .bad => .bad := rfl
@[simp] theorem e_brwT {b : Bool} : brwT b t ρ = match t (demR b ρ) with
  | .ok (d, ρ') => (match backR b ρ ρ' with
    | some ρ'' => .ok (d, ρ'')
    | none => .bad)
  | .exc c => .exc c
  | .bad => .bad := rfl
@[simp] theorem e_demO {b : Bool} : demO b f ρ = f (demR b ρ) := rfl
end
def dcD (s : Int × Int) : PyData := .list [.int s.1, .int s.2]
@[simp] theorem imm_dc (s : Int × Int) : immSl (.ow (dcD s)) = true := rfl
theorem drawn_ok (c k : Int) : ∃ v : Int, m_law_drawn [.int c, .int k] = .ok (.int v) := by
  have p1 : ∀ x : Int, gMul (.int x) (.int 6364136223846793005) = some (.int (x * 6364136223846793005)) := fun x => e_mul (by decide)
  have p2 : ∀ x : Int, gMul (.int x) (.int 1442695040888963407) = some (.int (x * 1442695040888963407)) := fun x => e_mul (by decide)
  have p3 : ∀ x : Int, gMod (.int x) (.int 340282366920938463463374607431768211507) = some (.int (x % 340282366920938463463374607431768211507)) := fun x => e_mod (by decide)
  have p4 : ∀ x : Int, gMod (.int x) (.int 340282366920938463463374607431768211297) = some (.int (x % 340282366920938463463374607431768211297)) := fun x => e_mod (by decide)
  have p5 : ∀ x : Int, gMod (.int x) (.int 18446744073709551557) = some (.int (x % 18446744073709551557)) := fun x => e_mod (by decide)
  have p6 : ∀ x : Int, gDiv (.int x) (.int 18446744073709551557) = some (.int (x / 18446744073709551557)) := fun x => e_div (by decide)
  have lt : ∀ {x : Int} {n : Nat}, 0 ≤ x → x < 2 ^ n → n ≤ 2000 → x.natAbs < 2 ^ 2000 := fun {x n} h0 h1 h2 => by
    have : x.natAbs < 2 ^ n := by
      have e : ((x.natAbs : Nat) : Int) = x := Int.natAbs_of_nonneg h0
      have : ((x.natAbs : Nat) : Int) < ((2 ^ n : Nat) : Int) := by rw [e]; push_cast; exact h1
      exact Int.ofNat_lt.mp this
    exact Nat.lt_of_lt_of_le this (Nat.pow_le_pow_right (by decide) h2)
  have mul : ∀ {x y : Int}, x.natAbs < 2 ^ 2000 → y.natAbs < 2 ^ 2000 → gMul (.int x) (.int y) = some (.int (x * y)) := fun h1 h2 => if_pos (.inr ⟨h1, h2⟩)
  generalize ha : (c * 6364136223846793005 + (k + 1) * 1442695040888963407) % 340282366920938463463374607431768211507 = a
  have a0 : 0 ≤ a := by rw [← ha]; exact Int.emod_nonneg _ (by decide)
  have a1 : a < 2 ^ 130 := Int.lt_trans (by rw [← ha]; exact Int.emod_lt_of_pos _ (by decide)) (by decide : (340282366920938463463374607431768211507 : Int) < 2 ^ 130)
  have q1 : gMul (.int a) (.int a) = some (.int (a * a)) := mul (lt a0 a1 (by decide)) (lt a0 a1 (by decide))
  generalize hb : a * a % 340282366920938463463374607431768211297 = b
  have b0 : 0 ≤ b := by rw [← hb]; exact Int.emod_nonneg _ (by decide)
  have b1 : b < 2 ^ 130 := Int.lt_trans (by rw [← hb]; exact Int.emod_lt_of_pos _ (by decide)) (by decide : (340282366920938463463374607431768211297 : Int) < 2 ^ 130)
  have c0 : 0 ≤ b % 18446744073709551557 + 1 := by have := Int.emod_nonneg b (by decide : (18446744073709551557 : Int) ≠ 0); omega
  have c1 : b % 18446744073709551557 + 1 < 2 ^ 130 := by have := Int.emod_lt_of_pos b (by decide : (0 : Int) < 18446744073709551557); omega
  have d0 : 0 ≤ b / 18446744073709551557 + 1 := by omega
  have d1 : b / 18446744073709551557 + 1 < 2 ^ 131 := by omega
  have q2 : gMul (.int (b % 18446744073709551557 + 1)) (.int (b / 18446744073709551557 + 1)) = some (.int ((b % 18446744073709551557 + 1) * (b / 18446744073709551557 + 1))) := mul (lt c0 c1 (by decide)) (lt d0 d1 (by decide))
  have q3 : gMul (.int ((b % 18446744073709551557 + 1) * (b / 18446744073709551557 + 1))) (.int b) = some (.int ((b % 18446744073709551557 + 1) * (b / 18446744073709551557 + 1) * b)) := by
    refine mul ?_ (lt b0 b1 (by decide))
    refine lt (n := 261) (Int.mul_nonneg c0 d0) ?_ (by decide)
    have := Int.mul_lt_mul c1 (Int.le_of_lt d1) (by omega) (by decide : (0 : Int) ≤ 2 ^ 130)
    rw [← Int.pow_add] at this
    exact this
  refine ⟨_, by simp only [m_law_drawn, b_law_drawn, fnRun, start0]; simp [p1, p2, p3, ha, q1, p4, hb, p5, p6, q2, q3]; rfl⟩
theorem roll_ex (s : Int × Int) (n : Int) (h0 : 0 < n) (h1 : n < 2 ^ 200) : ∃ (r : Int) (s' : Int × Int), m_law_roll (dcD s) [.int n] = .ok (.int r, dcD s') ∧ 0 ≤ r ∧ r < n := by
  have p1 : gPow (.int 10) (.int 18) = some (.int (10 ^ 18)) := rfl
  have p2 : ∀ x : Int, gMod (.int x) (.int n) = some (.int (x % n)) := fun x => e_mod h0
  have p3 : ∀ x : Int, gDiv (.int x) (.int n) = some (.int (x / n)) := fun x => e_div ⟨h0, h1⟩
  have p4 : ∀ x : Int, gDiv (.int x) (.int 8) = some (.int (x / 8)) := fun x => e_div (by decide)
  have n0 : L2.ixN 2 0 = some 0 := rfl
  have n1 : L2.ixN 2 1 = some 1 := rfl
  obtain ⟨c, k⟩ := s
  by_cases h : (10 ^ 18 : Int) ≤ c
  · refine ⟨c % n, (c / n, k), ?_, Int.emod_nonneg _ (by omega), Int.emod_lt_of_pos _ h0⟩
    have h' : (1000000000000000000 : Int) ≤ c := h
    simp [m_law_roll, b_law_roll, fnRunL, start1, dcD, p1, p2, p3, n0, h']
  · obtain ⟨v, hv⟩ := drawn_ok c (k + 1)
    refine ⟨v / 8 % n, (c, k + 1), ?_, Int.emod_nonneg _ (by omega), Int.emod_lt_of_pos _ h0⟩
    have h' : ¬ (1000000000000000000 : Int) ≤ c := h
    simp [m_law_roll, b_law_roll, fnRunL, start1, dcD, p1, p2, p4, n1, h', hv]
end G
set_option Elab.async false
set_option linter.all false
set_option maxRecDepth 100000
set_option maxHeartbeats 1000000
namespace G
open PySem DL
local instance : DL.TabCtx := ⟨[]⟩
theorem immL_map {α : Type} {enc : α → PyData} : ∀ {xs : List α}, (∀ x ∈ xs, imm (enc x) = true) → immL (xs.map enc) = true
  | [], _ => rfl
  | x :: xs, h => by
    show (imm (enc x) && immL (xs.map enc)) = true
    rw [h x (List.mem_cons_self ..), immL_map fun y hy => h y (List.mem_cons_of_mem _ hy)]; rfl
theorem imm_int (i : Int) : imm (.int i) = true := rfl
theorem imm_si (e : Str × Int) : imm (siD e) = true := rfl
theorem imm_ints (ns : List Int) : imm (.tuple (ns.map .int)) = true := immL_map fun _ _ => rfl
theorem imm_ears (es : List (Str × Int)) : imm (.tuple (es.map siD)) = true := immL_map fun e _ => imm_si e
theorem imm_sg (s : Sg) : imm s.d = true := by
  show (true && (imm (.tuple (s.ears.map siD)) && (imm (.tuple (s.tab.map .int)) && true))) = true
  rw [imm_ears, imm_ints]; rfl
theorem imm_sgs (ss : List Sg) : imm (.tuple (ss.map Sg.d)) = true := immL_map fun s _ => imm_sg s
theorem lcLoop_dice {β : Type} {vs : List Nat} {g : GM} {e : M PyData} (I : Int × Int → Rho) (enc : β → PyData) (Q : β → Prop) : ∀ (ds : List PyData), (∀ d ∈ ds, ∀ s, ∃ b s' ρ1 ρ2, g d (wipeR (I s) vs) = .ok ρ1 ∧ e ρ1 = .ok (enc b, ρ2) ∧ Q b ∧ wipeR ρ2 vs = wipeR (I s') vs) →
    ∀ (s : Int × Int) (ρc : Rho) (acc : List PyData), wipeR ρc vs = wipeR (I s) vs → ds.length + acc.length ≤ LIM → ∃ (bs : List β) (s' : Int × Int) (ρ' : Rho), lcLoop vs g yesT e ds ρc acc = .ok (acc ++ bs.map enc, ρ') ∧ wipeR ρ' vs = wipeR (I s') vs ∧ bs.length = ds.length ∧ ∀ b ∈ bs, Q b
  | [], _, s, ρc, acc, h, _ => ⟨[], s, ρc, by simp [lcLoop], h, rfl, fun b hb => by cases hb⟩
  | d :: ds, hs, s, ρc, acc, h, hl => by
    obtain ⟨b, s1, ρ1, ρ2, h1, h2, h3, h4⟩ := hs d (List.mem_cons_self ..) s
    simp only [List.length_cons] at hl
    obtain ⟨bs, s', ρ', k1, k2, k3, k4⟩ := lcLoop_dice I enc Q ds (fun y hy => hs y (List.mem_cons_of_mem _ hy)) s1 ρ2 (acc ++ [enc b]) h4 (by rw [List.length_append]; simp only [List.length_cons, List.length_nil]; omega)
    refine ⟨b :: bs, s', ρ', ?_, k2, by simp [k3], fun x hx => ?_⟩
    · unfold lcLoop
      rw [h, h1]
      simp only [e_yes, h2]
      rw [if_pos (by omega), k1]
      simp
    · rcases List.mem_cons.mp hx with rfl | hx
      · exact h3
      · exact k4 x hx
theorem resR_eq {ρ ρ' ρ2 : Rho} : ∀ {vs : List Nat}, (∀ v ∈ vs, ρ[v]? = ρ2[v]?) → resR ρ ρ' vs = resR ρ2 ρ' vs
  | [], _ => rfl
  | v :: vs, h => by
    unfold resR
    rw [resR_eq fun w hw => h w (List.mem_cons_of_mem _ hw), List.getD_eq_getElem?_getD, List.getD_eq_getElem?_getD, h v (List.mem_cons_self ..)]
theorem lc_dice {β : Type} {vs : List Nat} {a : M (List PyData)} {g : GM} {e : M PyData} (I : Int × Int → Rho) (enc : β → PyData) (Q : β → Prop) (ds : List PyData) (s : Int × Int) (ha : a (I s) = .ok (ds, I s)) (ho : (vs.any fun i => isOw (I s)[i]?) = false) (hl : ds.length ≤ LIM) (hI : ∀ s s', ∀ v ∈ vs, (I s)[v]? = (I s')[v]?)
    (hs : ∀ d ∈ ds, ∀ s, ∃ b s' ρ1 ρ2, g d (wipeR (I s) vs) = .ok ρ1 ∧ e ρ1 = .ok (enc b, ρ2) ∧ Q b ∧ wipeR ρ2 vs = wipeR (I s') vs) : ∃ (bs : List β) (s' : Int × Int), lcM vs a g yesT e (I s) = .ok (.list (bs.map enc), I s') ∧ bs.length = ds.length ∧ ∀ b ∈ bs, Q b := by
  obtain ⟨bs, s', ρ', k1, k2, k3, k4⟩ := lcLoop_dice I enc Q ds hs s (I s) [] rfl (by simpa using hl)
  refine ⟨bs, s', ?_, k3, k4⟩
  unfold lcM M.bind
  simp only [ha, ho, k1]
  rw [if_neg Bool.false_ne_true, resR_eq (hI s s'), resR_wipe k2]
  rfl
theorem mapM_si_map : ∀ es : List (Str × Int), (es.map siD).mapM siOf = some es
  | [] => rfl
  | e :: es => by
    rw [List.map_cons, List.mapM_cons, mapM_si_map es]; rfl
theorem sorted_ears (es : List (Str × Int)) : gSorted [.list (es.map siD)] = some (.list ((SrtQ.isort SrtQ.lexS es).map siD)) := by
  show ((es.map siD).mapM siOf).map _ = _
  rw [mapM_si_map]; rfl
theorem rising_sort {es : List (Str × Int)} (hl : es.length ≤ 2) (hn : es.Nodup) : rising SrtQ.lexS (SrtQ.isort SrtQ.lexS es) = true := by
  match es, hl with
  | [], _ => rfl
  | [a], _ => rfl
  | [a, b], _ =>
    show rising SrtQ.lexS (if SrtQ.lexS a b = true then [a, b] else [b, a]) = true
    cases h : SrtQ.lexS a b with
    | true => simp [rising, h]
    | false =>
      have hab : a ≠ b := by simpa using hn
      cases h2 : SrtQ.lexS b a with
      | true => simp [rising, h2]
      | false => exact absurd (SrtQ.lexS_tri h h2) hab
abbrev crewL (crew : List Str) : List PyData := crew.map PyData.str
def earsI (many : Int) (crew : List Str) (x3 x4 x7 : Sl) (i : Nat) (ρ : Rho) : Prop := ∃ (s' : Int × Int) (es : List (Str × Int)) (x6 x8 : Sl), ρ = [.ow (dcD s'), .sh (.int many), .sh (.list (crewL crew)), x3, x4, .ow (.list (es.map siD)), x6, x7, x8, .no] ∧ es.length ≤ i ∧ es.Nodup ∧ ∀ e ∈ es, Wd e.1 ∧ e.1 ∈ crew ∧ 1 ≤ e.2 ∧ e.2 ≤ 3
theorem singers_ears {many : Int} {crew : List Str} (hc1 : 1 ≤ crew.length) (hc3 : crew.length ≤ 3) (hw : ∀ x ∈ crew, Wd x) (n : Nat) (hn : n ≤ 2) (s : Int × Int) (x3 x4 x6 x7 x8 : Sl) :
    ∃ ρ', loopO (setS 6) b_law_any_singers_L1 (rangeD 0 n) [.ow (dcD s), .sh (.int many), .sh (.list (crewL crew)), x3, x4, .ow (.list []), x6, x7, x8, .no] = .nx ρ' ∧ earsI many crew x3 x4 x7 n ρ' := by
  have hl : (rangeD 0 n).length = n := by simp [rangeD]
  have step : ∀ (i : Nat) (d : PyData) (ρ : Rho), (rangeD 0 n)[i]? = some d → earsI many crew x3 x4 x7 i ρ → ∃ ρ1 ρ2, setS 6 d ρ = .ok ρ1 ∧ b_law_any_singers_L1 ρ1 = .nx ρ2 ∧ earsI many crew x3 x4 x7 (i + 1) ρ2 := by
    intro i d ρ hd hI
    obtain ⟨s1, es, y6, y8, rfl, hl, hnd, he⟩ := hI
    have hin : i < n := by
      have := (List.getElem?_eq_some_iff.mp hd).1
      simpa [rangeD] using this
    obtain ⟨r, s2, k1, k2, k3⟩ := roll_ex s1 crew.length (by omega) (by omega)
    obtain ⟨r2, s3, l1, l2, l3⟩ := roll_ex s2 3 (by decide) (by decide)
    obtain ⟨nm, hat, hmem⟩ : ∃ nm : Str, atD (crewL crew) r = some (.str nm) ∧ nm ∈ crew := by
      refine ⟨crew[r.toNat]'(by omega), ?_, List.getElem_mem _⟩
      unfold atD
      rw [if_pos k2, List.getElem?_map, List.getElem?_eq_getElem (by omega)]; rfl
    have hin' := gNotIn_P (j := 1) (k := 1) (x := siD (nm, 1 + r2)) (ds := es.map siD) (P_ear (hw _ hmem)) (fun y hy => by obtain ⟨e, h1, rfl⟩ := List.mem_map.mp hy; exact P_ear (he e h1).1) ((nm, 1 + r2) ∈ es) (by
      constructor
      · intro h; obtain ⟨e, h1, h2⟩ := List.mem_map.mp h; rw [← siD_inj.mp h2]; exact h1
      · exact fun h => List.mem_map.mpr ⟨_, h, rfl⟩)
    have esl : es.length < 1000000 := by omega
    have hin'' : gNotIn (.tuple [.str (nm), .int (1 + r2)]) (.list (es.map siD)) = _ := hin'
    by_cases hm : (nm, 1 + r2) ∈ es
    · rw [decide_eq_true hm] at hin''
      refine ⟨_, [.ow (dcD s3), .sh (.int many), .sh (.list (crewL crew)), x3, x4, .ow (.list (es.map siD)), .sh d, x7, .sh (siD (nm, 1 + r2)), .no], rfl, ?_, s3, es, _, _, rfl, by omega, hnd, he⟩
      simp only [b_law_any_singers_L1]
      simp [k1, l1, hat, hin'', siD]
    · rw [decide_eq_false hm] at hin''
      refine ⟨_, [.ow (dcD s3), .sh (.int many), .sh (.list (crewL crew)), x3, x4, .ow (.list ((es ++ [(nm, 1 + r2)]).map siD)), .sh d, x7, .sh (siD (nm, 1 + r2)), .no], rfl, ?_, s3, es ++ [(nm, 1 + r2)], _, _, rfl, by simp; omega, ?_, fun e h => ?_⟩
      · simp only [b_law_any_singers_L1]
        simp [k1, l1, hat, hin'', esl, siD]
      · rw [List.nodup_append]
        exact ⟨hnd, by simp, fun x hx y hy z => hm (by rw [List.mem_singleton.mp hy] at z; rw [← z]; exact hx)⟩
      · rcases List.mem_append.mp h with h | h
        · exact he e h
        · cases List.mem_singleton.mp h
          exact ⟨hw _ hmem, hmem, by omega, by omega⟩
  obtain ⟨ρ', h1, h2⟩ := loop_inv (earsI many crew x3 x4 x7) step (ρ := [.ow (dcD s), .sh (.int many), .sh (.list (crewL crew)), x3, x4, .ow (.list []), x6, x7, x8, .no]) ⟨s, [], x6, x8, rfl, Nat.le_refl 0, List.nodup_nil, fun e he => by cases he⟩
  rw [hl] at h2
  exact ⟨ρ', h1, h2⟩
end G
set_option Elab.async false
set_option linter.all false
set_option maxRecDepth 100000
set_option maxHeartbeats 1000000
namespace G
open PySem DL
local instance : DL.TabCtx := ⟨[]⟩
theorem rg1_int {r : Int} (h0 : 0 ≤ r) (h1 : r ≤ 1000000) : rg1 [.int r] = some (rangeD 0 r.toNat) := by
  have := e_rg1 (n := r.toNat) (by omega)
  rw [Int.toNat_of_nonneg h0] at this
  exact this
def singersI (many : Int) (crew : List Str) (i : Nat) (ρ : Rho) : Prop := ∃ (s : Int × Int) (ss : List Sg) (x4 x5 x6 x7 x8 : Sl), ρ = [.ow (dcD s), .sh (.int many), .sh (.list (crewL crew)), .ow (.list (ss.map Sg.d)), x4, x5, x6, x7, x8, .no] ∧ ss.map (·.name) = crew.take i ∧ ∀ s ∈ ss, GSg many crew s
theorem sort_mem {es : List (Str × Int)} {e : Str × Int} : e ∈ SrtQ.isort SrtQ.lexS es ↔ e ∈ es := (SrtQ.isort_perm es).mem_iff
theorem sort_len {es : List (Str × Int)} : (SrtQ.isort SrtQ.lexS es).length = es.length := (SrtQ.isort_perm es).length_eq
theorem places_at {many : Int} {n : Nat} (hn : n ≤ 2) : atD [.int 1, .int many, .int (many * many)] (n : Int) = some (.int (many ^ n)) := by
  have : n = 0 ∨ n = 1 ∨ n = 2 := by omega
  rcases this with rfl | rfl | rfl <;> simp [Int.pow_succ]
theorem singers_step {many : Int} (h2 : 2 ≤ many) (h4 : many ≤ 4) {crew : List Str} (hc1 : 1 ≤ crew.length) (hc3 : crew.length ≤ 3) (hw : ∀ x ∈ crew, Wd x) (i : Nat) (d : PyData) (ρ : Rho) (hd : (crewL crew)[i]? = some d) (hI : singersI many crew i ρ) :
    ∃ ρ1 ρ2, setS 4 d ρ = .ok ρ1 ∧ b_law_any_singers_L2 ρ1 = .nx ρ2 ∧ singersI many crew (i + 1) ρ2 := by
  obtain ⟨s0, ss, x4, x5, x6, x7, x8, rfl, hn, hg⟩ := hI
  rw [List.getElem?_map] at hd
  obtain ⟨nm, hnm, rfl⟩ := Option.map_eq_some_iff.mp hd
  have hi : i < crew.length := (List.getElem?_eq_some_iff.mp hnm).1
  obtain ⟨r, s1, k1, k2, k3⟩ := roll_ex s0 3 (by decide) (by decide)
  obtain ⟨ρ', l1, s2, es, y6, y8, rfl, e1, e2, e3⟩ := singers_ears (many := many) hc1 hc3 hw r.toNat (by omega) s1 (.ow (.list (ss.map Sg.d))) (.sh (.str nm)) x6 x7 x8
  have hel : es.length ≤ 2 := by omega
  have hp := pow_le h2 h4 hel
  have hm : gMul (.int many) (.int many) = some (.int (many * many)) := e_mul (by omega)
  have hrg := rg1_int (r := many ^ es.length) (by omega) (by omega)
  have hrl : (rangeD 0 (many ^ es.length).toNat).length = (many ^ es.length).toNat := by simp [rangeD]
  obtain ⟨ns, s3, m1, m2, m3⟩ := lc_dice (vs := [9]) (a := opI rg1 (aC (vN 7) aN)) (g := setS 9) (e := callL 0 m_law_roll (aC (vN 1) aN)) (fun s => [.ow (dcD s), .sh (.int many), .sh (.list (crewL crew)), .ow (.list (ss.map Sg.d)), .sh (.str nm), .ow (.list (es.map siD)), y6, .sh (.int (many ^ es.length)), y8, .no]) PyData.int (fun n => 0 ≤ n ∧ n < many) (rangeD 0 (many ^ es.length).toNat) s2 (by simp [hrg]) rfl (by rw [hrl, e_LIM]; omega) (fun _ _ v hv => by simp at hv; subst hv; rfl) (fun d _ s => by
    obtain ⟨r, s', q1, q2, q3⟩ := roll_ex s many (by omega) (by omega)
    refine ⟨r, s', _, [.ow (dcD s'), .sh (.int many), .sh (.list (crewL crew)), .ow (.list (ss.map Sg.d)), .sh (.str nm), .ow (.list (es.map siD)), y6, .sh (.int (many ^ es.length)), y8, .sh d], rfl, ?_, ⟨q2, q3⟩, rfl⟩
    simp [q1])
  rw [hrl] at m2
  have sl : ss.length < 1000000 := by
    have := congrArg List.length hn
    rw [List.length_map, List.length_take] at this
    omega
  have hrg2 := rg1_int (r := r) k2 (by omega)
  refine ⟨_, [.ow (dcD s3), .sh (.int many), .sh (.list (crewL crew)), .ow (.list ((ss ++ [Sg.mk nm (SrtQ.isort SrtQ.lexS es) ns]).map Sg.d)), .sh (.str nm), .ow (.list (es.map siD)), y6, .sh (.int (many ^ es.length)), y8, .no], rfl, ?_, s3, ss ++ [Sg.mk nm (SrtQ.isort SrtQ.lexS es) ns], _, _, _, _, _, rfl, ?_, ?_⟩
  · simp only [b_law_any_singers_L2]
    simp [k1, hrg2, l1, hm, places_at hel, sorted_ears, imm_ears, imm_int, m1, sl, Sg.d]
  · rw [List.map_append, hn, List.take_succ, hnm]; rfl
  · intro s hs
    rcases List.mem_append.mp hs with h | h
    · exact hg s h
    · cases List.mem_singleton.mp h
      exact ⟨hw _ (List.mem_of_getElem? hnm), by rw [sort_len]; exact hel, fun e he => e3 e (sort_mem.mp he), rising_sort hel e2, by show ((ns.length : Nat) : Int) = many ^ (SrtQ.isort SrtQ.lexS es).length; rw [sort_len, m2]; omega, m3⟩
theorem any_singers_ok {many : Int} (h2 : 2 ≤ many) (h4 : many ≤ 4) {crew : List Str} (hc1 : 1 ≤ crew.length) (hc3 : crew.length ≤ 3) (hw : ∀ x ∈ crew, Wd x) (s : Int × Int) :
    ∃ (ss : List Sg) (s' : Int × Int), m_law_any_singers (dcD s) [.int many, .list (crewL crew)] = .ok (.tuple (ss.map Sg.d), dcD s') ∧ ss.map (·.name) = crew ∧ ∀ s ∈ ss, GSg many crew s := by
  obtain ⟨ρ', l1, s', ss, x4, x5, x6, x7, x8, rfl, hn, hg⟩ := loop_inv (singersI many crew) (singers_step h2 h4 hc1 hc3 hw) (ρ := [.ow (dcD s), .sh (.int many), .sh (.list (crewL crew)), .ow (.list []), .no, .no, .no, .no, .no, .no]) ⟨s, [], _, _, _, _, _, rfl, rfl, fun s hs => by cases hs⟩
  rw [List.length_map, List.take_length] at hn
  refine ⟨ss, s', ?_, hn, hg⟩
  simp [m_law_any_singers, b_law_any_singers, fnRunL, start1, l1, imm_sgs]
def crew3 : List Str := ["ann", "bob", "cy"]
theorem any_choir_ok (s : Int × Int) : ∃ (many : Int) (ss : List Sg) (s' : Int × Int), m_law_any_choir (dcD s) [] = .ok (chD many ss, dcD s') ∧ Good many ss ∧ ss.map (·.name) = crew3.take ss.length ∧ (many = 2 ∧ ss.length ≤ 3 ∨ many = 3 ∧ ss.length ≤ 2 ∨ many = 4 ∧ ss.length = 1) := by
  obtain ⟨r, s1, k1, k2, k3⟩ := roll_ex s 6 (by decide) (by decide)
  have fin : ∀ (many : Int) (size : Nat), 2 ≤ many → many ≤ 4 → 1 ≤ size → size ≤ 3 → ∃ (ss : List Sg) (s' : Int × Int), m_law_any_singers (dcD s1) [.int many, .list ((crewL ["ann", "bob", "cy"]).take size)] = .ok (.tuple (ss.map Sg.d), dcD s') ∧ ss.map (·.name) = (["ann", "bob", "cy"] : List Str).take size ∧ Good many ss := by
    intro many size a1 a2 a3 a4
    have hcl : ((["ann", "bob", "cy"] : List Str).take size).length = size := by rw [List.length_take]; exact Nat.min_eq_left a4
    obtain ⟨ss, s', b1, b2, b3⟩ := any_singers_ok a1 a2 (crew := (["ann", "bob", "cy"] : List Str).take size) (by omega) (by omega) (fun x hx => by
      have := List.mem_of_mem_take hx
      simp at this
      rcases this with rfl | rfl | rfl
      · exact wd_ann
      · exact wd_bob
      · exact wd_cy) s1
    have hsl : ss.length = size := by rw [← hcl, ← b2, List.length_map]
    refine ⟨ss, s', ?_, b2, a1, a2, by omega, by omega, fun s hs => by rw [b2]; exact b3 s hs, ?_⟩
    · rw [← b1]; unfold crewL; rw [List.map_take]
    · rw [b2]
      have : size = 1 ∨ size = 2 ∨ size = 3 := by omega
      rcases this with rfl | rfl | rfl <;> decide +kernel
  have hr : r = 0 ∨ r = 1 ∨ r = 2 ∨ r = 3 ∨ r = 4 ∨ r = 5 := by omega
  have c1 : ∀ ds : List PyData, cutD ds none (some 2) = ds.take 2 := fun ds => cut_to ds 2
  have c2 : ∀ ds : List PyData, cutD ds none (some 3) = ds.take 3 := fun ds => cut_to ds 3
  have go : ∀ (many : Int) (size : Nat), atD [.tuple [.int 2, .int 1], .tuple [.int 2, .int 2], .tuple [.int 2, .int 3], .tuple [.int 3, .int 1], .tuple [.int 3, .int 2], .tuple [.int 4, .int 1]] r = some (.tuple [.int many, .int size]) → 2 ≤ many → many ≤ 4 → 1 ≤ size → size ≤ 3 →
      ∃ (ss : List Sg) (s' : Int × Int), m_law_any_choir (dcD s) [] = .ok (chD many ss, dcD s') ∧ Good many ss ∧ ss.map (·.name) = (["ann", "bob", "cy"] : List Str).take size := by
    intro many size hat a1 a2 a3 a4
    obtain ⟨ss, s', b1, b2, b3⟩ := fin many size a1 a2 a3 a4
    refine ⟨ss, s', ?_, b3, b2⟩
    have b1 : m_law_any_singers (dcD s1) [.int many, .list (cutD [.str "ann", .str "bob", .str "cy"] none (some (size : Int)))] = .ok (.tuple (ss.map Sg.d), dcD s') := by rw [cut_to]; exact b1
    simp [m_law_any_choir, b_law_any_choir, fnRunL, start1, k1, hat, b1, chD]
  have wrap : ∀ (many : Int) (size : Nat), (many = 2 ∧ size ≤ 3 ∨ many = 3 ∧ size ≤ 2 ∨ many = 4 ∧ size = 1) → size ≤ 3 → (∃ (ss : List Sg) (s' : Int × Int), m_law_any_choir (dcD s) [] = .ok (chD many ss, dcD s') ∧ Good many ss ∧ ss.map (·.name) = (["ann", "bob", "cy"] : List Str).take size) → ∃ (many : Int) (ss : List Sg) (s' : Int × Int), m_law_any_choir (dcD s) [] = .ok (chD many ss, dcD s') ∧ Good many ss ∧ ss.map (·.name) = crew3.take ss.length ∧ (many = 2 ∧ ss.length ≤ 3 ∨ many = 3 ∧ ss.length ≤ 2 ∨ many = 4 ∧ ss.length = 1) := by
    rintro many size h hs ⟨ss, s', a, b, c⟩
    have hl : ss.length = size := by
      have := congrArg List.length c
      rw [List.length_map, List.length_take] at this
      rw [this]; exact Nat.min_eq_left hs
    exact ⟨many, ss, s', a, b, by rw [hl]; exact c, by rw [hl]; exact h⟩
  rcases hr with rfl | rfl | rfl | rfl | rfl | rfl
  · exact wrap 2 1 (.inl ⟨rfl, by decide⟩) (by decide) (go 2 1 rfl (by decide) (by decide) (by decide) (by decide))
  · exact wrap 2 2 (.inl ⟨rfl, by decide⟩) (by decide) (go 2 2 rfl (by decide) (by decide) (by decide) (by decide))
  · exact wrap 2 3 (.inl ⟨rfl, by decide⟩) (by decide) (go 2 3 rfl (by decide) (by decide) (by decide) (by decide))
  · exact wrap 3 1 (.inr (.inl ⟨rfl, by decide⟩)) (by decide) (go 3 1 rfl (by decide) (by decide) (by decide) (by decide))
  · exact wrap 3 2 (.inr (.inl ⟨rfl, by decide⟩)) (by decide) (go 3 2 rfl (by decide) (by decide) (by decide) (by decide))
  · exact wrap 4 1 (.inr (.inr ⟨rfl, rfl⟩)) (by decide) (go 4 1 rfl (by decide) (by decide) (by decide) (by decide))
end G
set_option Elab.async false
set_option linter.all false
set_option maxRecDepth 100000
set_option maxHeartbeats 1000000
namespace G
open PySem DL
local instance : DL.TabCtx := ⟨[]⟩
abbrev natD (n : Nat) : PyData := .int (n : Nat)
abbrev rowD (r : List Nat) : PyData := .tuple (r.map natD)
def stD (st : List (List Nat)) : PyData := .tuple (st.map rowD)
structure GSt (m n : Nat) (st : List (List Nat)) : Prop where
  len : st.length = n
  row : ∀ r ∈ st, r.length = 3 ∧ ∀ x ∈ r, x < m
theorem natD_inj {a b : Nat} : natD a = natD b ↔ a = b := by unfold natD; rw [PyData.int.injEq]; omega
theorem rowD_inj {a b : List Nat} : rowD a = rowD b ↔ a = b := by unfold rowD; rw [PyData.tuple.injEq, map_inj fun _ _ => natD_inj]
theorem P_row {k : Nat} (r : List Nat) : P (k + 1) (rowD r) := .tuple fun x hx => by obtain ⟨n, _, rfl⟩ := List.mem_map.mp hx; exact .int _
theorem P_st {k : Nat} (st : List (List Nat)) : P (k + 2) (stD st) := .tuple fun x hx => by obtain ⟨r, _, rfl⟩ := List.mem_map.mp hx; exact P_row r
theorem are_lines_nats (ns : List Nat) (k many : Int) (hl : ns.length ≤ LIM) : m_are_lines [rowD ns, .int k, .int many] = .ok (.bool (decide ((ns.length : Int) = k) && ns.all fun n => decide ((n : Int) ≤ many - 1))) := by
  have := are_lines_ints (ns.map fun n : Nat => (n : Int)) k many (by rw [List.length_map]; exact hl)
  rw [List.map_map, List.length_map, List.all_map] at this
  have e : ((fun n : Int => decide (0 ≤ n) && decide (n ≤ many - 1)) ∘ fun n : Nat => (n : Int)) = fun n : Nat => decide ((n : Int) ≤ many - 1) := by
    funext n
    show (decide ((0 : Int) ≤ (n : Int)) && decide ((n : Int) ≤ many - 1)) = _
    rw [decide_eq_true (by omega)]; rfl
  rw [e] at this
  exact this
def nOf (ss : List Sg) (x : Str) : Nat := (ss.map (·.name)).idxOf x
theorem findD_str (x : Str) : ∀ xs : List Str, x ∈ xs → findD (.str x) (xs.map PyData.str) = some (xs.idxOf x)
  | y :: ys, h => by
    rw [List.map_cons, findD, List.idxOf_cons]
    by_cases e : y = x
    · subst e; simp [PyData.eqv]
    · have hx : x ∈ ys := by
        rcases List.mem_cons.mp h with z | z
        · exact absurd z.symm e
        · exact z
      have hb : (y == x) = false := by simpa using e
      simp [PyData.eqv, e, findD_str x ys hx, hb]
theorem number_ok {many : Int} {ss : List Sg} {x : Str} (hl : ss.length ≤ LIM) (hw : ∀ s ∈ ss, Wd s.name) (hx : x ∈ ss.map (·.name)) : m_number_of [chD many ss, .str x] = .ok (.int (nOf ss x : Nat)) := by
  have hP : ∀ y ∈ (ss.map fun s => PyData.str s.name), P 0 y := fun y hy => by obtain ⟨s, h1, rfl⟩ := List.mem_map.mp hy; exact .str (hw s h1).2
  have hxw : Wd x := by obtain ⟨s, h1, rfl⟩ := List.mem_map.mp hx; exact hw s h1
  have : gIndex (.list (ss.map fun s => PyData.str s.name)) [.str x] = some (.int (nOf ss x : Nat)) := by
    show (if (SeqAt.shaped (.str x) && SeqAt.shaped (.list (ss.map fun s => PyData.str s.name))) = true then (findD (.str x) (ss.map fun s => PyData.str s.name)).map fun j => PyData.int (j : Nat) else none) = _
    have h1 : (ss.map fun s => PyData.str s.name) = (ss.map (·.name)).map PyData.str := by rw [List.map_map]; rfl
    rw [(P.str (k := 0) hxw.2).shaped (by decide), (P.list hP).shaped (by decide), h1, findD_str x _ hx]
    rfl
  simp [m_number_of, b_number_of, fnRun, start0, all_names_ok hl, this]
/-- what is heard of an ear -/
def hrd (ss : List Sg) (st : List (List Nat)) (e : Str × Int) : Nat := (st.getD (nOf ss e.1) []).getD (3 - e.2).toNat 0
def plc (m : Nat) (xs : List Nat) : Nat := xs.foldl (fun a x => a * m + x) 0
theorem place_stepI (m a x : Int) (x1 : Sl) (hmul : gMul (.int a) (.int m) = some (.int (a * m))) : b_place_of_L1 [.sh (.int m), x1, .sh (.int a), .sh (.int x)] = .nx [.sh (.int m), x1, .sh (.int (a * m + x)), .sh (.int x)] := by
  simp [b_place_of_L1, hmul]
theorem place_loop {m : Int} (hm : -(2 ^ 64) < m ∧ m < 2 ^ 64) (x1 : Sl) (xs : List Int) : ∀ (a : Int) (x3 : Sl), ∃ x3', loopO (setS 3) b_place_of_L1 (xs.map .int) [.sh (.int m), x1, .sh (.int a), x3] = .nx [.sh (.int m), x1, .sh (.int (xs.foldl (fun a x => a * m + x) a)), x3'] := by
  induction xs with
  | nil => exact fun a x3 => ⟨x3, rfl⟩
  | cons x xs ih =>
    intro a x3
    obtain ⟨y, h⟩ := ih (a * m + x) (.sh (.int x))
    refine ⟨y, ?_⟩
    have hs : setS 3 (.int x) [.sh (.int m), x1, .sh (.int a), x3] = .ok [.sh (.int m), x1, .sh (.int a), .sh (.int x)] := rfl
    rw [List.map_cons, loopO]
    simp only [hs, place_stepI m a x x1 (e_mul hm)]
    exact h
theorem place_int {m : Int} (hm : -(2 ^ 64) < m ∧ m < 2 ^ 64) (xs : List Int) : m_place_of [.int m, .tuple (xs.map .int)] = .ok (.int (xs.foldl (fun a x => a * m + x) 0)) := by
  obtain ⟨y, h⟩ := place_loop hm (.sh (.tuple (xs.map .int))) xs 0 .no
  simp [m_place_of, b_place_of, fnRun, start0, h]
theorem foldl_cast (m : Nat) : ∀ (xs : List Nat) (a : Nat), (xs.map fun n : Nat => (n : Int)).foldl (fun a x => a * (m : Int) + x) (a : Int) = ((xs.foldl (fun a x => a * m + x) a : Nat) : Int)
  | [], a => rfl
  | x :: xs, a => by
    rw [List.map_cons, List.foldl_cons, List.foldl_cons, ← foldl_cast m xs]
    congr 1
theorem place_ok {many : Int} {m : Nat} (hm : many = m) (hm4 : m ≤ 4) (xs : List Nat) : m_place_of [.int many, rowD xs] = .ok (natD (plc m xs)) := by
  have h := place_int (m := many) (by omega) (xs.map fun n : Nat => (n : Int))
  rw [List.map_map] at h
  have e := foldl_cast m xs 0
  rw [← hm] at e
  rw [show ((0 : Nat) : Int) = 0 from rfl] at e
  rw [e] at h
  exact h
theorem plc_lt {m : Nat} {xs : List Nat} (h : ∀ x ∈ xs, x < m) : plc m xs < m ^ xs.length := by
  have : ∀ (xs : List Nat) (a k : Nat), (∀ x ∈ xs, x < m) → a < m ^ k → xs.foldl (fun a x => a * m + x) a < m ^ (k + xs.length) := by
    intro xs
    induction xs with
    | nil => intro a k _ h; simpa using h
    | cons x xs ih =>
      intro a k hx ha
      have h1 := hx x (List.mem_cons_self ..)
      have h2 : a * m + x < m ^ (k + 1) := by
        rw [Nat.pow_succ]
        have : (a + 1) * m ≤ m ^ k * m := Nat.mul_le_mul_right m ha
        rw [Nat.add_mul, Nat.one_mul] at this
        omega
      have := ih (a * m + x) (k + 1) (fun y hy => hx y (List.mem_cons_of_mem _ hy)) h2
      rw [List.foldl_cons, List.length_cons]
      rw [show k + (xs.length + 1) = k + 1 + xs.length by omega]
      exact this
  have := this xs 0 0 h (by simp)
  rw [Nat.zero_add] at this
  exact this
/-- a singer's line, by what is heard -/
def sem (m : Nat) (s : Sg) (h : Str × Int → Nat) : Int := s.tab.getD (plc m (s.ears.map h)) 0
theorem tab_at {many : Int} {m : Nat} (hm : many = m) {names : List Str} {s : Sg} (hs : GSg many names s) {xs : List Nat} (hx : ∀ x ∈ xs, x < m) (hl : xs.length = s.ears.length) : (s.tab.map PyData.int)[plc m xs]? = some (.int (s.tab.getD (plc m xs) 0)) := by
  have h1 := plc_lt hx
  have h2 := hs.tlen
  have h3 : plc m xs < s.tab.length := by
    rw [hl] at h1
    rw [hm] at h2
    have : ((m ^ s.ears.length : Nat) : Int) = (m : Int) ^ s.ears.length := by push_cast; rfl
    omega
  rw [List.getElem?_map, List.getD_eq_getElem?_getD, List.getElem?_eq_getElem h3]; rfl
theorem hrd_lt {m : Nat} {ss : List Sg} {st : List (List Nat)} (hst : GSt m ss.length st) (hm : 0 < m) (e : Str × Int) : hrd ss st e < m := by
  unfold hrd
  rw [List.getD_eq_getElem?_getD, List.getD_eq_getElem?_getD]
  cases h : st[nOf ss e.1]? with
  | none => simpa using hm
  | some r =>
    have hr := (hst.row r (List.mem_of_getElem? h)).2
    show ((r[(3 - e.2).toNat]?).getD 0) < m
    cases h2 : r[(3 - e.2).toNat]? with
    | none => simpa using hm
    | some x => exact hr x (List.mem_of_getElem? h2)
def nxt (m : Nat) (ss : List Sg) (st : List (List Nat)) : List Int := ss.map fun s => sem m s (hrd ss st)
end G
set_option Elab.async false
set_option linter.all false
set_option maxRecDepth 100000
set_option maxHeartbeats 1000000
namespace G
open PySem DL
local instance : DL.TabCtx := ⟨[]⟩
theorem loop_any {α : Type} {g : GM} {fb : SM} (I : Rho → Prop) (enc : α → PyData) (p : α → Bool) (r : PyData) : ∀ (xs : List α), (∀ x ∈ xs, ∀ ρ, I ρ → ∃ ρ1 ρ2, g (enc x) ρ = .ok ρ1 ∧ I ρ2 ∧ fb ρ1 = if p x = true then .rt r ρ2 else .nx ρ2) → ∀ ρ, I ρ → ∃ ρ2, I ρ2 ∧ loopO g fb (xs.map enc) ρ = if xs.any p = true then .rt r ρ2 else .nx ρ2
  | [], _, ρ, h => ⟨ρ, h, rfl⟩
  | x :: xs, hs, ρ, h => by
    obtain ⟨ρ1, ρ2, h1, h2, h3⟩ := hs x (List.mem_cons_self ..) ρ h
    cases hp : p x with
    | true =>
      refine ⟨ρ2, h2, ?_⟩
      rw [hp, if_pos rfl] at h3
      rw [List.map_cons, loopO, h1, List.any_cons, hp]
      simp only [h3]
      rfl
    | false =>
      rw [hp, if_neg Bool.false_ne_true] at h3
      obtain ⟨ρ3, k1, k2⟩ := loop_any I enc p r xs (fun y hy => hs y (List.mem_cons_of_mem _ hy)) ρ2 h2
      refine ⟨ρ3, k1, ?_⟩
      rw [List.map_cons, loopO, h1, List.any_cons, hp, Bool.false_or]
      simp only [h3]
      exact k2
theorem setLen_ok (ns : List Int) (h : ns.length ≤ 4000) : setLen (.list (ns.map .int)) = some (.int (dd ns).length) := by
  show (intsD (ns.map .int)).bind _ = _
  rw [ints_map]
  show (if ns.length ≤ 4000 then _ else _) = _
  rw [if_pos h]
def pr (at_ : Nat) (line other : Nat) : List Nat := if at_ = 0 then [line, other] else [other, line]
def varied (ns : List Int) : Bool := decide (1 < (dd ns).length)
def rowV (m : Nat) (s : Sg) (at_ other : Nat) : List Int := (List.range m).map fun line => s.tab.getD (plc m ((pr at_ line other).take s.ears.length)) 0
def cnt (m : Nat) (s : Sg) (at_ : Nat) : Bool := (List.range (if s.ears.length = 2 then m else 1)).any fun other => varied (rowV m s at_ other)
theorem pr_len (a l o : Nat) : (pr a l o).length = 2 := by unfold pr; split <;> rfl
theorem tab_ex {many : Int} {m : Nat} (hm : many = m) {names : List Str} {s : Sg} (hs : GSg many names s) {xs : List Nat} (hx : ∀ x ∈ xs, x < m) (hl : xs.length = s.ears.length) : ∃ v, s.tab[plc m xs]? = some v := by
  have h1 := plc_lt hx
  have h2 := hs.tlen
  have h3 : plc m xs < s.tab.length := by
    rw [hl] at h1
    rw [hm] at h2
    have : ((m ^ s.ears.length : Nat) : Int) = (m : Int) ^ s.ears.length := by push_cast; rfl
    omega
  exact ⟨_, List.getElem?_eq_getElem h3⟩
theorem count_step {many : Int} {m : Nat} (hm : many = m) (h2 : 2 ≤ many) (h4 : many ≤ 4) {names : List Str} {s : Sg} (hs : GSg many names s) (at_ other : Nat) (ho : other < m) (x6 x7 x8 : Sl) (h7 : x7 = .no) (h8 : x8 = .no) :
    b_do_count_L1 [.sh (.int many), .sh s.d, .sh (.int (at_ : Nat)), .sh (.tuple (s.ears.map siD)), .sh (.tuple (s.tab.map .int)), .sh (.int (other : Nat)), x6, x7, x8] = if varied (rowV m s at_ other) = true then .rt (.bool true) [.sh (.int many), .sh s.d, .sh (.int (at_ : Nat)), .sh (.tuple (s.ears.map siD)), .sh (.tuple (s.tab.map .int)), .sh (.int (other : Nat)), .sh (.list ((List.range m).map fun line => rowD (pr at_ line other))), .no, .no] else .nx [.sh (.int many), .sh s.d, .sh (.int (at_ : Nat)), .sh (.tuple (s.ears.map siD)), .sh (.tuple (s.tab.map .int)), .sh (.int (other : Nat)), .sh (.list ((List.range m).map fun line => rowD (pr at_ line other))), .no, .no] := by
  subst h7 h8
  have hel := hs.elen
  have hrg : rg1 [.int many] = some ((List.range m).map fun i => PyData.int (i : Nat)) := by
    rw [rg1_int (by omega) (by omega), rangeD_map, hm, Int.toNat_natCast]
  have hzero : ((at_ : Nat) : Int) = 0 ↔ at_ = 0 := by omega
  have f1 := lc_map (vs := [7]) (a := opI rg1 (aC (vN 0) aN)) (g := setS 7) (e := ifV (tst (op2 gEq (vN 2) (cD (.int 0)))) (opA gTupD (aC (vN 7) (aC (vN 5) aN))) (opA gTupD (aC (vN 5) (aC (vN 7) aN)))) (ρ := [.sh (.int many), .sh s.d, .sh (.int (at_ : Nat)), .sh (.tuple (s.ears.map siD)), .sh (.tuple (s.tab.map .int)), .sh (.int (other : Nat)), x6, .no, .no])
    (List.range m) (fun i => .int (i : Nat)) (fun line => rowD (pr at_ line other)) (by simp [hrg]) rfl (by rw [List.length_range, e_LIM]; omega) (fun line _ => ⟨_, rfl, by
      by_cases h : at_ = 0
      · have h' : ((at_ : Nat) : Int) = 0 := by omega
        simp [h', pr, h]
      · have h' : ¬ ((at_ : Nat) : Int) = 0 := by omega
        simp [h', pr, h], rfl⟩)
  have f2 := lc_map (vs := [8]) (a := seqI (vN 6)) (g := setS 8) (e := op2 gIx (vN 4) (callM m_place_of (aC (vN 0) (aC (slc (vN 8) noPrt (prt (opA gLen (aC (vN 3) aN)))) aN)))) (ρ := [.sh (.int many), .sh s.d, .sh (.int (at_ : Nat)), .sh (.tuple (s.ears.map siD)), .sh (.tuple (s.tab.map .int)), .sh (.int (other : Nat)), .sh (.list ((List.range m).map fun line => rowD (pr at_ line other))), .no, .no])
    (List.range m) (fun line => rowD (pr at_ line other)) (fun line => .int (s.tab.getD (plc m ((pr at_ line other).take s.ears.length)) 0)) (by simp) rfl (by rw [List.length_range, e_LIM]; omega) (fun line hline => ⟨_, rfl, by
      have hlm : line < m := List.mem_range.mp hline
      have c1 : cutD ((pr at_ line other).map natD) none (some ((s.ears.length : Nat) : Int)) = ((pr at_ line other).map natD).take s.ears.length := cut_to _ _
      have c2 := place_ok hm (by omega) ((pr at_ line other).take s.ears.length)
      rw [rowD, List.map_take] at c2
      obtain ⟨v, c3⟩ := tab_ex hm hs (xs := (pr at_ line other).take s.ears.length) (fun x hx => by
        have := List.mem_of_mem_take hx
        unfold pr at this
        split at this
        · simp at this; rcases this with rfl | rfl
          · exact hlm
          · exact ho
        · simp at this; rcases this with rfl | rfl
          · exact ho
          · exact hlm) (by rw [List.length_take, pr_len]; omega)
      simp [c1, c2, c3], rfl⟩)
  have f3 := setLen_ok (rowV m s at_ other) (by unfold rowV; rw [List.length_map, List.length_range]; omega)
  have e3 : (List.range m).map (fun line => PyData.int (s.tab.getD (plc m ((pr at_ line other).take s.ears.length)) 0)) = (rowV m s at_ other).map .int := by unfold rowV; rw [List.map_map]; rfl
  rw [e3] at f2
  simp only [b_do_count_L1, e_seqO, e_asgO, e_exO, f1, e_setS]
  simp only [List.length_cons, List.length_nil, List.set_cons_succ, List.set_cons_zero, e_ifO, e_exO, e_tst, e_bind, e_op2, e_op1]
  by_cases hv : (1 : Int) < ((dd (rowV m s at_ other)).length : Nat)
  · have hv' : varied (rowV m s at_ other) = true := decide_eq_true (by omega)
    simp [f2, f3, hv, hv']
  · have hv' : varied (rowV m s at_ other) = false := decide_eq_false (by omega)
    simp [f2, f3, hv, hv']
end G
set_option Elab.async false
set_option linter.all false
set_option maxRecDepth 100000
set_option maxHeartbeats 1000000
namespace G
open PySem DL
local instance : DL.TabCtx := ⟨[]⟩
theorem do_count_ok {many : Int} {m : Nat} (hm : many = m) (h2 : 2 ≤ many) (h4 : many ≤ 4) {names : List Str} {s : Sg} (hs : GSg many names s) (at_ : Nat) : m_do_count [.int many, s.d, .int (at_ : Nat)] = .ok (.bool (cnt m s at_)) := by
  have hel := hs.elen
  have hk : ∀ n : Nat, n ≤ 4 → rg1 [.int (n : Nat)] = some ((List.range n).map fun i => PyData.int (i : Nat)) := fun n hn => by rw [e_rg1 (by omega), rangeD_map]
  have hrg : rg1 [.int (if s.ears.length = 2 then many else 1)] = some ((List.range (if s.ears.length = 2 then m else 1)).map fun i => PyData.int (i : Nat)) := by
    by_cases h : s.ears.length = 2
    · rw [if_pos h, if_pos h, hm]; exact hk m (by omega)
    · rw [if_neg h, if_neg h]; exact hk 1 (by omega)
  obtain ⟨ρ2, hI, hl⟩ := loop_any (g := setS 5) (fb := b_do_count_L1) (fun ρ => ∃ x5 x6, ρ = [.sh (.int many), .sh s.d, .sh (.int (at_ : Nat)), .sh (.tuple (s.ears.map siD)), .sh (.tuple (s.tab.map .int)), x5, x6, .no, .no]) (fun i => .int (i : Nat)) (fun other => varied (rowV m s at_ other)) (.bool true) (List.range (if s.ears.length = 2 then m else 1)) (fun other ho ρ hI => by
    obtain ⟨x5, x6, rfl⟩ := hI
    have ho' : other < m := by
      have := List.mem_range.mp ho
      by_cases h : s.ears.length = 2
      · rw [if_pos h] at this; exact this
      · rw [if_neg h] at this; omega
    exact ⟨_, _, rfl, ⟨_, _, rfl⟩, count_step hm h2 h4 hs at_ other ho' x6 .no .no rfl rfl⟩) [.sh (.int many), .sh s.d, .sh (.int (at_ : Nat)), .sh (.tuple (s.ears.map siD)), .sh (.tuple (s.tab.map .int)), .no, .no, .no, .no] ⟨_, _, rfl⟩
  have hd : s.d = .tuple [.str s.name, .tuple (s.ears.map siD), .tuple (s.tab.map .int)] := rfl
  have h2' : ((s.ears.length : Nat) : Int) = 2 ↔ s.ears.length = 2 := by omega
  have e1 : ∀ ρ : Rho, ρ[3]? = some (.sh (.tuple (s.ears.map siD))) → ρ[0]? = some (.sh (.int many)) → (opI rg1 (aC (ifV (tst (op2 gEq (opA gLen (aC (vN 3) aN)) (cD (.int 2)))) (vN 0) (cD (.int 1))) aN)) ρ = .ok ((List.range (if s.ears.length = 2 then m else 1)).map fun i => PyData.int (i : Nat), ρ) := by
    intro ρ r3 r0
    by_cases h : s.ears.length = 2
    · have h' : ((s.ears.length : Nat) : Int) = 2 := by omega
      rw [if_pos h, if_pos h] at hrg
      simp [r3, r0, h, hrg]
    · have h' : ¬ ((s.ears.length : Nat) : Int) = 2 := by omega
      rw [if_neg h, if_neg h] at hrg
      simp [r3, r0, h, h', hrg]
  have e2 := e1 [.sh (.int many), .sh s.d, .sh (.int (at_ : Nat)), .sh (.tuple (s.ears.map siD)), .sh (.tuple (s.tab.map .int)), .no, .no, .no, .no] rfl rfl
  have e3 : (asgO (opA gTupD (aC (op2 gIx (vN 1) (cD (.int 1))) (aC (op2 gIx (vN 1) (cD (.int 2))) aN))) (unT (gsC (setS 3) (gsC (setS 4) gsN)))) [.sh (.int many), .sh s.d, .sh (.int (at_ : Nat)), .no, .no, .no, .no, .no, .no] = .nx [.sh (.int many), .sh s.d, .sh (.int (at_ : Nat)), .sh (.tuple (s.ears.map siD)), .sh (.tuple (s.tab.map .int)), .no, .no, .no, .no] := by
    simp [hd]
  have e0 : start0 9 [.int many, s.d, .int (at_ : Nat)] = [.sh (.int many), .sh s.d, .sh (.int (at_ : Nat)), .no, .no, .no, .no, .no, .no] := rfl
  simp only [m_do_count, fnRun, b_do_count, e0, List.length_cons, List.length_nil, Nat.zero_add, Nat.reduceAdd, if_true]
  simp only [e_seqO, e3, e_forO, e_exO, e2, hl]
  unfold cnt
  cases h : (List.range (if s.ears.length = 2 then m else 1)).any fun other => varied (rowV m s at_ other) with
  | true => simp
  | false => simp
def left (m : Nat) (s : Sg) : List (Str × Int) := (s.ears.zipIdx.filter fun p => cnt m s p.2).map (·.1)
theorem enum_map {α : Type} (enc : α → PyData) : ∀ (xs : List α) (k : Nat), enumD k (xs.map enc) = (xs.zipIdx k).map fun p => .tuple [.int (p.2 : Nat), enc p.1]
  | [], k => rfl
  | x :: xs, k => by
    rw [List.map_cons, enumD, List.zipIdx_cons, List.map_cons, enum_map enc xs]
theorem ears_count_ok {many : Int} {m : Nat} (hm : many = m) (h2 : 2 ≤ many) (h4 : many ≤ 4) {names : List Str} {s : Sg} (hs : GSg many names s) : m_ears_that_count [.int many, s.d] = .ok (.tuple ((left m s).map siD)) := by
  have hel := hs.elen
  have hd : s.d = .tuple [.str s.name, .tuple (s.ears.map siD), .tuple (s.tab.map .int)] := rfl
  have f := lc_filt (vs := [2, 3]) (a := opI gEnum (aC (op2 gIx (vN 1) (cD (.int 1))) aN)) (g := unT (gsC (setS 2) (gsC (setS 3) gsN))) (t := tst (callM m_do_count (aC (vN 0) (aC (vN 1) (aC (vN 2) aN))))) (e := vN 3) (ρ := [.sh (.int many), .sh s.d, .no, .no]) (s.ears.zipIdx) (fun p => .tuple [.int (p.2 : Nat), siD p.1]) (fun p => siD p.1) (fun p => cnt m s p.2)
    (by simp [hd, gEnum, enum_map]) rfl (by rw [List.length_zipIdx, e_LIM]; omega) (fun p _ => ⟨_, rfl, by simp [do_count_ok hm h2 h4 hs p.2], fun _ => rfl, rfl⟩)
  have e0 : start0 4 [.int many, s.d] = [.sh (.int many), .sh s.d, .no, .no] := rfl
  simp only [m_ears_that_count, fnRun, b_ears_that_count, e0, List.length_cons, List.length_nil, Nat.zero_add, Nat.reduceAdd, if_true]
  simp [f, left, Function.comp_def]
/-- a singer without the ears that count nothing -/
def leanS (m : Nat) (s : Sg) : Sg := if left m s = s.ears then s else if left m s = [] then ⟨s.name, [], s.tab.take 1⟩ else ⟨s.name, left m s, (List.range m).map fun line => s.tab.getD (if (left m s)[0]? = s.ears[0]? then line * m else line) 0⟩
theorem left_sub {m : Nat} {s : Sg} : (left m s).Sublist s.ears := by
  unfold left
  have h1 : (s.ears.zipIdx.filter fun p => cnt m s p.2).Sublist s.ears.zipIdx := List.filter_sublist
  have h2 := h1.map (·.1)
  have e : s.ears.zipIdx.map (·.1) = s.ears := by
    have : ∀ (xs : List (Str × Int)) (k : Nat), (xs.zipIdx k).map (·.1) = xs := by
      intro xs
      induction xs with
      | nil => intro k; rfl
      | cons x xs ih => intro k; rw [List.zipIdx_cons, List.map_cons, ih]
    exact this _ 0
  rw [e] at h2
  exact h2
theorem lean_idx {m line : Nat} {tab : List Int} {E L : List (Str × Int)} (hl : line < m) (hE : E.length = 2) (hL : L ≠ []) (ht : tab.length = m ^ 2) : ∃ v, tab[if L[0]? = E[0]? then line * m else line]? = some v := by
  refine ⟨_, List.getElem?_eq_getElem ?_⟩
  rw [ht, Nat.pow_succ, Nat.pow_one]
  have h1 : line * m < m * m := Nat.mul_lt_mul_of_pos_right hl (by omega)
  have h2 : m ≤ m * m := Nat.le_mul_of_pos_left m (by omega)
  split
  · exact h1
  · omega
theorem mul_nat (line : Nat) {many : Int} {m : Nat} (hm : many = m) (h4 : many ≤ 4) : gMul (.int (line : Nat)) (.int many) = some (.int ((line * m : Nat) : Int)) := by
  rw [e_mul (by omega), hm, Int.natCast_mul]
theorem lean_singer_ok {many : Int} {m : Nat} (hm : many = m) (h2 : 2 ≤ many) (h4 : many ≤ 4) {names : List Str} {s : Sg} (hs : GSg many names s) : m_lean_singer [.int many, s.d] = .ok (leanS m s).d := by
  have hel := hs.elen
  have hd : s.d = .tuple [.str s.name, .tuple (s.ears.map siD), .tuple (s.tab.map .int)] := rfl
  have hsub := left_sub (m := m) (s := s)
  have hmem : ∀ e ∈ left m s, Wd e.1 := fun e he => (hs.ear e (hsub.subset he)).1
  have hPE : ∀ x ∈ s.ears.map siD, P 1 x := fun x hx => by obtain ⟨e, h1, rfl⟩ := List.mem_map.mp hx; exact P_ear (hs.ear e h1).1
  have hPL : ∀ x ∈ (left m s).map siD, P 1 x := fun x hx => by obtain ⟨e, h1, rfl⟩ := List.mem_map.mp hx; exact P_ear (hmem e h1)
  have g1 := gEq_P (P.tuple hPL) (P.tuple hPE) (left m s = s.ears) (by rw [PyData.tuple.injEq, map_inj fun _ _ => siD_inj])
  have g2 := gEq_P (P.tuple hPL) (P.tuple (k := 1) (xs := []) (fun x hx => by cases hx)) (left m s = []) (by rw [PyData.tuple.injEq, List.map_eq_nil_iff])
  have hrg : rg1 [.int many] = some ((List.range m).map fun i => PyData.int (i : Nat)) := by
    rw [rg1_int (by omega) (by omega), rangeD_map, hm, Int.toNat_natCast]
  have hc := ears_count_ok hm h2 h4 hs
  rw [hd] at hc ⊢
  by_cases c1 : left m s = s.ears
  · rw [decide_eq_true c1] at g1
    have hl : leanS m s = s := if_pos c1
    rw [hl]
    simp [m_lean_singer, b_lean_singer, fnRun, start0, hc, g1, Sg.d]
  · rw [decide_eq_false c1] at g1
    by_cases c2 : left m s = []
    · rw [decide_eq_true c2] at g2
      have hl : leanS m s = ⟨s.name, [], s.tab.take 1⟩ := by unfold leanS; rw [if_neg c1, if_pos c2]
      rw [hl]
      simp [m_lean_singer, b_lean_singer, fnRun, start0, hc, g1, g2, Sg.d]
    · rw [decide_eq_false c2] at g2
      have hE : s.ears.length = 2 := by
        have := hsub.length_le
        have h3 : (left m s).length ≠ s.ears.length := fun h => c1 (hsub.eq_of_length h)
        have h4 : (left m s).length ≠ 0 := fun h => c2 (List.length_eq_zero_iff.mp h)
        omega
      obtain ⟨a, l', hL⟩ : ∃ a l', left m s = a :: l' := by
        cases h : left m s with
        | nil => exact absurd h c2
        | cons a l' => exact ⟨a, l', rfl⟩
      obtain ⟨b, e', hE'⟩ : ∃ b e', s.ears = b :: e' := by
        cases h : s.ears with
        | nil => rw [h] at hE; cases hE
        | cons a l' => exact ⟨a, l', rfl⟩
      have ht : s.tab.length = m ^ 2 := by
        have := hs.tlen
        rw [hE, hm] at this
        have h5 : ((m ^ 2 : Nat) : Int) = (m : Int) ^ 2 := by push_cast; rfl
        omega
      have g3 := gEq_P (P_ear (k := 0) (hmem a (by rw [hL]; exact List.mem_cons_self ..))) (P_ear (k := 0) (hs.ear b (by rw [hE']; exact List.mem_cons_self ..)).1) (a = b) siD_inj
      have hcond : ((left m s)[0]? = s.ears[0]?) ↔ a = b := by rw [hL, hE']; simp
      have f1 := lc_map (vs := [7]) (a := opI rg1 (aC (vN 0) aN)) (g := setS 7) (e := ifV (tst (op2 gEq (op2 gIx (vN 5) (cD (.int 0))) (op2 gIx (vN 3) (cD (.int 0))))) (op2 gMul (vN 7) (vN 0)) (vN 7)) (ρ := [.sh (.int many), .sh s.d, .sh (.str s.name), .sh (.tuple (s.ears.map siD)), .sh (.tuple (s.tab.map .int)), .sh (.tuple ((left m s).map siD)), .no, .no, .no])
        (List.range m) (fun i => .int (i : Nat)) (fun line => .int ((if (left m s)[0]? = s.ears[0]? then line * m else line : Nat) : Int)) (by simp [hrg]) rfl (by rw [List.length_range, e_LIM]; omega) (fun line _ => ⟨_, rfl, by
          by_cases h : a = b
          · rw [decide_eq_true h] at g3
            simp only [hcond, h, if_true]
            rw [hL, hE']
            simp [g3, mul_nat line hm h4]
          · rw [decide_eq_false h] at g3
            simp only [hcond, h, if_false]
            rw [hL, hE']
            simp [g3], rfl⟩)
      have f2 := lc_map (vs := [8]) (a := seqI (vN 6)) (g := setS 8) (e := op2 gIx (vN 4) (vN 8)) (ρ := [.sh (.int many), .sh s.d, .sh (.str s.name), .sh (.tuple (s.ears.map siD)), .sh (.tuple (s.tab.map .int)), .sh (.tuple ((left m s).map siD)), .sh (.list ((List.range m).map fun line => .int ((if (left m s)[0]? = s.ears[0]? then line * m else line : Nat) : Int))), .no, .no])
        (List.range m) (fun line => .int ((if (left m s)[0]? = s.ears[0]? then line * m else line : Nat) : Int)) (fun line => .int (s.tab.getD (if (left m s)[0]? = s.ears[0]? then line * m else line) 0)) (by simp) rfl (by rw [List.length_range, e_LIM]; omega) (fun line hline => ⟨_, rfl, by
          obtain ⟨v, hv⟩ := lean_idx (List.mem_range.mp hline) hE c2 ht
          generalize (if (left m s)[0]? = s.ears[0]? then line * m else line) = k at hv ⊢
          simp [hv], rfl⟩)
      rw [hd] at f1 f2
      have fin : (leanS m s).d = .tuple [.str s.name, .tuple ((left m s).map siD), .tuple ((List.range m).map fun line => .int (s.tab.getD (if (left m s)[0]? = s.ears[0]? then line * m else line) 0))] := by
        unfold leanS
        rw [if_neg c1, if_neg c2]
        unfold Sg.d
        rw [List.map_map]; rfl
      rw [fin]
      have e0 : start0 9 [.int many, .tuple [.str s.name, .tuple (s.ears.map siD), .tuple (s.tab.map .int)]] = [.sh (.int many), .sh (.tuple [.str s.name, .tuple (s.ears.map siD), .tuple (s.tab.map .int)]), .no, .no, .no, .no, .no, .no, .no] := rfl
      simp only [m_lean_singer, fnRun, b_lean_singer, e0, List.length_cons, List.length_nil, Nat.zero_add, Nat.reduceAdd, if_true]
      simp [hc, g1, g2]
      rw [f1]
      simp
      rw [f2]
      simp
end G
set_option Elab.async false
set_option linter.all false
set_option maxRecDepth 100000
set_option maxHeartbeats 1000000
namespace G
open PySem DL
local instance : DL.TabCtx := ⟨[]⟩
theorem leaned_ok {many : Int} {m : Nat} (hm : many = m) {ss : List Sg} (h : Good many ss) : m_leaned [chD many ss] = .ok (chD many (ss.map (leanS m))) := by
  have h4 := h.l4
  simp [m_leaned, b_leaned, fnRun, start0, chD]
  rw [lc_map ss Sg.d (fun s => (leanS m s).d)]
  · simp [Function.comp_def]
  · simp
  · rfl
  · rw [e_LIM]; omega
  · exact fun s hs => ⟨_, rfl, by simp [lean_singer_ok hm h.m2 h.m4 (h.sg s hs)], rfl⟩
theorem lean_ok {many : Int} {m : Nat} (hm : many = m) {ss : List Sg} (h : Good many ss) : m_lean [chD many ss] = .ok (chD many (ss.map (leanS m))) := by
  simp [m_lean, b_lean, fnRun, start0, need_choir_ok h, leaned_ok hm h]
theorem lean_name (m : Nat) (s : Sg) : (leanS m s).name = s.name := by
  unfold leanS; split
  · rfl
  · split <;> rfl
theorem lean_ears (m : Nat) (s : Sg) : (leanS m s).ears = left m s := by
  unfold leanS; split
  · rename_i h; exact h.symm
  · split
    · rename_i h; exact h.symm
    · rfl
theorem varied_iff (ns : List Int) : varied ns = true ↔ ∃ a ∈ ns, ∃ b ∈ ns, a ≠ b := by
  have nd : ∀ xs : List Int, (dd xs).Nodup := by
    intro xs
    induction xs with
    | nil => exact List.nodup_nil
    | cons x xs ih =>
      unfold dd
      split
      · exact ih
      · rename_i h; exact List.nodup_cons.mpr ⟨fun z => h (dd_mem.mp z), ih⟩
  unfold varied
  rw [decide_eq_true_iff]
  constructor
  · intro h
    match hd : dd ns, h with
    | a :: b :: r, _ =>
      have hn := nd ns
      rw [hd] at hn
      refine ⟨a, dd_mem.mp (by rw [hd]; simp), b, dd_mem.mp (by rw [hd]; simp), fun z => ?_⟩
      subst z
      simp at hn
    | [], h => simp at h
    | [a], h => simp at h
  · rintro ⟨a, ha, b, hb, hab⟩
    have ha := dd_mem.mpr ha
    have hb := dd_mem.mpr hb
    match hd : dd ns with
    | [] => rw [hd] at ha; cases ha
    | [c] => rw [hd] at ha hb; simp at ha hb; exact absurd (ha.trans hb.symm) hab
    | _ :: _ :: _ => simp
/-- within the lines -/
def Rng (m : Nat) (h : Str × Int → Nat) : Prop := ∀ e, h e < m
/-- the line hangs on an ear -/
def Dep (m : Nat) (s : Sg) (e : Str × Int) : Prop := ∃ h h' : Str × Int → Nat, Rng m h ∧ Rng m h' ∧ (∀ f, f ≠ e → h f = h' f) ∧ sem m s h ≠ sem m s h'
theorem sem_congr {m : Nat} {s : Sg} {h h' : Str × Int → Nat} (he : ∀ e ∈ s.ears, h e = h' e) : sem m s h = sem m s h' := by
  unfold sem; rw [List.map_congr_left he]
theorem Dep.mem {m : Nat} {s : Sg} {e : Str × Int} (h : Dep m s e) : e ∈ s.ears := by
  obtain ⟨a, b, _, _, hf, hn⟩ := h
  refine Classical.byContradiction fun hc => hn (sem_congr fun f hf' => hf f fun z => hc (by rw [← z]; exact hf'))
def asg2 (e f : Str × Int) (x y : Nat) : Str × Int → Nat := fun g => if g = e then x else if g = f then y else 0
theorem asg2_rng {m : Nat} {e f : Str × Int} {x y : Nat} (hm : 0 < m) (hx : x < m) (hy : y < m) : Rng m (asg2 e f x y) := by
  intro g; unfold asg2; split
  · exact hx
  · split
    · exact hy
    · exact hm
theorem asg2_1 {e f : Str × Int} {x y : Nat} : asg2 e f x y e = x := if_pos rfl
theorem asg2_2 {e f : Str × Int} {x y : Nat} (h : e ≠ f) : asg2 e f x y f = y := by unfold asg2; rw [if_neg (Ne.symm h), if_pos rfl]
theorem rising2 {e f : Str × Int} (h : rising SrtQ.lexS [e, f] = true) : SrtQ.lexS e f = true := by simpa [rising] using h
theorem rising_ne {e f : Str × Int} (h : rising SrtQ.lexS [e, f] = true) : e ≠ f := fun z => by
  subst z
  have := rising2 h
  rw [SrtQ.lexS_asym this] at this
  cases this
theorem cnt1 {m : Nat} {s : Sg} {e : Str × Int} (he : s.ears = [e]) (hm : 0 < m) : cnt m s 0 = true ↔ Dep m s e := by
  unfold cnt
  rw [List.any_eq_true]
  simp only [varied_iff]
  have hl : s.ears.length = 1 := by rw [he]; rfl
  rw [if_neg (by omega)]
  have hrow : ∀ other line, (pr 0 line other).take s.ears.length = [line] := fun o l => by rw [hl]; rfl
  have hsem : ∀ h : Str × Int → Nat, sem m s h = s.tab.getD (plc m [h e]) 0 := fun h => by unfold sem; rw [he]; rfl
  constructor
  · rintro ⟨o, _, a, ha, b, hb, hab⟩
    obtain ⟨x, hx, rfl⟩ := List.mem_map.mp ha
    obtain ⟨y, hy, rfl⟩ := List.mem_map.mp hb
    rw [hrow, hrow] at hab
    have hx := List.mem_range.mp hx
    have hy := List.mem_range.mp hy
    refine ⟨asg2 e e x 0, asg2 e e y 0, asg2_rng hm hx hm, asg2_rng hm hy hm, fun f hf => by simp [asg2, hf], ?_⟩
    rw [hsem, hsem, asg2_1, asg2_1]; exact hab
  · rintro ⟨h, h', r, r', _, hn⟩
    rw [hsem, hsem] at hn
    refine ⟨0, by simp, _, List.mem_map.mpr ⟨h e, List.mem_range.mpr (r e), rfl⟩, _, List.mem_map.mpr ⟨h' e, List.mem_range.mpr (r' e), rfl⟩, ?_⟩
    rw [hrow, hrow]; exact hn
theorem cnt2 {m : Nat} {s : Sg} {e f : Str × Int} (he : s.ears = [e, f]) (hef : e ≠ f) (hm : 0 < m) : (cnt m s 0 = true ↔ Dep m s e) ∧ (cnt m s 1 = true ↔ Dep m s f) := by
  unfold cnt
  simp only [List.any_eq_true, varied_iff]
  have hl : s.ears.length = 2 := by rw [he]; rfl
  rw [if_pos hl]
  have hrow0 : ∀ other line, (pr 0 line other).take s.ears.length = [line, other] := fun o l => by rw [hl]; rfl
  have hrow1 : ∀ other line, (pr 1 line other).take s.ears.length = [other, line] := fun o l => by rw [hl]; rfl
  have hsem : ∀ h : Str × Int → Nat, sem m s h = s.tab.getD (plc m [h e, h f]) 0 := fun h => by unfold sem; rw [he]; rfl
  constructor
  · constructor
    · rintro ⟨o, ho, a, ha, b, hb, hab⟩
      obtain ⟨x, hx, rfl⟩ := List.mem_map.mp ha
      obtain ⟨y, hy, rfl⟩ := List.mem_map.mp hb
      rw [hrow0, hrow0] at hab
      have ho := List.mem_range.mp ho
      have hx := List.mem_range.mp hx
      have hy := List.mem_range.mp hy
      refine ⟨asg2 e f x o, asg2 e f y o, asg2_rng hm hx ho, asg2_rng hm hy ho, fun g hg => by unfold asg2; rw [if_neg hg, if_neg hg], ?_⟩
      rw [hsem, hsem, asg2_1, asg2_1, asg2_2 hef, asg2_2 hef]; exact hab
    · rintro ⟨h, h', r, r', hc, hn⟩
      rw [hsem, hsem, ← hc f (Ne.symm hef)] at hn
      refine ⟨h f, List.mem_range.mpr (r f), _, List.mem_map.mpr ⟨h e, List.mem_range.mpr (r e), rfl⟩, _, List.mem_map.mpr ⟨h' e, List.mem_range.mpr (r' e), rfl⟩, ?_⟩
      rw [hrow0, hrow0]; exact hn
  · constructor
    · rintro ⟨o, ho, a, ha, b, hb, hab⟩
      obtain ⟨x, hx, rfl⟩ := List.mem_map.mp ha
      obtain ⟨y, hy, rfl⟩ := List.mem_map.mp hb
      rw [hrow1, hrow1] at hab
      have ho := List.mem_range.mp ho
      have hx := List.mem_range.mp hx
      have hy := List.mem_range.mp hy
      refine ⟨asg2 e f o x, asg2 e f o y, asg2_rng hm ho hx, asg2_rng hm ho hy, fun g hg => by unfold asg2; rw [if_neg hg, if_neg hg], ?_⟩
      rw [hsem, hsem, asg2_1, asg2_1, asg2_2 hef, asg2_2 hef]; exact hab
    · rintro ⟨h, h', r, r', hc, hn⟩
      rw [hsem, hsem, ← hc e hef] at hn
      refine ⟨h e, List.mem_range.mpr (r e), _, List.mem_map.mpr ⟨h f, List.mem_range.mpr (r f), rfl⟩, _, List.mem_map.mpr ⟨h' f, List.mem_range.mpr (r' f), rfl⟩, ?_⟩
      rw [hrow1, hrow1]; exact hn
end G
set_option Elab.async false
set_option linter.all false
set_option maxRecDepth 100000
set_option maxHeartbeats 1000000
namespace G
open PySem DL
local instance : DL.TabCtx := ⟨[]⟩
def upd1 (h : Str × Int → Nat) (e : Str × Int) (v : Nat) : Str × Int → Nat := fun g => if g = e then v else h g
theorem upd1_rng {m : Nat} {h : Str × Int → Nat} (r : Rng m h) {e : Str × Int} {v : Nat} (hv : v < m) : Rng m (upd1 h e v) := fun g => by
  unfold upd1; split
  · exact hv
  · exact r g
theorem sem_step {m : Nat} {s : Sg} {h : Str × Int → Nat} (r : Rng m h) {e : Str × Int} {v : Nat} (hv : v < m) (hd : Dep m s e → h e = v) : sem m s h = sem m s (upd1 h e v) := by
  by_cases c : Dep m s e
  · have : upd1 h e v = h := by
      funext g; unfold upd1; split
      · rename_i z; rw [z, hd c]
      · rfl
    rw [this]
  · refine Classical.byContradiction fun hn => c ⟨h, upd1 h e v, r, upd1_rng r hv, fun f hf => ?_, hn⟩
    unfold upd1; rw [if_neg hf]
theorem sem_dep {m : Nat} {s : Sg} (hl : s.ears.length ≤ 2) {h h' : Str × Int → Nat} (r : Rng m h) (r' : Rng m h') (hd : ∀ e, Dep m s e → h e = h' e) : sem m s h = sem m s h' := by
  match he : s.ears, hl with
  | [], _ => exact sem_congr (by rw [he]; intro e hh; cases hh)
  | [e], _ =>
    rw [sem_step r (r' e) (hd e)]
    exact sem_congr (by rw [he]; intro g hg; rw [List.mem_singleton.mp hg]; exact if_pos rfl)
  | [e, f], _ =>
    rw [sem_step r (r' e) (hd e), sem_step (e := f) (upd1_rng r (r' e)) (r' f) (fun c => by
      unfold upd1
      by_cases z : f = e
      · rw [if_pos z, z]
      · rw [if_neg z]; exact hd f c)]
    refine sem_congr ?_
    rw [he]
    intro g hg
    simp at hg
    rcases hg with rfl | rfl
    · unfold upd1; split
      · rename_i z; rw [z]
      · rw [if_pos rfl]
    · exact if_pos rfl
theorem left_mem {many : Int} {m : Nat} (hm : 0 < m) {names : List Str} {s : Sg} (hs : GSg many names s) (e : Str × Int) : e ∈ left m s ↔ Dep m s e := by
  have hr := hs.rise
  have hl := hs.elen
  match he : s.ears, hl with
  | [], _ =>
    have : left m s = [] := by have := left_sub (m := m) (s := s); rw [he] at this; exact List.sublist_nil.mp this
    rw [this]
    exact ⟨fun h => (nomatch h), fun h => (by have := h.mem; rw [he] at this; exact (nomatch this))⟩
  | [a], _ =>
    have hc := cnt1 he hm
    have hleft : left m s = if cnt m s 0 = true then [a] else [] := by
      unfold left; rw [he]; cases h : cnt m s 0 <;> simp [h]
    rw [hleft]
    constructor
    · intro h
      split at h
      · rename_i c; rw [List.mem_singleton.mp h]; exact hc.mp c
      · cases h
    · intro h
      have := h.mem
      rw [he] at this
      have e1 := List.mem_singleton.mp this
      subst e1
      rw [if_pos (hc.mpr h)]; exact List.mem_singleton.mpr rfl
  | [a, b], _ =>
    rw [he] at hr
    have hab := rising_ne hr
    obtain ⟨c0, c1⟩ := cnt2 he hab hm
    have hleft : left m s = (if cnt m s 0 = true then [a] else []) ++ (if cnt m s 1 = true then [b] else []) := by
      unfold left; rw [he]; cases h : cnt m s 0 <;> cases h1 : cnt m s 1 <;> simp [h, h1]
    rw [hleft, List.mem_append]
    constructor
    · rintro (h | h)
      · split at h
        · rename_i c; rw [List.mem_singleton.mp h]; exact c0.mp c
        · cases h
      · split at h
        · rename_i c; rw [List.mem_singleton.mp h]; exact c1.mp c
        · cases h
    · intro h
      have := h.mem
      rw [he] at this
      simp at this
      rcases this with rfl | rfl
      · left; rw [if_pos (c0.mpr h)]; exact List.mem_singleton.mpr rfl
      · right; rw [if_pos (c1.mpr h)]; exact List.mem_singleton.mpr rfl
/-- the table, by what is sung -/
def tabOf (m : Nat) (s : Sg) : List (Str × Int) → List Int
  | [] => [sem m s fun _ => 0]
  | [e] => (List.range m).map fun x => sem m s (asg2 e e x 0)
  | e :: f :: _ => (List.range (m * m)).map fun i => sem m s (asg2 e f (i / m) (i % m))
theorem tab_range {tab : List Int} {n : Nat} (h : tab.length = n) : (List.range n).map (fun i => tab.getD i 0) = tab := by
  apply List.ext_getElem?
  intro i
  rw [List.getElem?_map]
  by_cases hi : i < n
  · rw [List.getElem?_range hi, Option.map_some, List.getD_eq_getElem?_getD, List.getElem?_eq_getElem (by omega)]; rfl
  · rw [List.getElem?_eq_none (by rw [List.length_range]; omega), List.getElem?_eq_none (by omega)]; rfl
theorem plc1 (m x : Nat) : plc m [x] = x := by simp [plc]
theorem plc2 (m x y : Nat) : plc m [x, y] = x * m + y := by simp [plc]
theorem tlen_nat {many : Int} {m : Nat} (hm : many = m) {names : List Str} {s : Sg} (hs : GSg many names s) : s.tab.length = m ^ s.ears.length := by
  have := hs.tlen
  rw [hm] at this
  have h5 : ((m ^ s.ears.length : Nat) : Int) = (m : Int) ^ s.ears.length := by push_cast; rfl
  omega
theorem take1 {tab : List Int} (h : 0 < tab.length) : tab.take 1 = [tab.getD 0 0] := by
  cases tab with
  | nil => simp at h
  | cons t ts => simp
theorem sem0 {m : Nat} {s : Sg} (hl : s.ears.length ≤ 2) : sem m s (fun _ => 0) = s.tab.getD 0 0 := by
  unfold sem
  match he : s.ears, hl with
  | [], _ => rfl
  | [a], _ => simp [plc]
  | [a, b], _ => simp [plc]
theorem lean_tab {many : Int} {m : Nat} (hm : many = m) (h2 : 2 ≤ many) {names : List Str} {s : Sg} (hs : GSg many names s) : (leanS m s).tab = tabOf m s (left m s) := by
  have hm0 : 0 < m := by omega
  have hr := hs.rise
  have hl := hs.elen
  have ht := tlen_nat hm hs
  have hpos : 0 < s.tab.length := by rw [ht]; exact Nat.pow_pos hm0
  have hsub := left_sub (m := m) (s := s)
  have z0 := sem0 (m := m) hl
  by_cases c2 : left m s = []
  · have hT : tabOf m s (left m s) = [s.tab.getD 0 0] := by rw [c2]; show [sem m s fun _ => 0] = _; rw [z0]
    rw [hT]
    by_cases c1 : left m s = s.ears
    · have : leanS m s = s := if_pos c1
      rw [this]
      rw [c2] at c1
      rw [← c1] at ht
      match h : s.tab, ht with
      | [t], _ => rfl
    · have : leanS m s = ⟨s.name, [], s.tab.take 1⟩ := by unfold leanS; rw [if_neg c1, if_pos c2]
      rw [this]; exact take1 hpos
  · by_cases c1 : left m s = s.ears
    · have : leanS m s = s := if_pos c1
      rw [this, c1]
      rw [c1] at c2
      match he : s.ears, hl with
      | [], _ => exact absurd he c2
      | [e], _ =>
        rw [he] at ht
        have ht : s.tab.length = m := by simpa using ht
        show s.tab = (List.range m).map fun x => sem m s (asg2 e e x 0)
        conv => lhs; rw [← tab_range ht]
        refine List.map_congr_left fun x _ => ?_
        unfold sem; rw [he, List.map_cons, List.map_nil, asg2_1, plc1]
      | [e, f], _ =>
        rw [he] at ht hr
        have hef := rising_ne hr
        have ht : s.tab.length = m * m := by simpa [Nat.pow_succ] using ht
        show s.tab = (List.range (m * m)).map fun i => sem m s (asg2 e f (i / m) (i % m))
        conv => lhs; rw [← tab_range ht]
        refine List.map_congr_left fun x _ => ?_
        unfold sem; rw [he, List.map_cons, List.map_cons, List.map_nil, asg2_1, asg2_2 hef, plc2, Nat.div_add_mod']
    · have : leanS m s = ⟨s.name, left m s, (List.range m).map fun line => s.tab.getD (if (left m s)[0]? = s.ears[0]? then line * m else line) 0⟩ := by unfold leanS; rw [if_neg c1, if_neg c2]
      rw [this]
      have hne : (left m s).length ≠ s.ears.length := fun h => c1 (hsub.eq_of_length h)
      have hn0 : (left m s).length ≠ 0 := fun h => c2 (List.length_eq_zero_iff.mp h)
      have hle := hsub.length_le
      match he : s.ears, hl with
      | [], _ => rw [he] at hle; simp at hle; exact absurd hle c2
      | [e], _ => rw [he] at hle hne; simp at hle hne; omega
      | [e, f], _ =>
        rw [he] at hr hsub hle hne
        have hef := rising_ne hr
        simp at hle hne
        obtain ⟨a, ha⟩ : ∃ a, left m s = [a] := List.length_eq_one_iff.mp (by omega)
        rw [ha]
        have hmem : a ∈ [e, f] := hsub.subset (by rw [ha]; exact List.mem_singleton.mpr rfl)
        show (List.range m).map (fun line => s.tab.getD (if ([a] : List (Str × Int))[0]? = ([e, f] : List (Str × Int))[0]? then line * m else line) 0) = (List.range m).map fun x => sem m s (asg2 a a x 0)
        refine List.map_congr_left fun x _ => ?_
        unfold sem
        rw [he, List.map_cons, List.map_cons, List.map_nil, plc2]
        simp at hmem
        rcases hmem with rfl | rfl
        · rw [if_pos (by rfl : ([a] : List (Str × Int))[0]? = ([a, f] : List (Str × Int))[0]?), asg2_1]
          have : asg2 a a x 0 f = 0 := by unfold asg2; rw [if_neg (Ne.symm hef), if_neg (Ne.symm hef)]
          rw [this, Nat.add_zero]
        · rw [if_neg (by simp; exact Ne.symm hef), asg2_1]
          have : asg2 a a x 0 e = 0 := by unfold asg2; rw [if_neg hef, if_neg hef]
          rw [this, Nat.zero_mul, Nat.zero_add]
theorem rising_srtd {es : List (Str × Int)} (hl : es.length ≤ 2) (h : rising SrtQ.lexS es = true) : SrtO.Srtd SrtQ.lexS es ∧ es.Nodup := by
  match es, hl with
  | [], _ => exact ⟨List.Pairwise.nil, List.nodup_nil⟩
  | [a], _ => exact ⟨List.pairwise_singleton _ _, by simp⟩
  | [a, b], _ => exact ⟨by simp [SrtQ.lexS_asym (rising2 h)], by simp [rising_ne h]⟩
theorem getD_map_range {f : Nat → Int} {n i : Nat} (h : i < n) : ((List.range n).map f).getD i 0 = f i := by
  rw [List.getD_eq_getElem?_getD, List.getElem?_map, List.getElem?_range h]; rfl
theorem left_len {m : Nat} {s : Sg} (hl : s.ears.length ≤ 2) : (left m s).length ≤ 2 := Nat.le_trans left_sub.length_le hl
theorem left_rise {many : Int} {m : Nat} {names : List Str} {s : Sg} (hs : GSg many names s) : rising SrtQ.lexS (left m s) = true := by
  have hsub := left_sub (m := m) (s := s)
  have hl := left_len (m := m) hs.elen
  by_cases c1 : left m s = s.ears
  · rw [c1]; exact hs.rise
  · have hne : (left m s).length ≠ s.ears.length := fun h => c1 (hsub.eq_of_length h)
    have hle := hsub.length_le
    have := hs.elen
    match h : left m s with
    | [] => rfl
    | [a] => rfl
    | _ :: _ :: _ => rw [h] at hle hne; simp at hle hne; omega
theorem lean_sem {many : Int} {m : Nat} (hm : many = m) (h2 : 2 ≤ many) {names : List Str} {s : Sg} (hs : GSg many names s) {h : Str × Int → Nat} (r : Rng m h) : sem m (leanS m s) h = sem m s h := by
  have hm0 : 0 < m := by omega
  have hl := hs.elen
  have key : ∀ h', Rng m h' → (∀ e ∈ left m s, h e = h' e) → sem m s h' = sem m s h := fun h' r' hh => (sem_dep hl r r' fun e he => hh e ((left_mem hm0 hs e).mpr he)).symm
  have e1 : sem m (leanS m s) h = (tabOf m s (left m s)).getD (plc m ((left m s).map h)) 0 := by
    have : sem m (leanS m s) h = (leanS m s).tab.getD (plc m ((leanS m s).ears.map h)) 0 := rfl
    rw [this, lean_tab hm h2 hs, lean_ears]
  rw [e1]
  have hll := left_len (m := m) hl
  have hr := left_rise (m := m) hs
  match hL : left m s, hll with
  | [], _ =>
    show sem m s (fun _ => 0) = _
    exact key _ (fun _ => hm0) fun e he => by rw [hL] at he; cases he
  | [e], _ =>
    show ((List.range m).map fun x => sem m s (asg2 e e x 0)).getD (plc m [h e]) 0 = _
    rw [plc1, getD_map_range (r e)]
    exact key _ (asg2_rng hm0 (r e) hm0) fun g hg => by rw [hL] at hg; rw [List.mem_singleton.mp hg, asg2_1]
  | [e, f], _ =>
    rw [hL] at hr
    have hef := rising_ne hr
    show ((List.range (m * m)).map fun i => sem m s (asg2 e f (i / m) (i % m))).getD (plc m [h e, h f]) 0 = _
    have hlt : h e * m + h f < m * m := by
      have h3 : (h e + 1) * m ≤ m * m := Nat.mul_le_mul_right m (r e)
      rw [Nat.add_mul, Nat.one_mul] at h3
      have := r f
      omega
    rw [plc2, getD_map_range hlt]
    have d1 : (h e * m + h f) / m = h e := by rw [Nat.mul_comm, Nat.mul_add_div hm0, Nat.div_eq_of_lt (r f), Nat.add_zero]
    have d2 : (h e * m + h f) % m = h f := by rw [Nat.mul_comm, Nat.mul_add_mod, Nat.mod_eq_of_lt (r f)]
    rw [d1, d2]
    refine key _ (asg2_rng hm0 (r e) (r f)) fun g hg => ?_
    rw [hL] at hg
    simp at hg
    rcases hg with rfl | rfl
    · rw [asg2_1]
    · rw [asg2_2 hef]
theorem tabOf_len {m : Nat} {s : Sg} : ∀ {L : List (Str × Int)}, L.length ≤ 2 → (tabOf m s L).length = m ^ L.length
  | [], _ => rfl
  | [e], _ => by simp [tabOf]
  | [e, f], _ => by simp [tabOf, Nat.pow_succ]
theorem sem_rng {many : Int} {m : Nat} (hm : many = m) {names : List Str} {s : Sg} (hs : GSg many names s) {h : Str × Int → Nat} (r : Rng m h) : 0 ≤ sem m s h ∧ sem m s h < many := by
  obtain ⟨v, hv⟩ := tab_ex hm hs (xs := s.ears.map h) (fun x hx => by obtain ⟨e, _, rfl⟩ := List.mem_map.mp hx; exact r e) (List.length_map ..)
  have : sem m s h = v := by unfold sem; rw [List.getD_eq_getElem?_getD, hv]; rfl
  rw [this]
  exact hs.tab v (List.mem_of_getElem? hv)
theorem lean_good1 {many : Int} {m : Nat} (hm : many = m) (h2 : 2 ≤ many) {names : List Str} {s : Sg} (hs : GSg many names s) : GSg many names (leanS m s) := by
  have hm0 : 0 < m := by omega
  have hll := left_len (m := m) hs.elen
  refine ⟨by rw [lean_name]; exact hs.word, by rw [lean_ears]; exact hll, fun e he => hs.ear e (left_sub.subset (by rw [lean_ears] at he; exact he)), by rw [lean_ears]; exact left_rise hs, ?_, fun t ht => ?_⟩
  · rw [lean_tab hm h2 hs, lean_ears, tabOf_len hll, hm]; push_cast; rfl
  · rw [lean_tab hm h2 hs] at ht
    match hL : left m s, hll with
    | [], _ =>
      rw [hL] at ht
      rw [List.mem_singleton.mp ht]
      exact sem_rng hm hs fun _ => hm0
    | [e], _ =>
      rw [hL] at ht
      obtain ⟨x, hx, rfl⟩ := List.mem_map.mp ht
      exact sem_rng hm hs (asg2_rng hm0 (List.mem_range.mp hx) hm0)
    | [e, f], _ =>
      rw [hL] at ht
      obtain ⟨i, hi, rfl⟩ := List.mem_map.mp ht
      exact sem_rng hm hs (asg2_rng hm0 (Nat.div_lt_of_lt_mul (List.mem_range.mp hi)) (Nat.mod_lt _ hm0))
end G
set_option Elab.async false
set_option linter.all false
set_option maxRecDepth 100000
set_option maxHeartbeats 1000000
namespace G
open PySem DL
local instance : DL.TabCtx := ⟨[]⟩
theorem imm_row (r : List Nat) : imm (rowD r) = true := immL_map fun _ _ => rfl
theorem imm_st (st : List (List Nat)) : imm (stD st) = true := immL_map fun r _ => imm_row r
theorem standing_step {many : Int} {m : Nat} (hm : many = m) (h2 : 2 ≤ many) (h4 : many ≤ 4) (ss : List Sg) (s : Int × Int) (st : List (List Nat)) (hl : st.length < 1000) (d : PyData) : ∃ (s' : Int × Int) (r : List Nat), b_law_any_standing_L1 [.ow (dcD s), .sh (chD many ss), .ow (.list (st.map rowD)), .sh d, .no] = .nx [.ow (dcD s'), .sh (chD many ss), .ow (.list ((st ++ [r]).map rowD)), .sh d, .no] ∧ r.length = 3 ∧ ∀ x ∈ r, x < m := by
  have hrg : rg1 [.int 3] = some (rangeD 0 3) := rfl
  have i0 : gIx (chD many ss) (.int 0) = some (.int many) := rfl
  obtain ⟨bs, s', h1, h2, h3⟩ := lc_dice (vs := [4]) (a := opI rg1 (aC (cD (.int 3)) aN)) (g := setS 4) (e := callL 0 m_law_roll (aC (op2 gIx (vN 1) (cD (.int 0))) aN)) (fun s => [.ow (dcD s), .sh (chD many ss), .ow (.list (st.map rowD)), .sh d, .no]) natD (fun b => b < m) (rangeD 0 3) s (by simp [hrg]) rfl (by decide) (fun _ _ v hv => by simp at hv; subst hv; rfl) (fun d' _ s => by
    obtain ⟨r, s', q1, q2, q3⟩ := roll_ex s many (by omega) (by omega)
    refine ⟨r.toNat, s', _, [.ow (dcD s'), .sh (chD many ss), .ow (.list (st.map rowD)), .sh d, .sh d'], rfl, ?_, by omega, rfl⟩
    have e : natD r.toNat = .int r := by unfold natD; rw [Int.toNat_of_nonneg q2]
    rw [e]
    simp [i0, q1])
  refine ⟨s', bs, ?_, h2, h3⟩
  have al : st.length < 1000000 := by omega
  simp [b_law_any_standing_L1, h1, al]
theorem any_standing_ok {many : Int} {m : Nat} (hm : many = m) (h2 : 2 ≤ many) (h4 : many ≤ 4) (ss : List Sg) (hl : ss.length ≤ 4) (s : Int × Int) : ∃ (st : List (List Nat)) (s' : Int × Int), m_law_any_standing (dcD s) [chD many ss] = .ok (stD st, dcD s') ∧ GSt m ss.length st := by
  obtain ⟨ρ', h1, s', st, x3, rfl, hlen, hrow⟩ := loop_inv (g := setS 3) (fb := b_law_any_standing_L1) (ds := ss.map Sg.d) (fun i ρ => ∃ (s' : Int × Int) (st : List (List Nat)) (x3 : Sl), ρ = [.ow (dcD s'), .sh (chD many ss), .ow (.list (st.map rowD)), x3, .no] ∧ st.length = i ∧ ∀ r ∈ st, r.length = 3 ∧ ∀ x ∈ r, x < m) (fun i d ρ hd hI => by
    obtain ⟨s1, st, x3, rfl, h3, h4'⟩ := hI
    have hi : i < ss.length := by have := (List.getElem?_eq_some_iff.mp hd).1; rw [List.length_map] at this; exact this
    obtain ⟨s2, r, k1, k2, k3⟩ := standing_step hm h2 h4 ss s1 st (by omega) d
    refine ⟨_, _, rfl, k1, s2, st ++ [r], .sh d, rfl, by simp [h3], fun q hq => ?_⟩
    rcases List.mem_append.mp hq with h | h
    · exact h4' q h
    · rw [List.mem_singleton.mp h]; exact ⟨k2, k3⟩) (ρ := [.ow (dcD s), .sh (chD many ss), .ow (.list []), .no, .no]) ⟨s, [], .no, rfl, rfl, fun r hr => by cases hr⟩
  rw [List.length_map] at hlen
  have i1 : gIx (chD many ss) (.int 1) = some (.tuple (ss.map Sg.d)) := rfl
  have him : imm (.tuple (st.map rowD)) = true := imm_st st
  refine ⟨st, s', ?_, hlen, hrow⟩
  simp [m_law_any_standing, b_law_any_standing, fnRunL, start1, i1, h1, him, stD]
def beh (st : List (List Nat)) (ls : List Nat) : List (List Nat) := (st.zip ls).map fun p => p.1.drop 1 ++ [p.2]
def nxN (m : Nat) (ss : List Sg) (st : List (List Nat)) : List Nat := (nxt m ss st).map Int.toNat
def onV (m : Nat) (ss : List Sg) (st : List (List Nat)) : List (List Nat) := beh st (nxN m ss st)
theorem nxN_len {m : Nat} {ss : List Sg} {st : List (List Nat)} : (nxN m ss st).length = ss.length := by unfold nxN nxt; rw [List.length_map, List.length_map]
theorem onV_good {many : Int} {m : Nat} (hm : many = m) {ss : List Sg} (h : Good many ss) {st : List (List Nat)} (hst : GSt m ss.length st) : GSt m ss.length (onV m ss st) := by
  refine ⟨by unfold onV beh; rw [List.length_map, List.length_zip, nxN_len, hst.len, Nat.min_self], fun r hr => ?_⟩
  obtain ⟨p, hp, rfl⟩ := List.mem_map.mp hr
  obtain ⟨h1, h2⟩ := hst.row p.1 (List.of_mem_zip hp).1
  have m2 := h.m2
  refine ⟨by rw [List.length_append, List.length_drop, h1]; rfl, fun x hx => ?_⟩
  rcases List.mem_append.mp hx with hx | hx
  · exact h2 x (List.mem_of_mem_drop hx)
  · rw [List.mem_singleton.mp hx]
    obtain ⟨v, hv, e⟩ := List.mem_map.mp (List.of_mem_zip hp).2
    obtain ⟨s, hs, rfl⟩ := List.mem_map.mp hv
    have := sem_rng hm (h.sg s hs) fun e => hrd_lt hst (by omega) e
    rw [← e]; omega
def stAt (m : Nat) (ss : List Sg) (st : List (List Nat)) : Nat → List (List Nat)
  | 0 => st
  | n + 1 => onV m ss (stAt m ss st n)
theorem stAt_good {many : Int} {m : Nat} (hm : many = m) {ss : List Sg} (h : Good many ss) {st : List (List Nat)} (hst : GSt m ss.length st) : ∀ n, GSt m ss.length (stAt m ss st n)
  | 0 => hst
  | n + 1 => onV_good hm h (stAt_good hm h hst n)
def rowsV (m : Nat) (ss : List Sg) (st : List (List Nat)) (n : Nat) : List (List Nat) := (List.range n).map fun i => nxN m ss (stAt m ss st i)
end G
set_option Elab.async false
set_option linter.all false
set_option maxRecDepth 100000
set_option maxHeartbeats 1000000
namespace G
open PySem DL
local instance : DL.TabCtx := ⟨[]⟩
def tups (m : Nat) : Nat → List (List Nat)
  | 0 => [[]]
  | k + 1 => (tups m k).flatMap fun o => (List.range m).map fun l => o ++ [l]
theorem tups_mem {m : Nat} : ∀ {k : Nat} {l : List Nat}, l ∈ tups m k ↔ l.length = k ∧ ∀ x ∈ l, x < m
  | 0, l => by
    simp only [tups, List.mem_singleton]
    constructor
    · rintro rfl; exact ⟨rfl, fun x hx => by cases hx⟩
    · exact fun h => List.length_eq_zero_iff.mp h.1
  | k + 1, l => by
    simp only [tups, List.mem_flatMap, List.mem_map, List.mem_range]
    constructor
    · rintro ⟨o, ho, x, hx, rfl⟩
      obtain ⟨h1, h2⟩ := tups_mem.mp ho
      refine ⟨by simp [h1], fun y hy => ?_⟩
      rcases List.mem_append.mp hy with h | h
      · exact h2 y h
      · rw [List.mem_singleton.mp h]; exact hx
    · rintro ⟨h1, h2⟩
      have hne : l ≠ [] := fun z => by rw [z] at h1; simp at h1
      refine ⟨l.dropLast, tups_mem.mpr ⟨by rw [List.length_dropLast]; omega, fun x hx => h2 x (List.dropLast_subset l hx)⟩, l.getLast hne, h2 _ (List.getLast_mem hne), List.dropLast_concat_getLast hne⟩
theorem tups_len (m : Nat) : ∀ k, (tups m k).length = m ^ k
  | 0 => rfl
  | k + 1 => by
    show ((tups m k).flatMap fun o => (List.range m).map fun l => o ++ [l]).length = _
    have : ∀ xs : List (List Nat), (xs.flatMap fun o => (List.range m).map fun l => o ++ [l]).length = xs.length * m := by
      intro xs
      induction xs with
      | nil => simp
      | cons x xs ih => rw [List.flatMap_cons, List.length_append, ih, List.length_map, List.length_range, List.length_cons, Nat.add_mul]; omega
    rw [this, tups_len m k, Nat.pow_succ]
end G
set_option Elab.async false
set_option linter.all false
set_option maxRecDepth 100000
set_option maxHeartbeats 1000000
namespace G
open PySem DL
local instance : DL.TabCtx := ⟨[]⟩
section
variable {ρ : Rho} {d x y z : PyData} {ds : List PyData} {i j : Nat} {a b c : M PyData} {t : M Bool} {as : M (List PyData)} {ss : M (List Sl)} {f g : SM}
@[simp] theorem e_xN : xN ρ = .ok ([], ρ) := rfl
@[simp] theorem e_xSh : xSh a ss ρ = (M.bind a fun x => M.bind ss fun xs => M.pure (.sh x :: xs)) ρ := rfl
@[simp] theorem e_xOw : xOw a ss ρ = (M.bind a fun x => M.bind ss fun xs => M.pure (.ow x :: xs)) ρ := rfl
@[simp] theorem e_parO {is : List Nat} : parO is ss ρ = (exO ss fun ss ρ => if ss.length = is.length then .nx (setL is ss ρ) else .bad) ρ := rfl
@[simp] theorem e_setL {k : Nat} {ks : List Nat} {s : Sl} {ss : List Sl} : setL (k :: ks) (s :: ss) ρ = setL ks ss (ρ.set k s) := rfl
@[simp] theorem e_setL0 : setL [] [] ρ = ρ := rfl
@[simp] theorem e_ownFO : ownFO i a ρ = (exO a fun d ρ => .nx (ρ.set i (.ow d))) ρ := rfl
@[simp] theorem e_retF : retF a ρ = (exO a fun d ρ => .rf d ρ) ρ := rfl
@[simp] theorem e_callF {m : List PyData → R PyData} : callF m as ρ = (M.bind as fun ds => M.lift (immR (m ds))) ρ := rfl
@[simp] theorem e_slcL {l h : M (Option Int)} : slcL a l h ρ = (M.bind a fun x => M.bind l fun l => M.bind h fun h => M.opt (gCutL l h x)) ρ := rfl
@[simp] theorem e_cutL {lo hi : Option Int} : gCutL lo hi (.list ds) = some (.list (cutD ds lo hi)) := rfl
@[simp] theorem e_dsetO : dsetO i b a ρ = (exO a fun dv ρ => if isOw ρ[i]? = true then exO b (fun dk ρ => match ρ[i]? with
  | some (.ow (.dict ps)) => if keyOk ps dk = true ∧ ps.length < LIM then .nx (ρ.set i (.ow (.dict (dput ps dk dv)))) else .bad
  | _ => .bad) ρ else .bad) ρ := rfl
@[simp] theorem e_isDict {ps : List (PyData × PyData)} : isDict (.dict ps) = true := rfl
@[simp] theorem e_dget1 : dget1 a b ρ = (M.bind a fun d => if isDict d = true then M.bind b fun k => M.opt (gGet1 d k) else fun _ => .bad) ρ := rfl
@[simp] theorem e_dget2 : dget2 a b c ρ = (M.bind a fun d => if isDict d = true then M.bind b fun k => M.bind c fun x => M.opt (gGet2 d k x) else fun _ => .bad) ρ := rfl
end
theorem nkeys_map {α : Type} {enc : α → PyData} {key : α → NestedKey} (h : ∀ a, nkey (enc a) = some (key a)) : ∀ xs : List α, nkeys (xs.map enc) = some (xs.map key)
  | [] => by rw [List.map_nil, nkeys]; rfl
  | x :: xs => by rw [List.map_cons, nkeys, h, nkeys_map h xs]; rfl
theorem nkey_row (r : List Nat) : nkey (rowD r) = some (.tup (r.map fun n : Nat => .num (n : Int))) := by
  unfold rowD
  rw [nkey, nkeys_map (key := fun n : Nat => .num (n : Int)) fun a => by unfold natD; rw [nkey]]
  rfl
theorem depthAll_nums (r : List Nat) : NestedKey.depthAll (r.map fun n : Nat => .num (n : Int)) = 0 := by
  induction r with
  | nil => rw [List.map_nil, NestedKey.depthAll]
  | cons x r ih => rw [List.map_cons, NestedKey.depthAll, ih, NestedKey.depth]; rfl
theorem len_le_sub {α : Type} [DecidableEq α] : ∀ {l m : List α}, l.Nodup → (∀ x ∈ l, x ∈ m) → l.length ≤ m.length
  | [], _, _, _ => Nat.zero_le _
  | x :: l, m, h, hs => by
    obtain ⟨h1, h2⟩ := List.nodup_cons.mp h
    have hx := hs x (List.mem_cons_self ..)
    have := len_le_sub (l := l) (m := m.erase x) h2 fun y hy => by
      have ne : y ≠ x := fun e => h1 (by rw [← e]; exact hy)
      exact (List.mem_erase_of_ne ne).mpr (hs y (List.mem_cons_of_mem _ hy))
    rw [List.length_erase_of_mem hx] at this
    have : 0 < m.length := List.length_pos_of_mem hx
    simp only [List.length_cons]
    omega
end G
set_option Elab.async false
set_option linter.all false
set_option maxRecDepth 100000
set_option maxHeartbeats 1000000
namespace G
open PySem DL
local instance : DL.TabCtx := ⟨[]⟩
@[simp] theorem imm_intS (i : Int) : imm (.int i) = true := rfl
def knownD (f : Nat → List (List Nat)) (i : Nat) : List (PyData × PyData) := (List.range i).map fun j => (stD (f j), natD j)
def rowSt (f : Nat → List (List Nat)) (i : Nat) : List PyData := (List.range i).map fun j => stD (f j)
@[simp] theorem rowSt_len (f : Nat → List (List Nat)) (i : Nat) : (rowSt f i).length = i := by unfold rowSt; simp
@[simp] theorem knownD_len (f : Nat → List (List Nat)) (i : Nat) : (knownD f i).length = i := by unfold knownD; simp
end G
set_option Elab.async false
set_option linter.all false
set_option maxRecDepth 100000
set_option maxHeartbeats 1000000
namespace G
open PySem DL
local instance : DL.TabCtx := ⟨[]⟩
theorem lcrew_ok {many : Int} {ss : List Sg} (hl : ss.length ≤ LIM) : m_law_crew [chD many ss] = .ok (.list (ss.map fun s => .str s.name)) := by
  simp [m_law_crew, b_law_crew, fnRun, start0, chD]
  rw [lc_map ss Sg.d (fun s => .str s.name)]
  · simp
  · rfl
  · exact hl
  · exact fun s hs => ⟨_, rfl, by simp [Sg.d], rfl⟩
def col (st : List (List Nat)) (j : Nat) : List Nat := st.map fun r => r.getD j 0
def hist3 (st : List (List Nat)) : List (List Nat) := (List.range 3).map (col st)
theorem row_at {r : List Nat} (h : r.length = 3) {j : Nat} (hj : j < 3) : (r.map natD)[j]? = some (natD (r.getD j 0)) := by
  have : j < r.length := by omega
  rw [List.getElem?_map, List.getD_eq_getElem?_getD, List.getElem?_eq_getElem this]; rfl
theorem lhistory_ok {m n : Nat} {st : List (List Nat)} (hst : GSt m n st) (hn : n ≤ 4) : m_law_history [stD st] = .ok (.list ((hist3 st).map rowD)) := by
  have hrg : rg1 [.int 3] = some ((List.range 3).map fun i => PyData.int (i : Nat)) := rfl
  simp only [m_law_history, b_law_history, fnRunF, start0]
  simp
  rw [lc_map (List.range 3) (fun i => .int (i : Nat)) (fun j => rowD (col st j))]
  · simp [hist3, List.map_map, Function.comp_def]
  · simp [hrg]
  · rfl
  · decide
  · intro j hj
    rw [List.mem_range] at hj
    have f := lc_map (vs := [2]) (a := seqI (vN 0)) (g := setS 2) (e := op2 gIx (vN 2) (vN 1)) (ρ := [.sh (stD st), .sh (.int (j : Nat)), .no]) st rowD (fun r => natD (r.getD j 0)) (by simp [stD]) rfl (by rw [hst.len, e_LIM]; omega) (fun r hr => ⟨_, rfl, by
      have h1 := row_at (hst.row r hr).1 hj
      rw [List.getElem?_map] at h1
      simp [rowD, h1], rfl⟩)
    refine ⟨_, rfl, ?_, rfl⟩
    simp
    rw [f]
    simp [col, List.map_map, Function.comp_def]
/-- what is heard of an ear by a history -/
def hh (ss : List Sg) (hs : List (List Nat)) (b : Nat) (e : Str × Int) : Nat := (hs.getD ((b : Int) + 3 - e.2).toNat []).getD (nOf ss e.1) 0
theorem lheard_ok {many : Int} {ss : List Sg} {hs : List (List Nat)} {s : Sg} {b : Nat} (hl : ss.length ≤ 4) (hw : ∀ s ∈ ss, Wd s.name) (hb : b + 3 ≤ hs.length) (hr : ∀ r ∈ hs, r.length = ss.length) (hel : s.ears.length ≤ 2) (he : ∀ e ∈ s.ears, e.1 ∈ ss.map (·.name) ∧ 1 ≤ e.2 ∧ e.2 ≤ 3) :
    m_law_heard [chD many ss, .list (hs.map rowD), .tuple (s.ears.map siD), .int (b : Nat)] = .ok (.list (s.ears.map fun e => natD (hh ss hs b e))) := by
  have cr := lcrew_ok (many := many) (ss := ss) (by rw [e_LIM]; omega)
  simp only [m_law_heard, b_law_heard, fnRun, start0]
  simp [cr]
  rw [lc_map s.ears siD (fun e => natD (hh ss hs b e))]
  · simp
  · rfl
  · rw [e_LIM]; omega
  · intro e h
    obtain ⟨h1, h2, h3⟩ := he e h
    have hP : ∀ y ∈ (ss.map fun s => PyData.str s.name), P 0 y := fun y hy => by obtain ⟨s, h1, rfl⟩ := List.mem_map.mp hy; exact .str (hw s h1).2
    have hxw : Wd e.1 := by obtain ⟨s, q1, q2⟩ := List.mem_map.mp h1; rw [← q2]; exact hw s q1
    have h4 : gIndex (.list (ss.map fun s => PyData.str s.name)) [.str e.1] = some (.int (nOf ss e.1 : Nat)) := by
      show (if (SeqAt.shaped (.str e.1) && SeqAt.shaped (.list (ss.map fun s => PyData.str s.name))) = true then (findD (.str e.1) (ss.map fun s => PyData.str s.name)).map fun j => PyData.int (j : Nat) else none) = _
      have q1 : (ss.map fun s => PyData.str s.name) = (ss.map (·.name)).map PyData.str := by rw [List.map_map]; rfl
      rw [(P.str (k := 0) hxw.2).shaped (by decide), (P.list hP).shaped (by decide), q1, findD_str e.1 _ h1]
      rfl
    have h5 : ((b : Int) + 3 - e.2).toNat < hs.length := by omega
    obtain ⟨r, h6⟩ : ∃ r, hs[((b : Int) + 3 - e.2).toNat]? = some r := ⟨_, List.getElem?_eq_getElem h5⟩
    have h7 : atD (hs.map rowD) ((b : Int) + 3 - e.2) = some (rowD r) := by
      unfold atD
      rw [if_pos (by omega), List.getElem?_map, h6]; rfl
    have h8 : nOf ss e.1 < r.length := by
      rw [hr r (List.mem_of_getElem? h6), ← List.length_map (f := (·.name)) (as := ss)]
      exact List.idxOf_lt_length_of_mem h1
    have h9 : (r.map natD)[nOf ss e.1]? = some (natD (hh ss hs b e)) := by
      unfold hh
      rw [List.getElem?_map, List.getD_eq_getElem?_getD, List.getD_eq_getElem?_getD, h6, List.getElem?_eq_getElem h8]
      show _ = some (natD ((r[nOf ss e.1]?).getD 0))
      rw [List.getElem?_eq_getElem h8]; rfl
    refine ⟨_, rfl, ?_, rfl⟩
    rw [List.getElem?_map] at h9
    simp [siD, h4, h7, h9]
theorem ltells_loop {many : Int} (hm : -(2 ^ 64) < many ∧ many < 2 ^ 64) {dts : PyData} (h0 : gIx dts (.int 0) = some (.int many)) (x1 x2 x3 : Sl) (xs : List Int) : ∀ (a : Int) (x5 : Sl), ∃ x5', loopO (setS 5) b_law_tells_L1 (xs.map .int) [.sh dts, x1, x2, x3, .sh (.int a), x5] = .nx [.sh dts, x1, x2, x3, .sh (.int (xs.foldl (fun a x => a * many + x) a)), x5'] := by
  induction xs with
  | nil => exact fun a x5 => ⟨x5, rfl⟩
  | cons x xs ih =>
    intro a x5
    obtain ⟨y, h⟩ := ih (a * many + x) (.sh (.int x))
    refine ⟨y, ?_⟩
    have hs : setS 5 (.int x) [.sh dts, x1, x2, x3, .sh (.int a), x5] = .ok [.sh dts, x1, x2, x3, .sh (.int a), .sh (.int x)] := rfl
    have st : b_law_tells_L1 [.sh dts, x1, x2, x3, .sh (.int a), .sh (.int x)] = .nx [.sh dts, x1, x2, x3, .sh (.int (a * many + x)), .sh (.int x)] := by
      have hmul : gMul (.int a) (.int many) = some (.int (a * many)) := e_mul hm
      simp [b_law_tells_L1, h0, hmul]
    rw [List.map_cons, loopO]
    simp only [hs, st]
    exact h
theorem ltells_ok {many : Int} {m : Nat} (hm : many = m) {ss : List Sg} (h : Good many ss) {hs : List (List Nat)} {s : Sg} (hsm : s ∈ ss) {b : Nat} (hb : b + 3 ≤ hs.length) (hr : ∀ r ∈ hs, r.length = ss.length) (hx : ∀ e, hh ss hs b e < m) :
    m_law_tells [chD many ss, s.d, .list (hs.map rowD), .int (b : Nat)] = .ok (.int (sem m s (hh ss hs b))) := by
  have h4 := h.l4
  have m2 := h.m2
  have m4 := h.m4
  have hg := h.sg s hsm
  have k1 := lheard_ok (many := many) (ss := ss) (hs := hs) (s := s) (b := b) h.l4 (fun s hs => (h.sg s hs).word) hb hr hg.elen (fun e he => (hg.ear e he).2)
  have k2 := tab_at hm hg (xs := s.ears.map (hh ss hs b)) (fun x hx' => by obtain ⟨e, _, rfl⟩ := List.mem_map.mp hx'; exact hx e) (List.length_map ..)
  have i0 : gIx (chD many ss) (.int 0) = some (.int many) := rfl
  have i1 : gIx s.d (.int 1) = some (.tuple (s.ears.map siD)) := rfl
  have i2 : gIx s.d (.int 2) = some (.tuple (s.tab.map .int)) := rfl
  obtain ⟨y, hy⟩ := ltells_loop (many := many) (by omega) i0 (.sh s.d) (.sh (.list (hs.map rowD))) (.sh (.int (b : Nat))) (s.ears.map fun e => ((hh ss hs b e : Nat) : Int)) 0 .no
  have e1 : (s.ears.map fun e => ((hh ss hs b e : Nat) : Int)).map PyData.int = s.ears.map fun e => natD (hh ss hs b e) := by rw [List.map_map]; rfl
  have e2 : (s.ears.map fun e => ((hh ss hs b e : Nat) : Int)).foldl (fun a x => a * many + x) 0 = ((plc m (s.ears.map (hh ss hs b)) : Nat) : Int) := by
    have := foldl_cast m (s.ears.map (hh ss hs b)) 0
    rw [List.map_map, ← hm] at this
    exact this
  rw [e1, e2] at hy
  simp only [m_law_tells, b_law_tells, fnRun, start0]
  rw [List.getElem?_map] at k2
  simp [i1, i2, k1, hy, k2, sem]
section
variable (m : Nat) (ss : List Sg) (ld : Nat → Str → Option Nat)
def lrow (b : Nat) (st : List (List Nat)) : List Nat := ss.map fun s => (ld b s.name).getD (sem m s (hrd ss st)).toNat
def stL (st : List (List Nat)) : Nat → List (List Nat)
  | 0 => st
  | b + 1 => beh (stL st b) (lrow m ss ld b (stL st b))
def rowsL (st : List (List Nat)) (n : Nat) : List (List Nat) := (List.range n).map fun b => lrow m ss ld b (stL m ss ld st b)
def histL (st : List (List Nat)) (b : Nat) : List (List Nat) := hist3 st ++ rowsL m ss ld st b
end
section
variable {many : Int} {m : Nat} {ss : List Sg} {ld : Nat → Str → Option Nat} {st : List (List Nat)}
theorem lrow_len {b : Nat} {st : List (List Nat)} : (lrow m ss ld b st).length = ss.length := by unfold lrow; rw [List.length_map]
theorem lrow_lt (hm : many = m) (h : Good many ss) (hst : GSt m ss.length st) {b : Nat} (hl : ∀ x l, ld b x = some l → l < m) : ∀ x ∈ lrow m ss ld b st, x < m := by
  intro x hx
  obtain ⟨s, hs, rfl⟩ := List.mem_map.mp hx
  have m2 := h.m2
  cases e : ld b s.name with
  | some l => exact hl _ _ e
  | none =>
    have := sem_rng hm (h.sg s hs) fun e => hrd_lt hst (by omega) e
    show (sem m s (hrd ss st)).toNat < m
    omega
theorem beh_good {n : Nat} (hst : GSt m n st) {r : List Nat} (hr : r.length = n) (hx : ∀ x ∈ r, x < m) : GSt m n (beh st r) := by
  refine ⟨by unfold beh; rw [List.length_map, List.length_zip, hr, hst.len, Nat.min_self], fun q hq => ?_⟩
  obtain ⟨p, hp, rfl⟩ := List.mem_map.mp hq
  obtain ⟨h1, h2⟩ := hst.row p.1 (List.of_mem_zip hp).1
  refine ⟨by rw [List.length_append, List.length_drop, h1]; rfl, fun x hx' => ?_⟩
  rcases List.mem_append.mp hx' with hx' | hx'
  · exact h2 x (List.mem_of_mem_drop hx')
  · rw [List.mem_singleton.mp hx']; exact hx _ (List.of_mem_zip hp).2
theorem stL_good (hm : many = m) (h : Good many ss) (hst : GSt m ss.length st) (hl : ∀ b x l, ld b x = some l → l < m) : ∀ b, GSt m ss.length (stL m ss ld st b)
  | 0 => hst
  | b + 1 => beh_good (stL_good hm h hst hl b) lrow_len (lrow_lt hm h (stL_good hm h hst hl b) (hl b))
theorem beh_at {n : Nat} (hst : GSt m n st) {r : List Nat} (hr : r.length = n) {i : Nat} (hi : i < n) : (beh st r).getD i [] = (st.getD i []).drop 1 ++ [r.getD i 0] := by
  unfold beh
  have h1 : i < st.length := by rw [hst.len]; exact hi
  have h2 : i < r.length := by omega
  rw [List.getD_eq_getElem?_getD, List.getElem?_map, List.getD_eq_getElem?_getD, List.getD_eq_getElem?_getD, List.getElem?_eq_getElem h1, List.getElem?_eq_getElem h2]
  have : (st.zip r)[i]? = some (st[i], r[i]) := by rw [List.getElem?_zip_eq_some]; exact ⟨List.getElem?_eq_getElem h1, List.getElem?_eq_getElem h2⟩
  rw [this]; rfl
theorem histL_len {b : Nat} : (histL m ss ld st b).length = b + 3 := by
  unfold histL hist3 rowsL
  rw [List.length_append, List.length_map, List.length_map, List.length_range, List.length_range]; omega
theorem histL_succ {b : Nat} : histL m ss ld st (b + 1) = histL m ss ld st b ++ [lrow m ss ld b (stL m ss ld st b)] := by
  unfold histL rowsL
  rw [List.range_succ, List.map_append, List.append_assoc]; rfl
theorem histL_row (hst : GSt m ss.length st) {b : Nat} : ∀ r ∈ histL m ss ld st b, r.length = ss.length := by
  intro r hr
  rcases List.mem_append.mp hr with h | h
  · obtain ⟨j, _, rfl⟩ := List.mem_map.mp h
    unfold col; rw [List.length_map, hst.len]
  · obtain ⟨j, _, rfl⟩ := List.mem_map.mp h
    exact lrow_len
/-- the standing ahead of a beat stands in the history -/
theorem hist_at (hm : many = m) (h : Good many ss) (hst : GSt m ss.length st) (hl : ∀ b x l, ld b x = some l → l < m) : ∀ (b : Nat) {i j : Nat}, i < ss.length → j < 3 → ((histL m ss ld st b).getD (b + j) []).getD i 0 = ((stL m ss ld st b).getD i []).getD j 0
  | 0, i, j, hi, hj => by
    have hi' : i < st.length := by rw [hst.len]; exact hi
    have e : histL m ss ld st 0 = hist3 st := by unfold histL rowsL; simp
    have e2 : (hist3 st).getD (0 + j) [] = col st j := by
      unfold hist3
      rw [Nat.zero_add, List.getD_eq_getElem?_getD, List.getElem?_map, List.getElem?_range hj]; rfl
    rw [e, e2]
    show (col st j).getD i 0 = (st.getD i []).getD j 0
    unfold col
    rw [List.getD_eq_getElem?_getD, List.getElem?_map, List.getElem?_eq_getElem hi']
    show st[i].getD j 0 = (st.getD i []).getD j 0
    rw [List.getD_eq_getElem?_getD (l := st), List.getElem?_eq_getElem hi']; rfl
  | b + 1, i, j, hi, hj => by
    have hg := stL_good hm h hst hl b
    have ih := fun j hj => hist_at hm h hst hl b (i := i) (j := j) hi hj
    have hrow : ((stL m ss ld st b).getD i []).length = 3 := by
      have hi' : i < (stL m ss ld st b).length := by rw [hg.len]; exact hi
      rw [List.getD_eq_getElem?_getD, List.getElem?_eq_getElem hi']
      exact (hg.row _ (List.getElem_mem hi')).1
    have eb : (stL m ss ld st (b + 1)).getD i [] = ((stL m ss ld st b).getD i []).drop 1 ++ [(lrow m ss ld b (stL m ss ld st b)).getD i 0] := beh_at hg lrow_len hi
    rw [eb, histL_succ]
    have hlen := histL_len (m := m) (ss := ss) (ld := ld) (st := st) (b := b)
    by_cases h2 : j < 2
    · have a1 : (histL m ss ld st b ++ [lrow m ss ld b (stL m ss ld st b)]).getD (b + 1 + j) [] = (histL m ss ld st b).getD (b + (j + 1)) [] := by
        rw [List.getD_eq_getElem?_getD, List.getElem?_append_left (by omega), List.getD_eq_getElem?_getD, show b + 1 + j = b + (j + 1) by omega]
      rw [a1, ih (j + 1) (by omega)]
      generalize (stL m ss ld st b).getD i [] = rr at hrow
      rw [List.getD_eq_getElem?_getD, List.getD_eq_getElem?_getD, List.getElem?_append_left (by rw [List.length_drop, hrow]; omega), List.getElem?_drop, Nat.add_comm 1 j]
    · have e2 : j = 2 := by omega
      subst e2
      have a1 : (histL m ss ld st b ++ [lrow m ss ld b (stL m ss ld st b)]).getD (b + 1 + 2) [] = lrow m ss ld b (stL m ss ld st b) := by
        rw [List.getD_eq_getElem?_getD, List.getElem?_append_right (by omega), hlen, show b + 1 + 2 - (b + 3) = 0 by omega]; rfl
      rw [a1]
      conv => rhs; rw [List.getD_eq_getElem?_getD, List.getElem?_append_right (by rw [List.length_drop, hrow]; omega), List.length_drop, hrow]
      rfl
theorem hh_hrd (hm : many = m) (h : Good many ss) (hst : GSt m ss.length st) (hl : ∀ b x l, ld b x = some l → l < m) (b : Nat) {e : Str × Int} (he : e.1 ∈ ss.map (·.name) ∧ 1 ≤ e.2 ∧ e.2 ≤ 3) : hh ss (histL m ss ld st b) b e = hrd ss (stL m ss ld st b) e := by
  unfold hh hrd
  have hi : nOf ss e.1 < ss.length := by
    rw [← List.length_map (f := (·.name)) (as := ss)]; exact List.idxOf_lt_length_of_mem he.1
  have := hist_at hm h hst hl b (i := nOf ss e.1) (j := (3 - e.2).toNat) hi (by omega)
  rw [← this]
  congr 2
  omega
theorem hh_lt (hm : many = m) (h : Good many ss) (hst : GSt m ss.length st) (hl : ∀ b x l, ld b x = some l → l < m) (b : Nat) (e : Str × Int) : hh ss (histL m ss ld st b) b e < m := by
  have m2 := h.m2
  unfold hh
  rw [List.getD_eq_getElem?_getD, List.getD_eq_getElem?_getD]
  cases q : (histL m ss ld st b)[((b : Int) + 3 - e.2).toNat]? with
  | none => show ([] : List Nat)[nOf ss e.1]?.getD 0 < m; simp; omega
  | some r =>
    show r[nOf ss e.1]?.getD 0 < m
    have hx : ∀ x ∈ r, x < m := by
      rcases List.mem_append.mp (List.mem_of_getElem? q) with z | z
      · obtain ⟨j, _, rfl⟩ := List.mem_map.mp z
        intro x hx
        obtain ⟨r, hr, rfl⟩ := List.mem_map.mp hx
        rw [List.getD_eq_getElem?_getD]
        cases q2 : r[j]? with
        | none => show 0 < m; omega
        | some y => exact (hst.row r hr).2 y (List.mem_of_getElem? q2)
      · obtain ⟨j, _, rfl⟩ := List.mem_map.mp z
        exact lrow_lt hm h (stL_good hm h hst hl j) (hl j)
    cases q2 : r[nOf ss e.1]? with
    | none => show 0 < m; omega
    | some y => exact hx y (List.mem_of_getElem? q2)
theorem sem_hh (hm : many = m) (h : Good many ss) (hst : GSt m ss.length st) (hl : ∀ b x l, ld b x = some l → l < m) (b : Nat) {s : Sg} (hs : s ∈ ss) : sem m s (hh ss (histL m ss ld st b) b) = sem m s (hrd ss (stL m ss ld st b)) := by
  unfold sem
  congr 2
  exact List.map_congr_left fun e he => hh_hrd hm h hst hl b ((h.sg s hs).ear e he).2
end
/-- the leads that a dict holds -/
structure Leads (m : Nat) (names : List Str) (ps : List (PyData × PyData)) (ld : Nat → Str → Option Nat) : Prop where
  get : ∀ (b : Nat), ∀ x ∈ names, gGet1 (.dict ps) (.tuple [.int (b : Nat), .str x]) = some (match ld b x with | some l => natD l | none => .none)
  lt : ∀ b x l, ld b x = some l → l < m
theorem nkey_spot (b : Int) (x : Str) : nkey (.tuple [.int b, .str x]) = some (.tup [.num b, .text x]) := by
  rw [nkey, nkeys, nkeys, nkeys, nkey, nkey]; rfl
theorem deep_spot (b : Int) (x : Str) : deepD (.tuple [.int b, .str x]) = true := by
  unfold deepD
  rw [nkey_spot]
  refine decide_eq_true ?_
  simp [NestedKey.depth, NestedKey.depthAll]
theorem leads_nil {m : Nat} {names : List Str} : Leads m names [] fun _ _ => none := by
  refine ⟨fun b x _ => ?_, fun _ _ _ h => nomatch h⟩
  show (if keyOk [] (.tuple [.int (b : Nat), .str x]) = true then some ((dlook [] (.tuple [.int (b : Nat), .str x])).getD .none) else none) = _
  have : keyOk [] (.tuple [.int (b : Nat), .str x]) = true := by
    unfold keyOk
    rw [deep_spot]; rfl
  rw [if_pos this]; rfl
end G
set_option Elab.async false
set_option linter.all false
set_option maxRecDepth 100000
set_option maxHeartbeats 1000000
namespace G
open PySem DL
local instance : DL.TabCtx := ⟨[]⟩
theorem imm_list {α : Type} {enc : α → PyData} {xs : List α} (h : ∀ x, imm (enc x) = true) : immC (.list (xs.map enc)) = true := immL_map fun x _ => h x
@[simp] theorem immR_ok {d : PyData} (h : immC d = true) : immR (.ok d) = .ok d := if_pos h
section
variable {many : Int} {m : Nat} {ss : List Sg} {ld : Nat → Str → Option Nat} {st : List (List Nat)} {ps : List (PyData × PyData)}
def lval (m : Nat) (ss : List Sg) (ld : Nat → Str → Option Nat) (st : List (List Nat)) (b : Nat) (s : Sg) : Nat := (ld b s.name).getD (sem m s (hrd ss (stL m ss ld st b))).toNat
theorem sung_cell (hm : many = m) (h : Good many ss) (hst : GSt m ss.length st) (L : Leads m (ss.map (·.name)) ps ld) (b : Nat) {s : Sg} (hs : s ∈ ss) (N : Int) (acc : List Nat) (ha : acc.length ≤ 1000) (x8 : Sl) :
    ∃ x8', b_law_sung_L1 [.sh (chD many ss), .sh (stD st), .sh (.dict ps), .sh (.int N), .ow (.list ((histL m ss ld st b).map rowD)), .sh (.int (b : Nat)), .ow (.list (acc.map natD)), .sh s.d, x8] =
      .nx [.sh (chD many ss), .sh (stD st), .sh (.dict ps), .sh (.int N), .ow (.list ((histL m ss ld st b).map rowD)), .sh (.int (b : Nat)), .ow (.list ((acc ++ [lval m ss ld st b s]).map natD)), .sh s.d, x8'] := by
  have g := L.get b s.name (List.mem_map.mpr ⟨s, hs, rfl⟩)
  have i0 : gIx s.d (.int 0) = some (.str s.name) := rfl
  have k := ltells_ok hm h hs (b := b) (hs := histL m ss ld st b) (by rw [histL_len]; exact Nat.le_refl _) (histL_row hst) (hh_lt hm h hst L.lt b)
  rw [sem_hh hm h hst L.lt b hs] at k
  have al : acc.length < 1000000 := by omega
  have m2 := h.m2
  have hn := (sem_rng hm (h.sg s hs) fun e => hrd_lt (stL_good hm h hst L.lt b) (by omega) e).1
  cases e : ld b s.name with
  | some l =>
    rw [e] at g
    have ev : lval m ss ld st b s = l := by unfold lval; rw [e]; rfl
    have is : gIs (natD l) .none = some (.bool false) := rfl
    refine ⟨.sh (natD l), ?_⟩
    rw [ev]
    simp only [b_law_sung_L1]
    have g' : gGet1 (.dict ps) (.tuple [.int (b : Nat), .str s.name]) = some (natD l) := g
    simp [i0, g', is, al]
  | none =>
    rw [e] at g
    have ev : natD (lval m ss ld st b s) = .int (sem m s (hrd ss (stL m ss ld st b))) := by
      unfold lval natD; rw [e]
      show PyData.int ((sem m s (hrd ss (stL m ss ld st b))).toNat : Nat) = _
      rw [Int.toNat_of_nonneg hn]
    have is : gIs .none .none = some (.bool true) := rfl
    refine ⟨.sh .none, ?_⟩
    simp only [b_law_sung_L1]
    have g' : gGet1 (.dict ps) (.tuple [.int (b : Nat), .str s.name]) = some .none := g
    rw [List.map_append, List.map_singleton, ev]
    simp [i0, g', is, al, k]
theorem sung_row (hm : many = m) (h : Good many ss) (hst : GSt m ss.length st) (L : Leads m (ss.map (·.name)) ps ld) (b : Nat) (N : Int) (x7 x8 : Sl) : ∃ x7' x8', loopO (setS 7) b_law_sung_L1 (ss.map Sg.d) [.sh (chD many ss), .sh (stD st), .sh (.dict ps), .sh (.int N), .ow (.list ((histL m ss ld st b).map rowD)), .sh (.int (b : Nat)), .ow (.list []), x7, x8] =
      .nx [.sh (chD many ss), .sh (stD st), .sh (.dict ps), .sh (.int N), .ow (.list ((histL m ss ld st b).map rowD)), .sh (.int (b : Nat)), .ow (.list ((lrow m ss ld b (stL m ss ld st b)).map natD)), x7', x8'] := by
  have h4 := h.l4
  obtain ⟨ρ', h1, x7', x8', rfl⟩ := loop_inv (g := setS 7) (fb := b_law_sung_L1) (ds := ss.map Sg.d) (fun i ρ => ∃ x7' x8', ρ = [.sh (chD many ss), .sh (stD st), .sh (.dict ps), .sh (.int N), .ow (.list ((histL m ss ld st b).map rowD)), .sh (.int (b : Nat)), .ow (.list (((ss.take i).map (lval m ss ld st b)).map natD)), x7', x8']) (fun i d ρ hd hI => by
    obtain ⟨x7', x8', rfl⟩ := hI
    rw [List.getElem?_map] at hd
    obtain ⟨s, hs, rfl⟩ := Option.map_eq_some_iff.mp hd
    obtain ⟨hi, hs'⟩ := List.getElem?_eq_some_iff.mp hs
    obtain ⟨y, hy⟩ := sung_cell hm h hst L b (s := s) (List.mem_of_getElem? hs) N ((ss.take i).map (lval m ss ld st b)) (by rw [List.length_map, List.length_take]; omega) x8'
    refine ⟨_, _, rfl, hy, .sh s.d, y, ?_⟩
    rw [List.take_add_one, hs]
    simp only [Option.toList_some, List.map_append, List.map_cons, List.map_nil]) (ρ := [.sh (chD many ss), .sh (stD st), .sh (.dict ps), .sh (.int N), .ow (.list ((histL m ss ld st b).map rowD)), .sh (.int (b : Nat)), .ow (.list []), x7, x8]) ⟨_, _, rfl⟩
  refine ⟨x7', x8', ?_⟩
  rw [List.length_map, List.take_length] at h1
  exact h1
theorem lsung_ok (hm : many = m) (h : Good many ss) (hst : GSt m ss.length st) (L : Leads m (ss.map (·.name)) ps ld) {N : Int} (h0 : 0 ≤ N) (hN : N ≤ 100000) : m_law_sung [chD many ss, stD st, .dict ps, .int N] = .ok (.list ((rowsL m ss ld st N.toNat).map rowD)) := by
  have h4 := h.l4
  have i1 : gIx (chD many ss) (.int 1) = some (.tuple (ss.map Sg.d)) := rfl
  obtain ⟨ρ', h1, x5, x6, x7, x8, rfl⟩ := loop_inv (g := setS 5) (fb := b_law_sung_L2) (ds := rangeD 0 N.toNat) (fun i ρ => ∃ x5 x6 x7 x8, ρ = [.sh (chD many ss), .sh (stD st), .sh (.dict ps), .sh (.int N), .ow (.list ((histL m ss ld st i).map rowD)), x5, x6, x7, x8]) (fun i d ρ hd hI => by
    obtain ⟨x5, x6, x7, x8, rfl⟩ := hI
    have hi : i < N.toNat := by have := (List.getElem?_eq_some_iff.mp hd).1; simpa [rangeD] using this
    have hd' : d = .int (i : Nat) := by
      rw [rangeD_map, List.getElem?_map, List.getElem?_range hi] at hd
      exact (Option.some.inj hd).symm
    subst hd'
    obtain ⟨y7, y8, hy⟩ := sung_row hm h hst L i N x7 x8
    refine ⟨_, [.sh (chD many ss), .sh (stD st), .sh (.dict ps), .sh (.int N), .ow (.list ((histL m ss ld st (i + 1)).map rowD)), .sh (.int (i : Nat)), .ow (.list ((lrow m ss ld i (stL m ss ld st i)).map natD)), y7, y8], rfl, ?_, _, _, _, _, rfl⟩
    have hl : (histL m ss ld st i).length < 1000000 := by rw [histL_len]; omega
    have him : imm (.tuple ((lrow m ss ld i (stL m ss ld st i)).map natD)) = true := imm_row _
    rw [histL_succ]
    simp [b_law_sung_L2, i1, hy, him, hl]) (ρ := [.sh (chD many ss), .sh (stD st), .sh (.dict ps), .sh (.int N), .ow (.list ((histL m ss ld st 0).map rowD)), .no, .no, .no, .no]) ⟨_, _, _, _, rfl⟩
  have hl : (rangeD 0 N.toNat).length = N.toNat := by simp [rangeD]
  rw [hl] at h1
  have hrg := rg1_int h0 (by omega : N ≤ 1000000)
  have e0 : histL m ss ld st 0 = hist3 st := by unfold histL rowsL; simp
  rw [e0] at h1
  have k1 := lhistory_ok hst h.l4
  have k2 : immC (.list ((hist3 st).map rowD)) = true := imm_list imm_row
  have c3 : cutD ((histL m ss ld st N.toNat).map rowD) (some 3) none = (rowsL m ss ld st N.toNat).map rowD := by
    have := cut_from ((histL m ss ld st N.toNat).map rowD) 3
    rw [show ((3 : Nat) : Int) = 3 from rfl] at this
    rw [this, ← List.map_drop]
    unfold histL
    rw [List.drop_left' (by unfold hist3; simp)]
  simp only [m_law_sung, b_law_sung, fnRunF, start0]
  simp [k1, immR_ok k2, hrg, h1, c3]
end
theorem stL_none {m : Nat} {ss : List Sg} {st : List (List Nat)} : ∀ b, stL m ss (fun _ _ => none) st b = stAt m ss st b
  | 0 => rfl
  | b + 1 => by
    show beh (stL m ss (fun _ _ => none) st b) (lrow m ss (fun _ _ => none) b (stL m ss (fun _ _ => none) st b)) = onV m ss (stAt m ss st b)
    rw [stL_none b]
    unfold onV lrow nxN nxt
    rw [List.map_map]; rfl
theorem rowsL_none {m : Nat} {ss : List Sg} {st : List (List Nat)} (n : Nat) : rowsL m ss (fun _ _ => none) st n = rowsV m ss st n := by
  unfold rowsL rowsV
  refine List.map_congr_left fun b _ => ?_
  rw [stL_none]
  unfold lrow nxN nxt
  rw [List.map_map]; rfl
theorem lsung0_ok {many : Int} {m : Nat} (hm : many = m) {ss : List Sg} (h : Good many ss) {st : List (List Nat)} (hst : GSt m ss.length st) {N : Int} (h0 : 0 ≤ N) (hN : N ≤ 100000) : m_law_sung [chD many ss, stD st, .dict [], .int N] = .ok (.list ((rowsV m ss st N.toNat).map rowD)) := by
  rw [lsung_ok hm h hst leads_nil h0 hN, rowsL_none]
theorem fn_rt {k n : Nat} {f : SM} {ds : List PyData} {d : PyData} {ρ' : Rho} (hk : ds.length = k) (h : f (start0 n ds) = .rt d ρ') : fnRun k n f ds = .ok d := by
  unfold fnRun; rw [if_pos hk, h]
theorem seq_nx {f g : SM} {ρ ρ' : Rho} (h : f ρ = .nx ρ') : seqO f g ρ = g ρ' := by unfold seqO; rw [h]
theorem ret_ok {a : M PyData} {d : PyData} {ρ ρ' : Rho} (h : a ρ = .ok (d, ρ')) : retO a ρ = .rt d ρ' := by unfold retO exO; rw [h]
theorem opA_ok {g : List PyData → Option PyData} {as : M (List PyData)} {ds : List PyData} {z : PyData} {ρ ρ' : Rho} (h : as ρ = .ok (ds, ρ')) (hg : g ds = some z) : opA g as ρ = .ok (z, ρ') := by
  unfold opA M.bind; rw [h]; show M.opt (g ds) ρ' = _; rw [hg]; rfl
theorem aC1 {a : M PyData} {d : PyData} {ρ ρ' : Rho} (h : a ρ = .ok (d, ρ')) : aC a aN ρ = .ok ([d], ρ') := by unfold aC M.bind; rw [h]; rfl
theorem op2_ok {g : PyData → PyData → Option PyData} {a b : M PyData} {x y z : PyData} {ρ ρ1 ρ2 : Rho} (ha : a ρ = .ok (x, ρ1)) (hb : b ρ1 = .ok (y, ρ2)) (hg : g x y = some z) : op2 g a b ρ = .ok (z, ρ2) := by
  simp [ha, hb, hg]
theorem seq_exc {f g : SM} {ρ : Rho} {c : Str} (h : f ρ = .exc c) : seqO f g ρ = .exc c := by unfold seqO; rw [h]
theorem tst_ok {a : M PyData} {b : Bool} {ρ ρ' : Rho} (h : a ρ = .ok (.bool b, ρ')) : tst a ρ = .ok (b, ρ') := by simp [h]
theorem vN_ok {i : Nat} {d : PyData} {ρ : Rho} (h : ρ[i]? = some (.sh d)) : vN i ρ = .ok (d, ρ) := by simp [h]
theorem cD_ok {d : PyData} {ρ : Rho} : cD d ρ = .ok (d, ρ) := rfl
theorem aC_ok {a : M PyData} {as : M (List PyData)} {d : PyData} {ds : List PyData} {ρ ρ1 ρ2 : Rho} (h : a ρ = .ok (d, ρ1)) (hs : as ρ1 = .ok (ds, ρ2)) : aC a as ρ = .ok (d :: ds, ρ2) := by simp [h, hs]
theorem aN_ok {ρ : Rho} : aN ρ = .ok ([], ρ) := rfl
theorem callM_ok {m : List PyData → R PyData} {as : M (List PyData)} {ds : List PyData} {z : PyData} {ρ ρ' : Rho} (h : as ρ = .ok (ds, ρ')) (hm : m ds = .ok z) : callM m as ρ = .ok (z, ρ') := by simp [h, hm]
theorem callM_exc {m : List PyData → R PyData} {as : M (List PyData)} {ds : List PyData} {c : Str} {ρ ρ' : Rho} (h : as ρ = .ok (ds, ρ')) (hm : m ds = .exc c) : callM m as ρ = .exc c := by simp [h, hm]
theorem ifO_t {t : M Bool} {f g : SM} {ρ ρ' : Rho} (h : t ρ = .ok (true, ρ')) : ifO t f g ρ = f ρ' := by simp [h]
theorem ifO_f {t : M Bool} {f g : SM} {ρ ρ' : Rho} (h : t ρ = .ok (false, ρ')) : ifO t f g ρ = g ρ' := by simp [h]
theorem drop_nx {a : M PyData} {d : PyData} {ρ ρ' : Rho} (h : a ρ = .ok (d, ρ')) : dropO a ρ = .nx ρ' := by simp [h]
theorem drop_exc {a : M PyData} {c : Str} {ρ : Rho} (h : a ρ = .exc c) : dropO a ρ = .exc c := by simp [h]
theorem for_ok {as : M (List PyData)} {g : GM} {f : SM} {ds : List PyData} {ρ ρ' : Rho} (h : as ρ = .ok (ds, ρ')) : forO as g f ρ = loopO g f ds ρ' := by simp [h]
theorem opI_ok {g : List PyData → Option (List PyData)} {as : M (List PyData)} {ds zs : List PyData} {ρ ρ' : Rho} (h : as ρ = .ok (ds, ρ')) (hg : g ds = some zs) : opI g as ρ = .ok (zs, ρ') := by simp [h, hg]
theorem seqI_l {a : M PyData} {ds : List PyData} {ρ ρ' : Rho} (h : a ρ = .ok (.list ds, ρ')) : seqI a ρ = .ok (ds, ρ') := by simp [h]
theorem seqI_t {a : M PyData} {ds : List PyData} {ρ ρ' : Rho} (h : a ρ = .ok (.tuple ds, ρ')) : seqI a ρ = .ok (ds, ρ') := by simp [h]
theorem asg_gm {a : M PyData} {g : GM} {d : PyData} {ρ ρ' ρ'' : Rho} (h : a ρ = .ok (d, ρ')) (hg : g d ρ' = .ok ρ'') : asgO a g ρ = .nx ρ'' := by simp [h, hg]
theorem op1_ok {g : PyData → Option PyData} {a : M PyData} {x z : PyData} {ρ ρ1 : Rho} (ha : a ρ = .ok (x, ρ1)) (hg : g x = some z) : op1 g a ρ = .ok (z, ρ1) := by simp [ha, hg]
theorem slc_ok {a : M PyData} {l h : M (Option Int)} {x z : PyData} {lo hi : Option Int} {ρ ρ1 ρ2 ρ3 : Rho} (ha : a ρ = .ok (x, ρ1)) (hl : l ρ1 = .ok (lo, ρ2)) (hh : h ρ2 = .ok (hi, ρ3)) (hg : gCut lo hi x = some z) : slc a l h ρ = .ok (z, ρ3) := by simp [ha, hl, hh, hg]
theorem prt_ok {a : M PyData} {i : Int} {ρ ρ1 : Rho} (ha : a ρ = .ok (.int i, ρ1)) : prt a ρ = .ok (some i, ρ1) := by simp [ha]
theorem fn_rt' {k n : Nat} {f : SM} {ds : List PyData} {d : PyData} {ρ0 ρ' : Rho} (hk : ds.length = k) (h0 : start0 n ds = ρ0) (h : f ρ0 = .rt d ρ') : fnRun k n f ds = .ok d := by
  subst h0; exact fn_rt hk h
theorem brw_ok {b : Bool} {a : M PyData} {d : PyData} {ρ ρ1 ρ2 ρ3 : Rho} (hd : demR b ρ = ρ1) (ha : a ρ1 = .ok (d, ρ2)) (hi : imm d = true) (hb : backR b ρ ρ2 = some ρ3) : brw b a ρ = .ok (d, ρ3) := by
  subst hd; simp [ha, hi, hb]
theorem brwT_ok {b : Bool} {a : M Bool} {d : Bool} {ρ ρ1 ρ2 ρ3 : Rho} (hd : demR b ρ = ρ1) (ha : a ρ1 = .ok (d, ρ2)) (hb : backR b ρ ρ2 = some ρ3) : brwT b a ρ = .ok (d, ρ3) := by
  subst hd; simp [ha, hb]
end G
set_option Elab.async false
set_option linter.all false
set_option maxRecDepth 100000
set_option maxHeartbeats 1000000
namespace G
open PySem DL
local instance : DL.TabCtx := ⟨[]⟩
theorem rowsV_len {m : Nat} {ss : List Sg} {st : List (List Nat)} (n : Nat) : (rowsV m ss st n).length = n := by unfold rowsV; simp
theorem rowsV_row {m : Nat} {ss : List Sg} {st : List (List Nat)} {n : Nat} : ∀ r ∈ rowsV m ss st n, r.length = ss.length := by
  intro r hr
  obtain ⟨i, _, rfl⟩ := List.mem_map.mp hr
  exact nxN_len
theorem gAdd_l {a b : List PyData} (h : a.length + b.length ≤ 1000000) : gAdd (.list a) (.list b) = some (.list (a ++ b)) := if_pos h
end G
set_option Elab.async false
set_option linter.all false
set_option maxRecDepth 100000
set_option maxHeartbeats 1000000
namespace G
open PySem DL
local instance : DL.TabCtx := ⟨[]⟩
section
variable {many : Int} {m : Nat} {ss : List Sg} {st : List (List Nat)}
theorem nOf_lt {x : Str} (hx : x ∈ ss.map (·.name)) : nOf ss x < ss.length := by
  rw [← List.length_map (f := (·.name)) (as := ss)]; exact List.idxOf_lt_length_of_mem hx
end
end G
set_option Elab.async false
set_option linter.all false
set_option maxRecDepth 100000
set_option maxHeartbeats 1000000
namespace G
open PySem DL
local instance : DL.TabCtx := ⟨[]⟩
theorem rising_cons {α : Type} {lt : α → α → Bool} {a b : α} {r : List α} : rising lt (a :: b :: r) = true ↔ lt a b = true ∧ rising lt (b :: r) = true := by
  simp [rising]
theorem rising_pw {α : Type} {lt : α → α → Bool} (tr : ∀ a b c, lt a b = true → lt b c = true → lt a c = true) : ∀ {xs : List α}, rising lt xs = true → xs.Pairwise fun a b => lt a b = true
  | [], _ => List.Pairwise.nil
  | [a], _ => List.pairwise_singleton _ _
  | a :: b :: r, h => by
    obtain ⟨h1, h2⟩ := rising_cons.mp h
    have ih := rising_pw tr h2
    refine List.pairwise_cons.mpr ⟨fun y hy => ?_, ih⟩
    rcases List.mem_cons.mp hy with rfl | hy
    · exact h1
    · exact tr _ _ _ h1 ((List.pairwise_cons.mp ih).1 y hy)
theorem Good.nodup {many : Int} {ss : List Sg} (h : Good many ss) : (ss.map (·.name)).Nodup := by
  refine (rising_pw (lt := SrtQ.ltS) (fun a b c h1 h2 => SrtQ.ltS_trans h1 h2) h.rise).imp fun {a b} h1 z => ?_
  subst z
  rw [SrtQ.ltS_irrefl] at h1
  cases h1
theorem nat_at {xs : List Nat} {i : Nat} (h : i < xs.length) : (xs.map natD)[i]? = some (natD (xs.getD i 0)) := by
  rw [List.getElem?_map, List.getD_eq_getElem?_getD, List.getElem?_eq_getElem h]; rfl
end G
set_option Elab.async false
set_option linter.all false
set_option maxRecDepth 100000
set_option maxHeartbeats 1000000
namespace G
open PySem DL
local instance : DL.TabCtx := ⟨[]⟩
theorem gMul_nat {a b : Nat} (hb : b ≤ 1000000) : gMul (natD a) (natD b) = some (natD (a * b)) := by
  unfold natD; rw [e_mul (by omega)]; congr 2
theorem gEq_nat (a b : Nat) : gEq (natD a) (natD b) = some (.bool (decide (a = b))) := gEq_P (j := 0) (k := 0) (.int _) (.int _) _ natD_inj
theorem opM_ok {g : PyData → List PyData → Option PyData} {a : M PyData} {as : M (List PyData)} {ds xs : List PyData} {z : PyData} {ρ ρ1 ρ2 : Rho} (ha : a ρ = .ok (.list ds, ρ1)) (has : as ρ1 = .ok (xs, ρ2)) (hg : g (.list ds) xs = some z) : opM g a as ρ = .ok (z, ρ2) := by
  simp [ha, has, hg]
end G
set_option Elab.async false
set_option linter.all false
set_option maxRecDepth 100000
set_option maxHeartbeats 1000000
namespace G
open PySem DL
local instance : DL.TabCtx := ⟨[]⟩
theorem notT_ok {t : M Bool} {b : Bool} {ρ ρ' : Rho} (h : t ρ = .ok (b, ρ')) : notT t ρ = .ok (!b, ρ') := by simp [h]
theorem orT_f {t u : M Bool} {b : Bool} {ρ ρ1 ρ2 : Rho} (h : t ρ = .ok (false, ρ1)) (h2 : u ρ1 = .ok (b, ρ2)) : orT t u ρ = .ok (b, ρ2) := by simp [h, h2]
theorem orT_t {t u : M Bool} {ρ ρ1 : Rho} (h : t ρ = .ok (true, ρ1)) : orT t u ρ = .ok (true, ρ1) := by simp [h]
theorem andT_t {t u : M Bool} {b : Bool} {ρ ρ1 ρ2 : Rho} (h : t ρ = .ok (true, ρ1)) (h2 : u ρ1 = .ok (b, ρ2)) : andT t u ρ = .ok (b, ρ2) := by simp [h, h2]
theorem andT_f {t u : M Bool} {ρ ρ1 : Rho} (h : t ρ = .ok (false, ρ1)) : andT t u ρ = .ok (false, ρ1) := by simp [h]
theorem fn_nx' {k n : Nat} {f : SM} {ds : List PyData} {ρ0 ρ' : Rho} (hk : ds.length = k) (h0 : start0 n ds = ρ0) (h : f ρ0 = .nx ρ') : fnRun k n f ds = .ok .none := by
  subst h0; unfold fnRun; rw [if_pos hk, h]
theorem place_list {m : Int} (hm : -(2 ^ 64) < m ∧ m < 2 ^ 64) (xs : List Int) : m_place_of [.int m, .list (xs.map .int)] = .ok (.int (xs.foldl (fun a x => a * m + x) 0)) := by
  obtain ⟨y, h⟩ := place_loop hm (.sh (.list (xs.map .int))) xs 0 .no
  simp [m_place_of, b_place_of, fnRun, start0, h]
theorem placeL_ok {many : Int} {m : Nat} (hm : many = m) (hm4 : m ≤ 4) (xs : List Nat) : m_place_of [.int many, .list (xs.map natD)] = .ok (natD (plc m xs)) := by
  have h := place_list (m := many) (by omega) (xs.map fun n : Nat => (n : Int))
  have h0 := place_int (m := many) (by omega) (xs.map fun n : Nat => (n : Int))
  have h1 := place_ok hm hm4 xs
  have e : rowD xs = .tuple ((xs.map fun n : Nat => (n : Int)).map .int) := by unfold rowD; rw [List.map_map]; rfl
  have e2 : xs.map natD = (xs.map fun n : Nat => (n : Int)).map .int := by rw [List.map_map]; rfl
  rw [e, h0] at h1
  rw [e2, h]; exact h1
section
variable {many : Int} {m : Nat} {ss : List Sg} {R : List (List Nat)} {es : List (Str × Int)}
theorem gAdd_nat {a b : Nat} : gAdd (natD a) (natD b) = some (natD (a + b)) := by
  show some (PyData.int ((a : Int) + (b : Int))) = some (.int ((a + b : Nat) : Int))
  congr 2
end
end G
set_option Elab.async false
set_option linter.all false
set_option maxRecDepth 100000
set_option maxHeartbeats 1000000
namespace G
open PySem DL
local instance : DL.TabCtx := ⟨[]⟩
def bts (k : Nat) : List Nat := List.range' 3 k
section
variable {α : Type} [DecidableEq α]
/-- the first beat ahead that clashes with a beat -/
def clA (P : Nat → α) (L : Nat → Nat) (k : Nat) : Option Nat := (bts k).find? fun b => decide (P b = P (3 + k) ∧ L b ≠ L (3 + k))
/-- the first two beats that clash -/
def clO (P : Nat → α) (L : Nat → Nat) : Nat → Option (Nat × Nat)
  | 0 => none
  | k + 1 => match clO P L k with
    | some c => some c
    | none => (clA P L k).map fun b => (b, 3 + k)
def fndO (P : Nat → α) (L : Nat → Nat) (k : Nat) (q : α) : Option Nat := ((bts k).find? fun b => decide (P b = q)).map L
end
end G
set_option Elab.async false
set_option linter.all false
set_option maxRecDepth 100000
set_option maxHeartbeats 1000000
namespace G
open PySem DL
local instance : DL.TabCtx := ⟨[]⟩
theorem keyEq_row (a b : List Nat) : keyEqD (rowD a) (rowD b) = decide (a = b) := by
  unfold keyEqD
  rw [nkey_row, nkey_row]
  by_cases h : a = b
  · subst h; simp
  · rw [decide_eq_false h, decide_eq_false]
    intro z
    have z := Option.some.inj z
    injection z with z
    refine h ((map_inj (fun x y => ?_)).mp z)
    constructor
    · intro h3; injection h3 with h3; omega
    · rintro rfl; rfl
theorem deep_row (r : List Nat) : deepD (rowD r) = true := by
  unfold deepD
  rw [nkey_row]
  refine decide_eq_true ?_
  rw [NestedKey.depth, depthAll_nums]; omega
end G
set_option Elab.async false
set_option linter.all false
set_option maxRecDepth 100000
set_option maxHeartbeats 1000000
namespace G
open PySem DL
local instance : DL.TabCtx := ⟨[]⟩
theorem ex_ok {a : M PyData} {f : PyData → SM} {d : PyData} {ρ ρ' : Rho} (h : a ρ = .ok (d, ρ')) : exO a f ρ = f d ρ' := by unfold exO; rw [h]
theorem ifN_f {t : M Bool} {f : SM} {ρ ρ' : Rho} (h : t ρ = .ok (false, ρ')) : ifO t f nxO ρ = .nx ρ' := (ifO_f h).trans rfl
end G
set_option Elab.async false
set_option linter.all false
set_option maxRecDepth 100000
set_option maxHeartbeats 1000000
namespace G
open PySem DL
local instance : DL.TabCtx := ⟨[]⟩
end G
set_option Elab.async false
set_option linter.all false
set_option maxRecDepth 100000
set_option maxHeartbeats 1000000
namespace G
open PySem DL
local instance : DL.TabCtx := ⟨[]⟩
theorem ifV_t {t : M Bool} {a b : M PyData} {ρ ρ' : Rho} (h : t ρ = .ok (true, ρ')) : ifV t a b ρ = a ρ' := by rw [e_ifV, e_bind, h]; rfl
theorem ifV_f {t : M Bool} {a b : M PyData} {ρ ρ' : Rho} (h : t ρ = .ok (false, ρ')) : ifV t a b ρ = b ρ' := by rw [e_ifV, e_bind, h]; rfl
theorem app_ok {i : Nat} {a : M PyData} {d : PyData} {ds : List PyData} {ρ ρ' : Rho} (h0 : ρ[i]? = some (.ow (.list ds))) (ha : a ρ = .ok (d, ρ')) (h1 : ρ'[i]? = some (.ow (.list ds))) (hl : ds.length < LIM) : appO i a ρ = .nx (ρ'.set i (.ow (.list (ds ++ [d])))) := by
  unfold appO
  rw [h0]
  simp only []
  rw [ex_ok ha]
  simp only [h1]
  exact if_pos hl
def prO (m : Nat) (os : List (Option Nat)) (a : Nat) : Nat := os.foldl (fun a o => a * if o.isNone = true then m else 1) a
section
variable {many : Int} {m : Nat} {ss : List Sg} {R : List (List Nat)} {es : List (Str × Int)}
def hmT (m : Nat) (P L : Nat → Nat) (Q K : Nat) : Nat := match clO P L K with
  | some _ => 0
  | none => prO m ((List.range Q).map fun q => fndO P L K q) 1
end
end G
set_option Elab.async false
set_option linter.all false
set_option maxRecDepth 100000
set_option maxHeartbeats 1000000
namespace G
open PySem DL
local instance : DL.TabCtx := ⟨[]⟩
end G
set_option Elab.async false
set_option linter.all false
set_option maxRecDepth 100000
set_option maxHeartbeats 1000000
namespace G
open PySem DL
local instance : DL.TabCtx := ⟨[]⟩
end G
set_option Elab.async false
set_option linter.all false
set_option maxRecDepth 100000
set_option maxHeartbeats 1000000
namespace G
open PySem DL
local instance : DL.TabCtx := ⟨[]⟩
theorem callL_ok {i : Nat} {m : PyData → List PyData → R (PyData × PyData)} {as : M (List PyData)} {ds : List PyData} {d dd dd' : PyData} {ρ : Rho} (h : ρ[i]? = some (.ow dd)) (ha : as ρ = .ok (ds, ρ)) (hm : m dd ds = .ok (d, dd')) : callL i m as ρ = .ok (d, ρ.set i (.ow dd')) := by
  simp [h, ha, hm]
end G
set_option Elab.async false
set_option linter.all false
set_option maxRecDepth 100000
set_option maxHeartbeats 1000000
namespace G
open PySem DL
local instance : DL.TabCtx := ⟨[]⟩
theorem xSh_ok {a : M PyData} {r : M (List Sl)} {d : PyData} {ss : List Sl} {ρ ρ1 ρ2 : Rho} (ha : a ρ = .ok (d, ρ1)) (hr : r ρ1 = .ok (ss, ρ2)) : xSh a r ρ = .ok (.sh d :: ss, ρ2) := by
  rw [e_xSh]; unfold M.bind; rw [ha]; simp only [hr]; rfl
theorem xOw_ok {a : M PyData} {r : M (List Sl)} {d : PyData} {ss : List Sl} {ρ ρ1 ρ2 : Rho} (ha : a ρ = .ok (d, ρ1)) (hr : r ρ1 = .ok (ss, ρ2)) : xOw a r ρ = .ok (.ow d :: ss, ρ2) := by
  rw [e_xOw]; unfold M.bind; rw [ha]; simp only [hr]; rfl
theorem xN_ok {ρ : Rho} : xN ρ = .ok ([], ρ) := rfl
theorem par_ok {is : List Nat} {f : M (List Sl)} {ss : List Sl} {ρ ρ1 : Rho} (h : f ρ = .ok (ss, ρ1)) (hl : ss.length = is.length) : parO is f ρ = .nx (setL is ss ρ1) := by
  rw [e_parO]; unfold exO; rw [h]; exact if_pos hl
theorem ownF_ok {i : Nat} {a : M PyData} {d : PyData} {ρ ρ1 : Rho} (h : a ρ = .ok (d, ρ1)) : ownFO i a ρ = .nx (ρ1.set i (.ow d)) := by rw [e_ownFO, ex_ok h]
theorem par2_ok {i j : Nat} {a : M (List PyData)} {x y : PyData} {ρ ρ1 : Rho} (h : a ρ = .ok ([x, y], ρ1)) (hi : i < ρ1.length) (hj : j < ρ1.length) : par2 i j a ρ = .nx ((ρ1.set i (.sh x)).set j (.sh y)) := by
  unfold par2 exO; rw [h]; exact if_pos ⟨hi, hj⟩
section
variable {many : Int} {m : Nat} {ss : List Sg}
theorem roll_nat (s : Int × Int) {n : Nat} (h0 : 0 < n) (h1 : n < 1000000) : ∃ (r : Nat) (s' : Int × Int), m_law_roll (dcD s) [natD n] = .ok (natD r, dcD s') ∧ r < n := by
  obtain ⟨r, s', q1, q2, q3⟩ := roll_ex s (n : Int) (by omega) (by omega)
  refine ⟨r.toNat, s', ?_, by omega⟩
  have e : natD r.toNat = .int r := by unfold natD; rw [Int.toNat_of_nonneg q2]
  rw [e]; exact q1
end
end G
set_option Elab.async false
set_option linter.all false
set_option maxRecDepth 100000
set_option maxHeartbeats 1000000
namespace G
open PySem DL
local instance : DL.TabCtx := ⟨[]⟩
end G
set_option Elab.async false
set_option linter.all false
set_option maxRecDepth 100000
set_option maxHeartbeats 1000000
namespace G
open PySem DL
local instance : DL.TabCtx := ⟨[]⟩
theorem fn_exc {k n : Nat} {f : SM} {ds : List PyData} {c : Str} {ρ0 : Rho} (hk : ds.length = k) (h0 : start0 n ds = ρ0) (h : f ρ0 = .exc c) : fnRun k n f ds = .exc c := by
  subst h0; unfold fnRun; rw [if_pos hk, h]
theorem told_exc {f : M PyData} {c : Str} {ρ : Rho} (h : f (HD.forget ρ) = .exc c) (hc : c ∈ HD.excs := by decide) : HD.toldM f ρ = .ok (HD.refusedD c, ρ) := by
  unfold HD.toldM; rw [h]; exact if_pos hc
theorem own_ok {i : Nat} {as : M (List PyData)} {ds : List PyData} {ρ ρ' : Rho} (h : as ρ = .ok (ds, ρ')) (hl : ds.length ≤ LIM) : ownO i as ρ = .nx (ρ'.set i (.ow (.list ds))) := by
  unfold ownO exO; rw [h]; exact if_pos hl
theorem if_exc {t : M Bool} {g : SM} {c : Str} {ρ ρ' : Rho} (h : t ρ = .ok (true, ρ')) : ifO t (raiseO c) g ρ = .exc c := by rw [ifO_t h]; rfl
theorem isi_ok {T : Ty} {a : M PyData} {d : PyData} {ρ ρ' : Rho} (h : a ρ = .ok (d, ρ')) : isi T a ρ = .ok (.bool (isD T d), ρ') := by rw [e_isi, e_bind, h]; rfl
theorem isi_b {T : Ty} {a : M PyData} {d : PyData} {b : Bool} {ρ ρ' : Rho} (h : a ρ = .ok (d, ρ')) (hb : isD T d = b) : isi T a ρ = .ok (.bool b, ρ') := by rw [← hb]; exact isi_ok h
theorem chain_ok {g g' : PyData → PyData → Option PyData} {a b c : M PyData} {x y z w : PyData} {ρ ρ1 ρ2 ρ3 : Rho} (ha : a ρ = .ok (x, ρ1)) (hb : b ρ1 = .ok (y, ρ2)) (h1 : g x y = some (.bool true)) (hc : c ρ2 = .ok (z, ρ3)) (h2 : g' y z = some w) : chain g g' a b c ρ = .ok (w, ρ3) := by
  simp [ha, hb, h1, hc, h2]
theorem chain_f {g g' : PyData → PyData → Option PyData} {a b c : M PyData} {x y : PyData} {ρ ρ1 ρ2 : Rho} (ha : a ρ = .ok (x, ρ1)) (hb : b ρ1 = .ok (y, ρ2)) (h1 : g x y = some (.bool false)) : chain g g' a b c ρ = .ok (.bool false, ρ2) := by
  simp [ha, hb, h1]
theorem andV_f {a b : M PyData} {ρ ρ1 : Rho} (h : a ρ = .ok (.bool false, ρ1)) : andV a b ρ = .ok (.bool false, ρ1) := by simp [h]
theorem ne_same {k : Nat} {d : PyData} (h : P k d) (hk : k ≤ 64 := by decide) : gNe d d = some (.bool false) := gNe_P h h True (by simp) hk hk
section
variable {many : Int} {m : Nat} {ss : List Sg} {R : List (List Nat)}
theorem lines_none (k n : Int) : m_are_lines [.none, .int k, .int n] = .ok (.bool false) := by
  refine fn_rt' (ρ0 := [.sh .none, .sh (.int k), .sh (.int n), .no]) rfl rfl (ρ' := [.sh .none, .sh (.int k), .sh (.int n), .no]) ?_
  rw [b_are_lines]
  exact ret_ok (andV_f (isi_b (vN_ok rfl) rfl))
end
end G
set_option Elab.async false
set_option linter.all false
set_option maxRecDepth 100000
set_option maxHeartbeats 1000000
namespace G
open PySem DL
local instance : DL.TabCtx := ⟨[]⟩
end G
set_option Elab.async false
set_option linter.all false
set_option maxRecDepth 100000
set_option maxHeartbeats 1000000
namespace G
open PySem DL
local instance : DL.TabCtx := ⟨[]⟩
end G
set_option Elab.async false
set_option linter.all false
set_option maxRecDepth 100000
set_option maxHeartbeats 1000000
namespace G
open PySem DL
local instance : DL.TabCtx := ⟨[]⟩
abbrev Sh (d : PyData) : Prop := SeqAt.shaped d = true
theorem lay_mem : ∀ {xs : List PyData}, PyData.canLayAll0 xs = true → ∀ x ∈ xs, x.canLay0 = true
  | x :: xs, h, y, hy => by
    have h' : (PyData.canLay0 x && PyData.canLayAll0 xs) = true := h
    rw [Bool.and_eq_true] at h'
    rcases List.mem_cons.mp hy with rfl | hy
    · exact h'.1
    · exact lay_mem h'.2 y hy
theorem depth_mem : ∀ {xs : List PyData}, ∀ x ∈ xs, x.depth ≤ PyData.depthAll xs
  | x :: xs, y, hy => by
    simp only [PyData.depthAll]
    rcases List.mem_cons.mp hy with rfl | hy
    · omega
    · have := depth_mem y hy; omega
theorem Sh.mem {xs : List PyData} (h : Sh (.tuple xs)) : ∀ x ∈ xs, Sh x := fun x hx => by
  unfold Sh SeqAt.shaped at h ⊢
  rw [Bool.and_eq_true, decide_eq_true_iff, PyData.canLay0, PyData.depth] at h
  rw [Bool.and_eq_true, decide_eq_true_iff]
  exact ⟨lay_mem h.1 x hx, Nat.le_trans (depth_mem x hx) (by omega)⟩
def inR (many : Int) : PyData → Bool
  | .int i => decide (0 ≤ i) && decide (i ≤ many - 1)
  | _ => false
def inN (nm : List Str) : PyData → Bool
  | .str s => nm.any (· == s)
  | _ => false
def W (nm : List Str) (many : Int) : Nat → PyData → Bool
  | 0, _ => false
  | _ + 1, .tuple [.str s] => s == "one"
  | n + 1, .tuple [.str s, a] => s == "not" && W nm many n a
  | n + 1, .tuple [.str s, a, b] => if s = "sings" then inN nm a && inR many b else s == "both" && (W nm many n a && W nm many n b)
  | _ + 1, _ => false
end G
set_option Elab.async false
set_option linter.all false
set_option maxRecDepth 100000
set_option maxHeartbeats 1000000
namespace G
open PySem DL
local instance : DL.TabCtx := ⟨[]⟩
end G
set_option Elab.async false
set_option linter.all false
set_option maxRecDepth 100000
set_option maxHeartbeats 1000000
namespace G
open PySem DL
local instance : DL.TabCtx := ⟨[]⟩
end G
set_option Elab.async false
set_option linter.all false
set_option maxRecDepth 100000
set_option maxHeartbeats 1000000
namespace G
open PySem DL
local instance : DL.TabCtx := ⟨[]⟩
end G
set_option Elab.async false
set_option linter.all false
set_option maxRecDepth 100000
set_option maxHeartbeats 1000000
namespace G
open PySem DL
local instance : DL.TabCtx := ⟨[]⟩
end G
set_option Elab.async false
set_option linter.all false
set_option maxRecDepth 100000
set_option maxHeartbeats 1000000
namespace G
open PySem DL
local instance : DL.TabCtx := ⟨[]⟩
section
variable {many : Int} {ss : List Sg} {v : List Nat}
theorem gIndex_nm {x : Str} (hw : ∀ s ∈ ss, Wd s.name) (hx : x ∈ ss.map (·.name)) : gIndex (.list (ss.map fun s => PyData.str s.name)) [.str x] = some (.int (nOf ss x : Nat)) := by
  have hP : ∀ y ∈ (ss.map fun s => PyData.str s.name), P 0 y := fun y hy => by obtain ⟨s, h1, rfl⟩ := List.mem_map.mp hy; exact .str (hw s h1).2
  have hxw : Wd x := by obtain ⟨s, h1, rfl⟩ := List.mem_map.mp hx; exact hw s h1
  show (if (SeqAt.shaped (.str x) && SeqAt.shaped (.list (ss.map fun s => PyData.str s.name))) = true then (findD (.str x) (ss.map fun s => PyData.str s.name)).map fun j => PyData.int (j : Nat) else none) = _
  have h1 : (ss.map fun s => PyData.str s.name) = (ss.map (·.name)).map PyData.str := by rw [List.map_map]; rfl
  rw [(P.str (k := 0) hxw.2).shaped (by decide), (P.list hP).shaped (by decide), h1, findD_str x _ hx]
  rfl
end
end G
set_option Elab.async false
set_option linter.all false
set_option maxRecDepth 100000
set_option maxHeartbeats 1000000
namespace G
open PySem DL
local instance : DL.TabCtx := ⟨[]⟩
end G
set_option Elab.async false
set_option linter.all false
set_option maxRecDepth 100000
set_option maxHeartbeats 1000000
namespace G
open PySem DL
local instance : DL.TabCtx := ⟨[]⟩
theorem dget2_ok {a b c : M PyData} {ps : List (PyData × PyData)} {k x : PyData} {ρ ρ1 ρ2 ρ3 : Rho} (ha : a ρ = .ok (.dict ps, ρ1)) (hb : b ρ1 = .ok (k, ρ2)) (hc : c ρ2 = .ok (x, ρ3)) (hk : keyOk ps k = true) : dget2 a b c ρ = .ok ((dlook ps k).getD x, ρ3) := by
  simp [ha, hb, hc, gGet2, hk]
theorem dset_ok {i : Nat} {b a : M PyData} {ps : List (PyData × PyData)} {dv dk : PyData} {ρ ρ1 ρ2 : Rho} (ha : a ρ = .ok (dv, ρ1)) (h1 : isOw ρ1[i]? = true) (hb : b ρ1 = .ok (dk, ρ2)) (h2 : ρ2[i]? = some (.ow (.dict ps))) (hk : keyOk ps dk = true) (hl : ps.length < 1000000) : dsetO i b a ρ = .nx (ρ2.set i (.ow (.dict (dput ps dk dv)))) := by
  rw [e_dsetO, e_exO, ha]
  simp only
  rw [if_pos h1, e_exO, hb]
  simp only [h2]
  rw [if_pos ⟨hk, by rw [e_LIM]; exact hl⟩]
theorem mov_ok {j i : Nat} {d : PyData} {ρ : Rho} (h : ρ[i]? = some (.ow d)) (hj : j < ρ.length) : movO j i ρ = .nx ((ρ.set i (.sh d)).set j (.sh d)) := by
  unfold movO; rw [h]; simp only; rw [if_pos hj]
theorem let_ow {i : Nat} {f : SM} {d : PyData} {ρ : Rho} (h : ρ[i]? = some (.ow d)) : letO i f ρ = f (ρ.set i (.sh d)) := by unfold letO; rw [h]
theorem dput_new {ps : List (PyData × PyData)} {k v : PyData} (h : ∀ p ∈ ps, keyEqD p.1 k = false) : dput ps k v = ps ++ [(k, v)] := by
  unfold dput
  rw [if_neg]
  intro z
  obtain ⟨p, hp, e⟩ := List.any_eq_true.mp z
  rw [h p hp] at e; cases e
def lookL (xs : List (Nat × Str × Nat)) (b : Nat) (x : Str) : Option Nat := (xs.find? fun q => decide (q.1 = b ∧ q.2.1 = x)).map (·.2.2)
def ldOf (L : List Str) (t : List Nat) (x : Str) : Option Nat := ((L.zip t).find? fun p => decide (p.1 = x)).map (·.2)
def ldC (L : List Str) (t : List Nat) : Nat → Str → Option Nat := fun _ => ldOf L t
section
variable {many : Int} {m : Nat} {ss : List Sg} {st : List (List Nat)}
def nx (m : Nat) (ss : List Sg) (L : List Str) (st : List (List Nat)) (t : List Nat) : List (List Nat) := beh st (lrow m ss (ldC L t) 0 st)
end
end G
set_option Elab.async false
set_option linter.all false
set_option maxRecDepth 100000
set_option maxHeartbeats 1000000
namespace G
open PySem DL
local instance : DL.TabCtx := ⟨[]⟩
theorem tup_el (d5 : List PyData) (x : Int) (hl : d5.length ≤ 1000) (y0 y1 y2 y3 y4 : Sl) : (op2 gAdd (vN 5) (opA gTupD (aC (vN 6) aN))) [y0, y1, y2, y3, y4, .sh (.tuple d5), .sh (.int x)] = .ok (.tuple (d5 ++ [.int x]), [y0, y1, y2, y3, y4, .sh (.tuple d5), .sh (.int x)]) := by
  have a : gAdd (.tuple d5) (.tuple [.int x]) = some (.tuple (d5 ++ [.int x])) := if_pos (by rw [e_LIM]; simp; omega)
  simp [a]
theorem tup_step {many : Int} {m : Nat} (hm : many = m) (h4 : many ≤ 4) (acc : List (List Nat)) (ha : acc.length ≤ 100000) (o : List Nat) (ho : o.length ≤ 1000) (y1 y2 y3 : Sl) : b_law_all_tuples_L1 [.sh (.int many), y1, y2, y3, .sh (.list (acc.map rowD)), .sh (rowD o), .no] = .nx [.sh (.int many), y1, y2, y3, .sh (.list ((acc ++ (List.range m).map fun l => o ++ [l]).map rowD)), .sh (rowD o), .no] := by
  have hrg : rg1 [.int many] = some ((List.range m).map fun i => PyData.int (i : Nat)) := by
    rw [rg1_int (by omega) (by omega), rangeD_map, hm, Int.toNat_natCast]
  have f := lc_map (vs := [6]) (a := opI rg1 (aC (vN 0) aN)) (g := setS 6) (e := op2 gAdd (vN 5) (opA gTupD (aC (vN 6) aN))) (ρ := [.sh (.int many), y1, y2, y3, .sh (.list (acc.map rowD)), .sh (rowD o), .no]) (List.range m) (fun i => .int (i : Nat)) (fun l => rowD (o ++ [l])) (by simp [hrg]) rfl (by rw [List.length_range, e_LIM]; omega) (fun l _ => ⟨[.sh (.int many), y1, y2, y3, .sh (.list (acc.map rowD)), .sh (rowD o), .sh (.int (l : Nat))], rfl, by
    have := tup_el (o.map natD) (l : Nat) (by rw [List.length_map]; exact ho) (.sh (.int many)) y1 y2 y3 (.sh (.list (acc.map rowD)))
    rw [this]
    unfold rowD
    rw [List.map_append]; rfl, rfl⟩)
  have ad : gAdd (.list (acc.map rowD)) (.list ((List.range m).map fun l => rowD (o ++ [l]))) = some (.list (acc.map rowD ++ (List.range m).map fun l => rowD (o ++ [l]))) := if_pos (by rw [e_LIM, List.length_map, List.length_map, List.length_range]; omega)
  simp only [b_law_all_tuples_L1]
  simp
  rw [f]
  simp [ad, Function.comp_def]
theorem tup_inner {many : Int} {m : Nat} (hm : many = m) (h4 : many ≤ 4) (y1 y2 y3 : Sl) : ∀ (xs : List (List Nat)), (∀ o ∈ xs, o.length ≤ 1000) → ∀ (acc : List (List Nat)) (y5 : Sl), acc.length + xs.length * m ≤ 100000 → ∃ y5', loopO (setS 5) b_law_all_tuples_L1 (xs.map rowD) [.sh (.int many), y1, y2, y3, .sh (.list (acc.map rowD)), y5, .no] = .nx [.sh (.int many), y1, y2, y3, .sh (.list ((acc ++ xs.flatMap fun o => (List.range m).map fun l => o ++ [l]).map rowD)), y5', .no] := by
  intro xs
  induction xs with
  | nil => intro _ acc y5 _; exact ⟨y5, by simp [loopO]⟩
  | cons o xs ih =>
    intro hx acc y5 hl
    rw [List.length_cons, Nat.add_mul] at hl
    obtain ⟨z, hz⟩ := ih (fun p hp => hx p (List.mem_cons_of_mem _ hp)) (acc ++ (List.range m).map fun l => o ++ [l]) (.sh (rowD o)) (by rw [List.length_append, List.length_map, List.length_range]; omega)
    refine ⟨z, ?_⟩
    have hs : setS 5 (rowD o) [.sh (.int many), y1, y2, y3, .sh (.list (acc.map rowD)), y5, .no] = .ok [.sh (.int many), y1, y2, y3, .sh (.list (acc.map rowD)), .sh (rowD o), .no] := rfl
    have st := tup_step hm h4 acc (by omega) o (hx o (List.mem_cons_self ..)) y1 y2 y3
    rw [List.map_cons, loopO, hs]
    simp only [st]
    rw [hz, List.flatMap_cons, List.append_assoc]
theorem tups_ok {many : Int} {m : Nat} (hm : many = m) (h4 : many ≤ 4) {N : Int} (h0 : 0 ≤ N) (hN : N ≤ 6) (hb : ∀ k, k ≤ N.toNat → m ^ k ≤ 10000) : m_law_all_tuples [.int many, .int N] = .ok (.list ((tups m N.toNat).map rowD)) := by
  obtain ⟨ρ', h1, x3, x4, x5, rfl⟩ := loop_inv (g := setS 3) (fb := b_law_all_tuples_L2) (ds := rangeD 0 N.toNat) (fun i ρ => ∃ x3 x4 x5 : Sl, ρ = [.sh (.int many), .sh (.int N), .sh (.list ((tups m i).map rowD)), x3, x4, x5, .no]) (fun i d ρ hd hI => by
    obtain ⟨x3, x4, x5, rfl⟩ := hI
    have hi : i < N.toNat := by have := (List.getElem?_eq_some_iff.mp hd).1; simpa [rangeD] using this
    obtain ⟨z, hz⟩ := tup_inner hm h4 (.sh (.int N)) (.sh (.list ((tups m i).map rowD))) (.sh d) (tups m i) (fun o ho => by rw [(tups_mem.mp ho).1]; omega) [] x5 (by
      rw [tups_len]
      have := hb i (by omega)
      have : m ≤ 4 := by omega
      have : m ^ i * m ≤ 10000 * 4 := Nat.mul_le_mul (hb i (by omega)) this
      simp only [List.length_nil]; omega)
    refine ⟨_, [.sh (.int many), .sh (.int N), .sh (.list ((tups m (i + 1)).map rowD)), .sh d, .sh (.list ((tups m (i + 1)).map rowD)), z, .no], rfl, ?_, _, _, _, rfl⟩
    have e : ([] : List (List Nat)) ++ (tups m i).flatMap (fun o => (List.range m).map fun l => o ++ [l]) = tups m (i + 1) := rfl
    rw [e] at hz
    simp only [List.map_nil] at hz
    simp [b_law_all_tuples_L2, hz]) (ρ := [.sh (.int many), .sh (.int N), .sh (.list [rowD []]), .no, .no, .no, .no]) ⟨_, _, _, rfl⟩
  have hl : (rangeD 0 N.toNat).length = N.toNat := by simp [rangeD]
  rw [hl] at h1
  have hrg := rg1_int h0 (by omega : N ≤ 1000000)
  have h1 : loopO (setS 3) b_law_all_tuples_L2 (rangeD 0 N.toNat) [.sh (.int many), .sh (.int N), .sh (.list [.tuple []]), .no, .no, .no, .no] = _ := h1
  simp [m_law_all_tuples, b_law_all_tuples, fnRun, start0, hrg, h1]
section
variable {many : Int} {m : Nat} {ss : List Sg} {st : List (List Nat)} {L : List Str}
abbrev St := List (List Nat)
end
end G
set_option Elab.async false
set_option linter.all false
set_option maxRecDepth 100000
set_option maxHeartbeats 1000000
namespace G
open PySem DL
local instance : DL.TabCtx := ⟨[]⟩
def fresh : List St → List St → List St
  | _, [] => []
  | F, s :: R => if s ∈ F then fresh F R else s :: fresh (F ++ [s]) R
end G
set_option Elab.async false
set_option linter.all false
set_option maxRecDepth 100000
set_option maxHeartbeats 1000000
namespace G
open PySem DL
local instance : DL.TabCtx := ⟨[]⟩
def foldE {α σ β : Type} (f : α → σ → β ⊕ σ) : List α → σ → β ⊕ σ
  | [], c => .inr c
  | a :: xs, c => match f a c with
    | .inl q => .inl q
    | .inr c' => foldE f xs c'
abbrev Pth := List (List Nat)
section
variable (good : St → List Nat → Bool) (nxt : St → List Nat → St) (T : List (List Nat))
def scan1 (p : Pth) (s : St) (t : List Nat) (c : List St × List (Pth × St)) : Pth ⊕ (List St × List (Pth × St)) :=
  if good s t = true then .inl (p ++ [t]) else if nxt s t ∈ c.1 then .inr c else .inr (c.1 ++ [nxt s t], c.2 ++ [(p ++ [t], nxt s t)])
def lvl (H : List (Pth × St)) (c : List St × List (Pth × St)) : Pth ⊕ (List St × List (Pth × St)) := foldE (fun e c => foldE (scan1 good nxt e.1 e.2) T c) H c
variable (P : St → Prop) (st : St)
variable {good nxt T P st}
theorem nodup_snoc {α : Type} {K : List α} {x : α} (h : K.Nodup) (hx : x ∉ K) : (K ++ [x]).Nodup := by
  rw [List.nodup_append]
  exact ⟨h, by simp, fun a ha b hb e => hx (by rw [List.mem_singleton.mp hb] at e; exact e ▸ ha)⟩
end
end G
set_option Elab.async false
set_option linter.all false
set_option maxRecDepth 100000
set_option maxHeartbeats 1000000
namespace G
open PySem DL
local instance : DL.TabCtx := ⟨[]⟩
end G
set_option Elab.async false
set_option linter.all false
set_option maxRecDepth 100000
set_option maxHeartbeats 1000000
namespace G
open PySem DL
local instance : DL.TabCtx := ⟨[]⟩
end G
set_option Elab.async false
set_option linter.all false
set_option maxRecDepth 100000
set_option maxHeartbeats 1000000
namespace G
open PySem DL
local instance : DL.TabCtx := ⟨[]⟩
section
variable {many : Int} {m : Nat} {ss tt : List Sg} {st : St} {xs : List (Nat × Str × Nat)}
theorem look_some {q : Nat × Str × Nat} (hq : q ∈ xs) : ∃ q' ∈ xs, lookL xs q.1 q.2.1 = some q'.2.2 := by
  unfold lookL
  cases e : xs.find? fun q' => decide (q'.1 = q.1 ∧ q'.2.1 = q.2.1) with
  | none =>
    have := List.find?_eq_none.mp e q hq
    simp at this
  | some q' => exact ⟨q', List.mem_of_find?_eq_some e, rfl⟩
theorem rowsL_succ {ld : Nat → Str → Option Nat} (st : St) (n : Nat) : rowsL m ss ld st (n + 1) = rowsL m ss ld st n ++ [lrow m ss ld n (stL m ss ld st n)] := by
  unfold rowsL; rw [List.range_succ, List.map_append]; rfl
end
end G
set_option Elab.async false
set_option linter.all false
set_option maxRecDepth 100000
set_option maxHeartbeats 1000000
namespace G
open PySem DL
local instance : DL.TabCtx := ⟨[]⟩
structure GLs (names L : List Str) : Prop where
  len : L.length ≤ 2
  sub : ∀ x ∈ L, x ∈ names
  pw : L.Pairwise fun a b => SrtQ.ltS a b = true
theorem GLs.nodup {names L : List Str} (h : GLs names L) : L.Nodup := h.pw.imp fun {a b} h1 z => by
  rw [z, SrtQ.ltS_irrefl] at h1; cases h1
end G
set_option Elab.async false
set_option linter.all false
set_option maxRecDepth 100000
set_option maxHeartbeats 1000000
namespace G
open PySem DL
local instance : DL.TabCtx := ⟨[]⟩
open PySem.W (keyToks keyToksAll alike alikeAll dataLe)
theorem toks_row : ∀ {r r' : List Nat}, keyToksAll (r.map natD) = keyToksAll (r'.map natD) → r = r'
  | [], [], _ => rfl
  | [], x :: r, h => by rw [List.map_nil, List.map_cons, PySem.W.toks_all_cons] at h; simp [keyToksAll] at h
  | x :: r, [], h => by rw [List.map_nil, List.map_cons, PySem.W.toks_all_cons] at h; simp [keyToksAll] at h
  | x :: r, y :: r', h => by
    rw [List.map_cons, List.map_cons, PySem.W.toks_all_cons, PySem.W.toks_all_cons] at h
    have e1 : keyToks (natD x) = [Sum.inl (x : Int)] := by simp [natD, keyToks]
    have e2 : keyToks (natD y) = [Sum.inl (y : Int)] := by simp [natD, keyToks]
    rw [e1, e2] at h
    injection h with _ h
    injection h with h1 h2
    injection h1 with h1
    have : x = y := by omega
    rw [this, toks_row h2]
theorem toks_len : ∀ r : List Nat, (keyToksAll (r.map natD)).length = 2 * r.length + (keyToksAll ([] : List PyData)).length
  | [] => by simp
  | x :: r => by
    rw [List.map_cons, PySem.W.toks_all_cons, show keyToks (natD x) = [Sum.inl (x : Int)] by simp [natD, keyToks]]
    rw [List.singleton_append, List.length_cons, List.length_cons, toks_len r, List.length_cons]; omega
theorem toks_rows {k : Nat} : ∀ {a b : List (List Nat)}, (∀ r ∈ a, r.length = k) → (∀ r ∈ b, r.length = k) → keyToksAll (a.map rowD) = keyToksAll (b.map rowD) → a = b
  | [], [], _, _, _ => rfl
  | [], x :: r, _, _, h => by rw [List.map_nil, List.map_cons, PySem.W.toks_all_cons] at h; simp [keyToksAll] at h
  | x :: r, [], _, _, h => by rw [List.map_nil, List.map_cons, PySem.W.toks_all_cons] at h; simp [keyToksAll] at h
  | x :: r, y :: r', h1, h2, h => by
    rw [List.map_cons, List.map_cons, PySem.W.toks_all_cons, PySem.W.toks_all_cons] at h
    have e1 : ∀ z : List Nat, keyToks (rowD z) = keyToksAll (z.map natD) := fun z => by simp [rowD, keyToks]
    rw [e1, e1] at h
    injection h with _ h
    have hl : (keyToksAll (x.map natD)).length = (keyToksAll (y.map natD)).length := by
      rw [toks_len, toks_len, h1 x List.mem_cons_self, h2 y List.mem_cons_self]
    obtain ⟨q1, q2⟩ := List.append_inj h hl
    rw [toks_row q1, toks_rows (fun z hz => h1 z (List.mem_cons_of_mem _ hz)) (fun z hz => h2 z (List.mem_cons_of_mem _ hz)) q2]
theorem toks_st {m n : Nat} {a b : St} (ha : GSt m n a) (hb : GSt m n b) (h : keyToks (stD a) = keyToks (stD b)) : a = b := by
  have e1 : ∀ z : St, keyToks (stD z) = keyToksAll (z.map rowD) := fun z => by simp [stD, keyToks]
  rw [e1, e1] at h
  exact toks_rows (fun r hr => (ha.row r hr).1) (fun r hr => (hb.row r hr).1) h
theorem alike_nats : ∀ a b : List Nat, alikeAll (a.map natD) (b.map natD) = true
  | [], _ => by simp [alikeAll]
  | _ :: _, [] => by simp [alikeAll]
  | x :: a, y :: b => by
    rw [List.map_cons, List.map_cons, alikeAll, alike_nats a b]; simp [natD, alike]
theorem alike_rows : ∀ a b : List (List Nat), alikeAll (a.map rowD) (b.map rowD) = true
  | [], _ => by simp [alikeAll]
  | _ :: _, [] => by simp [alikeAll]
  | x :: a, y :: b => by
    rw [List.map_cons, List.map_cons, alikeAll, alike_rows a b, show alike (rowD x) (rowD y) = alikeAll (x.map natD) (y.map natD) by simp [rowD, alike], alike_nats]; rfl
theorem alike_st (a b : St) : alike (stD a) (stD b) = true := by
  rw [show alike (stD a) (stD b) = alikeAll (a.map rowD) (b.map rowD) by simp [stD, alike], alike_rows]
theorem flat_nats : ∀ a : List Nat, flatTs (a.map natD) = true
  | [] => by simp [flatTs]
  | x :: a => by rw [List.map_cons, flatTs, flat_nats a]; simp [natD, flatT]
theorem flat_rows : ∀ a : List (List Nat), flatTs (a.map rowD) = true
  | [] => by simp [flatTs]
  | x :: a => by rw [List.map_cons, flatTs, flat_rows a, show flatT (rowD x) = flatTs (x.map natD) by simp [rowD, flatT], flat_nats]; rfl
theorem flat_st (a : St) : flatT (stD a) = true := by rw [show flatT (stD a) = flatTs (a.map rowD) by simp [stD, flatT], flat_rows]
theorem P_depth {k : Nat} {d : PyData} (h : P k d) : d.depth ≤ k := h.lay.2
theorem srt_sts {m n : Nat} (hn : 1 ≤ n) {F : List St} (hF : ∀ s ∈ F, GSt m n s) : srtOk (F.map stD) = true := by
  unfold srtOk
  rw [Bool.and_eq_true, List.all_eq_true, List.all_eq_true]
  constructor
  · intro d hd
    obtain ⟨s, hs, rfl⟩ := List.mem_map.mp hd
    rw [flat_st]
    have h1 : neT (stD s) = true := by
      have := (hF s hs).len
      cases s with
      | nil => simp at this; omega
      | cons r s => rfl
    have h2 : (stD s).depth ≤ 40 := Nat.le_trans (P_depth (P_st (k := 0) s)) (by omega)
    rw [h1, decide_eq_true h2]; rfl
  · intro d hd
    rw [List.all_eq_true]
    intro e he
    obtain ⟨s, _, rfl⟩ := List.mem_map.mp hd
    obtain ⟨s', _, rfl⟩ := List.mem_map.mp he
    exact alike_st s s'
theorem perm_of {α : Type} [DecidableEq α] : ∀ {l m : List α}, l.Nodup → m.Nodup → (∀ x, x ∈ l ↔ x ∈ m) → l.Perm m
  | [], m, _, _, h => by
    cases m with
    | nil => exact .nil
    | cons x m => exact absurd ((h x).mpr List.mem_cons_self) List.not_mem_nil
  | x :: l, m, h1, h2, h => by
    obtain ⟨n1, n2⟩ := List.nodup_cons.mp h1
    have hx : x ∈ m := (h x).mp List.mem_cons_self
    have := perm_of (l := l) (m := m.erase x) n2 (h2.sublist List.erase_sublist) fun y => by
      constructor
      · intro hy
        have ne : y ≠ x := fun e => n1 (e ▸ hy)
        exact (List.mem_erase_of_ne ne).mpr ((h y).mp (List.mem_cons_of_mem _ hy))
      · intro hy
        have hm := List.mem_of_mem_erase hy
        have ne : y ≠ x := fun e => by
          subst e
          exact (h2.not_mem_erase) hy
        exact ((List.mem_cons.mp ((h y).mpr hm)).resolve_left ne)
    exact (this.cons x).trans (List.perm_cons_erase hx).symm
theorem srt_eq {m n : Nat} {F K : List St} (hF : ∀ s ∈ F, GSt m n s) (hK : ∀ s ∈ K, GSt m n s) (p : F.Perm K) : srtD (F.map stD) = srtD (K.map stD) := by
  have T := PySem.W.sortLe_total (PyProof.Rows.listOrd PyProof.Rows.itemOrd) false (fun d : PyData => keyToks d)
  have q : (srtD (F.map stD)).Perm (srtD (K.map stD)) := (List.mergeSort_perm _ _).trans ((p.map stD).trans (List.mergeSort_perm _ _).symm)
  have s1 : (srtD (F.map stD)).Pairwise (fun a b => dataLe false (fun d => d) a b = true) := List.pairwise_mergeSort (fun a b c => T.trans a b c) (fun a b => by rcases T.total a b with h | h <;> simp [h]) _
  have s2 : (srtD (K.map stD)).Pairwise (fun a b => dataLe false (fun d => d) a b = true) := List.pairwise_mergeSort (fun a b c => T.trans a b c) (fun a b => by rcases T.total a b with h | h <;> simp [h]) _
  refine q.eq_of_pairwise (fun a b ha hb h1 h2 => ?_) s1 s2
  have ha := (List.mergeSort_perm (F.map stD) (dataLe false fun d => d)).mem_iff.mp ha
  have hb := (List.mergeSort_perm (K.map stD) (dataLe false fun d => d)).mem_iff.mp hb
  obtain ⟨x, hx, rfl⟩ := List.mem_map.mp ha
  obtain ⟨y, hy, rfl⟩ := List.mem_map.mp hb
  have e1 : (!(PyProof.Rows.listOrd PyProof.Rows.itemOrd).blt (keyToks (stD y)) (keyToks (stD x))) = true := h1
  have e2 : (!(PyProof.Rows.listOrd PyProof.Rows.itemOrd).blt (keyToks (stD x)) (keyToks (stD y))) = true := h2
  rw [Bool.not_eq_true'] at e1 e2
  rw [toks_st (hF x hx) (hK y hy) ((PyProof.Rows.listOrd PyProof.Rows.itemOrd).total _ _ e2 e1)]
end G
set_option Elab.async false
set_option linter.all false
set_option maxRecDepth 100000
set_option maxHeartbeats 1000000
namespace G
open PySem DL
local instance : DL.TabCtx := ⟨[]⟩
section
variable (good : St → List Nat → Bool) (nxt : St → List Nat → St) (T : List (List Nat))
abbrev KX := List St × List (Pth × St)
variable {good nxt T}
end
end G
set_option Elab.async false
set_option linter.all false
set_option maxRecDepth 100000
set_option maxHeartbeats 1000000
namespace G
open PySem DL
local instance : DL.TabCtx := ⟨[]⟩
end G
set_option Elab.async false
set_option linter.all false
set_option maxRecDepth 100000
set_option maxHeartbeats 1000000
namespace G
open PySem DL
local instance : DL.TabCtx := ⟨[]⟩
section
variable {good : St → List Nat → Bool} {nxt : St → List Nat → St} {T : List (List Nat)} {P : St → Prop} {st : St} {fl : List Nat → List Nat}
structure DI (nxt : St → List Nat → St) (T : List (List Nat)) (P : St → Prop) (st : St) (fl : List Nat → List Nat) (d : Nat) (H : List (Pth × St)) (K : List St) : Prop where
  hd : ∀ e ∈ H, e.1.length ≤ d
  sc : ∀ w ∈ K, w = st ∨ ∃ s, P s ∧ ∃ t ∈ T, w = nxt s t ∧ ∀ u ∈ T, nxt s u ∈ K
  ln : 2 * d + 1 ≤ K.length ∨ (2 * d ≤ K.length ∧ ∃ s, P s ∧ ∃ t ∈ T, nxt s t ∈ K ∧ nxt s (fl t) = st)
end
end G
set_option Elab.async false
set_option linter.all false
set_option maxRecDepth 100000
set_option maxHeartbeats 1000000
namespace G
open PySem DL
local instance : DL.TabCtx := ⟨[]⟩
end G
set_option Elab.async false
set_option linter.all false
set_option maxRecDepth 100000
set_option maxHeartbeats 1000000
namespace G
open PySem DL
local instance : DL.TabCtx := ⟨[]⟩
end G
set_option Elab.async false
set_option linter.all false
set_option maxRecDepth 100000
set_option maxHeartbeats 1000000
namespace G
open PySem DL
local instance : DL.TabCtx := ⟨[]⟩
end G
set_option Elab.async false
set_option linter.all false
set_option maxRecDepth 100000
set_option maxHeartbeats 1000000
namespace G
open PySem DL
local instance : DL.TabCtx := ⟨[]⟩
open PySem.W (alike alikeAll)
end G
set_option Elab.async false
set_option linter.all false
set_option maxRecDepth 100000
set_option maxHeartbeats 1000000
namespace G
open PySem DL
local instance : DL.TabCtx := ⟨[]⟩
/-- a truth comes of it, the slots as they are -/
def TB (f : M PyData) (ρ : Rho) : Prop := ∃ b, f ρ = .ok (.bool b, ρ)
end G
set_option Elab.async false
set_option linter.all false
set_option maxRecDepth 100000
set_option maxHeartbeats 1000000
namespace G
open PySem DL
local instance : DL.TabCtx := ⟨[]⟩
end G
set_option Elab.async false
set_option linter.all false
set_option maxRecDepth 100000
set_option maxHeartbeats 1000000
namespace G
open PySem DL PyProof.Rows
local instance : DL.TabCtx := ⟨[]⟩
end G
set_option Elab.async false
set_option linter.all false
set_option maxRecDepth 100000
set_option maxHeartbeats 1000000
namespace G
open PySem DL PyProof.Rows
local instance : DL.TabCtx := ⟨[]⟩
abbrev sp (s : Nat) (acc L : List Nat) : List (List Nat) := TL.spl [s] 0 acc L
/-- a text that is not long, of plain signs -/
structure Tx1 (L : List Nat) : Prop where
  len : L.length ≤ 500
  chr : ∀ c ∈ L, c < 1114112
theorem lay_of {x : Str} (h : ∀ c ∈ TL.tl x, c < 1114112) : (PyData.str x).canLay0 = true := by
  rw [PyData.canLay0]
  show x.cps.all (· < 0x110000) = true
  rw [← Array.all_toList, List.all_eq_true]
  exact fun c hc => decide_eq_true (h c hc)
theorem Tx1.lay {L : List Nat} (h : Tx1 L) : (PyData.str (mkS L)).canLay0 = true := lay_of h.chr
end G
set_option Elab.async false
set_option linter.all false
set_option maxRecDepth 100000
set_option maxHeartbeats 1000000
namespace G
open PySem DL PyProof.Rows
local instance : DL.TabCtx := ⟨[]⟩
end G
set_option Elab.async false
set_option linter.all false
set_option maxRecDepth 100000
set_option maxHeartbeats 1000000
namespace G
open PySem DL PyProof.Rows
local instance : DL.TabCtx := ⟨[]⟩
end G
set_option Elab.async false
set_option linter.all false
set_option maxRecDepth 100000
set_option maxHeartbeats 1000000
namespace G
open PySem DL PyProof.Rows
local instance : DL.TabCtx := ⟨[]⟩
end G
set_option Elab.async false
set_option linter.all false
set_option maxRecDepth 100000
set_option maxHeartbeats 1000000
namespace G
open PySem DL PyProof.Rows
local instance : DL.TabCtx := ⟨[]⟩
/-- a word's signs -/
structure Wl (x : Str) : Prop where
  len : x.length ≤ 8
  chr : ∀ c ∈ TL.tl x, 97 ≤ c ∧ c ≤ 122
theorem Wl.lay {x : Str} (h : Wl x) : (PyData.str x).canLay0 = true := lay_of fun c hc => by have := h.chr c hc; omega
end G
set_option Elab.async false
set_option linter.all false
set_option maxRecDepth 100000
set_option maxHeartbeats 1000000
namespace G
open PySem DL PyProof.Rows
local instance : DL.TabCtx := ⟨[]⟩
end G
set_option Elab.async false
set_option linter.all false
set_option maxRecDepth 100000
set_option maxHeartbeats 1000000
namespace G
open PySem DL
local instance : DL.TabCtx := ⟨[]⟩
def lexN : List Nat → List Nat → Prop
  | x :: a, y :: b => x < y ∨ (x = y ∧ lexN a b)
  | _, _ => False
theorem lexN_irr : ∀ a : List Nat, ¬ lexN a a
  | [], h => h
  | x :: a, h => by
    rcases h with h | ⟨_, h⟩
    · omega
    · exact lexN_irr a h
theorem lexN_last : ∀ (o : List Nat) {x y : Nat}, x < y → lexN (o ++ [x]) (o ++ [y])
  | [], x, y, h => .inl h
  | z :: o, x, y, h => .inr ⟨rfl, lexN_last o h⟩
theorem lexN_app : ∀ {o p : List Nat} (c d : List Nat), lexN o p → lexN (o ++ c) (p ++ d)
  | x :: o, y :: p, c, d, h => by
    rcases h with h | ⟨e, h⟩
    · exact .inl h
    · exact .inr ⟨e, lexN_app c d h⟩
  | [], _, _, _, h => by cases h
  | _ :: _, [], _, _, h => by cases h
theorem tups_rise (m : Nat) : ∀ k, (tups m k).Pairwise lexN
  | 0 => by simp [tups]
  | k + 1 => by
    rw [tups, List.pairwise_flatMap]
    refine ⟨fun o _ => ?_, (tups_rise m k).imp fun {a b} h x hx y hy => ?_⟩
    · rw [List.pairwise_map]
      exact List.pairwise_lt_range.imp fun {a b} h => lexN_last o h
    · obtain ⟨i, _, rfl⟩ := List.mem_map.mp hx
      obtain ⟨j, _, rfl⟩ := List.mem_map.mp hy
      exact lexN_app _ _ h
theorem tups_nodup (m k : Nat) : (tups m k).Nodup := (tups_rise m k).imp fun {a b} h e => by subst e; exact lexN_irr a h
abbrev Spt := Nat × Nat
abbrev KD := List (Spt × Nat)
def kget (k : KD) (s : Spt) : Option Nat := (k.find? fun p => decide (p.1 = s)).map (·.2)
theorem kget_app (k k' : KD) (s : Spt) : kget (k ++ k') s = (kget k s).or (kget k' s) := by
  unfold kget
  rw [List.find?_append]
  cases k.find? fun p => decide (p.1 = s) <;> rfl
theorem kget_none {k : KD} {s : Spt} (h : s ∉ k.map (·.1)) : kget k s = none := by
  unfold kget
  rw [List.find?_eq_none.mpr fun p hp => by
    rw [decide_eq_true_iff]
    exact fun e => h (List.mem_map.mpr ⟨p, hp, e⟩)]; rfl
theorem kget_some {k : KD} {s : Spt} (h : s ∈ k.map (·.1)) : (kget k s).isSome = true := by
  unfold kget
  rw [Option.isSome_map, List.find?_isSome]
  obtain ⟨p, hp, e⟩ := List.mem_map.mp h
  exact ⟨p, hp, decide_eq_true e⟩
abbrev Sp := Nat ⊕ Spt
def hrdK (k : KD) : Sp → Nat
  | .inl l => l
  | .inr s => (kget k s).getD 0
/-- the places not known yet -/
def frs (D : List Spt) (sps : List Sp) : List Spt := sps.filterMap fun sp => match sp with
  | .inl _ => none
  | .inr s => if s ∈ D then none else some s
theorem zip_fst {D : List Spt} {ls : List Nat} (h : ls.length = D.length) : (D.zip ls).map (·.1) = D := by
  rw [List.map_fst_zip (by omega)]
/-- all ways to know more -/
def wid (m : Nat) (k : KD) (sps : List Sp) : List KD := sps.foldl (fun found sp => match sp with
  | .inl _ => found
  | .inr s => if (kget k s).isSome = true then found else found.flatMap fun one => (List.range m).map fun l => one ++ [(s, l)]) [k]
theorem frs_cons (D : List Spt) (sp : Sp) (sps : List Sp) : frs D (sp :: sps) = (match sp with
  | .inl _ => []
  | .inr s => if s ∈ D then [] else [s]) ++ frs D sps := by
  unfold frs
  cases sp with
  | inl l => rfl
  | inr s =>
    by_cases h : s ∈ D
    · simp [h]
    · simp [h]
theorem wid_go {m : Nat} {k : KD} {D : List Spt} (hk : k.map (·.1) = D) : ∀ (sps : List Sp) (F : List Spt), sps.foldl (fun found sp => match sp with
  | .inl _ => found
  | .inr s => if (kget k s).isSome = true then found else found.flatMap fun one => (List.range m).map fun l => one ++ [(s, l)]) ((tups m F.length).map fun ls => k ++ F.zip ls) = (tups m (F ++ frs D sps).length).map fun ls => k ++ (F ++ frs D sps).zip ls
  | [], F => by simp [frs]
  | .inl l :: sps, F => by
    rw [List.foldl_cons, frs_cons]
    exact wid_go hk sps F
  | .inr s :: sps, F => by
    rw [List.foldl_cons, frs_cons]
    by_cases h : s ∈ D
    · have : (kget k s).isSome = true := kget_some (by rw [hk]; exact h)
      simp only [this, if_true, h]
      exact wid_go hk sps F
    · have hn : ¬ (kget k s).isSome = true := by rw [kget_none (by rw [hk]; exact h)]; exact Bool.false_ne_true
      have hn' : (kget k s).isSome = false := by simpa using hn
      simp only [hn', if_false, h, Bool.false_eq_true]
      have e : ((tups m F.length).map fun ls => k ++ F.zip ls).flatMap (fun one => (List.range m).map fun l => one ++ [(s, l)]) = (tups m (F ++ [s]).length).map fun ls => k ++ (F ++ [s]).zip ls := by
        rw [List.length_append, List.length_singleton, tups, List.map_flatMap, List.flatMap_map]
        have : ∀ L : List (List Nat), (∀ o ∈ L, o.length = F.length) → L.flatMap (fun o => (List.range m).map fun l => (k ++ F.zip o) ++ [(s, l)]) = L.flatMap fun o => ((List.range m).map fun l => o ++ [l]).map fun ls => k ++ (F ++ [s]).zip ls := by
          intro L
          induction L with
          | nil => exact fun _ => rfl
          | cons o L ih =>
            intro hl
            rw [List.flatMap_cons, List.flatMap_cons, ih fun x hx => hl x (List.mem_cons_of_mem _ hx), List.map_map]
            congr 1
            refine List.map_congr_left fun l _ => ?_
            show (k ++ F.zip o) ++ [(s, l)] = k ++ (F ++ [s]).zip (o ++ [l])
            rw [List.zip_append (hl o List.mem_cons_self).symm, List.append_assoc]; rfl
        exact this _ fun o ho => (tups_mem.mp ho).1
      have := wid_go (m := m) hk sps (F ++ [s])
      rw [← e] at this
      rw [this, List.append_assoc]
theorem wid_eq {m : Nat} {k : KD} {D : List Spt} (hk : k.map (·.1) = D) (sps : List Sp) : wid m k sps = (tups m (frs D sps).length).map fun ls => k ++ (frs D sps).zip ls := by
  have := wid_go (m := m) hk sps []
  rw [List.nil_append] at this
  rw [← this]
  unfold wid
  congr 1
  show [k] = [k ++ ([] : List Spt).zip []]
  rw [List.zip_nil_right, List.append_nil]
theorem hrdK_app {k k' : KD} {sp : Sp} (h : ∀ s, sp = .inr s → s ∈ k.map (·.1)) : hrdK (k ++ k') sp = hrdK k sp := by
  cases sp with
  | inl l => rfl
  | inr s =>
    show (kget (k ++ k') s).getD 0 = (kget k s).getD 0
    rw [kget_app]
    have := kget_some (h s rfl)
    cases q : kget k s with
    | none => rw [q] at this; cases this
    | some v => rfl
/-- what is heard, and what must be so of it -/
abbrev Cn := List Sp × (List Nat → Bool)
def okK (c : Cn) (k : KD) : Bool := c.2 (c.1.map (hrdK k))
def stepK (m : Nat) (found : List KD) (c : Cn) : List KD := found.flatMap fun k => (wid m k c.1).filter (okK c)
structure KI (m : Nat) (D : List Spt) (LS : List (List Nat)) (CS : List Cn) : Prop where
  nd : D.Nodup
  cov : ∀ c ∈ CS, ∀ s, .inr s ∈ c.1 → s ∈ D
  only : ∀ s ∈ D, ∃ c ∈ CS, .inr s ∈ c.1
  mem : ∀ ls, ls ∈ LS ↔ ls.length = D.length ∧ (∀ x ∈ ls, x < m) ∧ ∀ c ∈ CS, okK c (D.zip ls) = true
  lnd : LS.Nodup
theorem okK_app {c : Cn} {k k' : KD} (h : ∀ s, .inr s ∈ c.1 → s ∈ k.map (·.1)) : okK c (k ++ k') = okK c k := by
  unfold okK
  refine congrArg c.2 ?_
  exact List.map_congr_left fun sp hsp => hrdK_app fun s e => h s (e ▸ hsp)
theorem KI.step {m : Nat} {D : List Spt} {LS : List (List Nat)} {CS : List Cn} (I : KI m D LS CS) {c : Cn} (hc : (frs D c.1).Nodup) : ∃ LS', stepK m (LS.map fun ls => D.zip ls) c = LS'.map (fun ls => (D ++ frs D c.1).zip ls) ∧ KI m (D ++ frs D c.1) LS' (CS ++ [c]) := by
  have hz : ∀ ls ∈ LS, (D.zip ls).map (·.1) = D := fun ls hl => zip_fst ((I.mem ls).mp hl).1
  have fr : ∀ s, s ∈ frs D c.1 ↔ .inr s ∈ c.1 ∧ s ∉ D := fun s => by
    unfold frs
    rw [List.mem_filterMap]
    constructor
    · rintro ⟨sp, h1, h2⟩
      cases sp with
      | inl l => cases h2
      | inr s' =>
        by_cases h : s' ∈ D
        · simp [h] at h2
        · simp only [h, if_false] at h2
          cases h2
          exact ⟨h1, h⟩
    · rintro ⟨h1, h2⟩
      exact ⟨.inr s, h1, by simp [h2]⟩
  refine ⟨LS.flatMap fun ls => ((tups m (frs D c.1).length).filter fun l2 => okK c ((D ++ frs D c.1).zip (ls ++ l2))).map fun l2 => ls ++ l2, ?_, ?_, ?_, ?_, ?_, ?_⟩
  · unfold stepK
    rw [List.flatMap_map, List.map_flatMap]
    have : ∀ L : List (List Nat), (∀ ls ∈ L, ls ∈ LS) → L.flatMap (fun ls => (wid m (D.zip ls) c.1).filter (okK c)) = L.flatMap fun ls => (((tups m (frs D c.1).length).filter fun l2 => okK c ((D ++ frs D c.1).zip (ls ++ l2))).map fun l2 => ls ++ l2).map fun ls => (D ++ frs D c.1).zip ls := by
      intro L
      induction L with
      | nil => exact fun _ => rfl
      | cons ls L ih =>
        intro hl
        have h1 := hl ls List.mem_cons_self
        have hlen := ((I.mem ls).mp h1).1
        rw [List.flatMap_cons, List.flatMap_cons, ih fun x hx => hl x (List.mem_cons_of_mem _ hx), wid_eq (hz ls h1), List.filter_map, List.map_map]
        congr 1
        have e : ∀ l2, D.zip ls ++ (frs D c.1).zip l2 = (D ++ frs D c.1).zip (ls ++ l2) := fun l2 => (List.zip_append hlen.symm).symm
        have ef : (okK c ∘ fun l2 => D.zip ls ++ (frs D c.1).zip l2) = fun l2 => okK c ((D ++ frs D c.1).zip (ls ++ l2)) := by
          funext l2; show okK c (_ ++ _) = _; rw [e]
        rw [ef]
        exact List.map_congr_left fun l2 _ => e l2
    exact this LS fun _ h => h
  · rw [List.nodup_append]
    exact ⟨I.nd, hc, fun a ha b hb e => ((fr b).mp hb).2 (e ▸ ha)⟩
  · intro c' hc' s hs
    rcases List.mem_append.mp hc' with h | h
    · exact List.mem_append_left _ (I.cov c' h s hs)
    · rw [List.mem_singleton.mp h] at hs
      by_cases hd : s ∈ D
      · exact List.mem_append_left _ hd
      · exact List.mem_append_right _ ((fr s).mpr ⟨hs, hd⟩)
  · intro s hs
    rcases List.mem_append.mp hs with h | h
    · obtain ⟨c', h1, h2⟩ := I.only s h
      exact ⟨c', List.mem_append_left _ h1, h2⟩
    · exact ⟨c, List.mem_append_right _ (List.mem_singleton.mpr rfl), ((fr s).mp h).1⟩
  · intro ls'
    have old : ∀ ls ∈ LS, ∀ l2, ∀ c' ∈ CS, okK c' ((D ++ frs D c.1).zip (ls ++ l2)) = okK c' (D.zip ls) := fun ls hl l2 c' hc' => by
      rw [List.zip_append ((I.mem ls).mp hl).1.symm]
      exact okK_app fun s hs => by rw [hz ls hl]; exact I.cov c' hc' s hs
    rw [List.mem_flatMap]
    constructor
    · rintro ⟨ls, h1, h2⟩
      obtain ⟨l2, h3, rfl⟩ := List.mem_map.mp h2
      obtain ⟨h4, h5⟩ := List.mem_filter.mp h3
      obtain ⟨t1, t2⟩ := tups_mem.mp h4
      obtain ⟨m1, m2, m3⟩ := (I.mem ls).mp h1
      refine ⟨by rw [List.length_append, List.length_append, m1, t1], fun x hx => ?_, fun c' hc' => ?_⟩
      · rcases List.mem_append.mp hx with h | h
        · exact m2 x h
        · exact t2 x h
      · rcases List.mem_append.mp hc' with h | h
        · rw [old ls h1 l2 c' h]; exact m3 c' h
        · rw [List.mem_singleton.mp h]; exact h5
    · rintro ⟨m1, m2, m3⟩
      rw [List.length_append] at m1
      have e : ls' = ls'.take D.length ++ ls'.drop D.length := (List.take_append_drop _ _).symm
      have l1 : (ls'.take D.length).length = D.length := by rw [List.length_take]; omega
      have l2 : (ls'.drop D.length).length = (frs D c.1).length := by rw [List.length_drop]; omega
      have x1 : ∀ x ∈ ls'.take D.length, x < m := fun x hx => m2 x (List.mem_of_mem_take hx)
      have x2 : ∀ x ∈ ls'.drop D.length, x < m := fun x hx => m2 x (List.mem_of_mem_drop hx)
      have hm : ls'.take D.length ∈ LS := (I.mem _).mpr ⟨l1, x1, fun c' hc' => by
        have := m3 c' (List.mem_append_left _ hc')
        rw [e, List.zip_append l1.symm] at this
        rw [← this]
        exact (okK_app fun s hs => by rw [zip_fst l1]; exact I.cov c' hc' s hs).symm⟩
      refine ⟨_, hm, List.mem_map.mpr ⟨ls'.drop D.length, List.mem_filter.mpr ⟨tups_mem.mpr ⟨l2, x2⟩, ?_⟩, e.symm⟩⟩
      rw [← e]
      exact m3 c (List.mem_append_right _ (List.mem_singleton.mpr rfl))
  · rw [List.Nodup, List.pairwise_flatMap]
    refine ⟨fun ls _ => ?_, I.lnd.imp_of_mem fun {a b} ha hb hab x hx y hy e => ?_⟩
    · rw [List.pairwise_map]
      exact ((tups_nodup m _).sublist List.filter_sublist).imp fun {a b} h e => h (List.append_cancel_left e)
    · obtain ⟨a2, _, rfl⟩ := List.mem_map.mp hx
      obtain ⟨b2, _, rfl⟩ := List.mem_map.mp hy
      have la := ((I.mem a).mp ha).1
      have lb := ((I.mem b).mp hb).1
      exact hab (List.append_inj e (by omega)).1
theorem KI.nil (m : Nat) : KI m [] [[]] [] := by
  refine ⟨List.nodup_nil, (fun c h => nomatch h), (fun s h => nomatch h), fun ls => ?_, by simp⟩
  rw [List.mem_singleton]
  constructor
  · rintro rfl; exact ⟨rfl, (fun x h => nomatch h), (fun c h => nomatch h)⟩
  · exact fun h => List.length_eq_zero_iff.mp h.1
end G
set_option Elab.async false
set_option linter.all false
set_option maxRecDepth 100000
set_option maxHeartbeats 1000000
namespace G
open PySem DL
local instance : DL.TabCtx := ⟨[]⟩
def spotE (ss : List Sg) (R : List (List Nat)) (b : Nat) (e : Str × Int) : Sp := if e.2.toNat ≤ b then .inl ((R.getD (b - e.2.toNat) []).getD (nOf ss e.1) 0) else .inr (nOf ss e.1, e.2.toNat - b)
def cnO (m : Nat) (ss : List Sg) (R : List (List Nat)) (b i : Nat) (s : Sg) : Cn := ((left m s).map (spotE ss R b), fun xs => decide ((leanS m s).tab.getD (plc m xs) 0 = (((R.getD b []).getD i 0 : Nat) : Int)))
def valOf (st : St) (s : Spt) : Nat := (st.getD s.1 []).getD (3 - s.2) 0
def stN (n : Nat) (k : KD) : St := (List.range n).map fun i => [3, 2, 1].map fun g => (kget k (i, g)).getD 0
theorem kget_zip {D : List Spt} {ls : List Nat} (hd : D.Nodup) (hl : ls.length = D.length) {i : Nat} {s : Spt} (h : D[i]? = some s) : kget (D.zip ls) s = ls[i]? := by
  induction D generalizing ls i with
  | nil => simp at h
  | cons x D ih =>
    cases ls with
    | nil => simp at hl
    | cons l ls =>
      obtain ⟨h1, h2⟩ := List.nodup_cons.mp hd
      have hl : ls.length = D.length := by simpa using hl
      cases i with
      | zero =>
        have : x = s := by simpa using h
        subst this
        show kget ((x, l) :: D.zip ls) x = _
        unfold kget
        rw [List.find?_cons_of_pos (by simp)]; rfl
      | succ i =>
        have h : D[i]? = some s := by simpa using h
        have ne : x ≠ s := fun e => h1 (e ▸ List.mem_of_getElem? h)
        have := ih h2 hl h
        show kget ((x, l) :: D.zip ls) s = _
        unfold kget at this ⊢
        rw [List.find?_cons_of_neg (by simpa using ne)]
        exact this
theorem kget_map {D : List Spt} (hd : D.Nodup) (f : Spt → Nat) {s : Spt} (h : s ∈ D) : kget (D.zip (D.map f)) s = some (f s) := by
  obtain ⟨i, hi⟩ := List.getElem?_of_mem h
  rw [kget_zip hd (by rw [List.length_map]) hi, List.getElem?_map, hi]; rfl
theorem stN_at {n : Nat} {k : KD} {s : Spt} (h1 : s.1 < n) (h2 : 1 ≤ s.2 ∧ s.2 ≤ 3) : valOf (stN n k) s = (kget k s).getD 0 := by
  unfold valOf stN
  rw [List.getD_eq_getElem?_getD (l := (List.range n).map _), List.getElem?_map, List.getElem?_range h1]
  obtain ⟨i, g⟩ := s
  show ([3, 2, 1].map fun g => (kget k (i, g)).getD 0).getD (3 - g) 0 = _
  have h2 : 1 ≤ g ∧ g ≤ 3 := h2
  rcases (by omega : g = 1 ∨ g = 2 ∨ g = 3) with rfl | rfl | rfl <;> rfl
theorem st_ext {m n : Nat} {a b : St} (ha : GSt m n a) (hb : GSt m n b) (h : ∀ i < n, ∀ g, 1 ≤ g ∧ g ≤ 3 → valOf a (i, g) = valOf b (i, g)) : a = b := by
  refine List.ext_getElem (by rw [ha.len, hb.len]) fun i h1 h2 => ?_
  have r1 := (ha.row _ (List.getElem_mem h1)).1
  have r2 := (hb.row _ (List.getElem_mem h2)).1
  have hi : i < n := by rw [← ha.len]; exact h1
  have key : ∀ g, 1 ≤ g ∧ g ≤ 3 → a[i].getD (3 - g) 0 = b[i].getD (3 - g) 0 := fun g hg => by
    have := h i hi g hg
    unfold valOf at this
    rw [List.getD_eq_getElem?_getD (l := a), List.getD_eq_getElem?_getD (l := b), List.getElem?_eq_getElem h1, List.getElem?_eq_getElem h2] at this
    exact this
  have k1 := key 3 (by omega)
  have k2 := key 2 (by omega)
  have k3 := key 1 (by omega)
  generalize a[i] = u at *
  generalize b[i] = v at *
  match u, v, r1, r2 with
  | [x, y, z], [x', y', z'], _, _ =>
    have k1 : x = x' := k1
    have k2 : y = y' := k2
    have k3 : z = z' := k3
    rw [k1, k2, k3]
theorem stN_good {m n : Nat} {k : KD} (m0 : 0 < m) (h : ∀ p ∈ k, p.2 < m) : GSt m n (stN n k) := by
  refine ⟨by unfold stN; rw [List.length_map, List.length_range], fun r hr => ?_⟩
  obtain ⟨i, _, rfl⟩ := List.mem_map.mp hr
  refine ⟨rfl, fun x hx => ?_⟩
  obtain ⟨g, _, rfl⟩ := List.mem_map.mp hx
  cases q : kget k (i, g) with
  | none => exact m0
  | some v =>
    unfold kget at q
    obtain ⟨p, h1, rfl⟩ := Option.map_eq_some_iff.mp q
    exact h p (List.mem_of_find?_eq_some h1)
section
variable {many : Int} {m : Nat} {ss : List Sg} {st : St} {R : List (List Nat)} {N : Nat}
/-- rows of a stretch -/
structure GRw (m n N : Nat) (R : List (List Nat)) : Prop where
  len : R.length = N
  row : ∀ r ∈ R, r.length = n ∧ ∀ x ∈ r, x < m
theorem hist_len (st : St) : (hist3 st).length = 3 := by unfold hist3; rw [List.length_map, List.length_range]
theorem hh_spot (hst : GSt m ss.length st) {e : Str × Int} (en : e.1 ∈ ss.map (·.name)) (e1 : 1 ≤ e.2) (e3 : e.2 ≤ 3) {k : KD} {b : Nat} (hb : ∀ s, spotE ss R b e = .inr s → (kget k s).getD 0 = valOf st s) : hrdK k (spotE ss R b e) = hh ss (hist3 st ++ R) b e := by
  unfold hh
  by_cases h : e.2.toNat ≤ b
  · have es : spotE ss R b e = .inl ((R.getD (b - e.2.toNat) []).getD (nOf ss e.1) 0) := by unfold spotE; rw [if_pos h]
    rw [es]
    show (R.getD (b - e.2.toNat) []).getD (nOf ss e.1) 0 = _
    have ei : ((b : Int) + 3 - e.2).toNat = (b - e.2.toNat) + 3 := by omega
    rw [ei, List.getD_eq_getElem?_getD (l := hist3 st ++ R), List.getElem?_append_right (by rw [hist_len]; omega), hist_len, Nat.add_sub_cancel, List.getD_eq_getElem?_getD (l := R)]
  · have es : spotE ss R b e = .inr (nOf ss e.1, e.2.toNat - b) := by unfold spotE; rw [if_neg h]
    have := hb _ es
    rw [es]
    show (kget k (nOf ss e.1, e.2.toNat - b)).getD 0 = _
    rw [this]
    have hj : b + 3 - e.2.toNat < 3 := by omega
    have ei : ((b : Int) + 3 - e.2).toNat = b + 3 - e.2.toNat := by omega
    have hi : nOf ss e.1 < st.length := by rw [hst.len]; exact nOf_lt en
    rw [ei, List.getD_eq_getElem?_getD (l := hist3 st ++ R), List.getElem?_append_left (by rw [hist_len]; exact hj)]
    unfold hist3 valOf
    rw [List.getElem?_map, List.getElem?_range hj]
    show (st.getD (nOf ss e.1) []).getD (3 - (e.2.toNat - b)) 0 = (col st (b + 3 - e.2.toNat)).getD (nOf ss e.1) 0
    unfold col
    rw [List.getD_eq_getElem?_getD (l := st.map _), List.getElem?_map, List.getD_eq_getElem?_getD (l := st), List.getElem?_eq_getElem hi]
    show st[nOf ss e.1].getD (3 - (e.2.toNat - b)) 0 = st[nOf ss e.1].getD (b + 3 - e.2.toNat) 0
    congr 1
    omega
theorem hh_small3 (m0 : 0 < m) (hst : GSt m ss.length st) (hR : GRw m ss.length N R) (b : Nat) (e : Str × Int) : hh ss (hist3 st ++ R) b e < m := by
  unfold hh
  rw [List.getD_eq_getElem?_getD, List.getD_eq_getElem?_getD]
  cases q : (hist3 st ++ R)[((b : Int) + 3 - e.2).toNat]? with
  | none => exact m0
  | some r =>
    show r[nOf ss e.1]?.getD 0 < m
    have hx : ∀ x ∈ r, x < m := by
      rcases List.mem_append.mp (List.mem_of_getElem? q) with z | z
      · obtain ⟨j, _, rfl⟩ := List.mem_map.mp z
        intro x hx
        obtain ⟨r, hr, rfl⟩ := List.mem_map.mp hx
        rw [List.getD_eq_getElem?_getD]
        cases q2 : r[j]? with
        | none => exact m0
        | some y => exact (hst.row r hr).2 y (List.mem_of_getElem? q2)
      · exact (hR.row r z).2
    cases q2 : r[nOf ss e.1]? with
    | none => exact m0
    | some y => exact hx y (List.mem_of_getElem? q2)
theorem ok_sem (hm : many = m) (h : Good many ss) (hst : GSt m ss.length st) (hR : GRw m ss.length N R) {b i : Nat} {s : Sg} (hs : s ∈ ss) {k : KD} (hk : ∀ sp, .inr sp ∈ (cnO m ss R b i s).1 → (kget k sp).getD 0 = valOf st sp) : okK (cnO m ss R b i s) k = decide (sem m s (hh ss (hist3 st ++ R) b) = (((R.getD b []).getD i 0 : Nat) : Int)) := by
  have m2 := h.m2
  unfold okK cnO
  have e1 : ((left m s).map (spotE ss R b)).map (hrdK k) = (left m s).map (hh ss (hist3 st ++ R) b) := by
    rw [List.map_map]
    refine List.map_congr_left fun e he => ?_
    obtain ⟨_, en, e1, e3⟩ := (h.sg s hs).ear e (left_sub.subset he)
    exact hh_spot hst en e1 e3 fun sp hsp => hk sp (List.mem_map.mpr ⟨e, he, hsp⟩)
  show decide ((leanS m s).tab.getD (plc m (((left m s).map (spotE ss R b)).map (hrdK k))) 0 = _) = _
  rw [e1, ← lean_ears m s]
  have := lean_sem hm h.m2 (h.sg s hs) (h := hh ss (hist3 st ++ R) b) fun e => hh_small3 (by omega) hst hR b e
  rw [← this]; rfl
theorem hh_take {st : St} {e : Str × Int} (e1 : 1 ≤ e.2) (e3 : e.2 ≤ 3) (b : Nat) : hh ss (hist3 st ++ R.take b) b e = hh ss (hist3 st ++ R) b e := by
  unfold hh
  have e2 : hist3 st ++ R.take b = (hist3 st ++ R).take (b + 3) := by
    rw [List.take_append, hist_len, Nat.add_sub_cancel, List.take_of_length_le (l := hist3 st) (by rw [hist_len]; omega)]
  rw [e2, List.getD_eq_getElem?_getD (l := (hist3 st ++ R).take (b + 3)), List.getElem?_take, if_pos (by omega), List.getD_eq_getElem?_getD (l := hist3 st ++ R)]
theorem sings_iff (hm : many = m) (h : Good many ss) (hst : GSt m ss.length st) (hR : GRw m ss.length N R) : rowsL m ss (fun _ _ => none) st N = R ↔ ∀ b < N, ∀ i s, ss[i]? = some s → sem m s (hh ss (hist3 st ++ R) b) = (((R.getD b []).getD i 0 : Nat) : Int) := by
  have hl0 : ∀ (b : Nat) (x : Str) (l : Nat), (none : Option Nat) = some l → l < m := fun _ _ _ e => nomatch e
  have row : ∀ b, lrow m ss (fun _ _ => none) b (stL m ss (fun _ _ => none) st b) = ss.map fun s => (sem m s (hh ss (histL m ss (fun _ _ => none) st b) b)).toNat := fun b => by
    unfold lrow
    refine List.map_congr_left fun s hs => ?_
    rw [sem_hh hm h hst (ld := fun _ _ => none) hl0 b hs]; rfl
  have rlen : ∀ n, (rowsL m ss (fun _ _ => none) st n).length = n := fun n => by unfold rowsL; rw [List.length_map, List.length_range]
  have tk : ∀ {n b : Nat}, b ≤ n → (rowsL m ss (fun _ _ => none) st n).take b = rowsL m ss (fun _ _ => none) st b := fun {n b} hb => by
    unfold rowsL
    rw [← List.map_take, List.take_range, Nat.min_eq_left hb]
  have ag : ∀ b, ∀ s ∈ ss, rowsL m ss (fun _ _ => none) st b = R.take b → sem m s (hh ss (histL m ss (fun _ _ => none) st b) b) = sem m s (hh ss (hist3 st ++ R) b) := fun b s hs e => by
    refine sem_congr fun x hx => ?_
    obtain ⟨_, _, x1, x3⟩ := (h.sg s hs).ear x hx
    rw [← hh_take (R := R) x1 x3 b, ← e]; rfl
  have nn : ∀ b, ∀ s ∈ ss, 0 ≤ sem m s (hh ss (hist3 st ++ R) b) := fun b s hs => by
    have m2 := h.m2
    exact (sem_rng hm (h.sg s hs) fun e => hh_small3 (by omega) hst hR b e).1
  constructor
  · intro e b hb i s hs
    have hsm := List.mem_of_getElem? hs
    have e1 : rowsL m ss (fun _ _ => none) st b = R.take b := by rw [← e, tk (by omega)]
    have e2 : R[b]? = some (ss.map fun s => (sem m s (hh ss (histL m ss (fun _ _ => none) st b) b)).toNat) := by
      rw [← e]
      unfold rowsL
      rw [List.getElem?_map, List.getElem?_range hb, Option.map_some, row b]
    rw [List.getD_eq_getElem?_getD (l := R), e2]
    show sem m s (hh ss (hist3 st ++ R) b) = (((ss.map fun s => (sem m s (hh ss (histL m ss (fun _ _ => none) st b) b)).toNat).getD i 0 : Nat) : Int)
    rw [List.getD_eq_getElem?_getD, List.getElem?_map, hs]
    show _ = (((sem m s (hh ss (histL m ss (fun _ _ => none) st b) b)).toNat : Nat) : Int)
    rw [ag b s hsm e1, Int.toNat_of_nonneg (nn b s hsm)]
  · intro hall
    have : ∀ b, b ≤ N → rowsL m ss (fun _ _ => none) st b = R.take b := by
      intro b
      induction b with
      | zero => intro _; rfl
      | succ b ih =>
        intro hb
        have e1 := ih (by omega)
        have hbR : b < R.length := by rw [hR.len]; omega
        rw [rowsL_succ, e1, row b, List.take_succ, List.getElem?_eq_getElem hbR]
        congr 1
        show [_] = [R[b]]
        congr 1
        refine List.ext_getElem (by rw [List.length_map, (hR.row _ (List.getElem_mem hbR)).1]) fun i h1 h2 => ?_
        rw [List.length_map] at h1
        have hs : ss[i]? = some ss[i] := List.getElem?_eq_getElem h1
        have := hall b (by omega) i ss[i] hs
        rw [List.getElem_map, ag b ss[i] (List.getElem_mem h1) e1, this, Int.toNat_natCast, List.getD_eq_getElem?_getD, List.getD_eq_getElem?_getD, List.getElem?_eq_getElem hbR]
        show R[b][i]?.getD 0 = R[b][i]
        rw [List.getElem?_eq_getElem h2]; rfl
    rw [this N (Nat.le_refl _), List.take_of_length_le (by rw [hR.len]; exact Nat.le_refl _)]
end
end G
set_option Elab.async false
set_option linter.all false
set_option maxRecDepth 100000
set_option maxHeartbeats 1000000
namespace G
open PySem DL
local instance : DL.TabCtx := ⟨[]⟩
def allC (m : Nat) (ss : List Sg) (R : List (List Nat)) (N : Nat) : List Cn := (List.range N).flatMap fun b => ss.zipIdx.map fun q => cnO m ss R b q.2 q.1
theorem allC_mem {m : Nat} {ss : List Sg} {R : List (List Nat)} {N : Nat} {c : Cn} : c ∈ allC m ss R N ↔ ∃ b, b < N ∧ ∃ i s, ss[i]? = some s ∧ c = cnO m ss R b i s := by
  unfold allC
  rw [List.mem_flatMap]
  constructor
  · rintro ⟨b, hb, h⟩
    obtain ⟨q, hq, rfl⟩ := List.mem_map.mp h
    exact ⟨b, List.mem_range.mp hb, q.2, q.1, List.mem_zipIdx_iff_getElem?.mp hq, rfl⟩
  · rintro ⟨b, hb, i, s, hs, rfl⟩
    exact ⟨b, List.mem_range.mpr hb, List.mem_map.mpr ⟨(s, i), List.mem_zipIdx_iff_getElem?.mpr hs, rfl⟩⟩
def zeroOff (n : Nat) (D : List Spt) (st : St) : Prop := ∀ i, i < n → ∀ g, 1 ≤ g ∧ g ≤ 3 → (i, g) ∉ D → valOf st (i, g) = 0
/-- the places that are asked -/
def Ask (m : Nat) (ss : List Sg) (N : Nat) (s : Spt) : Prop := ∃ b, b < N ∧ ∃ u ∈ ss, ∃ e ∈ left m u, b < e.2.toNat ∧ s = (nOf ss e.1, e.2.toNat - b)
section
variable {many : Int} {m : Nat} {ss : List Sg} {R : List (List Nat)} {N : Nat} {D : List Spt} {LS : List (List Nat)}
theorem cn_spot {b i : Nat} {s : Sg} {sp : Spt} : .inr sp ∈ (cnO m ss R b i s).1 ↔ ∃ e ∈ left m s, b < e.2.toNat ∧ sp = (nOf ss e.1, e.2.toNat - b) := by
  show Sum.inr sp ∈ (left m s).map (spotE ss R b) ↔ _
  rw [List.mem_map]
  constructor
  · rintro ⟨e, he, h⟩
    unfold spotE at h
    by_cases q : e.2.toNat ≤ b
    · rw [if_pos q] at h; cases h
    · rw [if_neg q] at h; cases h; exact ⟨e, he, by omega, rfl⟩
  · rintro ⟨e, he, h1, rfl⟩
    exact ⟨e, he, by unfold spotE; rw [if_neg (by omega)]⟩
theorem D_ask (I : KI m D LS (allC m ss R N)) (s : Spt) : s ∈ D ↔ Ask m ss N s := by
  constructor
  · intro h
    obtain ⟨c, hc, hs⟩ := I.only s h
    obtain ⟨b, hb, i, u, hu, rfl⟩ := allC_mem.mp hc
    obtain ⟨e, he, h1, h2⟩ := cn_spot.mp hs
    exact ⟨b, hb, u, List.mem_of_getElem? hu, e, he, h1, h2⟩
  · rintro ⟨b, hb, u, hu, e, he, h1, h2⟩
    obtain ⟨i, hi⟩ := List.getElem?_of_mem hu
    exact I.cov _ (allC_mem.mpr ⟨b, hb, i, u, hi, rfl⟩) s (cn_spot.mpr ⟨e, he, h1, h2⟩)
theorem ask_in (h : Good many ss) {s : Spt} (hs : Ask m ss N s) : s.1 < ss.length ∧ 1 ≤ s.2 ∧ s.2 ≤ 3 := by
  obtain ⟨b, hb, u, hu, e, he, h1, rfl⟩ := hs
  obtain ⟨_, en, _, e3⟩ := (h.sg u hu).ear e (left_sub.subset he)
  have := nOf_lt en
  exact ⟨this, by simp only; omega, by simp only; omega⟩
theorem zip_lt {ls : List Nat} (hx : ∀ x ∈ ls, x < m) : ∀ p ∈ D.zip ls, p.2 < m := fun p hp => hx _ (List.of_mem_zip hp).2
theorem ok_all (hm : many = m) (h : Good many ss) (hR : GRw m ss.length N R) {st : St} (hst : GSt m ss.length st) {k : KD} (hk : ∀ s, Ask m ss N s → (kget k s).getD 0 = valOf st s) : (∀ c ∈ allC m ss R N, okK c k = true) ↔ rowsL m ss (fun _ _ => none) st N = R := by
  rw [sings_iff hm h hst hR]
  constructor
  · intro hc b hb i s hs
    have := hc _ (allC_mem.mpr ⟨b, hb, i, s, hs, rfl⟩)
    rw [ok_sem hm h hst hR (List.mem_of_getElem? hs) fun sp hsp => by
      obtain ⟨e, he, h1, h2⟩ := cn_spot.mp hsp
      exact hk sp ⟨b, hb, s, List.mem_of_getElem? hs, e, he, h1, h2⟩] at this
    exact of_decide_eq_true this
  · intro hall c hc
    obtain ⟨b, hb, i, s, hs, rfl⟩ := allC_mem.mp hc
    rw [ok_sem hm h hst hR (List.mem_of_getElem? hs) fun sp hsp => by
      obtain ⟨e, he, h1, h2⟩ := cn_spot.mp hsp
      exact hk sp ⟨b, hb, s, List.mem_of_getElem? hs, e, he, h1, h2⟩]
    exact decide_eq_true (hall b hb i s hs)
theorem known_to (hm : many = m) (h : Good many ss) (hR : GRw m ss.length N R) (I : KI m D LS (allC m ss R N)) {ls : List Nat} (hl : ls ∈ LS) : GSt m ss.length (stN ss.length (D.zip ls)) ∧ zeroOff ss.length D (stN ss.length (D.zip ls)) ∧ rowsL m ss (fun _ _ => none) (stN ss.length (D.zip ls)) N = R := by
  have m2 := h.m2
  obtain ⟨h1, h2, h3⟩ := (I.mem ls).mp hl
  have g := stN_good (m := m) (n := ss.length) (k := D.zip ls) (by omega) (zip_lt h2)
  refine ⟨g, fun i hi gg hg hn => ?_, ?_⟩
  · rw [stN_at hi hg, kget_none (by rw [zip_fst h1]; exact hn)]; rfl
  · refine (ok_all hm h hR g fun s hs => ?_).mp h3
    obtain ⟨a1, a2⟩ := ask_in h hs
    rw [stN_at a1 a2]
theorem known_from (hm : many = m) (h : Good many ss) (hR : GRw m ss.length N R) (I : KI m D LS (allC m ss R N)) {st : St} (hst : GSt m ss.length st) (hz : zeroOff ss.length D st) (hr : rowsL m ss (fun _ _ => none) st N = R) : ∃ ls ∈ LS, stN ss.length (D.zip ls) = st := by
  have m2 := h.m2
  have vlt : ∀ s, valOf st s < m := fun s => by
    unfold valOf
    rw [List.getD_eq_getElem?_getD, List.getD_eq_getElem?_getD]
    cases q : st[s.1]? with
    | none => show ([] : List Nat)[3 - s.2]?.getD 0 < m; simp; omega
    | some r =>
      show r[3 - s.2]?.getD 0 < m
      cases q2 : r[3 - s.2]? with
      | none => show 0 < m; omega
      | some y => exact (hst.row r (List.mem_of_getElem? q)).2 y (List.mem_of_getElem? q2)
  have x : ∀ y ∈ D.map (valOf st), y < m := fun y hy => by
    obtain ⟨s, _, rfl⟩ := List.mem_map.mp hy
    exact vlt s
  refine ⟨D.map (valOf st), (I.mem _).mpr ⟨by rw [List.length_map], x, (ok_all hm h hR hst fun s hs => ?_).mpr hr⟩, ?_⟩
  · rw [kget_map I.nd (valOf st) ((D_ask I s).mpr hs)]; rfl
  · refine st_ext (stN_good (by omega) (zip_lt x)) hst fun i hi g hg => ?_
    rw [stN_at hi hg]
    by_cases q : (i, g) ∈ D
    · rw [kget_map I.nd (valOf st) q]; rfl
    · rw [kget_none (by rw [zip_fst (by rw [List.length_map])]; exact q), hz i hi g hg q]; rfl
theorem known_inj (h : Good many ss) (I : KI m D LS (allC m ss R N)) {a b : List Nat} (ha : a ∈ LS) (hb : b ∈ LS) (e : stN ss.length (D.zip a) = stN ss.length (D.zip b)) : a = b := by
  have a1 := ((I.mem a).mp ha).1
  have b1 := ((I.mem b).mp hb).1
  refine List.ext_getElem (by omega) fun i h1 h2 => ?_
  have hi : i < D.length := by omega
  have hd : D[i]? = some D[i] := List.getElem?_eq_getElem hi
  obtain ⟨q1, q2⟩ := ask_in h ((D_ask I _).mp (List.getElem_mem hi))
  have k1 := stN_at (k := D.zip a) q1 q2
  have k2 := stN_at (k := D.zip b) q1 q2
  rw [e, k2, kget_zip I.nd a1 hd, kget_zip I.nd b1 hd, List.getElem?_eq_getElem h1, List.getElem?_eq_getElem h2] at k1
  exact k1.symm
theorem known_nodup (h : Good many ss) (I : KI m D LS (allC m ss R N)) : (LS.map fun ls => stN ss.length (D.zip ls)).Nodup := by
  rw [List.Nodup, List.pairwise_map]
  exact I.lnd.imp_of_mem fun {a b} ha hb hab e => hab (known_inj h I ha hb e)
theorem frs_nodup (h : Good many ss) (hm0 : 0 < m) {b i : Nat} {s : Sg} (hs : s ∈ ss) : (frs D (cnO m ss R b i s).1).Nodup := by
  have hn : (left m s).Nodup := by
    obtain ⟨a1, a2⟩ := rising_srtd (h.sg s hs).elen (h.sg s hs).rise
    exact a2.sublist left_sub
  show (frs D ((left m s).map (spotE ss R b))).Nodup
  have key : ∀ l : List (Str × Int), l.Nodup → (∀ e ∈ l, e.1 ∈ ss.map (·.name) ∧ 1 ≤ e.2) → (frs D (l.map (spotE ss R b))).Nodup := by
    intro l
    induction l with
    | nil => exact fun _ _ => List.nodup_nil
    | cons e l ih =>
      intro hn hl
      obtain ⟨n1, n2⟩ := List.nodup_cons.mp hn
      have ih := ih n2 fun x hx => hl x (List.mem_cons_of_mem _ hx)
      rw [List.map_cons, frs_cons]
      unfold spotE
      by_cases q : e.2.toNat ≤ b
      · rw [if_pos q]; exact ih
      · rw [if_neg q]
        show ((if (nOf ss e.1, e.2.toNat - b) ∈ D then [] else [(nOf ss e.1, e.2.toNat - b)]) ++ frs D (l.map (spotE ss R b))).Nodup
        by_cases z : (nOf ss e.1, e.2.toNat - b) ∈ D
        · rw [if_pos z]; exact ih
        · rw [if_neg z]
          refine List.nodup_cons.mpr ⟨fun w => ?_, ih⟩
          unfold frs at w
          obtain ⟨sp, h1, h2⟩ := List.mem_filterMap.mp w
          obtain ⟨x, hx, rfl⟩ := List.mem_map.mp h1
          unfold spotE at h2
          by_cases y : x.2.toNat ≤ b
          · rw [if_pos y] at h2; cases h2
          · rw [if_neg y] at h2
            by_cases v : (nOf ss x.1, x.2.toNat - b) ∈ D
            · simp only [v, if_true] at h2; cases h2
            · simp only [v, if_false] at h2
              injection h2 with h2
              injection h2 with g1 g2
              obtain ⟨x1, x2⟩ := hl x (List.mem_cons_of_mem _ hx)
              obtain ⟨e1, e2⟩ := hl e List.mem_cons_self
              have en : x.1 = e.1 := by
                have w1 := List.getElem_idxOf (x := x.1) (xs := ss.map (·.name)) (List.idxOf_lt_length_of_mem x1)
                have w2 := List.getElem_idxOf (x := e.1) (xs := ss.map (·.name)) (List.idxOf_lt_length_of_mem e1)
                unfold nOf at g1
                rw [← w1, ← w2]
                congr 1
              have : x = e := Prod.ext en (by omega)
              exact n1 (this ▸ hx)
  exact key _ hn fun e he => by
    obtain ⟨_, en, e1, _⟩ := (h.sg s hs).ear e (left_sub.subset he)
    exact ⟨en, e1⟩
end
end G
set_option Elab.async false
set_option linter.all false
set_option maxRecDepth 100000
set_option maxHeartbeats 1000000
namespace G
open PySem DL
local instance : DL.TabCtx := ⟨[]⟩
def sptD (s : Spt) : PyData := rowD [s.1, s.2]
def kD (k : KD) : List (PyData × PyData) := k.map fun p => (sptD p.1, natD p.2)
def spD : Sp → PyData
  | .inl l => natD l
  | .inr s => sptD s
theorem keyEq_spt (a b : Spt) : keyEqD (sptD a) (sptD b) = decide (a = b) := by
  unfold sptD
  rw [keyEq_row]
  refine decide_eq_decide.mpr ⟨fun h => ?_, fun h => by rw [h]⟩
  injection h with h1 h2
  injection h2 with h2 _
  exact Prod.ext h1 h2
theorem dlook_kD (k : KD) (s : Spt) : dlook (kD k) (sptD s) = (kget k s).map natD := by
  unfold dlook kget kD
  induction k with
  | nil => rfl
  | cons p k ih =>
    have ek : keyEqD (sptD p.1) (sptD s) = decide (p.1 = s) := keyEq_spt _ _
    rw [List.map_cons]
    by_cases e : p.1 = s
    · rw [List.find?_cons_of_pos (by rw [ek, decide_eq_true e]), List.find?_cons_of_pos (by exact decide_eq_true e)]; rfl
    · rw [List.find?_cons_of_neg (by rw [ek, decide_eq_false e]; exact Bool.false_ne_true), List.find?_cons_of_neg (by rw [decide_eq_false e]; exact Bool.false_ne_true)]; exact ih
theorem keyOk_kD (k : KD) (s : Spt) : keyOk (kD k) (sptD s) = true := by
  unfold keyOk
  refine Bool.or_eq_true_iff.mpr (.inr (Bool.and_eq_true_iff.mpr ⟨Bool.and_eq_true_iff.mpr ⟨rfl, deep_row _⟩, ?_⟩))
  rw [List.all_eq_true]
  intro p hp
  obtain ⟨q, _, rfl⟩ := List.mem_map.mp hp
  rfl
theorem dput_kD {k : KD} {s : Spt} (h : s ∉ k.map (·.1)) (l : Nat) : dput (kD k) (sptD s) (natD l) = kD (k ++ [(s, l)]) := by
  rw [dput_new fun p hp => ?_]
  · unfold kD; rw [List.map_append]; rfl
  · obtain ⟨q, hq, rfl⟩ := List.mem_map.mp hp
    show keyEqD (sptD q.1) (sptD s) = false
    rw [keyEq_spt]
    exact decide_eq_false fun e => h (List.mem_map.mpr ⟨q, hq, e⟩)
/-- keys whose hashes differ -/
structure KOk (k : KD) : Prop where
  nd : (k.map (·.1)).Nodup
  lo : ∀ p ∈ k, p.1.1 < 2 ∧ 1 ≤ p.1.2 ∧ p.1.2 ≤ 3
theorem pairHs_kD : ∀ k : KD, pairHs (kD k) = some (k.map fun p => pHash (p.1.1 : Nat) (p.1.2 : Nat))
  | [] => rfl
  | p :: k => by
    show pairHs ((.tuple [.int ((p.1.1 : Nat) : Int), .int ((p.1.2 : Nat) : Int)], natD p.2) :: kD k) = _
    rw [pairHs, pairHs_kD k]; rfl
theorem hash_six : ∀ i j : Fin 2, ∀ g h : Fin 4, pHash (i.val : Nat) (g.val : Nat) = pHash (j.val : Nat) (h.val : Nat) → i = j ∧ g = h := by decide +kernel
theorem hash_inj {a b : Spt} (ha : a.1 < 2 ∧ 1 ≤ a.2 ∧ a.2 ≤ 3) (hb : b.1 < 2 ∧ 1 ≤ b.2 ∧ b.2 ≤ 3) (e : pHash (a.1 : Nat) (a.2 : Nat) = pHash (b.1 : Nat) (b.2 : Nat)) : a = b := by
  obtain ⟨e1, e2⟩ := hash_six ⟨a.1, ha.1⟩ ⟨b.1, hb.1⟩ ⟨a.2, by omega⟩ ⟨b.2, by omega⟩ e
  have e1 := congrArg Fin.val e1
  have e2 := congrArg Fin.val e2
  exact Prod.ext e1 e2
theorem gDictC_kD {k : KD} (h : KOk k) : gDictC [.dict (kD k)] = some (.dict (kD k)) := by
  show (pairHs (kD k)).bind (fun hs => if hs.Nodup then some (PyData.dict (kD k)) else none) = _
  rw [pairHs_kD, Option.bind_some, if_pos]
  have nd := h.nd
  rw [List.Nodup, List.pairwise_map] at nd ⊢
  exact nd.imp_of_mem fun {a b} ha hb hab e => hab (hash_inj (h.lo a ha) (h.lo b hb) e)
theorem loop_step {g : GM} {fb : SM} {d : PyData} {ds : List PyData} {ρ ρ1 ρ2 : Rho} (hg : g d ρ = .ok ρ1) (hb : fb ρ1 = .nx ρ2) : loopO g fb (d :: ds) ρ = loopO g fb ds ρ2 := by
  rw [loopO, hg]
  simp only [hb]
abbrev KL (F : List KD) : PyData := .list (F.map fun k => .dict (kD k))
section
variable {m : Nat}
def WS (m : Nat) (k : KD) (sps : PyData) (x3 x4 : Sl) (acc : List KD) (x6 x7 x8 : Sl) : Rho := [.sh (natD m), .sh (.dict (kD k)), .sh sps, x3, x4, .ow (KL acc), x6, x7, x8]
theorem line_run {B : Nat} (hB : B < 1000000) {k one : KD} {sps : PyData} {s : Spt} (ho : KOk one) (hs : s ∉ one.map (·.1)) (hl1 : one.length ≤ 100) (x3 : Sl) : ∀ (ls : List Nat) (acc : List KD) (x7 x8 : Sl), acc.length + ls.length ≤ B →
    ∃ y7 y8, loopO (setS 7) b_widened_L1 (ls.map natD) (WS m k sps x3 (.sh (sptD s)) acc (.sh (.dict (kD one))) x7 x8) = .nx (WS m k sps x3 (.sh (sptD s)) (acc ++ ls.map fun l => one ++ [(s, l)]) (.sh (.dict (kD one))) y7 y8)
  | [], acc, x7, x8, _ => ⟨x7, x8, by simp [loopO]⟩
  | l :: ls, acc, x7, x8, h => by
    rw [List.length_cons] at h
    obtain ⟨y7, y8, r⟩ := line_run hB (k := k) (sps := sps) ho hs hl1 x3 ls (acc ++ [one ++ [(s, l)]]) (.sh (natD l)) (.sh (.dict (kD (one ++ [(s, l)])))) (by rw [List.length_append, List.length_singleton]; omega)
    refine ⟨y7, y8, ?_⟩
    have g1 : setS 7 (natD l) (WS m k sps x3 (.sh (sptD s)) acc (.sh (.dict (kD one))) x7 x8) = .ok (WS m k sps x3 (.sh (sptD s)) acc (.sh (.dict (kD one))) (.sh (natD l)) x8) := rfl
    have s1 : ownFO 8 (opA gDictC (aC (vN 6) aN)) (WS m k sps x3 (.sh (sptD s)) acc (.sh (.dict (kD one))) (.sh (natD l)) x8) = .nx (WS m k sps x3 (.sh (sptD s)) acc (.sh (.dict (kD one))) (.sh (natD l)) (.ow (.dict (kD one)))) := ownF_ok (opA_ok (aC1 (vN_ok rfl)) (gDictC_kD ho))
    have s2 := dset_ok (i := 8) (a := vN 7) (b := vN 4) (ρ := WS m k sps x3 (.sh (sptD s)) acc (.sh (.dict (kD one))) (.sh (natD l)) (.ow (.dict (kD one)))) (dv := natD l) (dk := sptD s) (ps := kD one) (vN_ok rfl) rfl (vN_ok rfl) rfl (keyOk_kD _ _) (by unfold kD; rw [List.length_map]; omega)
    rw [dput_kD hs] at s2
    have s2 : dsetO 8 (vN 4) (vN 7) (WS m k sps x3 (.sh (sptD s)) acc (.sh (.dict (kD one))) (.sh (natD l)) (.ow (.dict (kD one)))) = .nx (WS m k sps x3 (.sh (sptD s)) acc (.sh (.dict (kD one))) (.sh (natD l)) (.ow (.dict (kD (one ++ [(s, l)]))))) := s2
    have s3 : letO 8 (appO 5 (vN 8)) (WS m k sps x3 (.sh (sptD s)) acc (.sh (.dict (kD one))) (.sh (natD l)) (.ow (.dict (kD (one ++ [(s, l)]))))) = .nx (WS m k sps x3 (.sh (sptD s)) (acc ++ [one ++ [(s, l)]]) (.sh (.dict (kD one))) (.sh (natD l)) (.sh (.dict (kD (one ++ [(s, l)]))))) := by
      refine (let_ow (d := .dict (kD (one ++ [(s, l)]))) rfl).trans ((app_ok (i := 5) (ds := acc.map fun k => .dict (kD k)) rfl (vN_ok (i := 8) (d := .dict (kD (one ++ [(s, l)]))) rfl) rfl (by rw [e_LIM, List.length_map]; omega)).trans ?_)
      unfold WS
      have : (acc.map fun k => PyData.dict (kD k)) ++ [.dict (kD (one ++ [(s, l)]))] = (acc ++ [one ++ [(s, l)]]).map fun k => .dict (kD k) := by rw [List.map_append]; rfl
      rw [this]; rfl
    have bd : b_widened_L1 (WS m k sps x3 (.sh (sptD s)) acc (.sh (.dict (kD one))) (.sh (natD l)) x8) = .nx (WS m k sps x3 (.sh (sptD s)) (acc ++ [one ++ [(s, l)]]) (.sh (.dict (kD one))) (.sh (natD l)) (.sh (.dict (kD (one ++ [(s, l)]))))) := by
      rw [b_widened_L1, seq_nx s1, seq_nx s2]
      exact s3
    rw [List.map_cons]
    refine (loop_step g1 bd).trans (r.trans ?_)
    rw [List.map_cons, List.append_assoc]; rfl
theorem one_known {B : Nat} (hB : B < 1000000) {k : KD} {sps : PyData} {s : Spt} (m4 : m ≤ 4) (x3 : Sl) : ∀ (F acc : List KD) (x6 x7 x8 : Sl), (∀ one ∈ F, KOk one ∧ s ∉ one.map (·.1) ∧ one.length ≤ 100) → acc.length + F.length * 4 ≤ B →
    ∃ y6 y7 y8, loopO (setS 6) b_widened_L2 (F.map fun k => .dict (kD k)) (WS m k sps x3 (.sh (sptD s)) acc x6 x7 x8) = .nx (WS m k sps x3 (.sh (sptD s)) (acc ++ F.flatMap fun one => (List.range m).map fun l => one ++ [(s, l)]) y6 y7 y8)
  | [], acc, x6, x7, x8, _, _ => ⟨x6, x7, x8, by simp [loopO]⟩
  | one :: F, acc, x6, x7, x8, hF, h => by
    rw [List.length_cons] at h
    obtain ⟨h1, h2, h3⟩ := hF one List.mem_cons_self
    obtain ⟨y7, y8, r⟩ := line_run (m := m) hB (k := k) (sps := sps) h1 h2 h3 x3 (List.range m) acc x7 x8 (by rw [List.length_range]; omega)
    obtain ⟨z6, z7, z8, r2⟩ := one_known hB (k := k) (sps := sps) (s := s) m4 x3 F (acc ++ (List.range m).map fun l => one ++ [(s, l)]) (.sh (.dict (kD one))) y7 y8 (fun o ho => hF o (List.mem_cons_of_mem _ ho)) (by rw [List.length_append, List.length_map, List.length_range]; omega)
    refine ⟨z6, z7, z8, ?_⟩
    have g1 : setS 6 (.dict (kD one)) (WS m k sps x3 (.sh (sptD s)) acc x6 x7 x8) = .ok (WS m k sps x3 (.sh (sptD s)) acc (.sh (.dict (kD one))) x7 x8) := rfl
    have hrg : rg1 [natD m] = some ((List.range m).map natD) := by
      have := rg1_int (r := ((m : Nat) : Int)) (by omega) (by omega : ((m : Nat) : Int) ≤ 1000000)
      rw [Int.toNat_natCast, rangeD_map] at this; exact this
    have bd : b_widened_L2 (WS m k sps x3 (.sh (sptD s)) acc (.sh (.dict (kD one))) x7 x8) = .nx (WS m k sps x3 (.sh (sptD s)) (acc ++ (List.range m).map fun l => one ++ [(s, l)]) (.sh (.dict (kD one))) y7 y8) := by
      rw [b_widened_L2]
      exact (for_ok (opI_ok (aC1 (vN_ok rfl)) hrg)).trans r
    rw [List.map_cons]
    refine (loop_step g1 bd).trans (r2.trans ?_)
    rw [List.flatMap_cons, List.append_assoc]
theorem spots_run {B : Nat} (hB : B < 1000000) {k : KD} {sps0 : PyData} (m4 : m ≤ 4) : ∀ (sps : List Sp) (F : List KD) (x4 x5 x6 x7 x8 : Sl), (∀ s, .inr s ∈ sps → s.1 < 2 ∧ 1 ≤ s.2 ∧ s.2 ≤ 3) → (frs (k.map (·.1)) sps).Nodup → (∀ one ∈ F, KOk one ∧ one.length + sps.length ≤ 100 ∧ ∀ s ∈ frs (k.map (·.1)) sps, s ∉ one.map (·.1)) → F.length * 4 ^ sps.length ≤ B →
    ∃ y4 y5 y6 y7 y8, loopO (setS 4) b_widened_L3 (sps.map spD) [.sh (natD m), .sh (.dict (kD k)), .sh sps0, .sh (KL F), x4, x5, x6, x7, x8] = .nx [.sh (natD m), .sh (.dict (kD k)), .sh sps0, .sh (KL (sps.foldl (fun found sp => match sp with
      | .inl _ => found
      | .inr s => if (kget k s).isSome = true then found else found.flatMap fun one => (List.range m).map fun l => one ++ [(s, l)]) F)), y4, y5, y6, y7, y8]
  | [], F, x4, x5, x6, x7, x8, _, _, _, _ => ⟨x4, x5, x6, x7, x8, by simp [loopO]⟩
  | .inl l :: sps, F, x4, x5, x6, x7, x8, hs, hn, hF, hl => by
    rw [frs_cons] at hn
    have hl' : F.length * 4 ^ sps.length ≤ B := Nat.le_trans (Nat.mul_le_mul_left _ (Nat.pow_le_pow_right (by omega) (by simp))) hl
    obtain ⟨y4, y5, y6, y7, y8, r⟩ := spots_run hB (k := k) (sps0 := sps0) m4 sps F (.sh (natD l)) x5 x6 x7 x8 (fun s h => hs s (List.mem_cons_of_mem _ h)) hn (fun one h => by
      obtain ⟨q1, q2, q3⟩ := hF one h
      rw [List.length_cons] at q2
      rw [frs_cons] at q3
      exact ⟨q1, by omega, q3⟩) hl'
    refine ⟨y4, y5, y6, y7, y8, ?_⟩
    have g1 : setS 4 (spD (.inl l)) [.sh (natD m), .sh (.dict (kD k)), .sh sps0, .sh (KL F), x4, x5, x6, x7, x8] = .ok [.sh (natD m), .sh (.dict (kD k)), .sh sps0, .sh (KL F), .sh (natD l), x5, x6, x7, x8] := rfl
    have bd : b_widened_L3 [.sh (natD m), .sh (.dict (kD k)), .sh sps0, .sh (KL F), .sh (natD l), x5, x6, x7, x8] = .nx [.sh (natD m), .sh (.dict (kD k)), .sh sps0, .sh (KL F), .sh (natD l), x5, x6, x7, x8] := by
      rw [b_widened_L3]
      exact ifN_f (andT_f (tst_ok (isi_b (vN_ok rfl) rfl)))
    rw [List.map_cons]
    exact (loop_step g1 bd).trans r
  | .inr s :: sps, F, x4, x5, x6, x7, x8, hs, hn, hF, hl => by
    rw [frs_cons] at hn
    rw [List.length_cons, Nat.pow_succ] at hl
    have q0 := hs s List.mem_cons_self
    have g1 : setS 4 (spD (.inr s)) [.sh (natD m), .sh (.dict (kD k)), .sh sps0, .sh (KL F), x4, x5, x6, x7, x8] = .ok [.sh (natD m), .sh (.dict (kD k)), .sh sps0, .sh (KL F), .sh (sptD s), x5, x6, x7, x8] := rfl
    have nin : gNotInX (sptD s) (.dict (kD k)) = some (.bool (!(kget k s).isSome)) := by
      show (if keyOk (kD k) (sptD s) = true then some (PyData.bool (!(dlook (kD k) (sptD s)).isSome)) else none) = _
      rw [if_pos (keyOk_kD _ _), dlook_kD, Option.isSome_map]
    have t2 : andT (tst (isi .tuple (vN 4))) (tst (op2 gNotInX (vN 4) (vN 1))) [.sh (natD m), .sh (.dict (kD k)), .sh sps0, .sh (KL F), .sh (sptD s), x5, x6, x7, x8] = .ok (!(kget k s).isSome, [.sh (natD m), .sh (.dict (kD k)), .sh sps0, .sh (KL F), .sh (sptD s), x5, x6, x7, x8]) := andT_t (tst_ok (isi_b (vN_ok rfl) rfl)) (tst_ok (op2_ok (vN_ok rfl) (vN_ok rfl) nin))
    by_cases hd : s ∈ k.map (·.1)
    · have hsome := kget_some hd
      rw [hsome] at t2
      simp only [hd, if_true, List.nil_append] at hn
      have hl' : F.length * 4 ^ sps.length ≤ B := by
        have := Nat.mul_le_mul_left F.length (Nat.le_mul_of_pos_right (4 ^ sps.length) (by omega : 0 < 4))
        omega
      obtain ⟨y4, y5, y6, y7, y8, r⟩ := spots_run hB (k := k) (sps0 := sps0) m4 sps F (.sh (sptD s)) x5 x6 x7 x8 (fun s h => hs s (List.mem_cons_of_mem _ h)) hn (fun one h => by
        obtain ⟨q1, q2, q3⟩ := hF one h
        rw [List.length_cons] at q2
        rw [frs_cons] at q3
        simp only [hd, if_true, List.nil_append] at q3
        exact ⟨q1, by omega, q3⟩) hl'
      refine ⟨y4, y5, y6, y7, y8, ?_⟩
      have bd : b_widened_L3 [.sh (natD m), .sh (.dict (kD k)), .sh sps0, .sh (KL F), .sh (sptD s), x5, x6, x7, x8] = .nx [.sh (natD m), .sh (.dict (kD k)), .sh sps0, .sh (KL F), .sh (sptD s), x5, x6, x7, x8] := by
        rw [b_widened_L3]
        exact ifN_f t2
      rw [List.map_cons]
      refine (loop_step g1 bd).trans (r.trans ?_)
      rw [List.foldl_cons]
      simp only [hsome, if_true]
    · have hnone := kget_none hd
      rw [hnone] at t2
      simp only [hd, if_false] at hn
      obtain ⟨n1, n2⟩ := List.nodup_cons.mp (show (s :: frs (k.map (·.1)) sps).Nodup from hn)
      have h41 : 1 ≤ 4 ^ sps.length := Nat.one_le_pow _ _ (by omega)
      have hl4 : F.length * 4 ≤ B := by
        have : F.length * 4 * 1 ≤ F.length * 4 * 4 ^ sps.length := Nat.mul_le_mul_left _ h41
        have e : F.length * (4 ^ sps.length * 4) = F.length * 4 * 4 ^ sps.length := by rw [Nat.mul_comm (4 ^ sps.length) 4, Nat.mul_assoc]
        omega
      obtain ⟨z6, z7, z8, r1⟩ := one_known (m := m) hB (k := k) (sps := sps0) (s := s) m4 (.sh (KL F)) F [] x6 x7 x8 (fun one h => by
        obtain ⟨q1, q2, q3⟩ := hF one h
        rw [List.length_cons] at q2
        rw [frs_cons] at q3
        simp only [hd, if_false] at q3
        exact ⟨q1, q3 s List.mem_cons_self, by omega⟩) (by simp; omega)
      rw [List.nil_append] at r1
      have flen : (F.flatMap fun one => (List.range m).map fun l => one ++ [(s, l)]).length = F.length * m := by
        have : ∀ xs : List KD, (xs.flatMap fun one => (List.range m).map fun l => one ++ [(s, l)]).length = xs.length * m := by
          intro xs
          induction xs with
          | nil => simp
          | cons x xs ih => rw [List.flatMap_cons, List.length_append, ih, List.length_map, List.length_range, List.length_cons, Nat.add_mul]; omega
        exact this F
      obtain ⟨y4, y5, y6, y7, y8, r⟩ := spots_run hB (k := k) (sps0 := sps0) m4 sps (F.flatMap fun one => (List.range m).map fun l => one ++ [(s, l)]) (.sh (sptD s)) (.sh (KL (F.flatMap fun one => (List.range m).map fun l => one ++ [(s, l)]))) z6 z7 z8 (fun s h => hs s (List.mem_cons_of_mem _ h)) n2 (fun one h => by
        obtain ⟨o, ho, h⟩ := List.mem_flatMap.mp h
        obtain ⟨l, _, rfl⟩ := List.mem_map.mp h
        obtain ⟨q1, q2, q3⟩ := hF o ho
        rw [List.length_cons] at q2
        rw [frs_cons] at q3
        simp only [hd, if_false] at q3
        have hso := q3 s List.mem_cons_self
        refine ⟨⟨?_, fun p hp => ?_⟩, by rw [List.length_append, List.length_singleton]; omega, fun s' h' z => ?_⟩
        · rw [List.map_append]
          exact nodup_snoc q1.nd hso
        · rcases List.mem_append.mp hp with hp | hp
          · exact q1.lo p hp
          · rw [List.mem_singleton.mp hp]; exact q0
        · rw [List.map_append] at z
          rcases List.mem_append.mp z with z | z
          · exact q3 s' (List.mem_cons_of_mem _ h') z
          · rw [List.mem_singleton.mp z] at h'
            exact n1 h') (by
        rw [flen]
        have e : F.length * (4 ^ sps.length * 4) = F.length * 4 * 4 ^ sps.length := by rw [Nat.mul_comm (4 ^ sps.length) 4, Nat.mul_assoc]
        have : F.length * m * 4 ^ sps.length ≤ F.length * 4 * 4 ^ sps.length := Nat.mul_le_mul_right _ (Nat.mul_le_mul_left _ m4)
        omega)
      refine ⟨y4, y5, y6, y7, y8, ?_⟩
      have b1 : ownO 5 aN [.sh (natD m), .sh (.dict (kD k)), .sh sps0, .sh (KL F), .sh (sptD s), x5, x6, x7, x8] = .nx (WS m k sps0 (.sh (KL F)) (.sh (sptD s)) [] x6 x7 x8) := (own_ok (ds := []) aN_ok (by simp)).trans rfl
      have b2 := (for_ok (g := setS 6) (f := b_widened_L2) (seqI_l (vN_ok (i := 3) (ρ := WS m k sps0 (.sh (KL F)) (.sh (sptD s)) [] x6 x7 x8) rfl))).trans r1
      have b3 := mov_ok (j := 3) (i := 5) (ρ := WS m k sps0 (.sh (KL F)) (.sh (sptD s)) (F.flatMap fun one => (List.range m).map fun l => one ++ [(s, l)]) z6 z7 z8) (d := KL (F.flatMap fun one => (List.range m).map fun l => one ++ [(s, l)])) rfl (by simp [WS])
      have bd : b_widened_L3 [.sh (natD m), .sh (.dict (kD k)), .sh sps0, .sh (KL F), .sh (sptD s), x5, x6, x7, x8] = .nx [.sh (natD m), .sh (.dict (kD k)), .sh sps0, .sh (KL (F.flatMap fun one => (List.range m).map fun l => one ++ [(s, l)])), .sh (sptD s), .sh (KL (F.flatMap fun one => (List.range m).map fun l => one ++ [(s, l)])), z6, z7, z8] := by
        rw [b_widened_L3]
        refine (ifO_t t2).trans ?_
        rw [seq_nx b1, seq_nx b2]
        exact b3
      rw [List.map_cons]
      refine (loop_step g1 bd).trans (r.trans ?_)
      rw [List.foldl_cons]
      simp only [hnone, Option.isSome_none, Bool.false_eq_true, if_false]
theorem widened_ok {k : KD} {sps : List Sp} (m4 : m ≤ 4) (hk : KOk k) (hl : k.length ≤ 50) (h2 : sps.length ≤ 2) (hs : ∀ s, .inr s ∈ sps → s.1 < 2 ∧ 1 ≤ s.2 ∧ s.2 ≤ 3) (hn : (frs (k.map (·.1)) sps).Nodup) : m_widened [natD m, .dict (kD k), .list (sps.map spD)] = .ok (KL (wid m k sps)) := by
  obtain ⟨y4, y5, y6, y7, y8, r⟩ := spots_run (m := m) (B := 100) (by omega) (k := k) (sps0 := .list (sps.map spD)) m4 sps [k] .no .no .no .no .no hs hn (fun one h => by
    rw [List.mem_singleton.mp h]
    refine ⟨hk, by omega, fun s h z => ?_⟩
    unfold frs at h
    obtain ⟨sp, _, h2⟩ := List.mem_filterMap.mp h
    cases sp with
    | inl l => cases h2
    | inr s' =>
      by_cases q : s' ∈ k.map (·.1)
      · simp only [q, if_true] at h2; cases h2
      · simp only [q, if_false] at h2
        cases h2
        exact q z) (by
    have : 4 ^ sps.length ≤ 4 ^ 2 := Nat.pow_le_pow_right (by omega) h2
    simp only [List.length_singleton]; omega)
  have s1 : asgO (opA gLstD (aC (vN 1) aN)) (setS 3) [.sh (natD m), .sh (.dict (kD k)), .sh (.list (sps.map spD)), .no, .no, .no, .no, .no, .no] = .nx [.sh (natD m), .sh (.dict (kD k)), .sh (.list (sps.map spD)), .sh (KL [k]), .no, .no, .no, .no, .no] := asg_gm (opA_ok (aC1 (vN_ok rfl)) rfl) rfl
  refine fn_rt' (ρ0 := [.sh (natD m), .sh (.dict (kD k)), .sh (.list (sps.map spD)), .no, .no, .no, .no, .no, .no]) rfl rfl (ρ' := [.sh (natD m), .sh (.dict (kD k)), .sh (.list (sps.map spD)), .sh (KL (wid m k sps)), y4, y5, y6, y7, y8]) ?_
  rw [b_widened, seq_nx s1, seq_nx ((for_ok (seqI_l (vN_ok rfl))).trans r)]
  exact ret_ok (vN_ok rfl)
end
end G
set_option Elab.async false
set_option linter.all false
set_option maxRecDepth 100000
set_option maxHeartbeats 1000000
namespace G
open PySem DL
local instance : DL.TabCtx := ⟨[]⟩
abbrev RwD (R : List (List Nat)) : PyData := .list (R.map rowD)
section
variable {many : Int} {m : Nat} {ss : List Sg} {R : List (List Nat)} {N : Nat}
theorem rw_at (hR : GRw m ss.length N R) {b : Nat} (hb : b < N) : gIx (RwD R) (natD b) = some (rowD (R.getD b [])) := by
  show atD _ ((b : Nat) : Int) = _
  have : b < R.length := by rw [hR.len]; exact hb
  rw [e_at, List.getElem?_map, List.getD_eq_getElem?_getD, List.getElem?_eq_getElem this]; rfl
theorem rw_len (hR : GRw m ss.length N R) {b : Nat} (hb : b < N) : (R.getD b []).length = ss.length := by
  have : b < R.length := by rw [hR.len]; exact hb
  rw [List.getD_eq_getElem?_getD, List.getElem?_eq_getElem this]
  exact (hR.row _ (List.getElem_mem this)).1
theorem rd_at {r : List Nat} {i : Nat} (h : i < r.length) : gIx (rowD r) (natD i) = some (natD (r.getD i 0)) := by
  show atD _ ((i : Nat) : Int) = _
  rw [e_at, nat_at h]
theorem spots_ok (hm : many = m) (h : Good many ss) (hR : GRw m ss.length N R) {b : Nat} (hb : b < N) : ∀ (es : List (Str × Int)) (acc : List Sp) (x5 x6 x7 : Sl) (ED : PyData), (∀ e ∈ es, e.1 ∈ ss.map (·.name) ∧ 1 ≤ e.2 ∧ e.2 ≤ 3) → acc.length + es.length ≤ 100 →
    ∃ y5 y6 y7, loopO (unT (gsC (setS 5) (gsC (setS 6) gsN))) b_spots_for_L1 (es.map siD) [.sh (chD many ss), .sh (RwD R), .sh ED, .sh (natD b), .ow (.list (acc.map spD)), x5, x6, x7] = .nx [.sh (chD many ss), .sh (RwD R), .sh ED, .sh (natD b), .ow (.list ((acc ++ es.map (spotE ss R b)).map spD)), y5, y6, y7]
  | [], acc, x5, x6, x7, ED, _, _ => ⟨x5, x6, x7, by simp [loopO]⟩
  | e :: es, acc, x5, x6, x7, ED, he, hl => by
    rw [List.length_cons] at hl
    obtain ⟨en, e1, e3⟩ := he e List.mem_cons_self
    have h4 := h.l4
    obtain ⟨y5, y6, y7, r⟩ := spots_ok hm h hR hb es (acc ++ [spotE ss R b e]) (.sh (.str e.1)) (.sh (.int e.2)) (.sh (natD (nOf ss e.1))) ED (fun x hx => he x (List.mem_cons_of_mem _ hx)) (by rw [List.length_append, List.length_singleton]; omega)
    refine ⟨y5, y6, y7, ?_⟩
    have k1 := number_ok (many := many) (ss := ss) (x := e.1) (by rw [e_LIM]; omega) (fun s hs => (h.sg s hs).word) en
    have k1 : m_number_of [chD many ss, .str e.1] = .ok (natD (nOf ss e.1)) := k1
    have g1 : unT (gsC (setS 5) (gsC (setS 6) gsN)) (siD e) [.sh (chD many ss), .sh (RwD R), .sh ED, .sh (natD b), .ow (.list (acc.map spD)), x5, x6, x7] = .ok [.sh (chD many ss), .sh (RwD R), .sh ED, .sh (natD b), .ow (.list (acc.map spD)), .sh (.str e.1), .sh (.int e.2), x7] := rfl
    have s1 : asgO (callM m_number_of (aC (vN 0) (aC (vN 5) aN))) (setS 7) [.sh (chD many ss), .sh (RwD R), .sh ED, .sh (natD b), .ow (.list (acc.map spD)), .sh (.str e.1), .sh (.int e.2), x7] = .nx [.sh (chD many ss), .sh (RwD R), .sh ED, .sh (natD b), .ow (.list (acc.map spD)), .sh (.str e.1), .sh (.int e.2), .sh (natD (nOf ss e.1))] := asg_gm (callM_ok (aC_ok (vN_ok rfl) (aC1 (vN_ok rfl))) k1) rfl
    have hi := nOf_lt en
    have ge : gGe (natD b) (.int e.2) = some (.bool (decide (e.2.toNat ≤ b))) := by
      show some (PyData.bool (decide (e.2 ≤ ((b : Nat) : Int)))) = _
      rw [decide_eq_decide.mpr (by omega : e.2 ≤ ((b : Nat) : Int) ↔ e.2.toNat ≤ b)]
    have ev : ifV (tst (op2 gGe (vN 3) (vN 6))) (op2 gIx (op2 gIx (vN 1) (op2 gSub (vN 3) (vN 6))) (vN 7)) (opA gTupD (aC (vN 7) (aC (op2 gSub (vN 6) (vN 3)) aN))) [.sh (chD many ss), .sh (RwD R), .sh ED, .sh (natD b), .ow (.list (acc.map spD)), .sh (.str e.1), .sh (.int e.2), .sh (natD (nOf ss e.1))] = .ok (spD (spotE ss R b e), [.sh (chD many ss), .sh (RwD R), .sh ED, .sh (natD b), .ow (.list (acc.map spD)), .sh (.str e.1), .sh (.int e.2), .sh (natD (nOf ss e.1))]) := by
      unfold spotE
      by_cases q : e.2.toNat ≤ b
      · rw [decide_eq_true q] at ge
        rw [if_pos q]
        have sb : gSub (natD b) (.int e.2) = some (natD (b - e.2.toNat)) := by
          show some (PyData.int (((b : Nat) : Int) - e.2)) = some (.int ((b - e.2.toNat : Nat) : Int))
          congr 2; omega
        have hlt : b - e.2.toNat < N := by omega
        exact (ifV_t (tst_ok (op2_ok (vN_ok rfl) (vN_ok rfl) ge))).trans (op2_ok (op2_ok (vN_ok rfl) (op2_ok (vN_ok rfl) (vN_ok rfl) sb) (rw_at hR hlt)) (vN_ok rfl) (rd_at (by rw [rw_len hR hlt]; exact hi)))
      · rw [decide_eq_false q] at ge
        rw [if_neg q]
        have sb : gSub (.int e.2) (natD b) = some (natD (e.2.toNat - b)) := by
          show some (PyData.int (e.2 - ((b : Nat) : Int))) = some (.int ((e.2.toNat - b : Nat) : Int))
          congr 2; omega
        exact (ifV_f (tst_ok (op2_ok (vN_ok rfl) (vN_ok rfl) ge))).trans (opA_ok (aC_ok (vN_ok rfl) (aC1 (op2_ok (vN_ok rfl) (vN_ok rfl) sb))) rfl)
    have s2 : appO 4 (ifV (tst (op2 gGe (vN 3) (vN 6))) (op2 gIx (op2 gIx (vN 1) (op2 gSub (vN 3) (vN 6))) (vN 7)) (opA gTupD (aC (vN 7) (aC (op2 gSub (vN 6) (vN 3)) aN)))) [.sh (chD many ss), .sh (RwD R), .sh ED, .sh (natD b), .ow (.list (acc.map spD)), .sh (.str e.1), .sh (.int e.2), .sh (natD (nOf ss e.1))] = .nx [.sh (chD many ss), .sh (RwD R), .sh ED, .sh (natD b), .ow (.list ((acc ++ [spotE ss R b e]).map spD)), .sh (.str e.1), .sh (.int e.2), .sh (natD (nOf ss e.1))] := by
      refine (app_ok (i := 4) (ds := acc.map spD) rfl ev rfl (by rw [e_LIM, List.length_map]; omega)).trans ?_
      rw [List.map_append]; rfl
    have bd : b_spots_for_L1 [.sh (chD many ss), .sh (RwD R), .sh ED, .sh (natD b), .ow (.list (acc.map spD)), .sh (.str e.1), .sh (.int e.2), x7] = .nx [.sh (chD many ss), .sh (RwD R), .sh ED, .sh (natD b), .ow (.list ((acc ++ [spotE ss R b e]).map spD)), .sh (.str e.1), .sh (.int e.2), .sh (natD (nOf ss e.1))] := by
      rw [b_spots_for_L1, seq_nx s1]
      exact s2
    rw [List.map_cons]
    refine (loop_step g1 bd).trans (r.trans ?_)
    rw [List.map_cons, List.append_assoc]; rfl
theorem spotsF_ok (hm : many = m) (h : Good many ss) (hR : GRw m ss.length N R) {b : Nat} (hb : b < N) {s : Sg} (hs : s ∈ ss) : m_spots_for [chD many ss, RwD R, .tuple ((left m s).map siD), natD b] = .ok (.list (((left m s).map (spotE ss R b)).map spD)) := by
  have le := (left_sub (m := m) (s := s)).length_le
  have el := (h.sg s hs).elen
  obtain ⟨y5, y6, y7, r⟩ := spots_ok hm h hR hb (left m s) [] .no .no .no (.tuple ((left m s).map siD)) (fun e he => ((h.sg s hs).ear e (left_sub.subset he)).2) (by simp; omega)
  rw [List.nil_append] at r
  have s1 : ownO 4 aN [.sh (chD many ss), .sh (RwD R), .sh (.tuple ((left m s).map siD)), .sh (natD b), .no, .no, .no, .no] = .nx [.sh (chD many ss), .sh (RwD R), .sh (.tuple ((left m s).map siD)), .sh (natD b), .ow (.list (([] : List Sp).map spD)), .no, .no, .no] := (own_ok (ds := []) aN_ok (by simp)).trans rfl
  refine fn_rt' (ρ0 := [.sh (chD many ss), .sh (RwD R), .sh (.tuple ((left m s).map siD)), .sh (natD b), .no, .no, .no, .no]) rfl rfl (ρ' := demR false [.sh (chD many ss), .sh (RwD R), .sh (.tuple ((left m s).map siD)), .sh (natD b), .ow (.list (((left m s).map (spotE ss R b)).map spD)), y5, y6, y7]) ?_
  rw [b_spots_for, seq_nx s1, seq_nx ((for_ok (seqI_t (vN_ok rfl))).trans r)]
  exact ret_ok (vN_ok rfl)
theorem lines_ok {k : KD} {sps : List Sp} (hl : sps.length ≤ 100) (hc : ∀ s, .inr s ∈ sps → s ∈ k.map (·.1)) : m_lines_for [.dict (kD k), .list (sps.map spD)] = .ok (.list ((sps.map (hrdK k)).map natD)) := by
  have lc := lc_map (vs := [2]) (a := seqI (vN 1)) (g := setS 2) (e := ifV (tst (isi .tuple (vN 2))) (op2 gIxX (vN 0) (vN 2)) (vN 2)) (ρ := [.sh (.dict (kD k)), .sh (.list (sps.map spD)), .no]) sps spD (fun sp => natD (hrdK k sp)) (seqI_l (vN_ok rfl)) rfl (by rw [e_LIM]; omega) fun sp hsp => ⟨[.sh (.dict (kD k)), .sh (.list (sps.map spD)), .sh (spD sp)], rfl, by
    cases sp with
    | inl l => exact (ifV_f (tst_ok (isi_b (vN_ok rfl) rfl))).trans (vN_ok rfl)
    | inr s =>
      have hk := kget_some (hc s hsp)
      cases q : kget k s with
      | none => rw [q] at hk; cases hk
      | some v =>
        have ix : gIxX (.dict (kD k)) (sptD s) = some (natD v) := by
          show (if keyOk (kD k) (sptD s) = true then dlook (kD k) (sptD s) else none) = _
          rw [if_pos (keyOk_kD _ _), dlook_kD, q]; rfl
        have e : hrdK k (.inr s) = v := by show (kget k s).getD 0 = v; rw [q]; rfl
        rw [e]
        exact (ifV_t (tst_ok (isi_b (vN_ok rfl) rfl))).trans (op2_ok (vN_ok rfl) (vN_ok rfl) ix), rfl⟩
  refine fn_rt' (ρ0 := [.sh (.dict (kD k)), .sh (.list (sps.map spD)), .no]) rfl rfl (ρ' := [.sh (.dict (kD k)), .sh (.list (sps.map spD)), .no]) ?_
  rw [b_lines_for]
  refine ret_ok ?_
  rw [List.map_map]
  exact lc
def AK (C : PyData) (R : List (List Nat)) (x2 LC : PyData) (b : Nat) (r : List Nat) (i : Nat) (s : Sg) (sps : List Sp) (acc : List KD) (x12 x13 : Sl) : Rho := [.sh C, .sh (RwD R), .sh x2, .sh LC, .sh (natD b), .sh (rowD r), .sh (natD i), .sh (.str s.name), .sh (.tuple (s.ears.map siD)), .sh (.tuple (s.tab.map .int)), .sh (.list (sps.map spD)), .ow (KL acc), x12, x13]
theorem pick_run (hm : many = m) (h : Good many ss) {LC x2 : PyData} {b i : Nat} {s : Sg} (hs : s ∈ ss) {sps : List Sp} (h2 : sps.length = (left m s).length) (hRow : i < (R.getD b []).length) : ∀ (F acc : List KD) (x12 x13 : Sl), (∀ one ∈ F, (∀ s, .inr s ∈ sps → s ∈ one.map (·.1)) ∧ ∀ p ∈ one, p.2 < m) → (∀ l, .inl l ∈ sps → l < m) → acc.length + F.length ≤ 100000 →
    ∃ y13, loopO (setS 13) b_all_known_L1 (F.map fun k => .dict (kD k)) (AK (chD many ss) R x2 LC b (R.getD b []) i (leanS m s) sps acc x12 x13) = .nx (AK (chD many ss) R x2 LC b (R.getD b []) i (leanS m s) sps (acc ++ F.filter fun one => decide ((leanS m s).tab.getD (plc m (sps.map (hrdK one))) 0 = (((R.getD b []).getD i 0 : Nat) : Int))) x12 y13)
  | [], acc, x12, x13, _, _, _ => ⟨x13, by simp [loopO]⟩
  | one :: F, acc, x12, x13, hF, hll, hl => by
    rw [List.length_cons] at hl
    have m2 := h.m2
    have m4 := h.m4
    obtain ⟨hc, hv⟩ := hF one List.mem_cons_self
    have hlen := (left_sub (m := m) (s := s)).length_le
    have hel := (h.sg s hs).elen
    have hlt : ∀ x ∈ sps.map (hrdK one), x < m := fun x hx => by
      obtain ⟨sp, hsp, rfl⟩ := List.mem_map.mp hx
      cases sp with
      | inl l => exact hll l hsp
      | inr sp =>
        show (kget one sp).getD 0 < m
        cases q : kget one sp with
        | none => show 0 < m; omega
        | some v =>
          unfold kget at q
          obtain ⟨p, h1, rfl⟩ := Option.map_eq_some_iff.mp q
          exact hv p (List.mem_of_find?_eq_some h1)
    have ln := lines_ok (k := one) (sps := sps) (by omega) hc
    have pl := placeL_ok hm (by omega) (sps.map (hrdK one))
    have hg := lean_good1 hm h.m2 (h.sg s hs)
    have ta := tab_at hm hg hlt (by rw [List.length_map, h2, lean_ears])
    have ix : gIx (.tuple ((leanS m s).tab.map .int)) (natD (plc m (sps.map (hrdK one)))) = some (.int ((leanS m s).tab.getD (plc m (sps.map (hrdK one))) 0)) := by
      show atD _ ((plc m (sps.map (hrdK one)) : Nat) : Int) = _
      rw [e_at, ta]
    have i0 : gIx (chD many ss) (.int 0) = some (.int many) := rfl
    have ge := gEq_int ((leanS m s).tab.getD (plc m (sps.map (hrdK one))) 0) (((R.getD b []).getD i 0 : Nat) : Int)
    have t1 : tst (op2 gEq (op2 gIx (vN 9) (callM m_place_of (aC (op2 gIx (vN 0) (cD (.int 0))) (aC (callM m_lines_for (aC (vN 13) (aC (vN 10) aN))) aN)))) (op2 gIx (vN 5) (vN 6))) (AK (chD many ss) R x2 LC b (R.getD b []) i (leanS m s) sps acc x12 (.sh (.dict (kD one)))) = .ok (decide ((leanS m s).tab.getD (plc m (sps.map (hrdK one))) 0 = (((R.getD b []).getD i 0 : Nat) : Int)), AK (chD many ss) R x2 LC b (R.getD b []) i (leanS m s) sps acc x12 (.sh (.dict (kD one)))) := tst_ok (op2_ok (op2_ok (vN_ok rfl) (callM_ok (aC_ok (op2_ok (vN_ok rfl) cD_ok i0) (aC1 (callM_ok (aC_ok (vN_ok rfl) (aC1 (vN_ok rfl))) ln))) pl) ix) (op2_ok (vN_ok rfl) (vN_ok rfl) (rd_at hRow)) ge)
    have g1 : setS 13 (.dict (kD one)) (AK (chD many ss) R x2 LC b (R.getD b []) i (leanS m s) sps acc x12 x13) = .ok (AK (chD many ss) R x2 LC b (R.getD b []) i (leanS m s) sps acc x12 (.sh (.dict (kD one)))) := rfl
    by_cases q : (leanS m s).tab.getD (plc m (sps.map (hrdK one))) 0 = (((R.getD b []).getD i 0 : Nat) : Int)
    · rw [decide_eq_true q] at t1
      obtain ⟨y13, r⟩ := pick_run hm h (LC := LC) (x2 := x2) hs h2 hRow F (acc ++ [one]) x12 (.sh (.dict (kD one))) (fun o ho => hF o (List.mem_cons_of_mem _ ho)) hll (by rw [List.length_append, List.length_singleton]; omega)
      refine ⟨y13, ?_⟩
      have ap : appO 11 (vN 13) (AK (chD many ss) R x2 LC b (R.getD b []) i (leanS m s) sps acc x12 (.sh (.dict (kD one)))) = .nx (AK (chD many ss) R x2 LC b (R.getD b []) i (leanS m s) sps (acc ++ [one]) x12 (.sh (.dict (kD one)))) := by
        refine (app_ok (i := 11) (ds := acc.map fun k => .dict (kD k)) rfl (vN_ok (i := 13) (d := .dict (kD one)) rfl) rfl (by rw [e_LIM, List.length_map]; omega)).trans ?_
        unfold AK KL
        rw [List.map_append]; rfl
      have bd : b_all_known_L1 (AK (chD many ss) R x2 LC b (R.getD b []) i (leanS m s) sps acc x12 (.sh (.dict (kD one)))) = .nx (AK (chD many ss) R x2 LC b (R.getD b []) i (leanS m s) sps (acc ++ [one]) x12 (.sh (.dict (kD one)))) := by
        rw [b_all_known_L1]
        exact (ifO_t t1).trans ap
      rw [List.map_cons]
      refine (loop_step g1 bd).trans (r.trans ?_)
      rw [List.filter_cons, if_pos (by exact decide_eq_true q), List.append_assoc]; rfl
    · rw [decide_eq_false q] at t1
      obtain ⟨y13, r⟩ := pick_run hm h (LC := LC) (x2 := x2) hs h2 hRow F acc x12 (.sh (.dict (kD one))) (fun o ho => hF o (List.mem_cons_of_mem _ ho)) hll (by omega)
      refine ⟨y13, ?_⟩
      have bd : b_all_known_L1 (AK (chD many ss) R x2 LC b (R.getD b []) i (leanS m s) sps acc x12 (.sh (.dict (kD one)))) = .nx (AK (chD many ss) R x2 LC b (R.getD b []) i (leanS m s) sps acc x12 (.sh (.dict (kD one)))) := by
        rw [b_all_known_L1]
        exact ifN_f t1
      rw [List.map_cons]
      refine (loop_step g1 bd).trans (r.trans ?_)
      rw [List.filter_cons, if_neg (by rw [decide_eq_false q]; exact Bool.false_ne_true)]
end
end G
set_option Elab.async false
set_option linter.all false
set_option maxRecDepth 100000
set_option maxHeartbeats 1000000
namespace G
open PySem DL
local instance : DL.TabCtx := ⟨[]⟩
section
variable {many : Int} {m : Nat} {ss : List Sg} {R : List (List Nat)} {N : Nat}
theorem found_run (hm : many = m) (h : Good many ss) (hR : GRw m ss.length N R) (n2 : ss.length ≤ 2) {LC x2 : PyData} {b i : Nat} (hb : b < N) {s : Sg} (hs : s ∈ ss) (hi : i < ss.length) {D : List Spt} (hD : ∀ s ∈ D, s.1 < ss.length ∧ 1 ≤ s.2 ∧ s.2 ≤ 3) (dnd : D.Nodup) : ∀ (F acc : List KD) (x12 x13 : Sl), (∀ k ∈ F, k.map (·.1) = D ∧ ∀ p ∈ k, p.2 < m) → acc.length + F.length * 16 ≤ 100000 →
    ∃ y12 y13, loopO (setS 12) b_all_known_L2 (F.map fun k => .dict (kD k)) (AK (chD many ss) R x2 LC b (R.getD b []) i (leanS m s) (cnO m ss R b i s).1 acc x12 x13) = .nx (AK (chD many ss) R x2 LC b (R.getD b []) i (leanS m s) (cnO m ss R b i s).1 (acc ++ F.flatMap fun k => (wid m k (cnO m ss R b i s).1).filter (okK (cnO m ss R b i s))) y12 y13)
  | [], acc, x12, x13, _, _ => ⟨x12, x13, by simp [loopO]⟩
  | k :: F, acc, x12, x13, hF, hl => by
    rw [List.length_cons] at hl
    have m2 := h.m2
    have m4 := h.m4
    obtain ⟨hk, hv⟩ := hF k List.mem_cons_self
    have hc1 : (cnO m ss R b i s).1 = (left m s).map (spotE ss R b) := rfl
    have hsl : (cnO m ss R b i s).1.length = (left m s).length := by rw [hc1, List.length_map]
    have hlen := (left_sub (m := m) (s := s)).length_le
    have hel := (h.sg s hs).elen
    have spb : ∀ sp, .inr sp ∈ (cnO m ss R b i s).1 → sp.1 < ss.length ∧ 1 ≤ sp.2 ∧ sp.2 ≤ 3 := fun sp hsp => by
      obtain ⟨e, he, h1, h2⟩ := cn_spot.mp hsp
      exact ask_in h ⟨b, hb, s, hs, e, he, h1, h2⟩
    have fn := frs_nodup (D := D) (R := R) (b := b) (i := i) h (by omega : 0 < m) hs
    have klen : k.length ≤ 6 := by
      have : D.length ≤ (List.range (3 * ss.length)).length := by
        have := len_le_sub (l := D.map fun s => s.1 * 3 + (s.2 - 1)) (m := List.range (3 * ss.length)) (by
          rw [List.Nodup, List.pairwise_map]
          exact dnd.imp_of_mem fun {a b} ha hb hab e => hab (by
            have := hD a ha
            have := hD b hb
            exact Prod.ext (by omega) (by omega))) fun x hx => by
          obtain ⟨s, hs, rfl⟩ := List.mem_map.mp hx
          have := hD s hs
          exact List.mem_range.mpr (by omega)
        rwa [List.length_map] at this
      rw [List.length_range] at this
      have e : k.length = D.length := by rw [← hk, List.length_map]
      omega
    have hko : KOk k := ⟨by rw [hk]; exact dnd, fun p hp => by
      have := hD p.1 (by rw [← hk]; exact List.mem_map.mpr ⟨p, hp, rfl⟩)
      omega⟩
    have wo := widened_ok (m := m) (k := k) (sps := (cnO m ss R b i s).1) (by omega) hko (by omega) (by omega) (fun sp hsp => by have := spb sp hsp; omega) (by rw [hk]; exact fn)
    have we := wid_eq (m := m) hk (cnO m ss R b i s).1
    have wl : (wid m k (cnO m ss R b i s).1).length ≤ 16 := by
      rw [we, List.length_map, tups_len]
      have h1 : (frs D (cnO m ss R b i s).1).length ≤ 2 := by
        have : (frs D (cnO m ss R b i s).1).length ≤ (cnO m ss R b i s).1.length := List.length_filterMap_le _ _
        omega
      calc m ^ (frs D (cnO m ss R b i s).1).length ≤ 4 ^ (frs D (cnO m ss R b i s).1).length := Nat.pow_le_pow_left (by omega) _
        _ ≤ 4 ^ 2 := Nat.pow_le_pow_right (by omega) h1
    have wF : ∀ one ∈ wid m k (cnO m ss R b i s).1, (∀ sp, .inr sp ∈ (cnO m ss R b i s).1 → sp ∈ one.map (·.1)) ∧ ∀ p ∈ one, p.2 < m := fun one ho => by
      rw [we] at ho
      obtain ⟨ls, hls, rfl⟩ := List.mem_map.mp ho
      obtain ⟨l1, l2⟩ := tups_mem.mp hls
      refine ⟨fun sp hsp => ?_, fun p hp => ?_⟩
      · rw [List.map_append, hk, zip_fst l1]
        by_cases q : sp ∈ D
        · exact List.mem_append_left _ q
        · refine List.mem_append_right _ ?_
          unfold frs
          exact List.mem_filterMap.mpr ⟨.inr sp, hsp, by simp [q]⟩
      · rcases List.mem_append.mp hp with hp | hp
        · exact hv p hp
        · exact l2 _ (List.of_mem_zip hp).2
    have inl : ∀ l, .inl l ∈ (cnO m ss R b i s).1 → l < m := fun l hl => by
      rw [hc1] at hl
      obtain ⟨e, he, q⟩ := List.mem_map.mp hl
      unfold spotE at q
      by_cases z : e.2.toNat ≤ b
      · rw [if_pos z] at q
        cases q
        have : b - e.2.toNat < R.length := by rw [hR.len]; omega
        rw [List.getD_eq_getElem?_getD, List.getD_eq_getElem?_getD, List.getElem?_eq_getElem this]
        show R[b - e.2.toNat][nOf ss e.1]?.getD 0 < m
        cases w : R[b - e.2.toNat][nOf ss e.1]? with
        | none => show 0 < m; omega
        | some y => exact (hR.row _ (List.getElem_mem this)).2 y (List.mem_of_getElem? w)
      · rw [if_neg z] at q; cases q
    obtain ⟨y13, r⟩ := pick_run hm h (R := R) (LC := LC) (x2 := x2) (b := b) (i := i) hs hsl (by rw [rw_len hR hb]; exact hi) (wid m k (cnO m ss R b i s).1) acc (.sh (.dict (kD k))) x13 wF inl (by omega)
    have fl := List.length_filter_le (okK (cnO m ss R b i s)) (wid m k (cnO m ss R b i s).1)
    obtain ⟨z12, z13, r2⟩ := found_run hm h hR n2 (LC := LC) (x2 := x2) hb hs hi hD dnd F (acc ++ (wid m k (cnO m ss R b i s).1).filter (okK (cnO m ss R b i s))) (.sh (.dict (kD k))) y13 (fun o ho => hF o (List.mem_cons_of_mem _ ho)) (by rw [List.length_append]; omega)
    refine ⟨z12, z13, ?_⟩
    have i0 : gIx (chD many ss) (.int 0) = some (natD m) := by show some (PyData.int many) = _; rw [hm]; try rfl
    have g1 : setS 12 (.dict (kD k)) (AK (chD many ss) R x2 LC b (R.getD b []) i (leanS m s) (cnO m ss R b i s).1 acc x12 x13) = .ok (AK (chD many ss) R x2 LC b (R.getD b []) i (leanS m s) (cnO m ss R b i s).1 acc (.sh (.dict (kD k))) x13) := rfl
    have bd : b_all_known_L2 (AK (chD many ss) R x2 LC b (R.getD b []) i (leanS m s) (cnO m ss R b i s).1 acc (.sh (.dict (kD k))) x13) = .nx (AK (chD many ss) R x2 LC b (R.getD b []) i (leanS m s) (cnO m ss R b i s).1 (acc ++ (wid m k (cnO m ss R b i s).1).filter (okK (cnO m ss R b i s))) (.sh (.dict (kD k))) y13) := by
      rw [b_all_known_L2]
      exact (for_ok (seqI_l (callM_ok (aC_ok (op2_ok (vN_ok rfl) cD_ok i0) (aC_ok (vN_ok rfl) (aC1 (vN_ok rfl)))) wo))).trans r
    rw [List.map_cons]
    refine (loop_step g1 bd).trans (r2.trans ?_)
    rw [List.flatMap_cons, List.append_assoc]
/-- so many -/
theorem KI.small {D : List Spt} {LS : List (List Nat)} {CS : List Cn} (I : KI m D LS CS) (m0 : 0 < m) {n : Nat} (hB : m ^ (3 * n) < 2000) (hD : ∀ s ∈ D, s.1 < n ∧ 1 ≤ s.2 ∧ s.2 ≤ 3) : LS.length ≤ 2000 := by
  have d3 : D.length ≤ 3 * n := by
    have := len_le_sub (l := D.map fun s => s.1 * 3 + (s.2 - 1)) (m := List.range (3 * n)) (by
      rw [List.Nodup, List.pairwise_map]
      exact I.nd.imp_of_mem fun {a b} ha hb hab e => hab (by
        have := hD a ha
        have := hD b hb
        exact Prod.ext (by omega) (by omega))) fun x hx => by
      obtain ⟨s, hs, rfl⟩ := List.mem_map.mp hx
      have := hD s hs
      exact List.mem_range.mpr (by omega)
    rwa [List.length_map, List.length_range] at this
  have := len_le_sub (l := LS) (m := tups m D.length) I.lnd fun ls hl => by
    obtain ⟨h1, h2, _⟩ := (I.mem ls).mp hl
    exact tups_mem.mpr ⟨h1, h2⟩
  rw [tups_len] at this
  have := Nat.pow_le_pow_right m0 d3
  omega
def SK (C : PyData) (R : List (List Nat)) (F : List KD) (LC : PyData) (b : Nat) (r : List Nat) (x6 x7 x8 x9 x10 x11 x12 x13 : Sl) : Rho := [.sh C, .sh (RwD R), .sh (KL F), .sh LC, .sh (natD b), .sh (rowD r), x6, x7, x8, x9, x10, x11, x12, x13]
abbrev zF (D : List Spt) (LS : List (List Nat)) : List KD := LS.map fun ls => D.zip ls
theorem sg_run (hm : many = m) (h : Good many ss) (hR : GRw m ss.length N R) (n2 : ss.length ≤ 2) (hB : m ^ (3 * ss.length) < 2000) {LC : PyData} {b : Nat} (hb : b < N) : ∀ (qs : List (Sg × Nat)) (CS : List Cn) (D : List Spt) (LS : List (List Nat)) (x6 x7 x8 x9 x10 x11 x12 x13 : Sl), (∀ q ∈ qs, ss[q.2]? = some q.1) → KI m D LS CS → (∀ s ∈ D, s.1 < ss.length ∧ 1 ≤ s.2 ∧ s.2 ≤ 3) →
    ∃ D' LS' y6 y7 y8 y9 y10 y11 y12 y13, loopO (unT (gsC (setS 6) (gsC (unT (gsC (setS 7) (gsC (setS 8) (gsC (setS 9) gsN)))) gsN))) b_all_known_L3 (qs.map fun q => .tuple [natD q.2, (leanS m q.1).d]) (SK (chD many ss) R (zF D LS) LC b (R.getD b []) x6 x7 x8 x9 x10 x11 x12 x13) = .nx (SK (chD many ss) R (zF D' LS') LC b (R.getD b []) y6 y7 y8 y9 y10 y11 y12 y13) ∧ KI m D' LS' (CS ++ qs.map fun q => cnO m ss R b q.2 q.1) ∧ (∀ s ∈ D', s.1 < ss.length ∧ 1 ≤ s.2 ∧ s.2 ≤ 3)
  | [], CS, D, LS, x6, x7, x8, x9, x10, x11, x12, x13, _, I, hD => ⟨D, LS, x6, x7, x8, x9, x10, x11, x12, x13, rfl, by rw [List.map_nil, List.append_nil]; exact I, hD⟩
  | q :: qs, CS, D, LS, x6, x7, x8, x9, x10, x11, x12, x13, hq, I, hD => by
    have m2 := h.m2
    have hs0 := hq q List.mem_cons_self
    have hs := List.mem_of_getElem? hs0
    have hi : q.2 < ss.length := (List.getElem?_eq_some_iff.mp hs0).1
    have sm := I.small (by omega) hB hD
    have fn := frs_nodup (D := D) (R := R) (b := b) (i := q.2) h (by omega : 0 < m) hs
    obtain ⟨LS1, e1, I1⟩ := I.step fn
    have hD1 : ∀ s ∈ D ++ frs D (cnO m ss R b q.2 q.1).1, s.1 < ss.length ∧ 1 ≤ s.2 ∧ s.2 ≤ 3 := fun s hsD => by
      rcases List.mem_append.mp hsD with z | z
      · exact hD s z
      · unfold frs at z
        obtain ⟨sp, h1, h2⟩ := List.mem_filterMap.mp z
        cases sp with
        | inl l => cases h2
        | inr s' =>
          by_cases w : s' ∈ D
          · simp only [w, if_true] at h2; cases h2
          · simp only [w, if_false] at h2
            cases h2
            obtain ⟨e, he, h3, h4⟩ := cn_spot.mp h1
            exact ask_in h ⟨b, hb, q.1, hs, e, he, h3, h4⟩
    obtain ⟨y12, y13, r⟩ := found_run hm h hR n2 (LC := LC) (x2 := KL (zF D LS)) hb hs hi hD I.nd (zF D LS) [] x12 x13 (fun k hk => by
      obtain ⟨ls, hls, rfl⟩ := List.mem_map.mp hk
      obtain ⟨l1, l2, _⟩ := (I.mem ls).mp hls
      exact ⟨zip_fst l1, zip_lt l2⟩) (by rw [List.length_map]; simp; omega)
    rw [List.nil_append] at r
    have e1 : (zF D LS).flatMap (fun k => (wid m k (cnO m ss R b q.2 q.1).1).filter (okK (cnO m ss R b q.2 q.1))) = zF (D ++ frs D (cnO m ss R b q.2 q.1).1) LS1 := e1
    rw [e1] at r
    obtain ⟨D', LS', z6, z7, z8, z9, z10, z11, z12, z13, r2, I2, hD2⟩ := sg_run hm h hR n2 hB (LC := LC) hb qs (CS ++ [cnO m ss R b q.2 q.1]) _ LS1 (.sh (natD q.2)) (.sh (.str (leanS m q.1).name)) (.sh (.tuple ((leanS m q.1).ears.map siD))) (.sh (.tuple ((leanS m q.1).tab.map .int))) (.sh (.list ((cnO m ss R b q.2 q.1).1.map spD))) (.sh (KL (zF (D ++ frs D (cnO m ss R b q.2 q.1).1) LS1))) y12 y13 (fun x hx => hq x (List.mem_cons_of_mem _ hx)) I1 hD1
    refine ⟨D', LS', z6, z7, z8, z9, z10, z11, z12, z13, ?_, by rw [List.append_assoc] at I2; exact I2, hD2⟩
    have sp := spotsF_ok hm h hR hb hs
    have sp : m_spots_for [chD many ss, RwD R, .tuple ((leanS m q.1).ears.map siD), natD b] = .ok (.list ((cnO m ss R b q.2 q.1).1.map spD)) := by rw [lean_ears]; exact sp
    have g1 : unT (gsC (setS 6) (gsC (unT (gsC (setS 7) (gsC (setS 8) (gsC (setS 9) gsN)))) gsN)) (.tuple [natD q.2, (leanS m q.1).d]) (SK (chD many ss) R (zF D LS) LC b (R.getD b []) x6 x7 x8 x9 x10 x11 x12 x13) = .ok (SK (chD many ss) R (zF D LS) LC b (R.getD b []) (.sh (natD q.2)) (.sh (.str (leanS m q.1).name)) (.sh (.tuple ((leanS m q.1).ears.map siD))) (.sh (.tuple ((leanS m q.1).tab.map .int))) x10 x11 x12 x13) := rfl
    have s1 : parO [10, 11] (xSh (callM m_spots_for (aC (vN 0) (aC (vN 1) (aC (vN 8) (aC (vN 4) aN))))) (xOw (opA gLstD aN) xN)) (SK (chD many ss) R (zF D LS) LC b (R.getD b []) (.sh (natD q.2)) (.sh (.str (leanS m q.1).name)) (.sh (.tuple ((leanS m q.1).ears.map siD))) (.sh (.tuple ((leanS m q.1).tab.map .int))) x10 x11 x12 x13) = .nx (AK (chD many ss) R (KL (zF D LS)) LC b (R.getD b []) q.2 (leanS m q.1) (cnO m ss R b q.2 q.1).1 [] x12 x13) := (par_ok (xSh_ok (callM_ok (aC_ok (vN_ok rfl) (aC_ok (vN_ok rfl) (aC_ok (vN_ok rfl) (aC1 (vN_ok rfl))))) sp) (xOw_ok (opA_ok aN_ok rfl) xN_ok)) rfl).trans rfl
    have s2 := (for_ok (g := setS 12) (f := b_all_known_L2) (seqI_l (vN_ok (i := 2) (ρ := AK (chD many ss) R (KL (zF D LS)) LC b (R.getD b []) q.2 (leanS m q.1) (cnO m ss R b q.2 q.1).1 [] x12 x13) rfl))).trans r
    have s3 := mov_ok (j := 2) (i := 11) (ρ := AK (chD many ss) R (KL (zF D LS)) LC b (R.getD b []) q.2 (leanS m q.1) (cnO m ss R b q.2 q.1).1 (zF (D ++ frs D (cnO m ss R b q.2 q.1).1) LS1) y12 y13) (d := KL (zF (D ++ frs D (cnO m ss R b q.2 q.1).1) LS1)) rfl (by simp [AK])
    have bd : b_all_known_L3 (SK (chD many ss) R (zF D LS) LC b (R.getD b []) (.sh (natD q.2)) (.sh (.str (leanS m q.1).name)) (.sh (.tuple ((leanS m q.1).ears.map siD))) (.sh (.tuple ((leanS m q.1).tab.map .int))) x10 x11 x12 x13) = .nx (SK (chD many ss) R (zF (D ++ frs D (cnO m ss R b q.2 q.1).1) LS1) LC b (R.getD b []) (.sh (natD q.2)) (.sh (.str (leanS m q.1).name)) (.sh (.tuple ((leanS m q.1).ears.map siD))) (.sh (.tuple ((leanS m q.1).tab.map .int))) (.sh (.list ((cnO m ss R b q.2 q.1).1.map spD))) (.sh (KL (zF (D ++ frs D (cnO m ss R b q.2 q.1).1) LS1))) y12 y13) := by
      rw [b_all_known_L3, seq_nx s1, seq_nx s2]
      exact s3
    rw [List.map_cons]
    exact (loop_step g1 bd).trans r2
end
end G
set_option Elab.async false
set_option linter.all false
set_option maxRecDepth 100000
set_option maxHeartbeats 1000000
namespace G
open PySem DL
local instance : DL.TabCtx := ⟨[]⟩
section
variable {many : Int} {m : Nat} {ss : List Sg} {R : List (List Nat)} {N : Nat}
theorem allC_succ (b : Nat) : allC m ss R (b + 1) = allC m ss R b ++ ss.zipIdx.map fun q => cnO m ss R b q.2 q.1 := by
  unfold allC
  rw [List.range_succ, List.flatMap_append]
  congr 1
  simp
theorem all_known_ok (hm : many = m) (h : Good many ss) (hR : GRw m ss.length N R) (n2 : ss.length ≤ 2) (hN : N ≤ 100) (hB : m ^ (3 * ss.length) < 2000) : ∃ (D : List Spt) (LS : List (List Nat)), KI m D LS (allC m ss R N) ∧ LS.length ≤ 2000 ∧ m_all_known [chD many ss, RwD R] = if 500 < LS.length then .exc "Full" else .ok (KL (zF D LS)) := by
  have m2 := h.m2
  have kl := leaned_ok hm h
  have hz : ∀ q ∈ ss.zipIdx, ss[q.2]? = some q.1 := fun q hq => List.mem_zipIdx_iff_getElem?.mp hq
  have en1 : gEnum [RwD R] = some (R.zipIdx.map fun q => .tuple [natD q.2, rowD q.1]) := by
    show some (enumD 0 (R.map rowD)) = _
    rw [enum_map]; try rfl
  have i1 : gIx (chD many (ss.map (leanS m))) (.int 1) = some (.tuple ((ss.map (leanS m)).map Sg.d)) := rfl
  have en2 : gEnum [.tuple ((ss.map (leanS m)).map Sg.d)] = some (ss.zipIdx.map fun q => .tuple [natD q.2, (leanS m q.1).d]) := by
    show some (enumD 0 ((ss.map (leanS m)).map Sg.d)) = _
    rw [List.map_map, enum_map]; rfl
  have zl : ∀ (i : Nat) (dd : PyData), (R.zipIdx.map fun q => PyData.tuple [natD q.2, rowD q.1])[i]? = some dd → i < N ∧ dd = .tuple [natD i, rowD (R.getD i [])] := fun i dd hd => by
    rw [List.getElem?_map] at hd
    obtain ⟨q, hq, rfl⟩ := Option.map_eq_some_iff.mp hd
    rw [List.getElem?_zipIdx] at hq
    obtain ⟨r, hr, rfl⟩ := Option.map_eq_some_iff.mp hq
    have hlt := (List.getElem?_eq_some_iff.mp hr).1
    rw [hR.len] at hlt
    refine ⟨hlt, ?_⟩
    rw [List.getD_eq_getElem?_getD, hr]
    show PyData.tuple [natD (0 + i), rowD r] = _
    rw [Nat.zero_add]; rfl
  have one := fun (b : Nat) (hb : b < N) (CS : List Cn) (D : List Spt) (LS : List (List Nat)) => sg_run hm h hR n2 hB (LC := chD many (ss.map (leanS m))) hb ss.zipIdx CS D LS
  generalize chD many (ss.map (leanS m)) = LC at *
  generalize chD many ss = C at *
  obtain ⟨ρ', hl, D, LS, x4, x5, x6, x7, x8, x9, x10, x11, x12, x13, rfl, I, hD⟩ := loop_inv (g := unT (gsC (setS 4) (gsC (setS 5) gsN))) (fb := b_all_known_L4) (ds := R.zipIdx.map fun q => .tuple [natD q.2, rowD q.1]) (fun i ρ => ∃ (D : List Spt) (LS : List (List Nat)) (x4 x5 x6 x7 x8 x9 x10 x11 x12 x13 : Sl), ρ = [.sh C, .sh (RwD R), .sh (KL (zF D LS)), .sh LC, x4, x5, x6, x7, x8, x9, x10, x11, x12, x13] ∧ KI m D LS (allC m ss R i) ∧ ∀ s ∈ D, s.1 < ss.length ∧ 1 ≤ s.2 ∧ s.2 ≤ 3) (fun i dd ρ hd hI => by
    obtain ⟨D, LS, x4, x5, x6, x7, x8, x9, x10, x11, x12, x13, rfl, I, hD⟩ := hI
    obtain ⟨hi, rfl⟩ := zl i dd hd
    obtain ⟨D', LS', y6, y7, y8, y9, y10, y11, y12, y13, r, I', hD'⟩ := one i hi (allC m ss R i) D LS x6 x7 x8 x9 x10 x11 x12 x13 hz I hD
    refine ⟨SK C R (zF D LS) LC i (R.getD i []) x6 x7 x8 x9 x10 x11 x12 x13, SK C R (zF D' LS') LC i (R.getD i []) y6 y7 y8 y9 y10 y11 y12 y13, rfl, ?_, D', LS', .sh (natD i), .sh (rowD (R.getD i [])), y6, y7, y8, y9, y10, y11, y12, y13, rfl, by rw [allC_succ]; exact I', hD'⟩
    rw [b_all_known_L4]
    exact (for_ok (opI_ok (aC1 (op2_ok (vN_ok rfl) cD_ok i1)) en2)).trans r) (ρ := [.sh C, .sh (RwD R), .sh (KL (zF [] [[]])), .sh LC, .no, .no, .no, .no, .no, .no, .no, .no, .no, .no]) ⟨[], [[]], .no, .no, .no, .no, .no, .no, .no, .no, .no, .no, rfl, KI.nil m, fun s hs => nomatch hs⟩
  rw [List.length_map, List.length_zipIdx, hR.len] at I
  have sm := I.small (by omega) hB hD
  refine ⟨D, LS, I, sm, ?_⟩
  have e0 : aC (opA gLstD (aC (cD (.dict [])) aN)) (aC (callM m_leaned (aC (vN 0) aN)) aN) [.sh C, .sh (RwD R), .no, .no, .no, .no, .no, .no, .no, .no, .no, .no, .no, .no] = .ok ([KL (zF [] [[]]), LC], [.sh C, .sh (RwD R), .no, .no, .no, .no, .no, .no, .no, .no, .no, .no, .no, .no]) := aC_ok (opA_ok (aC1 cD_ok) rfl) (aC1 (callM_ok (aC1 (vN_ok rfl)) kl))
  have s1 : par2 2 3 (aC (opA gLstD (aC (cD (.dict [])) aN)) (aC (callM m_leaned (aC (vN 0) aN)) aN)) [.sh C, .sh (RwD R), .no, .no, .no, .no, .no, .no, .no, .no, .no, .no, .no, .no] = .nx [.sh C, .sh (RwD R), .sh (KL (zF [] [[]])), .sh LC, .no, .no, .no, .no, .no, .no, .no, .no, .no, .no] := par2_ok e0 (by simp) (by simp)
  have s2 := (for_ok (g := unT (gsC (setS 4) (gsC (setS 5) gsN))) (f := b_all_known_L4) (opI_ok (g := gEnum) (aC1 (vN_ok (i := 1) (ρ := [.sh C, .sh (RwD R), .sh (KL (zF [] [[]])), .sh LC, .no, .no, .no, .no, .no, .no, .no, .no, .no, .no]) rfl)) en1)).trans hl
  have gl : gLen [KL (zF D LS)] = some (natD LS.length) := by
    show gLen [.list ((LS.map fun ls => D.zip ls).map fun k => .dict (kD k))] = _
    rw [e_len_l, List.length_map, List.length_map]
  have gt : gGt (natD LS.length) (.int 500) = some (.bool (decide (500 < LS.length))) := by
    show some (PyData.bool (decide ((500 : Int) < ((LS.length : Nat) : Int)))) = _
    rw [decide_eq_decide.mpr (by omega : (500 : Int) < ((LS.length : Nat) : Int) ↔ 500 < LS.length)]
  have t3 : tst (op2 gGt (opA gLen (aC (vN 2) aN)) (cD (.int 500))) [.sh C, .sh (RwD R), .sh (KL (zF D LS)), .sh LC, x4, x5, x6, x7, x8, x9, x10, x11, x12, x13] = .ok (decide (500 < LS.length), [.sh C, .sh (RwD R), .sh (KL (zF D LS)), .sh LC, x4, x5, x6, x7, x8, x9, x10, x11, x12, x13]) := tst_ok (op2_ok (opA_ok (aC1 (vN_ok rfl)) gl) cD_ok gt)
  by_cases q : 500 < LS.length
  · rw [if_pos q]
    rw [decide_eq_true q] at t3
    refine fn_exc (ρ0 := [.sh C, .sh (RwD R), .no, .no, .no, .no, .no, .no, .no, .no, .no, .no, .no, .no]) rfl rfl ?_
    rw [b_all_known, seq_nx s1, seq_nx s2]
    have := if_exc (c := "Full") (g := nxO) t3
    unfold seqO
    rw [this]
  · rw [if_neg q]
    rw [decide_eq_false q] at t3
    refine fn_rt' (ρ0 := [.sh C, .sh (RwD R), .no, .no, .no, .no, .no, .no, .no, .no, .no, .no, .no, .no]) rfl rfl (ρ' := [.sh C, .sh (RwD R), .sh (KL (zF D LS)), .sh LC, x4, x5, x6, x7, x8, x9, x10, x11, x12, x13]) ?_
    rw [b_all_known, seq_nx s1, seq_nx s2, seq_nx (ifN_f t3)]
    exact ret_ok (vN_ok rfl)
theorem as_run {k : KD} {C : PyData} (x : Nat) : ∀ (is : List Nat) (acc : List (List Nat)) (x3 : Sl), acc.length + is.length ≤ 100 →
    ∃ y3, loopO (setS 3) b_as_standing_L1 (is.map natD) [.sh C, .sh (.dict (kD k)), .ow (.list (acc.map rowD)), x3, .no] = .nx [.sh C, .sh (.dict (kD k)), .ow (.list ((acc ++ is.map fun i => [3, 2, 1].map fun g => (kget k (i, g)).getD 0).map rowD)), y3, .no]
  | [], acc, x3, _ => ⟨x3, by simp [loopO]⟩
  | i :: is, acc, x3, hl => by
    rw [List.length_cons] at hl
    obtain ⟨y3, r⟩ := as_run (k := k) (C := C) x is (acc ++ [[3, 2, 1].map fun g => (kget k (i, g)).getD 0]) (.sh (natD i)) (by rw [List.length_append, List.length_singleton]; omega)
    refine ⟨y3, ?_⟩
    have g1 : setS 3 (natD i) [.sh C, .sh (.dict (kD k)), .ow (.list (acc.map rowD)), x3, .no] = .ok [.sh C, .sh (.dict (kD k)), .ow (.list (acc.map rowD)), .sh (natD i), .no] := rfl
    have lc := lc_map (vs := [4]) (a := seqI (opA gTupD (aC (cD (.int 3)) (aC (cD (.int 2)) (aC (cD (.int 1)) aN))))) (g := setS 4) (e := dget2 (vN 1) (opA gTupD (aC (vN 3) (aC (vN 4) aN))) (cD (.int 0))) (ρ := [.sh C, .sh (.dict (kD k)), .ow (.list (acc.map rowD)), .sh (natD i), .no]) [3, 2, 1] natD (fun g => natD ((kget k (i, g)).getD 0)) (seqI_t (opA_ok (aC_ok cD_ok (aC_ok cD_ok (aC1 cD_ok))) rfl)) rfl (by rw [e_LIM]; simp) fun g hg => ⟨[.sh C, .sh (.dict (kD k)), .ow (.list (acc.map rowD)), .sh (natD i), .sh (natD g)], rfl, by
      have d2 := dget2_ok (a := vN 1) (b := opA gTupD (aC (vN 3) (aC (vN 4) aN))) (c := cD (.int 0)) (ps := kD k) (k := sptD (i, g)) (ρ := [.sh C, .sh (.dict (kD k)), .ow (.list (acc.map rowD)), .sh (natD i), .sh (natD g)]) (vN_ok rfl) (opA_ok (aC_ok (vN_ok rfl) (aC1 (vN_ok rfl))) rfl) cD_ok (keyOk_kD _ _)
      rw [dlook_kD] at d2
      rw [d2]
      cases kget k (i, g) <;> rfl, rfl⟩
    have s1 : b_as_standing_L1 [.sh C, .sh (.dict (kD k)), .ow (.list (acc.map rowD)), .sh (natD i), .no] = .nx [.sh C, .sh (.dict (kD k)), .ow (.list ((acc ++ [[3, 2, 1].map fun g => (kget k (i, g)).getD 0]).map rowD)), .sh (natD i), .no] := by
      rw [b_as_standing_L1]
      refine (app_ok (i := 2) (ds := acc.map rowD) rfl (opA_ok (z := rowD ([3, 2, 1].map fun g => (kget k (i, g)).getD 0)) (aC1 lc) rfl) rfl (by rw [e_LIM, List.length_map]; omega)).trans ?_
      rw [List.map_append]; rfl
    rw [List.map_cons]
    refine (loop_step g1 s1).trans (r.trans ?_)
    rw [List.map_cons, List.append_assoc]; rfl
theorem as_ok (h4 : ss.length ≤ 4) {k : KD} : m_as_standing [chD many ss, .dict (kD k)] = .ok (stD (stN ss.length k)) := by
  have i1 : gIx (chD many ss) (.int 1) = some (.tuple (ss.map Sg.d)) := rfl
  have gl : gLen [.tuple (ss.map Sg.d)] = some (natD ss.length) := by rw [e_len_t, List.length_map]
  have hrg : rg1 [natD ss.length] = some ((List.range ss.length).map natD) := by
    have := rg1_int (r := ((ss.length : Nat) : Int)) (by omega) (by omega : ((ss.length : Nat) : Int) ≤ 1000000)
    rw [Int.toNat_natCast, rangeD_map] at this; exact this
  obtain ⟨y3, r⟩ := as_run (k := k) (C := chD many ss) 0 (List.range ss.length) [] .no (by rw [List.length_range]; simp; omega)
  rw [List.nil_append] at r
  have s1 : ownO 2 aN [.sh (chD many ss), .sh (.dict (kD k)), .no, .no, .no] = .nx [.sh (chD many ss), .sh (.dict (kD k)), .ow (.list (([] : List (List Nat)).map rowD)), .no, .no] := (own_ok (ds := []) aN_ok (by simp)).trans rfl
  have s2 := (for_ok (g := setS 3) (f := b_as_standing_L1) (opI_ok (g := rg1) (aC1 (opA_ok (aC1 (op2_ok (vN_ok (i := 0) (ρ := [.sh (chD many ss), .sh (.dict (kD k)), .ow (.list (([] : List (List Nat)).map rowD)), .no, .no]) rfl) (cD_ok (d := .int 1)) i1)) gl)) hrg)).trans r
  refine fn_rt' (ρ0 := [.sh (chD many ss), .sh (.dict (kD k)), .no, .no, .no]) rfl rfl (ρ' := [.sh (chD many ss), .sh (.dict (kD k)), .ow (.list ((stN ss.length k).map rowD)), y3, .no]) ?_
  rw [b_as_standing, seq_nx s1, seq_nx s2]
  exact ret_ok (brw_ok (d := stD (stN ss.length k)) rfl (opA_ok (aC1 (vN_ok rfl)) rfl) (imm_st _) rfl)
end
end G
set_option Elab.async false
set_option linter.all false
set_option maxRecDepth 100000
set_option maxHeartbeats 1000000
namespace G
open PySem DL
local instance : DL.TabCtx := ⟨[]⟩
/-- what all have at one place -/
def colI (F : List St) (i j : Nat) : List Int := F.map fun s => (((s.getD i []).getD j 0 : Nat) : Int)
def oneOf : List Int → PyData
  | [x] => .int x
  | _ => .none
def mustD (n : Nat) (F : List St) : PyData := .tuple ((List.range n).map fun i => .tuple ((List.range 3).map fun j => oneOf (sortU (colI F i j))))
theorem sortU_congr {a b : List Int} (h : ∀ k, k ∈ a ↔ k ∈ b) : sortU a = sortU b := by
  have p : (sortU a).Pairwise (· < ·) := by
    have s := SrtQ.isort_srtd swo_ltI (dd a)
    have nd : (sortU a).Nodup := ((SrtQ.isort_perm (dd a)).nodup_iff).mpr dd_nodup
    refine (s.and nd).imp fun {x y} hxy => ?_
    obtain ⟨h1, h2⟩ := hxy
    have h1 : decide (y < x) = false := h1
    rw [decide_eq_false_iff_not] at h1
    omega
  exact sortU_eq p fun k => by
    rw [← h]
    show k ∈ SrtQ.isort ltI (dd a) ↔ _
    rw [(SrtQ.isort_perm (dd a)).mem_iff, dd_mem]
theorem mustD_congr {n : Nat} {F K : List St} (h : ∀ s, s ∈ F ↔ s ∈ K) : mustD n F = mustD n K := by
  unfold mustD
  congr 1
  refine List.map_congr_left fun i _ => ?_
  congr 1
  refine List.map_congr_left fun j _ => ?_
  rw [sortU_congr (a := colI F i j) (b := colI K i j) fun k => ?_]
  unfold colI
  rw [List.mem_map, List.mem_map]
  exact ⟨fun ⟨s, h1, h2⟩ => ⟨s, (h s).mp h1, h2⟩, fun ⟨s, h1, h2⟩ => ⟨s, (h s).mpr h1, h2⟩⟩
theorem dd_small {m : Nat} {xs : List Int} (h : ∀ x ∈ xs, 0 ≤ x ∧ x < m) (m4 : m ≤ 4) : (dd xs).length ≤ 4 := by
  have := len_le_sub (l := dd xs) (m := (List.range m).map fun n : Nat => (n : Int)) dd_nodup fun x hx => by
    have := h x (dd_mem.mp hx)
    exact List.mem_map.mpr ⟨x.toNat, List.mem_range.mpr (by omega), by omega⟩
  rw [List.length_map, List.length_range] at this
  omega
theorem gSortI_ok {m : Nat} {xs : List Int} (h : ∀ x ∈ xs, 0 ≤ x ∧ x < m) (m4 : m ≤ 4) (hl : xs.length ≤ 4000) : gSortI (.list (xs.map .int)) = some (.list ((sortU xs).map .int)) := by
  show ((intsD (xs.map .int)).bind fun ns => if ns.length ≤ 4000 ∧ (dd ns).length < 64 then some (PyData.list ((sortU ns).map .int)) else none) = _
  rw [ints_map, Option.bind_some, if_pos ⟨hl, by have := dd_small h m4; omega⟩]
section
variable {many : Int} {m : Nat} {ss : List Sg} {R : List (List Nat)} {N : Nat}
theorem first_rows_ok (hm : many = m) (h : Good many ss) (hR : GRw m ss.length N R) (hN : N ≤ 6) : m_need_first_rows [chD many ss, RwD R] = .ok .none := by
  have h4 := h.l4
  have i0 : gIx (chD many ss) (.int 0) = some (.int many) := rfl
  have i1 : gIx (chD many ss) (.int 1) = some (.tuple (ss.map Sg.d)) := rfl
  have gl : gLen [.tuple (ss.map Sg.d)] = some (.int (ss.length : Nat)) := by rw [e_len_t, List.length_map]
  have gl2 : gLen [RwD R] = some (natD R.length) := by rw [e_len_l, List.length_map]
  have gt : gGt (natD R.length) (.int 6) = some (.bool false) := by
    show some (PyData.bool (decide ((6 : Int) < ((R.length : Nat) : Int)))) = _
    rw [decide_eq_false (by rw [hR.len]; omega)]
  have al : ∀ r ∈ R, m_are_lines [rowD r, .int (ss.length : Nat), .int many] = .ok (.bool true) := fun r hr => by
    obtain ⟨h1, h2⟩ := hR.row r hr
    rw [are_lines_nats r (ss.length : Nat) many (by rw [e_LIM]; omega), decide_eq_true (by rw [h1]), Bool.true_and]
    congr 2
    exact List.all_eq_true.mpr fun x hx => decide_eq_true (by have := h2 x hx; omega)
  generalize chD many ss = C at *
  have lc := lc_map (vs := [2]) (a := seqI (vN 1)) (g := setS 2) (e := callM m_are_lines (aC (vN 2) (aC (opA gLen (aC (op2 gIx (vN 0) (cD (.int 1))) aN)) (aC (op2 gIx (vN 0) (cD (.int 0))) aN)))) (ρ := [.sh C, .sh (RwD R), .no]) R rowD (fun _ => .bool true) (seqI_l (vN_ok rfl)) rfl (by rw [e_LIM, hR.len]; omega) fun r hr => ⟨[.sh C, .sh (RwD R), .sh (rowD r)], rfl, callM_ok (aC_ok (vN_ok rfl) (aC_ok (opA_ok (aC1 (op2_ok (vN_ok rfl) cD_ok i1)) gl) (aC1 (op2_ok (vN_ok rfl) cD_ok i0)))) (al r hr), rfl⟩
  have ga : gAll [.list (R.map fun _ => .bool true)] = some (.bool true) := by
    rw [all_map (fun _ => true) R, List.all_eq_true.mpr fun _ _ => rfl]
  refine fn_nx' (ρ0 := [.sh C, .sh (RwD R), .no]) rfl rfl (ρ' := [.sh C, .sh (RwD R), .no]) ?_
  rw [b_need_first_rows, seq_nx (ifN_f (orT_f (notT_ok (b := true) (tst_ok (isi_b (vN_ok rfl) rfl))) (tst_ok (op2_ok (opA_ok (aC1 (vN_ok rfl)) gl2) cD_ok gt))))]
  exact ifN_f (notT_ok (b := true) (tst_ok (opA_ok (aC1 lc) ga)))
theorem lcM_exc {vs : List Nat} {a : M (List PyData)} {g : GM} {t : M Bool} {e : M PyData} {ρ : Rho} {c : Str} (h : a ρ = .exc c) : lcM vs a g t e ρ = .exc c := by
  unfold lcM M.bind; rw [h]
theorem seqI_exc {a : M PyData} {ρ : Rho} {c : Str} (h : a ρ = .exc c) : seqI a ρ = .exc c := by
  show M.bind a _ ρ = _
  unfold M.bind; rw [h]
theorem opA_exc {g : List PyData → Option PyData} {as : M (List PyData)} {ρ : Rho} {c : Str} (h : as ρ = .exc c) : opA g as ρ = .exc c := by
  show M.bind as _ ρ = _
  unfold M.bind; rw [h]
theorem aC_exc {a : M PyData} {r : M (List PyData)} {ρ : Rho} {c : Str} (h : a ρ = .exc c) : aC a r ρ = .exc c := by
  show M.bind a _ ρ = _
  unfold M.bind; rw [h]
theorem ret_exc {a : M PyData} {ρ : Rho} {c : Str} (h : a ρ = .exc c) : retO a ρ = .exc c := by
  show exO a _ ρ = _
  unfold exO; rw [h]
theorem asg_exc {a : M PyData} {g : GM} {ρ : Rho} {c : Str} (h : a ρ = .exc c) : asgO a g ρ = .exc c := by simp [h]
theorem could_ok (hm : many = m) (h : Good many ss) (hR : GRw m ss.length N R) (n2 : ss.length ≤ 2) (hN : N ≤ 6) {D : List Spt} {LS : List (List Nat)} (I : KI m D LS (allC m ss R N)) (hl : LS.length ≤ 2000) (ak : m_all_known [chD many ss, RwD R] = if 500 < LS.length then .exc "Full" else .ok (KL (zF D LS))) : m_could_begin [chD many ss, RwD R] = if 500 < LS.length then .exc "Full" else .ok (.list (srtD ((LS.map fun ls => stN ss.length (D.zip ls)).map stD))) := by
  have h4 := h.l4
  have nc := need_choir_ok h
  have nf := first_rows_ok hm h hR hN
  by_cases q : 500 < LS.length
  · rw [if_pos q] at ak ⊢
    refine fn_exc (ρ0 := [.sh (chD many ss), .sh (RwD R), .no]) rfl rfl ?_
    rw [b_could_begin, seq_nx (drop_nx (callM_ok (aC1 (vN_ok rfl)) nc)), seq_nx (drop_nx (callM_ok (aC_ok (vN_ok rfl) (aC1 (vN_ok rfl))) nf))]
    exact ret_exc (opA_exc (aC_exc (lcM_exc (seqI_exc (callM_exc (aC_ok (vN_ok rfl) (aC1 (vN_ok rfl))) ak)))))
  · rw [if_neg q] at ak ⊢
    have so := srt_sts (m := m) (n := ss.length) h.l1 (F := LS.map fun ls => stN ss.length (D.zip ls)) fun s hs => by
      obtain ⟨ls, hls, rfl⟩ := List.mem_map.mp hs
      exact (known_to hm h hR I hls).1
    have gs : gSortT [.list ((LS.map fun ls => stN ss.length (D.zip ls)).map stD)] = some (.list (srtD ((LS.map fun ls => stN ss.length (D.zip ls)).map stD))) := by
      show (if srtOk _ = true then _ else none) = _
      rw [if_pos so]
    have lc := lc_map (vs := [2]) (a := seqI (callM m_all_known (aC (vN 0) (aC (vN 1) aN)))) (g := setS 2) (e := callM m_as_standing (aC (vN 0) (aC (vN 2) aN))) (ρ := [.sh (chD many ss), .sh (RwD R), .no]) (zF D LS) (fun k => .dict (kD k)) (fun k => stD (stN ss.length k)) (seqI_l (callM_ok (aC_ok (vN_ok rfl) (aC1 (vN_ok rfl))) ak)) rfl (by rw [e_LIM, List.length_map]; omega) fun k hk => ⟨[.sh (chD many ss), .sh (RwD R), .sh (.dict (kD k))], rfl, callM_ok (aC_ok (vN_ok rfl) (aC1 (vN_ok rfl))) (as_ok h4), rfl⟩
    have e : (zF D LS).map (fun k => stD (stN ss.length k)) = (LS.map fun ls => stN ss.length (D.zip ls)).map stD := by rw [List.map_map, List.map_map]; rfl
    rw [e] at lc
    refine fn_rt' (ρ0 := [.sh (chD many ss), .sh (RwD R), .no]) rfl rfl (ρ' := [.sh (chD many ss), .sh (RwD R), .no]) ?_
    rw [b_could_begin, seq_nx (drop_nx (callM_ok (aC1 (vN_ok rfl)) nc)), seq_nx (drop_nx (callM_ok (aC_ok (vN_ok rfl) (aC1 (vN_ok rfl))) nf))]
    exact ret_ok (opA_ok (aC1 lc) gs)
end
end G
set_option Elab.async false
set_option linter.all false
set_option maxRecDepth 100000
set_option maxHeartbeats 1000000
namespace G
open PySem DL
local instance : DL.TabCtx := ⟨[]⟩
theorem st_at {m n : Nat} {s : St} (hs : GSt m n s) {i : Nat} (hi : i < n) : gIx (stD s) (natD i) = some (rowD (s.getD i [])) := by
  show atD _ ((i : Nat) : Int) = _
  have : i < s.length := by rw [hs.len]; exact hi
  rw [e_at, List.getElem?_map, List.getD_eq_getElem?_getD, List.getElem?_eq_getElem this]; rfl
theorem st_row {m n : Nat} {s : St} (hs : GSt m n s) {i : Nat} (hi : i < n) : (s.getD i []).length = 3 ∧ ∀ x ∈ s.getD i [], x < m := by
  have : i < s.length := by rw [hs.len]; exact hi
  rw [List.getD_eq_getElem?_getD, List.getElem?_eq_getElem this]
  exact hs.row _ (List.getElem_mem this)
theorem col_rng {m n : Nat} {F : List St} (hF : ∀ s ∈ F, GSt m n s) {i j : Nat} (hi : i < n) (hj : j < 3) : ∀ x ∈ colI F i j, 0 ≤ x ∧ x < m := fun x hx => by
  obtain ⟨s, hs, rfl⟩ := List.mem_map.mp hx
  obtain ⟨h1, h2⟩ := st_row (hF s hs) hi
  have : j < (s.getD i []).length := by omega
  rw [List.getD_eq_getElem?_getD, List.getElem?_eq_getElem this]
  have := h2 _ (List.getElem_mem this)
  show (0 : Int) ≤ (((s.getD i [])[j] : Nat) : Int) ∧ (((s.getD i [])[j] : Nat) : Int) < m
  omega
def rowL (F : List St) (i : Nat) : PyData := .list ((List.range 3).map fun j => .list ((sortU (colI F i j)).map .int))
theorem len_one (xs : List Int) : gEq (natD xs.length) (.int 1) = some (.bool (decide (xs.length = 1))) := gEq_nat xs.length 1
theorem one_val {xs : List Int} {ρ : Rho} {i : Nat} (h : ρ[i]? = some (.sh (.list (xs.map .int)))) : ifV (tst (op2 gEq (opA gLen (aC (vN i) aN)) (cD (.int 1)))) (op2 gIx (vN i) (cD (.int 0))) (cD .none) ρ = .ok (oneOf xs, ρ) := by
  have gl : gLen [.list (xs.map PyData.int)] = some (natD xs.length) := by rw [e_len_l, List.length_map]
  have t := tst_ok (op2_ok (opA_ok (aC1 (vN_ok (d := .list (xs.map .int)) h)) gl) cD_ok (len_one xs))
  match xs, t, h with
  | [], t, h => exact (ifV_f t).trans cD_ok
  | [x], t, h => exact (ifV_t t).trans (op2_ok (vN_ok h) cD_ok rfl)
  | _ :: _ :: _, t, h =>
    rw [decide_eq_false (by simp)] at t
    exact (ifV_f t).trans cD_ok
theorem imm_must (n : Nat) (F : List St) : imm (mustD n F) = true := immL_map fun i _ => immL_map fun j _ => by
  unfold oneOf; split <;> rfl
section
variable {many : Int} {m : Nat} {ss : List Sg} {R : List (List Nat)} {N : Nat}
def mRow (F : List St) (i : Nat) : PyData := .tuple ((List.range 3).map fun j => oneOf (sortU (colI F i j)))
theorem must_loop {F : List St} {n : Nat} (hF : ∀ s ∈ F, GSt m n s) (m4 : m ≤ 4) (hl : F.length ≤ 2000) {C RD : PyData} : ∀ (is : List Nat) (acc : List Nat) (x4 x5 : Sl), (∀ i ∈ is, i < n) → acc.length + is.length ≤ 100 →
    ∃ y4 y5, loopO (setS 4) b_must_begin_L1 (is.map natD) [.sh C, .sh RD, .sh (.list (F.map stD)), .ow (.list (acc.map (mRow F))), x4, x5, .no, .no, .no, .no] = .nx [.sh C, .sh RD, .sh (.list (F.map stD)), .ow (.list ((acc ++ is).map (mRow F))), y4, y5, .no, .no, .no, .no]
  | [], acc, x4, x5, _, _ => ⟨x4, x5, by simp [loopO]⟩
  | i :: is, acc, x4, x5, hi, hc => by
    rw [List.length_cons] at hc
    have hi0 := hi i List.mem_cons_self
    obtain ⟨y4, y5, r⟩ := must_loop hF m4 hl (C := C) (RD := RD) is (acc ++ [i]) (.sh (natD i)) (.sh (rowL F i)) (fun x hx => hi x (List.mem_cons_of_mem _ hx)) (by rw [List.length_append, List.length_singleton]; omega)
    refine ⟨y4, y5, ?_⟩
    have g1 : setS 4 (natD i) [.sh C, .sh RD, .sh (.list (F.map stD)), .ow (.list (acc.map (mRow F))), x4, x5, .no, .no, .no, .no] = .ok [.sh C, .sh RD, .sh (.list (F.map stD)), .ow (.list (acc.map (mRow F))), .sh (natD i), x5, .no, .no, .no, .no] := rfl
    have hrg : rg1 [.int 3] = some ((List.range 3).map natD) := rfl
    have inner : ∀ j, j < 3 → lcM [9] (seqI (vN 2)) (setS 9) yesT (op2 gIx (op2 gIx (vN 9) (vN 4)) (vN 7)) [.sh C, .sh RD, .sh (.list (F.map stD)), .ow (.list (acc.map (mRow F))), .sh (natD i), x5, .no, .sh (natD j), .no, .no] = .ok (.list ((colI F i j).map .int), [.sh C, .sh RD, .sh (.list (F.map stD)), .ow (.list (acc.map (mRow F))), .sh (natD i), x5, .no, .sh (natD j), .no, .no]) := fun j hj => by
      have lc := lc_map (vs := [9]) (a := seqI (vN 2)) (g := setS 9) (e := op2 gIx (op2 gIx (vN 9) (vN 4)) (vN 7)) (ρ := [.sh C, .sh RD, .sh (.list (F.map stD)), .ow (.list (acc.map (mRow F))), .sh (natD i), x5, .no, .sh (natD j), .no, .no]) F stD (fun s => natD ((s.getD i []).getD j 0)) (seqI_l (vN_ok rfl)) rfl (by rw [e_LIM]; omega) fun s hs => ⟨[.sh C, .sh RD, .sh (.list (F.map stD)), .ow (.list (acc.map (mRow F))), .sh (natD i), x5, .no, .sh (natD j), .no, .sh (stD s)], rfl, op2_ok (op2_ok (vN_ok rfl) (vN_ok rfl) (st_at (hF s hs) hi0)) (vN_ok rfl) (rd_at (by rw [(st_row (hF s hs) hi0).1]; exact hj)), rfl⟩
      have e : (colI F i j).map PyData.int = F.map fun s => natD ((s.getD i []).getD j 0) := by unfold colI; rw [List.map_map]; rfl
      rw [e]; exact lc
    have lc7 := lc_map (vs := [7]) (a := opI rg1 (aC (cD (.int 3)) aN)) (g := setS 7) (e := op1 gSortI (lcM [9] (seqI (vN 2)) (setS 9) yesT (op2 gIx (op2 gIx (vN 9) (vN 4)) (vN 7)))) (ρ := [.sh C, .sh RD, .sh (.list (F.map stD)), .ow (.list (acc.map (mRow F))), .sh (natD i), x5, .no, .no, .no, .no]) (List.range 3) natD (fun j => .list ((sortU (colI F i j)).map .int)) (opI_ok (aC1 cD_ok) hrg) rfl (by rw [e_LIM, List.length_range]; omega) fun j hj => ⟨[.sh C, .sh RD, .sh (.list (F.map stD)), .ow (.list (acc.map (mRow F))), .sh (natD i), x5, .no, .sh (natD j), .no, .no], rfl, op1_ok (inner j (List.mem_range.mp hj)) (gSortI_ok (m := m) (col_rng hF hi0 (List.mem_range.mp hj)) m4 (by unfold colI; rw [List.length_map]; omega)), rfl⟩
    have s1 : asgO (lcM [7] (opI rg1 (aC (cD (.int 3)) aN)) (setS 7) yesT (op1 gSortI (lcM [9] (seqI (vN 2)) (setS 9) yesT (op2 gIx (op2 gIx (vN 9) (vN 4)) (vN 7))))) (setS 5) [.sh C, .sh RD, .sh (.list (F.map stD)), .ow (.list (acc.map (mRow F))), .sh (natD i), x5, .no, .no, .no, .no] = .nx [.sh C, .sh RD, .sh (.list (F.map stD)), .ow (.list (acc.map (mRow F))), .sh (natD i), .sh (rowL F i), .no, .no, .no, .no] := asg_gm lc7 rfl
    have lc8 := lc_map (vs := [8]) (a := seqI (vN 5)) (g := setS 8) (e := ifV (tst (op2 gEq (opA gLen (aC (vN 8) aN)) (cD (.int 1)))) (op2 gIx (vN 8) (cD (.int 0))) (cD .none)) (ρ := [.sh C, .sh RD, .sh (.list (F.map stD)), .ow (.list (acc.map (mRow F))), .sh (natD i), .sh (rowL F i), .no, .no, .no, .no]) (List.range 3) (fun j => .list ((sortU (colI F i j)).map .int)) (fun j => oneOf (sortU (colI F i j))) (seqI_l (vN_ok rfl)) rfl (by rw [e_LIM, List.length_range]; omega) fun j _ => ⟨[.sh C, .sh RD, .sh (.list (F.map stD)), .ow (.list (acc.map (mRow F))), .sh (natD i), .sh (rowL F i), .no, .no, .sh (.list ((sortU (colI F i j)).map .int)), .no], rfl, one_val rfl, rfl⟩
    have s2 : appO 3 (opA gTuple (aC (lcM [8] (seqI (vN 5)) (setS 8) yesT (ifV (tst (op2 gEq (opA gLen (aC (vN 8) aN)) (cD (.int 1)))) (op2 gIx (vN 8) (cD (.int 0))) (cD .none))) aN)) [.sh C, .sh RD, .sh (.list (F.map stD)), .ow (.list (acc.map (mRow F))), .sh (natD i), .sh (rowL F i), .no, .no, .no, .no] = .nx [.sh C, .sh RD, .sh (.list (F.map stD)), .ow (.list ((acc ++ [i]).map (mRow F))), .sh (natD i), .sh (rowL F i), .no, .no, .no, .no] := by
      refine (app_ok (i := 3) (ds := acc.map (mRow F)) rfl (opA_ok (z := mRow F i) (aC1 lc8) rfl) rfl (by rw [e_LIM, List.length_map]; omega)).trans ?_
      rw [List.map_append]; rfl
    have bd : b_must_begin_L1 [.sh C, .sh RD, .sh (.list (F.map stD)), .ow (.list (acc.map (mRow F))), .sh (natD i), x5, .no, .no, .no, .no] = .nx [.sh C, .sh RD, .sh (.list (F.map stD)), .ow (.list ((acc ++ [i]).map (mRow F))), .sh (natD i), .sh (rowL F i), .no, .no, .no, .no] := by
      rw [b_must_begin_L1, seq_nx s1]
      exact s2
    rw [List.map_cons]
    refine (loop_step g1 bd).trans (r.trans ?_)
    rw [List.append_assoc]; rfl
theorem must_ok (hm : many = m) (h : Good many ss) (hR : GRw m ss.length N R) (n2 : ss.length ≤ 2) (hN : N ≤ 6) {D : List Spt} {LS : List (List Nat)} (I : KI m D LS (allC m ss R N)) (hl : LS.length ≤ 2000) (ak : m_all_known [chD many ss, RwD R] = if 500 < LS.length then .exc "Full" else .ok (KL (zF D LS))) : m_must_begin [chD many ss, RwD R] = if 500 < LS.length then .exc "Full" else if LS = [] then .exc "Nothing" else .ok (mustD ss.length (LS.map fun ls => stN ss.length (D.zip ls))) := by
  have h4 := h.l4
  have m2 := h.m2
  have m4 := h.m4
  have nc := need_choir_ok h
  have nf := first_rows_ok hm h hR hN
  have i1 : gIx (chD many ss) (.int 1) = some (.tuple (ss.map Sg.d)) := rfl
  have glc : gLen [.tuple (ss.map Sg.d)] = some (natD ss.length) := by rw [e_len_t, List.length_map]
  have hrg : rg1 [natD ss.length] = some ((List.range ss.length).map natD) := by
    have := rg1_int (r := ((ss.length : Nat) : Int)) (by omega) (by omega : ((ss.length : Nat) : Int) ≤ 1000000)
    rw [Int.toNat_natCast, rangeD_map] at this; exact this
  by_cases q : 500 < LS.length
  · rw [if_pos q] at ak ⊢
    refine fn_exc (ρ0 := [.sh (chD many ss), .sh (RwD R), .no, .no, .no, .no, .no, .no, .no, .no]) rfl rfl ?_
    rw [b_must_begin, seq_nx (drop_nx (callM_ok (aC1 (vN_ok rfl)) nc)), seq_nx (drop_nx (callM_ok (aC_ok (vN_ok rfl) (aC1 (vN_ok rfl))) nf))]
    exact seq_exc (asg_exc (lcM_exc (seqI_exc (callM_exc (aC_ok (vN_ok rfl) (aC1 (vN_ok rfl))) ak))))
  · rw [if_neg q] at ak ⊢
    have hF : ∀ s ∈ LS.map fun ls => stN ss.length (D.zip ls), GSt m ss.length s := fun s hs => by
      obtain ⟨ls, hls, rfl⟩ := List.mem_map.mp hs
      exact (known_to hm h hR I hls).1
    have lc := lc_map (vs := [6]) (a := seqI (callM m_all_known (aC (vN 0) (aC (vN 1) aN)))) (g := setS 6) (e := callM m_as_standing (aC (vN 0) (aC (vN 6) aN))) (ρ := [.sh (chD many ss), .sh (RwD R), .no, .no, .no, .no, .no, .no, .no, .no]) (zF D LS) (fun k => .dict (kD k)) (fun k => stD (stN ss.length k)) (seqI_l (callM_ok (aC_ok (vN_ok rfl) (aC1 (vN_ok rfl))) ak)) rfl (by rw [e_LIM, List.length_map]; omega) fun k hk => ⟨[.sh (chD many ss), .sh (RwD R), .no, .no, .no, .no, .sh (.dict (kD k)), .no, .no, .no], rfl, callM_ok (aC_ok (vN_ok rfl) (aC1 (vN_ok rfl))) (as_ok h4), rfl⟩
    have e : (zF D LS).map (fun k => stD (stN ss.length k)) = (LS.map fun ls => stN ss.length (D.zip ls)).map stD := by rw [List.map_map, List.map_map]; rfl
    rw [e] at lc
    have hnil : (LS.map fun ls => stN ss.length (D.zip ls)) = [] ↔ LS = [] := List.map_eq_nil_iff
    have hlF : (LS.map fun ls => stN ss.length (D.zip ls)).length ≤ 2000 := by rw [List.length_map]; exact hl
    generalize hFe : (LS.map fun ls => stN ss.length (D.zip ls)) = F at *
    have s3 : asgO (lcM [6] (seqI (callM m_all_known (aC (vN 0) (aC (vN 1) aN)))) (setS 6) yesT (callM m_as_standing (aC (vN 0) (aC (vN 6) aN)))) (setS 2) [.sh (chD many ss), .sh (RwD R), .no, .no, .no, .no, .no, .no, .no, .no] = .nx [.sh (chD many ss), .sh (RwD R), .sh (.list (F.map stD)), .no, .no, .no, .no, .no, .no, .no] := asg_gm lc rfl
    have PF : P 3 (.list (F.map stD)) := .list fun x hx => by
      obtain ⟨s, _, rfl⟩ := List.mem_map.mp hx
      exact P_st s
    have ge : gEq (.list (F.map stD)) (.list []) = some (.bool (decide (LS = []))) := gEq_P PF (.list (k := 0) (xs := []) (fun x hx => by cases hx)) _ (by rw [← hnil]; simp)
    have t4 : tst (op2 gEq (vN 2) (opA gLstD aN)) [.sh (chD many ss), .sh (RwD R), .sh (.list (F.map stD)), .no, .no, .no, .no, .no, .no, .no] = .ok (decide (LS = []), [.sh (chD many ss), .sh (RwD R), .sh (.list (F.map stD)), .no, .no, .no, .no, .no, .no, .no]) := tst_ok (op2_ok (vN_ok rfl) (opA_ok aN_ok rfl) ge)
    by_cases z : LS = []
    · rw [if_pos z]
      rw [decide_eq_true z] at t4
      refine fn_exc (ρ0 := [.sh (chD many ss), .sh (RwD R), .no, .no, .no, .no, .no, .no, .no, .no]) rfl rfl ?_
      rw [b_must_begin, seq_nx (drop_nx (callM_ok (aC1 (vN_ok rfl)) nc)), seq_nx (drop_nx (callM_ok (aC_ok (vN_ok rfl) (aC1 (vN_ok rfl))) nf)), seq_nx s3]
      exact seq_exc (if_exc t4)
    · rw [if_neg z]
      rw [decide_eq_false z] at t4
      obtain ⟨y4, y5, r⟩ := must_loop hF (by omega) hlF (C := chD many ss) (RD := RwD R) (List.range ss.length) [] .no .no (fun i hi => List.mem_range.mp hi) (by rw [List.length_range]; simp; omega)
      rw [List.nil_append] at r
      have s5 : ownO 3 aN [.sh (chD many ss), .sh (RwD R), .sh (.list (F.map stD)), .no, .no, .no, .no, .no, .no, .no] = .nx [.sh (chD many ss), .sh (RwD R), .sh (.list (F.map stD)), .ow (.list (([] : List Nat).map (mRow F))), .no, .no, .no, .no, .no, .no] := (own_ok (ds := []) aN_ok (by simp)).trans rfl
      have s6 := (for_ok (g := setS 4) (f := b_must_begin_L1) (opI_ok (g := rg1) (aC1 (opA_ok (aC1 (op2_ok (vN_ok (i := 0) (ρ := [.sh (chD many ss), .sh (RwD R), .sh (.list (F.map stD)), .ow (.list (([] : List Nat).map (mRow F))), .no, .no, .no, .no, .no, .no]) rfl) (cD_ok (d := .int 1)) i1)) glc)) hrg)).trans r
      refine fn_rt' (ρ0 := [.sh (chD many ss), .sh (RwD R), .no, .no, .no, .no, .no, .no, .no, .no]) rfl rfl (ρ' := [.sh (chD many ss), .sh (RwD R), .sh (.list (F.map stD)), .ow (.list ((List.range ss.length).map (mRow F))), y4, y5, .no, .no, .no, .no]) ?_
      rw [b_must_begin, seq_nx (drop_nx (callM_ok (aC1 (vN_ok rfl)) nc)), seq_nx (drop_nx (callM_ok (aC_ok (vN_ok rfl) (aC1 (vN_ok rfl))) nf)), seq_nx s3, seq_nx (ifN_f t4), seq_nx s5, seq_nx s6]
      exact ret_ok (brw_ok (d := mustD ss.length F) rfl (opA_ok (aC1 (vN_ok rfl)) rfl) (imm_must _ _) rfl)
end
end G
set_option Elab.async false
set_option linter.all false
set_option maxRecDepth 100000
set_option maxHeartbeats 2000000
namespace G
open PySem DL
local instance : DL.TabCtx := ⟨[]⟩
open PySem.W (keyToks keyToksAll dataLe)
open PyProof.Rows (lexLt listOrd itemOrd)
def chunk (n : Nat) (l : List Nat) : St := (List.range n).map fun i => (l.drop (3 * i)).take 3
abbrev notAfter (a b : List (Int ⊕ List Nat)) : Prop := lexLt itemOrd b a = false
theorem na_cons {x : Int ⊕ List Nat} {a b : List (Int ⊕ List Nat)} (h : notAfter a b) : notAfter (x :: a) (x :: b) := by
  show (itemOrd.blt x x || (!itemOrd.blt x x && lexLt itemOrd b a)) = false
  rw [itemOrd.irrefl x]
  simpa using h
theorem na_lt {x y : Nat} (h : x < y) (a b : List (Int ⊕ List Nat)) : notAfter (.inl (x : Nat) :: a) (.inl (y : Nat) :: b) := by
  show (decide (((y : Nat) : Int) < ((x : Nat) : Int)) || (!decide (((x : Nat) : Int) < ((y : Nat) : Int)) && lexLt itemOrd b a)) = false
  rw [decide_eq_false (by omega), decide_eq_true (by omega)]; rfl
theorem toks_cons (x : Nat) (r : List Nat) : keyToksAll ((x :: r).map natD) = .inl 1 :: .inl (x : Nat) :: keyToksAll (r.map natD) := by
  rw [List.map_cons, PySem.W.toks_all_cons, show keyToks (natD x) = [Sum.inl ((x : Nat) : Int)] by simp [natD, keyToks]]; rfl
theorem na_row : ∀ {r q : List Nat} (a b : List (Int ⊕ List Nat)), lexN r q → notAfter (keyToksAll (r.map natD) ++ a) (keyToksAll (q.map natD) ++ b)
  | x :: r, y :: q, a, b, h => by
    rw [toks_cons, toks_cons]
    refine na_cons ?_
    rcases h with h | ⟨rfl, h⟩
    · exact na_lt h _ _
    · exact na_cons (na_row a b h)
  | [], _, _, _, h => by cases h
  | _ :: _, [], _, _, h => by cases h
theorem na_same : ∀ (c : List (Int ⊕ List Nat)) {a b : List (Int ⊕ List Nat)}, notAfter a b → notAfter (c ++ a) (c ++ b)
  | [], _, _, h => h
  | _ :: c, _, _, h => na_cons (na_same c h)
theorem st_le {a b : St} (h : notAfter (keyToksAll (a.map rowD)) (keyToksAll (b.map rowD))) : dataLe false (fun d => d) (stD a) (stD b) = true := by
  have e : ∀ z : St, keyToks (stD z) = keyToksAll (z.map rowD) := fun z => by simp [stD, keyToks]
  show (!lexLt itemOrd (keyToks (stD b)) (keyToks (stD a))) = true
  rw [e, e, h]; rfl
theorem toks_rowc (r : List Nat) (s : St) : keyToksAll ((r :: s).map rowD) = .inl 1 :: (keyToksAll (r.map natD) ++ keyToksAll (s.map rowD)) := by
  rw [List.map_cons, PySem.W.toks_all_cons, show keyToks (rowD r) = keyToksAll (r.map natD) by simp [rowD, keyToks]]
theorem lex_split : ∀ {a b : List Nat} (k : Nat), a.length = b.length → lexN a b → lexN (a.take k) (b.take k) ∨ (a.take k = b.take k ∧ lexN (a.drop k) (b.drop k))
  | a, b, 0, _, h => .inr ⟨rfl, h⟩
  | x :: a, y :: b, k + 1, hl, h => by
    rcases h with h | ⟨rfl, h⟩
    · exact .inl (.inl h)
    · rcases lex_split k (by simpa using hl) h with w | ⟨w1, w2⟩
      · exact .inl (.inr ⟨rfl, w⟩)
      · exact .inr ⟨by rw [List.take_succ_cons, List.take_succ_cons, w1], w2⟩
  | [], _, _ + 1, _, h => by cases h
  | _ :: _, [], _ + 1, _, h => by cases h
theorem chunk_one (l : List Nat) : chunk 1 l = [l.take 3] := rfl
theorem chunk_two (l : List Nat) : chunk 2 l = [l.take 3, (l.drop 3).take 3] := rfl
theorem chunk_le {n : Nat} (n1 : 1 ≤ n) (n2 : n ≤ 2) {a b : List Nat} (ha : a.length = 3 * n) (hb : b.length = 3 * n) (h : lexN a b) : dataLe false (fun d => d) (stD (chunk n a)) (stD (chunk n b)) = true := by
  refine st_le ?_
  rcases (by omega : n = 1 ∨ n = 2) with rfl | rfl
  · rw [chunk_one, chunk_one, List.take_of_length_le (by omega), List.take_of_length_le (by omega), toks_rowc, toks_rowc]
    exact na_cons (na_row _ _ h)
  · rw [chunk_two, chunk_two]
    simp only [toks_rowc]
    refine na_cons ?_
    rcases lex_split 3 (by omega) h with w | ⟨w1, w2⟩
    · exact na_row _ _ w
    · rw [w1]
      refine na_same _ ?_
      rw [List.take_of_length_le (l := a.drop 3) (by rw [List.length_drop]; omega), List.take_of_length_le (l := b.drop 3) (by rw [List.length_drop]; omega)]
      exact na_cons (na_row _ _ w2)
theorem chunk_good {m n : Nat} {l : List Nat} (hl : l ∈ tups m (3 * n)) : GSt m n (chunk n l) := by
  obtain ⟨h1, h2⟩ := tups_mem.mp hl
  refine ⟨by unfold chunk; rw [List.length_map, List.length_range], fun r hr => ?_⟩
  obtain ⟨i, hi, rfl⟩ := List.mem_map.mp hr
  have := List.mem_range.mp hi
  exact ⟨by rw [List.length_take, List.length_drop]; omega, fun x hx => h2 x (List.mem_of_mem_drop (List.mem_of_mem_take hx))⟩
theorem chunk_onto {m n : Nat} (n1 : 1 ≤ n) (n2 : n ≤ 2) {st : St} (hst : GSt m n st) : ∃ l ∈ tups m (3 * n), chunk n l = st := by
  have hl := hst.len
  have hr := hst.row
  rcases (by omega : n = 1 ∨ n = 2) with rfl | rfl
  · match st, hl, hr with
    | [r], _, hr =>
      obtain ⟨h1, h2⟩ := hr r (by simp)
      refine ⟨r, tups_mem.mpr ⟨h1, h2⟩, ?_⟩
      rw [chunk_one, List.take_of_length_le (by omega)]
  · match st, hl, hr with
    | [r, q], _, hr =>
      obtain ⟨h1, h2⟩ := hr r (by simp)
      obtain ⟨h3, h4⟩ := hr q (by simp)
      refine ⟨r ++ q, tups_mem.mpr ⟨by rw [List.length_append]; omega, fun x hx => ?_⟩, ?_⟩
      · rcases List.mem_append.mp hx with z | z
        · exact h2 x z
        · exact h4 x z
      · rw [chunk_two, List.take_append_of_le_length (by omega), List.take_of_length_le (by omega), List.drop_append_of_le_length (by omega), List.drop_of_length_le (by omega), List.nil_append, List.take_of_length_le (by omega)]
theorem chunk_inj {n : Nat} (n1 : 1 ≤ n) (n2 : n ≤ 2) {a b : List Nat} (ha : a.length = 3 * n) (hb : b.length = 3 * n) (e : chunk n a = chunk n b) : a = b := by
  rcases (by omega : n = 1 ∨ n = 2) with rfl | rfl
  · rw [chunk_one, chunk_one, List.take_of_length_le (by omega), List.take_of_length_le (by omega)] at e
    injection e
  · rw [chunk_two, chunk_two] at e
    injection e with e1 e2
    injection e2 with e2 _
    rw [List.take_of_length_le (l := a.drop 3) (by rw [List.length_drop]; omega), List.take_of_length_le (l := b.drop 3) (by rw [List.length_drop]; omega)] at e2
    rw [← List.take_append_drop 3 a, ← List.take_append_drop 3 b, e1, e2]
/-- the standings kept, in their order -/
def dueL (m n : Nat) (p : St → Bool) : List St := ((tups m (3 * n)).filter fun l => p (chunk n l)).map (chunk n)
theorem dueL_mem {m n : Nat} (n1 : 1 ≤ n) (n2 : n ≤ 2) {p : St → Bool} {st : St} : st ∈ dueL m n p ↔ GSt m n st ∧ p st = true := by
  unfold dueL
  rw [List.mem_map]
  constructor
  · rintro ⟨l, hl, rfl⟩
    obtain ⟨h1, h2⟩ := List.mem_filter.mp hl
    exact ⟨chunk_good h1, h2⟩
  · rintro ⟨h1, h2⟩
    obtain ⟨l, hl, rfl⟩ := chunk_onto n1 n2 h1
    exact ⟨l, List.mem_filter.mpr ⟨hl, h2⟩, rfl⟩
theorem dueL_nodup {m n : Nat} (n1 : 1 ≤ n) (n2 : n ≤ 2) (p : St → Bool) : (dueL m n p).Nodup := by
  unfold dueL
  rw [List.Nodup, List.pairwise_map]
  refine ((tups_nodup m (3 * n)).sublist List.filter_sublist).imp_of_mem fun {a b} ha hb hab e => hab ?_
  have h1 := (tups_mem.mp (List.mem_filter.mp ha).1).1
  have h2 := (tups_mem.mp (List.mem_filter.mp hb).1).1
  exact chunk_inj n1 n2 h1 h2 e
theorem dueL_srt {m n : Nat} (n1 : 1 ≤ n) (n2 : n ≤ 2) (p : St → Bool) : srtD ((dueL m n p).map stD) = (dueL m n p).map stD := by
  refine List.mergeSort_of_pairwise ?_
  unfold dueL
  rw [List.pairwise_map, List.pairwise_map]
  refine ((tups_rise m (3 * n)).sublist List.filter_sublist).imp_of_mem fun {a b} ha hb hab => ?_
  have h1 := (tups_mem.mp (List.mem_filter.mp ha).1).1
  have h2 := (tups_mem.mp (List.mem_filter.mp hb).1).1
  exact chunk_le n1 n2 h1 h2 hab
section
variable {many : Int} {m : Nat} {ss : List Sg} {R : List (List Nat)} {N : Nat}
open Classical in
/-- what is kept is what is known -/
theorem due_known (hm : many = m) (h : Good many ss) (hR : GRw m ss.length N R) (n2 : ss.length ≤ 2) {D : List Spt} {LS : List (List Nat)} (I : KI m D LS (allC m ss R N)) {p : St → Bool} (hp : ∀ st, GSt m ss.length st → (p st = true ↔ zeroOff ss.length D st ∧ rowsL m ss (fun _ _ => none) st N = R)) :
    (∀ s, s ∈ (LS.map fun ls => stN ss.length (D.zip ls)) ↔ s ∈ dueL m ss.length p) ∧ (dueL m ss.length p).length = LS.length ∧ srtD ((LS.map fun ls => stN ss.length (D.zip ls)).map stD) = (dueL m ss.length p).map stD := by
  have hmem : ∀ s, s ∈ (LS.map fun ls => stN ss.length (D.zip ls)) ↔ s ∈ dueL m ss.length p := fun s => by
    rw [dueL_mem h.l1 n2, List.mem_map]
    constructor
    · rintro ⟨ls, hls, rfl⟩
      obtain ⟨a, b, c⟩ := known_to hm h hR I hls
      exact ⟨a, (hp _ a).mpr ⟨b, c⟩⟩
    · rintro ⟨a, b⟩
      obtain ⟨c, d⟩ := (hp s a).mp b
      exact known_from hm h hR I a c d
  have pm := perm_of (known_nodup h I) (dueL_nodup h.l1 n2 p) hmem
  refine ⟨hmem, by rw [← pm.length_eq, List.length_map], ?_⟩
  have e := srt_eq (m := m) (n := ss.length) (fun s hs => ((dueL_mem h.l1 n2).mp ((hmem s).mp hs)).1) (fun s hs => ((dueL_mem h.l1 n2).mp hs).1) pm
  rw [e]
  exact dueL_srt h.l1 n2 p
end
end G
set_option Elab.async false
set_option linter.all false
set_option maxRecDepth 100000
set_option maxHeartbeats 1000000
namespace G
open PySem DL
local instance : DL.TabCtx := ⟨[]⟩
section
variable {many : Int} {m : Nat} {ss : List Sg} {N : Nat}
def askE (ss : List Sg) (N : Nat) (e : Str × Int) : List Spt := (List.range (min e.2.toNat N)).map fun b => (nOf ss e.1, e.2.toNat - b)
def askL (m : Nat) (ss : List Sg) (N : Nat) : List Spt := ss.flatMap fun s => (left m s).flatMap (askE ss N)
theorem askL_mem {s : Spt} : s ∈ askL m ss N ↔ Ask m ss N s := by
  unfold askL
  rw [List.mem_flatMap]
  constructor
  · rintro ⟨u, hu, h⟩
    obtain ⟨e, he, h⟩ := List.mem_flatMap.mp h
    obtain ⟨b, hb, rfl⟩ := List.mem_map.mp h
    have := List.mem_range.mp hb
    exact ⟨b, by omega, u, hu, e, he, by omega, rfl⟩
  · rintro ⟨b, hb, u, hu, e, he, h1, rfl⟩
    exact ⟨u, hu, List.mem_flatMap.mpr ⟨e, he, List.mem_map.mpr ⟨b, List.mem_range.mpr (by omega), rfl⟩⟩⟩
abbrev spL (L : List Spt) : PyData := .list (L.map sptD)
theorem ear_asks (hm : many = m) (h : Good many ss) (hN : N ≤ 100) {C : PyData} : ∀ (es : List (Str × Int)) (acc : List Spt) (x4 x5 x6 x7 x8 : Sl), (∀ e ∈ es, e.1 ∈ ss.map (·.name) ∧ 1 ≤ e.2 ∧ e.2 ≤ 3) → acc.length + es.length * 3 ≤ 1000 →
    ∃ y7 y8, loopO (unT (gsC (setS 7) (gsC (setS 8) gsN))) b_law_asked_spots_L1 (es.map siD) [.sh C, .sh (natD N), .sh (.list (ss.map fun s => .str s.name)), .sh (spL acc), x4, x5, x6, x7, x8, .no] = .nx [.sh C, .sh (natD N), .sh (.list (ss.map fun s => .str s.name)), .sh (spL (acc ++ es.flatMap (askE ss N))), x4, x5, x6, y7, y8, .no]
  | [], acc, x4, x5, x6, x7, x8, _, _ => ⟨x7, x8, by simp [loopO]⟩
  | e :: es, acc, x4, x5, x6, x7, x8, he, hl => by
    rw [List.length_cons] at hl
    obtain ⟨en, e1, e3⟩ := he e List.mem_cons_self
    have al : (askE ss N e).length ≤ 3 := by unfold askE; rw [List.length_map, List.length_range]; omega
    obtain ⟨y7, y8, r⟩ := ear_asks hm h hN (C := C) es (acc ++ askE ss N e) x4 x5 x6 (.sh (.str e.1)) (.sh (.int e.2)) (fun x hx => he x (List.mem_cons_of_mem _ hx)) (by rw [List.length_append]; omega)
    refine ⟨y7, y8, ?_⟩
    have g1 : unT (gsC (setS 7) (gsC (setS 8) gsN)) (siD e) [.sh C, .sh (natD N), .sh (.list (ss.map fun s => .str s.name)), .sh (spL acc), x4, x5, x6, x7, x8, .no] = .ok [.sh C, .sh (natD N), .sh (.list (ss.map fun s => .str s.name)), .sh (spL acc), x4, x5, x6, .sh (.str e.1), .sh (.int e.2), .no] := rfl
    have gi : gIndex (.list (ss.map fun s => PyData.str s.name)) [.str e.1] = some (natD (nOf ss e.1)) := gIndex_nm (ss := ss) (fun s hs => (h.sg s hs).word) en
    have mn : gMin [.int e.2, natD N] = some (natD (min e.2.toNat N)) := by
      show some (PyData.int (if ((N : Nat) : Int) < e.2 then ((N : Nat) : Int) else e.2)) = some (.int ((min e.2.toNat N : Nat) : Int))
      by_cases z : ((N : Nat) : Int) < e.2
      · rw [if_pos z, Nat.min_eq_right (by omega)]
      · rw [if_neg z, Nat.min_eq_left (by omega), Int.toNat_of_nonneg (by omega)]
    have hrg : rg1 [natD (min e.2.toNat N)] = some ((List.range (min e.2.toNat N)).map natD) := by
      have := rg1_int (r := ((min e.2.toNat N : Nat) : Int)) (by omega) (by omega : ((min e.2.toNat N : Nat) : Int) ≤ 1000000)
      rw [Int.toNat_natCast, rangeD_map] at this; exact this
    have lc := lc_map (vs := [9]) (a := opI rg1 (aC (opA gMin (aC (vN 8) (aC (vN 1) aN))) aN)) (g := setS 9) (e := opA gTupD (aC (opM gIndex (vN 2) (aC (vN 7) aN)) (aC (op2 gSub (vN 8) (vN 9)) aN))) (ρ := [.sh C, .sh (natD N), .sh (.list (ss.map fun s => .str s.name)), .sh (spL acc), x4, x5, x6, .sh (.str e.1), .sh (.int e.2), .no]) (List.range (min e.2.toNat N)) natD (fun b => sptD (nOf ss e.1, e.2.toNat - b)) (opI_ok (aC1 (opA_ok (aC_ok (vN_ok rfl) (aC1 (vN_ok rfl))) mn)) hrg) rfl (by rw [e_LIM, List.length_range]; omega) fun b hb => ⟨[.sh C, .sh (natD N), .sh (.list (ss.map fun s => .str s.name)), .sh (spL acc), x4, x5, x6, .sh (.str e.1), .sh (.int e.2), .sh (natD b)], rfl, by
      have hb := List.mem_range.mp hb
      have sb : gSub (.int e.2) (natD b) = some (natD (e.2.toNat - b)) := by
        have sub : e.2 - ((b : Nat) : Int) = ((e.2.toNat - b : Nat) : Int) := by omega
        show some (PyData.int (e.2 - ((b : Nat) : Int))) = some (.int ((e.2.toNat - b : Nat) : Int))
        rw [sub]
      have gt : gTupD [natD (nOf ss e.1), natD (e.2.toNat - b)] = some (sptD (nOf ss e.1, e.2.toNat - b)) := rfl
      exact opA_ok (aC_ok (opM_ok (vN_ok rfl) (aC1 (vN_ok rfl)) gi) (aC1 (op2_ok (vN_ok rfl) (vN_ok rfl) sb))) gt, rfl⟩
    have ad : gAdd (spL acc) (.list ((List.range (min e.2.toNat N)).map fun b => sptD (nOf ss e.1, e.2.toNat - b))) = some (spL (acc ++ askE ss N e)) := by
      rw [gAdd_l (by rw [List.length_map, List.length_map, List.length_range]; omega)]
      have : (List.range (min e.2.toNat N)).map (fun b => sptD (nOf ss e.1, e.2.toNat - b)) = (askE ss N e).map sptD := by unfold askE; rw [List.map_map]; rfl
      rw [this, ← List.map_append]
    have bd : b_law_asked_spots_L1 [.sh C, .sh (natD N), .sh (.list (ss.map fun s => .str s.name)), .sh (spL acc), x4, x5, x6, .sh (.str e.1), .sh (.int e.2), .no] = .nx [.sh C, .sh (natD N), .sh (.list (ss.map fun s => .str s.name)), .sh (spL (acc ++ askE ss N e)), x4, x5, x6, .sh (.str e.1), .sh (.int e.2), .no] := by
      rw [b_law_asked_spots_L1]
      exact asg_gm (op2_ok (vN_ok rfl) lc ad) rfl
    rw [List.map_cons]
    refine (loop_step g1 bd).trans (r.trans ?_)
    rw [List.flatMap_cons, List.append_assoc]
theorem sg_asks (hm : many = m) (h : Good many ss) (hN : N ≤ 100) {C : PyData} : ∀ (ls : List Sg) (acc : List Spt) (x4 x5 x6 x7 x8 : Sl), (∀ s ∈ ls, s ∈ ss) → acc.length + ls.length * 6 ≤ 1000 →
    ∃ y4 y5 y6 y7 y8, loopO (unT (gsC (setS 4) (gsC (setS 5) (gsC (setS 6) gsN)))) b_law_asked_spots_L2 (ls.map fun s => (leanS m s).d) [.sh C, .sh (natD N), .sh (.list (ss.map fun s => .str s.name)), .sh (spL acc), x4, x5, x6, x7, x8, .no] = .nx [.sh C, .sh (natD N), .sh (.list (ss.map fun s => .str s.name)), .sh (spL (acc ++ ls.flatMap fun s => (left m s).flatMap (askE ss N))), y4, y5, y6, y7, y8, .no]
  | [], acc, x4, x5, x6, x7, x8, _, _ => ⟨x4, x5, x6, x7, x8, by simp [loopO]⟩
  | s :: ls, acc, x4, x5, x6, x7, x8, hs, hl => by
    rw [List.length_cons] at hl
    have hs0 := hs s List.mem_cons_self
    have ll := (left_sub (m := m) (s := s)).length_le
    have el := (h.sg s hs0).elen
    have fl : ((left m s).flatMap (askE ss N)).length ≤ 6 := by
      have : ∀ l : List (Str × Int), (∀ e ∈ l, e ∈ s.ears) → (l.flatMap (askE ss N)).length ≤ l.length * 3 := by
        intro l
        induction l with
        | nil => intro _; simp
        | cons e l ih =>
          intro hh
          have e3 := ((h.sg s hs0).ear e (hh e List.mem_cons_self)).2.2.2
          have := ih fun x hx => hh x (List.mem_cons_of_mem _ hx)
          rw [List.flatMap_cons, List.length_append, List.length_cons]
          have al : (askE ss N e).length ≤ 3 := by unfold askE; rw [List.length_map, List.length_range]; omega
          omega
      have := this (left m s) fun e he => left_sub.subset he
      omega
    obtain ⟨y7, y8, r⟩ := ear_asks hm h hN (C := C) (left m s) acc (.sh (.str (leanS m s).name)) (.sh (.tuple ((left m s).map siD))) (.sh (.tuple ((leanS m s).tab.map .int))) x7 x8 (fun e he => ((h.sg s hs0).ear e (left_sub.subset he)).2) (by omega)
    obtain ⟨z4, z5, z6, z7, z8, r2⟩ := sg_asks hm h hN (C := C) ls (acc ++ (left m s).flatMap (askE ss N)) (.sh (.str (leanS m s).name)) (.sh (.tuple ((left m s).map siD))) (.sh (.tuple ((leanS m s).tab.map .int))) y7 y8 (fun x hx => hs x (List.mem_cons_of_mem _ hx)) (by rw [List.length_append]; omega)
    refine ⟨z4, z5, z6, z7, z8, ?_⟩
    have ed : (leanS m s).d = .tuple [.str (leanS m s).name, .tuple ((left m s).map siD), .tuple ((leanS m s).tab.map .int)] := by unfold Sg.d; rw [lean_ears]
    have g1 : unT (gsC (setS 4) (gsC (setS 5) (gsC (setS 6) gsN))) (leanS m s).d [.sh C, .sh (natD N), .sh (.list (ss.map fun s => .str s.name)), .sh (spL acc), x4, x5, x6, x7, x8, .no] = .ok [.sh C, .sh (natD N), .sh (.list (ss.map fun s => .str s.name)), .sh (spL acc), .sh (.str (leanS m s).name), .sh (.tuple ((left m s).map siD)), .sh (.tuple ((leanS m s).tab.map .int)), x7, x8, .no] := by rw [ed]; rfl
    have bd : b_law_asked_spots_L2 [.sh C, .sh (natD N), .sh (.list (ss.map fun s => .str s.name)), .sh (spL acc), .sh (.str (leanS m s).name), .sh (.tuple ((left m s).map siD)), .sh (.tuple ((leanS m s).tab.map .int)), x7, x8, .no] = .nx [.sh C, .sh (natD N), .sh (.list (ss.map fun s => .str s.name)), .sh (spL (acc ++ (left m s).flatMap (askE ss N))), .sh (.str (leanS m s).name), .sh (.tuple ((left m s).map siD)), .sh (.tuple ((leanS m s).tab.map .int)), y7, y8, .no] := by
      rw [b_law_asked_spots_L2]
      exact (for_ok (seqI_t (vN_ok rfl))).trans r
    rw [List.map_cons]
    refine (loop_step g1 bd).trans (r2.trans ?_)
    rw [List.flatMap_cons, List.append_assoc]
theorem askd_ok (hm : many = m) (h : Good many ss) (hN : N ≤ 100) : m_law_asked_spots [chD many ss, natD N] = .ok (spL (askL m ss N)) := by
  have h4 := h.l4
  have cr := lcrew_ok (many := many) (ss := ss) (by rw [e_LIM]; omega)
  have ln := lean_ok hm h
  have i1 : gIx (chD many (ss.map (leanS m))) (.int 1) = some (.tuple ((ss.map (leanS m)).map Sg.d)) := rfl
  have em : (ss.map (leanS m)).map Sg.d = ss.map fun s => (leanS m s).d := by rw [List.map_map]; rfl
  rw [em] at i1
  obtain ⟨y4, y5, y6, y7, y8, r⟩ := sg_asks hm h hN (C := chD many ss) ss [] .no .no .no .no .no (fun _ h => h) (by simp; omega)
  rw [List.nil_append] at r
  have s1 : asgO (opA gTupD (aC (callM m_law_crew (aC (vN 0) aN)) (aC (opA gLstD aN) aN))) (unT (gsC (setS 2) (gsC (setS 3) gsN))) [.sh (chD many ss), .sh (natD N), .no, .no, .no, .no, .no, .no, .no, .no] = .nx [.sh (chD many ss), .sh (natD N), .sh (.list (ss.map fun s => .str s.name)), .sh (spL []), .no, .no, .no, .no, .no, .no] := asg_gm (opA_ok (aC_ok (callM_ok (aC1 (vN_ok rfl)) cr) (aC1 (opA_ok aN_ok rfl))) rfl) rfl
  have s2 := (for_ok (g := unT (gsC (setS 4) (gsC (setS 5) (gsC (setS 6) gsN)))) (f := b_law_asked_spots_L2) (seqI_t (op2_ok (callM_ok (m := m_lean) (aC1 (vN_ok (i := 0) (ρ := [.sh (chD many ss), .sh (natD N), .sh (.list (ss.map fun s => .str s.name)), .sh (spL []), .no, .no, .no, .no, .no, .no]) rfl)) ln) (cD_ok (d := .int 1)) i1))).trans r
  refine fn_rt' (ρ0 := [.sh (chD many ss), .sh (natD N), .no, .no, .no, .no, .no, .no, .no, .no]) rfl rfl (ρ' := [.sh (chD many ss), .sh (natD N), .sh (.list (ss.map fun s => .str s.name)), .sh (spL (askL m ss N)), y4, y5, y6, y7, y8, .no]) ?_
  rw [b_law_asked_spots, seq_nx s1, seq_nx s2]
  exact ret_ok (vN_ok rfl)
end
end G
set_option Elab.async false
set_option linter.all false
set_option maxRecDepth 100000
set_option maxHeartbeats 1000000
namespace G
open PySem DL
local instance : DL.TabCtx := ⟨[]⟩
theorem first_exc1 {C bad : PyData} (h : isD .list bad = false) : m_need_first_rows [C, bad] = .exc "BadRows" := by
  refine fn_exc (ρ0 := [.sh C, .sh bad, .no]) rfl rfl ?_
  rw [b_need_first_rows]
  exact seq_exc (if_exc (orT_t (notT_ok (b := false) (tst_ok (isi_b (vN_ok rfl) h)))))
theorem first_exc2 {C : PyData} {ds : List PyData} (h : 6 < ds.length) : m_need_first_rows [C, .list ds] = .exc "BadRows" := by
  have gl : gLen [.list ds] = some (natD ds.length) := e_len_l
  have gt : gGt (natD ds.length) (.int 6) = some (.bool true) := by
    show some (PyData.bool (decide ((6 : Int) < ((ds.length : Nat) : Int)))) = _
    rw [decide_eq_true (by omega)]
  refine fn_exc (ρ0 := [.sh C, .sh (.list ds), .no]) rfl rfl ?_
  rw [b_need_first_rows]
  exact seq_exc (if_exc (orT_f (notT_ok (b := true) (tst_ok (isi_b (vN_ok rfl) rfl))) (tst_ok (op2_ok (opA_ok (aC1 (vN_ok rfl)) gl) cD_ok gt))))
section
variable {many : Int} {ss : List Sg}
theorem first_exc3 {x : PyData} (hb : m_are_lines [x, .int (ss.length : Nat), .int many] = .ok (.bool false)) : m_need_first_rows [chD many ss, .list [x]] = .exc "BadRows" := by
  have i0 : gIx (chD many ss) (.int 0) = some (.int many) := rfl
  have i1 : gIx (chD many ss) (.int 1) = some (.tuple (ss.map Sg.d)) := rfl
  have gl : gLen [.tuple (ss.map Sg.d)] = some (.int (ss.length : Nat)) := by rw [e_len_t, List.length_map]
  generalize chD many ss = C at *
  have lc := lc_map (vs := [2]) (a := seqI (vN 1)) (g := setS 2) (e := callM m_are_lines (aC (vN 2) (aC (opA gLen (aC (op2 gIx (vN 0) (cD (.int 1))) aN)) (aC (op2 gIx (vN 0) (cD (.int 0))) aN)))) (ρ := [.sh C, .sh (.list [x]), .no]) [x] id (fun _ => .bool false) (seqI_l (vN_ok rfl)) rfl (by rw [e_LIM]; simp) fun r hr => ⟨[.sh C, .sh (.list [x]), .sh x], by rw [List.mem_singleton.mp hr]; rfl, callM_ok (aC_ok (vN_ok rfl) (aC_ok (opA_ok (aC1 (op2_ok (vN_ok rfl) cD_ok i1)) gl) (aC1 (op2_ok (vN_ok rfl) cD_ok i0)))) hb, rfl⟩
  have ga : gAll [.list ([x].map fun _ => .bool false)] = some (.bool false) := rfl
  refine fn_exc (ρ0 := [.sh C, .sh (.list [x]), .no]) rfl rfl ?_
  rw [b_need_first_rows, seq_nx (ifN_f (orT_f (notT_ok (b := true) (tst_ok (isi_b (vN_ok rfl) rfl))) (tst_ok (op2_ok (opA_ok (aC1 (vN_ok rfl)) rfl) cD_ok rfl))))]
  exact if_exc (notT_ok (b := false) (tst_ok (opA_ok (aC1 lc) ga)))
theorem begin_exc (h : Good many ss) {bad : PyData} (hb : m_need_first_rows [chD many ss, bad] = .exc "BadRows") : m_could_begin [chD many ss, bad] = .exc "BadRows" ∧ m_must_begin [chD many ss, bad] = .exc "BadRows" := by
  have nc := need_choir_ok h
  constructor
  · refine fn_exc (ρ0 := [.sh (chD many ss), .sh bad, .no]) rfl rfl ?_
    rw [b_could_begin, seq_nx (drop_nx (callM_ok (aC1 (vN_ok rfl)) nc))]
    exact seq_exc (drop_exc (callM_exc (aC_ok (vN_ok rfl) (aC1 (vN_ok rfl))) hb))
  · refine fn_exc (ρ0 := [.sh (chD many ss), .sh bad, .no, .no, .no, .no, .no, .no, .no, .no]) rfl rfl ?_
    rw [b_must_begin, seq_nx (drop_nx (callM_ok (aC1 (vN_ok rfl)) nc))]
    exact seq_exc (drop_exc (callM_exc (aC_ok (vN_ok rfl) (aC1 (vN_ok rfl))) hb))
theorem bad_turn (h : Good many ss) {bad : PyData} (hb : m_need_first_rows [chD many ss, bad] = .exc "BadRows") (x1 x2 x4 : Sl) : ∃ y4, b_law_rows_refused_L1 [.sh (chD many ss), x1, x2, .sh bad, x4] = .nx [.sh (chD many ss), x1, x2, .sh bad, y4] := by
  obtain ⟨c1, c2⟩ := begin_exc h hb
  generalize chD many ss = C at *
  refine ⟨.ow (.list [HD.refusedD "BadRows", HD.refusedD "BadRows"]), ?_⟩
  have t1 : HD.toldM (callM m_could_begin (aC (vN 0) (aC (vN 3) aN))) [.sh C, x1, x2, .sh bad, x4] = .ok (HD.refusedD "BadRows", [.sh C, x1, x2, .sh bad, x4]) := told_exc (callM_exc (aC_ok (vN_ok rfl) (aC1 (vN_ok rfl))) c1)
  have s1 : ownO 4 (aC (HD.toldM (callM m_could_begin (aC (vN 0) (aC (vN 3) aN)))) aN) [.sh C, x1, x2, .sh bad, x4] = .nx [.sh C, x1, x2, .sh bad, .ow (.list [HD.refusedD "BadRows"])] := (own_ok (ds := [HD.refusedD "BadRows"]) (aC1 t1) (by rw [e_LIM]; simp)).trans rfl
  have t2 : HD.toldM (callM m_must_begin (aC (vN 0) (aC (vN 3) aN))) [.sh C, x1, x2, .sh bad, .ow (.list [HD.refusedD "BadRows"])] = .ok (HD.refusedD "BadRows", [.sh C, x1, x2, .sh bad, .ow (.list [HD.refusedD "BadRows"])]) := told_exc (callM_exc (aC_ok (vN_ok rfl) (aC1 (vN_ok rfl))) c2)
  have s2 : appO 4 (HD.toldM (callM m_must_begin (aC (vN 0) (aC (vN 3) aN)))) [.sh C, x1, x2, .sh bad, .ow (.list [HD.refusedD "BadRows"])] = .nx [.sh C, x1, x2, .sh bad, .ow (.list [HD.refusedD "BadRows", HD.refusedD "BadRows"])] := (app_ok (i := 4) (ds := [HD.refusedD "BadRows"]) rfl t2 rfl (by rw [e_LIM]; simp)).trans rfl
  have PR : P 2 (.list [HD.refusedD "BadRows", HD.refusedD "BadRows"]) := .list fun x hx => by
    simp at hx
    subst hx
    exact .tuple fun y hy => by
      simp at hy
      rcases hy with rfl | rfl <;> exact .str (by decide +kernel)
  have t3 : tst (op2 gNe (vN 4) (op2 gMul (opA gLstD (aC (opA gTupD (aC (cD (.str "refused")) (aC (cD (.str "BadRows")) aN))) aN)) (cD (.int 2)))) (demR false [.sh C, x1, x2, .sh bad, .ow (.list [HD.refusedD "BadRows", HD.refusedD "BadRows"])]) = .ok (false, demR false [.sh C, x1, x2, .sh bad, .ow (.list [HD.refusedD "BadRows", HD.refusedD "BadRows"])]) := tst_ok (op2_ok (vN_ok rfl) (op2_ok (opA_ok (aC1 (opA_ok (aC_ok cD_ok (aC1 cD_ok)) rfl)) rfl) cD_ok (rfl : gMul (.list [HD.refusedD "BadRows"]) (.int 2) = some (.list [HD.refusedD "BadRows", HD.refusedD "BadRows"]))) (ne_same PR))
  rw [b_law_rows_refused_L1, seq_nx s1, seq_nx s2]
  exact ifN_f (brwT_ok rfl t3 rfl)
theorem mul17 (x : PyData) {k : Nat} (h1 : 1 ≤ k) (hk : k ≤ 1000) : gMul (.tuple [x]) (natD k) = some (.tuple (List.replicate k x)) := by
  have e : gMul (.tuple [x]) (natD k) = if [x] ≠ [] ∧ 1 ≤ ((k : Nat) : Int) ∧ ((k : Nat) : Int) ≤ 1000 ∧ [x].length ≤ 1000 then some (.tuple (List.replicate ((k : Nat) : Int).toNat [x]).flatten) else none := rfl
  rw [e, if_pos ⟨by simp, by omega, by omega, by simp⟩, Int.toNat_natCast]
  have f : ∀ n : Nat, (List.replicate n [x]).flatten = List.replicate n x := fun n => by
    induction n with
    | zero => rfl
    | succ n ih => rw [List.replicate_succ, List.replicate_succ, List.flatten_cons, ih]; rfl
  rw [f]
theorem rep_row (x k : Nat) : PyData.tuple (List.replicate k (natD x)) = rowD (List.replicate k x) := by unfold rowD; rw [List.map_replicate]
theorem refused_ok {m : Nat} (hm : many = m) (h : Good many ss) : m_law_rows_refused [chD many ss, natD ss.length, natD m] = .ok (.bool true) := by
  have h4 := h.l4
  have l1 := h.l1
  have m2 := h.m2
  have ln := fun r : List Nat => are_lines_nats r (ss.length : Nat) many
  have b4 : m_need_first_rows [chD many ss, .list [.none]] = .exc "BadRows" := first_exc3 (lines_none _ _)
  have b5 : m_need_first_rows [chD many ss, .list [rowD (List.replicate (ss.length + 1) 0)]] = .exc "BadRows" := first_exc3 (by
    rw [ln _ (by rw [e_LIM, List.length_replicate]; omega), decide_eq_false (by rw [List.length_replicate]; omega)]; rfl)
  have b6 : m_need_first_rows [chD many ss, .list [rowD (List.replicate ss.length m)]] = .exc "BadRows" := first_exc3 (by
    rw [ln _ (by rw [e_LIM, List.length_replicate]; omega)]
    have : ((List.replicate ss.length m).all fun n => decide ((n : Int) ≤ many - 1)) = false := by
      rw [List.all_eq_false]
      refine ⟨m, List.mem_replicate.mpr ⟨by omega, rfl⟩, ?_⟩
      rw [decide_eq_true_iff]; omega
    rw [this, Bool.and_false])
  have b7 : m_need_first_rows [chD many ss, .list [rowD (List.replicate ss.length 0), rowD (List.replicate ss.length 0), rowD (List.replicate ss.length 0), rowD (List.replicate ss.length 0), rowD (List.replicate ss.length 0), rowD (List.replicate ss.length 0), rowD (List.replicate ss.length 0)]] = .exc "BadRows" := first_exc2 (by simp)
  have ad : gAdd (natD ss.length) (.int 1) = some (natD (ss.length + 1)) := gAdd_nat (b := 1)
  have u1 := mul17 (natD 0) (k := ss.length + 1) (by omega) (by omega)
  have u2 := mul17 (natD m) (k := ss.length) (by omega) (by omega)
  have u3 := mul17 (natD 0) (k := ss.length) (by omega) (by omega)
  rw [rep_row] at u1 u2 u3
  have all : ∀ bad ∈ [PyData.none, .int 5, .tuple [], .list [.none], .list [rowD (List.replicate (ss.length + 1) 0)], .list [rowD (List.replicate ss.length m)], .list [rowD (List.replicate ss.length 0), rowD (List.replicate ss.length 0), rowD (List.replicate ss.length 0), rowD (List.replicate ss.length 0), rowD (List.replicate ss.length 0), rowD (List.replicate ss.length 0), rowD (List.replicate ss.length 0)]], m_need_first_rows [chD many ss, bad] = .exc "BadRows" := fun bad hb => by
    simp only [List.mem_cons, List.not_mem_nil, or_false] at hb
    rcases hb with rfl | rfl | rfl | rfl | rfl | rfl | rfl
    · exact first_exc1 rfl
    · exact first_exc1 rfl
    · exact first_exc1 rfl
    · exact b4
    · exact b5
    · exact b6
    · exact b7
  have turn := fun bad (hb : m_need_first_rows [chD many ss, bad] = .exc "BadRows") x1 x2 x4 => bad_turn h hb x1 x2 x4
  generalize chD many ss = C at *
  generalize hL : [PyData.none, .int 5, .tuple [], .list [.none], .list [rowD (List.replicate (ss.length + 1) 0)], .list [rowD (List.replicate ss.length m)], .list [rowD (List.replicate ss.length 0), rowD (List.replicate ss.length 0), rowD (List.replicate ss.length 0), rowD (List.replicate ss.length 0), rowD (List.replicate ss.length 0), rowD (List.replicate ss.length 0), rowD (List.replicate ss.length 0)]] = L at all
  obtain ⟨ρ', hl, y3, y4, rfl⟩ := loop_inv (g := setS 3) (fb := b_law_rows_refused_L1) (ds := L) (fun _ ρ => ∃ y3 y4, ρ = [.sh C, .sh (natD ss.length), .sh (natD m), y3, y4]) (fun i dd ρ hd hI => by
    obtain ⟨y3, y4, rfl⟩ := hI
    obtain ⟨z4, r⟩ := turn dd (all dd (List.mem_of_getElem? hd)) (.sh (natD ss.length)) (.sh (natD m)) y4
    exact ⟨_, _, rfl, r, .sh dd, z4, rfl⟩) (ρ := [.sh C, .sh (natD ss.length), .sh (natD m), .no, .no]) ⟨.no, .no, rfl⟩
  refine fn_rt' (ρ0 := [.sh C, .sh (natD ss.length), .sh (natD m), .no, .no]) rfl rfl (ρ' := [.sh C, .sh (natD ss.length), .sh (natD m), y3, y4]) ?_
  rw [b_law_rows_refused, seq_nx ((for_ok (seqI_l (opA_ok (z := .list L) (aC_ok cD_ok (aC_ok cD_ok (aC_ok (opA_ok aN_ok rfl) (aC_ok (opA_ok (aC1 cD_ok) rfl) (aC_ok (opA_ok (aC1 (op2_ok (opA_ok (aC1 cD_ok) rfl) (op2_ok (vN_ok rfl) cD_ok ad) u1)) rfl) (aC_ok (opA_ok (aC1 (op2_ok (opA_ok (aC1 (vN_ok rfl)) rfl) (vN_ok rfl) u2)) rfl) (aC1 (op2_ok (opA_ok (aC1 (op2_ok (opA_ok (aC1 cD_ok) rfl) (vN_ok rfl) u3)) rfl) cD_ok rfl)))))))) (by rw [← hL]; rfl)))).trans hl)]
  exact ret_ok cD_ok
end
end G
set_option Elab.async false
set_option linter.all false
set_option maxRecDepth 100000
set_option maxHeartbeats 1000000
namespace G
open PySem DL
local instance : DL.TabCtx := ⟨[]⟩
def W17 (dc x2 x3 x4 x5 x6 x7 x8 x9 x10 x11 x12 x13 x14 x15 x16 x17 x18 x19 : Sl) : Rho := [.no, dc, x2, x3, x4, x5, x6, x7, x8, x9, x10, x11, x12, x13, x14, x15, x16, x17, x18, x19]
def idleR (st : St) (i : Nat) : List Spt := ((List.range 3).filter fun j => decide (0 < (st.getD i []).getD j 0)).map fun j => (i, 3 - j)
def idleL (n : Nat) (st : St) : List Spt := (List.range n).flatMap (idleR st)
def keepB (m : Nat) (ss : List Sg) (N : Nat) (R : List (List Nat)) (st : St) : Bool := decide (∀ s ∈ idleL ss.length st, s ∈ askL m ss N) && decide (rowsL m ss (fun _ _ => none) st N = R)
section
variable {many : Int} {m : Nat} {ss : List Sg} {R : List (List Nat)} {N : Nat}
theorem idle_zero {D : List Spt} {LS : List (List Nat)} (I : KI m D LS (allC m ss R N)) (st : St) : (∀ s ∈ idleL ss.length st, s ∈ askL m ss N) ↔ zeroOff ss.length D st := by
  constructor
  · intro h i hi g hg hn
    refine Classical.byContradiction fun hz => hn ?_
    have hm : (i, g) ∈ idleL ss.length st := by
      unfold idleL
      refine List.mem_flatMap.mpr ⟨i, List.mem_range.mpr hi, ?_⟩
      unfold idleR
      refine List.mem_map.mpr ⟨3 - g, List.mem_filter.mpr ⟨List.mem_range.mpr (by omega), decide_eq_true ?_⟩, ?_⟩
      · unfold valOf at hz
        simp only at hz
        omega
      · have : 3 - (3 - g) = g := by omega
        rw [this]
    exact (D_ask I _).mpr (askL_mem.mp (h _ hm))
  · intro hz s hs
    unfold idleL at hs
    obtain ⟨i, hi, hs⟩ := List.mem_flatMap.mp hs
    unfold idleR at hs
    obtain ⟨j, hj, rfl⟩ := List.mem_map.mp hs
    obtain ⟨h1, h2⟩ := List.mem_filter.mp hj
    have h1 := List.mem_range.mp h1
    have h2 := of_decide_eq_true h2
    have hi := List.mem_range.mp hi
    refine askL_mem.mpr ((D_ask I _).mp (Classical.byContradiction fun hn => ?_))
    have := hz i hi (3 - j) (by omega) hn
    unfold valOf at this
    have e : 3 - (3 - j) = j := by omega
    simp only [e] at this
    omega
theorem keep_iff {D : List Spt} {LS : List (List Nat)} (I : KI m D LS (allC m ss R N)) (st : St) : keepB m ss N R st = true ↔ zeroOff ss.length D st ∧ rowsL m ss (fun _ _ => none) st N = R := by
  unfold keepB
  rw [Bool.and_eq_true, decide_eq_true_iff, decide_eq_true_iff, idle_zero I]
theorem cut_three (l : List Nat) (i : Nat) : gCut (some ((3 * i : Nat) : Int)) (some ((3 * i + 3 : Nat) : Int)) (rowD l) = some (rowD ((l.drop (3 * i)).take 3)) := by
  unfold rowD
  rw [e_cut_t, cut_mid, show 3 * i + 3 - 3 * i = 3 by omega, List.map_take, List.map_drop]
theorem idle_loop {st : St} (hst : GSt m ss.length st) {C x3 x4 x5 x6 x7 x8 x9 dc x13 x14 x15 x17 x18 x19 : Sl} : ∀ (is : List Nat) (acc : List Spt) (x12 x16 : Sl), isOw (some x16) = false → isOw (some x12) = false → (∀ i ∈ is, i < ss.length) → acc.length + is.length * 3 ≤ 1000 →
    ∃ y12, isOw (some y12) = false ∧ loopO (setS 12) b_law_L1 (is.map natD) (W17 dc C x3 x4 x5 x6 x7 x8 x9 (.sh (stD st)) (.sh (spL acc)) x12 x13 x14 x15 x16 x17 x18 x19) = .nx (W17 dc C x3 x4 x5 x6 x7 x8 x9 (.sh (stD st)) (.sh (spL (acc ++ is.flatMap (idleR st)))) y12 x13 x14 x15 x16 x17 x18 x19)
  | [], acc, x12, x16, _, q12, _, _ => ⟨x12, q12, by simp [loopO]⟩
  | i :: is, acc, x12, x16, q16, q12, hi, hl => by
    rw [List.length_cons] at hl
    have hi0 := hi i List.mem_cons_self
    have rl : (idleR st i).length ≤ 3 := by
      unfold idleR
      rw [List.length_map]
      exact Nat.le_trans (List.length_filter_le _ _) (by simp)
    obtain ⟨y12, qy, r⟩ := idle_loop hst (C := C) (x3 := x3) (x4 := x4) (x5 := x5) (x6 := x6) (x7 := x7) (x8 := x8) (x9 := x9) (dc := dc) (x13 := x13) (x14 := x14) (x15 := x15) (x17 := x17) (x18 := x18) (x19 := x19) is (acc ++ idleR st i) (.sh (natD i)) x16 q16 rfl (fun x hx => hi x (List.mem_cons_of_mem _ hx)) (by rw [List.length_append]; omega)
    refine ⟨y12, qy, ?_⟩
    have g1 : setS 12 (natD i) (W17 dc C x3 x4 x5 x6 x7 x8 x9 (.sh (stD st)) (.sh (spL acc)) x12 x13 x14 x15 x16 x17 x18 x19) = .ok (W17 dc C x3 x4 x5 x6 x7 x8 x9 (.sh (stD st)) (.sh (spL acc)) (.sh (natD i)) x13 x14 x15 x16 x17 x18 x19) := rfl
    have hrg : rg1 [.int 3] = some ((List.range 3).map natD) := rfl
    have lc := lc_filt (vs := [16]) (a := opI rg1 (aC (cD (.int 3)) aN)) (g := setS 16) (t := tst (op2 gGt (op2 gIx (op2 gIx (vN 10) (vN 12)) (vN 16)) (cD (.int 0)))) (e := opA gTupD (aC (vN 12) (aC (op2 gSub (cD (.int 3)) (vN 16)) aN))) (ρ := W17 dc C x3 x4 x5 x6 x7 x8 x9 (.sh (stD st)) (.sh (spL acc)) (.sh (natD i)) x13 x14 x15 x16 x17 x18 x19) (List.range 3) natD (fun j => sptD (i, 3 - j)) (fun j => decide (0 < (st.getD i []).getD j 0)) (opI_ok (aC1 cD_ok) hrg) (by
      show (isOw (some x16) || false) = false
      rw [q16]; rfl) (by rw [e_LIM, List.length_range]; omega) fun j hj => ⟨W17 dc C x3 x4 x5 x6 x7 x8 x9 (.sh (stD st)) (.sh (spL acc)) (.sh (natD i)) x13 x14 x15 (.sh (natD j)) x17 x18 x19, rfl, by
      have hj := List.mem_range.mp hj
      have gt : gGt (natD ((st.getD i []).getD j 0)) (.int 0) = some (.bool (decide (0 < (st.getD i []).getD j 0))) := by
        show some (PyData.bool (decide ((0 : Int) < (((st.getD i []).getD j 0 : Nat) : Int)))) = _
        rw [decide_eq_decide.mpr (by omega : (0 : Int) < (((st.getD i []).getD j 0 : Nat) : Int) ↔ 0 < (st.getD i []).getD j 0)]
      exact tst_ok (op2_ok (op2_ok (op2_ok (vN_ok rfl) (vN_ok rfl) (st_at hst hi0)) (vN_ok rfl) (rd_at (by rw [(st_row hst hi0).1]; exact hj))) cD_ok gt), fun _ => by
      have hj := List.mem_range.mp hj
      have sub : (3 : Int) - ((j : Nat) : Int) = ((3 - j : Nat) : Int) := by omega
      have sb : gSub (.int 3) (natD j) = some (natD (3 - j)) := by
        show some (PyData.int ((3 : Int) - ((j : Nat) : Int))) = some (.int ((3 - j : Nat) : Int))
        rw [sub]
      have gt : gTupD [natD i, natD (3 - j)] = some (sptD (i, 3 - j)) := rfl
      exact opA_ok (aC_ok (vN_ok rfl) (aC1 (op2_ok cD_ok (vN_ok rfl) sb))) gt, rfl⟩
    have ad : gAdd (spL acc) (.list (((List.range 3).filter fun j => decide (0 < (st.getD i []).getD j 0)).map fun j => sptD (i, 3 - j))) = some (spL (acc ++ idleR st i)) := by
      have e : ((List.range 3).filter fun j => decide (0 < (st.getD i []).getD j 0)).map (fun j => sptD (i, 3 - j)) = (idleR st i).map sptD := by unfold idleR; rw [List.map_map]; rfl
      rw [e, gAdd_l (by rw [List.length_map, List.length_map]; omega), ← List.map_append]
    have bd : b_law_L1 (W17 dc C x3 x4 x5 x6 x7 x8 x9 (.sh (stD st)) (.sh (spL acc)) (.sh (natD i)) x13 x14 x15 x16 x17 x18 x19) = .nx (W17 dc C x3 x4 x5 x6 x7 x8 x9 (.sh (stD st)) (.sh (spL (acc ++ idleR st i))) (.sh (natD i)) x13 x14 x15 x16 x17 x18 x19) := by
      rw [b_law_L1]
      exact asg_gm (op2_ok (vN_ok rfl) lc ad) rfl
    rw [List.map_cons]
    refine (loop_step g1 bd).trans (r.trans ?_)
    rw [List.flatMap_cons, List.append_assoc]
theorem rowsV_none (st : St) (n : Nat) : rowsV m ss st n = rowsL m ss (fun _ _ => none) st n := by
  unfold rowsV rowsL
  refine List.map_congr_left fun i _ => ?_
  rw [stL_none]
  unfold nxN nxt lrow
  rw [List.map_map]; rfl
theorem P_rw17 (R : List (List Nat)) : P 2 (RwD R) := .list fun x hx => by obtain ⟨r, _, rfl⟩ := List.mem_map.mp hx; exact P_row r
theorem tup_turn (hm : many = m) (h : Good many ss) (n2 : ss.length ≤ 2) (hN : N ≤ 100) {l : List Nat} (hl : l ∈ tups m (3 * ss.length)) (F : List St) (hF : F.length ≤ 100000) (dc x3 x10 x11 x12 x13 x14 x15 x16 x17 x18 x19 : Sl) (q12 : isOw (some x12) = false) (q16 : isOw (some x16) = false) (q18 : isOw (some x18) = false) :
    ∃ y12, isOw (some y12) = false ∧ b_law_L2 (W17 dc (.sh (chD many ss)) x3 (.sh (natD ss.length)) (.sh (natD N)) (.sh (RwD R)) (.sh (spL (askL m ss N))) (.ow (.list (F.map stD))) (.sh (rowD l)) x10 x11 x12 x13 x14 x15 x16 x17 x18 x19) = .nx (W17 dc (.sh (chD many ss)) x3 (.sh (natD ss.length)) (.sh (natD N)) (.sh (RwD R)) (.sh (spL (askL m ss N))) (.ow (.list ((F ++ if keepB m ss N R (chunk ss.length l) = true then [chunk ss.length l] else []).map stD))) (.sh (rowD l)) (.sh (stD (chunk ss.length l))) (.sh (spL (idleL ss.length (chunk ss.length l)))) y12 x13 x14 x15 x16 x17 x18 x19) := by
  have h4 := h.l4
  have hst := chunk_good hl
  have sung := lsung0_ok hm h hst (N := ((N : Nat) : Int)) (by omega) (by omega)
  rw [Int.toNat_natCast, rowsV_none] at sung
  have sung : m_law_sung [chD many ss, stD (chunk ss.length l), .dict [], natD N] = _ := sung
  have hrg : rg1 [natD ss.length] = some ((List.range ss.length).map natD) := by
    have := rg1_int (r := ((ss.length : Nat) : Int)) (by omega) (by omega : ((ss.length : Nat) : Int) ≤ 1000000)
    rw [Int.toNat_natCast, rangeD_map] at this; exact this
  have lc := lc_map (vs := [12]) (a := opI rg1 (aC (vN 4) aN)) (g := setS 12) (e := slc (vN 9) (prt (op2 gMul (cD (.int 3)) (vN 12))) (prt (op2 gAdd (op2 gMul (cD (.int 3)) (vN 12)) (cD (.int 3))))) (ρ := W17 dc (.sh (chD many ss)) x3 (.sh (natD ss.length)) (.sh (natD N)) (.sh (RwD R)) (.sh (spL (askL m ss N))) (.ow (.list (F.map stD))) (.sh (rowD l)) x10 x11 x12 x13 x14 x15 x16 x17 x18 x19) (List.range ss.length) natD (fun i => rowD ((l.drop (3 * i)).take 3)) (opI_ok (aC1 (vN_ok rfl)) hrg) (by
    show (isOw (some x12) || false) = false
    rw [q12]; rfl) (by rw [e_LIM, List.length_range]; omega) fun i hi => ⟨W17 dc (.sh (chD many ss)) x3 (.sh (natD ss.length)) (.sh (natD N)) (.sh (RwD R)) (.sh (spL (askL m ss N))) (.ow (.list (F.map stD))) (.sh (rowD l)) x10 x11 (.sh (natD i)) x13 x14 x15 x16 x17 x18 x19, rfl, by
    have hi := List.mem_range.mp hi
    have mu : gMul (.int 3) (natD i) = some (natD (3 * i)) := by
      have := gMul_nat (a := 3) (b := i) (by omega)
      exact this
    have ad : gAdd (natD (3 * i)) (.int 3) = some (natD (3 * i + 3)) := gAdd_nat (b := 3)
    exact slc_ok (vN_ok rfl) (prt_ok (op2_ok cD_ok (vN_ok rfl) mu)) (prt_ok (op2_ok (op2_ok cD_ok (vN_ok rfl) mu) cD_ok ad)) (cut_three l i), rfl⟩
  have s1 : asgO (opA gTuple (aC (lcM [12] (opI rg1 (aC (vN 4) aN)) (setS 12) yesT (slc (vN 9) (prt (op2 gMul (cD (.int 3)) (vN 12))) (prt (op2 gAdd (op2 gMul (cD (.int 3)) (vN 12)) (cD (.int 3)))))) aN)) (setS 10) (W17 dc (.sh (chD many ss)) x3 (.sh (natD ss.length)) (.sh (natD N)) (.sh (RwD R)) (.sh (spL (askL m ss N))) (.ow (.list (F.map stD))) (.sh (rowD l)) x10 x11 x12 x13 x14 x15 x16 x17 x18 x19) = .nx (W17 dc (.sh (chD many ss)) x3 (.sh (natD ss.length)) (.sh (natD N)) (.sh (RwD R)) (.sh (spL (askL m ss N))) (.ow (.list (F.map stD))) (.sh (rowD l)) (.sh (stD (chunk ss.length l))) x11 x12 x13 x14 x15 x16 x17 x18 x19) := by
    have e : stD (chunk ss.length l) = .tuple ((List.range ss.length).map fun i => rowD ((l.drop (3 * i)).take 3)) := by unfold stD chunk; rw [List.map_map]; rfl
    rw [e]
    exact asg_gm (opA_ok (aC1 lc) e_tuple_l) rfl
  generalize hC : chunk ss.length l = st at *
  have s2 : asgO (opA gLstD aN) (setS 11) (W17 dc (.sh (chD many ss)) x3 (.sh (natD ss.length)) (.sh (natD N)) (.sh (RwD R)) (.sh (spL (askL m ss N))) (.ow (.list (F.map stD))) (.sh (rowD l)) (.sh (stD st)) x11 x12 x13 x14 x15 x16 x17 x18 x19) = .nx (W17 dc (.sh (chD many ss)) x3 (.sh (natD ss.length)) (.sh (natD N)) (.sh (RwD R)) (.sh (spL (askL m ss N))) (.ow (.list (F.map stD))) (.sh (rowD l)) (.sh (stD st)) (.sh (spL [])) x12 x13 x14 x15 x16 x17 x18 x19) := asg_gm (opA_ok aN_ok rfl) rfl
  obtain ⟨y12, qy, r⟩ := idle_loop hst (C := .sh (chD many ss)) (x3 := x3) (x4 := .sh (natD ss.length)) (x5 := .sh (natD N)) (x6 := .sh (RwD R)) (x7 := .sh (spL (askL m ss N))) (x8 := .ow (.list (F.map stD))) (x9 := .sh (rowD l)) (dc := dc) (x13 := x13) (x14 := x14) (x15 := x15) (x17 := x17) (x18 := x18) (x19 := x19) (List.range ss.length) [] x12 x16 q16 q12 (fun i hi => List.mem_range.mp hi) (by rw [List.length_range]; simp; omega)
  rw [List.nil_append] at r
  have s3 := (for_ok (g := setS 12) (f := b_law_L1) (opI_ok (g := rg1) (aC1 (vN_ok (i := 4) (ρ := W17 dc (.sh (chD many ss)) x3 (.sh (natD ss.length)) (.sh (natD N)) (.sh (RwD R)) (.sh (spL (askL m ss N))) (.ow (.list (F.map stD))) (.sh (rowD l)) (.sh (stD st)) (.sh (spL [])) x12 x13 x14 x15 x16 x17 x18 x19) rfl)) hrg)).trans r
  have s3 : forO (opI rg1 (aC (vN 4) aN)) (setS 12) b_law_L1 (W17 dc (.sh (chD many ss)) x3 (.sh (natD ss.length)) (.sh (natD N)) (.sh (RwD R)) (.sh (spL (askL m ss N))) (.ow (.list (F.map stD))) (.sh (rowD l)) (.sh (stD st)) (.sh (spL [])) x12 x13 x14 x15 x16 x17 x18 x19) = .nx (W17 dc (.sh (chD many ss)) x3 (.sh (natD ss.length)) (.sh (natD N)) (.sh (RwD R)) (.sh (spL (askL m ss N))) (.ow (.list (F.map stD))) (.sh (rowD l)) (.sh (stD st)) (.sh (spL (idleL ss.length st))) y12 x13 x14 x15 x16 x17 x18 x19) := s3
  have ilen : (idleL ss.length st).length ≤ 1000 := by
    have : ∀ is : List Nat, (is.flatMap (idleR st)).length ≤ is.length * 3 := by
      intro is
      induction is with
      | nil => simp
      | cons i is ih =>
        rw [List.flatMap_cons, List.length_append, List.length_cons]
        have rl : (idleR st i).length ≤ 3 := by
          unfold idleR
          rw [List.length_map]
          exact Nat.le_trans (List.length_filter_le _ _) (by simp)
        omega
    have := this (List.range ss.length)
    rw [List.length_range] at this
    show ((List.range ss.length).flatMap (idleR st)).length ≤ 1000
    omega
  have Psp : ∀ s : Spt, P 1 (sptD s) := fun s => P_row _
  have sinj : ∀ a b : Spt, sptD a = sptD b ↔ a = b := fun a b => by
    unfold sptD
    rw [rowD_inj]
    constructor
    · intro e
      simp only [List.cons.injEq, and_true] at e
      exact Prod.ext e.1 e.2
    · intro e
      rw [e]
  have nin : ∀ s : Spt, gNotIn (sptD s) (spL (askL m ss N)) = some (.bool (!decide (s ∈ askL m ss N))) := fun s => gNotIn_P (Psp s) (fun y hy => by
    obtain ⟨z, _, rfl⟩ := List.mem_map.mp hy
    exact Psp z) _ (by
    rw [List.mem_map]
    constructor
    · rintro ⟨z, hz, e⟩
      rw [(sinj z s).mp e] at hz; exact hz
    · intro hs; exact ⟨s, hs, rfl⟩)
  have lf := lc_filt (vs := [18]) (a := seqI (vN 11)) (g := setS 18) (t := tst (op2 gNotIn (vN 18) (vN 7))) (e := vN 18) (ρ := W17 dc (.sh (chD many ss)) x3 (.sh (natD ss.length)) (.sh (natD N)) (.sh (RwD R)) (.sh (spL (askL m ss N))) (.ow (.list (F.map stD))) (.sh (rowD l)) (.sh (stD st)) (.sh (spL (idleL ss.length st))) y12 x13 x14 x15 x16 x17 x18 x19) (idleL ss.length st) sptD sptD (fun s => !decide (s ∈ askL m ss N)) (seqI_l (vN_ok rfl)) (by
    show (isOw (some x18) || false) = false
    rw [q18]; rfl) (by rw [e_LIM]; omega) fun s _ => ⟨W17 dc (.sh (chD many ss)) x3 (.sh (natD ss.length)) (.sh (natD N)) (.sh (RwD R)) (.sh (spL (askL m ss N))) (.ow (.list (F.map stD))) (.sh (rowD l)) (.sh (stD st)) (.sh (spL (idleL ss.length st))) y12 x13 x14 x15 x16 x17 (.sh (sptD s)) x19, rfl, tst_ok (op2_ok (vN_ok rfl) (vN_ok rfl) (nin s)), fun _ => vN_ok rfl, rfl⟩
  have PF : P 2 (.list (((idleL ss.length st).filter fun s => !decide (s ∈ askL m ss N)).map sptD)) := .list fun x hx => by
    obtain ⟨s, _, rfl⟩ := List.mem_map.mp hx
    exact Psp s
  have ge1 : gEq (.list (((idleL ss.length st).filter fun s => !decide (s ∈ askL m ss N)).map sptD)) (.list []) = some (.bool (decide (∀ s ∈ idleL ss.length st, s ∈ askL m ss N))) := gEq_P PF (.list (k := 0) (xs := []) (fun x hx => by cases hx)) _ (by
    rw [PyData.list.injEq, List.map_eq_nil_iff, List.filter_eq_nil_iff]
    simp)
  have t1 := tst_ok (op2_ok lf (opA_ok (g := gLstD) aN_ok rfl) ge1)
  have ge2 : gEq (.list ((rowsL m ss (fun _ _ => none) st N).map rowD)) (RwD R) = some (.bool (decide (rowsL m ss (fun _ _ => none) st N = R))) := gEq_P (P_rw17 _) (P_rw17 R) _ (by rw [PyData.list.injEq, map_inj fun _ _ => rowD_inj])
  have t2 : tst (op2 gEq (callM m_law_sung (aC (vN 2) (aC (vN 10) (aC (cD (.dict [])) (aC (vN 5) aN))))) (vN 6)) (W17 dc (.sh (chD many ss)) x3 (.sh (natD ss.length)) (.sh (natD N)) (.sh (RwD R)) (.sh (spL (askL m ss N))) (.ow (.list (F.map stD))) (.sh (rowD l)) (.sh (stD st)) (.sh (spL (idleL ss.length st))) y12 x13 x14 x15 x16 x17 x18 x19) = .ok (decide (rowsL m ss (fun _ _ => none) st N = R), W17 dc (.sh (chD many ss)) x3 (.sh (natD ss.length)) (.sh (natD N)) (.sh (RwD R)) (.sh (spL (askL m ss N))) (.ow (.list (F.map stD))) (.sh (rowD l)) (.sh (stD st)) (.sh (spL (idleL ss.length st))) y12 x13 x14 x15 x16 x17 x18 x19) := tst_ok (op2_ok (callM_ok (aC_ok (vN_ok rfl) (aC_ok (vN_ok rfl) (aC_ok cD_ok (aC1 (vN_ok rfl))))) sung) (vN_ok rfl) ge2)
  refine ⟨y12, qy, ?_⟩
  rw [b_law_L2, seq_nx s1, seq_nx s2, seq_nx s3]
  unfold keepB
  by_cases z1 : ∀ s ∈ idleL ss.length st, s ∈ askL m ss N
  · rw [decide_eq_true z1] at t1 ⊢
    by_cases z2 : rowsL m ss (fun _ _ => none) st N = R
    · rw [decide_eq_true z2] at t2 ⊢
      refine (ifO_t (andT_t t1 t2)).trans ((app_ok (i := 8) (ds := F.map stD) rfl (vN_ok (i := 10) (d := stD st) rfl) rfl (by rw [e_LIM, List.length_map]; omega)).trans ?_)
      have e : F.map stD ++ [stD st] = (F ++ if (true && true) = true then [st] else []).map stD := by rw [List.map_append]; rfl
      rw [e]; rfl
    · rw [decide_eq_false z2] at t2 ⊢
      refine (ifN_f (andT_t t1 t2)).trans ?_
      simp
  · rw [decide_eq_false z1] at t1 ⊢
    refine (ifN_f (andT_f t1)).trans ?_
    simp
end
end G
set_option Elab.async false
set_option linter.all false
set_option maxRecDepth 100000
set_option maxHeartbeats 1000000
namespace G
open PySem DL
local instance : DL.TabCtx := ⟨[]⟩
section
variable {many : Int} {m : Nat} {ss : List Sg} {R : List (List Nat)} {N : Nat}
theorem tups_run (hm : many = m) (h : Good many ss) (n2 : ss.length ≤ 2) (hN : N ≤ 100) {B : Nat} (hB : B ≤ 100000) (dc x3 x13 x14 x15 x16 x17 x18 x19 : Sl) (q16 : isOw (some x16) = false) (q18 : isOw (some x18) = false) : ∀ (ls : List (List Nat)) (F : List St) (x9 x10 x11 x12 : Sl), (∀ l ∈ ls, l ∈ tups m (3 * ss.length)) → F.length + ls.length ≤ B → isOw (some x12) = false →
    ∃ y9 y10 y11 y12, isOw (some y12) = false ∧ loopO (setS 9) b_law_L2 (ls.map rowD) (W17 dc (.sh (chD many ss)) x3 (.sh (natD ss.length)) (.sh (natD N)) (.sh (RwD R)) (.sh (spL (askL m ss N))) (.ow (.list (F.map stD))) x9 x10 x11 x12 x13 x14 x15 x16 x17 x18 x19) = .nx (W17 dc (.sh (chD many ss)) x3 (.sh (natD ss.length)) (.sh (natD N)) (.sh (RwD R)) (.sh (spL (askL m ss N))) (.ow (.list ((F ++ (ls.filter fun l => keepB m ss N R (chunk ss.length l)).map (chunk ss.length)).map stD))) y9 y10 y11 y12 x13 x14 x15 x16 x17 x18 x19)
  | [], F, x9, x10, x11, x12, _, _, q12 => ⟨x9, x10, x11, x12, q12, by simp [loopO]⟩
  | l :: ls, F, x9, x10, x11, x12, hl, hb, q12 => by
    rw [List.length_cons] at hb
    obtain ⟨y12, qy, t⟩ := tup_turn (R := R) hm h n2 hN (hl l List.mem_cons_self) F (by omega) dc x3 x10 x11 x12 x13 x14 x15 x16 x17 x18 x19 q12 q16 q18
    have fl : (F ++ if keepB m ss N R (chunk ss.length l) = true then [chunk ss.length l] else []).length ≤ F.length + 1 := by
      rw [List.length_append]
      split <;> simp
    obtain ⟨z9, z10, z11, z12, qz, r⟩ := tups_run hm h n2 hN hB dc x3 x13 x14 x15 x16 x17 x18 x19 q16 q18 ls (F ++ if keepB m ss N R (chunk ss.length l) = true then [chunk ss.length l] else []) (.sh (rowD l)) (.sh (stD (chunk ss.length l))) (.sh (spL (idleL ss.length (chunk ss.length l)))) y12 (fun x hx => hl x (List.mem_cons_of_mem _ hx)) (by omega) qy
    refine ⟨z9, z10, z11, z12, qz, ?_⟩
    have g1 : setS 9 (rowD l) (W17 dc (.sh (chD many ss)) x3 (.sh (natD ss.length)) (.sh (natD N)) (.sh (RwD R)) (.sh (spL (askL m ss N))) (.ow (.list (F.map stD))) x9 x10 x11 x12 x13 x14 x15 x16 x17 x18 x19) = .ok (W17 dc (.sh (chD many ss)) x3 (.sh (natD ss.length)) (.sh (natD N)) (.sh (RwD R)) (.sh (spL (askL m ss N))) (.ow (.list (F.map stD))) (.sh (rowD l)) x10 x11 x12 x13 x14 x15 x16 x17 x18 x19) := rfl
    rw [List.map_cons]
    refine (loop_step g1 t).trans (r.trans ?_)
    have e : (F ++ if keepB m ss N R (chunk ss.length l) = true then [chunk ss.length l] else []) ++ (ls.filter fun l => keepB m ss N R (chunk ss.length l)).map (chunk ss.length) = F ++ ((l :: ls).filter fun l => keepB m ss N R (chunk ss.length l)).map (chunk ss.length) := by
      rw [List.append_assoc, List.filter_cons]
      by_cases q : keepB m ss N R (chunk ss.length l) = true
      · simp only [q, if_true, List.map_cons, List.singleton_append]
      · simp only [q, if_false, List.nil_append]; rfl
    rw [e]
theorem all_run (hm : many = m) (h : Good many ss) (n2 : ss.length ≤ 2) (hN : N ≤ 100) (hB : m ^ (3 * ss.length) < 2000) (dc x3 x13 x14 x15 x16 x17 x18 x19 : Sl) (q16 : isOw (some x16) = false) (q18 : isOw (some x18) = false) (x9 x10 x11 x12 : Sl) (q12 : isOw (some x12) = false) :
    ∃ y9 y10 y11 y12, isOw (some y12) = false ∧ loopO (setS 9) b_law_L2 ((tups m (3 * ss.length)).map rowD) (W17 dc (.sh (chD many ss)) x3 (.sh (natD ss.length)) (.sh (natD N)) (.sh (RwD R)) (.sh (spL (askL m ss N))) (.ow (.list [])) x9 x10 x11 x12 x13 x14 x15 x16 x17 x18 x19) = .nx (W17 dc (.sh (chD many ss)) x3 (.sh (natD ss.length)) (.sh (natD N)) (.sh (RwD R)) (.sh (spL (askL m ss N))) (.ow (.list ((dueL m ss.length (keepB m ss N R)).map stD))) y9 y10 y11 y12 x13 x14 x15 x16 x17 x18 x19) := by
  have := tups_run (R := R) (B := 2000) hm h n2 hN (by omega) dc x3 x13 x14 x15 x16 x17 x18 x19 q16 q18 (tups m (3 * ss.length)) [] x9 x10 x11 x12 (fun _ h => h) (by rw [tups_len]; simp; omega) q12
  rw [List.nil_append] at this
  exact this
theorem let_sh17 {i : Nat} {f : SM} {d : PyData} {ρ : Rho} (h : ρ[i]? = some (.sh d)) : letO i f ρ = f ρ := by
  unfold letO; rw [h]
/-- what all kept have -/
theorem own_rows {F : List St} {n : Nat} (hF : ∀ s ∈ F, GSt m n s) (m4 : m ≤ 4) (hl : F.length ≤ 2000) (dc x2 x3 x4 x5 x6 x7 x9 x10 x11 x15 x16 x17 x18 x19 : Sl) (q16 : isOw (some x16) = false) (q18 : isOw (some x18) = false) (q19 : isOw (some x19) = false) : ∀ (is : List Nat) (acc : List Nat) (x12 x14 : Sl), (∀ i ∈ is, i < n) → acc.length + is.length ≤ 100 →
    ∃ y12 y14, loopO (setS 12) b_law_L3 (is.map natD) (W17 dc x2 x3 x4 x5 x6 x7 (.sh (.list (F.map stD))) x9 x10 x11 x12 (.ow (.list (acc.map (mRow F)))) x14 x15 x16 x17 x18 x19) = .nx (W17 dc x2 x3 x4 x5 x6 x7 (.sh (.list (F.map stD))) x9 x10 x11 y12 (.ow (.list ((acc ++ is).map (mRow F)))) y14 x15 x16 x17 x18 x19)
  | [], acc, x12, x14, _, _ => ⟨x12, x14, by simp [loopO]⟩
  | i :: is, acc, x12, x14, hi, hc => by
    rw [List.length_cons] at hc
    have hi0 := hi i List.mem_cons_self
    obtain ⟨y12, y14, r⟩ := own_rows hF m4 hl dc x2 x3 x4 x5 x6 x7 x9 x10 x11 x15 x16 x17 x18 x19 q16 q18 q19 is (acc ++ [i]) (.sh (natD i)) (.sh (rowL F i)) (fun x hx => hi x (List.mem_cons_of_mem _ hx)) (by rw [List.length_append, List.length_singleton]; omega)
    refine ⟨y12, y14, ?_⟩
    have g1 : setS 12 (natD i) (W17 dc x2 x3 x4 x5 x6 x7 (.sh (.list (F.map stD))) x9 x10 x11 x12 (.ow (.list (acc.map (mRow F)))) x14 x15 x16 x17 x18 x19) = .ok (W17 dc x2 x3 x4 x5 x6 x7 (.sh (.list (F.map stD))) x9 x10 x11 (.sh (natD i)) (.ow (.list (acc.map (mRow F)))) x14 x15 x16 x17 x18 x19) := rfl
    have hrg : rg1 [.int 3] = some ((List.range 3).map natD) := rfl
    have inner : ∀ j, j < 3 → lcM [18] (seqI (vN 8)) (setS 18) yesT (op2 gIx (op2 gIx (vN 18) (vN 12)) (vN 16)) (W17 dc x2 x3 x4 x5 x6 x7 (.sh (.list (F.map stD))) x9 x10 x11 (.sh (natD i)) (.ow (.list (acc.map (mRow F)))) x14 x15 (.sh (natD j)) x17 x18 x19) = .ok (.list ((colI F i j).map .int), W17 dc x2 x3 x4 x5 x6 x7 (.sh (.list (F.map stD))) x9 x10 x11 (.sh (natD i)) (.ow (.list (acc.map (mRow F)))) x14 x15 (.sh (natD j)) x17 x18 x19) := fun j hj => by
      have lc := lc_map (vs := [18]) (a := seqI (vN 8)) (g := setS 18) (e := op2 gIx (op2 gIx (vN 18) (vN 12)) (vN 16)) (ρ := W17 dc x2 x3 x4 x5 x6 x7 (.sh (.list (F.map stD))) x9 x10 x11 (.sh (natD i)) (.ow (.list (acc.map (mRow F)))) x14 x15 (.sh (natD j)) x17 x18 x19) F stD (fun s => natD ((s.getD i []).getD j 0)) (seqI_l (vN_ok rfl)) (by
        show (isOw (some x18) || false) = false
        rw [q18]; rfl) (by rw [e_LIM]; omega) fun s hs => ⟨W17 dc x2 x3 x4 x5 x6 x7 (.sh (.list (F.map stD))) x9 x10 x11 (.sh (natD i)) (.ow (.list (acc.map (mRow F)))) x14 x15 (.sh (natD j)) x17 (.sh (stD s)) x19, rfl, op2_ok (op2_ok (vN_ok rfl) (vN_ok rfl) (st_at (hF s hs) hi0)) (vN_ok rfl) (rd_at (by rw [(st_row (hF s hs) hi0).1]; exact hj)), rfl⟩
      have e : (colI F i j).map PyData.int = F.map fun s => natD ((s.getD i []).getD j 0) := by unfold colI; rw [List.map_map]; rfl
      rw [e]; exact lc
    have lc16 := lc_map (vs := [16]) (a := opI rg1 (aC (cD (.int 3)) aN)) (g := setS 16) (e := op1 gSortI (lcM [18] (seqI (vN 8)) (setS 18) yesT (op2 gIx (op2 gIx (vN 18) (vN 12)) (vN 16)))) (ρ := W17 dc x2 x3 x4 x5 x6 x7 (.sh (.list (F.map stD))) x9 x10 x11 (.sh (natD i)) (.ow (.list (acc.map (mRow F)))) x14 x15 x16 x17 x18 x19) (List.range 3) natD (fun j => .list ((sortU (colI F i j)).map .int)) (opI_ok (aC1 cD_ok) hrg) (by
      show (isOw (some x16) || false) = false
      rw [q16]; rfl) (by rw [e_LIM, List.length_range]; omega) fun j hj => ⟨W17 dc x2 x3 x4 x5 x6 x7 (.sh (.list (F.map stD))) x9 x10 x11 (.sh (natD i)) (.ow (.list (acc.map (mRow F)))) x14 x15 (.sh (natD j)) x17 x18 x19, rfl, op1_ok (inner j (List.mem_range.mp hj)) (gSortI_ok (m := m) (col_rng hF hi0 (List.mem_range.mp hj)) m4 (by unfold colI; rw [List.length_map]; omega)), rfl⟩
    have s1 : letO 8 (asgO (lcM [16] (opI rg1 (aC (cD (.int 3)) aN)) (setS 16) yesT (op1 gSortI (lcM [18] (seqI (vN 8)) (setS 18) yesT (op2 gIx (op2 gIx (vN 18) (vN 12)) (vN 16))))) (setS 14)) (W17 dc x2 x3 x4 x5 x6 x7 (.sh (.list (F.map stD))) x9 x10 x11 (.sh (natD i)) (.ow (.list (acc.map (mRow F)))) x14 x15 x16 x17 x18 x19) = .nx (W17 dc x2 x3 x4 x5 x6 x7 (.sh (.list (F.map stD))) x9 x10 x11 (.sh (natD i)) (.ow (.list (acc.map (mRow F)))) (.sh (rowL F i)) x15 x16 x17 x18 x19) := (let_sh17 (d := .list (F.map stD)) rfl).trans (asg_gm lc16 rfl)
    have lc19 := lc_map (vs := [19]) (a := seqI (vN 14)) (g := setS 19) (e := ifV (tst (op2 gEq (opA gLen (aC (vN 19) aN)) (cD (.int 1)))) (op2 gIx (vN 19) (cD (.int 0))) (cD .none)) (ρ := W17 dc x2 x3 x4 x5 x6 x7 (.sh (.list (F.map stD))) x9 x10 x11 (.sh (natD i)) (.ow (.list (acc.map (mRow F)))) (.sh (rowL F i)) x15 x16 x17 x18 x19) (List.range 3) (fun j => .list ((sortU (colI F i j)).map .int)) (fun j => oneOf (sortU (colI F i j))) (seqI_l (vN_ok rfl)) (by
      show (isOw (some x19) || false) = false
      rw [q19]; rfl) (by rw [e_LIM, List.length_range]; omega) fun j _ => ⟨W17 dc x2 x3 x4 x5 x6 x7 (.sh (.list (F.map stD))) x9 x10 x11 (.sh (natD i)) (.ow (.list (acc.map (mRow F)))) (.sh (rowL F i)) x15 x16 x17 x18 (.sh (.list ((sortU (colI F i j)).map .int))), rfl, one_val rfl, rfl⟩
    have s2 : appO 13 (opA gTuple (aC (lcM [19] (seqI (vN 14)) (setS 19) yesT (ifV (tst (op2 gEq (opA gLen (aC (vN 19) aN)) (cD (.int 1)))) (op2 gIx (vN 19) (cD (.int 0))) (cD .none))) aN)) (W17 dc x2 x3 x4 x5 x6 x7 (.sh (.list (F.map stD))) x9 x10 x11 (.sh (natD i)) (.ow (.list (acc.map (mRow F)))) (.sh (rowL F i)) x15 x16 x17 x18 x19) = .nx (W17 dc x2 x3 x4 x5 x6 x7 (.sh (.list (F.map stD))) x9 x10 x11 (.sh (natD i)) (.ow (.list ((acc ++ [i]).map (mRow F)))) (.sh (rowL F i)) x15 x16 x17 x18 x19) := by
      refine (app_ok (i := 13) (ds := acc.map (mRow F)) rfl (opA_ok (z := mRow F i) (aC1 lc19) rfl) rfl (by rw [e_LIM, List.length_map]; omega)).trans ?_
      rw [List.map_append]; rfl
    have bd : b_law_L3 (W17 dc x2 x3 x4 x5 x6 x7 (.sh (.list (F.map stD))) x9 x10 x11 (.sh (natD i)) (.ow (.list (acc.map (mRow F)))) x14 x15 x16 x17 x18 x19) = .nx (W17 dc x2 x3 x4 x5 x6 x7 (.sh (.list (F.map stD))) x9 x10 x11 (.sh (natD i)) (.ow (.list ((acc ++ [i]).map (mRow F)))) (.sh (rowL F i)) x15 x16 x17 x18 x19) := by
      rw [b_law_L3, seq_nx s1]
      exact s2
    rw [List.map_cons]
    refine (loop_step g1 bd).trans (r.trans ?_)
    rw [List.append_assoc]; rfl
end
end G
set_option Elab.async false
set_option linter.all false
set_option maxRecDepth 100000
set_option maxHeartbeats 1000000
namespace G
open PySem DL
local instance : DL.TabCtx := ⟨[]⟩
section
variable {many : Int} {m : Nat} {ss : List Sg} {R : List (List Nat)} {N : Nat}
theorem let_ow17 {i : Nat} {f : SM} {d : PyData} {ρ : Rho} (h : ρ[i]? = some (.ow d)) : letO i f ρ = f (ρ.set i (.sh d)) := by
  unfold letO; rw [h]
theorem full_said : gNe (HD.refusedD "Full") (.tuple [.str "refused", .str "Full"]) = some (.bool false) := ne_same (k := 1) (.tuple fun y hy => by
  simp at hy
  rcases hy with rfl | rfl <;> exact .str (by decide +kernel))
theorem nothing_said : gNe (HD.refusedD "Nothing") (.tuple [.str "refused", .str "Nothing"]) = some (.bool false) := ne_same (k := 1) (.tuple fun y hy => by
  simp at hy
  rcases hy with rfl | rfl <;> exact .str (by decide +kernel))
theorem first_check (hm : many = m) (h : Good many ss) (hR : GRw m ss.length N R) (n2 : ss.length ≤ 2) (hN : N ≤ 6) {D : List Spt} {LS : List (List Nat)} (I : KI m D LS (allC m ss R N)) (hl : LS.length ≤ 2000) (ak : m_all_known [chD many ss, RwD R] = if 500 < LS.length then .exc "Full" else .ok (KL (zF D LS))) (dc x3 x4 x5 x7 x9 x10 x11 x12 x13 x14 x15 x16 x17 x18 x19 : Sl) :
    letO 8 (ifO (tst (op2 gGt (opA gLen (aC (vN 8) aN)) (cD (.int 500)))) (ifO (tst (op2 gNe (HD.toldM (callM m_could_begin (aC (vN 2) (aC (vN 6) aN)))) (opA gTupD (aC (cD (.str "refused")) (aC (cD (.str "Full")) aN))))) (retO (cD (.bool false))) nxO) (ifO (tst (op2 gNe (callM m_could_begin (aC (vN 2) (aC (vN 6) aN))) (vN 8))) (retO (cD (.bool false))) nxO)) (W17 dc (.sh (chD many ss)) x3 x4 x5 (.sh (RwD R)) x7 (.ow (.list ((dueL m ss.length (keepB m ss N R)).map stD))) x9 x10 x11 x12 x13 x14 x15 x16 x17 x18 x19) = .nx (W17 dc (.sh (chD many ss)) x3 x4 x5 (.sh (RwD R)) x7 (.sh (.list ((dueL m ss.length (keepB m ss N R)).map stD))) x9 x10 x11 x12 x13 x14 x15 x16 x17 x18 x19) := by
  obtain ⟨_, hlen, hsrt⟩ := due_known hm h hR n2 I (p := keepB m ss N R) fun st _ => keep_iff I st
  have co := could_ok hm h hR n2 hN I hl ak
  rw [hsrt] at co
  generalize dueL m ss.length (keepB m ss N R) = F at *
  refine (let_ow17 (d := .list (F.map stD)) rfl).trans ?_
  show ifO _ _ _ (W17 dc (.sh (chD many ss)) x3 x4 x5 (.sh (RwD R)) x7 (.sh (.list (F.map stD))) x9 x10 x11 x12 x13 x14 x15 x16 x17 x18 x19) = _
  have gl : gLen [.list (F.map stD)] = some (natD F.length) := by rw [e_len_l, List.length_map]
  have gt : gGt (natD F.length) (.int 500) = some (.bool (decide (500 < F.length))) := by
    show some (PyData.bool (decide ((500 : Int) < ((F.length : Nat) : Int)))) = _
    rw [decide_eq_decide.mpr (by omega : (500 : Int) < ((F.length : Nat) : Int) ↔ 500 < F.length)]
  have t := tst_ok (op2_ok (opA_ok (aC1 (vN_ok (i := 8) (d := .list (F.map stD)) (ρ := W17 dc (.sh (chD many ss)) x3 x4 x5 (.sh (RwD R)) x7 (.sh (.list (F.map stD))) x9 x10 x11 x12 x13 x14 x15 x16 x17 x18 x19) rfl)) gl) (cD_ok (d := .int 500)) gt)
  rw [← hlen] at co
  by_cases q : 500 < F.length
  · rw [decide_eq_true q] at t
    rw [if_pos q] at co
    exact (ifO_t t).trans (ifN_f (tst_ok (op2_ok (told_exc (callM_exc (aC_ok (vN_ok rfl) (aC1 (vN_ok rfl))) co)) (opA_ok (aC_ok cD_ok (aC1 cD_ok)) rfl) full_said)))
  · rw [decide_eq_false q] at t
    rw [if_neg q] at co
    have PF : P 3 (.list (F.map stD)) := .list fun x hx => by
      obtain ⟨s, _, rfl⟩ := List.mem_map.mp hx
      exact P_st s
    exact (ifO_f t).trans (ifN_f (tst_ok (op2_ok (callM_ok (aC_ok (vN_ok rfl) (aC1 (vN_ok rfl))) co) (vN_ok rfl) (ne_same PF))))
theorem second_check (hm : many = m) (h : Good many ss) (hR : GRw m ss.length N R) (n2 : ss.length ≤ 2) (hN : N ≤ 6) {D : List Spt} {LS : List (List Nat)} (I : KI m D LS (allC m ss R N)) (hl : LS.length ≤ 2000) (ak : m_all_known [chD many ss, RwD R] = if 500 < LS.length then .exc "Full" else .ok (KL (zF D LS))) (dc x3 x4 x5 x7 x9 x10 x11 x12 x13 x14 x15 x16 x17 x18 x19 : Sl) :
    letO 8 (ifO (andT (tst (op2 gEq (vN 8) (opA gLstD aN))) (tst (op2 gNe (HD.toldM (callM m_must_begin (aC (vN 2) (aC (vN 6) aN)))) (opA gTupD (aC (cD (.str "refused")) (aC (cD (.str "Nothing")) aN)))))) (retO (cD (.bool false))) nxO) (W17 dc (.sh (chD many ss)) x3 x4 x5 (.sh (RwD R)) x7 (.sh (.list ((dueL m ss.length (keepB m ss N R)).map stD))) x9 x10 x11 x12 x13 x14 x15 x16 x17 x18 x19) = .nx (W17 dc (.sh (chD many ss)) x3 x4 x5 (.sh (RwD R)) x7 (.sh (.list ((dueL m ss.length (keepB m ss N R)).map stD))) x9 x10 x11 x12 x13 x14 x15 x16 x17 x18 x19) := by
  obtain ⟨_, hlen, _⟩ := due_known hm h hR n2 I (p := keepB m ss N R) fun st _ => keep_iff I st
  have mo := must_ok hm h hR n2 hN I hl ak
  generalize dueL m ss.length (keepB m ss N R) = F at *
  refine (let_sh17 (d := .list (F.map stD)) rfl).trans ?_
  have PF : P 3 (.list (F.map stD)) := .list fun x hx => by
    obtain ⟨s, _, rfl⟩ := List.mem_map.mp hx
    exact P_st s
  have ge : gEq (.list (F.map stD)) (.list []) = some (.bool (decide (F = []))) := gEq_P PF (.list (k := 0) (xs := []) (fun x hx => by cases hx)) _ (by simp)
  have t := tst_ok (op2_ok (vN_ok (i := 8) (d := .list (F.map stD)) (ρ := W17 dc (.sh (chD many ss)) x3 x4 x5 (.sh (RwD R)) x7 (.sh (.list (F.map stD))) x9 x10 x11 x12 x13 x14 x15 x16 x17 x18 x19) rfl) (opA_ok (g := gLstD) aN_ok rfl) ge)
  by_cases q : F = []
  · rw [decide_eq_true q] at t
    have l0 : LS = [] := by
      rw [q] at hlen
      exact List.length_eq_zero_iff.mp hlen.symm
    rw [l0, if_neg (by simp), if_pos rfl] at mo
    exact ifN_f (andT_t t (tst_ok (op2_ok (told_exc (callM_exc (aC_ok (vN_ok rfl) (aC1 (vN_ok rfl))) mo)) (opA_ok (aC_ok cD_ok (aC1 cD_ok)) rfl) nothing_said)))
  · rw [decide_eq_false q] at t
    exact ifN_f (andT_f t)
theorem third_rest (hm : many = m) (h : Good many ss) (hR : GRw m ss.length N R) (n2 : ss.length ≤ 2) (hN : N ≤ 6) {D : List Spt} {LS : List (List Nat)} (I : KI m D LS (allC m ss R N)) (hl : LS.length ≤ 2000) (ak : m_all_known [chD many ss, RwD R] = if 500 < LS.length then .exc "Full" else .ok (KL (zF D LS))) (hq : 0 < (dueL m ss.length (keepB m ss N R)).length ∧ (dueL m ss.length (keepB m ss N R)).length < 501) (dc x3 x5 x7 x9 x10 x11 x12 x13 x14 x15 x16 x17 x18 x19 : Sl) (q16 : isOw (some x16) = false) (q18 : isOw (some x18) = false) (q19 : isOw (some x19) = false) :
    ∃ y12 y13 y14, (seqO (ownO 13 aN) (seqO (forO (opI rg1 (aC (vN 4) aN)) (setS 12) b_law_L3) (ifO (tst (op2 gNe (callM m_must_begin (aC (vN 2) (aC (vN 6) aN))) (brw false (opA gTuple (aC (vN 13) aN))))) (retO (cD (.bool false))) nxO))) (W17 dc (.sh (chD many ss)) x3 (.sh (natD ss.length)) x5 (.sh (RwD R)) x7 (.sh (.list ((dueL m ss.length (keepB m ss N R)).map stD))) x9 x10 x11 x12 x13 x14 x15 x16 x17 x18 x19) = .nx (W17 dc (.sh (chD many ss)) x3 (.sh (natD ss.length)) x5 (.sh (RwD R)) x7 (.sh (.list ((dueL m ss.length (keepB m ss N R)).map stD))) x9 x10 x11 y12 y13 y14 x15 x16 x17 x18 x19) := by
  have h4 := h.l4
  have m4 := h.m4
  obtain ⟨hmem, hlen, _⟩ := due_known hm h hR n2 I (p := keepB m ss N R) fun st _ => keep_iff I st
  have mo := must_ok hm h hR n2 hN I hl ak
  rw [mustD_congr hmem] at mo
  have hF : ∀ s ∈ dueL m ss.length (keepB m ss N R), GSt m ss.length s := fun s hs => ((dueL_mem h.l1 n2).mp hs).1
  generalize dueL m ss.length (keepB m ss N R) = F at *
  rw [if_neg (by omega), if_neg (by intro z; rw [z] at hlen; simp at hlen; rw [hlen] at hq; simp at hq)] at mo
  have hrg : rg1 [natD ss.length] = some ((List.range ss.length).map natD) := by
    have := rg1_int (r := ((ss.length : Nat) : Int)) (by omega) (by omega : ((ss.length : Nat) : Int) ≤ 1000000)
    rw [Int.toNat_natCast, rangeD_map] at this; exact this
  obtain ⟨y12, y14, r⟩ := own_rows hF (by omega) (by omega) dc (.sh (chD many ss)) x3 (.sh (natD ss.length)) x5 (.sh (RwD R)) x7 x9 x10 x11 x15 x16 x17 x18 x19 q16 q18 q19 (List.range ss.length) [] x12 x14 (fun i hi => List.mem_range.mp hi) (by rw [List.length_range]; simp; omega)
  rw [List.nil_append] at r
  refine ⟨y12, .ow (.list ((List.range ss.length).map (mRow F))), y14, ?_⟩
  have s1 : ownO 13 aN (W17 dc (.sh (chD many ss)) x3 (.sh (natD ss.length)) x5 (.sh (RwD R)) x7 (.sh (.list (F.map stD))) x9 x10 x11 x12 x13 x14 x15 x16 x17 x18 x19) = .nx (W17 dc (.sh (chD many ss)) x3 (.sh (natD ss.length)) x5 (.sh (RwD R)) x7 (.sh (.list (F.map stD))) x9 x10 x11 x12 (.ow (.list (([] : List Nat).map (mRow F)))) x14 x15 x16 x17 x18 x19) := (own_ok (ds := []) aN_ok (by simp)).trans rfl
  have s2 := (for_ok (g := setS 12) (f := b_law_L3) (opI_ok (g := rg1) (aC1 (vN_ok (i := 4) (ρ := W17 dc (.sh (chD many ss)) x3 (.sh (natD ss.length)) x5 (.sh (RwD R)) x7 (.sh (.list (F.map stD))) x9 x10 x11 x12 (.ow (.list (([] : List Nat).map (mRow F)))) x14 x15 x16 x17 x18 x19) rfl)) hrg)).trans r
  have im := imm_must ss.length F
  have PM : P 2 (mustD ss.length F) := .tuple fun x hx => by
    obtain ⟨i, _, rfl⟩ := List.mem_map.mp hx
    exact .tuple fun y hy => by
      obtain ⟨j, _, rfl⟩ := List.mem_map.mp hy
      unfold oneOf
      split
      · exact .int _
      · exact .none
  have eb : brw false (opA gTuple (aC (vN 13) aN)) (W17 dc (.sh (chD many ss)) x3 (.sh (natD ss.length)) x5 (.sh (RwD R)) x7 (.sh (.list (F.map stD))) x9 x10 x11 y12 (.ow (.list ((List.range ss.length).map (mRow F)))) y14 x15 x16 x17 x18 x19) = .ok (mustD ss.length F, W17 dc (.sh (chD many ss)) x3 (.sh (natD ss.length)) x5 (.sh (RwD R)) x7 (.sh (.list (F.map stD))) x9 x10 x11 y12 (.ow (.list ((List.range ss.length).map (mRow F)))) y14 x15 x16 x17 x18 x19) := brw_ok (d := mustD ss.length F) rfl (opA_ok (aC1 (vN_ok rfl)) rfl) im rfl
  rw [seq_nx s1, seq_nx s2]
  exact ifN_f (tst_ok (op2_ok (callM_ok (aC_ok (vN_ok rfl) (aC1 (vN_ok rfl))) mo) eb (ne_same PM)))
end
end G
set_option Elab.async false
set_option linter.all false
set_option maxRecDepth 100000
set_option maxHeartbeats 1000000
namespace G
open PySem DL
local instance : DL.TabCtx := ⟨[]⟩
section
variable {many : Int} {m : Nat} {ss : List Sg} {N : Nat}
def V17 (s : Int × Int) (C : PyData) (m n N : Nat) (R : PyData) (x15 x17 : Sl) : Rho := [.no, .ow (dcD s), .sh C, .sh (natD m), .sh (natD n), .sh (natD N), .sh R, .no, .no, .no, .no, .no, .no, .no, .no, x15, .no, x17, .no, .no]
theorem draw_row (h : Good many ss) (m0 : 0 < m) (m4 : m ≤ 4) (R0 : PyData) (t : Nat) (s : Int × Int) : ∃ (r : List Nat) (s' : Int × Int), opA gTuple (aC (lcM [17] (seqI (op2 gIx (vN 2) (cD (.int 1)))) (setS 17) yesT (callL 1 m_law_roll (aC (vN 3) aN))) aN) (V17 s (chD many ss) m ss.length N R0 (.sh (natD t)) .no) = .ok (rowD r, V17 s' (chD many ss) m ss.length N R0 (.sh (natD t)) .no) ∧ r.length = ss.length ∧ ∀ x ∈ r, x < m := by
  have h4 := h.l4
  have i1 : gIx (chD many ss) (.int 1) = some (.tuple (ss.map Sg.d)) := rfl
  obtain ⟨bs, s', h1, h2, h3⟩ := lc_dice (vs := [17]) (a := seqI (op2 gIx (vN 2) (cD (.int 1)))) (g := setS 17) (e := callL 1 m_law_roll (aC (vN 3) aN)) (fun s => V17 s (chD many ss) m ss.length N R0 (.sh (natD t)) .no) natD (fun b => b < m) (ss.map Sg.d) s (seqI_t (op2_ok (vN_ok rfl) cD_ok i1)) rfl (by rw [e_LIM, List.length_map]; omega) (fun s s' v hv => by
    rw [List.mem_singleton.mp hv]; rfl) fun d _ s => by
    obtain ⟨r, s', a, hr⟩ := roll_nat s (n := m) m0 (by omega)
    exact ⟨r, s', V17 s (chD many ss) m ss.length N R0 (.sh (natD t)) (.sh d), V17 s' (chD many ss) m ss.length N R0 (.sh (natD t)) (.sh d), rfl, callL_ok rfl (aC1 (vN_ok rfl)) a, hr, rfl⟩
  refine ⟨bs, s', opA_ok (aC1 h1) rfl, by rw [h2, List.length_map], h3⟩
theorem draw_rows (h : Good many ss) (m0 : 0 < m) (m4 : m ≤ 4) (hN : N ≤ 6) (R0 : PyData) (s : Int × Int) : ∃ (R : List (List Nat)) (s' : Int × Int), lcM [15] (opI rg1 (aC (vN 5) aN)) (setS 15) yesT (opA gTuple (aC (lcM [17] (seqI (op2 gIx (vN 2) (cD (.int 1)))) (setS 17) yesT (callL 1 m_law_roll (aC (vN 3) aN))) aN)) (V17 s (chD many ss) m ss.length N R0 .no .no) = .ok (RwD R, V17 s' (chD many ss) m ss.length N R0 .no .no) ∧ GRw m ss.length N R := by
  have hrg : rg1 [natD N] = some ((List.range N).map natD) := by
    have := rg1_int (r := ((N : Nat) : Int)) (by omega) (by omega : ((N : Nat) : Int) ≤ 1000000)
    rw [Int.toNat_natCast, rangeD_map] at this; exact this
  obtain ⟨bs, s', h1, h2, h3⟩ := lc_dice (vs := [15]) (a := opI rg1 (aC (vN 5) aN)) (g := setS 15) (e := opA gTuple (aC (lcM [17] (seqI (op2 gIx (vN 2) (cD (.int 1)))) (setS 17) yesT (callL 1 m_law_roll (aC (vN 3) aN))) aN)) (fun s => V17 s (chD many ss) m ss.length N R0 .no .no) rowD (fun r => r.length = ss.length ∧ ∀ x ∈ r, x < m) ((List.range N).map natD) s (opI_ok (aC1 (vN_ok rfl)) hrg) rfl (by rw [e_LIM, List.length_map, List.length_range]; omega) (fun s s' v hv => by
    rw [List.mem_singleton.mp hv]; rfl) fun d hd s => by
    obtain ⟨t, _, rfl⟩ := List.mem_map.mp hd
    obtain ⟨r, s', a, b⟩ := draw_row (N := N) h m0 m4 R0 t s
    exact ⟨r, s', V17 s (chD many ss) m ss.length N R0 (.sh (natD t)) .no, V17 s' (chD many ss) m ss.length N R0 (.sh (natD t)) .no, rfl, a, b, rfl⟩
  exact ⟨bs, s', h1, by rw [h2, List.length_map, List.length_range], h3⟩
end
end G
set_option Elab.async false
set_option linter.all false
set_option maxRecDepth 100000
set_option maxHeartbeats 1000000
namespace G
open PySem DL
local instance : DL.TabCtx := ⟨[]⟩
theorem mid17 {many : Int} {m : Nat} (hm : many = m) {ss : List Sg} (h : Good many ss) (n2 : ss.length ≤ 2) (s : Int × Int) : ∃ (R : List (List Nat)) (N : Nat) (s' : Int × Int), N ≤ 6 ∧ GRw m ss.length N R ∧
    (seqO (parO [3, 4, 5] (xSh (op2 gIx (vN 2) (cD (.int 0))) (xSh (opA gLen (aC (op2 gIx (vN 2) (cD (.int 1))) aN)) (xSh (callL 1 m_law_roll (aC (cD (.int 7)) aN)) xN)))) (seqO (asgO (callM m_law_sung (aC (vN 2) (aC (callL 1 m_law_any_standing (aC (vN 2) aN)) (aC (cD (.dict [])) (aC (vN 5) aN))))) (setS 6)) (ifO (tst (op2 gEq (callL 1 m_law_roll (aC (cD (.int 3)) aN)) (cD (.int 0)))) (asgO (lcM [15] (opI rg1 (aC (vN 5) aN)) (setS 15) yesT (opA gTuple (aC (lcM [17] (seqI (op2 gIx (vN 2) (cD (.int 1)))) (setS 17) yesT (callL 1 m_law_roll (aC (vN 3) aN))) aN))) (setS 6)) nxO))) (W17 (.ow (dcD s)) (.sh (chD many ss)) .no .no .no .no .no .no .no .no .no .no .no .no .no .no .no .no .no) = .nx (V17 s' (chD many ss) m ss.length N (RwD R) .no .no) := by
  have m2 := h.m2
  have m4 := h.m4
  have i0 : gIx (chD many ss) (.int 0) = some (natD m) := by show some (PyData.int many) = _; rw [hm]; try rfl
  have i1 : gIx (chD many ss) (.int 1) = some (.tuple (ss.map Sg.d)) := rfl
  have gl : gLen [.tuple (ss.map Sg.d)] = some (natD ss.length) := by rw [e_len_t, List.length_map]
  obtain ⟨N, s1, a1, hN⟩ := roll_nat s (n := 7) (by omega) (by omega)
  obtain ⟨st, s2, a2, hst⟩ := any_standing_ok hm m2 m4 ss h.l4 s1
  obtain ⟨t, s3, a3, ht⟩ := roll_nat s2 (n := 3) (by omega) (by omega)
  have sung := lsung0_ok hm h hst (N := ((N : Nat) : Int)) (by omega) (by omega)
  rw [Int.toNat_natCast] at sung
  have sung : m_law_sung [chD many ss, stD st, .dict [], natD N] = .ok (RwD (rowsV m ss st N)) := sung
  have g0 : GRw m ss.length N (rowsV m ss st N) := ⟨rowsV_len .., fun r hr => ⟨rowsV_row r hr, by
    obtain ⟨i, _, rfl⟩ := List.mem_map.mp hr
    intro x hx
    have := lrow_lt hm h (stAt_good hm h hst i) (ld := fun _ _ => none) (b := 0) (fun _ _ e => nomatch e) x
    have e : nxN m ss (stAt m ss st i) = lrow m ss (fun _ _ => none) 0 (stAt m ss st i) := by unfold nxN nxt lrow; rw [List.map_map]; rfl
    rw [e] at hx
    exact this hx⟩⟩
  have p1 : parO [3, 4, 5] (xSh (op2 gIx (vN 2) (cD (.int 0))) (xSh (opA gLen (aC (op2 gIx (vN 2) (cD (.int 1))) aN)) (xSh (callL 1 m_law_roll (aC (cD (.int 7)) aN)) xN))) (W17 (.ow (dcD s)) (.sh (chD many ss)) .no .no .no .no .no .no .no .no .no .no .no .no .no .no .no .no .no) = .nx (W17 (.ow (dcD s1)) (.sh (chD many ss)) (.sh (natD m)) (.sh (natD ss.length)) (.sh (natD N)) .no .no .no .no .no .no .no .no .no .no .no .no .no .no) := by
    have c1 : callL 1 m_law_roll (aC (cD (.int 7)) aN) (W17 (.ow (dcD s)) (.sh (chD many ss)) .no .no .no .no .no .no .no .no .no .no .no .no .no .no .no .no .no) = .ok (natD N, W17 (.ow (dcD s1)) (.sh (chD many ss)) .no .no .no .no .no .no .no .no .no .no .no .no .no .no .no .no .no) := callL_ok rfl (aC1 cD_ok) a1
    exact (par_ok (xSh_ok (op2_ok (vN_ok rfl) cD_ok i0) (xSh_ok (opA_ok (aC1 (op2_ok (vN_ok rfl) cD_ok i1)) gl) (xSh_ok c1 xN_ok))) rfl).trans rfl
  have c2 : callL 1 m_law_any_standing (aC (vN 2) aN) (W17 (.ow (dcD s1)) (.sh (chD many ss)) (.sh (natD m)) (.sh (natD ss.length)) (.sh (natD N)) .no .no .no .no .no .no .no .no .no .no .no .no .no .no) = .ok (stD st, W17 (.ow (dcD s2)) (.sh (chD many ss)) (.sh (natD m)) (.sh (natD ss.length)) (.sh (natD N)) .no .no .no .no .no .no .no .no .no .no .no .no .no .no) := callL_ok rfl (aC1 (vN_ok rfl)) a2
  have p2 : asgO (callM m_law_sung (aC (vN 2) (aC (callL 1 m_law_any_standing (aC (vN 2) aN)) (aC (cD (.dict [])) (aC (vN 5) aN))))) (setS 6) (W17 (.ow (dcD s1)) (.sh (chD many ss)) (.sh (natD m)) (.sh (natD ss.length)) (.sh (natD N)) .no .no .no .no .no .no .no .no .no .no .no .no .no .no) = .nx (V17 s2 (chD many ss) m ss.length N (RwD (rowsV m ss st N)) .no .no) := asg_gm (callM_ok (aC_ok (vN_ok rfl) (aC_ok c2 (aC_ok cD_ok (aC1 (vN_ok rfl))))) sung) rfl
  have c3 : callL 1 m_law_roll (aC (cD (.int 3)) aN) (V17 s2 (chD many ss) m ss.length N (RwD (rowsV m ss st N)) .no .no) = .ok (natD t, V17 s3 (chD many ss) m ss.length N (RwD (rowsV m ss st N)) .no .no) := callL_ok rfl (aC1 cD_ok) a3
  have t3 := tst_ok (op2_ok c3 (cD_ok (d := .int 0)) (gEq_nat t 0))
  by_cases q : t = 0
  · rw [decide_eq_true q] at t3
    obtain ⟨R, s4, lc, gr⟩ := draw_rows (m := m) (N := N) h (by omega) (by omega) (by omega) (RwD (rowsV m ss st N)) s3
    refine ⟨R, N, s4, by omega, gr, ?_⟩
    rw [seq_nx p1, seq_nx p2]
    exact (ifO_t t3).trans (asg_gm lc rfl)
  · rw [decide_eq_false q] at t3
    refine ⟨rowsV m ss st N, N, s3, by omega, g0, ?_⟩
    rw [seq_nx p1, seq_nx p2]
    exact ifN_f t3
end G
set_option Elab.async false
set_option linter.all false
set_option maxRecDepth 100000
set_option maxHeartbeats 1000000
namespace G
open PySem DL
local instance : DL.TabCtx := ⟨[]⟩
theorem seq3 {p1 p2 p3 K : SM} {ρ ρ' : Rho} (h : seqO p1 (seqO p2 p3) ρ = .nx ρ') : seqO p1 (seqO p2 (seqO p3 K)) ρ = K ρ' := by
  unfold seqO at h ⊢
  cases e1 : p1 ρ with
  | nx a =>
    rw [e1] at h
    simp only at h ⊢
    cases e2 : p2 a with
    | nx b =>
      rw [e2] at h
      simp only at h ⊢
      rw [h]
    | _ => rw [e2] at h; cases h
  | _ => rw [e1] at h; cases h
theorem body17 {many : Int} {m : Nat} (hm : many = m) {ss : List Sg} (h : Good many ss) (n2 : ss.length ≤ 2) (hB : m ^ (3 * ss.length) < 2000) (s : Int × Int) (K : SM) (hK : ∀ ρ, K ρ = seqO (parO [7, 8] (xSh (callM m_law_asked_spots (aC (vN 2) (aC (vN 5) aN))) (xOw (opA gLstD aN) xN))) (forO (seqI (callM m_law_all_tuples (aC (vN 3) (aC (op2 gMul (cD (.int 3)) (vN 4)) aN)))) (setS 9) b_law_L2) ρ) {R : List (List Nat)} {N : Nat} (hN : N ≤ 6) (gr : GRw m ss.length N R) : ∃ y9 y10 y11 y12, K (V17 s (chD many ss) m ss.length N (RwD R) .no .no) = .nx (W17 (.ow (dcD s)) (.sh (chD many ss)) (.sh (natD m)) (.sh (natD ss.length)) (.sh (natD N)) (.sh (RwD R)) (.sh (spL (askL m ss N))) (.ow (.list ((dueL m ss.length (keepB m ss N R)).map stD))) y9 y10 y11 y12 .no .no .no .no .no .no .no) := by
  have m4 := h.m4
  have l1 := h.l1
  have m2 := h.m2
  have ask := askd_ok hm h (N := N) (by omega)
  have tp := tups_ok hm m4 (N := ((3 * ss.length : Nat) : Int)) (by omega) (by omega) fun k hk => by
    rw [Int.toNat_natCast] at hk
    have := Nat.pow_le_pow_right (show 0 < m by omega) hk
    omega
  rw [Int.toNat_natCast, hm] at tp
  have tp : m_law_all_tuples [natD m, natD (3 * ss.length)] = _ := tp
  have mu : gMul (.int 3) (natD ss.length) = some (natD (3 * ss.length)) := gMul_nat (a := 3) (b := ss.length) (by omega)
  obtain ⟨y9, y10, y11, y12, qy, r⟩ := all_run (R := R) (N := N) hm h n2 (by omega) hB (.ow (dcD s)) (.sh (natD m)) .no .no .no .no .no .no .no rfl rfl .no .no .no .no rfl
  refine ⟨y9, y10, y11, y12, ?_⟩
  rw [hK]
  have s1 : parO [7, 8] (xSh (callM m_law_asked_spots (aC (vN 2) (aC (vN 5) aN))) (xOw (opA gLstD aN) xN)) (V17 s (chD many ss) m ss.length N (RwD R) .no .no) = .nx (W17 (.ow (dcD s)) (.sh (chD many ss)) (.sh (natD m)) (.sh (natD ss.length)) (.sh (natD N)) (.sh (RwD R)) (.sh (spL (askL m ss N))) (.ow (.list [])) .no .no .no .no .no .no .no .no .no .no .no) := (par_ok (xSh_ok (callM_ok (aC_ok (vN_ok rfl) (aC1 (vN_ok rfl))) ask) (xOw_ok (opA_ok aN_ok rfl) xN_ok)) rfl).trans rfl
  rw [seq_nx s1]
  exact (for_ok (seqI_l (callM_ok (aC_ok (vN_ok rfl) (aC1 (op2_ok cD_ok (vN_ok rfl) mu))) tp))).trans r
end G
set_option Elab.async false
set_option linter.all false
set_option maxRecDepth 100000
set_option maxHeartbeats 1000000
namespace G
open PySem DL
local instance : DL.TabCtx := ⟨[]⟩
theorem seq2 {p1 p2 K : SM} {ρ ρ' : Rho} (h : seqO p1 p2 ρ = .nx ρ') : seqO p1 (seqO p2 K) ρ = K ρ' := by
  unfold seqO at h ⊢
  cases e1 : p1 ρ with
  | nx a =>
    rw [e1] at h
    simp only at h ⊢
    rw [h]
  | _ => rw [e1] at h; cases h
theorem main17 {many : Int} {m : Nat} (hm : many = m) {ss : List Sg} (h : Good many ss) (n2 : ss.length ≤ 2) (hB : m ^ (3 * ss.length) < 2000) (s0 : Int × Int) {ρ0 : Rho}
    (hc : (seqO (asgO (callL 1 m_law_any_choir aN) (setS 2)) (ifO (tst (op2 gGt (opA gLen (aC (op2 gIx (vN 2) (cD (.int 1))) aN)) (cD (.int 2)))) (asgO (opA gTupD (aC (cD (.int 2)) (aC (callL 1 m_law_any_singers (aC (cD (.int 2)) (aC (opA gLstD (aC (cD (.str "ann")) (aC (cD (.str "bob")) aN))) aN))) aN))) (setS 2)) nxO)) ρ0 = .nx (W17 (.ow (dcD s0)) (.sh (chD many ss)) .no .no .no .no .no .no .no .no .no .no .no .no .no .no .no .no .no)) : ∃ ρ', b_law ρ0 = .nx ρ' ∧ ρ'.length = law_n := by
  obtain ⟨R, N, s1, hN, gr, mid⟩ := mid17 hm h n2 s0
  obtain ⟨D, LS, I, sm, ak⟩ := all_known_ok hm h gr n2 (by omega) hB
  obtain ⟨y9, y10, y11, y12, bd⟩ := body17 hm h n2 hB s1 _ (fun _ => rfl) hN gr
  have rf := refused_ok hm h
  have f1 := first_check hm h gr n2 hN I sm ak (.ow (dcD s1)) (.sh (natD m)) (.sh (natD ss.length)) (.sh (natD N)) (.sh (spL (askL m ss N))) y9 y10 y11 y12 .no .no .no .no .no .no .no
  have f2 := second_check hm h gr n2 hN I sm ak (.ow (dcD s1)) (.sh (natD m)) (.sh (natD ss.length)) (.sh (natD N)) (.sh (spL (askL m ss N))) y9 y10 y11 y12 .no .no .no .no .no .no .no
  rw [b_law, seq2 hc, seq3 mid, seq2 bd, seq_nx f1, seq_nx f2]
  have tr := third_rest hm h gr n2 hN I sm ak
  generalize dueL m ss.length (keepB m ss N R) = F at *
  have gl : gLen [.list (F.map stD)] = some (natD F.length) := by rw [e_len_l, List.length_map]
  have eb : brw false (opA gLen (aC (vN 8) aN)) (W17 (.ow (dcD s1)) (.sh (chD many ss)) (.sh (natD m)) (.sh (natD ss.length)) (.sh (natD N)) (.sh (RwD R)) (.sh (spL (askL m ss N))) (.sh (.list (F.map stD))) y9 y10 y11 y12 .no .no .no .no .no .no .no) = .ok (natD F.length, W17 (.ow (dcD s1)) (.sh (chD many ss)) (.sh (natD m)) (.sh (natD ss.length)) (.sh (natD N)) (.sh (RwD R)) (.sh (spL (askL m ss N))) (.sh (.list (F.map stD))) y9 y10 y11 y12 .no .no .no .no .no .no .no) := brw_ok rfl (opA_ok (aC1 (vN_ok rfl)) gl) rfl rfl
  have last : ∀ y12 y13 y14, ifO (notT (tst (callM m_law_rows_refused (aC (vN 2) (aC (vN 4) (aC (vN 3) aN)))))) (retO (cD (.bool false))) nxO (W17 (.ow (dcD s1)) (.sh (chD many ss)) (.sh (natD m)) (.sh (natD ss.length)) (.sh (natD N)) (.sh (RwD R)) (.sh (spL (askL m ss N))) (.sh (.list (F.map stD))) y9 y10 y11 y12 y13 y14 .no .no .no .no .no) = .nx (W17 (.ow (dcD s1)) (.sh (chD many ss)) (.sh (natD m)) (.sh (natD ss.length)) (.sh (natD N)) (.sh (RwD R)) (.sh (spL (askL m ss N))) (.sh (.list (F.map stD))) y9 y10 y11 y12 y13 y14 .no .no .no .no .no) := fun y12 y13 y14 => ifN_f (notT_ok (b := true) (tst_ok (callM_ok (aC_ok (vN_ok rfl) (aC_ok (vN_ok rfl) (aC1 (vN_ok rfl)))) rf)))
  have g1 : gLt (.int 0) (natD F.length) = some (.bool (decide (0 < F.length))) := by
    show some (PyData.bool (decide ((0 : Int) < ((F.length : Nat) : Int)))) = _
    rw [decide_eq_decide.mpr (by omega : (0 : Int) < ((F.length : Nat) : Int) ↔ 0 < F.length)]
  have g2 : gLt (natD F.length) (.int 501) = some (.bool (decide (F.length < 501))) := by
    show some (PyData.bool (decide (((F.length : Nat) : Int) < (501 : Int)))) = _
    rw [decide_eq_decide.mpr (by omega : ((F.length : Nat) : Int) < (501 : Int) ↔ F.length < 501)]
  by_cases q1 : 0 < F.length
  · rw [decide_eq_true q1] at g1
    have t := tst_ok (chain_ok (cD_ok (d := .int 0)) eb g1 (cD_ok (d := .int 501)) g2)
    by_cases q2 : F.length < 501
    · rw [decide_eq_true q2] at t
      obtain ⟨z12, z13, z14, r⟩ := tr ⟨q1, q2⟩ (.ow (dcD s1)) (.sh (natD m)) (.sh (natD N)) (.sh (spL (askL m ss N))) y9 y10 y11 y12 .no .no .no .no .no .no .no rfl rfl rfl
      rw [seq_nx ((ifO_t t).trans r), last]
      exact ⟨_, rfl, rfl⟩
    · rw [decide_eq_false q2] at t
      rw [seq_nx (ifN_f t), last]
      exact ⟨_, rfl, rfl⟩
  · rw [decide_eq_false q1] at g1
    have t := tst_ok (chain_f (g' := gLt) (c := cD (.int 501)) (cD_ok (d := .int 0)) eb g1)
    rw [seq_nx (ifN_f t), last]
    exact ⟨_, rfl, rfl⟩
end G
set_option Elab.async false
set_option linter.all false
set_option maxRecDepth 100000
set_option maxHeartbeats 1000000
namespace G
open PySem DL
local instance : DL.TabCtx := ⟨[]⟩
theorem k17_main (c : Int) : ∃ ρ', b_law (DL.init law_n law_di c) = .nx ρ' ∧ ρ'.length = law_n := by
  show ∃ ρ', b_law (W17 (.ow (dcD (c, 0))) .no .no .no .no .no .no .no .no .no .no .no .no .no .no .no .no .no .no) = .nx ρ' ∧ ρ'.length = law_n
  obtain ⟨many, ss, d1, a1, hG, hc, hz⟩ := any_choir_ok (c, 0)
  have m2 := hG.m2
  have m4 := hG.m4
  have l1 := hG.l1
  have s1 : asgO (callL 1 m_law_any_choir aN) (setS 2) (W17 (.ow (dcD (c, 0))) .no .no .no .no .no .no .no .no .no .no .no .no .no .no .no .no .no .no) = .nx (W17 (.ow (dcD d1)) (.sh (chD many ss)) .no .no .no .no .no .no .no .no .no .no .no .no .no .no .no .no .no) := asg_gm (callL_ok rfl aN_ok a1) rfl
  have i1 : gIx (chD many ss) (.int 1) = some (.tuple (ss.map Sg.d)) := rfl
  have gl : gLen [.tuple (ss.map Sg.d)] = some (natD ss.length) := by rw [e_len_t, List.length_map]
  have gt : gGt (natD ss.length) (.int 2) = some (.bool (decide (2 < ss.length))) := by
    show some (PyData.bool (decide ((2 : Int) < ((ss.length : Nat) : Int)))) = _
    rw [decide_eq_decide.mpr (by omega : (2 : Int) < ((ss.length : Nat) : Int) ↔ 2 < ss.length)]
  have t := tst_ok (op2_ok (opA_ok (aC1 (op2_ok (vN_ok (i := 2) (d := chD many ss) (ρ := W17 (.ow (dcD d1)) (.sh (chD many ss)) .no .no .no .no .no .no .no .no .no .no .no .no .no .no .no .no .no) rfl) (cD_ok (d := .int 1)) i1)) gl) (cD_ok (d := .int 2)) gt)
  by_cases q : 2 < ss.length
  · rw [decide_eq_true q] at t
    obtain ⟨tt, d2, a2, n1, n2⟩ := any_singers_ok (many := 2) (by decide) (by decide) (crew := ["ann", "bob"]) (by decide) (by decide) (fun x hx => by
      simp at hx
      rcases hx with rfl | rfl
      · exact wd_ann
      · exact wd_bob) d1
    have tl : tt.length = 2 := by have := congrArg List.length n1; rwa [List.length_map] at this
    have hT : Good 2 tt := ⟨by decide, by decide, by omega, by omega, by rw [n1]; exact n2, by rw [n1]; decide +kernel⟩
    have a2 : m_law_any_singers (dcD d1) [.int 2, .list [.str "ann", .str "bob"]] = .ok (.tuple (tt.map Sg.d), dcD d2) := a2
    have c2 : callL 1 m_law_any_singers (aC (cD (.int 2)) (aC (opA gLstD (aC (cD (.str "ann")) (aC (cD (.str "bob")) aN))) aN)) (W17 (.ow (dcD d1)) (.sh (chD many ss)) .no .no .no .no .no .no .no .no .no .no .no .no .no .no .no .no .no) = .ok (.tuple (tt.map Sg.d), W17 (.ow (dcD d2)) (.sh (chD many ss)) .no .no .no .no .no .no .no .no .no .no .no .no .no .no .no .no .no) := callL_ok rfl (aC_ok cD_ok (aC1 (opA_ok (aC_ok cD_ok (aC1 cD_ok)) rfl))) a2
    refine main17 (many := 2) (m := 2) rfl hT (by omega) (by rw [tl]; decide) d2 ?_
    rw [seq_nx s1]
    exact (ifO_t t).trans (asg_gm (opA_ok (aC_ok cD_ok (aC1 c2)) rfl) rfl)
  · rw [decide_eq_false q] at t
    obtain ⟨m, hm⟩ : ∃ m : Nat, many = m := ⟨many.toNat, by omega⟩
    have hB : m ^ (3 * ss.length) < 2000 := by
      have hmm : m = 2 ∧ ss.length ≤ 3 ∨ m = 3 ∧ ss.length ≤ 2 ∨ m = 4 ∧ ss.length = 1 := by omega
      rcases hmm with ⟨e, e2⟩ | ⟨e, e2⟩ | ⟨e, e2⟩
      · rw [e]; exact Nat.lt_of_le_of_lt (Nat.pow_le_pow_right (by omega) (by omega : 3 * ss.length ≤ 9)) (by decide)
      · rw [e]; exact Nat.lt_of_le_of_lt (Nat.pow_le_pow_right (by omega) (by omega : 3 * ss.length ≤ 6)) (by decide)
      · rw [e, e2]; decide
    refine main17 hm hG (by omega) hB d1 ?_
    rw [seq_nx s1]
    exact ifN_f t
end G
namespace Law
theorem main : ∀ c : Int, ∃ ρ', G.b_law (DL.init G.law_n G.law_di c) = .nx ρ' ∧ ρ'.length = G.law_n := G.k17_main
end Law
set_option maxHeartbeats 0
namespace Head
open PySem PySem.Spec PyProof.Rows L2 DL G
theorem facts {K : PySem.W.Frag} {h : Heap} {mg : Str → Option Value} (X : K.In h) (G : h.Ns mainGlobals mg) (c : He.SaysD fa fn K) : Tx K mg where
  f_is_whole := c.def_ 0 (d := d_is_whole) rfl
  g_is_whole := He.glo_ok X G (c.fact 0 (f := .glo "is_whole") rfl)
  f_is_word := c.def_ 1 (d := d_is_word) rfl
  g_is_word := He.glo_ok X G (c.fact 1 (f := .glo "is_word") rfl)
  f_rise := c.def_ 2 (d := d_rise) rfl
  g_rise := He.glo_ok X G (c.fact 2 (f := .glo "rise") rfl)
  f_are_lines := c.def_ 3 (d := d_are_lines) rfl
  g_are_lines := He.glo_ok X G (c.fact 3 (f := .glo "are_lines") rfl)
  f_is_ear := c.def_ 4 (d := d_is_ear) rfl
  g_is_ear := He.glo_ok X G (c.fact 4 (f := .glo "is_ear") rfl)
  f_are_ears := c.def_ 5 (d := d_are_ears) rfl
  g_are_ears := He.glo_ok X G (c.fact 5 (f := .glo "are_ears") rfl)
  f_places_for := c.def_ 6 (d := d_places_for) rfl
  g_places_for := He.glo_ok X G (c.fact 6 (f := .glo "places_for") rfl)
  f_is_singer := c.def_ 7 (d := d_is_singer) rfl
  g_is_singer := He.glo_ok X G (c.fact 7 (f := .glo "is_singer") rfl)
  f_is_choir := c.def_ 8 (d := d_is_choir) rfl
  g_is_choir := He.glo_ok X G (c.fact 8 (f := .glo "is_choir") rfl)
  f_need_choir := c.def_ 9 (d := d_need_choir) rfl
  g_need_choir := He.glo_ok X G (c.fact 9 (f := .glo "need_choir") rfl)
  f_all_names := c.def_ 10 (d := d_all_names) rfl
  g_all_names := He.glo_ok X G (c.fact 10 (f := .glo "all_names") rfl)
  f_number_of := c.def_ 11 (d := d_number_of) rfl
  g_number_of := He.glo_ok X G (c.fact 11 (f := .glo "number_of") rfl)
  f_place_of := c.def_ 12 (d := d_place_of) rfl
  g_place_of := He.glo_ok X G (c.fact 12 (f := .glo "place_of") rfl)
  f_do_count := c.def_ 13 (d := d_do_count) rfl
  g_do_count := He.glo_ok X G (c.fact 13 (f := .glo "do_count") rfl)
  f_ears_that_count := c.def_ 14 (d := d_ears_that_count) rfl
  g_ears_that_count := He.glo_ok X G (c.fact 14 (f := .glo "ears_that_count") rfl)
  f_lean_singer := c.def_ 15 (d := d_lean_singer) rfl
  g_lean_singer := He.glo_ok X G (c.fact 15 (f := .glo "lean_singer") rfl)
  f_leaned := c.def_ 16 (d := d_leaned) rfl
  g_leaned := He.glo_ok X G (c.fact 16 (f := .glo "leaned") rfl)
  f_lean := c.def_ 17 (d := d_lean) rfl
  g_lean := He.glo_ok X G (c.fact 17 (f := .glo "lean") rfl)
  f_need_first_rows := c.def_ 18 (d := d_need_first_rows) rfl
  g_need_first_rows := He.glo_ok X G (c.fact 18 (f := .glo "need_first_rows") rfl)
  f_spots_for := c.def_ 19 (d := d_spots_for) rfl
  g_spots_for := He.glo_ok X G (c.fact 19 (f := .glo "spots_for") rfl)
  f_lines_for := c.def_ 20 (d := d_lines_for) rfl
  g_lines_for := He.glo_ok X G (c.fact 20 (f := .glo "lines_for") rfl)
  f_widened := c.def_ 21 (d := d_widened) rfl
  g_widened := He.glo_ok X G (c.fact 21 (f := .glo "widened") rfl)
  f_all_known := c.def_ 22 (d := d_all_known) rfl
  g_all_known := He.glo_ok X G (c.fact 22 (f := .glo "all_known") rfl)
  f_as_standing := c.def_ 23 (d := d_as_standing) rfl
  g_as_standing := He.glo_ok X G (c.fact 23 (f := .glo "as_standing") rfl)
  f_could_begin := c.def_ 24 (d := d_could_begin) rfl
  g_could_begin := He.glo_ok X G (c.fact 24 (f := .glo "could_begin") rfl)
  f_must_begin := c.def_ 25 (d := d_must_begin) rfl
  g_must_begin := He.glo_ok X G (c.fact 25 (f := .glo "must_begin") rfl)
  f_law_cell := c.def_ 26 (d := d_law_cell) rfl
  g_law_cell := He.glo_ok X G (c.fact 26 (f := .glo "_law_cell") rfl)
  f_law_drawn := c.def_ 27 (d := d_law_drawn) rfl
  g_law_drawn := He.glo_ok X G (c.fact 27 (f := .glo "_law_drawn") rfl)
  f_law_roll := c.def_ 28 (d := d_law_roll) rfl
  g_law_roll := He.glo_ok X G (c.fact 28 (f := .glo "_law_roll") rfl)
  f_law_rounds := c.def_ 29 (d := d_law_rounds) rfl
  g_law_rounds := He.glo_ok X G (c.fact 29 (f := .glo "_law_rounds") rfl)
  f_law_term := c.def_ 30 (d := d_law_term) rfl
  g_law_term := He.glo_ok X G (c.fact 30 (f := .glo "_law_term") rfl)
  f_law_told := c.def_ 31 (d := d_law_told) rfl
  g_law_told := He.glo_ok X G (c.fact 31 (f := .glo "_law_told") rfl)
  f_law_any_singers := c.def_ 32 (d := d_law_any_singers) rfl
  g_law_any_singers := He.glo_ok X G (c.fact 32 (f := .glo "_law_any_singers") rfl)
  f_law_any_choir := c.def_ 33 (d := d_law_any_choir) rfl
  g_law_any_choir := He.glo_ok X G (c.fact 33 (f := .glo "_law_any_choir") rfl)
  f_law_any_standing := c.def_ 34 (d := d_law_any_standing) rfl
  g_law_any_standing := He.glo_ok X G (c.fact 34 (f := .glo "_law_any_standing") rfl)
  f_law_crew := c.def_ 35 (d := d_law_crew) rfl
  g_law_crew := He.glo_ok X G (c.fact 35 (f := .glo "_law_crew") rfl)
  f_law_heard := c.def_ 36 (d := d_law_heard) rfl
  g_law_heard := He.glo_ok X G (c.fact 36 (f := .glo "_law_heard") rfl)
  f_law_history := c.def_ 37 (d := d_law_history) rfl
  g_law_history := He.glo_ok X G (c.fact 37 (f := .glo "_law_history") rfl)
  f_law_tells := c.def_ 38 (d := d_law_tells) rfl
  g_law_tells := He.glo_ok X G (c.fact 38 (f := .glo "_law_tells") rfl)
  f_law_sung := c.def_ 39 (d := d_law_sung) rfl
  g_law_sung := He.glo_ok X G (c.fact 39 (f := .glo "_law_sung") rfl)
  f_law_all_tuples := c.def_ 40 (d := d_law_all_tuples) rfl
  g_law_all_tuples := He.glo_ok X G (c.fact 40 (f := .glo "_law_all_tuples") rfl)
  f_law_asked_spots := c.def_ 41 (d := d_law_asked_spots) rfl
  g_law_asked_spots := He.glo_ok X G (c.fact 41 (f := .glo "_law_asked_spots") rfl)
  f_law_rows_refused := c.def_ 42 (d := d_law_rows_refused) rfl
  g_law_rows_refused := He.glo_ok X G (c.fact 42 (f := .glo "_law_rows_refused") rfl)
  f_law := c.def_ 43 (d := d_law) rfl
  g_law := He.glo_ok X G (c.fact 43 (f := .glo "law") rfl)
  k_Clash := He.glo_ok X G (c.fact 52 (f := .glo "Clash") rfl)
  x_SongError := ⟨He.glo_ok X G (c.fact 44 (f := .glo "SongError") rfl), He.exc_ok (c.fact 56 (f := .exc "SongError") rfl)⟩
  x_BadChoir := ⟨He.glo_ok X G (c.fact 45 (f := .glo "BadChoir") rfl), He.exc_ok (c.fact 57 (f := .exc "BadChoir") rfl)⟩
  x_BadName := ⟨He.glo_ok X G (c.fact 46 (f := .glo "BadName") rfl), He.exc_ok (c.fact 58 (f := .exc "BadName") rfl)⟩
  x_BadStanding := ⟨He.glo_ok X G (c.fact 47 (f := .glo "BadStanding") rfl), He.exc_ok (c.fact 59 (f := .exc "BadStanding") rfl)⟩
  x_BadNumber := ⟨He.glo_ok X G (c.fact 48 (f := .glo "BadNumber") rfl), He.exc_ok (c.fact 60 (f := .exc "BadNumber") rfl)⟩
  x_BadRows := ⟨He.glo_ok X G (c.fact 49 (f := .glo "BadRows") rfl), He.exc_ok (c.fact 61 (f := .exc "BadRows") rfl)⟩
  x_BadLead := ⟨He.glo_ok X G (c.fact 50 (f := .glo "BadLead") rfl), He.exc_ok (c.fact 62 (f := .exc "BadLead") rfl)⟩
  x_BadWish := ⟨He.glo_ok X G (c.fact 51 (f := .glo "BadWish") rfl), He.exc_ok (c.fact 63 (f := .exc "BadWish") rfl)⟩
  x_Nothing := ⟨He.glo_ok X G (c.fact 53 (f := .glo "Nothing") rfl), He.exc_ok (c.fact 64 (f := .exc "Nothing") rfl)⟩
  x_Full := ⟨He.glo_ok X G (c.fact 54 (f := .glo "Full") rfl), He.exc_ok (c.fact 65 (f := .exc "Full") rfl)⟩
  x_BadText := ⟨He.glo_ok X G (c.fact 55 (f := .glo "BadText") rfl), He.exc_ok (c.fact 66 (f := .exc "BadText") rfl)⟩
  c_SMALL := He.str_ok X G (c.fact 67 (f := .str "SMALL" "abcdefghijklmnopqrstuvwxyz") rfl)
  c_MOST_BEGINNINGS := He.int_ok X G (c.fact 68 (f := .int "MOST_BEGINNINGS" 500) rfl)
  z_ValueError := He.free_ok X G (c.fact 69 (f := .free "ValueError") rfl)
  z_all := He.free_ok X G (c.fact 70 (f := .free "all") rfl)
  z_bool := He.free_ok X G (c.fact 71 (f := .free "bool") rfl)
  z_dict := He.free_ok X G (c.fact 72 (f := .free "dict") rfl)
  z_enumerate := He.free_ok X G (c.fact 73 (f := .free "enumerate") rfl)
  z_int := He.free_ok X G (c.fact 74 (f := .free "int") rfl)
  z_isinstance := He.free_ok X G (c.fact 75 (f := .free "isinstance") rfl)
  z_len := He.free_ok X G (c.fact 76 (f := .free "len") rfl)
  z_list := He.free_ok X G (c.fact 77 (f := .free "list") rfl)
  z_max := He.free_ok X G (c.fact 78 (f := .free "max") rfl)
  z_min := He.free_ok X G (c.fact 79 (f := .free "min") rfl)
  z_range := He.free_ok X G (c.fact 80 (f := .free "range") rfl)
  z_set := He.free_ok X G (c.fact 81 (f := .free "set") rfl)
  z_sorted := He.free_ok X G (c.fact 82 (f := .free "sorted") rfl)
  z_str := He.free_ok X G (c.fact 83 (f := .free "str") rfl)
  z_sum := He.free_ok X G (c.fact 84 (f := .free "sum") rfl)
  z_tuple := He.free_ok X G (c.fact 85 (f := .free "tuple") rfl)
  z_zip := He.free_ok X G (c.fact 86 (f := .free "zip") rfl)
end Head
open PySem PySem.W PySem.Calls PyProof.Rows
theorem PySem.Challenge.cw_hearsong_k17_whole_beginnings_holds : PySem.Challenge.rw_hearsong_k17_whole_beginnings.Holds := by
  w_on; o_law
  refine HandSHeadRun.head_any (r := OpenLaw.row PySem.Challenge.rw_hearsong_k17_whole_beginnings) (q := view (OpenLaw.row PySem.Challenge.rw_hearsong_k17_whole_beginnings).prog [62]) (H := Head.hk) (ob := Head.ob) (M := 9000) (loose := Head.loose) (d := HandSHeadRun.topDef (OpenLaw.row PySem.Challenge.rw_hearsong_k17_whole_beginnings).prog 62) (kwd := []) Head.ob_eq
    (by kernel_rfl) (fun s => by kernel_rfl) Head.run (by kernel_rfl) (by kernel_rfl) (by kernel_rfl) (by kernel_rfl) (by first | assumption | decide +kernel) (by decide +kernel) ⟨by kernel_rfl, by kernel_rfl, by kernel_rfl, by kernel_rfl, by kernel_rfl, by decide +kernel⟩ ?hw ?hc
  case hw => w_witness2
  case hc =>
    refine LamX.walk_ofTsE (l := PySem.Challenge.rw_hearsong_k17_whole_beginnings) (n := 63) (k := 11) (x := "script") (CX := fun w => L2N.CX (PySem.Challenge.rw_hearsong_k17_whole_beginnings).prog w) rfl (by decide) (by kernel_rfl) ⟨rfl, by decide, by decide⟩ ?F (fun _ _ _ _ _ z => HD.cx_no z)
    intro w mg fa h Y Gn hmg0
    obtain ⟨K, KX, c, LS, ex⟩ := Y
    have hmg : mg ("law" : PySem.Str) = some (.ref fa) := by
      have e : (HandSHeadRun.topDef (OpenLaw.row PySem.Challenge.rw_hearsong_k17_whole_beginnings).prog 62).name = ("law" : PySem.Str) := by kernel_rfl
      rw [← e]
      exact hmg0
    have T := Head.facts KX Gn c
    have e := hmg.symm.trans T.g_law
    cases e
    letI : DL.TabCtx := HD.ctxL K G.lams
    obtain ⟨fd, hF, hb⟩ := G.ok_law (P := (PySem.Challenge.rw_hearsong_k17_whole_beginnings).prog) (w := w) T (ex rfl) Law.main
    exact ⟨K, KX, fd, HD.codesL K G.lams, DL.spLaw ⟨K, w⟩, fun p hp => (LS.tab p hp).1, fun p hp => (LS.tab p hp).2.1, fun p hp => (LS.tab p hp).2.2, hb, fun H a ns hl _ hH hS => ⟨HD.tabs_start hH, a, ns, rfl, hS, hl, fun _ => rfl⟩, fun base _ _ TB => hF base (HD.lamKs LS TB)⟩
