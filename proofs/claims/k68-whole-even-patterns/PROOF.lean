import PyProof.Rows.All
import Wide.All
import OpenK.AllK
import Wide.FinOn
import HandS.TupAny
import HandS.TupMul
import PyProof.EqAt
import PyProof.EqKinds
import PyProof.TupleCall
import HandS.ForMost
import HandS.ForExc
import HandS.AnyAll
import HandS.Conv
import HandS.Rev
import HandS.IsInst
import HandS.Deep
import HandS.EndTab
import HandS.HeadWalk
import HandS.HeadHook4
import HandS.TryMany
import HandS.CallSlots
import HandS.Flow
import KE.KDictKeyed
import KE.KeyNested
import HandS.TupLe
import HandS.Style
import HandS.GenBody
import HandS.GenList
import HandS.RevTup
import KE.DataMinMax
import HandS.Codes
import HandS.HeadHook1
import HandS.HeadHook2
import HandS.SortOrd
import HandS.SortRule
import KE.SortData
import KE.DataCmp
import PyProof.MaxThree
import HandS.Defaults
import HandS.SetBool
import HandS.TupSets
import HandS.Strs
import KE.KDictCopyH
import HandS.Iter
import PyProof.Rows.ChunkLeaf
import HandS.DictComp
import PySem.Challenge.RW_tuneworks_k68_whole_even_patterns
import KE.KLam
import HandS.Head0
import HandS.Head1
import HandS.Head2
import HandS.HeadEnd
set_option Elab.async false
set_option linter.all false
set_option maxHeartbeats 4000000
set_option maxRecDepth 100000
namespace Pd
open PySem PySem.Spec PyProof.Rows L2 HT
/-! ### tuples whose object is known to have no dict -/
def NewT (o : Obj) : Prop := o.cls = .type "tuple" ∧ o.dict = none
def NT (K : PySem.W.Frag) (H : Hp) (a : Addr) (xs : List V) : Prop :=
  (∃ o, H a = some (.frz o (.tup xs)) ∧ NewT o) ∨
    ∃ (o : Obj) (its : Array Value) (n : Nat), K.lookup a = some o ∧ NewT o ∧ o.data = .seq its n ∧ its.size ≤ sizeLine ∧ Vals xs its.toList
theorem NT.sq {K : PySem.W.Frag} {H : Hp} {a : Addr} {xs : List V} (h : NT K H a xs) : SqT K H a xs := by
  rcases h with ⟨o, h, _⟩ | ⟨o, its, n, h1, h2, h3⟩
  · exact .inl (.inr ⟨o, h⟩)
  · exact .inr ⟨o, its, n, h1, h2.1, h3⟩
theorem NT.new {K : PySem.W.Frag} {H : Hp} {a : Addr} {xs : List V} {o : Obj} (h : NewT o) : NT K (upd H a (.frz o (.tup xs))) a xs := .inl ⟨o, upd_same, h⟩
section
variable {X : Cx}
theorem NT.obj {pins : List (Addr × Obj)} {σ : L2.St} {H : Hp} {s : Shared} {a : Addr} {xs : List V} (I : Inv X pins σ H s) (h : NT X.K H a xs) : ∃ o, s.heap.get? a = some o ∧ NewT o := by
  rcases h with ⟨o, h, n⟩ | ⟨o, its, n, h1, h2, h3⟩
  · obtain ⟨e, _⟩ := (show ObjOk X.prog X.w H s.heap a (.frz o (.tup xs)) from I.hok a _ h)
    exact ⟨o, e, n⟩
  · exact ⟨o, I.kIn a o h1, h2⟩
theorem laidT {pins : List (Addr × Obj)} {σ : L2.St} {H : Hp} {s : Shared} {xs : List V} {its : List Value} (I : Inv X pins σ H s) (r : Vals xs its) (hz : xs.length ≤ sizeLine) (t : Nat) :
    Inv X pins σ (upd H s.heap.objs.size (.frz { cls := .type "tuple", data := .seq its.toArray } (.tup xs))) { s with heap := s.heap.push { cls := .type "tuple", data := .seq its.toArray }, toks := t } :=
  I.laid (fun b o e => Heap.get?_push_of_some _ e) (Nat.le_refl _) ⟨Heap.get?_push_size _ rfl, hz, its, r, IsTup.new _ _⟩
/-- (e, ..) -/
def tTupF (t : TA) : TE := fun σ H Q => t σ H fun xs H1 => xs.length ≤ sizeLine ∧ ∀ p o, H1 p = none → NewT o → Q (.ref p) (upd H1 p (.frz o (.tup xs)))
theorem pe_tupF {es : List Expr} {x1} {pos : Pos} {t : TA} (h : PA X es t) : PE X (.Tuple es x1 pos) (tTupF t) := by
  refine ⟨fun pins s σ H Q I hq => ?_⟩
  refine wpAny_Tuple_spliced (thn (h.run pos pins s σ H _ I hq) fun us s1 ⟨xs, H1, I1, r, z, q⟩ => ⟨by rw [← r.length]; exact z, ?_⟩)
  exact ⟨.ref s1.heap.objs.size, _, laidT I1 r z s1.toks, rfl, q _ _ (I1.hok.fresh (Nat.le_refl _)) ⟨rfl, rfl⟩⟩
/-- t + u -/
def rCatF (K : PySem.W.Frag) : R2 := fun x y H Q => ∃ a b xs ys, x = .ref a ∧ y = .ref b ∧ SqT K H a xs ∧ SqT K H b ys ∧ xs.length + ys.length ≤ sizeLine ∧
  (xs = [] → Q (.ref b) H) ∧ (xs ≠ [] → ys = [] → Q (.ref a) H) ∧ (xs ≠ [] → ys ≠ [] → ∀ p o, H p = none → NewT o → Q (.ref p) (upd H p (.frz o (.tup (xs ++ ys)))))
theorem op_catF : OpR X (binaryOp .Add) (rCatF X.K) := by
  intro pins s σ H x y v u Q I rx ry h
  obtain ⟨a, b, xs, ys, rfl, rfl, ha, hb, hz, q0, q1, q2⟩ := h
  cases rx
  cases ry
  obtain ⟨its, r1, p1, _⟩ := I.tuple ha
  obtain ⟨its2, r2, p2, _⟩ := I.tuple hb
  by_cases hx : xs = []
  · subst hx
    cases r1
    exact cat_tup0 p1 p2 ⟨.ref b, H, I, rfl, q0 rfl⟩
  · refine HT.cat_tup p1 p2 (fun z => hx (r1.nil_iff.mp z)) (fun z => ⟨.ref a, H, I, rfl, q1 hx (r2.nil_iff.mp z)⟩) (fun z => ?_) (by rw [← r1.length, ← r2.length]; exact hz)
    exact ⟨.ref s.heap.objs.size, _, laidT I (r1.append r2) (by rw [List.length_append]; exact hz) s.toks, rfl, q2 hx (fun w => z (r2.nil_iff.mpr w)) _ _ (I.hok.fresh (Nat.le_refl _)) ⟨rfl, rfl⟩⟩
/-- t[lo:hi]: the whole of it is t itself -/
def rSlF (K : PySem.W.Frag) : V → Option Int → Option Int → Hp → VK → Prop := fun x lo hi H Q => ∃ a xs, x = .ref a ∧ SqT K H a xs ∧
  (HT.sIx xs.length 0 lo = 0 ∧ HT.sIx xs.length xs.length hi = xs.length → Q (.ref a) H) ∧ (¬ (HT.sIx xs.length 0 lo = 0 ∧ HT.sIx xs.length xs.length hi = xs.length) → ∀ p o, H p = none → NewT o → Q (.ref p) (upd H p (.frz o (.tup (cutV xs lo hi)))))
theorem sl_tupF : SlR X (rSlF X.K) := by
  intro pins s σ H x v vl vu lo hi sl Q I rx hs pl pu h
  obtain ⟨a, xs, rfl, hx, q1, q2⟩ := h
  cases rx
  obtain ⟨its, r, ht, hz⟩ := I.tuple hx
  have hlen : its.toArray.size = xs.length := by rw [List.size_toArray]; exact r.length.symm
  refine ⟨"tuple", _, PyProof.Rows.slot_tuple_getitem.lookup, ht.typeIs, ?_⟩
  by_cases hw : HT.sIx xs.length 0 lo = 0 ∧ HT.sIx xs.length xs.length hi = xs.length
  · exact getItem_tuple_whole ht hs pl pu (by rw [hlen]; exact hw) ⟨.ref a, H, I, rfl, q1 hw⟩
  · refine HT.getItem_tuple_cut ht hs pl pu (by rw [hlen]; exact hw) ?_ (by rw [hlen]; exact hz)
    rw [hlen]
    exact ⟨.ref s.heap.objs.size, _, laidT I ((r.drop (HT.sIx xs.length 0 lo)).take (HT.sIx xs.length xs.length hi - HT.sIx xs.length 0 lo)) (Nat.le_trans (cutV_length xs lo hi) hz) s.toks, rfl, q2 hw _ _ (I.hok.fresh (Nat.le_refl _)) ⟨rfl, rfl⟩⟩
/-- tuple(list), tuple(tuple) -/
theorem call_tupleF : CallR X (.type "tuple") (fun xs H Q => ∃ p ys, xs = [.ref p] ∧ ((SqL X.K H p ys ∧ ∀ l o, H l = none → NewT o → Q (.ref l) (upd H l (.frz o (.tup ys)))) ∨ (SqT X.K H p ys ∧ Q (.ref p) H))) := by
  intro pins s σ H xs us Q I r h
  obtain ⟨p, ys, rfl, h⟩ := h
  obtain rfl := Vals.ref1 r
  rcases h with ⟨hq, q⟩ | ⟨hq, q⟩
  · obtain ⟨its, r', pl, hz⟩ := I.list hq
    have hlen := r'.length
    have hsl := sizeLine_eq
    refine call_tuple_list pl.isList (fun h' kp => ?_) (by simp only [List.size_toArray] <;> omega)
    have I1 : Inv X pins σ H { s with heap := h' } := I.kept (t' := s.toks) kp
    exact ⟨.ref h'.objs.size, _, laidT I1 r' hz s.toks, rfl, q _ _ (I1.hok.fresh (Nat.le_refl _)) ⟨rfl, rfl⟩⟩
  · obtain ⟨its, r', pl, hz⟩ := I.tuple hq
    exact call_tuple_same pl ⟨.ref p, H, I, rfl, q⟩
end
end Pd
namespace Pd
open PySem PySem.Spec PyProof.Rows L2
abbrev D := PyData
/-! ### results -/
inductive R (α : Type) where
  | ok (a : α)
  | exc (c : Str)
  | stuck
def R.bind {α β : Type} (r : R α) (f : α → R β) : R β := match r with
  | .ok a => f a
  | .exc c => .exc c
  | .stuck => .stuck
instance : Monad R where
  pure := R.ok
  bind := R.bind
@[simp] theorem R.bind_ok {α β : Type} (a : α) (f : α → R β) : R.bind (.ok a) f = f a := rfl
@[simp] theorem R.bind_exc {α β : Type} (c : Str) (f : α → R β) : R.bind (.exc c) f = .exc c := rfl
@[simp] theorem R.bind_stuck {α β : Type} (f : α → R β) : R.bind .stuck f = .stuck := rfl
def Sat {α : Type} (r : R α) (P : α → Prop) (E : Str → Prop) : Prop := match r with
  | .ok a => P a
  | .exc c => E c
  | .stuck => False
theorem Sat.bind {α β : Type} {r : R α} {f : α → R β} {P : β → Prop} {E : Str → Prop} (h : Sat (r.bind f) P E) : Sat r (fun a => Sat (f a) P E) E := by
  cases r <;> exact h
theorem Sat.mono {α : Type} {r : R α} {P P' : α → Prop} {E E' : Str → Prop} (h : Sat r P E) (hP : ∀ a, P a → P' a) (hE : ∀ c, E c → E' c) : Sat r P' E' := by
  cases r with
  | ok a => exact hP _ h
  | exc c => exact hE _ h
  | stuck => exact h
/-- where no exception comes -/
def NoX {α : Type} (r : R α) : Prop := ∀ c, r ≠ .exc c
theorem Sat.nox {α : Type} {r : R α} {P : α → Prop} {E : Str → Prop} (h : Sat r P E) (n : NoX r) : Sat r P (fun _ => False) := by
  cases r with
  | ok a => exact h
  | exc c => exact (n c rfl).elim
  | stuck => exact h
/-! ### environments -/
abbrev Env := List (Option D)
def Env.get (ρ : Env) (i : Nat) : R D := match ρ[i]? with
  | some (some d) => .ok d
  | _ => .stuck
def Env.put (ρ : Env) (i : Nat) (d : D) : Env := List.set ρ i (some d)
def Env.del (ρ : Env) (i : Nat) : Env := List.set ρ i none
/-! ### what stands for a datum; its footprint: the lists and dicts that may be changed -/
def RoL (K : PySem.W.Frag) (H : Hp) (a : Addr) (xs : List V) : Prop :=
  (∃ o, H a = some (.frz o (.lst xs))) ∨
    ∃ (o : Obj) (its : Array Value) (n : Nat), K.lookup a = some o ∧ o.cls = .type "list" ∧ o.dict = none ∧ o.data = .seq its n ∧ its.size ≤ sizeLine ∧ Vals xs its.toList
theorem RoL.sq {K : PySem.W.Frag} {H : Hp} {a : Addr} {xs : List V} (h : RoL K H a xs) : SqL K H a xs := by
  rcases h with h | h
  · exact .inl (.inr h)
  · exact .inr h
def keyD : Key → D
  | .inl i => .int i
  | .inr x => .str x
/-! keys that are tuples -/
mutual
def isKey : D → Bool
  | .none => true
  | .int _ => true
  | .tuple xs => isKeyL xs
  | .bool _ => false
  | .str _ => false
  | .list _ => false
  | .dict _ => false
def isKeyL : List D → Bool
  | [] => true
  | x :: xs => isKey x && isKeyL xs
end
mutual
def toK : D → NestedKey
  | .int i => .num i
  | .tuple xs => .tup (toKs xs)
  | .none => .none
  | .bool _ => .none
  | .str _ => .none
  | .list _ => .none
  | .dict _ => .none
def toKs : List D → List NestedKey
  | [] => []
  | x :: xs => toK x :: toKs xs
end
def okKey (d : D) : Bool := isKey d && decide ((toK d).depth ≤ 8)
mutual
inductive Ky (K : PySem.W.Frag) (H : Hp) : V → D → Prop
  | non : Ky K H .non .none
  | int (i : Int) : Ky K H (.int i) (.int i)
  | tup {a : Addr} {xs : List V} {ds : List D} : NT K H a xs → KyL K H xs ds → Ky K H (.ref a) (.tuple ds)
inductive KyL (K : PySem.W.Frag) (H : Hp) : List V → List D → Prop
  | nil : KyL K H [] []
  | cons {v : V} {vs : List V} {d : D} {ds : List D} : Ky K H v d → KyL K H vs ds → KyL K H (v :: vs) (d :: ds)
end
mutual
theorem Ky.mono {K : PySem.W.Frag} {H H' : Hp} (m : ∀ a xs, NT K H a xs → NT K H' a xs) {v : V} {d : D} : Ky K H v d → Ky K H' v d
  | .non => .non
  | .int i => .int i
  | .tup h r => .tup (m _ _ h) (KyL.mono m r)
theorem KyL.mono {K : PySem.W.Frag} {H H' : Hp} (m : ∀ a xs, NT K H a xs → NT K H' a xs) {vs : List V} {ds : List D} : KyL K H vs ds → KyL K H' vs ds
  | .nil => .nil
  | .cons r t => .cons (Ky.mono m r) (KyL.mono m t)
end
/-- the entries of a dict whose keys are tuples, as its object has them -/
def PrX (p : NestedKey × Addr × V) (q : NestedKey × Addr × Value) : Prop := p.1 = q.1 ∧ p.2.1 = q.2.1 ∧ RelV p.2.2 q.2.2
def entX (w : World) (x : NestedKey × Addr × Value) : DictEntry := ⟨x.1.hash w, .ref x.2.1, x.2.2⟩
def dkx (a : Addr) (L : List (NestedKey × Addr × V)) : HO := .ext fun h => (a == sysModules) = false ∧ L.length ≤ sizeLine ∧ ∃ xs : List (NestedKey × Addr × Value), Paired PrX L xs ∧ (xs.map (·.1)).Nodup ∧
  ∃ o es ep, h.get? a = some o ∧ o.ExactDict ∧ o.data = .dict es ep ∧ ∀ w : World, es.toList = xs.map (entX w)
inductive KyX (K : PySem.W.Frag) (H : Hp) : List (NestedKey × Addr × V) → List D → Prop
  | nil : KyX K H [] []
  | cons {b : Addr} {e : List D} {v : V} {L : List (NestedKey × Addr × V)} {ks : List D} : Ky K H (.ref b) (.tuple e) → okKey (.tuple e) = true → KyX K H L ks → KyX K H ((toK (.tuple e), b, v) :: L) (.tuple e :: ks)
theorem KyX.mono {K : PySem.W.Frag} {H H' : Hp} (m : ∀ a xs, NT K H a xs → NT K H' a xs) : ∀ {L : List (NestedKey × Addr × V)} {ks : List D}, KyX K H L ks → KyX K H' L ks
  | _, _, .nil => .nil
  | _, _, .cons r e t => .cons (r.mono m) e (KyX.mono m t)
mutual
inductive Rp (K : PySem.W.Frag) (H : Hp) : V → D → List Addr → Prop
  | non : Rp K H .non .none []
  | bl (b : Bool) : Rp K H (.bl b) (.bool b) []
  | int (i : Int) : Rp K H (.int i) (.int i) []
  | str (x : Str) : Rp K H (.str x) (.str x) []
  | tup {a : Addr} {xs : List V} {ds : List D} {F : List Addr} : NT K H a xs → RpL K H xs ds F → Rp K H (.ref a) (.tuple ds) F
  | lst {a : Addr} {xs : List V} {ds : List D} {F : List Addr} : H a = some (.lst xs) → RpL K H xs ds F → Rp K H (.ref a) (.list ds) (a :: F)
  | ro {a : Addr} {xs : List V} {ds : List D} : RoL K H a xs → RpL K H xs ds [] → Rp K H (.ref a) (.dict [(.none, .tuple ds)]) []
  | dK {a : Addr} {kvs : List (Key × V)} {ks vs : List D} {F : List Addr} : H a = some (.dK kvs) → ks = kvs.map (fun p => keyD p.1) → RpL K H (kvs.map (·.2)) vs F → Rp K H (.ref a) (.dict (ks.zip vs)) (a :: F)
  | dT {a : Addr} {kvs : List (NestedKey × Addr × V)} {ks vs : List D} {F : List Addr} : H a = some (dkx a kvs) → KyX K H kvs ks → RpL K H (kvs.map fun p => p.2.2) vs F → Rp K H (.ref a) (.dict (ks.zip vs)) (a :: F)
inductive RpL (K : PySem.W.Frag) (H : Hp) : List V → List D → List Addr → Prop
  | nil : RpL K H [] [] []
  | cons {v : V} {vs : List V} {d : D} {ds : List D} {F G : List Addr} : Rp K H v d F → RpL K H vs ds G → RpL K H (v :: vs) (d :: ds) (F ++ G)
end
/-- H' is H, grown; the tables of code at T may have grown -/
structure Ex (T : List Addr) (H H' : Hp) : Prop where
  kept : ∀ a o, H a = some o → (∀ ps, o ≠ .tbl ps) → H' a = some o
  dom : ∀ a, H a ≠ none → H' a ≠ none
  tab : (∀ P ∈ T, GxR.TabG H P) → ∀ P ∈ T, GxR.TabG H' P
theorem Ex.refl {T : List Addr} {H : Hp} : Ex T H H := ⟨fun _ _ h _ => h, fun _ h => h, fun h => h⟩
theorem Ex.trans {T : List Addr} {H H1 H2 : Hp} (x : Ex T H H1) (y : Ex T H1 H2) : Ex T H H2 :=
  ⟨fun a o h n => y.kept a o (x.kept a o h n) n, fun a h => y.dom a (x.dom a h), fun h => y.tab (x.tab h)⟩
theorem Ex.free {T : List Addr} {H H' : Hp} (x : Ex T H H') {a : Addr} (h : H' a = none) : H a = none := by
  cases q : H a with
  | none => rfl
  | some o => exact absurd h (x.dom a (by rw [q]; simp))
theorem Ex.sqT {T : List Addr} {K : PySem.W.Frag} {H H' : Hp} (x : Ex T H H') {a : Addr} {xs : List V} (h : SqT K H a xs) : SqT K H' a xs := by
  rcases h with (h | ⟨o, h⟩) | h
  · exact .inl (.inl (x.kept _ _ h (fun _ z => by cases z)))
  · exact .inl (.inr ⟨o, x.kept _ _ h (fun _ z => by cases z)⟩)
  · exact .inr h
theorem Ex.nt {T : List Addr} {K : PySem.W.Frag} {H H' : Hp} (x : Ex T H H') {a : Addr} {xs : List V} (h : NT K H a xs) : NT K H' a xs := by
  rcases h with ⟨o, h, n⟩ | h
  · exact .inl ⟨o, x.kept _ _ h (fun _ z => by cases z), n⟩
  · exact .inr h
theorem Ex.roL {T : List Addr} {K : PySem.W.Frag} {H H' : Hp} (x : Ex T H H') {a : Addr} {xs : List V} (h : RoL K H a xs) : RoL K H' a xs := by
  rcases h with ⟨o, h⟩ | h
  · exact .inl ⟨o, x.kept _ _ h (fun _ z => by cases z)⟩
  · exact .inr h
/-- a new object, that is no table -/
theorem Ex.new {T : List Addr} {H : Hp} {p : Addr} {o : HO} (h : H p = none) : Ex T H (upd H p o) := by
  have key : ∀ a u, H a = some u → upd H p o a = some u := fun a u e => by rw [upd_ne (ne_of_none e h)]; exact e
  refine ⟨fun a u e _ => key a u e, fun a e => ?_, fun t P hP => ?_⟩
  · cases q : H a with
    | none => exact absurd q e
    | some u => rw [key a u q]; simp
  · obtain ⟨ps, h1, h2⟩ := t P hP
    exact ⟨ps, key _ _ h1, h2⟩
/-- kept: the tuples, the frozen things, the objects at S -/
structure Kp (H H' : Hp) (S : List Addr) : Prop where
  tup : ∀ a xs, H a = some (.tup xs) → H' a = some (.tup xs)
  frz : ∀ a o u, H a = some (.frz o u) → H' a = some (.frz o u)
  at_ : ∀ a ∈ S, H' a = H a
theorem Kp.sub {H H' : Hp} {S S' : List Addr} (k : Kp H H' S) (h : ∀ a ∈ S', a ∈ S) : Kp H H' S' := ⟨k.tup, k.frz, fun a ha => k.at_ a (h a ha)⟩
theorem Kp.sqT {K : PySem.W.Frag} {H H' : Hp} {S : List Addr} (x : Kp H H' S) {a : Addr} {xs : List V} (h : SqT K H a xs) : SqT K H' a xs := by
  rcases h with (h | ⟨o, h⟩) | h
  · exact .inl (.inl (x.tup _ _ h))
  · exact .inl (.inr ⟨o, x.frz _ _ _ h⟩)
  · exact .inr h
theorem Kp.nt {K : PySem.W.Frag} {H H' : Hp} {S : List Addr} (x : Kp H H' S) {a : Addr} {xs : List V} (h : NT K H a xs) : NT K H' a xs := by
  rcases h with ⟨o, h, n⟩ | h
  · exact .inl ⟨o, x.frz _ _ _ h, n⟩
  · exact .inr h
theorem Kp.roL {K : PySem.W.Frag} {H H' : Hp} {S : List Addr} (x : Kp H H' S) {a : Addr} {xs : List V} (h : RoL K H a xs) : RoL K H' a xs := by
  rcases h with ⟨o, h⟩ | h
  · exact .inl ⟨o, x.frz _ _ _ h⟩
  · exact .inr h
section
variable {K : PySem.W.Frag} {H H' : Hp} {T : List Addr}
mutual
theorem Rp.kp {v : V} {d : D} {F : List Addr} : Rp K H v d F → Kp H H' F → Rp K H' v d F
  | .non, _ => .non
  | .bl b, _ => .bl b
  | .int i, _ => .int i
  | .str x, _ => .str x
  | .tup h r, k => .tup (k.nt h) (RpL.kp r k)
  | .lst h r, k => .lst ((k.at_ _ List.mem_cons_self).trans h) (RpL.kp r (k.sub fun _ m => List.mem_cons_of_mem _ m))
  | .ro h r, k => .ro (k.roL h) (RpL.kp r k)
  | .dK h e r, k => .dK ((k.at_ _ List.mem_cons_self).trans h) e (RpL.kp r (k.sub fun _ m => List.mem_cons_of_mem _ m))
  | .dT h e r, k => .dT ((k.at_ _ List.mem_cons_self).trans h) (e.mono fun _ _ z => k.nt z) (RpL.kp r (k.sub fun _ m => List.mem_cons_of_mem _ m))
theorem RpL.kp {vs : List V} {ds : List D} {F : List Addr} : RpL K H vs ds F → Kp H H' F → RpL K H' vs ds F
  | .nil, _ => .nil
  | .cons r t, k => .cons (Rp.kp r (k.sub fun _ m => List.mem_append_left _ m)) (RpL.kp t (k.sub fun _ m => List.mem_append_right _ m))
end
mutual
theorem Rp.ex {v : V} {d : D} {F : List Addr} : Rp K H v d F → Ex T H H' → Rp K H' v d F
  | .non, _ => .non
  | .bl b, _ => .bl b
  | .int i, _ => .int i
  | .str x, _ => .str x
  | .tup h r, k => .tup (k.nt h) (RpL.ex r k)
  | .lst h r, k => .lst (k.kept _ _ h (fun _ z => by cases z)) (RpL.ex r k)
  | .ro h r, k => .ro (k.roL h) (RpL.ex r k)
  | .dK h e r, k => .dK (k.kept _ _ h (fun _ z => by cases z)) e (RpL.ex r k)
  | .dT h e r, k => .dT (k.kept _ _ h (fun _ z => by cases z)) (e.mono fun _ _ z => k.nt z) (RpL.ex r k)
theorem RpL.ex {vs : List V} {ds : List D} {F : List Addr} : RpL K H vs ds F → Ex T H H' → RpL K H' vs ds F
  | .nil, _ => .nil
  | .cons r t, k => .cons (Rp.ex r k) (RpL.ex t k)
end
mutual
theorem Rp.dom {v : V} {d : D} {F : List Addr} : Rp K H v d F → ∀ b ∈ F, ∃ o, H b = some o ∧ ∀ ps, o ≠ .tbl ps
  | .non, _, h => by cases h
  | .bl _, _, h => by cases h
  | .int _, _, h => by cases h
  | .str _, _, h => by cases h
  | .tup _ r, b, h => RpL.dom r b h
  | .lst e r, b, h => by
    rcases List.mem_cons.mp h with z | z
    · rw [z]; exact ⟨_, e, fun _ q => by cases q⟩
    · exact RpL.dom r b z
  | .ro _ _, _, h => by cases h
  | .dK e _ r, b, h => by
    rcases List.mem_cons.mp h with z | z
    · rw [z]; exact ⟨_, e, fun _ q => by cases q⟩
    · exact RpL.dom r b z
  | .dT e _ r, b, h => by
    rcases List.mem_cons.mp h with z | z
    · rw [z]; exact ⟨_, e, fun _ q => by cases q⟩
    · exact RpL.dom r b z
theorem RpL.dom {vs : List V} {ds : List D} {F : List Addr} : RpL K H vs ds F → ∀ b ∈ F, ∃ o, H b = some o ∧ ∀ ps, o ≠ .tbl ps
  | .nil, _, h => by cases h
  | .cons r t, b, h => by
    rcases List.mem_append.mp h with z | z
    · exact Rp.dom r b z
    · exact RpL.dom t b z
end
end
theorem RpL.append {K : PySem.W.Frag} {H : Hp} : ∀ {xs ys : List V} {ds es : List D} {F G : List Addr}, RpL K H xs ds F → RpL K H ys es G → RpL K H (xs ++ ys) (ds ++ es) (F ++ G)
  | _, _, _, _, _, _, .nil, s => s
  | _, _, _, _, _, _, .cons r t, s => by rw [List.append_assoc]; exact .cons r (RpL.append t s)
theorem RpL.get {K : PySem.W.Frag} {H : Hp} : ∀ {xs : List V} {ds : List D} {F : List Addr} {i : Nat} {d : D}, RpL K H xs ds F → ds[i]? = some d → ∃ v G, xs[i]? = some v ∧ Rp K H v d G ∧ List.Sublist G F
  | _, _, _, _, _, .nil, h => by simp at h
  | _, _, _, 0, _, .cons r t, h => by
    simp at h; subst h
    exact ⟨_, _, rfl, r, List.sublist_append_left _ _⟩
  | _, _, _, i + 1, _, .cons r t, h => by
    obtain ⟨v, G, e, r', s⟩ := RpL.get (i := i) t (by simpa using h)
    exact ⟨v, G, by simpa using e, r', s.trans (List.sublist_append_right _ _)⟩
theorem RpL.drop {K : PySem.W.Frag} {H : Hp} : ∀ (n : Nat) {xs : List V} {ds : List D} {F : List Addr}, RpL K H xs ds F → ∃ G, RpL K H (xs.drop n) (ds.drop n) G ∧ List.Sublist G F
  | 0, _, _, _, r => ⟨_, r, List.Sublist.refl _⟩
  | _ + 1, _, _, _, .nil => ⟨[], .nil, List.Sublist.refl _⟩
  | n + 1, _, _, _, .cons r t => by
    obtain ⟨G, r', s⟩ := RpL.drop n t
    exact ⟨G, r', s.trans (List.sublist_append_right _ _)⟩
theorem RpL.take {K : PySem.W.Frag} {H : Hp} : ∀ (n : Nat) {xs : List V} {ds : List D} {F : List Addr}, RpL K H xs ds F → ∃ G, RpL K H (xs.take n) (ds.take n) G ∧ List.Sublist G F
  | 0, _, _, _, _ => ⟨[], .nil, List.nil_sublist _⟩
  | _ + 1, _, _, _, .nil => ⟨[], .nil, List.Sublist.refl _⟩
  | n + 1, _, _, _, .cons r t => by
    obtain ⟨G, r', s⟩ := RpL.take n t
    exact ⟨_, .cons r r', List.Sublist.append (List.Sublist.refl _) s⟩
theorem RpL.length {K : PySem.W.Frag} {H : Hp} : ∀ {vs : List V} {ds : List D} {F : List Addr}, RpL K H vs ds F → vs.length = ds.length
  | _, _, _, .nil => rfl
  | _, _, _, .cons _ t => congrArg Nat.succ (RpL.length t)
/-! data without lists and dicts -/
mutual
def imm : D → Bool
  | .none | .bool _ | .int _ | .str _ => true
  | .tuple xs => immL xs
  | .list _ | .dict _ => false
def immL : List D → Bool
  | [] => true
  | x :: xs => imm x && immL xs
end
section
variable {K : PySem.W.Frag} {H : Hp}
mutual
theorem Rp.imm {v : V} {d : D} {F : List Addr} : Rp K H v d F → Pd.imm d = true → F = []
  | .non, _ => rfl
  | .bl _, _ => rfl
  | .int _, _ => rfl
  | .str _, _ => rfl
  | .tup _ r, h => RpL.imm r (by unfold Pd.imm at h; exact h)
  | .lst _ _, h => by unfold Pd.imm at h; cases h
  | .ro _ _, h => by unfold Pd.imm at h; cases h
  | .dK _ _ _, h => by unfold Pd.imm at h; cases h
  | .dT _ _ _, h => by unfold Pd.imm at h; cases h
theorem RpL.imm {vs : List V} {ds : List D} {F : List Addr} : RpL K H vs ds F → Pd.immL ds = true → F = []
  | .nil, _ => rfl
  | .cons r t, h => by
    unfold Pd.immL at h
    obtain ⟨h1, h2⟩ := Bool.and_eq_true_iff.mp h
    rw [Rp.imm r h1, RpL.imm t h2]; rfl
end
mutual
theorem Rp.dp {v : V} {d : D} {F : List Addr} : Rp K H v d F → d.canLay0 = true → Dp K H v d
  | .non, _ => .non
  | .bl b, _ => .bl b
  | .int i, _ => .int i
  | .str x, _ => .str x
  | .tup h r, z => .tup h.sq (RpL.dp r (by simpa [PyData.canLay0] using z))
  | .lst h r, z => .lst (.inl (.inl h)) (RpL.dp r (by simpa [PyData.canLay0] using z))
  | .ro _ _, z => by simp [PyData.canLay0] at z
  | .dK _ _ _, z => by simp [PyData.canLay0] at z
  | .dT _ _ _, z => by simp [PyData.canLay0] at z
theorem RpL.dp {vs : List V} {ds : List D} {F : List Addr} : RpL K H vs ds F → PyData.canLayAll0 ds = true → DpAll K H vs ds
  | .nil, _ => .nil
  | .cons r t, z => by
    rw [PyData.canLayAll0] at z
    obtain ⟨z1, z2⟩ := Bool.and_eq_true_iff.mp z
    exact .cons (Rp.dp r z1) (RpL.dp t z2)
end
end
end Pd
namespace Pd
open PySem PySem.Spec PyProof.Rows L2
/-! ### the state of a body -/
/-- a region that a loop walks: it stays as it is in HG; so: the owned slot that it belongs to -/
structure Lk where
  F : List Addr
  HG : Hp
  so : Option Nat
/-- what is fixed in a body: the tables of code, the heap at the entry, the regions that are walked -/
structure Cc where
  T : List Addr
  H0 : Hp
  lk : List Lk
  ls : List Nat
abbrev Own := List Nat
/-- a walked region stays -/
structure LkOk (ls : List Nat) (O : Own) (H : Hp) (Fs : Nat → List Addr) (l : Lk) : Prop where
  st : ∀ i, l.so = some i → i ∈ ls
  kp : Kp l.HG H l.F
  dom : ∀ b ∈ l.F, ∃ o, l.HG b = some o ∧ ∀ ps, o ≠ .tbl ps
  sep : ∀ i, i ∈ O → l.so ≠ some i → ∀ b ∈ Fs i, b ∉ l.F
structure ER (K : PySem.W.Frag) (C : Cc) (O : Own) (H : Hp) (σ : L2.St) (ρ : Env) (Fs : Nat → List Addr) : Prop where
  len : σ.length = ρ.length
  rep : ∀ i d, ρ[i]? = some (some d) → ∃ v, σ[i]? = some (some v) ∧ Rp K H v d (Fs i)
  emp : ∀ i, (∀ d, ρ[i]? ≠ some (some d)) → Fs i = []
  own : ∀ i, i ∈ O → (Fs i).Nodup ∧ (∀ b ∈ Fs i, C.H0 b = none) ∧ ∀ j, j ≠ i → ∀ b ∈ Fs i, b ∉ Fs j
  tab : ∀ P ∈ C.T, GxR.TabG H P
  ext : Ex C.T C.H0 H
  lks : ∀ l ∈ C.lk, LkOk C.ls O H Fs l
section
variable {K : PySem.W.Frag} {C : Cc} {O O' : Own} {H H' : Hp} {σ : L2.St} {ρ : Env} {Fs : Nat → List Addr}
theorem ER.dom (e : ER K C O H σ ρ Fs) (i : Nat) : ∀ b ∈ Fs i, ∃ o, H b = some o ∧ ∀ ps, o ≠ .tbl ps := fun b hb => by
  by_cases h : ∃ d, ρ[i]? = some (some d)
  · obtain ⟨d, h⟩ := h
    obtain ⟨v, _, r⟩ := e.rep i d h
    exact r.dom b hb
  · rw [e.emp i fun d z => h ⟨d, z⟩] at hb
    cases hb
theorem Ex.kp {T : List Addr} {H H' : Hp} {S : List Addr} (x : Ex T H H') (h : ∀ b ∈ S, ∃ o, H b = some o ∧ ∀ ps, o ≠ .tbl ps) : Kp H H' S :=
  ⟨fun a xs e => x.kept _ _ e (fun _ z => by cases z), fun a o u e => x.kept _ _ e (fun _ z => by cases z), fun a ha => by
    obtain ⟨o, e, n⟩ := h a ha
    rw [e]; exact x.kept _ _ e n⟩
theorem Kp.trans {H H1 H2 : Hp} {S : List Addr} (a : Kp H H1 S) (b : Kp H1 H2 S) : Kp H H2 S :=
  ⟨fun x xs e => b.tup _ _ (a.tup _ _ e), fun x o u e => b.frz _ _ _ (a.frz _ _ _ e), fun x hx => (b.at_ x hx).trans (a.at_ x hx)⟩
theorem ER.ex (e : ER K C O H σ ρ Fs) (x : Ex C.T H H') : ER K C O H' σ ρ Fs where
  len := e.len
  rep := fun i d h => by
    obtain ⟨v, h1, r⟩ := e.rep i d h
    exact ⟨v, h1, r.ex x⟩
  emp := e.emp
  own := e.own
  tab := x.tab e.tab
  ext := e.ext.trans x
  lks := fun l hm => by
    obtain ⟨st, k, d, s⟩ := e.lks l hm
    refine ⟨st, k.trans (x.kp fun b hb => ?_), d, s⟩
    obtain ⟨o, q, n⟩ := d b hb
    exact ⟨o, (k.at_ b hb).trans q, n⟩
theorem ER.less (e : ER K C O H σ ρ Fs) (h : ∀ i, i ∈ O' → i ∈ O) : ER K C O' H σ ρ Fs where
  len := e.len
  rep := e.rep
  emp := e.emp
  own := fun i hi => e.own i (h i hi)
  tab := e.tab
  ext := e.ext
  lks := fun l hm => ⟨(e.lks l hm).st, (e.lks l hm).kp, (e.lks l hm).dom, fun i hi => (e.lks l hm).sep i (h i hi)⟩
end
/-! ### kinds of values: 0 fresh, 1 not of owned slots, 2 any -/
structure KdOk (k : Nat) (O : Own) (H : Hp) (Fs : Nat → List Addr) (F : List Addr) : Prop where
  fr : k = 0 → F.Nodup ∧ ∀ b ∈ F, H b = none
  un : k = 1 → ∀ b ∈ F, H b = none ∨ ∃ j, j ∉ O ∧ b ∈ Fs j
section
variable {T : List Addr} {O : Own} {H H1 H2 : Hp} {Fs : Nat → List Addr} {F F1 F2 : List Addr} {k k1 k2 : Nat}
theorem KdOk.le1 (h : KdOk k O H Fs F) (hk : k ≤ 1) : ∀ b ∈ F, H b = none ∨ ∃ j, j ∉ O ∧ b ∈ Fs j := by
  rcases Nat.lt_or_eq_of_le hk with z | z
  · intro b hb
    exact .inl ((h.fr (by omega)).2 b hb)
  · exact h.un z
theorem KdOk.nil : KdOk k O H Fs [] := ⟨fun _ => ⟨List.nodup_nil, fun b h => (nomatch h)⟩, fun _ b h => (nomatch h)⟩
theorem KdOk.any (h : 2 ≤ k) : KdOk k O H Fs F := ⟨fun z => by omega, fun z => by omega⟩
/-- what F1 and F2 are put together to -/
structure Mix (H : Hp) (F1 F2 F : List Addr) : Prop where
  mem : ∀ b ∈ F, b ∈ F1 ∨ b ∈ F2 ∨ H b = none
  nd : (F1 ++ F2).Nodup → F.Nodup
theorem Mix.nil : Mix H F1 F2 [] := ⟨fun b h => (nomatch h), fun _ => List.nodup_nil⟩
theorem Mix.app : Mix H F1 F2 (F1 ++ F2) := ⟨fun b h => (List.mem_append.mp h).elim .inl fun z => .inr (.inl z), fun h => h⟩
theorem KdOk.mix {F' : List Addr} (h1 : KdOk k1 O H Fs F1) (h2 : KdOk k2 O H1 Fs F2) (x : Ex T H H1) (x2 : Ex T H1 H2) (d : ∀ b ∈ F1, H1 b ≠ none) (m : Mix H2 F1 F2 F') : KdOk (max k1 k2) O H Fs F' where
  fr := fun z => by
    obtain ⟨n1, f1⟩ := h1.fr (by omega)
    obtain ⟨n2, f2⟩ := h2.fr (by omega)
    refine ⟨m.nd (List.nodup_append.mpr ⟨n1, n2, fun a ha b hb e => ?_⟩), fun b hb => ?_⟩
    · subst e
      exact d a ha (f2 a hb)
    · rcases m.mem b hb with q | q | q
      · exact f1 b q
      · exact x.free (f2 b q)
      · exact x.free (x2.free q)
  un := fun z => by
    have g1 := h1.le1 (by omega)
    have g2 := h2.le1 (by omega)
    intro b hb
    rcases m.mem b hb with q | q | q
    · exact g1 b q
    · rcases g2 b q with w | w
      · exact .inl (x.free w)
      · exact .inr w
    · exact .inl (x.free (x2.free q))
theorem KdOk.back (h : KdOk k O H1 Fs F) (x : Ex T H H1) : KdOk k O H Fs F :=
  ⟨fun z => ⟨(h.fr z).1, fun b hb => x.free ((h.fr z).2 b hb)⟩, fun z b hb => (h.un z b hb).imp x.free id⟩
theorem KdOk.up (h : KdOk k O H Fs F) (hk : k ≤ k2) : KdOk k2 O H Fs F :=
  ⟨fun z => h.fr (by omega), fun z => h.le1 (by omega)⟩
/-- of one thing another is made -/
structure Mix1 (H : Hp) (F1 F : List Addr) : Prop where
  mem : ∀ b ∈ F, b ∈ F1 ∨ H b = none
  nd : F1.Nodup → F.Nodup
theorem Mix1.nil : Mix1 H F1 [] := ⟨fun b h => (nomatch h), fun _ => List.nodup_nil⟩
theorem Mix1.refl : Mix1 H F1 F1 := ⟨fun b h => .inl h, fun h => h⟩
theorem KdOk.mix1 {F' : List Addr} (h1 : KdOk k O H Fs F1) (x : Ex T H H1) (m : Mix1 H1 F1 F') : KdOk k O H Fs F' where
  fr := fun z => by
    obtain ⟨n1, f1⟩ := h1.fr z
    exact ⟨m.nd n1, fun b hb => (m.mem b hb).elim (f1 b) x.free⟩
  un := fun z b hb => (m.mem b hb).elim (h1.un z b) fun q => .inl (x.free q)
end
/-! ### readings -/
abbrev EF := Env → R D
section
variable (K : PySem.W.Frag) (C : Cc) (W : WX) (O : Own)
abbrev WOk (σ : L2.St) (H : Hp) (c : Str) : Prop := ∀ H', Ex C.T H H' → W (.ref (He.ga K c)) none σ H'
def tD (k : Nat) (F : EF) : TE := fun σ H Q => ∃ ρ Fs, ER K C O H σ ρ Fs ∧
  Sat (F ρ) (fun d => ∀ v H' F', Ex C.T H H' → Rp K H' v d F' → KdOk k O H Fs F' → Q v H') (WOk K C W σ H)
def tL (k : Nat) (F : Env → R (List D)) : TA := fun σ H Q => ∃ ρ Fs, ER K C O H σ ρ Fs ∧
  Sat (F ρ) (fun d => ∀ v H' F', Ex C.T H H' → RpL K H' v d F' → KdOk k O H Fs F' → Q v H') (WOk K C W σ H)
def tB (F : Env → R Bool) : TT := fun σ H Q => ∃ ρ Fs, ER K C O H σ ρ Fs ∧
  Sat (F ρ) (fun b => ∀ H', Ex C.T H H' → Q b H') (WOk K C W σ H)
end
abbrev EV (X : Cx) (C : Cc) (W : WX) (O : Own) (e : Expr) (k : Nat) (F : EF) : Prop := PE X e (tD X.K C W O k F)
abbrev AV (X : Cx) (C : Cc) (W : WX) (O : Own) (es : List Expr) (k : Nat) (F : Env → R (List D)) : Prop := PA X es (tL X.K C W O k F)
abbrev TV (X : Cx) (C : Cc) (W : WX) (O : Own) (e : Expr) (F : Env → R Bool) : Prop := PT X e (tB X.K C W O F)
theorem _root_.L2.PE.imp {X : Cx} {e : Expr} {t t' : TE} (h : PE X e t) (i : ∀ σ H Q, t' σ H Q → t σ H Q) : PE X e t' := ⟨fun pins s σ H Q I q => h.run pins s σ H Q I (i _ _ _ q)⟩
theorem _root_.L2.PA.imp {X : Cx} {e : List Expr} {t t' : TA} (h : PA X e t) (i : ∀ σ H Q, t' σ H Q → t σ H Q) : PA X e t' := ⟨fun pos pins s σ H Q I q => h.run pos pins s σ H Q I (i _ _ _ q)⟩
theorem _root_.L2.PT.imp {X : Cx} {e : Expr} {t t' : TT} (h : PT X e t) (i : ∀ σ H Q, t' σ H Q → t σ H Q) : PT X e t' := ⟨fun pins s σ H Q I q => h.run pins s σ H Q I (i _ _ _ q)⟩
theorem _root_.L2.PW.imp {X : Cx} {e : Expr} {t t' : TT} (h : PW X e t) (i : ∀ σ H Q, t' σ H Q → t σ H Q) : PW X e t' := ⟨fun wh pins s σ H Q I q => h.run wh pins s σ H Q I (i _ _ _ q)⟩
theorem _root_.L2.PS.imp {X : Cx} {e : Stmt} {t t' : TS} (h : PS X e t) (i : ∀ D σ H, t' D σ H → t D σ H) : PS X e t' := ⟨fun pins s σ H Q I q => h.run pins s σ H Q I (i _ _ _ q)⟩
theorem _root_.L2.PSs.imp {X : Cx} {e : List Stmt} {t t' : TS} (h : PSs X e t) (i : ∀ D σ H, t' D σ H → t D σ H) : PSs X e t' := ⟨fun pins s σ H Q I q => h.run pins s σ H Q I (i _ _ _ q)⟩
section
variable {K : PySem.W.Frag} {C : Cc} {W : WX} {O : Own} {σ : L2.St} {H H' : Hp}
theorem WOk.later {c : Str} (h : WOk K C W σ H c) (x : Ex C.T H H') : WOk K C W σ H' c := fun H2 x2 => h H2 (x.trans x2)
/-- a reading, then the rest -/
theorem tD.step {k : Nat} {F : EF} {ρ : Env} {Fs : Nat → List Addr} {Q : VK} {P : D → Prop} (er : ER K C O H σ ρ Fs) (h : Sat (F ρ) P (WOk K C W σ H))
    (hq : ∀ d v H' F', P d → ER K C O H' σ ρ Fs → Ex C.T H H' → Rp K H' v d F' → KdOk k O H Fs F' → Q v H') : tD K C W O k F σ H Q :=
  ⟨ρ, Fs, er, h.mono (fun d p v H' F' x r kd => hq d v H' F' p (er.ex x) x r kd) fun _ z => z⟩
theorem tL.step {k : Nat} {F : Env → R (List D)} {ρ : Env} {Fs : Nat → List Addr} {Q : List V → Hp → Prop} {P : List D → Prop} (er : ER K C O H σ ρ Fs) (h : Sat (F ρ) P (WOk K C W σ H))
    (hq : ∀ d v H' F', P d → ER K C O H' σ ρ Fs → Ex C.T H H' → RpL K H' v d F' → KdOk k O H Fs F' → Q v H') : tL K C W O k F σ H Q :=
  ⟨ρ, Fs, er, h.mono (fun d p v H' F' x r kd => hq d v H' F' p (er.ex x) x r kd) fun _ z => z⟩
theorem tB.step {F : Env → R Bool} {ρ : Env} {Fs : Nat → List Addr} {Q : Bool → Hp → Prop} {P : Bool → Prop} (er : ER K C O H σ ρ Fs) (h : Sat (F ρ) P (WOk K C W σ H))
    (hq : ∀ d H', P d → ER K C O H' σ ρ Fs → Ex C.T H H' → Q d H') : tB K C W O F σ H Q :=
  ⟨ρ, Fs, er, h.mono (fun d p H' x => hq d H' p (er.ex x) x) fun _ z => z⟩
theorem Sat.later {α : Type} {r : R α} {P : α → Prop} (h : Sat r P (WOk K C W σ H)) (x : Ex C.T H H') : Sat r P (WOk K C W σ H') := h.mono (fun _ p => p) fun _ z => z.later x
end
/-! ### names and constants -/
section
variable {X : Cx} {C : Cc} {W : WX} {O : Own} {pos : Pos}
def eName (i : Nat) : EF := fun ρ => ρ.get i
def eC (d : D) : EF := fun _ => .ok d
theorem get_sat {ρ : Env} {i : Nat} {P : D → Prop} {E : Str → Prop} (h : Sat (ρ.get i) P E) : ∃ d, ρ[i]? = some (some d) ∧ P d := by
  unfold Env.get at h
  split at h
  · rename_i d e
    exact ⟨d, e, h⟩
  · exact h.elim
theorem ev_name {e : Expr} (i : Nat) (h : PE X e (tVar i)) : EV X C W O e 2 (eName i) := h.imp fun σ H Q ⟨ρ, Fs, er, q⟩ => by
  obtain ⟨d, e, p⟩ := get_sat q
  obtain ⟨v, h1, r⟩ := er.rep i d e
  exact ⟨v, h1, p v H _ .refl r (.any (Nat.le_refl _))⟩
theorem ev_nameU {e : Expr} (i : Nat) (h : PE X e (tVar i)) (ho : i ∉ O := by decide) : EV X C W O e 1 (eName i) := h.imp fun σ H Q ⟨ρ, Fs, er, q⟩ => by
  obtain ⟨d, e, p⟩ := get_sat q
  obtain ⟨v, h1, r⟩ := er.rep i d e
  exact ⟨v, h1, p v H _ .refl r ⟨fun z => (by omega), fun _ b hb => .inr ⟨i, ho, hb⟩⟩⟩
theorem ev_c {e : Expr} {v : V} {d : D} (h : PE X e (tC v)) (r : ∀ H, Rp X.K H v d []) : EV X C W O e 0 (eC d) := h.imp fun σ H Q ⟨ρ, Fs, er, q⟩ => q v H [] .refl (r H) .nil
theorem ev_int {i : Int} {j : Nat} : EV X C W O (.Constant (.int i) j pos) 0 (eC (.int i)) := ev_c pe_int fun _ => .int i
theorem ev_bl {i : Bool} {j : Nat} : EV X C W O (.Constant (.bool i) j pos) 0 (eC (.bool i)) := ev_c pe_bl fun _ => .bl i
theorem ev_str {i : Str} {j : Nat} : EV X C W O (.Constant (.str i) j pos) 0 (eC (.str i)) := ev_c pe_str fun _ => .str i
theorem ev_non {j : Nat} : EV X C W O (.Constant .none j pos) 0 (eC .none) := ev_c pe_non fun _ => .non
/-- nothing of it is changeable -/
def eImm (F : EF) : EF := fun ρ => (F ρ).bind fun d => if imm d = true then .ok d else .stuck
theorem ev_imm {e : Expr} {k : Nat} {F : EF} (h : EV X C W O e k F) : EV X C W O e 0 (eImm F) := h.imp fun σ H Q ⟨ρ, Fs, er, q⟩ => by
  refine tD.step er (Sat.bind q) fun d v H' F' p er' x r kd => ?_
  by_cases hi : imm d = true
  · rw [if_pos hi] at p
    have e := r.imm hi
    subst e
    exact p v H' [] x r .nil
  · rw [if_neg hi] at p
    exact p.elim
theorem ev_up {e : Expr} {k k' : Nat} {F : EF} (h : EV X C W O e k F) (hk : k ≤ k') : EV X C W O e k' F := h.imp fun σ H Q ⟨ρ, Fs, er, q⟩ =>
  tD.step er q fun d v H' F' p er' x r kd => p v H' F' x r (kd.up hk)
end
/-! ### operators of two values -/
structure BinD (X : Cx) (T : List Addr) (f : Value → Value → Sem Value) (g : D → D → R D) : Prop where
  nox : ∀ x y, NoX (g x y)
  ex : ∃ r : R2, OpR X f r ∧ ∀ H x y dx dy Fx Fy Q, Rp X.K H x dx Fx → Rp X.K H y dy Fy →
    Sat (g dx dy) (fun d => ∀ v H' F', Ex T H H' → Rp X.K H' v d F' → Mix H Fx Fy F' → Q v H') (fun _ => False) → r x y H Q
def eBin (g : D → D → R D) (F G : EF) : EF := fun ρ => (F ρ).bind fun x => (G ρ).bind fun y => g x y
section
variable {X : Cx} {C : Cc} {W : WX} {O : Own} {pos : Pos} {a b : Expr} {F G : EF} {ka kb : Nat}
theorem bin_read {r : R2} {g : D → D → R D} (nox : ∀ x y, NoX (g x y)) (hr : ∀ H x y dx dy Fx Fy Q, Rp X.K H x dx Fx → Rp X.K H y dy Fy →
    Sat (g dx dy) (fun d => ∀ v H' F', Ex C.T H H' → Rp X.K H' v d F' → Mix H Fx Fy F' → Q v H') (fun _ => False) → r x y H Q) (σ : L2.St) (H : Hp) (Q : VK) (h : tD X.K C W O (max ka kb) (eBin g F G) σ H Q) :
    tOp r (tD X.K C W O ka F) (tD X.K C W O kb G) σ H Q := by
  obtain ⟨ρ, Fs, er, q⟩ := h
  refine tD.step er (Sat.bind q) fun d v H1 F1 p er1 x1 r1 kd1 => ?_
  refine tD.step er1 (Sat.later (Sat.bind p) x1) fun d2 v2 H2 F2 p2 er2 x2 r2 kd2 => ?_
  refine hr H2 v v2 d d2 F1 F2 Q (r1.ex x2) r2 ((p2.nox (nox _ _)).mono (fun d3 p3 v3 H3 F3 x3 r3 m => ?_) fun _ z => z)
  refine p3 v3 H3 F3 ((x1.trans x2).trans x3) r3 (kd1.mix kd2 x1 x2 (fun b hb => ?_) m)
  obtain ⟨o, e, _⟩ := r1.dom b hb
  rw [e]; simp
theorem ev_bin {op : Operator} {g : D → D → R D} {k : Nat} (B : BinD X C.T (binaryOp op) g) (ha : EV X C W O a ka F) (hb : EV X C W O b kb G) (hk : max ka kb = k := by rfl) : EV X C W O (.BinOp a op b pos) k (eBin g F G) := by
  subst hk
  obtain ⟨nox, r, ho, hr⟩ := B
  exact (pe_op ho ha hb).imp (bin_read nox hr)
theorem ev_cmp {op : CmpOp} {g : D → D → R D} (B : BinD X C.T (compareOp op) g) (ha : EV X C W O a ka F) (hb : EV X C W O b kb G) (hm : behindInMarks op b = false) {k : Nat} (hk : max ka kb = k := by rfl) : EV X C W O (.Compare a [op] [b] pos) k (eBin g F G) := by
  subst hk
  obtain ⟨nox, r, ho, hr⟩ := B
  exact (pe_cmpR ho ha hb hm).imp (bin_read nox hr)
/-- a value that is True or False, as a test -/
def bBin (g : D → D → R D) (F G : EF) : Env → R Bool := fun ρ => (F ρ).bind fun x => (G ρ).bind fun y => (g x y).bind fun z => match z with
  | .bool c => .ok c
  | _ => .stuck
theorem tv_cmp {op : CmpOp} {g : D → D → R D} (B : BinD X C.T (compareOp op) g) (ha : EV X C W O a ka F) (hb : EV X C W O b kb G) (hm : behindInMarks op b = false) : TV X C W O (.Compare a [op] [b] pos) (bBin g F G) := by
  obtain ⟨nox, r, ho, hr⟩ := B
  refine (pt_cmpR ho ha hb hm).imp fun σ H Q ⟨ρ, Fs, er, q⟩ => ?_
  refine tD.step er (Sat.bind q) fun d v H1 F1 p er1 x1 r1 kd1 => ?_
  refine tD.step er1 (Sat.later (Sat.bind p) x1) fun d2 v2 H2 F2 p2 er2 x2 r2 kd2 => ?_
  refine hr H2 v v2 d d2 F1 F2 _ (r1.ex x2) r2 (((Sat.bind p2).nox (nox _ _)).mono (fun d3 p3 v3 H3 F3 x3 r3 m => ?_) fun _ z => z)
  cases d3 with
  | bool c =>
    cases r3
    exact ⟨c, rfl, p3 H3 ((x1.trans x2).trans x3)⟩
  | _ => exact p3.elim
end
end Pd
namespace Pd
open PySem PySem.Spec PyProof.Rows L2
theorem noxS {α : Type} : NoX (R.stuck : R α) := fun c h => by cases h
theorem noxO {α : Type} {a : α} : NoX (R.ok a) := fun c h => by cases h
theorem noxI {α : Type} {c : Prop} [Decidable c] {a b : R α} (ha : NoX a) (hb : NoX b) : NoX (if c then a else b) := by
  by_cases h : c
  · rw [if_pos h]; exact ha
  · rw [if_neg h]; exact hb
theorem satI {α : Type} {c : Prop} [Decidable c] {a : R α} {P : α → Prop} {E : Str → Prop} (h : Sat (if c then a else .stuck) P E) : c ∧ Sat a P E := by
  by_cases hc : c
  · rw [if_pos hc] at h; exact ⟨hc, h⟩
  · rw [if_neg hc] at h; exact h.elim
theorem sz16 : (sizeLine : Nat) = 16777216 := sizeLine_eq
theorem RpL.nn {K : PySem.W.Frag} {H : Hp} {xs : List V} {ds : List D} {F : List Addr} (r : RpL K H xs ds F) : ∀ b ∈ F, H b ≠ none := fun b hb => by
  obtain ⟨o, e, _⟩ := r.dom b hb
  rw [e]; simp
theorem Rp.nn {K : PySem.W.Frag} {H : Hp} {xs : V} {ds : D} {F : List Addr} (r : Rp K H xs ds F) : ∀ b ∈ F, H b ≠ none := fun b hb => by
  obtain ⟨o, e, _⟩ := r.dom b hb
  rw [e]; simp
theorem mix_new {H : Hp} {p a b : Addr} {F G : List Addr} (hp : H p = none) (hF : ∀ c ∈ F, H c ≠ none) (hG : ∀ c ∈ G, H c ≠ none) : Mix H (a :: F) (b :: G) (p :: (F ++ G)) := by
  refine ⟨fun c hc => ?_, fun nd => ?_⟩
  · rcases List.mem_cons.mp hc with z | z
    · rw [z]; exact .inr (.inr hp)
    · rcases List.mem_append.mp z with z | z
      · exact .inl (List.mem_cons_of_mem _ z)
      · exact .inr (.inl (List.mem_cons_of_mem _ z))
  · refine List.nodup_cons.mpr ⟨fun z => ?_, ?_⟩
    · rcases List.mem_append.mp z with z | z
      · exact hF _ z hp
      · exact hG _ z hp
    · rw [List.cons_append] at nd
      exact ((List.nodup_cons.mp nd).2).sublist (List.Sublist.append (List.Sublist.refl _) (List.sublist_cons_self _ _))
/-- a new root over some of the parts -/
theorem mix1_new {H : Hp} {p : Addr} {F G : List Addr} (hp : H p = none) (hF : ∀ c ∈ F, H c ≠ none) (hs : List.Sublist G F) : Mix1 H F (p :: G) :=
  ⟨fun c hc => (List.mem_cons.mp hc).elim (fun z => .inr (by rw [z]; exact hp)) fun z => .inl (hs.mem z),
    fun nd => List.nodup_cons.mpr ⟨fun z => hF _ (hs.mem z) hp, nd.sublist hs⟩⟩
theorem mix1_sub {H : Hp} {F G : List Addr} (hs : List.Sublist G F) : Mix1 H F G := ⟨fun c hc => .inl (hs.mem hc), fun nd => nd.sublist hs⟩
/-! ### + - * // % ** -/
def addD : D → D → R D
  | .int a, .int b => .ok (.int (a + b))
  | .str a, .str b => if a.length + b.length ≤ 16777216 then .ok (.str (a ++ b)) else .stuck
  | .tuple a, .tuple b => if a.length + b.length ≤ 16777216 then .ok (.tuple (a ++ b)) else .stuck
  | .list a, .list b => if a.length + b.length ≤ 16777216 then .ok (.list (a ++ b)) else .stuck
  | _, _ => .stuck
section
variable {X : Cx} {T : List Addr}
theorem or_or {X : Cx} {f : Value → Value → Sem Value} {r1 r2 : R2} (h1 : OpR X f r1) (h2 : OpR X f r2) : OpR X f (fun x y H Q => r1 x y H Q ∨ r2 x y H Q) := h1.or h2
theorem b_add : BinD X T (binaryOp .Add) addD where
  nox := fun x y => by
    unfold addD
    split <;> first | exact noxO | exact noxI noxO noxS | exact noxS
  ex := by
    refine ⟨_, or_or op_add (or_or op_add_str (or_or op_catF op_cat)), ?_⟩
    intro H x y dx dy Fx Fy Q rx ry h
    cases dx <;> cases dy <;> first | exact False.elim h | skip
    · cases rx
      cases ry
      exact .inl ⟨_, _, rfl, rfl, h _ H [] .refl (.int _) .nil⟩
    · cases rx
      cases ry
      obtain ⟨hc, h⟩ := satI h
      exact .inr (.inl ⟨_, _, rfl, rfl, by rw [sz16]; exact hc, h _ H [] .refl (.str _) .nil⟩)
    · obtain ⟨hc, h⟩ := satI h
      cases rx with | @lst a xs _ F ea ra =>
      cases ry with | @lst b ys _ G eb rb =>
      refine .inr (.inr (.inr ⟨a, b, xs, ys, rfl, rfl, ea, eb, by rw [sz16, ra.length, rb.length]; exact hc, fun p hp => ?_⟩))
      have x : Ex T H (upd H p (.lst (xs ++ ys))) := .new hp
      exact h _ _ (p :: (F ++ G)) x (.lst upd_same ((ra.ex x).append (rb.ex x))) (mix_new hp (ra.nn) (rb.nn))
    · obtain ⟨hc, h⟩ := satI h
      cases rx with | @tup a xs _ _ sa ra =>
      cases ry with | @tup b ys _ _ sb rb =>
      refine .inr (.inr (.inl ⟨a, b, xs, ys, rfl, rfl, sa.sq, sb.sq, by rw [sz16, ra.length, rb.length]; exact hc, fun z => ?_, fun _ z => ?_, fun _ _ p o hp ho => ?_⟩))
      · subst z
        cases ra
        exact h _ H _ .refl (.tup sb rb) .app
      · subst z
        cases rb
        refine h _ H _ .refl (.tup sa ?_) .app
        rw [List.append_nil, List.append_nil]
        exact ra
      · have x : Ex T H (upd H p (.frz o (.tup (xs ++ ys)))) := .new hp
        exact h _ _ _ x (.tup (.new ho) ((ra.ex x).append (rb.ex x))) .app
end
theorem tuple_mul_same (l : Addr) (items : Array Value) (n : Nat) (dd : Option Addr) (sl : Array (Option Value)) (x : Int) (u : Tok) (c0 : (decide (x < -(2 ^ 63)) || decide (x ≥ 2 ^ 63)) = false) (c1 : (items.isEmpty || x == 1) = true) :
    Meets (Builtin.«tuple.__mul__» ⟨[.ref l, .int x u], []⟩) (fun _ R s => s.heap.get? l = some { cls := .type "tuple", dict := dd, data := .seq items n, slots := sl } ∧
      R (.ok (.ret (Value.ref l))) s) :=
  .of_wp fun prog w A R s h => by
    obtain ⟨hp, g, d, tk, os⟩ := s
    obtain ⟨hl, h⟩ := h
    have f1 := AutoSeq1.idx_int
    wp_walk using wpAny_loadPart' hl
    repeat (first
      | (refine wpAny_ite_false (decide_eq_false (by rw [c0]; exact Bool.false_ne_true)) ?_; wp_walk using wpAny_loadPart' hl)
      | (refine wpAny_ite_true (decide_eq_true (by rw [c1])) ?_; wp_walk using wpAny_loadPart' hl))
    exact ⟨_, rfl, h⟩
theorem tuple_mul_none (l : Addr) (items : Array Value) (n : Nat) (dd : Option Addr) (sl : Array (Option Value)) (x : Int) (u : Tok) (c0 : (decide (x < -(2 ^ 63)) || decide (x ≥ 2 ^ 63)) = false) (c1 : (items.isEmpty || x == 1) = false) (c2 : (decide (x ≤ 0) || items.isEmpty) = true) :
    Meets (Builtin.«tuple.__mul__» ⟨[.ref l, .int x u], []⟩) (fun _ R s => s.heap.get? l = some { cls := .type "tuple", dict := dd, data := .seq items n, slots := sl } ∧
      R (.ok (.ret (Value.ref s.heap.objs.size))) { s with heap := s.heap.push { cls := Value.type "tuple", data := Data.seq #[] } }) :=
  .of_wp fun prog w A R s h => by
    obtain ⟨hp, g, d, tk, os⟩ := s
    obtain ⟨hl, h⟩ := h
    have f1 := AutoSeq1.idx_int
    wp_walk using wpAny_loadPart' hl
    repeat (first
      | (refine wpAny_ite_false (decide_eq_false (by rw [c0]; exact Bool.false_ne_true)) ?_; wp_walk using wpAny_loadPart' hl)
      | (refine wpAny_ite_false (decide_eq_false (by rw [c1]; exact Bool.false_ne_true)) ?_; wp_walk using wpAny_loadPart' hl)
      | (refine wpAny_ite_true (decide_eq_true (by rw [c2])) ?_; wp_walk using wpAny_loadPart' hl))
    exact ⟨_, rfl, h⟩
/-- t * k, whatever k is -/
def rRepG (K : PySem.W.Frag) : R2 := fun x y H Q => ∃ l k xs, x = .ref l ∧ y = .int k ∧ SqT K H l xs ∧ -1000000 ≤ k ∧ k ≤ 1000 ∧ xs.length ≤ 1000 ∧
  ((xs = [] ∨ k = 1) → Q (.ref l) H) ∧ (xs ≠ [] → k ≤ 0 → ∀ p o, H p = none → NewT o → Q (.ref p) (upd H p (.frz o (.tup [])))) ∧
  (xs ≠ [] → 2 ≤ k → ∀ p o, H p = none → NewT o → Q (.ref p) (upd H p (.frz o (.tup (List.replicate k.toNat xs).flatten))))
open HT in
theorem op_repG {X : Cx} : OpR X (binaryOp .Mult) (rRepG X.K) := by
  intro pins s σ H x y v u Q I rx ry h
  obtain ⟨l, k, xs, rfl, rfl, hT, h1, h2, hz, q1, q2, q3⟩ := h
  by_cases c : xs = [] ∨ k = 1
  · cases rx
    obtain ⟨t, rfl⟩ := ry
    obtain ⟨its, r, ⟨⟨cls, dd, data, sl⟩, ho, hc, n, hd⟩, hs⟩ := I.tuple hT
    simp only at hc hd
    subst hc hd
    have c0 : (decide (k < -(2 ^ 63)) || decide (k ≥ 2 ^ 63)) = false := by
      rw [decide_eq_false (by omega), decide_eq_false (by omega)] <;> rfl
    have c1 : (its.toArray.isEmpty || k == 1) = true := by
      rcases c with c | c
      · subst c
        cases r
        rfl
      · subst c
        simp
    exact wpAny_binaryOp_repeat_ref (T := "tuple") (U := "int") (by decide) ⟨_, ho, rfl⟩ (fun s' => typeIs_int s' k t) noFill_tuple_mul F.fills_int_mul F.slot_int_rmul repeat_tuple F.slot_int_index.lookup
      (call_meets F.slot_int_rmul (typeIs_int s k t) F.entry_int_rmul (F.args_int_rmul_2 _ _) (int_rmul_tuple k t l its.toArray n dd sl)
        ⟨ho, rfl, ⟨_, ho, rfl⟩, call_meets F.slot_tuple_mul ⟨_, ho, rfl⟩ F.entry_tuple_mul (F.args_tuple_mul_2 _ _) (tuple_mul_same l its.toArray n dd sl k t c0 c1) ⟨ho, ⟨.ref l, H, I, rfl, q1 c⟩⟩⟩)
  · have cx : xs ≠ [] := fun z => c (.inl z)
    have ck : k ≠ 1 := fun z => c (.inr z)
    by_cases k0 : k ≤ 0
    · cases rx
      obtain ⟨t, rfl⟩ := ry
      obtain ⟨its, r, ⟨⟨cls, dd, data, sl⟩, ho, hc, n, hd⟩, hs⟩ := I.tuple hT
      simp only at hc hd
      subst hc hd
      have c0 : (decide (k < -(2 ^ 63)) || decide (k ≥ 2 ^ 63)) = false := by
        rw [decide_eq_false (by omega), decide_eq_false (by omega)] <;> rfl
      have hi : its.toArray.isEmpty = false := by
        cases its with
        | nil => cases r; exact absurd rfl cx
        | cons a b => rfl
      have c1 : (its.toArray.isEmpty || k == 1) = false := by
        rw [hi, Bool.false_or]
        exact beq_eq_false_iff_ne.mpr ck
      have c2 : (decide (k ≤ 0) || its.toArray.isEmpty) = true := by
        rw [decide_eq_true k0] <;> rfl
      refine wpAny_binaryOp_repeat_ref (T := "tuple") (U := "int") (by decide) ⟨_, ho, rfl⟩ (fun s' => typeIs_int s' k t) noFill_tuple_mul F.fills_int_mul F.slot_int_rmul repeat_tuple F.slot_int_index.lookup
        (call_meets F.slot_int_rmul (typeIs_int s k t) F.entry_int_rmul (F.args_int_rmul_2 _ _) (int_rmul_tuple k t l its.toArray n dd sl)
          ⟨ho, rfl, ⟨_, ho, rfl⟩, call_meets F.slot_tuple_mul ⟨_, ho, rfl⟩ F.entry_tuple_mul (F.args_tuple_mul_2 _ _) (tuple_mul_none l its.toArray n dd sl k t c0 c1 c2) ⟨ho, ?_⟩⟩)
      exact ⟨.ref s.heap.objs.size, _, laidT I (xs := []) (its := []) .nil (Nat.zero_le _) s.toks, rfl, q2 cx k0 _ _ (I.hok.fresh (Nat.le_refl _)) ⟨rfl, rfl⟩⟩
    · cases rx
      obtain ⟨t, rfl⟩ := ry
      obtain ⟨its, r, ⟨⟨cls, dd, data, sl⟩, ho, hc, n, hd⟩, hs⟩ := I.tuple hT
      simp only at hc hd
      subst hc hd
      have hle : its.length = xs.length := r.length.symm
      have hi : its.toArray.isEmpty = false := by
        cases its with
        | nil => cases r; exact absurd rfl cx
        | cons a b => rfl
      have hsz0 : its.toArray.size = xs.length := by rw [List.size_toArray, hle]
      have hm : ((its.toArray.size : Nat) : Int) * k ≤ 1000000 := by
        rw [hsz0]
        have a1 : ((xs.length : Nat) : Int) * k ≤ 1000 * k := Int.mul_le_mul_of_nonneg_right (by omega) (by omega)
        omega
      have fl : (List.replicate k.toNat its).flatten.length ≤ sizeLine := by
        rw [PyProof.Rows.lm_len_rep_flat, hle, sizeLine_eq]
        have a1 : k.toNat * xs.length ≤ 1000 * 1000 := Nat.mul_le_mul (by omega) hz
        omega
      have c0 : (decide (k < -(2 ^ 63)) || decide (k ≥ 2 ^ 63)) = false := by
        rw [decide_eq_false (by omega), decide_eq_false (by omega)] <;> rfl
      have c1 : (its.toArray.isEmpty || k == 1) = false := by
        rw [hi, Bool.false_or]
        exact beq_eq_false_iff_ne.mpr ck
      have c2 : (decide (k ≤ 0) || its.toArray.isEmpty) = false := by
        rw [hi, Bool.or_false]
        exact decide_eq_false k0
      have c4 : Builtin.Tuple.tupleTooMany (((its.toArray.size : Nat) : Int) * k) = false := by
        unfold Builtin.Tuple.tupleTooMany
        rw [sizeLine_eq]
        exact decide_eq_false (by omega)
      refine wpAny_binaryOp_repeat_ref (T := "tuple") (U := "int") (by decide) ⟨_, ho, rfl⟩ (fun s' => typeIs_int s' k t) noFill_tuple_mul F.fills_int_mul F.slot_int_rmul repeat_tuple F.slot_int_index.lookup
        (call_meets F.slot_int_rmul (typeIs_int s k t) F.entry_int_rmul (F.args_int_rmul_2 _ _) (int_rmul_tuple k t l its.toArray n dd sl)
          ⟨ho, rfl, ⟨_, ho, rfl⟩, call_meets F.slot_tuple_mul ⟨_, ho, rfl⟩ F.entry_tuple_mul (F.args_tuple_mul_2 _ _) (tuple_mulW l its.toArray n dd sl k t c0 c1 c2 (by omega) c4 (by rw [size_rep, List.size_toArray]; exact fl)) ⟨ho, ?_⟩⟩)
      rw [size_rep]
      exact ⟨.ref s.heap.objs.size, _, laidT I (r.rep k.toNat) (by rw [(r.rep k.toNat).length]; exact fl) s.toks, rfl, q3 cx (by omega) _ _ (I.hok.fresh (Nat.le_refl _)) ⟨rfl, rfl⟩⟩
def repD (a : List D) (k : Int) : List D := (List.replicate k.toNat a).flatten
theorem RpL.rep {K : PySem.W.Frag} {H : Hp} {xs : List V} {ds : List D} (r : RpL K H xs ds []) : ∀ n : Nat, RpL K H (List.replicate n xs).flatten (List.replicate n ds).flatten []
  | 0 => .nil
  | n + 1 => by
    rw [List.replicate_succ, List.replicate_succ, List.flatten_cons, List.flatten_cons]
    exact r.append (RpL.rep r n)
def mulD : D → D → R D
  | .int a, .int b => if (-(2 ^ 64) < a ∧ a < 2 ^ 64) ∨ (-(2 ^ 64) < b ∧ b < 2 ^ 64) then .ok (.int (a * b)) else .stuck
  | .tuple a, .int k => if immL a = true ∧ -1000000 ≤ k ∧ k ≤ 1000 ∧ a.length ≤ 1000 then .ok (.tuple (repD a k)) else .stuck
  | .list a, .int k => if immL a = true ∧ -1000000 ≤ k ∧ k ≤ 1000 ∧ a.length ≤ 1000 then .ok (.list (repD a k)) else .stuck
  | _, _ => .stuck
def subD : D → D → R D
  | .int a, .int b => .ok (.int (a - b))
  | _, _ => .stuck
def modD : D → D → R D
  | .int a, .int b => if 0 < b then .ok (.int (a % b)) else .stuck
  | _, _ => .stuck
def fdivD : D → D → R D
  | .int a, .int b => if 0 < b ∧ b < 1073741824 then .ok (.int (a / b)) else .stuck
  | _, _ => .stuck
def powD : D → D → R D
  | .int a, .int b => if 0 ≤ b ∧ b ≤ 1000000 ∧ a.natAbs < 2 ^ 64 then .ok (.int (a ^ b.toNat)) else .stuck
  | _, _ => .stuck
section
variable {X : Cx} {T : List Addr}
theorem b_mul : BinD X T (binaryOp .Mult) mulD where
  nox := fun x y => by
    unfold mulD
    split <;> first | exact noxI noxO noxS | exact noxS
  ex := by
    refine ⟨_, or_or op_mul (or_or op_repG op_rep), ?_⟩
    intro H x y dx dy Fx Fy Q rx ry h
    cases dx <;> cases dy <;> first | exact False.elim h | skip
    · obtain ⟨hc, h⟩ := satI h
      cases rx
      cases ry
      exact .inl ⟨_, _, rfl, rfl, hc, h _ H [] .refl (.int _) .nil⟩
    · rename_i ds0 k
      obtain ⟨⟨hi, k1, k2, hl⟩, h⟩ := satI h
      cases rx with | @lst a xs _ F ea ra =>
      cases ry
      obtain rfl := ra.imm hi
      have hl2 : xs.length ≤ 1000 := by rw [ra.length]; exact hl
      have hk : k.toNat ≤ 1000 := by omega
      refine .inr (.inr ⟨a, k, xs, rfl, rfl, ea, by omega, by omega, ?_, fun p hp => ?_⟩)
      · rw [sz16]
        exact Nat.le_trans (Nat.mul_le_mul hl2 hk) (by decide)
      · have x : Ex T H (upd H p (.lst (List.replicate k.toNat xs).flatten)) := .new hp
        refine h _ _ [p] x (.lst upd_same ((ra.ex x).rep _)) ⟨fun c hc => ?_, fun _ => ?_⟩
        · rcases List.mem_cons.mp hc with z | z
          · exact .inr (.inr (by rw [z]; exact hp))
          · cases z
        · exact List.nodup_cons.mpr ⟨fun z => (nomatch z), List.nodup_nil⟩
    · rename_i ds0 k
      obtain ⟨⟨hi, k1, k2, hl⟩, h⟩ := satI h
      cases rx with | @tup a xs _ _ ea ra =>
      cases ry
      obtain rfl := ra.imm hi
      have hl2 : xs.length ≤ 1000 := by rw [ra.length]; exact hl
      refine .inr (.inl ⟨a, k, xs, rfl, rfl, ea.sq, k1, k2, hl2, fun z => ?_, fun _ z p o hp ho => ?_, fun _ z p o hp ho => ?_⟩)
      · refine h _ H [] .refl (.tup ea ?_) .nil
        rcases z with z | z
        · subst z
          cases ra
          have e : repD [] k = [] := by unfold repD; simp
          rw [e]; exact .nil
        · subst z
          have e : ∀ l : List D, repD l 1 = l := fun l => by
            unfold repD
            show (List.replicate 1 l).flatten = l
            simp
          rw [e]; exact ra
      · have x : Ex T H (upd H p (.frz o (.tup []))) := .new hp
        have e : ∀ l : List D, repD l k = [] := fun l => by
          unfold repD
          have : k.toNat = 0 := by omega
          rw [this]; rfl
        refine h _ _ [] x (.tup (.new ho) ?_) .nil
        rw [e]; exact .nil
      · have x : Ex T H (upd H p (.frz o (.tup (List.replicate k.toNat xs).flatten))) := .new hp
        exact h _ _ [] x (.tup (.new ho) ((ra.ex x).rep _)) .nil
theorem b_int {f : Value → Value → Sem Value} {C : Int → Int → Prop} {gi : Int → Int → Int} {g : D → D → R D} (ho : OpR X f (rI C fun i j => .int (gi i j))) (nox : ∀ x y, NoX (g x y))
    (hg : ∀ dx dy (P : D → Prop), Sat (g dx dy) P (fun _ => False) → ∃ i j, dx = .int i ∧ dy = .int j ∧ C i j ∧ P (.int (gi i j))) : BinD X T f g := ⟨nox, _, ho, fun H x y dx dy Fx Fy Q rx ry h => by
  obtain ⟨i, j, rfl, rfl, hc, q⟩ := hg _ _ _ h
  cases rx
  cases ry
  exact ⟨i, j, rfl, rfl, hc, q _ H [] .refl (.int _) .nil⟩⟩
theorem opI0' {f : Value → Value → Sem Value} {gi : Int → Int → Int} (h : OpR X f (rI0 fun i j => .int (gi i j))) : OpR X f (rI (fun _ _ => True) fun i j => .int (gi i j)) := by
  intro pins s σ H x y v u Q I rx ry ⟨i, j, e1, e2, _, q⟩
  exact h pins s σ H x y v u Q I rx ry ⟨i, j, e1, e2, q⟩
theorem b_sub : BinD X T (binaryOp .Sub) subD := b_int (opI0' op_sub) (fun x y => by unfold subD; split <;> first | exact noxO | exact noxS) fun dx dy P h => by
  cases dx <;> cases dy <;> first | exact False.elim h | exact ⟨_, _, rfl, rfl, trivial, h⟩
theorem b_mod : BinD X T (binaryOp .Mod) modD := b_int op_mod (fun x y => by unfold modD; split <;> first | exact noxI noxO noxS | exact noxS) fun dx dy P h => by
  cases dx <;> cases dy <;> first | exact False.elim h | (obtain ⟨hc, h⟩ := satI h; exact ⟨_, _, rfl, rfl, hc, h⟩)
theorem b_fdiv : BinD X T (binaryOp .FloorDiv) fdivD := b_int op_fdiv (fun x y => by unfold fdivD; split <;> first | exact noxI noxO noxS | exact noxS) fun dx dy P h => by
  cases dx <;> cases dy <;> first | exact False.elim h | (obtain ⟨hc, h⟩ := satI h; exact ⟨_, _, rfl, rfl, hc, h⟩)
theorem b_pow : BinD X T (binaryOp .Pow) powD := b_int op_pow (fun x y => by unfold powD; split <;> first | exact noxI noxO noxS | exact noxS) fun dx dy P h => by
  cases dx <;> cases dy <;> first | exact False.elim h | (obtain ⟨hc, h⟩ := satI h; exact ⟨_, _, rfl, rfl, hc, h⟩)
end
end Pd
namespace Pd
open PySem PySem.Spec PyProof.Rows L2
/-! ### comparisons -/
def shp (d : D) : Bool := SeqAt.shaped d
def eqD (x y : D) : R D := if shp x = true ∧ shp y = true then .ok (.bool (PyData.eqv x y)) else .stuck
def neD (x y : D) : R D := if shp x = true ∧ shp y = true then .ok (.bool (!PyData.eqv x y)) else .stuck
theorem shp_lay {d : D} (h : shp d = true) : d.canLay0 = true := SeqAt.canLay_of_shaped h
def ltD : D → D → R D
  | .int a, .int b => .ok (.bool (decide (a < b)))
  | .str a, .str b => .ok (.bool (decide (a.cps.toList < b.cps.toList)))
  | _, _ => .stuck
def leD : D → D → R D
  | .int a, .int b => .ok (.bool (decide (a ≤ b)))
  | _, _ => .stuck
def gtD : D → D → R D
  | .int a, .int b => .ok (.bool (decide (b < a)))
  | _, _ => .stuck
def geD : D → D → R D
  | .int a, .int b => .ok (.bool (decide (b ≤ a)))
  | _, _ => .stuck
/-- is None, is True, is False -/
def isD : D → D → R D
  | .none, .none => .ok (.bool true)
  | _, .none => .ok (.bool false)
  | .bool a, .bool b => .ok (.bool (a == b))
  | _, .bool _ => .ok (.bool false)
  | _, _ => .stuck
def notD (r : R D) : R D := r.bind fun d => match d with
  | .bool b => .ok (.bool (!b))
  | _ => .stuck
def isNotD (x y : D) : R D := notD (isD x y)
def inD : D → D → R D
  | d, .tuple ds => if shp d = true ∧ shp (.tuple ds) = true then .ok (.bool (ds.any fun z => PyData.eqv z d)) else .stuck
  | d, .list ds => if shp d = true ∧ shp (.list ds) = true then .ok (.bool (ds.any fun z => PyData.eqv z d)) else .stuck
  | .str i, .str j => .ok (.bool (!(Builtin.Str.occurrences j i 0 j.length 1).isEmpty))
  | _, _ => .stuck
def notInD (x y : D) : R D := notD (inD x y)
theorem noxN {r : R D} (h : NoX r) : NoX (notD r) := by
  unfold notD
  cases r with
  | ok d => cases d <;> first | exact noxO | exact noxS
  | exc c => exact (h c rfl).elim
  | stuck => exact noxS
section
variable {X : Cx} {T : List Addr}
theorem b_eq (hu : X.A.units + 64 < cLine) : BinD X T (compareOp .Eq) eqD where
  nox := fun x y => noxI noxO noxS
  ex := ⟨_, op_eqD hu, fun H x y dx dy Fx Fy Q rx ry h => by
    obtain ⟨⟨h1, h2⟩, h⟩ := satI h
    exact ⟨dx, dy, rx.dp (shp_lay h1), ry.dp (shp_lay h2), h1, h2, h _ H [] .refl (.bl _) .nil⟩⟩
theorem b_ne (hu : X.A.units + 64 < cLine) : BinD X T (compareOp .NotEq) neD where
  nox := fun x y => noxI noxO noxS
  ex := ⟨_, op_neD hu, fun H x y dx dy Fx Fy Q rx ry h => by
    obtain ⟨⟨h1, h2⟩, h⟩ := satI h
    exact ⟨dx, dy, rx.dp (shp_lay h1), ry.dp (shp_lay h2), h1, h2, h _ H [] .refl (.bl _) .nil⟩⟩
theorem b_lt : BinD X T (compareOp .Lt) ltD where
  nox := fun x y => by
    unfold ltD
    split <;> first | exact noxO | exact noxS
  ex := ⟨_, or_or op_lt op_lt_str, fun H x y dx dy Fx Fy Q rx ry h => by
    cases dx <;> cases dy <;> first | exact False.elim h | skip
    · cases rx
      cases ry
      exact .inl ⟨_, _, rfl, rfl, h _ H [] .refl (.bl _) .nil⟩
    · cases rx
      cases ry
      exact .inr ⟨_, _, rfl, rfl, h _ H [] .refl (.bl _) .nil⟩⟩
theorem b_cmpI {op : CmpOp} {p : Int → Int → Bool} {g : D → D → R D} (ho : OpR X (compareOp op) (rI0 fun i j => .bl (p i j))) (nox : ∀ x y, NoX (g x y))
    (hg : ∀ dx dy (P : D → Prop), Sat (g dx dy) P (fun _ => False) → ∃ i j, dx = .int i ∧ dy = .int j ∧ P (.bool (p i j))) : BinD X T (compareOp op) g := ⟨nox, _, ho, fun H x y dx dy Fx Fy Q rx ry h => by
  obtain ⟨i, j, rfl, rfl, q⟩ := hg _ _ _ h
  cases rx
  cases ry
  exact ⟨i, j, rfl, rfl, q _ H [] .refl (.bl _) .nil⟩⟩
theorem b_le : BinD X T (compareOp .LtE) leD := b_cmpI op_le (fun x y => by unfold leD; split <;> first | exact noxO | exact noxS) fun dx dy P h => by
  cases dx <;> cases dy <;> first | exact False.elim h | exact ⟨_, _, rfl, rfl, h⟩
theorem b_gt : BinD X T (compareOp .Gt) gtD := b_cmpI op_gt (fun x y => by unfold gtD; split <;> first | exact noxO | exact noxS) fun dx dy P h => by
  cases dx <;> cases dy <;> first | exact False.elim h | exact ⟨_, _, rfl, rfl, h⟩
theorem b_ge : BinD X T (compareOp .GtE) geD := b_cmpI op_ge (fun x y => by unfold geD; split <;> first | exact noxO | exact noxS) fun dx dy P h => by
  cases dx <;> cases dy <;> first | exact False.elim h | exact ⟨_, _, rfl, rfl, h⟩
/-! is -/
theorem is_bool_gen {M : Model} {A : Around} {E : Value → Shared → Prop} {s : Shared} {Q : Value → Shared → Prop} {v : Value} {b : Bool} (n : ∀ i, v ≠ .builtin i) (h : Q (.bool (v == .bool b)) s) : wpAny M A (compareOp .Is v (.bool b)) Q E s := by
  cases v <;> first | exact (n _ rfl).elim | exact wpAny_pure h
theorem isnot_bool_gen {M : Model} {A : Around} {E : Value → Shared → Prop} {s : Shared} {Q : Value → Shared → Prop} {v : Value} {b : Bool} (n : ∀ i, v ≠ .builtin i) (h : Q (.bool (!(v == .bool b))) s) : wpAny M A (compareOp .IsNot v (.bool b)) Q E s := by
  cases v <;> first | exact (n _ rfl).elim | exact wpAny_pure h
theorem rel_nb {v : V} {u : Value} (r : RelV v u) : ∀ i, u ≠ .builtin i := fun i e => by
  subst e
  cases v <;> first | (obtain ⟨t, q⟩ := r; cases q; done) | (cases r; done)
theorem rel_bl {v : V} {u : Value} {b : Bool} (r : RelV v u) : (u == .bool b) = decide (v = .bl b) := by
  cases v <;> first | (obtain ⟨t, q⟩ := r; subst q; simp; done) | (cases r; simp; done) | (cases r; rw [Bool.eq_iff_iff]; simp; done)
theorem op_isBG : OpR X (compareOp .Is) (fun x y H Q => ∃ b, y = .bl b ∧ Q (.bl (decide (x = .bl b))) H) := by
  intro pins s σ H x y v u Q I rx ry h
  obtain ⟨b, rfl, q⟩ := h
  cases ry
  refine is_bool_gen (rel_nb rx) ⟨.bl _, H, I, ?_, q⟩
  rw [rel_bl rx]
  exact rfl
theorem op_isNotBG : OpR X (compareOp .IsNot) (fun x y H Q => ∃ b, y = .bl b ∧ Q (.bl (!decide (x = .bl b))) H) := by
  intro pins s σ H x y v u Q I rx ry h
  obtain ⟨b, rfl, q⟩ := h
  cases ry
  refine isnot_bool_gen (rel_nb rx) ⟨.bl _, H, I, ?_, q⟩
  rw [rel_bl rx]
  exact rfl
theorem isD_n {K : PySem.W.Frag} {H : Hp} {x : V} {d : D} {F : List Addr} (r : Rp K H x d F) : isD d .none = .ok (.bool (decide (x = .non))) := by
  cases r <;> simp [isD]
theorem isD_b {K : PySem.W.Frag} {H : Hp} {x : V} {d : D} {F : List Addr} {b : Bool} (r : Rp K H x d F) : isD d (.bool b) = .ok (.bool (decide (x = .bl b))) := by
  cases r <;> simp [isD]
  rename_i a
  cases a <;> cases b <;> rfl
theorem noxIs (x y : D) : NoX (isD x y) := by
  unfold isD
  split <;> first | exact noxO | exact noxS
theorem b_is : BinD X T (compareOp .Is) isD where
  nox := noxIs
  ex := ⟨_, or_or op_isN op_isBG, fun H x y dx dy Fx Fy Q rx ry h => by
    cases dy <;> first | (cases ry; rw [isD_n rx] at h; exact .inl ⟨rfl, h _ H [] .refl (.bl _) .nil⟩) | (cases ry; rw [isD_b rx] at h; exact .inr ⟨_, rfl, h _ H [] .refl (.bl _) .nil⟩) | (cases dx <;> exact False.elim h)⟩
theorem b_isNot : BinD X T (compareOp .IsNot) isNotD where
  nox := fun x y => noxN (noxIs x y)
  ex := ⟨_, or_or op_notN op_isNotBG, fun H x y dx dy Fx Fy Q rx ry h => by
    unfold isNotD at h
    cases dy <;> first | (cases ry; rw [isD_n rx] at h; exact .inl ⟨rfl, h _ H [] .refl (.bl _) .nil⟩) | (cases ry; rw [isD_b rx] at h; exact .inr ⟨_, rfl, h _ H [] .refl (.bl _) .nil⟩) | (cases dx <;> exact False.elim h)⟩
/-! in -/
theorem op_inTD (hu : X.A.units + 65 < cLine) : OpR X (compareOp .In) (fun x y H Q => ∃ d ds, Dp X.K H x d ∧ Dp X.K H y (.tuple ds) ∧ SeqAt.shaped d = true ∧ SeqAt.shaped (.tuple ds) = true ∧ Q (.bl (ds.any fun z => PyData.eqv z d)) H) := by
  intro pins s σ H x y v u Q I rx ry h
  obtain ⟨d, ds, hd, he, sd, se, q⟩ := h
  obtain ⟨as, r1⟩ := Dp.reads I d x v hd rx
  obtain ⟨bs, r2⟩ := Dp.reads I (.tuple ds) y u he ry
  exact SeqAt.in_tuple_reads r2 r1 (SeqAt.canLay_of_shaped se) (SeqAt.canLay_of_shaped sd) (room_in_shaped sd hu) ⟨.bl _, H, I, rfl, q⟩
theorem op_notInTD (hu : X.A.units + 65 < cLine) : OpR X (compareOp .NotIn) (fun x y H Q => ∃ d ds, Dp X.K H x d ∧ Dp X.K H y (.tuple ds) ∧ SeqAt.shaped d = true ∧ SeqAt.shaped (.tuple ds) = true ∧ Q (.bl (!ds.any fun z => PyData.eqv z d)) H) := by
  intro pins s σ H x y v u Q I rx ry h
  obtain ⟨d, ds, hd, he, sd, se, q⟩ := h
  obtain ⟨as, r1⟩ := Dp.reads I d x v hd rx
  obtain ⟨bs, r2⟩ := Dp.reads I (.tuple ds) y u he ry
  exact SeqAt.notIn_tuple_reads r2 r1 (SeqAt.canLay_of_shaped se) (SeqAt.canLay_of_shaped sd) (room_in_shaped sd hu) ⟨.bl _, H, I, rfl, q⟩
theorem noxIn (x y : D) : NoX (inD x y) := by
  unfold inD
  split <;> first | exact noxI noxO noxS | exact noxO | exact noxS
theorem inD_t (x : D) (ds : List D) : inD x (.tuple ds) = if shp x = true ∧ shp (.tuple ds) = true then .ok (.bool (ds.any fun z => PyData.eqv z x)) else .stuck := by cases x <;> rfl
theorem inD_l (x : D) (ds : List D) : inD x (.list ds) = if shp x = true ∧ shp (.list ds) = true then .ok (.bool (ds.any fun z => PyData.eqv z x)) else .stuck := by cases x <;> rfl
theorem b_in (hu : X.A.units + 65 < cLine) : BinD X T (compareOp .In) inD where
  nox := noxIn
  ex := ⟨_, or_or (op_inTD hu) (or_or (op_inD hu) op_in_str), fun H x y dx dy Fx Fy Q rx ry h => by
    cases dy with
    | tuple ds =>
      rw [inD_t] at h
      obtain ⟨⟨h1, h2⟩, h⟩ := satI h
      exact .inl ⟨dx, _, rx.dp (shp_lay h1), ry.dp (shp_lay h2), h1, h2, h _ H [] .refl (.bl _) .nil⟩
    | list ds =>
      rw [inD_l] at h
      obtain ⟨⟨h1, h2⟩, h⟩ := satI h
      exact .inr (.inl ⟨dx, _, rx.dp (shp_lay h1), ry.dp (shp_lay h2), h1, h2, h _ H [] .refl (.bl _) .nil⟩)
    | str j =>
      cases dx <;> first | exact False.elim h | (cases rx; cases ry; exact .inr (.inr ⟨_, _, rfl, rfl, h _ H [] .refl (.bl _) .nil⟩))
    | _ => cases dx <;> exact False.elim h⟩
theorem b_notIn (hu : X.A.units + 65 < cLine) : BinD X T (compareOp .NotIn) notInD where
  nox := fun x y => noxN (noxIn x y)
  ex := ⟨_, or_or (op_notInTD hu) (or_or (op_notInD hu) op_notin_str), fun H x y dx dy Fx Fy Q rx ry h => by
    unfold notInD at h
    cases dy with
    | tuple ds =>
      rw [inD_t] at h
      by_cases hc : shp dx = true ∧ shp (.tuple ds) = true
      · rw [if_pos hc] at h
        exact .inl ⟨dx, _, rx.dp (shp_lay hc.1), ry.dp (shp_lay hc.2), hc.1, hc.2, h _ H [] .refl (.bl _) .nil⟩
      · rw [if_neg hc] at h
        exact False.elim h
    | list ds =>
      rw [inD_l] at h
      by_cases hc : shp dx = true ∧ shp (.list ds) = true
      · rw [if_pos hc] at h
        exact .inr (.inl ⟨dx, _, rx.dp (shp_lay hc.1), ry.dp (shp_lay hc.2), hc.1, hc.2, h _ H [] .refl (.bl _) .nil⟩)
      · rw [if_neg hc] at h
        exact False.elim h
    | str j =>
      cases dx <;> first | exact False.elim h | (cases rx; cases ry; exact .inr (.inr ⟨_, _, rfl, rfl, h _ H [] .refl (.bl _) .nil⟩))
    | _ => cases dx <;> exact False.elim h⟩
end
end Pd
namespace Pd
open PySem PySem.Spec PyProof.Rows L2
/-! ### truth -/
def truthD : D → R Bool
  | .none => .ok false
  | .bool b => .ok b
  | .int i => .ok (i != 0)
  | .str y => if y.length ≤ 16777216 then .ok ((y.length : Int) != 0) else .stuck
  | .tuple xs => .ok (!xs.isEmpty)
  | .list xs => .ok (!xs.isEmpty)
  | .dict _ => .stuck
theorem truthD_nox (d : D) : NoX (truthD d) := by
  unfold truthD
  split <;> first | exact noxO | exact noxI noxO noxS | exact noxS
theorem RpL.isEmpty {K : PySem.W.Frag} {H : Hp} {xs : List V} {ds : List D} {F : List Addr} (r : RpL K H xs ds F) : xs.isEmpty = ds.isEmpty := by
  cases r <;> rfl
theorem truV {K : PySem.W.Frag} {H : Hp} {x : V} {d : D} {F : List Addr} {P : Bool → Prop} (r : Rp K H x d F) (h : Sat (truthD d) P (fun _ => False)) : ∃ k, TruV K x H k ∧ P k := by
  cases r with
  | non => exact ⟨_, rfl, h⟩
  | bl b => exact ⟨_, rfl, h⟩
  | int i => exact ⟨_, rfl, h⟩
  | str y =>
    obtain ⟨hc, h⟩ := satI h
    exact ⟨_, ⟨by rw [sz16]; exact hc, rfl⟩, h⟩
  | @tup a xs ds F s r => exact ⟨_, .inr (.inl ⟨xs, s.sq, rfl⟩), by rw [r.isEmpty]; exact h⟩
  | @lst a xs ds F s r => exact ⟨_, .inl ⟨xs, .inl (.inl s), rfl⟩, by rw [r.isEmpty]; exact h⟩
  | ro _ _ => exact False.elim h
  | dK _ _ _ => exact False.elim h
  | dT _ _ _ => exact False.elim h
def bTru (F : EF) : Env → R Bool := fun ρ => (F ρ).bind truthD
def bNot (F : Env → R Bool) : Env → R Bool := fun ρ => (F ρ).bind fun b => .ok (!b)
def bAnd (F G : Env → R Bool) : Env → R Bool := fun ρ => (F ρ).bind fun b => if b = true then G ρ else .ok false
def bOr (F G : Env → R Bool) : Env → R Bool := fun ρ => (F ρ).bind fun b => if b = true then .ok true else G ρ
def eAnd (F G : EF) : EF := fun ρ => (F ρ).bind fun x => (truthD x).bind fun b => if b = true then G ρ else .ok x
def eOr (F G : EF) : EF := fun ρ => (F ρ).bind fun x => (truthD x).bind fun b => if b = true then .ok x else G ρ
def eNot (F : EF) : EF := fun ρ => (F ρ).bind fun x => (truthD x).bind fun b => .ok (.bool (!b))
def eIf (C : Env → R Bool) (F G : EF) : EF := fun ρ => (C ρ).bind fun b => if b = true then F ρ else G ρ
section
variable {X : Cx} {C : Cc} {W : WX} {O : Own} {pos : Pos} {a b c : Expr} {F G J : EF} {ka kb k kc : Nat} {B B' : Env → R Bool} {rest : List Expr}
theorem tv_tru (h : EV X C W O a k F) (he : ∀ whole, isTrue a X.env whole = (do let v ← whole; standAt a.pos; holding [v] (truthy v)) := by intro _; rfl) : TV X C W O a (bTru F) := (pt_truth h he).imp fun σ H Q ⟨ρ, Fs, er, q⟩ => by
  refine tD.step er (Sat.bind q) fun d v H1 F1 p er1 x1 r1 kd1 => ?_
  obtain ⟨k, h1, h2⟩ := truV r1 (p.nox (truthD_nox d))
  exact ⟨k, h1, h2 H1 x1⟩
theorem tv_not (h : TV X C W O a B) : TV X C W O (.UnaryOp .Not a pos) (bNot B) := (pt_not h).imp fun σ H Q ⟨ρ, Fs, er, q⟩ =>
  tB.step er (Sat.bind q) fun d H1 p er1 x1 => p H1 x1
abbrev WV (X : Cx) (C : Cc) (W : WX) (O : Own) (e : Expr) (F : Env → R Bool) : Prop := PW X e (tB X.K C W O F)
theorem tv_pw (h : WV X C W O a B) : TV X C W O a B := PW.pt h
theorem wv_and1 (h : TV X C W O a B) : WV X C W O (.BoolOp .And [a] pos) B := pw_and1 h
theorem wv_or1 (h : TV X C W O a B) : WV X C W O (.BoolOp .Or [a] pos) B := pw_or1 h
theorem wv_and (h : TV X C W O a B) (h' : WV X C W O (.BoolOp .And (b :: rest) pos) B') : WV X C W O (.BoolOp .And (a :: b :: rest) pos) (bAnd B B') := (pw_and h h').imp fun σ H Q ⟨ρ, Fs, er, q⟩ => by
  refine tB.step er (Sat.bind q) fun d H1 p er1 x1 => ?_
  cases d with
  | true => exact ite_tt ⟨ρ, Fs, er1, (Sat.later p x1).mono (fun b hb H' x' => hb H' (x1.trans x')) fun _ z => z⟩
  | false => exact ite_ff (p H1 x1)
theorem wv_or (h : TV X C W O a B) (h' : WV X C W O (.BoolOp .Or (b :: rest) pos) B') : WV X C W O (.BoolOp .Or (a :: b :: rest) pos) (bOr B B') := (pw_or h h').imp fun σ H Q ⟨ρ, Fs, er, q⟩ => by
  refine tB.step er (Sat.bind q) fun d H1 p er1 x1 => ?_
  cases d with
  | false => exact ite_ff ⟨ρ, Fs, er1, (Sat.later p x1).mono (fun b hb H' x' => hb H' (x1.trans x')) fun _ z => z⟩
  | true => exact ite_tt (p H1 x1)
/-- the second reading, from a grown heap -/
theorem tD.again {σ : L2.St} {H H1 : Hp} {Q : VK} {ρ : Env} {Fs : Nat → List Addr} {k' : Nat} (er1 : ER X.K C O H1 σ ρ Fs) (x1 : Ex C.T H H1) (hk : k ≤ k')
    (p : Sat (F ρ) (fun d => ∀ v H' F', Ex C.T H H' → Rp X.K H' v d F' → KdOk k' O H Fs F' → Q v H') (WOk X.K C W σ H)) : tD X.K C W O k F σ H1 Q :=
  ⟨ρ, Fs, er1, (Sat.later p x1).mono (fun d q v H' F' x' r kd => q v H' F' (x1.trans x') r ((kd.back x1).up hk)) fun _ z => z⟩
theorem ev_one {op : BoolOp} (h : EV X C W O a k F) : EV X C W O (.BoolOp op [a] pos) k F := pe_one h
theorem ev_and {k : Nat} (h : EV X C W O a ka F) (h' : EV X C W O (.BoolOp .And (b :: rest) pos) kb G) (hk : max ka kb = k := by rfl) : EV X C W O (.BoolOp .And (a :: b :: rest) pos) k (eAnd F G) := (pe_andT h h').imp fun σ H Q ⟨ρ, Fs, er, q⟩ => by
  subst hk
  refine tD.step er (Sat.bind q) fun d v H1 F1 p er1 x1 r1 kd1 => ?_
  have p := Sat.bind p
  cases e : truthD d with
  | ok t =>
    rw [e] at p
    obtain ⟨t', h1, h2⟩ := truV (P := fun c => c = t) r1 (by rw [e]; exact rfl)
    subst h2
    refine ⟨t', h1, ?_⟩
    cases t' with
    | true => exact ite_tt (tD.again er1 x1 (Nat.le_max_right _ _) p)
    | false => exact ite_ff (p v H1 F1 x1 r1 (kd1.up (Nat.le_max_left _ _)))
  | exc c => exact (truthD_nox d c e).elim
  | stuck => rw [e] at p; exact p.elim
theorem ev_or {k : Nat} (h : EV X C W O a ka F) (h' : EV X C W O (.BoolOp .Or (b :: rest) pos) kb G) (hk : max ka kb = k := by rfl) : EV X C W O (.BoolOp .Or (a :: b :: rest) pos) k (eOr F G) := (pe_orT h h').imp fun σ H Q ⟨ρ, Fs, er, q⟩ => by
  subst hk
  refine tD.step er (Sat.bind q) fun d v H1 F1 p er1 x1 r1 kd1 => ?_
  have p := Sat.bind p
  cases e : truthD d with
  | ok t =>
    rw [e] at p
    obtain ⟨t', h1, h2⟩ := truV (P := fun c => c = t) r1 (by rw [e]; exact rfl)
    subst h2
    refine ⟨t', h1, ?_⟩
    cases t' with
    | false => exact ite_ff (tD.again er1 x1 (Nat.le_max_right _ _) p)
    | true => exact ite_tt (p v H1 F1 x1 r1 (kd1.up (Nat.le_max_left _ _)))
  | exc c => exact (truthD_nox d c e).elim
  | stuck => rw [e] at p; exact p.elim
theorem ev_not (h : EV X C W O a k F) : EV X C W O (.UnaryOp .Not a pos) 0 (eNot F) := (pe_notT h).imp fun σ H Q ⟨ρ, Fs, er, q⟩ => by
  refine tD.step er (Sat.bind q) fun d v H1 F1 p er1 x1 r1 kd1 => ?_
  obtain ⟨t, h1, h2⟩ := truV r1 ((Sat.bind p).nox (truthD_nox d))
  exact ⟨t, h1, h2 _ H1 [] x1 (.bl _) .nil⟩
theorem ev_if {k : Nat} (hc : TV X C W O c B) (h : EV X C W O a ka F) (h' : EV X C W O b kb G) (hk : max ka kb = k := by rfl) : EV X C W O (.IfExp c a b pos) k (eIf B F G) := (pe_ifExp hc h h').imp fun σ H Q ⟨ρ, Fs, er, q⟩ => by
  subst hk
  refine tB.step er (Sat.bind q) fun d H1 p er1 x1 => ?_
  cases d with
  | true => exact ite_tt (tD.again er1 x1 (Nat.le_max_left _ _) p)
  | false => exact ite_ff (tD.again er1 x1 (Nat.le_max_right _ _) p)
/-! ### chains of two comparisons -/
def eChain (g g' : D → D → R D) (F G J : EF) : EF := fun ρ => (F ρ).bind fun x => (G ρ).bind fun y => (g x y).bind fun z => match z with
  | .bool true => (J ρ).bind fun w => g' y w
  | .bool false => .ok (.bool false)
  | _ => .stuck
def bChain (g g' : D → D → R D) (F G J : EF) : Env → R Bool := fun ρ => (eChain g g' F G J ρ).bind fun z => match z with
  | .bool b => .ok b
  | _ => .stuck
theorem chain_read {r r' : R2} {g g' : D → D → R D} (nox : ∀ x y, NoX (g x y)) (nox' : ∀ x y, NoX (g' x y))
    (hr : ∀ H x y dx dy Fx Fy Q, Rp X.K H x dx Fx → Rp X.K H y dy Fy → Sat (g dx dy) (fun d => ∀ v H' F', Ex C.T H H' → Rp X.K H' v d F' → Mix H Fx Fy F' → Q v H') (fun _ => False) → r x y H Q)
    (hr' : ∀ H x y dx dy Fx Fy Q, Rp X.K H x dx Fx → Rp X.K H y dy Fy → Sat (g' dx dy) (fun d => ∀ v H' F', Ex C.T H H' → Rp X.K H' v d F' → Mix H Fx Fy F' → Q v H') (fun _ => False) → r' x y H Q)
    {σ : L2.St} {H : Hp} {Q : VK} {ρ : Env} {Fs : Nat → List Addr} (er : ER X.K C O H σ ρ Fs)
    (h : Sat (eChain g g' F G J ρ) (fun d => ∀ v H' F', Ex C.T H H' → Rp X.K H' v d F' → Q v H') (WOk X.K C W σ H)) : tChain r r' (tD X.K C W O ka F) (tD X.K C W O kb G) (tD X.K C W O kc J) σ H Q := by
  refine tD.step er (Sat.bind h) fun d v H1 F1 p er1 x1 r1 kd1 => ?_
  refine tD.step er1 (Sat.later (Sat.bind p) x1) fun d2 v2 H2 F2 p2 er2 x2 r2 kd2 => ?_
  have x12 := x1.trans x2
  have p2 := Sat.bind p2
  cases e : g d d2 with
  | ok z =>
    rw [e] at p2
    refine hr H2 v v2 d d2 F1 F2 _ (r1.ex x2) r2 ?_
    rw [e]
    intro v3 H3 F3 x3 r3 m
    have x123 := x12.trans x3
    cases z with
    | bool b =>
      cases r3
      cases b with
      | false => exact ⟨false, rfl, ite_ff (p2 _ H3 [] x123 (.bl _))⟩
      | true =>
        refine ⟨true, rfl, ite_tt ?_⟩
        have p2 : Sat ((J ρ).bind fun w => g' d2 w) _ _ := p2
        refine tD.step (er2.ex x3) (Sat.later (Sat.bind p2) x123) fun d4 v4 H4 F4 p4 er4 x4 r4 kd4 => ?_
        exact hr' H4 v2 v4 d2 d4 F2 F4 Q (r2.ex (x3.trans x4)) r4 ((p4.nox (nox' _ _)).mono (fun d5 p5 v5 H5 F5 x5 r5 m5 => p5 v5 H5 F5 ((x123.trans x4).trans x5) r5) fun _ z => z)
    | _ => exact p2.elim
  | exc c => exact (nox _ _ c e).elim
  | stuck => rw [e] at p2; exact p2.elim
theorem eChain_imm {g g' : D → D → R D} {ρ : Env} (h : ∀ x y z, g' x y = .ok z → imm z = true) {z : D} (e : eChain g g' F G J ρ = .ok z) : imm z = true := by
  unfold eChain at e
  cases e1 : F ρ with
  | ok x =>
    rw [e1, R.bind_ok] at e
    cases e2 : G ρ with
    | ok y =>
      rw [e2, R.bind_ok] at e
      cases e3 : g x y with
      | ok w =>
        rw [e3, R.bind_ok] at e
        cases w with
        | bool b =>
          cases b with
          | false => cases e; rfl
          | true =>
            cases e4 : J ρ with
            | ok q =>
              simp only [e4, R.bind_ok] at e
              exact h _ _ _ e
            | exc c => simp only [e4, R.bind_exc] at e; cases e
            | stuck => simp only [e4, R.bind_stuck] at e; cases e
        | _ => cases e
      | exc c => rw [e3] at e; cases e
      | stuck => rw [e3] at e; cases e
    | exc c => rw [e2] at e; cases e
    | stuck => rw [e2] at e; cases e
  | exc c => rw [e1] at e; cases e
  | stuck => rw [e1] at e; cases e
theorem ev_chain {op op' : CmpOp} {g g' : D → D → R D} (Bg : BinD X C.T (compareOp op) g) (Bg' : BinD X C.T (compareOp op') g') (ha : EV X C W O a ka F) (hb : EV X C W O b kb G) (hc : EV X C W O c kc J)
    (him : ∀ x y z, g' x y = .ok z → imm z = true) (hm : lastMarks [op, op'] [b, c] = false := by with_unfolding_all rfl) : EV X C W O (.Compare a [op, op'] [b, c] pos) 0 (eChain g g' F G J) := by
  obtain ⟨nox, r, ho, hr⟩ := Bg
  obtain ⟨nox', r', ho', hr'⟩ := Bg'
  refine (pe_chain ho ho' ha hb hc hm).imp fun σ H Q ⟨ρ, Fs, er, q⟩ => ?_
  refine chain_read (W := W) nox nox' hr hr' er ?_
  cases e : eChain g g' F G J ρ with
  | ok z =>
    rw [e] at q
    intro v H' F' x r
    have e1 := r.imm (eChain_imm him e)
    subst e1
    exact q v H' [] x r .nil
  | exc c => rw [e] at q; exact q
  | stuck => rw [e] at q; exact q
theorem tv_chain {op op' : CmpOp} {g g' : D → D → R D} (Bg : BinD X C.T (compareOp op) g) (Bg' : BinD X C.T (compareOp op') g') (ha : EV X C W O a ka F) (hb : EV X C W O b kb G) (hc : EV X C W O c kc J)
    (hm : lastMarks [op, op'] [b, c] = false := by with_unfolding_all rfl) : TV X C W O (.Compare a [op, op'] [b, c] pos) (bChain g g' F G J) := by
  obtain ⟨nox, r, ho, hr⟩ := Bg
  obtain ⟨nox', r', ho', hr'⟩ := Bg'
  refine (pt_chain ho ho' ha hb hc hm).imp fun σ H Q ⟨ρ, Fs, er, q⟩ => ?_
  refine chain_read (W := W) nox nox' hr hr' er ?_
  refine (Sat.bind q).mono (fun z p v H' F' x r => ?_) fun _ z => z
  cases z with
  | bool b => cases r; exact ⟨b, rfl, p H' x⟩
  | _ => exact p.elim
theorem imm_le {x y z : D} (h : leD x y = .ok z) : imm z = true := by
  cases x <;> cases y <;> first | (cases h; rfl) | cases h
theorem imm_lt {x y z : D} (h : ltD x y = .ok z) : imm z = true := by
  cases x <;> cases y <;> first | (cases h; rfl) | cases h
/-! ### displays -/
end
def lNil : Env → R (List D) := fun _ => .ok []
def lCons (F : EF) (L : Env → R (List D)) : Env → R (List D) := fun ρ => (F ρ).bind fun x => (L ρ).bind fun xs => .ok (x :: xs)
def eTup (L : Env → R (List D)) : EF := fun ρ => (L ρ).bind fun xs => .ok (.tuple xs)
def eLst (L : Env → R (List D)) : EF := fun ρ => (L ρ).bind fun xs => .ok (.list xs)
/-- an argument list; its length -/
structure AVn (X : Cx) (C : Cc) (W : WX) (O : Own) (es : List Expr) (k : Nat) (F : Env → R (List D)) : Prop where
  av : AV X C W O es k F
  n : ∀ ρ ds, F ρ = .ok ds → ds.length = es.length
section
variable {X : Cx} {C : Cc} {W : WX} {O : Own} {pos : Pos} {a : Expr} {es : List Expr} {F : EF} {L : Env → R (List D)} {ka kb k : Nat}
theorem av_nil : AVn X C W O [] 0 lNil := ⟨pa_nil.imp fun σ H Q ⟨ρ, Fs, er, q⟩ => q [] H [] .refl .nil .nil, fun ρ ds e => by cases e; rfl⟩
theorem av_cons (ha : EV X C W O a ka F) (hr : AVn X C W O es kb L) (hs : starEach (a :: es) X.env = (false, eval a X.env) :: starEach es X.env := by rfl) {k : Nat} (hk : max ka kb = k := by rfl) : AVn X C W O (a :: es) k (lCons F L) := by
  subst hk
  refine ⟨(pa_cons ha hr.av hs).imp fun σ H Q ⟨ρ, Fs, er, q⟩ => ?_, fun ρ ds e => ?_⟩
  · refine tD.step er (Sat.bind q) fun d v H1 F1 p er1 x1 r1 kd1 => ?_
    refine tL.step er1 (Sat.later (Sat.bind p) x1) fun d2 v2 H2 F2 p2 er2 x2 r2 kd2 => ?_
    exact p2 _ H2 _ (x1.trans x2) (.cons (r1.ex x2) r2) (kd1.mix kd2 x1 x2 r1.nn .app)
  · unfold lCons at e
    cases e1 : F ρ with
    | ok x =>
      rw [e1, R.bind_ok] at e
      cases e2 : L ρ with
      | ok xs =>
        rw [e2] at e
        cases e
        rw [List.length_cons, List.length_cons, hr.n ρ xs e2]
      | exc c => rw [e2] at e; cases e
      | stuck => rw [e2] at e; cases e
    | exc c => rw [e1] at e; cases e
    | stuck => rw [e1] at e; cases e
theorem av_up (h : AVn X C W O es k L) (hk : k ≤ kb) : AVn X C W O es kb L := ⟨h.av.imp fun σ H Q ⟨ρ, Fs, er, q⟩ =>
  tL.step er q fun d v H1 F1 p er1 x1 r1 kd1 => p v H1 F1 x1 r1 (kd1.up hk), h.n⟩
theorem sat_n {σ : L2.St} {H : Hp} {ρ : Env} {P : List D → Prop} {E : Str → Prop} (h : AVn X C W O es k L) (q : Sat (L ρ) P E) : Sat (L ρ) (fun ds => ds.length = es.length ∧ P ds) E := by
  cases e : L ρ with
  | ok ds => rw [e] at q; exact ⟨h.n ρ ds e, q⟩
  | exc c => rw [e] at q; exact q
  | stuck => rw [e] at q; exact q
theorem ev_tup {x1} (h : AVn X C W O es k L) (hn : es.length ≤ 1000 := by decide) : EV X C W O (.Tuple es x1 pos) k (eTup L) := (pe_tupF h.av).imp fun σ H Q ⟨ρ, Fs, er, q⟩ => by
  refine tL.step er (sat_n (σ := σ) (H := H) h (Sat.bind q)) fun d v H1 F1 ⟨hl, p⟩ er1 x1 r1 kd1 => ⟨by rw [sz16, r1.length, hl]; omega, fun a o ha ho => ?_⟩
  have x2 : Ex C.T H1 (upd H1 a (.frz o (.tup v))) := .new ha
  exact p _ _ F1 (x1.trans x2) (.tup (.new ho) (r1.ex x2)) (kd1.mix1 x1 .refl)
theorem ev_lst (h : AVn X C W O es k L) (hn : es.length ≤ 1000 := by decide) : EV X C W O (.List es pos) k (eLst L) := (pe_lst h.av).imp fun σ H Q ⟨ρ, Fs, er, q⟩ => by
  refine tL.step er (sat_n (σ := σ) (H := H) h (Sat.bind q)) fun d v H1 F1 ⟨hl, p⟩ er1 x1 r1 kd1 => ⟨by rw [sz16, r1.length, hl]; omega, fun a ha => ?_⟩
  have x2 : Ex C.T H1 (upd H1 a (.lst v)) := .new ha
  exact p _ _ (a :: F1) (x1.trans x2) (.lst upd_same (r1.ex x2)) (kd1.mix1 x1 (mix1_new ha r1.nn (List.Sublist.refl _)))
end
/-! ### subscripts -/
def ixD : D → D → R D
  | .tuple ds, .int i => match atI ds i with
    | some d => .ok d
    | none => .stuck
  | .list ds, .int i => match atI ds i with
    | some d => .ok d
    | none => .stuck
  | .dict [(.none, .tuple ds)], .int i => match atI ds i with
    | some d => .ok d
    | none => .stuck
  | .str z, .int i => if z.length ≤ 16777216 then (match atI z.cps.toList i with
    | some c => .ok (.str ⟨#[c]⟩)
    | none => .stuck) else .stuck
  | _, _ => .stuck
theorem atI_rp {K : PySem.W.Frag} {H : Hp} {xs : List V} {ds : List D} {F : List Addr} {i : Int} {d : D} (r : RpL K H xs ds F) (h : atI ds i = some d) : ∃ v G, atI xs i = some v ∧ Rp K H v d G ∧ List.Sublist G F := by
  unfold atI at h ⊢
  rw [r.length]
  cases e : ixN ds.length i with
  | none => rw [e] at h; cases h
  | some j =>
    rw [e] at h
    exact r.get h
def cut {α : Type} (xs : List α) (lo hi : Option Int) : List α := (xs.drop (HT.sIx xs.length 0 lo)).take (HT.sIx xs.length xs.length hi - HT.sIx xs.length 0 lo)
theorem cut_rp {K : PySem.W.Frag} {H : Hp} {xs : List V} {ds : List D} {F : List Addr} (lo hi : Option Int) (r : RpL K H xs ds F) : ∃ G, RpL K H (cutV xs lo hi) (cut ds lo hi) G ∧ List.Sublist G F := by
  unfold cutV cut
  rw [r.length]
  obtain ⟨G, r1, s1⟩ := r.drop (HT.sIx ds.length 0 lo)
  obtain ⟨G2, r2, s2⟩ := r1.take (HT.sIx ds.length ds.length hi - HT.sIx ds.length 0 lo)
  exact ⟨G2, r2, s2.trans s1⟩
def slD (x : D) (lo hi : Option Int) : R D := match x with
  | .tuple ds => .ok (.tuple (cut ds lo hi))
  | .list ds => .ok (.list (cut ds lo hi))
  | .str z => if z.length ≤ 16777216 then .ok (.str (cutS z lo hi)) else .stuck
  | _ => .stuck
/-- one thing in -/
structure Mk1 (K : PySem.W.Frag) (T : List Addr) (g : D → R D) (r : V → Hp → VK → Prop) : Prop where
  nox : ∀ x, NoX (g x)
  rd : ∀ H x dx Fx Q, Rp K H x dx Fx → Sat (g dx) (fun d => ∀ v H' F', Ex T H H' → Rp K H' v d F' → Mix1 H Fx F' → Q v H') (fun _ => False) → r x H Q
def partD : R D → R (Option Int)
  | .ok (.int i) => .ok (some i)
  | .ok _ => .stuck
  | .exc c => .exc c
  | .stuck => .stuck
def eIx (F G : EF) : EF := eBin ixD F G
def eSl (F : EF) (lo hi : Env → R (Option Int)) : EF := fun ρ => (F ρ).bind fun x => (lo ρ).bind fun l => (hi ρ).bind fun h => slD x l h
def pNone : Env → R (Option Int) := fun _ => .ok none
def pSome (F : EF) : Env → R (Option Int) := fun ρ => (F ρ).bind fun d => match d with
  | .int i => .ok (some i)
  | _ => .stuck
section
variable {X : Cx} {C : Cc} {W : WX} {O : Own} {pos p2 : Pos} {a b : Expr} {F G : EF} {ka kb k : Nat} {lo hi : Option Expr} {L U : Env → R (Option Int)}
theorem noxIx (x y : D) : NoX (ixD x y) := by
  unfold ixD
  split <;> first | exact noxS | (split <;> first | exact noxO | exact noxS | (split <;> first | exact noxO | exact noxS))
theorem ix_read (H : Hp) (x y : V) (dx dy : D) (Fx Fy : List Addr) (Q : VK) (rx : Rp X.K H x dx Fx) (ry : Rp X.K H y dy Fy)
    (h : Sat (ixD dx dy) (fun d => ∀ v H' F', Ex C.T H H' → Rp X.K H' v d F' → Mix1 H Fx F' → Q v H') (fun _ => False)) : rIx X.K x y H Q := by
  have key : ∀ {ds : List D} {i : Int} {P : D → Prop}, Sat (match atI ds i with | some d => .ok d | none => .stuck : R D) P (fun _ => False) → ∃ d, atI ds i = some d ∧ P d := fun {ds i P} h => by
    cases e : atI ds i with
    | some d => rw [e] at h; exact ⟨d, rfl, h⟩
    | none => rw [e] at h; exact h.elim
  cases rx with
  | @tup p xs ds F s r =>
    cases dy <;> first | exact False.elim h | skip
    cases ry
    obtain ⟨d, e, q⟩ := key h
    obtain ⟨v, G, e2, r2, sb⟩ := atI_rp r e
    exact .inr (.inl ⟨p, xs, _, v, rfl, rfl, s.sq, e2, q v H G .refl r2 (mix1_sub sb)⟩)
  | @lst p xs ds F s r =>
    cases dy <;> first | exact False.elim h | skip
    cases ry
    obtain ⟨d, e, q⟩ := key h
    obtain ⟨v, G, e2, r2, sb⟩ := atI_rp r e
    exact .inl ⟨p, xs, _, v, rfl, rfl, .inl (.inl s), e2, q v H G .refl r2 (mix1_sub (sb.trans (List.sublist_cons_self _ _)))⟩
  | @ro p xs ds s r =>
    cases dy <;> first | exact False.elim h | skip
    cases ry
    obtain ⟨d, e, q⟩ := key h
    obtain ⟨v, G, e2, r2, sb⟩ := atI_rp r e
    exact .inl ⟨p, xs, _, v, rfl, rfl, s.sq, e2, q v H G .refl r2 (mix1_sub sb)⟩
  | str z =>
    cases dy <;> first | exact False.elim h | skip
    rename_i i
    cases ry
    obtain ⟨hz, h⟩ := satI h
    cases e : atI z.cps.toList i with
    | some c =>
      rw [e] at h
      exact .inr (.inr ⟨z, i, c, rfl, rfl, by rw [sz16]; exact hz, e, h _ H [] .refl (.str _) .nil⟩)
    | none => rw [e] at h; exact h.elim
  | @dK p kvs ks vs F e1 e2 r =>
    exfalso
    cases kvs with
    | nil => subst e2; cases dy <;> exact h
    | cons kv kvs =>
      subst e2
      cases r with
      | cons r1 r2 =>
        obtain ⟨kk, vv⟩ := kv
        cases kk <;> cases dy <;> exact h
  | @dT p kvs ks vs F e1 e2 r =>
    exfalso
    cases e2 with
    | nil => cases dy <;> exact h
    | cons k1 k2 k3 =>
      cases r with
      | cons r1 r2 => cases dy <;> exact h
  | _ => cases dy <;> exact False.elim h
theorem ev_ix (ha : EV X C W O a ka F) (hb : EV X C W O b kb G) (hs : PlainIx b := by exact fun _ _ => rfl) : EV X C W O (.Subscript a b pos) ka (eIx F G) := (pe_ix ix_seq ha hb hs).imp fun σ H Q ⟨ρ, Fs, er, q⟩ => by
  refine tD.step er (Sat.bind q) fun d v H1 F1 p er1 x1 r1 kd1 => ?_
  refine tD.step er1 (Sat.later (Sat.bind p) x1) fun d2 v2 H2 F2 p2 er2 x2 r2 kd2 => ?_
  refine ix_read (C := C) H2 v v2 d d2 F1 F2 Q (r1.ex x2) r2 ((p2.nox (noxIx _ _)).mono (fun d3 p3 v3 H3 F3 x3 r3 m => ?_) fun _ z => z)
  exact p3 v3 H3 F3 ((x1.trans x2).trans x3) r3 (kd1.mix1 (x1.trans x2) m)
/-- a part of a slice -/
structure PV (X : Cx) (C : Cc) (W : WX) (O : Own) (e : Option Expr) (L : Env → R (Option Int)) : Prop where
  ex : ∃ t, PO X e t ∧ ∀ σ H ρ Fs Q, ER X.K C O H σ ρ Fs → Sat (L ρ) (fun o => ∀ H', Ex C.T H H' → Q o H') (WOk X.K C W σ H) → t σ H Q
theorem pv_none : PV X C W O none pNone := ⟨_, po_none, fun σ H ρ Fs Q er h => h H .refl⟩
theorem pv_some (ha : EV X C W O a k F) : PV X C W O (some a) (pSome F) := ⟨_, po_some ha, fun σ H ρ Fs Q er h => by
  refine tD.step er (Sat.bind h) fun d v H1 F1 p er1 x1 r1 kd1 => ?_
  cases d with
  | int i => cases r1; exact ⟨i, rfl, p H1 x1⟩
  | _ => exact p.elim⟩
theorem ev_sl (ha : EV X C W O a k F) (hl : PV X C W O lo L) (hu : PV X C W O hi U) : EV X C W O (.Subscript a (.Slice lo hi none p2) pos) k (eSl F L U) := by
  obtain ⟨tl, hl, rl⟩ := hl
  obtain ⟨tu, hu, ru⟩ := hu
  refine (pe_slice (sl_tupF.or (sl_list.or sl_str)) ha hl hu).imp fun σ H Q ⟨ρ, Fs, er, q⟩ => ?_
  refine tD.step er (Sat.bind q) fun d v H1 F1 p er1 x1 r1 kd1 => ?_
  refine rl σ H1 ρ Fs _ er1 (Sat.mono (Sat.later (Sat.bind p) x1) (fun l p2 H2 x2 => ?_) fun _ z => z)
  have er2 := er1.ex x2
  have x12 := x1.trans x2
  refine ru σ H2 ρ Fs _ er2 (Sat.mono (Sat.later (Sat.bind p2) x12) (fun u p3 H3 x3 => ?_) fun _ z => z)
  have x := x12.trans x3
  have r := r1.ex (x2.trans x3)
  cases r with
  | @tup t xs ds F s r =>
    obtain ⟨G, r2, sb⟩ := cut_rp l u r
    refine .inl ⟨t, xs, rfl, s.sq, fun hw => ?_, fun _ a o ha ho => ?_⟩
    · refine p3 _ H3 F1 x (.tup s ?_) (kd1.mix1 x1 .refl)
      have e : cut ds l u = ds := by
        unfold cut
        rw [← r.length, hw.1, hw.2, Nat.sub_zero, List.drop_zero, r.length, List.take_length]
      rw [e]; exact r
    · have x4 : Ex C.T H3 (upd H3 a (.frz o (.tup (cutV xs l u)))) := .new ha
      exact p3 _ _ G (x.trans x4) (.tup (.new ho) (r2.ex x4)) (kd1.mix1 x (mix1_sub sb))
  | @lst t xs ds F s r =>
    obtain ⟨G, r2, sb⟩ := cut_rp l u r
    refine .inr (.inl ⟨t, xs, rfl, .inl (.inl s), fun a ha => ?_⟩)
    have x4 : Ex C.T H3 (upd H3 a (.lst (cutV xs l u))) := .new ha
    refine p3 _ _ (a :: G) (x.trans x4) (.lst upd_same (r2.ex x4)) (kd1.mix1 x ?_)
    have m : Mix1 H3 F (a :: G) := mix1_new ha r.nn sb
    exact ⟨fun c hc => (m.mem c hc).imp (List.mem_cons_of_mem _) id, fun nd => m.nd (List.nodup_cons.mp nd).2⟩
  | str z =>
    obtain ⟨hz, p3⟩ := satI p3
    exact .inr (.inr ⟨z, rfl, by rw [sz16]; exact hz, p3 _ H3 [] x (.str _) .nil⟩)
  | _ => exact p3.elim
end
end Pd
namespace Pd
open PySem PySem.Spec PyProof.Rows L2
/-! ### how a statement ends -/
inductive RS where
  | nx (ρ : Env)
  | rt (d : D)
  | bk (ρ : Env)
  | ct (ρ : Env)
  | exc (c : Str) (ρ : Env)
  | stuck
def Fin (K : PySem.W.Frag) (C : Cc) (W : WX) (Ob O' : Own) (De : Ends) : RS → Prop
  | .nx ρ => ∀ σ H Fs, ER K C O' H σ ρ Fs → De.nx σ H
  | .rt d => ∀ v H F, Ex C.T C.H0 H → (∀ P ∈ C.T, GxR.TabG H P) → Rp K H v d F → F.Nodup → (∀ b ∈ F, C.H0 b = none) → De.rt v H
  | .bk ρ => ∀ σ H Fs, ER K C Ob H σ ρ Fs → De.bk σ H
  | .ct ρ => ∀ σ H Fs, ER K C Ob H σ ρ Fs → De.ct σ H
  | .exc c ρ => ∀ σ H Fs, ER K C [] H σ ρ Fs → W (.ref (He.ga K c)) none σ H
  | .stuck => False
def sD (K : PySem.W.Frag) (C : Cc) (W : WX) (Ob O O' : Own) (F : Env → RS) : TS := fun D σ H => ∃ ρ Fs, ER K C O H σ ρ Fs ∧ Fin K C W Ob O' D (F ρ)
abbrev SV (X : Cx) (C : Cc) (W : WX) (Ob O O' : Own) (st : Stmt) (F : Env → RS) : Prop := PS X st (sD X.K C W Ob O O' F)
abbrev SVs (X : Cx) (C : Cc) (W : WX) (Ob O O' : Own) (st : List Stmt) (F : Env → RS) : Prop := PSs X st (sD X.K C W Ob O O' F)
def RS.of {α : Type} (r : R α) (ρ : Env) (f : α → RS) : RS := match r with
  | .ok a => f a
  | .exc c => .exc c ρ
  | .stuck => .stuck
@[simp] theorem RS.of_ok {α : Type} {a : α} {ρ : Env} {f : α → RS} : RS.of (.ok a) ρ f = f a := rfl
@[simp] theorem RS.of_exc {α : Type} {c : Str} {ρ : Env} {f : α → RS} : RS.of (.exc c) ρ f = .exc c ρ := rfl
@[simp] theorem RS.of_stuck {α : Type} {ρ : Env} {f : α → RS} : RS.of .stuck ρ f = .stuck := rfl
def seqD (F G : Env → RS) : Env → RS := fun ρ => match F ρ with
  | .nx ρ' => G ρ'
  | r => r
def ifD (c : Env → R Bool) (F G : Env → RS) : Env → RS := fun ρ => RS.of (c ρ) ρ fun b => if b = true then F ρ else G ρ
def nextD : Env → RS := .nx
def brkD : Env → RS := .bk
def contD : Env → RS := .ct
def dropD (F : EF) : Env → RS := fun ρ => RS.of (F ρ) ρ fun _ => .nx ρ
def retD (F : EF) : Env → RS := fun ρ => RS.of (F ρ) ρ .rt
def setD (i : Nat) (F : EF) : Env → RS := fun ρ => RS.of (F ρ) ρ fun d => .nx (ρ.put i d)
def moveD (i j : Nat) : Env → RS := fun ρ => RS.of (ρ.get j) ρ fun d => .nx ((ρ.del j).put i d)
def neverD : Env → RS := fun _ => .stuck
section
variable {K : PySem.W.Frag} {C : Cc} {W : WX} {Ob O O' : Own} {σ : L2.St} {H H' H1 : Hp} {ρ : Env} {Fs : Nat → List Addr} {De : Ends}
theorem fin_of {α : Type} {r : R α} {f : α → RS} (er : ER K C O H σ ρ Fs) (h : Fin K C W Ob O' De (RS.of r ρ f)) : Sat r (fun a => Fin K C W Ob O' De (f a)) (WOk K C W σ H) := by
  cases r with
  | ok a => exact h
  | exc c => exact fun H' x => h σ H' Fs ((er.ex x).less fun i hi => (nomatch hi))
  | stuck => exact h
theorem ER.lkdom (er : ER K C O H σ ρ Fs) {l : Lk} (hl : l ∈ C.lk) : ∀ b ∈ l.F, H b ≠ none := fun b hb => by
  obtain ⟨o, e, _⟩ := (er.lks l hl).dom b hb
  rw [(er.lks l hl).kp.at_ b hb, e]; simp
theorem ER.nn (er : ER K C O H σ ρ Fs) (i : Nat) : ∀ b ∈ Fs i, H b ≠ none := fun b hb => by
  obtain ⟨o, e, _⟩ := er.dom i b hb
  rw [e]; simp
theorem put_at {ρ : Env} {i j : Nat} {d d' : D} (h : (ρ.put i d)[j]? = some (some d')) : (j = i ∧ i < ρ.length ∧ d' = d) ∨ (j ≠ i ∧ ρ[j]? = some (some d')) := by
  unfold Env.put at h
  by_cases e : j = i
  · subst e
    by_cases hl : j < ρ.length
    · rw [List.getElem?_set_self hl] at h
      exact .inl ⟨rfl, hl, by cases h; rfl⟩
    · rw [List.getElem?_eq_none (by simpa using hl)] at h; cases h
  · rw [List.getElem?_set_ne (Ne.symm e)] at h
    exact .inr ⟨e, h⟩
theorem put_ne {ρ : Env} {i j : Nat} {d : D} (e : j ≠ i) : (ρ.put i d)[j]? = ρ[j]? := by
  unfold Env.put
  rw [List.getElem?_set_ne (Ne.symm e)]
/-- a slot is written -/
theorem ER.put {i k : Nat} {v : V} {d : D} {F : List Addr} (er : ER K C O H σ ρ Fs) (x : Ex C.T H H1) (r : Rp K H1 v d F) (kd : KdOk k O H Fs F) (hk : k ≤ 1) (hO : ∀ j ∈ O', (j = i ∧ k = 0) ∨ (j ≠ i ∧ j ∈ O)) :
    ∃ Fs', ER K C O' H1 (σ.set i (some v)) (ρ.put i d) Fs' := by
  have er1 := er.ex x
  by_cases hi : i < ρ.length
  · have hiσ : i < σ.length := by rw [er.len]; exact hi
    refine ⟨fun j => if j = i then F else Fs j, by simp [Env.put, er.len], fun j d' h => ?_, fun j h => ?_, fun j hj => ?_, er1.tab, er1.ext, fun l hl => ?_⟩
    · rcases put_at h with ⟨rfl, _, rfl⟩ | ⟨e, h⟩
      · exact ⟨v, by rw [List.getElem?_set_self hiσ], by rw [if_pos rfl]; exact r⟩
      · obtain ⟨v', h1, r'⟩ := er1.rep j d' h
        exact ⟨v', by rw [List.getElem?_set_ne (Ne.symm e)]; exact h1, by rw [if_neg e]; exact r'⟩
    · by_cases e : j = i
      · subst e
        exact absurd (show (ρ.put j d)[j]? = some (some d) by unfold Env.put; rw [List.getElem?_set_self hi]) (h d)
      · show (if j = i then F else Fs j) = []
        rw [if_neg e]
        exact er.emp j fun d' => by rw [← put_ne (d := d) e]; exact h d'
    · rcases hO j hj with ⟨e, k0⟩ | ⟨e, hj⟩
      · subst e
        obtain ⟨nd, fr⟩ := kd.fr k0
        refine ⟨by rw [if_pos rfl]; exact nd, by rw [if_pos rfl]; exact fun b hb => er.ext.free (fr b hb), fun j' e b hb => ?_⟩
        rw [if_pos rfl] at hb
        rw [if_neg e]
        exact fun z => er.nn j' b z (fr b hb)
      · obtain ⟨nd, fr, se⟩ := er.own j hj
        refine ⟨by rw [if_neg e]; exact nd, by rw [if_neg e]; exact fr, fun j' e' b hb => ?_⟩
        rw [if_neg e] at hb
        by_cases ei : j' = i
        · rw [if_pos ei]
          intro z
          rcases kd.le1 hk b z with w | ⟨j0, hj0, w⟩
          · exact er.nn j b hb w
          · exact se j0 (fun q => hj0 (q ▸ hj)) b hb w
        · rw [if_neg ei]
          exact se j' e' b hb
    · obtain ⟨st, kp, dom, sep⟩ := er1.lks l hl
      refine ⟨st, kp, dom, fun j hj hs b hb => ?_⟩
      rcases hO j hj with ⟨e, k0⟩ | ⟨e, hj⟩
      · rw [if_pos e] at hb
        exact fun z => er.lkdom hl b z ((kd.fr k0).2 b hb)
      · rw [if_neg e] at hb
        exact sep j hj hs b hb
  · have e1 : ρ.put i d = ρ := by
      unfold Env.put
      exact List.set_eq_of_length_le (by omega)
    have e2 : σ.set i (some v) = σ := List.set_eq_of_length_le (by rw [er.len]; omega)
    rw [e1, e2]
    have hn : ∀ d', ρ[i]? ≠ some (some d') := fun d' z => by
      rw [List.getElem?_eq_none (by omega)] at z; cases z
    have hF : Fs i = [] := er.emp i hn
    refine ⟨Fs, er1.len, er1.rep, er1.emp, fun j hj => ?_, er1.tab, er1.ext, fun l hl => ?_⟩
    · rcases hO j hj with ⟨e, k0⟩ | ⟨e, hj⟩
      · rw [e, hF]
        exact ⟨List.nodup_nil, fun b hb => (nomatch hb), fun _ _ b hb => (nomatch hb)⟩
      · exact er.own j hj
    · obtain ⟨st, kp, dom, sep⟩ := er1.lks l hl
      refine ⟨st, kp, dom, fun j hj hs b hb => ?_⟩
      rcases hO j hj with ⟨e, k0⟩ | ⟨e, hj⟩
      · rw [e, hF] at hb; cases hb
      · exact sep j hj hs b hb
/-- a slot is forgotten (of the mirror) -/
theorem ER.del {i : Nat} (er : ER K C O H σ ρ Fs) : ER K C O H σ (ρ.del i) (fun j => if j = i then [] else Fs j) where
  len := by simp [Env.del, er.len]
  rep := fun j d h => by
    unfold Env.del at h
    by_cases e : j = i
    · subst e
      by_cases hl : j < ρ.length
      · rw [List.getElem?_set_self hl] at h; cases h
      · rw [List.getElem?_eq_none (by simpa using hl)] at h; cases h
    · rw [List.getElem?_set_ne (Ne.symm e)] at h
      obtain ⟨v, h1, r⟩ := er.rep j d h
      exact ⟨v, h1, by rw [if_neg e]; exact r⟩
  emp := fun j h => by
    by_cases e : j = i
    · exact if_pos e
    · show (if j = i then [] else Fs j) = []
      rw [if_neg e]
      refine er.emp j fun d z => h d ?_
      unfold Env.del
      rw [List.getElem?_set_ne (Ne.symm e)]; exact z
  own := fun j hj => by
    by_cases e : j = i
    · rw [if_pos e]
      exact ⟨List.nodup_nil, fun b hb => (nomatch hb), fun _ _ b hb => (nomatch hb)⟩
    · rw [if_neg e]
      obtain ⟨a, b, c⟩ := er.own j hj
      refine ⟨a, b, fun j' e' b hb => ?_⟩
      by_cases ei : j' = i
      · rw [if_pos ei]; exact fun z => (nomatch z)
      · rw [if_neg ei]; exact c j' e' b hb
  tab := er.tab
  ext := er.ext
  lks := fun l hl => by
    obtain ⟨st, kp, dom, sep⟩ := er.lks l hl
    refine ⟨st, kp, dom, fun j hj hs b hb => ?_⟩
    by_cases e : j = i
    · rw [if_pos e] at hb; cases hb
    · rw [if_neg e] at hb
      exact sep j hj hs b hb
/-- what a slot holds comes out of it -/
theorem ER.out {i : Nat} {d : D} (er : ER K C O H σ ρ Fs) (h : ρ[i]? = some (some d)) (ho : i ∈ O) (hl : i ∉ C.ls) :
    ∃ v F, σ[i]? = some (some v) ∧ Rp K H v d F ∧ F.Nodup ∧ (∀ b ∈ F, C.H0 b = none) ∧ (∀ j b, b ∈ F → b ∉ (if j = i then [] else Fs j)) ∧ ∀ l ∈ C.lk, ∀ b ∈ F, b ∉ l.F := by
  obtain ⟨v, h1, r⟩ := er.rep i d h
  obtain ⟨a, b, c⟩ := er.own i ho
  refine ⟨v, Fs i, h1, r, a, b, fun j b hb => ?_, fun l hm b hb => (er.lks l hm).sep i ho (fun z => hl ((er.lks l hm).st i z)) b hb⟩
  by_cases e : j = i
  · rw [if_pos e]; exact fun z => (nomatch z)
  · rw [if_neg e]; exact c j e b hb
/-- a slot takes what is of no other -/
theorem ER.take {i : Nat} {v : V} {d : D} {F : List Addr} (er : ER K C O H σ ρ Fs) (r : Rp K H v d F) (nd : F.Nodup) (h0 : ∀ b ∈ F, C.H0 b = none) (se : ∀ j b, b ∈ F → b ∉ Fs j) (lk : ∀ l ∈ C.lk, ∀ b ∈ F, b ∉ l.F)
    (hO : ∀ j ∈ O', j = i ∨ (j ≠ i ∧ j ∈ O)) : ∃ Fs', ER K C O' H (σ.set i (some v)) (ρ.put i d) Fs' := by
  by_cases hi : i < ρ.length
  · have hiσ : i < σ.length := by rw [er.len]; exact hi
    refine ⟨fun j => if j = i then F else Fs j, by simp [Env.put, er.len], fun j d' h => ?_, fun j h => ?_, fun j hj => ?_, er.tab, er.ext, fun l hl => ?_⟩
    · rcases put_at h with ⟨rfl, _, rfl⟩ | ⟨e, h⟩
      · exact ⟨v, by rw [List.getElem?_set_self hiσ], by rw [if_pos rfl]; exact r⟩
      · obtain ⟨v', h1, r'⟩ := er.rep j d' h
        exact ⟨v', by rw [List.getElem?_set_ne (Ne.symm e)]; exact h1, by rw [if_neg e]; exact r'⟩
    · by_cases e : j = i
      · subst e
        exact absurd (show (ρ.put j d)[j]? = some (some d) by unfold Env.put; rw [List.getElem?_set_self hi]) (h d)
      · show (if j = i then F else Fs j) = []
        rw [if_neg e]
        exact er.emp j fun d' => by rw [← put_ne (d := d) e]; exact h d'
    · by_cases e : j = i
      · rw [if_pos e]
        exact ⟨nd, h0, fun j' e' b hb => by rw [if_neg (by omega)]; exact se j' b hb⟩
      · obtain ⟨a, b, c⟩ := er.own j (by rcases hO j hj with z | z; exact absurd z e; exact z.2)
        rw [if_neg e]
        refine ⟨a, b, fun j' e' b hb => ?_⟩
        by_cases ei : j' = i
        · rw [if_pos ei]; exact fun z => se j b z hb
        · rw [if_neg ei]; exact c j' e' b hb
    · obtain ⟨st, kp, dom, sep⟩ := er.lks l hl
      refine ⟨st, kp, dom, fun j hj hs b hb => ?_⟩
      by_cases e : j = i
      · rw [if_pos e] at hb; exact lk l hl b hb
      · rw [if_neg e] at hb
        exact sep j (by rcases hO j hj with z | z; exact absurd z e; exact z.2) hs b hb
  · have e1 : ρ.put i d = ρ := by
      unfold Env.put
      exact List.set_eq_of_length_le (by omega)
    have e2 : σ.set i (some v) = σ := List.set_eq_of_length_le (by rw [er.len]; omega)
    rw [e1, e2]
    have hn : ∀ d', ρ[i]? ≠ some (some d') := fun d' z => by
      rw [List.getElem?_eq_none (by omega)] at z; cases z
    have hF : Fs i = [] := er.emp i hn
    refine ⟨Fs, er.len, er.rep, er.emp, fun j hj => ?_, er.tab, er.ext, fun l hl => ?_⟩
    · rcases hO j hj with e | ⟨e, hj⟩
      · rw [e, hF]
        exact ⟨List.nodup_nil, fun b hb => (nomatch hb), fun _ _ b hb => (nomatch hb)⟩
      · exact er.own j hj
    · obtain ⟨st, kp, dom, sep⟩ := er.lks l hl
      refine ⟨st, kp, dom, fun j hj hs b hb => ?_⟩
      rcases hO j hj with e | ⟨e, hj⟩
      · rw [e, hF] at hb; cases hb
      · exact sep j hj hs b hb
end
/-! ### plain statements -/
section
variable {X : Cx} {C : Cc} {W : WX} {Ob O O1 O' : Own} {st : Stmt} {rest a b : List Stmt} {F G : Env → RS} {e : Expr} {E : EF} {k i j : Nat} {x : Str} {pos p2 : Pos} {B : Env → R Bool}
theorem sv_less {O2 : Own} (h : SV X C W Ob O O' st F) (hs : ∀ i ∈ O2, i ∈ O') : SV X C W Ob O O2 st F := h.imp fun D σ H ⟨ρ, Fs, er, q⟩ => by
  refine ⟨ρ, Fs, er, ?_⟩
  cases e : F ρ <;> rw [e] at q <;> first | exact q | skip
  exact fun σ' H' Fs' er' => q σ' H' Fs' (er'.less hs)
theorem svs_nil (hs : ∀ i ∈ O', i ∈ O := by decide) : SVs X C W Ob O O' [] nextD := pss_nil.imp fun D σ H ⟨ρ, Fs, er, q⟩ => q σ H Fs (er.less hs)
theorem svs_cons (h : SV X C W Ob O O1 st F) (h' : SVs X C W Ob O1 O' rest G) : SVs X C W Ob O O' (st :: rest) (seqD F G) := (pss_cons h h').imp fun D σ H ⟨ρ, Fs, er, q⟩ => by
  refine ⟨ρ, Fs, er, ?_⟩
  unfold seqD at q
  cases e : F ρ <;> rw [e] at q <;> first | exact q | skip
  exact fun σ' H' Fs' er' => ⟨_, Fs', er', q⟩
theorem svs_one (h : SV X C W Ob O O' st F) : SVs X C W Ob O O' [st] F := pss_one h
theorem sv_if (hc : TV X C W O e B) (ha : SVs X C W Ob O O' a F) (hb : SVs X C W Ob O O' b G) : SV X C W Ob O O' (.If e a b pos) (ifD B F G) := (ps_if hc ha hb).imp fun D σ H ⟨ρ, Fs, er, q⟩ => by
  refine tB.step er (fin_of er q) fun c H1 p er1 x1 => ?_
  cases c with
  | true => exact ite_tt ⟨ρ, Fs, er1, p⟩
  | false => exact ite_ff ⟨ρ, Fs, er1, p⟩
theorem sv_pass (hs : ∀ i ∈ O', i ∈ O := by decide) : SV X C W Ob O O' (.Pass pos) nextD := ps_pass.imp fun D σ H ⟨ρ, Fs, er, q⟩ => q σ H Fs (er.less hs)
theorem sv_brk (hs : ∀ i ∈ Ob, i ∈ O := by decide) : SV X C W Ob O O' (.Break pos) brkD := ps_break.imp fun D σ H ⟨ρ, Fs, er, q⟩ => q σ H Fs (er.less hs)
theorem sv_cont (hs : ∀ i ∈ Ob, i ∈ O := by decide) : SV X C W Ob O O' (.Continue pos) contD := ps_continue.imp fun D σ H ⟨ρ, Fs, er, q⟩ => q σ H Fs (er.less hs)
theorem sv_expr (he : EV X C W O e k E) (hs : ∀ i ∈ O', i ∈ O := by decide) (hw : swapsWith e none pos.line X.env = pure false := by rfl) : SV X C W Ob O O' (.Expr e pos) (dropD E) := (ps_expr he hw).imp fun D σ H ⟨ρ, Fs, er, q⟩ =>
  tD.step er (fin_of er q) fun d v H1 F1 p er1 x1 r1 kd1 => p σ H1 Fs (er1.less hs)
theorem sv_ret (he : EV X C W O e 0 E) : SV X C W Ob O O' (.Return (some e) pos) (retD E) := (ps_ret he).imp fun D σ H ⟨ρ, Fs, er, q⟩ =>
  tD.step er (fin_of er q) fun d v H1 F1 p er1 x1 r1 kd1 => p v H1 F1 er1.ext er1.tab r1 (kd1.fr rfl).1 fun b hb => er.ext.free ((kd1.fr rfl).2 b hb)
theorem sv_retO (he : PE X e (tVar i)) (ho : i ∈ O := by decide) : SV X C W Ob O O' (.Return (some e) pos) (retD (eName i)) := (ps_ret he).imp fun D σ H ⟨ρ, Fs, er, q⟩ => by
  obtain ⟨d, h1, h2⟩ := get_sat (fin_of er q)
  obtain ⟨v, h3, r⟩ := er.rep i d h1
  exact ⟨v, h3, h2 v H _ er.ext er.tab r (er.own i ho).1 (er.own i ho).2.1⟩
theorem sv_retN : SV X C W Ob O O' (.Return none pos) (retD (eC .none)) := ps_retN.imp fun D σ H ⟨ρ, Fs, er, q⟩ => q .non H [] er.ext er.tab .non List.nodup_nil fun b hb => (nomatch hb)
theorem sv_set (hN : X.N.Nodup) (hi : X.N[i]? = some x) (hx : Loc X.env.scope x) (he : EV X C W O e k E) (hk : k ≤ 1 := by decide) (hO : ∀ j ∈ O', (j = i ∧ k = 0) ∨ (j ≠ i ∧ j ∈ O) := by decide)
    (hs : swapsWith e (some (.Name x p2)) pos.line X.env = pure false := by rfl) (hf : X.fn x = true ∨ X.env.scope.names.lookup x = some .local := by first | exact .inl rfl | exact .inr rfl | assumption) :
    SV X C W Ob O O' (.Assign [.Name x p2] e pos) (setD i E) := (ps_set hN hi hx he hs hf).imp fun D σ H ⟨ρ, Fs, er, q⟩ => by
  refine tD.step er (fin_of er q) fun d v H1 F1 p er1 x1 r1 kd1 => ?_
  obtain ⟨Fs', er'⟩ := er.put (O' := O') x1 r1 kd1 hk hO
  exact p _ _ Fs' er'
theorem sv_move (hN : X.N.Nodup) (hi : X.N[i]? = some x) (hx : Loc X.env.scope x) (he : PE X e (tVar j)) (ho : j ∈ O := by decide) (hl : decide (j ∈ C.ls) = false := by rfl) (hO : ∀ m ∈ O', m = i ∨ (m ≠ i ∧ m ∈ O) := by decide)
    (hs : swapsWith e (some (.Name x p2)) pos.line X.env = pure false := by rfl) (hf : X.fn x = true ∨ X.env.scope.names.lookup x = some .local := by first | exact .inl rfl | exact .inr rfl | assumption) :
    SV X C W Ob O O' (.Assign [.Name x p2] e pos) (moveD i j) := (ps_set hN hi hx he hs hf).imp fun D σ H ⟨ρ, Fs, er, q⟩ => by
  obtain ⟨d, h1, h2⟩ := get_sat (fin_of er q)
  obtain ⟨v, F, h3, r, nd, h0, se, lk⟩ := er.out h1 ho (of_decide_eq_false hl)
  obtain ⟨Fs', er'⟩ := (er.del (i := j)).take (O' := O') r nd h0 se lk hO
  exact ⟨v, h3, h2 _ _ Fs' er'⟩
end
end Pd
namespace Pd
open PySem PySem.Spec PyProof.Rows L2
section
variable {K : PySem.W.Frag} {C : Cc} {W : WX} {Ob O O' : Own} {σ : L2.St} {H H' H1 : Hp} {ρ : Env} {Fs : Nat → List Addr} {De : Ends}
/-- a slot is written, in general -/
theorem ER.store {i : Nat} {v : V} {d : D} {F : List Addr} (er : ER K C O H σ ρ Fs) (r : Rp K H v d F)
    (hO : ∀ j ∈ O', (j = i ∧ F.Nodup ∧ (∀ b ∈ F, C.H0 b = none) ∧ (∀ j' b, j' ≠ i → b ∈ F → b ∉ Fs j') ∧ ∀ l ∈ C.lk, ∀ b ∈ F, b ∉ l.F) ∨ (j ≠ i ∧ j ∈ O))
    (hd : ∀ j ∈ O', j ≠ i → ∀ b ∈ Fs j, b ∉ F) : ∃ Fs', ER K C O' H (σ.set i (some v)) (ρ.put i d) Fs' ∧ (∀ j, j ≠ i → Fs' j = Fs j) ∧ (Fs' i = F ∨ Fs' i = []) := by
  by_cases hi : i < ρ.length
  · have hiσ : i < σ.length := by rw [er.len]; exact hi
    refine ⟨fun j => if j = i then F else Fs j, ⟨by simp [Env.put, er.len], fun j d' h => ?_, fun j h => ?_, fun j hj => ?_, er.tab, er.ext, fun l hl => ?_⟩, fun j e => if_neg e, .inl (if_pos rfl)⟩
    · rcases put_at h with ⟨rfl, _, rfl⟩ | ⟨e, h⟩
      · exact ⟨v, by rw [List.getElem?_set_self hiσ], by rw [if_pos rfl]; exact r⟩
      · obtain ⟨v', h1, r'⟩ := er.rep j d' h
        exact ⟨v', by rw [List.getElem?_set_ne (Ne.symm e)]; exact h1, by rw [if_neg e]; exact r'⟩
    · by_cases e : j = i
      · subst e
        exact absurd (show (ρ.put j d)[j]? = some (some d) by unfold Env.put; rw [List.getElem?_set_self hi]) (h d)
      · show (if j = i then F else Fs j) = []
        rw [if_neg e]
        exact er.emp j fun d' => by rw [← put_ne (d := d) e]; exact h d'
    · rcases hO j hj with ⟨e, nd, h0, se, _⟩ | ⟨e, hjO⟩
      · subst e
        rw [if_pos rfl]
        exact ⟨nd, h0, fun j' e' b hb => by rw [if_neg e']; exact se j' b e' hb⟩
      · obtain ⟨a, b, c⟩ := er.own j hjO
        rw [if_neg e]
        refine ⟨a, b, fun j' e' b hb => ?_⟩
        by_cases ei : j' = i
        · rw [if_pos ei]; exact hd j hj e b hb
        · rw [if_neg ei]; exact c j' e' b hb
    · obtain ⟨st, kp, dom, sep⟩ := er.lks l hl
      refine ⟨st, kp, dom, fun j hj hs b hb => ?_⟩
      rcases hO j hj with ⟨e, _, _, _, lk⟩ | ⟨e, hjO⟩
      · rw [if_pos e] at hb; exact lk l hl b hb
      · rw [if_neg e] at hb; exact sep j hjO hs b hb
  · have e1 : ρ.put i d = ρ := by
      unfold Env.put
      exact List.set_eq_of_length_le (by omega)
    have e2 : σ.set i (some v) = σ := List.set_eq_of_length_le (by rw [er.len]; omega)
    rw [e1, e2]
    have hn : ∀ d', ρ[i]? ≠ some (some d') := fun d' z => by
      rw [List.getElem?_eq_none (by omega)] at z; cases z
    have hF : Fs i = [] := er.emp i hn
    refine ⟨Fs, ⟨er.len, er.rep, er.emp, fun j hj => ?_, er.tab, er.ext, fun l hl => ?_⟩, fun _ _ => rfl, .inr hF⟩
    · rcases hO j hj with ⟨e, _⟩ | ⟨e, hj⟩
      · rw [e, hF]
        exact ⟨List.nodup_nil, fun b hb => (nomatch hb), fun _ _ b hb => (nomatch hb)⟩
      · exact er.own j hj
    · obtain ⟨st, kp, dom, sep⟩ := er.lks l hl
      refine ⟨st, kp, dom, fun j hj hs b hb => ?_⟩
      rcases hO j hj with ⟨e, _⟩ | ⟨e, hj⟩
      · rw [e, hF] at hb; cases hb
      · exact sep j hj hs b hb
def setsV : List Nat → List V → L2.St → L2.St
  | i :: is, v :: vs, σ => setsV is vs (σ.set i (some v))
  | _, _, σ => σ
def putsD : List Nat → List D → Env → Env
  | i :: is, d :: ds, ρ => putsD is ds (ρ.put i d)
  | _, _, ρ => ρ
/-- several slots are written, from the left; fr: they take what they own -/
theorem ER.stores (fr : Bool) : ∀ {is : List Nat} {vs : List V} {ds : List D} {F : List Addr} {O O' : Own} {σ : L2.St} {ρ : Env} {Fs : Nat → List Addr}, ER K C O H σ ρ Fs → RpL K H vs ds F → is.Nodup → is.length = ds.length →
    (fr = true → F.Nodup ∧ (∀ b ∈ F, C.H0 b = none) ∧ (∀ j b, j ∉ is → b ∈ F → b ∉ Fs j) ∧ ∀ l ∈ C.lk, ∀ b ∈ F, b ∉ l.F) → (∀ j ∈ O, j ∉ is → ∀ b ∈ Fs j, b ∉ F) → (fr = true → ∀ j ∈ is, ∀ b ∈ F, b ∉ Fs j) →
    (∀ m ∈ O', (m ∈ is ∧ fr = true) ∨ (m ∉ is ∧ m ∈ O)) → ∃ Fs', ER K C O' H (setsV is vs σ) (putsD is ds ρ) Fs' ∧ ∀ j, j ∉ is → Fs' j = Fs j := by
  intro is
  induction is with
  | nil =>
    intro vs ds F O O' σ ρ Fs er r _ _ _ _ _ hO
    refine ⟨Fs, ?_, fun _ _ => rfl⟩
    cases r <;> exact er.less fun m hm => ((hO m hm).elim (fun z => (nomatch z.1)) fun z => z.2)
  | cons i is ih =>
    intro vs ds F O O' σ ρ Fs er r nd hl hf hd hi hO
    cases r with
    | nil => cases hl
    | @cons v vs d ds F G rv rs =>
      obtain ⟨ni, nd'⟩ := List.nodup_cons.mp nd
      have hl' : is.length = ds.length := Nat.succ.inj hl
      refine Exists.elim (er.store (O' := (if fr = true then [i] else []) ++ O.filter (fun m => decide (m ≠ i ∧ m ∉ is))) (i := i) rv (fun j hj => ?_) fun j hj hji b hb => ?_) fun Fs1 ⟨er1, k1, k2⟩ => ?_
      · rcases List.mem_append.mp hj with z | z
        · by_cases q : fr = true
          · rw [if_pos q] at z
            have e : j = i := by simpa using z
            obtain ⟨a, b, c, d'⟩ := hf q
            obtain ⟨a1, a2, a3⟩ := List.nodup_append.mp a
            refine .inl ⟨e, a1, fun b' hb => b b' (List.mem_append_left _ hb), fun j' b' hj' hb => ?_, fun l hl b' hb => d' l hl b' (List.mem_append_left _ hb)⟩
            by_cases w : j' ∈ is
            · exact hi q j' (List.mem_cons_of_mem _ w) b' (List.mem_append_left _ hb)
            · exact c j' b' (fun y => (List.mem_cons.mp y).elim hj' w) (List.mem_append_left _ hb)
          · rw [if_neg q] at z; cases z
        · have z := List.mem_filter.mp z
          exact .inr ⟨(of_decide_eq_true z.2).1, z.1⟩
      · rcases List.mem_append.mp hj with z | z
        · by_cases q : fr = true
          · rw [if_pos q] at z
            exact absurd (show j = i by simpa using z) hji
          · rw [if_neg q] at z; cases z
        · have z := List.mem_filter.mp z
          have z2 := of_decide_eq_true z.2
          exact fun w => hd j z.1 (fun w => (List.mem_cons.mp w).elim z2.1 z2.2) b hb (List.mem_append_left _ w)
      · have k2' : ∀ b ∈ Fs1 i, b ∈ F := fun b hb => by
          rcases k2 with z | z
          · rw [z] at hb; exact hb
          · rw [z] at hb; cases hb
        refine Exists.elim (ih (O' := O') er1 rs nd' hl' (fun q => ?_) (fun j hj hji b hb => ?_) (fun q j hj b hb => ?_) fun m hm => ?_) fun Fs2 ⟨er2, k3⟩ => ?_
        · obtain ⟨a, b, c, d'⟩ := hf q
          obtain ⟨a1, a2, a3⟩ := List.nodup_append.mp a
          refine ⟨a2, fun b' hb => b b' (List.mem_append_right _ hb), fun j b' hj hb z => ?_, fun l hl b' hb => d' l hl b' (List.mem_append_right _ hb)⟩
          by_cases e : j = i
          · subst e
            exact a3 _ (k2' _ z) _ hb rfl
          · rw [k1 j e] at z
            exact c j b' (fun w => (List.mem_cons.mp w).elim e hj) (List.mem_append_right _ hb) z
        · rcases List.mem_append.mp hj with z | z
          · by_cases q : fr = true
            · rw [if_pos q] at z
              have e : j = i := by simpa using z
              subst e
              obtain ⟨a1, a2, a3⟩ := List.nodup_append.mp (hf q).1
              exact fun w => a3 _ (k2' _ hb) _ w rfl
            · rw [if_neg q] at z; cases z
          · have z := List.mem_filter.mp z
            have z2 := of_decide_eq_true z.2
            rw [k1 j z2.1] at hb
            exact fun w => hd j z.1 (fun w => (List.mem_cons.mp w).elim z2.1 z2.2) b hb (List.mem_append_right _ w)
        · rw [k1 j fun z => ni (z ▸ hj)]
          exact hi q j (List.mem_cons_of_mem _ hj) b (List.mem_append_right _ hb)
        · rcases hO m hm with ⟨z, q⟩ | ⟨z, q⟩
          · by_cases e : m ∈ is
            · exact .inl ⟨e, q⟩
            · have e' : m = i := (List.mem_cons.mp z).elim id fun w => absurd w e
              exact .inr ⟨e, List.mem_append_left _ (by rw [if_pos q, e']; exact List.mem_cons_self)⟩
          · exact .inr ⟨fun w => z (List.mem_cons_of_mem _ w), List.mem_append_right _ (List.mem_filter.mpr ⟨q, decide_eq_true ⟨fun w => z (w ▸ List.mem_cons_self), fun w => z (List.mem_cons_of_mem _ w)⟩⟩)⟩
        · exact ⟨Fs2, er2, fun j hj => (k3 j fun z => hj (List.mem_cons_of_mem _ z)).trans (k1 j fun z => hj (z ▸ List.mem_cons_self))⟩
/-- an owned list is changed -/
theorem ER.upd {i : Nat} {a : Addr} {ds' : List D} {xs xs' : List V} {F F2 : List Addr} (er : ER K C O H σ ρ Fs) (ho : i ∈ O) (hl : i ∉ C.ls) (hs : σ[i]? = some (some (.ref a))) (hF : Fs i = a :: F) (hH : H a = some (.lst xs))
    (r : RpL K H xs' ds' F2) (nd : (a :: F2).Nodup) (sub : ∀ b ∈ F2, b ∈ F ∨ (C.H0 b = none ∧ (∀ j, b ∉ Fs j) ∧ ∀ l ∈ C.lk, b ∉ l.F)) (hO : ∀ j ∈ O', j ∈ O) :
    ∃ Fs', ER K C O' (L2.upd H a (.lst xs')) σ (ρ.put i (.list ds')) Fs' := by
  obtain ⟨nd0, fr0, se0⟩ := er.own i ho
  have ha0 : C.H0 a = none := fr0 a (by rw [hF]; exact List.mem_cons_self)
  have nt : ∀ b xs, H b = some (.tup xs) → b ≠ a := fun b ys e z => by rw [z, hH] at e; cases e
  have nf : ∀ b o u, H b = some (.frz o u) → b ≠ a := fun b o u e z => by rw [z, hH] at e; cases e
  have kp : ∀ S : List Addr, a ∉ S → Kp H (L2.upd H a (.lst xs')) S := fun S h => ⟨fun b ys e => by rw [upd_ne (nt _ _ e)]; exact e, fun b o u e => by rw [upd_ne (nf _ _ _ e)]; exact e, fun b hb => upd_ne fun z => h (z ▸ hb)⟩
  have hi : i < σ.length := (List.getElem?_eq_some_iff.mp hs).1
  have hlr : i < ρ.length := by rw [← er.len]; exact hi
  obtain ⟨na, nd2⟩ := List.nodup_cons.mp nd
  have so : ∀ l ∈ C.lk, l.so ≠ some i := fun l hm z => hl ((er.lks l hm).st i z)
  refine ⟨fun j => if j = i then a :: F2 else Fs j, by simp [Env.put, er.len], fun j d h => ?_, fun j h => ?_, fun j hj => ?_, fun P hP => ?_, ⟨fun b o e n => ?_, fun b e => ?_, fun t P hP => ?_⟩, fun l hm => ?_⟩
  · rcases put_at h with ⟨rfl, _, rfl⟩ | ⟨e, h⟩
    · exact ⟨_, hs, by rw [if_pos rfl]; exact .lst upd_same (r.kp (kp _ na))⟩
    · obtain ⟨v, h1, r'⟩ := er.rep j d h
      refine ⟨v, h1, ?_⟩
      rw [if_neg e]
      exact r'.kp (kp _ fun z => se0 j e a (by rw [hF]; exact List.mem_cons_self) z)
  · by_cases e : j = i
    · subst e
      exact absurd (show (ρ.put j (.list ds'))[j]? = some (some (.list ds')) by unfold Env.put; rw [List.getElem?_set_self hlr]) (h _)
    · show (if j = i then a :: F2 else Fs j) = []
      rw [if_neg e]
      exact er.emp j fun d' => by rw [← put_ne (d := .list ds') e]; exact h d'
  · by_cases e : j = i
    · subst e
      rw [if_pos rfl]
      refine ⟨nd, fun b hb => ?_, fun j' e' b hb => ?_⟩
      · rcases List.mem_cons.mp hb with z | z
        · rw [z]; exact ha0
        · rcases sub b z with w | w
          · exact fr0 b (by rw [hF]; exact List.mem_cons_of_mem _ w)
          · exact w.1
      · rw [if_neg e']
        rcases List.mem_cons.mp hb with z | z
        · rw [z]; exact se0 j' e' a (by rw [hF]; exact List.mem_cons_self)
        · rcases sub b z with w | w
          · exact se0 j' e' b (by rw [hF]; exact List.mem_cons_of_mem _ w)
          · exact w.2.1 j'
    · obtain ⟨p, q, s⟩ := er.own j (hO j hj)
      rw [if_neg e]
      refine ⟨p, q, fun j' e' b hb => ?_⟩
      by_cases ei : j' = i
      · rw [if_pos ei]
        intro z
        rcases List.mem_cons.mp z with z | z
        · subst z
          exact se0 j e b (by rw [hF]; exact List.mem_cons_self) hb
        · rcases sub b z with w | w
          · exact se0 j e b (by rw [hF]; exact List.mem_cons_of_mem _ w) hb
          · exact w.2.1 j hb
      · rw [if_neg ei]; exact s j' e' b hb
  · obtain ⟨ps, h1, h2⟩ := er.tab P hP
    exact ⟨ps, by rw [upd_ne fun z => by rw [z, hH] at h1; cases h1]; exact h1, h2⟩
  · have e1 := er.ext.kept b o e n
    rw [upd_ne fun z => by rw [z, ha0] at e; cases e]; exact e1
  · rw [upd_ne fun z => by rw [z, ha0] at e; exact e rfl]
    exact er.ext.dom b e
  · obtain ⟨ps, h1, h2⟩ := er.tab P hP
    exact ⟨ps, by rw [upd_ne fun z => by rw [z, hH] at h1; cases h1]; exact h1, h2⟩
  · obtain ⟨st, k, dom, sep⟩ := er.lks l hm
    refine ⟨st, k.trans (kp _ fun z => sep i ho (so l hm) a (by rw [hF]; exact List.mem_cons_self) z), dom, fun j hj hs' b hb => ?_⟩
    by_cases e : j = i
    · subst e
      rw [if_pos rfl] at hb
      rcases List.mem_cons.mp hb with z | z
      · rw [z]; exact sep j ho hs' a (by rw [hF]; exact List.mem_cons_self)
      · rcases sub b z with w | w
        · exact sep j ho hs' b (by rw [hF]; exact List.mem_cons_of_mem _ w)
        · exact w.2.2 l hm
    · rw [if_neg e] at hb
      exact sep j (hO j hj) hs' b hb
/-- the list at a slot -/
theorem ER.at_lst {i : Nat} {ds : List D} (er : ER K C O H σ ρ Fs) (h : ρ[i]? = some (some (.list ds))) : ∃ a xs F, σ[i]? = some (some (.ref a)) ∧ Fs i = a :: F ∧ H a = some (.lst xs) ∧ RpL K H xs ds F := by
  obtain ⟨v, h1, r⟩ := er.rep i _ h
  generalize hF : Fs i = G at r
  cases r with
  | @lst a xs _ F s r => exact ⟨a, xs, F, h1, rfl, s, r⟩
end
/-! ### targets -/
/-- σ' is σ but for the slots is -/
def SameO (is : List Nat) (σ σ' : L2.St) : Prop := σ'.length = σ.length ∧ ∀ j, j ∉ is → σ'[j]? = σ[j]?
def tG (K : PySem.W.Frag) (O : Own) (is : List Nat) (g : Env → D → R Env) : TG := fun v σ H Q => ∃ C ρ Fs d F, ER K C O H σ ρ Fs ∧ Rp K H v d F ∧ (∀ j ∈ O, ∀ b ∈ Fs j, b ∉ F) ∧
  Sat (g ρ d) (fun ρ' => ∀ σ' Fs', ER K C O H σ' ρ' Fs' → (∀ j ∈ O, Fs' j = Fs j) → SameO is σ σ' → Q σ' H) (fun _ => False)
def tGs (K : PySem.W.Frag) (O : Own) (is : List Nat) (g : Env → List D → R Env) : TGs := fun v σ H Q => ∃ C ρ Fs d F, ER K C O H σ ρ Fs ∧ RpL K H v d F ∧ (∀ j ∈ O, ∀ b ∈ Fs j, b ∉ F) ∧
  Sat (g ρ d) (fun ρ' => ∀ σ' Fs', ER K C O H σ' ρ' Fs' → (∀ j ∈ O, Fs' j = Fs j) → SameO is σ σ' → Q σ' H) (fun _ => False)
structure GV (X : Cx) (O : Own) (tg : Expr) (is : List Nat) (g : Env → D → R Env) : Prop where
  nox : ∀ ρ d, NoX (g ρ d)
  pg : PG X tg (tG X.K O is g)
structure GVs (X : Cx) (O : Own) (tg : List Expr) (is : List Nat) (g : Env → List D → R Env) : Prop where
  nox : ∀ ρ d, NoX (g ρ d)
  len : ∀ ρ ds ρ', g ρ ds = .ok ρ' → ds.length = tg.length
  pg : PGs X tg (tGs X.K O is g)
theorem _root_.L2.PG.imp {X : Cx} {e : Expr} {t t' : TG} (h : PG X e t) (i : ∀ v σ H Q, t' v σ H Q → t v σ H Q) : PG X e t' := ⟨fun pins s σ H v u Q I r q => h.run pins s σ H v u Q I r (i _ _ _ _ q)⟩
theorem _root_.L2.PGs.imp {X : Cx} {e : List Expr} {t t' : TGs} (h : PGs X e t) (i : ∀ v σ H Q, t' v σ H Q → t v σ H Q) : PGs X e t' := ⟨fun pins s σ H v u Q I r q => h.run pins s σ H v u Q I r (i _ _ _ _ q)⟩
theorem SameO.refl {is : List Nat} {σ : L2.St} : SameO is σ σ := ⟨rfl, fun _ _ => rfl⟩
theorem SameO.trans {is is' : List Nat} {σ σ1 σ2 : L2.St} (x : SameO is σ σ1) (y : SameO is' σ1 σ2) : SameO (is ++ is') σ σ2 := ⟨y.1.trans x.1, fun j hj => (y.2 j fun z => hj (List.mem_append_right _ z)).trans (x.2 j fun z => hj (List.mem_append_left _ z))⟩
def gN (i : Nat) : Env → D → R Env := fun ρ d => .ok (ρ.put i d)
def gNilD : Env → List D → R Env := fun ρ ds => match ds with
  | [] => .ok ρ
  | _ => .stuck
def gConsD (g : Env → D → R Env) (h : Env → List D → R Env) : Env → List D → R Env := fun ρ ds => match ds with
  | d :: ds => (g ρ d).bind fun ρ1 => h ρ1 ds
  | [] => .stuck
def gTupD (g : Env → List D → R Env) : Env → D → R Env := fun ρ d => match d with
  | .tuple ds => g ρ ds
  | _ => .stuck
theorem bind_nox {α β : Type} {r : R α} {f : α → R β} (h : NoX r) (h' : ∀ a, NoX (f a)) : NoX (r.bind f) := by
  intro c e
  cases r with
  | ok a => exact h' a c e
  | exc c' => exact h c' rfl
  | stuck => cases e
section
variable {X : Cx} {C : Cc} {W : WX} {Ob O O1 O' : Own} {st : Stmt} {rest a b : List Stmt} {F G : Env → RS} {e : Expr} {E : EF} {k i j : Nat} {x y : Str} {pos p2 : Pos} {B : Env → R Bool} {tg : Expr} {es : List Expr} {g : Env → D → R Env} {h : Env → List D → R Env}
theorem gv_name (hN : X.N.Nodup) (hi : X.N[i]? = some x) (hx : Loc X.env.scope x) (ho : i ∉ O := by decide) (hf : X.fn x = true ∨ X.env.scope.names.lookup x = some .local := by first | exact .inl rfl | exact .inr rfl | assumption) : GV X O (.Name x pos) [i] (gN i) := by
  refine ⟨fun _ _ => noxO, (pg_name hN hi hx hf).imp fun v σ H Q ⟨C, ρ, Fs, d, F, er, r, hd, q⟩ => ?_⟩
  obtain ⟨Fs', er', k1, _⟩ := er.store (O' := O) (i := i) r (fun j hj => .inr ⟨fun z => ho (z ▸ hj), hj⟩) fun j hj _ => hd j hj
  exact q _ Fs' er' (fun j hj => k1 j fun z => ho (z ▸ hj)) ⟨by simp, fun j hj => List.getElem?_set_ne fun z => hj (by rw [z]; exact List.mem_cons_self)⟩
theorem gvs_nil : GVs X O [] [] gNilD := by
  refine ⟨fun ρ d => ?_, fun ρ ds ρ' e => ?_, pgs_nil.imp fun v σ H Q ⟨C, ρ, Fs, d, F, er, r, hd, q⟩ => ?_⟩
  · unfold gNilD; split <;> first | exact noxO | exact noxS
  · cases ds with
    | nil => rfl
    | cons => cases e
  · cases r with
    | nil => exact ⟨rfl, q σ Fs er (fun _ _ => rfl) .refl⟩
    | cons => exact q.elim
theorem gvs_cons {is is' : List Nat} (h1 : GV X O e is g) (h2 : GVs X O es is' h) (hs : (assignEach (e :: es) X.env).map (·.2) = assign e X.env :: (assignEach es X.env).map (·.2) := by rfl) : GVs X O (e :: es) (is ++ is') (gConsD g h) := by
  obtain ⟨n1, p1⟩ := h1
  obtain ⟨n2, l2, p2⟩ := h2
  refine ⟨fun ρ d => ?_, fun ρ ds ρ' e => ?_, (pgs_cons p1 p2 hs).imp fun v σ H Q ⟨C, ρ, Fs, d, F, er, r, hd, q⟩ => ?_⟩
  · unfold gConsD; split
    · exact bind_nox (n1 _ _) fun _ => n2 _ _
    · exact noxS
  · cases ds with
    | nil => cases e
    | cons d ds =>
      unfold gConsD at e
      cases e1 : g ρ d with
      | ok ρ1 => simp only [e1, R.bind_ok] at e; rw [List.length_cons, List.length_cons, l2 _ _ _ e]
      | exc c => simp only [e1, R.bind_exc] at e; cases e
      | stuck => simp only [e1, R.bind_stuck] at e; cases e
  · cases r with
    | nil => exact q.elim
    | @cons v vs d ds F G rv rs =>
      refine ⟨v, vs, rfl, C, ρ, Fs, d, F, er, rv, (fun j hj b hb z => hd j hj b hb (List.mem_append_left _ z)), (Sat.bind q).mono (fun ρ1 p σ1 Fs1 er1 k1 s1 => ?_) fun _ z => z⟩
      exact ⟨C, ρ1, Fs1, ds, G, er1, rs, (fun j hj b hb z => hd j hj b (by rw [← k1 j hj]; exact hb) (List.mem_append_right _ z)), p.mono (fun ρ2 p2 σ2 Fs2 er2 k2 s2 => p2 σ2 Fs2 er2 (fun j hj => (k2 j hj).trans (k1 j hj)) (s1.trans s2)) fun _ z => z⟩
theorem gv_tup {n : Nat} {is : List Nat} (hc : X.calm = true) (h1 : GVs X O es is h) (hn : (assignEach es X.env).length = es.length := by rfl) (hst : (assignEach es X.env).findIdx? (·.1) = none := by rfl) : GV X O (.Tuple es n pos) is (gTupD h) := by
  obtain ⟨n1, l1, p1⟩ := h1
  refine ⟨fun ρ d => ?_, (pg_tup hc p1 hn hst).imp fun v σ H Q ⟨C, ρ, Fs, d, F, er, r, hd, q⟩ => ?_⟩
  · unfold gTupD; split
    · exact n1 _ _
    · exact noxS
  · cases r with
    | @tup t xs ds F s r =>
      have hl : xs.length = es.length := by
        rw [r.length]
        have q : Sat (h ρ ds) _ _ := q
        cases e : h ρ ds with
        | ok ρ' => exact l1 _ _ _ e
        | exc c => exact (n1 _ _ _ e).elim
        | stuck => rw [e] at q; exact q.elim
      exact ⟨t, xs, rfl, s.sq, hl, C, ρ, Fs, ds, F, er, r, hd, q⟩
    | _ => exact q.elim
def setG (g : Env → D → R Env) (F : EF) : Env → RS := fun ρ => RS.of (F ρ) ρ fun d => RS.of (g ρ d) ρ .nx
theorem KdOk.sep {O : Own} {H : Hp} {Fs : Nat → List Addr} {F : List Addr} {K : PySem.W.Frag} {C : Cc} {σ : L2.St} {ρ : Env} (kd : KdOk k O H Fs F) (hk : k ≤ 1) (er : ER K C O H σ ρ Fs) : ∀ j ∈ O, ∀ b ∈ Fs j, b ∉ F := fun j hj b hb z => by
  rcases kd.le1 hk b z with w | ⟨j0, hj0, w⟩
  · exact er.nn j b hb w
  · exact (er.own j hj).2.2 j0 (fun q => hj0 (q ▸ hj)) b hb w
theorem sv_asg {is : List Nat} (hg : GV X O' tg is g) (he : EV X C W O e k E) (hk : k ≤ 1 := by decide) (hO : ∀ j ∈ O', j ∈ O := by decide) (hs : swapsWithSole [tg] e pos.line X.env = pure false := by rfl) (hw : swappedStores [tg] e X.env = pure none := by rfl)
    (h1 : (assignEach [tg] X.env).map (·.2) = [assign tg X.env] := by rfl) : SV X C W Ob O O' (.Assign [tg] e pos) (setG g E) := by
  obtain ⟨n1, p1⟩ := hg
  refine (ps_asg he p1 hs hw h1).imp fun De σ H ⟨ρ, Fs, er, q⟩ => ?_
  refine tD.step er (fin_of er q) fun d v H1 F1 p er1 x1 rr kd1 => ?_
  exact ⟨C, ρ, Fs, d, F1, er1.less hO, rr, (fun j hj => kd1.sep hk er j (hO j hj)), ((fin_of er1 p).nox (n1 _ _)).mono (fun ρ1 p1 σ1 Fs1 er2 _ _ => p1 σ1 H1 Fs1 er2) fun _ z => z⟩
/-- a, b = x, y -/
def parD (is : List Nat) (L : Env → R (List D)) : Env → RS := fun ρ => RS.of (L ρ) ρ fun ds => .nx (putsD is ds ρ)
theorem par_read {is : List Nat} {L : Env → R (List D)} (h : AVn X C W O es k L) (hl : es.length = is.length) (nd : is.Nodup) (hk : k ≤ 1) (hO : ∀ m ∈ O', (m ∈ is ∧ decide (k = 0) = true) ∨ (m ∉ is ∧ m ∈ O)) {De : Ends} {σ : L2.St} {H : Hp}
    (q : sD X.K C W Ob O O' (parD is L) De σ H) : tL X.K C W O k L σ H fun vs H1 => vs.length = is.length ∧ De.nx (setsV is vs σ) H1 := by
  obtain ⟨ρ, Fs, er, q⟩ := q
  refine tL.step er (sat_n (σ := σ) (H := H) h (fin_of er q)) fun ds vs H1 F1 ⟨hds, p⟩ er1 x1 rr kd1 => ?_
  refine ⟨by rw [rr.length, hds, hl], ?_⟩
  refine Exists.elim (ER.stores (decide (k = 0)) (O' := O') er1 rr nd (by rw [hds, hl]) (fun z => ?_) (fun j hj _ => kd1.sep hk er j hj) (fun z j hj b hb w => er.nn j b w ((kd1.fr (of_decide_eq_true z)).2 b hb)) hO) fun Fs' ⟨er', _⟩ => p _ H1 Fs' er'
  obtain ⟨a, b⟩ := kd1.fr (of_decide_eq_true z)
  exact ⟨a, fun c hc => er.ext.free (b c hc), fun j c _ hc w => er.nn j c w (b c hc), fun l hl c hc w => er.lkdom hl c w (b c hc)⟩
theorem par_two {L : Env → R (List D)} {σ : L2.St} {H : Hp} {De : Ends} {i j : Nat} (h : tL X.K C W O k L σ H fun vs H1 => vs.length = 2 ∧ De.nx (setsV [i, j] vs σ) H1) : tL X.K C W O k L σ H fun vs H1 => ∃ v w, vs = [v, w] ∧ De.nx ((σ.set i (some v)).set j (some w)) H1 := by
  obtain ⟨ρ, Fs, er, q⟩ := h
  refine ⟨ρ, Fs, er, q.mono (fun d p v H' F' x r kd => ?_) fun _ z => z⟩
  obtain ⟨hl, p⟩ := p v H' F' x r kd
  match v, hl with
  | [v, w], _ => exact ⟨v, w, rfl, p⟩
theorem par_three {L : Env → R (List D)} {σ : L2.St} {H : Hp} {De : Ends} {i j l : Nat} (h : tL X.K C W O k L σ H fun vs H1 => vs.length = 3 ∧ De.nx (setsV [i, j, l] vs σ) H1) : tL X.K C W O k L σ H fun vs H1 => ∃ v w u, vs = [v, w, u] ∧ De.nx (((σ.set i (some v)).set j (some w)).set l (some u)) H1 := by
  obtain ⟨ρ, Fs, er, q⟩ := h
  refine ⟨ρ, Fs, er, q.mono (fun d p v H' F' x r kd => ?_) fun _ z => z⟩
  obtain ⟨hl, p⟩ := p v H' F' x r kd
  match v, hl with
  | [v, w, u], _ => exact ⟨v, w, u, rfl, p⟩
theorem sv_par {L : Env → R (List D)} {a b : Expr} {px py pt : Pos} {kt k2 pt2} (hc : X.calm = true) (hN : X.N.Nodup) (hi : X.N[i]? = some x) (hj : X.N[j]? = some y)
    (hx : X.env.scope.names.lookup x = some .local) (hy : X.env.scope.names.lookup y = some .local) (ha : AVn X C W O [a, b] k L) (hij : i ≠ j := by decide) (hk : k ≤ 1 := by decide) (hO : ∀ m ∈ O', (m ∈ [i, j] ∧ decide (k = 0) = true) ∨ (m ∉ [i, j] ∧ m ∈ O) := by decide)
    (hw : swappedStores [.Tuple [.Name x px, .Name y py] kt pt] (.Tuple [a, b] k2 pt2) X.env = pure (some [x, y]) := by rfl)
    (hs : swapsWithSole [.Tuple [.Name x px, .Name y py] kt pt] (.Tuple [a, b] k2 pt2) pos.line X.env = pure false := by rfl) :
    SV X C W Ob O O' (.Assign [.Tuple [.Name x px, .Name y py] kt pt] (.Tuple [a, b] k2 pt2) pos) (parD [i, j] L) := (ps_par hc hN hi hj hij hx hy ha.av hw hs).imp fun De σ H q => by
  exact par_two (par_read ha rfl (by simp [hij]) hk hO q)
theorem sv_par3 {l : Nat} {z : Str} {L : Env → R (List D)} {a b c : Expr} {px py pz pt : Pos} {kt k2 pt2} (hc : X.calm = true) (hN : X.N.Nodup) (hi : X.N[i]? = some x) (hj : X.N[j]? = some y) (hl : X.N[l]? = some z)
    (hx : X.env.scope.names.lookup x = some .local) (hy : X.env.scope.names.lookup y = some .local) (hz : X.env.scope.names.lookup z = some .local) (ha : AVn X C W O [a, b, c] k L) (hij : i ≠ j := by decide) (hil : i ≠ l := by decide) (hjl : j ≠ l := by decide)
    (hk : k ≤ 1 := by decide) (hO : ∀ m ∈ O', (m ∈ [i, j, l] ∧ decide (k = 0) = true) ∨ (m ∉ [i, j, l] ∧ m ∈ O) := by decide)
    (hw : swappedStores [.Tuple [.Name x px, .Name y py, .Name z pz] kt pt] (.Tuple [a, b, c] k2 pt2) X.env = pure (some [x, y, z]) := by rfl)
    (hs : swapsWithSole [.Tuple [.Name x px, .Name y py, .Name z pz] kt pt] (.Tuple [a, b, c] k2 pt2) pos.line X.env = pure false := by rfl) :
    SV X C W Ob O O' (.Assign [.Tuple [.Name x px, .Name y py, .Name z pz] kt pt] (.Tuple [a, b, c] k2 pt2) pos) (parD [i, j, l] L) := (ps_par3 hc hN hi hj hl hij hil hjl hx hy hz ha.av hw hs).imp fun De σ H q => by
  exact par_three (par_read ha rfl (by simp [hij, hil, hjl]) hk hO q)
end
end Pd
namespace Pd
open PySem PySem.Spec PyProof.Rows L2
/-! ### what a loop walks -/
structure ItOk (K : PySem.W.Frag) (T : List Addr) (l : Lk) (ds : List D) (J : It) : Prop where
  go : ∀ i H, Kp l.HG H l.F → i < ds.length → J.go i H
  yld : ∀ i H x H' d, Kp l.HG H l.F → ds[i]? = some d → J.yld i H x H' → Ex T H H' ∧ ∃ G, Rp K H' x d G ∧ ∀ b ∈ G, (l.so = none ∧ b ∈ l.F) ∨ H b = none
  stop : ∀ i H, Kp l.HG H l.F → ds.length ≤ i → J.stop i H
structure LkNew (O : Own) (Fs : Nat → List Addr) (H : Hp) (so : Option Nat) (l : Lk) : Prop where
  hg : l.HG = H
  hs : l.so = so
  dom : ∀ b ∈ l.F, ∃ o, H b = some o ∧ ∀ ps, o ≠ .tbl ps
  sep : ∀ j, j ∈ O → so ≠ some j → ∀ b ∈ Fs j, b ∉ l.F
def tI (K : PySem.W.Frag) (C : Cc) (W : WX) (O : Own) (so : Option Nat) (I : Env → R (List D)) : TI := fun σ H R => ∃ ρ Fs, ER K C O H σ ρ Fs ∧
  Sat (I ρ) (fun ds => ∀ J H1 l, Ex C.T H H1 → ItOk K C.T l ds J → LkNew O Fs H1 so l → R J H1) (WOk K C W σ H)
abbrev IV (X : Cx) (C : Cc) (W : WX) (O : Own) (tg iter : Expr) (so : Option Nat) (I : Env → R (List D)) : Prop := PI X tg iter (tI X.K C W O so I)
theorem _root_.L2.PI.imp {X : Cx} {tg e : Expr} {t t' : TI} (h : PI X tg e t) (i : ∀ σ H Q, t' σ H Q → t σ H Q) : PI X tg e t' := ⟨fun pins s σ H Q I q => h.run pins s σ H Q I (i _ _ _ q)⟩
def Cc.lock (C : Cc) (l : Lk) (so : Option Nat) : Cc := ⟨C.T, C.H0, l :: C.lk, so.toList ++ C.ls⟩
section
variable {K : PySem.W.Frag} {C : Cc} {W : WX} {Ob O O' : Own} {σ : L2.St} {H H' H1 : Hp} {ρ : Env} {Fs : Nat → List Addr} {De : Ends} {l : Lk} {so : Option Nat}
theorem ER.lock (er : ER K C O H σ ρ Fs) (n : LkNew O Fs H so l) : ER K (C.lock l so) O H σ ρ Fs where
  len := er.len
  rep := er.rep
  emp := er.emp
  own := er.own
  tab := er.tab
  ext := er.ext
  lks := fun m hm => by
    rcases List.mem_cons.mp hm with z | z
    · subst z
      obtain ⟨hg, hs, dom, sep⟩ := n
      subst hg hs
      exact ⟨fun i hi => List.mem_append_left _ (by rw [hi]; exact List.mem_cons_self), ⟨fun _ _ e => e, fun _ _ _ e => e, fun _ _ => rfl⟩, dom, sep⟩
    · obtain ⟨st, k, d, s⟩ := er.lks m z
      exact ⟨fun i hi => List.mem_append_right _ (st i hi), k, d, s⟩
theorem ER.unlock (er : ER K (C.lock l so) O H σ ρ Fs) (h : ∀ m ∈ C.lk, ∀ i, m.so = some i → i ∈ C.ls) : ER K C O H σ ρ Fs where
  len := er.len
  rep := er.rep
  emp := er.emp
  own := er.own
  tab := er.tab
  ext := er.ext
  lks := fun m hm => by
    obtain ⟨st, k, d, s⟩ := er.lks m (List.mem_cons_of_mem _ hm)
    exact ⟨h m hm, k, d, s⟩
end
def forD (g : Env → D → R Env) (B : Env → RS) : List D → Env → RS
  | [], ρ => .nx ρ
  | d :: ds, ρ => RS.of (g ρ d) ρ fun ρ1 => match B ρ1 with
    | .nx ρ2 => forD g B ds ρ2
    | .ct ρ2 => forD g B ds ρ2
    | .bk ρ2 => .nx ρ2
    | r => r
def forS (I : Env → R (List D)) (g : Env → D → R Env) (B : Env → RS) : Env → RS := fun ρ => RS.of (I ρ) ρ fun ds => forD g B ds ρ
def whD (c : Env → R Bool) (B : Env → RS) : Nat → Env → RS
  | 0, _ => .stuck
  | n + 1, ρ => RS.of (c ρ) ρ fun b => if b = true then (match B ρ with
    | .nx ρ2 => whD c B n ρ2
    | .ct ρ2 => whD c B n ρ2
    | .bk ρ2 => .nx ρ2
    | r => r) else .nx ρ
section
variable {X : Cx} {C : Cc} {W : WX} {Ob O O1 O' : Own} {st : Stmt} {body : List Stmt} {F G B : Env → RS} {e tg iter : Expr} {E : EF} {k i j n : Nat} {x y : Str} {pos p2 : Pos} {c : Env → R Bool} {g : Env → D → R Env} {I : Env → R (List D)} {so : Option Nat}
theorem sv_for (hp : PassesOwn (model X.prog X.w) X.A X.env X.xe) (hc : X.calm = true) (hi : IV X C W O tg iter so I) {is : List Nat} (hg : GV X O tg is g) (hb : ∀ l, SVs X (C.lock l so) W O O O body B)
    (hO : ∀ i ∈ O', i ∈ O := by decide) (hs : ∀ x, foldedSetIterable iter X.env x = pure x := by intro _; rfl) : SV X C W Ob O O' (.For tg iter body [] pos) (forS I g B) := by
  obtain ⟨ng, pg⟩ := hg
  have hb' : PSs X body (fun De σ H => ∃ l, sD X.K (C.lock l so) W O O O B De σ H) := ⟨fun pins s σ H De I ⟨l, h⟩ => (hb l).run pins s σ H De I h⟩
  refine (ps_for hp hc hi pg hb' hs).imp fun De σ H ⟨ρ, Fs, er, q⟩ => ?_
  have hls : ∀ m ∈ C.lk, ∀ i, m.so = some i → i ∈ C.ls := fun m hm => (er.lks m hm).st
  refine ⟨ρ, Fs, er, (fin_of er q).mono (fun ds p J H1 l x1 it nw => ?_) fun _ z => z⟩
  refine ⟨fun i m σ H => m + i = ds.length ∧ ∃ ρ Fs, ER X.K (C.lock l so) O H σ ρ Fs ∧ Fin X.K C W Ob O' De (forD g B (ds.drop i) ρ), ⟨ds.length, by omega, ρ, Fs, (er.ex x1).lock nw, p⟩, ?_⟩
  rintro i m σ1 H2 ⟨hm, ρ1, Fs1, er1, p1⟩
  have kp : Kp l.HG H2 l.F := (er1.lks l List.mem_cons_self).kp
  by_cases hlt : i < ds.length
  · have e1 : ds.drop i = ds[i] :: ds.drop (i + 1) := List.drop_eq_getElem_cons hlt
    rw [e1] at p1
    refine .inr ⟨it.go i H2 kp hlt, fun σ H => ∃ ρ Fs, ER X.K (C.lock l so) O H σ ρ Fs ∧ Fin X.K C W Ob O' De (forD g B (ds.drop (i + 1)) ρ), fun σ' H' h => ⟨m - 1, by omega, by omega, h⟩, fun v H3 y => ?_⟩
    obtain ⟨x3, G, r3, g3⟩ := it.yld i H2 v H3 ds[i] kp (List.getElem?_eq_getElem hlt) y
    have er3 := er1.ex x3
    refine ⟨C.lock l so, ρ1, Fs1, ds[i], G, er3, r3, (fun j hj b hb z => ?_), ((fin_of (er3.unlock hls) p1).nox (ng _ _)).mono (fun ρ4 p4 σ4 Fs4 er4 _ _ => ?_) fun _ z => z⟩
    · rcases g3 b z with ⟨h0, h1⟩ | h1
      · exact (er1.lks l List.mem_cons_self).sep j hj (by rw [h0]; intro q; cases q) b hb h1
      · exact er1.nn j b hb h1
    · refine ⟨l, ρ4, Fs4, er4, ?_⟩
      generalize B ρ4 = r4 at p4
      cases r4 with
      | nx ρ5 => exact fun σ5 H5 Fs5 er5 => ⟨ρ5, Fs5, er5, p4⟩
      | ct ρ5 => exact fun σ5 H5 Fs5 er5 => ⟨ρ5, Fs5, er5, p4⟩
      | bk ρ5 => exact fun σ5 H5 Fs5 er5 => p4 σ5 H5 Fs5 ((er5.unlock hls).less hO)
      | rt d => exact p4
      | exc c ρ5 => exact fun σ5 H5 Fs5 er5 => p4 σ5 H5 Fs5 (er5.unlock hls)
      | stuck => exact p4
  · have e1 : ds.drop i = [] := List.drop_eq_nil_of_le (by omega)
    rw [e1] at p1
    exact .inl ⟨it.stop i H2 kp (by omega), p1 σ1 H2 Fs1 ((er1.unlock hls).less hO)⟩
theorem sv_while {e : Expr} (N : Nat) (hp : PassesOwn (model X.prog X.w) X.A X.env X.xe) (hc : TV X C W O e c) (hb : SVs X C W O O O body B) (hO : ∀ i ∈ O', i ∈ O := by decide) : SV X C W Ob O O' (.While e body [] pos) (whD c B N) := by
  refine (ps_while hp hc hb).imp fun De σ H ⟨ρ, Fs, er, q⟩ => ?_
  refine ⟨fun m σ H => ∃ ρ Fs, ER X.K C O H σ ρ Fs ∧ Fin X.K C W Ob O' De (whD c B m ρ), ⟨N, ρ, Fs, er, q⟩, ?_⟩
  rintro m σ1 H1 ⟨ρ1, Fs1, er1, p1⟩
  cases m with
  | zero => exact p1.elim
  | succ m =>
    refine tB.step er1 (fin_of er1 p1) fun b H2 p2 er2 x2 => ?_
    cases b with
    | false => exact ite_ff (p2 σ1 H2 Fs1 (er2.less hO))
    | true =>
      refine ite_tt ⟨fun σ H => ∃ ρ Fs, ER X.K C O H σ ρ Fs ∧ Fin X.K C W Ob O' De (whD c B m ρ), fun σ' H' h => ⟨m, Nat.lt_succ_self m, h⟩, ρ1, Fs1, er2, ?_⟩
      rw [if_pos rfl] at p2
      generalize B ρ1 = r4 at p2
      cases r4 with
      | nx ρ5 => exact fun σ5 H5 Fs5 er5 => ⟨ρ5, Fs5, er5, p2⟩
      | ct ρ5 => exact fun σ5 H5 Fs5 er5 => ⟨ρ5, Fs5, er5, p2⟩
      | bk ρ5 => exact fun σ5 H5 Fs5 er5 => p2 σ5 H5 Fs5 (er5.less hO)
      | rt d => exact p2
      | exc c ρ5 => exact p2
      | stuck => exact p2
end
/-! ### the things walked -/
/-- what is walked of a datum -/
def itD : D → R (List D)
  | .tuple ds => .ok ds
  | .list ds => .ok ds
  | .dict [(.none, .tuple ds)] => .ok ds
  | _ => .stuck
def eIt (F : EF) : Env → R (List D) := fun ρ => (F ρ).bind itD
def eItI (F : EF) : Env → R (List D) := fun ρ => (F ρ).bind fun d => (itD d).bind fun ds => if immL ds = true then .ok ds else .stuck
theorem noxIt (d : D) : NoX (itD d) := by
  unfold itD
  split <;> first | exact noxO | exact noxS
/-- a list or a tuple, walked -/
def iSeqW (K : PySem.W.Frag) (tl : TE) : TI := fun σ H R => tl σ H fun x H1 => ∃ a, x = .ref a ∧ (((∃ xs, SqL K H1 a xs) ∧ R (Itl K a) H1) ∨ ((∃ xs, SqT K H1 a xs) ∧ R (Itt K a) H1))
theorem pi_seqW {X : Cx} {tg l : Expr} {tl : TE} (hl : PE X l tl) : PI X tg l (iSeqW X.K tl) := by
  refine ⟨fun pins s σ H R I h => ?_⟩
  refine thn (hl.run pins s σ H _ I h) fun v s1 ⟨x, H1, I1, r1, q1⟩ => ?_
  obtain ⟨a, e, q⟩ := q1
  subst e
  cases r1
  have fp : ∀ b ∈ [s1.heap.objs.size], FpOk X pins H1 b := fun b hb => by
    have e : b = s1.heap.objs.size := by simpa using hb
    subst e
    exact I1.fpOk (Nat.le_refl _) (I1.hok.fresh (Nat.le_refl _))
  rcases q with ⟨⟨xs, hq⟩, q⟩ | ⟨⟨xs, hq⟩, q⟩
  · obtain ⟨its, rv, p, hz⟩ := I1.list hq
    refine wpAny_pyIter_list p.isList ?_
    exact ⟨s1.heap.objs.size, [s1.heap.objs.size], _, _, H1, rfl, I1.kept (t' := s1.toks) fun b o e => Heap.get?_push_of_some _ e, turn_list a _, ⟨_, Heap.get?_push_size _ rfl, rfl, rfl⟩, fp, q⟩
  · obtain ⟨its, rv, p, hz⟩ := I1.tuple hq
    refine wpAny_pyIter_tuple (show s1.heap.IsTuple a its.toArray from p) ?_
    exact ⟨s1.heap.objs.size, [s1.heap.objs.size], _, _, H1, rfl, I1.kept (t' := s1.toks) fun b o e => Heap.get?_push_of_some _ e, turn_tuple a _, ⟨_, Heap.get?_push_size _ rfl, rfl, rfl⟩, fp, q⟩
theorem Kp.refl {H : Hp} {S : List Addr} : Kp H H S := ⟨fun _ _ e => e, fun _ _ _ e => e, fun _ _ => rfl⟩
section
variable {K : PySem.W.Frag} {T : List Addr} {l : Lk} {ds : List D} {xs : List V} {a : Addr} {H1 : Hp} {F : List Addr}
theorem itok_seq {J : It} {S : Hp → List V → Prop} (hJ : J = ⟨fun i H => ∃ xs x, S H xs ∧ xs[i]? = some x, fun i H x H' => H' = H ∧ ∀ xs, S H xs → xs[i]? = some x, fun i H => ∃ xs, S H xs ∧ xs.length ≤ i⟩)
    (hS : ∀ H, Kp l.HG H l.F → S H xs) (r : RpL K l.HG xs ds F) (hF : ∀ b ∈ F, b ∈ l.F) (so : l.so = none ∨ F = []) : ItOk K T l ds J := by
  subst hJ
  refine ⟨fun i H k hi => ?_, fun i H x H' d k hd y => ?_, fun i H k hi => ⟨xs, hS H k, by rw [r.length]; exact hi⟩⟩
  · obtain ⟨v, G, e, _⟩ := r.get (List.getElem?_eq_getElem hi)
    exact ⟨xs, v, hS H k, e⟩
  · obtain ⟨e, y⟩ := y
    subst e
    obtain ⟨v, G, e, r', sb⟩ := r.get hd
    have e2 := y xs (hS _ k)
    rw [e] at e2
    cases e2
    refine ⟨.refl, G, r'.kp (k.sub fun b hb => hF b (sb.mem hb)), fun b hb => ?_⟩
    rcases so with z | z
    · exact .inl ⟨z, hF b (sb.mem hb)⟩
    · rw [z] at sb
      exact (nomatch sb.mem hb)
end
section
variable {X : Cx} {C : Cc} {W : WX} {O : Own} {e tg : Expr} {es : List Expr} {E : EF} {k i j n : Nat} {x y : Str} {pos p2 : Pos} {L : Env → R (List D)}
theorem seq_read {σ : L2.St} {H1 : Hp} {ρ : Env} {Fs : Nat → List Addr} {v : V} {d : D} {F : List Addr} {so : Option Nat} {R : It → Hp → Prop} (er1 : ER X.K C O H1 σ ρ Fs) (r : Rp X.K H1 v d F) (sep : ∀ j, j ∈ O → so ≠ some j → ∀ b ∈ Fs j, b ∉ F)
    (q : Sat (itD d) (fun ds => (so = none ∨ immL ds = true) ∧ ∀ J l, ItOk X.K C.T l ds J → LkNew O Fs H1 so l → R J H1) (fun _ => False)) :
    ∃ a, v = .ref a ∧ (((∃ xs, SqL X.K H1 a xs) ∧ R (Itl X.K a) H1) ∨ ((∃ xs, SqT X.K H1 a xs) ∧ R (Itt X.K a) H1)) := by
  have nw : LkNew O Fs H1 so ⟨F, H1, so⟩ := ⟨rfl, rfl, r.dom, sep⟩
  have im : ∀ {xs : List V} {ds : List D} {G : List Addr}, RpL X.K H1 xs ds G → so = none ∨ immL ds = true → so = none ∨ G = [] := fun r z => z.imp id fun w => r.imm w
  cases r with
  | @tup a xs ds F s r =>
    obtain ⟨i, q⟩ : (so = none ∨ immL ds = true) ∧ ∀ J l, ItOk X.K C.T l ds J → LkNew O Fs H1 so l → R J H1 := q
    exact ⟨a, rfl, .inr ⟨⟨xs, s.sq⟩, q _ _ (itok_seq (S := fun H xs => SqT X.K H a xs) rfl (fun H k => (k.nt s).sq) r (fun _ h => h) (im r i)) nw⟩⟩
  | @lst a xs ds F s r =>
    obtain ⟨i, q⟩ : (so = none ∨ immL ds = true) ∧ ∀ J l, ItOk X.K C.T l ds J → LkNew O Fs H1 so l → R J H1 := q
    exact ⟨a, rfl, .inl ⟨⟨xs, .inl (.inl s)⟩, q _ _ (itok_seq (S := fun H xs => SqL X.K H a xs) rfl (fun H k => .inl (.inl ((k.at_ a List.mem_cons_self).trans s))) r (fun b h => List.mem_cons_of_mem _ h) (im r i)) nw⟩⟩
  | @ro a xs ds s r =>
    obtain ⟨i, q⟩ : (so = none ∨ immL ds = true) ∧ ∀ J l, ItOk X.K C.T l ds J → LkNew O Fs H1 so l → R J H1 := q
    exact ⟨a, rfl, .inl ⟨⟨xs, s.sq⟩, q _ _ (itok_seq (S := fun H xs => SqL X.K H a xs) rfl (fun H k => (k.roL s).sq) r (fun b h => h) (.inr rfl)) nw⟩⟩
  | @dK p kvs ks vs F e1 e2 r =>
    exfalso
    cases kvs with
    | nil => subst e2; exact q
    | cons kv kvs =>
      subst e2
      cases r with
      | cons r1 r2 =>
        obtain ⟨kk, vv⟩ := kv
        cases kk <;> exact q
  | @dT p kvs ks vs F e1 e2 r =>
    exfalso
    cases e2 with
    | nil => exact q
    | cons k1 k2 k3 =>
      cases r with
      | cons r1 r2 => exact q
  | _ => exact q.elim
theorem iv_seq (he : EV X C W O e k E) (hk : k ≤ 1 := by decide) : IV X C W O tg e none (eIt E) := by
  refine (pi_seqW he).imp fun σ H R ⟨ρ, Fs, er, q⟩ => ?_
  refine tD.step er (Sat.bind q) fun d v H1 F1 p er1 x1 r1 kd1 => ?_
  exact seq_read (so := none) er1 r1 (fun j hj _ => kd1.sep hk er j hj) ((p.nox (noxIt _)).mono (fun ds w => ⟨.inl rfl, fun J l it nw => w J H1 l x1 it nw⟩) fun _ z => z)
theorem iv_own (he : PE X e (tVar j)) (hj : j ∈ O := by decide) : IV X C W O tg e (some j) (eItI (eName j)) := by
  refine (pi_seqW he).imp fun σ H R ⟨ρ, Fs, er, q⟩ => ?_
  obtain ⟨d, h1, h2⟩ := get_sat (Sat.bind q)
  obtain ⟨v, h3, r⟩ := er.rep j d h1
  refine ⟨v, h3, seq_read (so := some j) er r (fun m hm hs b hb => (er.own m hm).2.2 j (fun z => hs (by rw [z])) b hb) ?_⟩
  refine ((Sat.bind h2).nox ?_).mono (fun ds w => ?_) fun _ z => z
  · exact noxIt _
  · by_cases hi : immL ds = true
    · rw [if_pos hi] at w
      exact ⟨.inr hi, fun J l it nw => w J H l .refl it nw⟩
    · rw [if_neg hi] at w; exact w.elim
/-- lo, lo + 1, .. -/
def rangeL (lo : Int) (n : Nat) : List D := (List.range n).map fun i => .int (lo + (i : Nat))
def rngD : List D → R (List D)
  | [.int b] => if -4611686018427387904 ≤ b ∧ b < 4611686018427387904 then .ok (rangeL 0 b.toNat) else .stuck
  | [.int a, .int b] => if -4611686018427387904 ≤ a ∧ a < 4611686018427387904 ∧ -4611686018427387904 ≤ b ∧ b < 4611686018427387904 then .ok (rangeL a (b - a).toNat) else .stuck
  | _ => .stuck
def eRng (L : Env → R (List D)) : Env → R (List D) := fun ρ => (L ρ).bind rngD
theorem rangeL_len {lo : Int} {n : Nat} : (rangeL lo n).length = n := by simp [rangeL]
theorem itok_rng {K : PySem.W.Frag} {T : List Addr} {H : Hp} {lo : Int} {n : Nat} : ItOk K T ⟨[], H, none⟩ (rangeL lo n) (Itr lo n) := by
  refine ⟨fun i H' k hi => by rw [rangeL_len] at hi; exact hi, fun i H' x H2 d k hd y => ?_, fun i H' k hi => by rw [rangeL_len] at hi; exact hi⟩
  obtain ⟨e, y⟩ := y
  subst e
  refine ⟨.refl, [], ?_, fun b hb => (nomatch hb)⟩
  subst y
  have hi : i < n := by
    have := (List.getElem?_eq_some_iff.mp hd).1
    rw [rangeL_len] at this; exact this
  have e2 : (rangeL lo n)[i]? = some (.int (lo + (i : Nat))) := by simp [rangeL, hi]
  rw [e2] at hd
  cases hd
  exact .int _
theorem noxRng (ds : List D) : NoX (rngD ds) := by
  unfold rngD
  split <;> first | exact noxI noxO noxS | exact noxS
theorem lk_none {O : Own} {Fs : Nat → List Addr} {H : Hp} : LkNew O Fs H none ⟨[], H, none⟩ := ⟨rfl, rfl, fun b hb => (nomatch hb), fun j _ _ b _ h => (nomatch h)⟩
theorem iv_range1 {a : Expr} {p : Pos} (hg : Gl X "range") (hm : X.mg "range" = none) (ha : AVn X C W O [a] k L) (hs : starEach [a] X.env = [(false, eval a X.env)] := by rfl) : IV X C W O tg (.Call (.Name "range" p) [a] [] pos) none (eRng L) := by
  refine (pi_range1 hg hm ha.av hs).imp fun σ H R ⟨ρ, Fs, er, q⟩ => ?_
  refine tL.step er (sat_n (σ := σ) (H := H) ha (Sat.bind q)) fun d v H1 F1 ⟨hl, p⟩ er1 x1 r1 kd1 => ?_
  match d, hl, r1, p with
  | [d], _, .cons r .nil, p =>
    cases r with
    | int j =>
      obtain ⟨⟨c1, c2⟩, p⟩ := satI p
      exact ⟨j, rfl, by omega, by omega, p (Itr 0 j.toNat) H1 _ x1 itok_rng lk_none⟩
    | _ => exact p.elim
theorem iv_range2 {a b : Expr} {p : Pos} (hg : Gl X "range") (hm : X.mg "range" = none) (ha : AVn X C W O [a, b] k L) (hs : starEach [a, b] X.env = [(false, eval a X.env), (false, eval b X.env)] := by rfl) (hs2 : starEach [b] X.env = [(false, eval b X.env)] := by rfl) :
    IV X C W O tg (.Call (.Name "range" p) [a, b] [] pos) none (eRng L) := by
  refine (pi_range2 hg hm ha.av hs hs2).imp fun σ H R ⟨ρ, Fs, er, q⟩ => ?_
  refine tL.step er (sat_n (σ := σ) (H := H) ha (Sat.bind q)) fun d v H1 F1 ⟨hl, p⟩ er1 x1 r1 kd1 => ?_
  match d, hl, r1, p with
  | [d, d'], _, .cons r (.cons r' .nil), p =>
    cases r with
    | int j =>
      cases r' with
      | int j' =>
        obtain ⟨⟨c1, c2, c3, c4⟩, p⟩ := satI p
        exact ⟨j, j', rfl, ⟨by omega, by omega, by omega, by omega⟩, p (Itr j (j' - j).toNat) H1 _ x1 itok_rng lk_none⟩
      | _ => exact p.elim
    | _ => exact p.elim
end
end Pd
namespace Pd
open PySem PySem.Spec PyProof.Rows L2
/-! ### changes of lists -/
def appD (i : Nat) (L : Env → R (List D)) : Env → RS := fun ρ => RS.of (ρ.get i) ρ fun x => match x with
  | .list ds => RS.of (L ρ) ρ fun ys => match ys with
    | [d] => if ds.length < 16777216 then .nx (ρ.put i (.list (ds ++ [d]))) else .stuck
    | _ => .stuck
  | _ => .stuck
def appMD (i j : Nat) : Env → RS := fun ρ => RS.of (ρ.get i) ρ fun x => match x with
  | .list ds => RS.of (ρ.get j) ρ fun d => if ds.length < 16777216 then .nx ((ρ.del j).put i (.list (ds ++ [d]))) else .stuck
  | _ => .stuck
def setIxD (i : Nat) (I F : EF) : Env → RS := fun ρ => RS.of (F ρ) ρ fun d => RS.of (ρ.get i) ρ fun x => match x with
  | .list ds => RS.of (I ρ) ρ fun n => match n with
    | .int k => match ixN ds.length k with
      | some j => .nx (ρ.put i (.list (ds.set j d)))
      | none => .stuck
    | _ => .stuck
  | _ => .stuck
def augIxD (g : D → D → R D) (i : Nat) (I F : EF) : Env → RS := fun ρ => RS.of (ρ.get i) ρ fun x => match x with
  | .list ds => RS.of (I ρ) ρ fun n => match n with
    | .int k => match ixN ds.length k with
      | some j => match ds[j]? with
        | some o => RS.of (F ρ) ρ fun d => RS.of (g o d) ρ fun z => if imm z = true then .nx (ρ.put i (.list (ds.set j z))) else .stuck
        | none => .stuck
      | none => .stuck
    | _ => .stuck
  | _ => .stuck
def augD (g : D → D → R D) (i : Nat) (F : EF) : Env → RS := fun ρ => RS.of (ρ.get i) ρ fun x => RS.of (F ρ) ρ fun d => RS.of (g x d) ρ fun z => if imm z = true then .nx (ρ.put i z) else .stuck
theorem RpL.set {K : PySem.W.Frag} {H : Hp} {v : V} {d : D} {G : List Addr} (rv : Rp K H v d G) : ∀ {xs : List V} {ds : List D} {F : List Addr} (j : Nat), RpL K H xs ds F → ∃ F2, RpL K H (xs.set j v) (ds.set j d) F2 ∧ (∀ b ∈ F2, b ∈ F ∨ b ∈ G) ∧ ((F ++ G).Nodup → F2.Nodup)
  | _, _, _, _, .nil => ⟨[], .nil, fun _ h => (nomatch h), fun _ => List.nodup_nil⟩
  | _, _, _, 0, @RpL.cons _ _ _ _ _ _ A B r t => ⟨G ++ B, .cons rv t, fun b hb => (List.mem_append.mp hb).elim .inr fun z => .inl (List.mem_append_right _ z), fun nd => by
      obtain ⟨n1, n2, n3⟩ := List.nodup_append.mp nd
      obtain ⟨m1, m2, m3⟩ := List.nodup_append.mp n1
      exact List.nodup_append.mpr ⟨n2, m2, fun a ha b hb e => n3 b (List.mem_append_right _ hb) a ha e.symm⟩⟩
  | _, _, _, j + 1, @RpL.cons _ _ _ _ _ _ A B r t => by
    obtain ⟨F2, r2, m, nd⟩ := RpL.set rv j t
    refine ⟨A ++ F2, .cons r r2, fun b hb => ?_, fun h => ?_⟩
    · rcases List.mem_append.mp hb with z | z
      · exact .inl (List.mem_append_left _ z)
      · exact (m b z).imp (List.mem_append_right _) id
    · obtain ⟨n1, n2, n3⟩ := List.nodup_append.mp h
      obtain ⟨m1, m2, m3⟩ := List.nodup_append.mp n1
      refine List.nodup_append.mpr ⟨m1, nd (List.nodup_append.mpr ⟨m2, n2, fun a ha b hb e => n3 a (List.mem_append_right _ ha) b hb e⟩), fun a ha b hb e => ?_⟩
      rcases m b hb with z | z
      · exact m3 a ha b z e
      · exact n3 a (List.mem_append_left _ ha) b z e
/-- the item of a list, by values -/
theorem get_list {X : Cx} : PGet X (fun o i H Q => ∃ p xs k v, o = .ref p ∧ i = .int k ∧ SqL X.K H p xs ∧ atI xs k = some v ∧ Q v H) := by
  intro pins s σ H o i ov iv Q I ro ri h
  obtain ⟨p, xs, k, z, rfl, rfl, hq, he, q⟩ := h
  cases ro
  obtain ⟨t, rfl⟩ := ri
  obtain ⟨its, r, pl, hz⟩ := I.list hq
  obtain ⟨j, h1, h2, h3, h4, h5⟩ := atI_get he
  obtain ⟨w, ew, rw'⟩ := r.get h2
  have hl := r.length
  have hn := line63
  have fin : EP X pins σ Q w s := ⟨z, H, I, rw', q⟩
  by_cases h0 : 0 ≤ k
  · have hj : k.toNat = j := by
      rw [seqIndex_of h0 h5] at h1
      exact Option.some.inj h1
    exact wpAny_getItem_list pl.isList h0 (by omega) (by rw [hj]; simpa using ew) fin
  · have hj : (k + (its.toArray.size : Int)).toNat = j := by
      rw [seqIndex_neg (by omega) h4] at h1
      rw [List.size_toArray, ← hl]
      exact Option.some.inj h1
    exact wpAny_getItem_list_neg pl.isList (by omega) (by rw [List.size_toArray] <;> omega) (by omega) (by rw [hj]; simpa using ew) fin
section
variable {X : Cx} {C : Cc} {W : WX} {Ob O O1 O' : Own} {e o ix : Expr} {E I F : EF} {k k' i j : Nat} {x : Str} {pos p2 apos : Pos} {L : Env → R (List D)}
theorem len_ok {n : Nat} (h : n < 16777216) : n < sizeLine := by rw [sz16]; exact h
theorem sv_app (ho : PE X o (tVar i)) (ha : AVn X C W O [e] 0 L) (hi : i ∈ O := by decide) (hl : decide (i ∈ C.ls) = false := by rfl) (hO : ∀ m ∈ O', m ∈ O := by decide)
    (hbase : attributeBase o "append" X.env (eval o X.env) = eval o X.env := by rfl)
    (hfew : ((backTo p2 (starEach [e] X.env)).all (fun x => !x.1) && (backToKw p2 (keywordEach [] X.env)).all (fun x => x.1.isSome)
      && decide ([e].length + ([] : List Keyword).length + (if ([] : List Keyword).isEmpty then 0 else 1) < 30)) = true := by rfl)
    (hline : (apos.endLine == p2.line) = true := by rfl) (hs : starEach [e] X.env = (false, eval e X.env) :: starEach [] X.env := by rfl) (hplain : (backTo p2 (starEach [] X.env)).any (·.1) = false := by rfl)
    (hw : swapsWith (.Call (.Attribute o "append" apos) [e] [] p2) none pos.line X.env = pure false := by rfl) :
    SV X C W Ob O O' (.Expr (.Call (.Attribute o "append" apos) [e] [] p2) pos) (appD i L) := by
  refine (ps_expr (pe_bm PySem.F.plainAttrs_list PySem.F.slot_list_append PySem.F.type_list_append (mt_append : MtR X "list.append" rAppend) ho ha.av hbase hfew hline hs hplain) hw).imp fun De σ H ⟨ρ, Fs, er, q⟩ => ?_
  obtain ⟨d, h1, h2⟩ := get_sat (fin_of er q)
  cases d with
  | list ds =>
    obtain ⟨a, xs, Fx, hs1, hF, hH, r⟩ := er.at_lst h1
    refine ⟨.ref a, hs1, .inl ⟨rfl, xs, .inl (.inl hH)⟩, ?_⟩
    refine tL.step er (fin_of er h2) fun ys vs H1 F1 p er1 x1 r1 kd1 => ?_
    match ys, vs, r1, p with
    | [d], [v], r1, p =>
      dsimp only at p
      by_cases hlen : ds.length < 16777216
      · rw [if_pos hlen] at p
        obtain ⟨a', xs', Fx', hs1', hF', hH', r'⟩ := er1.at_lst h1
        rw [hs1] at hs1'
        cases hs1'
        rw [hF] at hF'
        cases hF'
        refine ⟨a, xs', v, rfl, rfl, hH', len_ok (by rw [r'.length]; exact hlen), ?_⟩
        obtain ⟨nd1, fr1⟩ := kd1.fr rfl
        refine Exists.elim (er1.upd (O' := O') (ds' := ds ++ [d]) hi (of_decide_eq_false hl) hs1 hF hH' (r'.append r1) ?_ ?_ hO) fun Fs' er' => p _ _ Fs' er'
        · have nd0 := (er.own i hi).1
          rw [hF] at nd0
          obtain ⟨n1, n2⟩ := List.nodup_cons.mp nd0
          refine List.nodup_cons.mpr ⟨fun z => ?_, List.nodup_append.mpr ⟨n2, nd1, fun b hb c hc e => ?_⟩⟩
          · rcases List.mem_append.mp z with w | w
            · exact n1 w
            · exact er.nn i a (by rw [hF]; exact List.mem_cons_self) (fr1 a w)
          · subst e
            exact er.nn i b (by rw [hF]; exact List.mem_cons_of_mem _ hb) (fr1 b hc)
        · intro b hb
          rcases List.mem_append.mp hb with w | w
          · exact .inl w
          · exact .inr ⟨er.ext.free (fr1 b w), fun j z => er.nn j b z (fr1 b w), fun l hl z => er.lkdom hl b z (fr1 b w)⟩
      · rw [if_neg hlen] at p; exact p.elim
    | [], _, r1, p => exact p.elim
    | _ :: _ :: _, _, r1, p => exact p.elim
    | [d], [], r1, p => cases r1
    | [d], _ :: _ :: _, r1, p => cases r1; rename_i z; cases z
  | _ => exact h2.elim
theorem sv_appM {oj : Expr} (ho : PE X o (tVar i)) (hj : PE X oj (tVar j)) (hi : i ∈ O := by decide) (hjO : j ∈ O := by decide) (hij : i ≠ j := by decide) (hl : decide (i ∈ C.ls) = false := by rfl) (hlj : decide (j ∈ C.ls) = false := by rfl) (hO : ∀ m ∈ O', m ∈ O := by decide)
    (hbase : attributeBase o "append" X.env (eval o X.env) = eval o X.env := by rfl)
    (hfew : ((backTo p2 (starEach [oj] X.env)).all (fun x => !x.1) && (backToKw p2 (keywordEach [] X.env)).all (fun x => x.1.isSome)
      && decide ([oj].length + ([] : List Keyword).length + (if ([] : List Keyword).isEmpty then 0 else 1) < 30)) = true := by rfl)
    (hline : (apos.endLine == p2.line) = true := by rfl) (hs : starEach [oj] X.env = (false, eval oj X.env) :: starEach [] X.env := by rfl) (hplain : (backTo p2 (starEach [] X.env)).any (·.1) = false := by rfl)
    (hw : swapsWith (.Call (.Attribute o "append" apos) [oj] [] p2) none pos.line X.env = pure false := by rfl) :
    SV X C W Ob O O' (.Expr (.Call (.Attribute o "append" apos) [oj] [] p2) pos) (appMD i j) := by
  refine (ps_expr (pe_bm PySem.F.plainAttrs_list PySem.F.slot_list_append PySem.F.type_list_append (mt_append : MtR X "list.append" rAppend) ho (pa_cons hj pa_nil hs) hbase hfew hline hs hplain) hw).imp fun De σ H ⟨ρ, Fs, er, q⟩ => ?_
  obtain ⟨d, h1, h2⟩ := get_sat (fin_of er q)
  cases d with
  | list ds =>
    obtain ⟨a, xs, Fx, hs1, hF, hH, r⟩ := er.at_lst h1
    refine ⟨.ref a, hs1, .inl ⟨rfl, xs, .inl (.inl hH)⟩, ?_⟩
    obtain ⟨d, g1, p⟩ := get_sat (fin_of er h2)
    obtain ⟨v, G, g2, rj, ndj, fr0, sej, lkj⟩ := er.out g1 hjO (of_decide_eq_false hlj)
    have erd := er.del (i := j)
    refine ⟨v, g2, a, xs, v, rfl, rfl, hH, ?_⟩
    by_cases hlen : ds.length < 16777216
    · rw [if_pos hlen] at p
      have hF' : (if i = j then [] else Fs i) = a :: Fx := by rw [if_neg hij]; exact hF
      refine ⟨len_ok (by rw [r.length]; exact hlen), Exists.elim (erd.upd (O' := O') (ds' := ds ++ [d]) hi (of_decide_eq_false hl) hs1 hF' hH (r.append (.cons rj .nil)) ?_ ?_ hO) fun Fs' er' => p _ _ Fs' er'⟩
      · have nd0 := (er.own i hi).1
        rw [hF] at nd0
        obtain ⟨n1, n2⟩ := List.nodup_cons.mp nd0
        rw [List.append_nil]
        have se : ∀ b ∈ G, b ∉ Fs i := fun b hb => by
          have := sej i b hb
          rw [if_neg hij] at this; exact this
        refine List.nodup_cons.mpr ⟨fun z => ?_, List.nodup_append.mpr ⟨n2, ndj, fun b hb c hc e => ?_⟩⟩
        · rcases List.mem_append.mp z with w | w
          · exact n1 w
          · exact se a w (by rw [hF]; exact List.mem_cons_self)
        · subst e
          exact se b hc (by rw [hF]; exact List.mem_cons_of_mem _ hb)
      · intro b hb
        rw [List.append_nil] at hb
        rcases List.mem_append.mp hb with w | w
        · exact .inl w
        · exact .inr ⟨fr0 b w, fun m z => sej m b w z, fun l hl z => lkj l hl b w z⟩
    · rw [if_neg hlen] at p; exact p.elim
  | _ => exact h2.elim
/-- a fresh thing at a place of an owned list -/
theorem ER.setAt {H H1 : Hp} {σ : L2.St} {ρ : Env} {Fs : Nat → List Addr} {K : PySem.W.Frag} {ds : List D} {a : Addr} {xs : List V} {Fx F1 : List Addr} {v : V} {d : D} {m : Nat} (er : ER K C O H σ ρ Fs) (er1 : ER K C O H1 σ ρ Fs) (hi : i ∈ O) (hl : i ∉ C.ls) (hO : ∀ m ∈ O', m ∈ O)
    (hs : σ[i]? = some (some (.ref a))) (hF : Fs i = a :: Fx) (hH : H1 a = some (.lst xs)) (r : RpL K H1 xs ds Fx) (rv : Rp K H1 v d F1) (nd1 : F1.Nodup) (fr1 : ∀ b ∈ F1, H b = none) :
    ∃ Fs', ER K C O' (L2.upd H1 a (.lst (xs.set m v))) σ (ρ.put i (.list (ds.set m d))) Fs' := by
  obtain ⟨F2, r2, m2, nd2⟩ := r.set rv m
  have nd0 := (er.own i hi).1
  rw [hF] at nd0
  obtain ⟨n1, n2⟩ := List.nodup_cons.mp nd0
  refine er1.upd hi hl hs hF hH r2 ?_ ?_ hO
  · refine List.nodup_cons.mpr ⟨fun z => ?_, nd2 (List.nodup_append.mpr ⟨n2, nd1, fun b hb c hc e => ?_⟩)⟩
    · rcases m2 a z with w | w
      · exact n1 w
      · exact er.nn i a (by rw [hF]; exact List.mem_cons_self) (fr1 a w)
    · subst e
      exact er.nn i b (by rw [hF]; exact List.mem_cons_of_mem _ hb) (fr1 b hc)
  · intro b hb
    rcases m2 b hb with w | w
    · exact .inl w
    · exact .inr ⟨er.ext.free (fr1 b w), fun j z => er.nn j b z (fr1 b w), fun l hl z => er.lkdom hl b z (fr1 b w)⟩
theorem sv_setIx (ho : PE X o (tVar i)) (hx : EV X C W O ix k' I) (he : EV X C W O e 0 F) (hi : i ∈ O := by decide) (hl : decide (i ∈ C.ls) = false := by rfl) (hO : ∀ m ∈ O', m ∈ O := by decide)
    (hs : swapsWithSole [.Subscript o ix p2] e pos.line X.env = pure false := by rfl) (hw : swappedStores [.Subscript o ix p2] e X.env = pure none := by rfl)
    (h1 : (assignEach [.Subscript o ix p2] X.env).map (·.2) = [assign (.Subscript o ix p2) X.env] := by rfl)
    (ha : ∀ v, assign (.Subscript o ix p2) X.env v = (do
      let ov ← holding [v] (eval o X.env)
      let iv ← holding [v, ov] (eval ix X.env)
      standAt p2
      holding [v, ov, iv] (setItem ov iv v)
      release [v, ov, iv] []) := by intro _; rfl) : SV X C W Ob O O' (.Assign [.Subscript o ix p2] e pos) (setIxD i I F) := by
  refine (ps_asg he (pg_sub ho hx set_list ha) hs hw h1).imp fun De σ H ⟨ρ, Fs, er, q⟩ => ?_
  refine tD.step er (fin_of er q) fun d v H1 F1 p er1 x1 r1 kd1 => ?_
  obtain ⟨d0, g1, p⟩ := get_sat (fin_of er1 p)
  cases d0 with
  | list ds =>
    obtain ⟨a, xs, Fx, hs1, hF, hH, r⟩ := er1.at_lst g1
    refine ⟨.ref a, hs1, ?_⟩
    refine tD.step er1 (fin_of er1 p) fun d2 v2 H2 F2 p2 er2 x2 r2 kd2 => ?_
    cases d2 with
    | int n =>
      cases r2
      have p2 : Fin X.K C W Ob O' De (match ixN ds.length n with
        | some j => .nx (ρ.put i (.list (ds.set j d)))
        | none => .stuck) := p2
      cases hj : ixN ds.length n with
      | none => rw [hj] at p2; exact p2.elim
      | some m =>
        rw [hj] at p2
        obtain ⟨a', xs', Fx', hs1', hF', hH', r'⟩ := er2.at_lst g1
        rw [hs1] at hs1'
        cases hs1'
        rw [hF] at hF'
        cases hF'
        obtain ⟨nd1, fr1⟩ := kd1.fr rfl
        obtain ⟨Fs', er'⟩ := ER.setAt (O' := O') (m := m) er er2 hi (of_decide_eq_false hl) hO hs1 hF hH' r' (r1.ex x2) nd1 fr1
        exact ⟨a, xs', n, m, rfl, rfl, hH', by rw [r'.length]; exact hj, p2 _ _ Fs' er'⟩
    | _ => exact p2.elim
  | _ => exact p.elim
/-- an operator in place, of immutable things -/
theorem sv_augIx {op : Operator} {g : D → D → R D} (ho : PE X o (tVar i)) (hx : EV X C W O ix k' I) (B : BinD X C.T (inplaceOp op) g) (he : EV X C W O e k F) (hi : i ∈ O := by decide) (hl : decide (i ∈ C.ls) = false := by rfl) (hO : ∀ m ∈ O', m ∈ O := by decide)
    (ha : ∀ ov iv new, augStore ix ov iv new = (do holding [new, ov, iv] (setItem ov iv new); release [new, ov, iv] []; pure .next) := by intros; rfl) :
    SV X C W Ob O O' (.AugAssign (.Subscript o ix p2) op e pos) (augIxD g i I F) := by
  obtain ⟨nox, rr, hop, hr⟩ := B
  refine (ps_augS ho hx get_list he hop set_list ha).imp fun De σ H ⟨ρ, Fs, er, q⟩ => ?_
  obtain ⟨d0, g1, p⟩ := get_sat (fin_of er q)
  cases d0 with
  | list ds =>
    obtain ⟨a, xs, Fx, hs1, hF, hH, r⟩ := er.at_lst g1
    refine ⟨.ref a, hs1, ?_⟩
    refine tD.step er (fin_of er p) fun d2 v2 H2 F2 p2 er2 x2 r2 kd2 => ?_
    cases d2 with
    | int n =>
      cases r2
      have p2 : Fin X.K C W Ob O' De (match ixN ds.length n with
        | some j => (match ds[j]? with
          | some o => RS.of (F ρ) ρ fun d => RS.of (g o d) ρ fun z => if imm z = true then .nx (ρ.put i (.list (ds.set j z))) else .stuck
          | none => .stuck)
        | none => .stuck) := p2
      cases hj : ixN ds.length n with
      | none => rw [hj] at p2; exact p2.elim
      | some m =>
        rw [hj] at p2
        dsimp only at p2
        cases hd : ds[m]? with
        | none => rw [hd] at p2; exact p2.elim
        | some d0 =>
          rw [hd] at p2
          have r := r.ex x2
          obtain ⟨v0, G0, e0, rv0, sb0⟩ := r.get hd
          have hH2 : H2 a = some (.lst xs) := x2.kept _ _ hH (fun _ z => by cases z)
          refine ⟨a, xs, n, v0, rfl, rfl, .inl (.inl hH2), by unfold atI; rw [r.length, hj]; exact e0, ?_⟩
          refine tD.step er2 (fin_of er2 p2) fun d3 v3 H3 F3 p3 er3 x3 r3 kd3 => ?_
          refine hr H3 v0 v3 d0 d3 G0 F3 _ (rv0.ex x3) r3 (((fin_of er3 p3).nox (nox _ _)).mono (fun z p4 v4 H4 F4 x4 r4 m4 => ?_) fun _ z => z)
          by_cases hz : imm z = true
          · rw [if_pos hz] at p4
            have eF := r4.imm hz
            subst eF
            have er4 := er3.ex x4
            obtain ⟨a', xs', Fx', hs1', hF', hH', r'⟩ := er4.at_lst g1
            rw [hs1] at hs1'
            cases hs1'
            rw [hF] at hF'
            cases hF'
            obtain ⟨Fs', er'⟩ := ER.setAt (O' := O') (m := m) er4 er4 hi (of_decide_eq_false hl) hO hs1 hF hH' r' r4 List.nodup_nil fun b hb => (nomatch hb)
            exact ⟨a, xs', n, m, rfl, rfl, hH', by rw [r'.length]; exact hj, p4 _ _ Fs' er'⟩
          · rw [if_neg hz] at p4; exact p4.elim
    | _ => exact p2.elim
  | _ => exact p.elim
theorem sv_aug {op : Operator} {g : D → D → R D} (hN : X.N.Nodup) (hi : X.N[i]? = some x) (hx : Loc X.env.scope x) (B : BinD X C.T (inplaceOp op) g) (he : EV X C W O e k F) (hO : ∀ m ∈ O', m ≠ i ∧ m ∈ O := by decide)
    (hf : X.fn x = true ∨ X.env.scope.names.lookup x = some .local := by first | exact .inl rfl | exact .inr rfl | assumption) : SV X C W Ob O O' (.AugAssign (.Name x p2) op e pos) (augD g i F) := by
  obtain ⟨nox, rr, hop, hr⟩ := B
  refine (ps_aug hN hi hx he hop hf).imp fun De σ H ⟨ρ, Fs, er, q⟩ => ?_
  obtain ⟨d0, g1, p⟩ := get_sat (fin_of er q)
  obtain ⟨v0, h0, r0⟩ := er.rep i d0 g1
  refine ⟨v0, h0, ?_⟩
  refine tD.step er (fin_of er p) fun d3 v3 H3 F3 p3 er3 x3 r3 kd3 => ?_
  refine hr H3 v0 v3 d0 d3 _ F3 _ (r0.ex x3) r3 (((fin_of er3 p3).nox (nox _ _)).mono (fun z p4 v4 H4 F4 x4 r4 m4 => ?_) fun _ z => z)
  by_cases hz : imm z = true
  · rw [if_pos hz] at p4
    have eF := r4.imm hz
    subst eF
    obtain ⟨Fs', er'⟩ := er3.put (O' := O') (k := 1) x4 r4 KdOk.nil (Nat.le_refl 1) fun j hj => .inr (hO j hj)
    exact p4 _ _ Fs' er'
  · rw [if_neg hz] at p4; exact p4.elim
def iaddD : D → D → R D
  | .int a, .int b => .ok (.int (a + b))
  | _, _ => .stuck
def isubD : D → D → R D
  | .int a, .int b => .ok (.int (a - b))
  | _, _ => .stuck
theorem bi_add {T : List Addr} : BinD X T (inplaceOp .Add) iaddD := b_int (opI0' iop_add) (fun x y => by unfold iaddD; split <;> first | exact noxO | exact noxS) fun dx dy P h => by
  cases dx <;> cases dy <;> first | exact False.elim h | exact ⟨_, _, rfl, rfl, trivial, h⟩
theorem bi_sub {T : List Addr} : BinD X T (inplaceOp .Sub) isubD := b_int (opI0' iop_sub) (fun x y => by unfold isubD; split <;> first | exact noxO | exact noxS) fun dx dy P h => by
  cases dx <;> cases dy <;> first | exact False.elim h | exact ⟨_, _, rfl, rfl, trivial, h⟩
end
end Pd
namespace Pd
open PySem PySem.Spec PyProof.Rows L2
/-! ### raise, try -/
/-- an exception class of the program, below ValueError -/
structure ExD (K : PySem.W.Frag) (mg : Str → Option Value) (x : Str) : Prop where
  gC : mg x = some (.ref (He.ga K x))
  q : PySem.W.excIn K (He.ga K x) He.veBase "ValueError.__new__" = true
  kC : PySem.W.keepIn K (.ref (He.ga K x)) = true
  s : PySem.W.subIn K (.ref (He.ga K x)) (.type "BaseException") = some true
  t : PySem.W.typeIn K (.ref (He.ga K x)) = some (.type "type")
def raiseD (x : Str) : Env → RS := .exc x
def quietD : RS → RS
  | .exc _ _ => .stuck
  | r => r
theorem fin_quiet {K : PySem.W.Frag} {C : Cc} {W : WX} {Ob O' : Own} {De : Ends} {r : RS} (h : Fin K C W Ob O' De (quietD r)) : Fin K C (fun _ _ _ _ => False) Ob O' De r := by
  cases r <;> first | exact h | exact False.elim h
/-- what a clause does with what the body ends in; tbl: which classes it takes -/
def catchD (tbl : List (Str × Bool)) (G : Env → RS) (r : RS) : RS := match r with
  | .exc c ρ => match tbl.lookup c with
    | some true => quietD (G ρ)
    | some false => .exc c ρ
    | none => .stuck
  | r => r
def tryD (B : Env → RS) (tbl : List (Str × Bool)) (G : Env → RS) : Env → RS := fun ρ => catchD tbl G (B ρ)
def catch2D (t1 : List (Str × Bool)) (G1 : Env → RS) (t2 : List (Str × Bool)) (G2 : Env → RS) (r : RS) : RS := match r with
  | .exc c ρ => match t1.lookup c with
    | some true => quietD (G1 ρ)
    | some false => (match t2.lookup c with
      | some true => quietD (G2 ρ)
      | some false => .exc c ρ
      | none => .stuck)
    | none => .stuck
  | r => r
def try2D (B : Env → RS) (t1 : List (Str × Bool)) (G1 : Env → RS) (t2 : List (Str × Bool)) (G2 : Env → RS) : Env → RS := fun ρ => catch2D t1 G1 t2 G2 (B ρ)
abbrev W0 : WX := fun _ _ _ _ => False
def Exm (K : PySem.W.Frag) (x : Str) (tbl : List (Str × Bool)) : Prop := ∀ p ∈ tbl, PySem.W.exmOne K (.ref (He.ga K p.1)) (.ref (He.ga K x)) = some p.2
theorem lookup_mem' {c : Str} {b : Bool} : ∀ {l : List (Str × Bool)}, l.lookup c = some b → (c, b) ∈ l
  | [], h => by cases h
  | (a, u) :: r, h => by
    have h2 : (match c == a with | true => some u | false => r.lookup c) = some b := h
    cases q : (c == a) with
    | true =>
      rw [q] at h2
      have e : u = b := Option.some.inj h2
      rw [beq_iff_eq.mp q, e]
      exact List.mem_cons_self
    | false =>
      rw [q] at h2
      exact List.mem_cons_of_mem _ (lookup_mem' h2)
section
variable {X : Cx} {C : Cc} {W : WX} {Ob O O1 O' : Own} {x x2 m : Str} {j : Nat} {p p2 pos pos' np np2 pos2 : Pos} {B G G2 : Env → RS} {body suite suite2 : List Stmt} {b₀ b₂ : Stmt} {tbl tbl2 : List (Str × Bool)}
theorem sv_raise (hc : X.calm = true) (tk : Takes X W) (E : ExD X.K X.mg x) (hg : Gl X x) (hdb : (x == ("__debug__" : Str)) = false := by decide) : SV X C W Ob O O' (.Raise (some (.Call (.Name x p) [.Constant (.str m) j p2] [] pos)) none pos') (raiseD x) :=
  (ps_raise hc tk (pmk_own PySem.F.excBase_ValueError E.q E.gC E.kC (raises_own E.s E.t) hg hdb)).imp fun De σ H ⟨ρ, Fs, er, q⟩ => q σ H Fs (er.less fun i hi => (nomatch hi))
theorem sv_try (hs : X.stack = X.env :: X.outer) (hf : X.env.frame = some X.env.locals) (hc : Names X x (.ref (He.ga X.K x))) (tk : Takes X W) (ht : Exm X.K x tbl)
    (hb : ∀ (W : WX) (pn : List (Addr × Obj)) (xe : Value → Shared → Prop), Takes (X.tr pn xe) W → PassesOwn (model X.prog X.w) X.A X.env xe → SVs (X.tr pn xe) C W Ob O O1 body B)
    (hsu : ∀ (a : Addr) (pn : List (Addr × Obj)), SVs (X.suite a pn) C W0 Ob [] O' (b₀ :: suite) G) (hO : ∀ i ∈ O', i ∈ O1 := by decide) :
    SV X C W Ob O O' (.Try body [.ExceptHandler (some (.Name x np)) none (b₀ :: suite) pos'] [] [] pos) (tryD B tbl G) :=
  (ps_try_only (tb := fun W => sD X.K C W Ob O O1 B) (ts := fun _ _ _ => sD X.K C W0 Ob [] O' G) hs hf hc tk hb fun a oe cls d pn _ _ => hsu a ((a, oe) :: pn)).imp fun De σ H ⟨ρ, Fs, er, q⟩ => by
    refine ⟨ρ, Fs, er, ?_⟩
    unfold tryD at q
    generalize B ρ = r at q
    cases r with
    | nx ρ' => exact fun σ' H' Fs' er' => q σ' H' Fs' (er'.less hO)
    | exc c ρ' =>
      intro σ' H' Fs' er'
      unfold catchD at q
      dsimp only at q
      cases e : tbl.lookup c with
      | none => rw [e] at q; exact q.elim
      | some b =>
        rw [e] at q
        refine ⟨b, ht _ (lookup_mem' e), fun hb a _ => ?_, fun hb => ?_⟩
        · subst hb
          exact ⟨ρ', Fs', er', fin_quiet q⟩
        · subst hb
          exact q σ' H' Fs' er'
    | _ => exact q
theorem sv_try2 (hs : X.stack = X.env :: X.outer) (hf : X.env.frame = some X.env.locals) (hc : Names X x (.ref (He.ga X.K x))) (hc2 : Names X x2 (.ref (He.ga X.K x2))) (tk : Takes X W) (ht : Exm X.K x tbl) (ht2 : Exm X.K x2 tbl2)
    (hb : ∀ (W : WX) (pn : List (Addr × Obj)) (xe : Value → Shared → Prop), Takes (X.tr pn xe) W → PassesOwn (model X.prog X.w) X.A X.env xe → SVs (X.tr pn xe) C W Ob O O1 body B)
    (hsu : ∀ (a : Addr) (pn : List (Addr × Obj)), SVs (X.suite a pn) C W0 Ob [] O' (b₀ :: suite) G) (hsu2 : ∀ (a : Addr) (pn : List (Addr × Obj)), SVs (X.suite a pn) C W0 Ob [] O' (b₂ :: suite2) G2) (hO : ∀ i ∈ O', i ∈ O1 := by decide) :
    SV X C W Ob O O' (.Try body [.ExceptHandler (some (.Name x np)) none (b₀ :: suite) pos', .ExceptHandler (some (.Name x2 np2)) none (b₂ :: suite2) pos2] [] [] pos) (try2D B tbl G tbl2 G2) :=
  (ps_try_many (tb := fun W => sD X.K C W Ob O O1 B) hs hf tk hb (.cons (ts := fun _ _ _ => sD X.K C W0 Ob [] O' G) hc (fun a oe cls d pn _ _ => hsu a ((a, oe) :: pn)) (.cons (ts := fun _ _ _ => sD X.K C W0 Ob [] O' G2) hc2 (fun a oe cls d pn _ _ => hsu2 a ((a, oe) :: pn)) .nil))).imp fun De σ H ⟨ρ, Fs, er, q⟩ => by
    refine ⟨ρ, Fs, er, ?_⟩
    unfold try2D at q
    generalize B ρ = r at q
    cases r with
    | nx ρ' => exact fun σ' H' Fs' er' => q σ' H' Fs' (er'.less hO)
    | exc c ρ' =>
      intro σ' H' Fs' er'
      unfold catch2D at q
      dsimp only at q
      cases e : tbl.lookup c with
      | none => rw [e] at q; exact q.elim
      | some b =>
        rw [e] at q
        refine ⟨b, ht _ (lookup_mem' e), fun hb a _ => ?_, fun hb => ?_⟩
        · subst hb
          exact ⟨ρ', Fs', er', fin_quiet q⟩
        · subst hb
          dsimp only at q
          cases e2 : tbl2.lookup c with
          | none => rw [e2] at q; exact q.elim
          | some b =>
            rw [e2] at q
            refine ⟨b, ht2 _ (lookup_mem' e2), fun hb a _ => ?_, fun hb => ?_⟩
            · subst hb
              exact ⟨ρ', Fs', er', fin_quiet q⟩
            · subst hb
              exact q σ' H' Fs' er'
    | _ => exact q
end
/-! ### calls of the program's own defs -/
def spD (K : PySem.W.Frag) (T : List Addr) (n : Nat) (F : List D → R D) : Sp := fun vs H Q E => vs.length = n ∧ ∃ ds FA, RpL K H vs ds FA ∧ (∀ P ∈ T, GxR.TabG H P) ∧
  Sat (F ds) (fun d => ∀ v H' F', Ex T H H' → Rp K H' v d F' → F'.Nodup → (∀ b ∈ F', H b = none) → Q v H') (fun c => ∀ H', Ex T H H' → E (.ref (He.ga K c)) none H')
/-- the def x does F -/
structure FD (P : Program) (w : World) (K : PySem.W.Frag) (mg : Str → Option Value) (base : Heap) (T : List Addr) (k : Nat) (x : Str) (n : Nat) (F : List D → R D) : Prop where
  ex : ∃ f fd ps, FnOk P w K mg base (L2.CX P w) k f fd ps (spD K T n F) ∧ mg x = some (.ref f) ∧ PySem.W.keepIn K (.ref f) = true ∧ Binds K fd ps []
def eCall (F : List D → R D) (L : Env → R (List D)) : EF := fun ρ => (L ρ).bind F
section
variable {X : Cx} {C : Cc} {W : WX} {O : Own} {x : Str} {e : Expr} {es : List Expr} {k kk : Nat} {L : Env → R (List D)} {F : List D → R D} {p pos : Pos}
theorem ev_call (h : FD X.prog X.w X.K X.mg X.base C.T k x (e :: es).length F) (hr : Room k X.A) (hg : Gl X x) (tk : Takes X W) (ha : AVn X C W O (e :: es) kk L)
    (hdb : (x == ("__debug__" : Str)) = false := by decide) (he : starEach (e :: es) X.env = (false, eval e X.env) :: starEach es X.env := by rfl) (hpl : (backTo pos (starEach es X.env)).any (·.1) = false := by rfl) :
    EV X C W O (.Call (.Name x p) (e :: es) [] pos) 0 (eCall F L) := by
  obtain ⟨f, fd, ps, Fk, hm, hk, hb⟩ := h
  refine (pe_callS (E := WE W) Fk hr hg hm hk hb (passAt tk) ha.av hdb he hpl).imp fun σ H Q ⟨ρ, Fs, er, q⟩ => ?_
  refine tL.step er (sat_n (σ := σ) (H := H) ha (Sat.bind q)) fun ds vs H1 F1 ⟨hl, p⟩ er1 x1 r1 kd1 => ?_
  exact ⟨by rw [r1.length, hl], ds, F1, r1, er1.tab, p.mono (fun d p v H' F' x r nd fr => p v H' F' (x1.trans x) r ⟨fun _ => ⟨nd, fun b hb => x1.free (fr b hb)⟩, fun z => by omega⟩) fun c w H' x => w H' (x1.trans x)⟩
end
/-- the end of a def's body -/
def finD : RS → R D
  | .nx _ => .ok .none
  | .rt d => .ok d
  | .exc c _ => .exc c
  | _ => .stuck
def callD (n : Nat) (B : Env → RS) : List D → R D := fun ds => finD (B (ds.map some ++ List.replicate (n - ds.length) none))
theorem start_er {K : PySem.W.Frag} {H : Hp} : ∀ {vs : List V} {ds : List D} {F : List Addr}, RpL K H vs ds F → ∃ Fs : Nat → List Addr, (∀ i d, ds[i]? = some d → ∃ v, vs[i]? = some v ∧ Rp K H v d (Fs i)) ∧ ∀ i, ds[i]? = none → Fs i = []
  | _, _, _, .nil => ⟨fun _ => [], fun i d h => by simp at h, fun _ _ => rfl⟩
  | _, _, _, @RpL.cons _ _ v vs d ds F G r t => by
    obtain ⟨Fs, h1, h2⟩ := start_er t
    refine ⟨fun i => match i with
      | 0 => F
      | i + 1 => Fs i, fun i d' h => ?_, fun i h => ?_⟩
    · cases i with
      | zero => simp at h; subst h; exact ⟨v, rfl, r⟩
      | succ i => exact h1 i d' (by simpa using h)
    · cases i with
      | zero => simp at h
      | succ i => exact h2 i (by simpa using h)
theorem er_start {K : PySem.W.Frag} {T : List Addr} {H : Hp} {N : List Str} {vs : List V} {ds : List D} {FA : List Addr} (r : RpL K H vs ds FA) (t : ∀ P ∈ T, GxR.TabG H P) : ∃ Fs, ER K ⟨T, H, [], []⟩ [] H (L2.start N vs) (ds.map some ++ List.replicate (N.length - ds.length) none) Fs := by
  obtain ⟨Fs, h1, h2⟩ := start_er r
  have hl := r.length
  have key : ∀ i d, (ds.map some ++ List.replicate (N.length - ds.length) none)[i]? = some (some d) → ds[i]? = some d := fun i d h => by
    by_cases hi : i < ds.length
    · rw [List.getElem?_append_left (by simpa using hi), List.getElem?_map, List.getElem?_eq_getElem hi] at h
      rw [List.getElem?_eq_getElem hi]
      simpa using h
    · rw [List.getElem?_append_right (by simp; omega), List.getElem?_replicate] at h
      split at h <;> cases h
  refine ⟨Fs, by simp [L2.start, hl], fun i d h => ?_, fun i h => ?_, fun i hi => (nomatch hi), t, .refl, fun l hm => (nomatch hm)⟩
  · obtain ⟨v, e, r'⟩ := h1 i d (key i d h)
    refine ⟨v, ?_, r'⟩
    have hi := (List.getElem?_eq_some_iff.mp e).1
    unfold L2.start
    rw [List.getElem?_append_left (by simpa using hi), List.getElem?_map, e]
    rfl
  · cases e : ds[i]? with
    | none => exact h2 i e
    | some d =>
      have hi := (List.getElem?_eq_some_iff.mp e).1
      exact absurd (show (ds.map some ++ List.replicate (N.length - ds.length) none)[i]? = some (some d) by rw [List.getElem?_append_left (by simpa using hi), List.getElem?_map, e]; rfl) (h d)
/-- a def of the program: its body does B -/
theorem fd_fn {P : Program} {w : World} {K : PySem.W.Frag} {mg : Str → Option Value} {base : Heap} {T : List Addr} {k : Nat} {x qual : Str} {params : Arguments} {body : List Stmt} {scope : Scope} {dvs : List V} {kws : List (Str × V)} {at_ : Str × Option Str} {fd : FuncData} {N ps : List Str} {B : Env → RS}
    (F : FunD K x qual params body scope dvs kws (He.fAd K at_) fd) (S : FnScope N ps scope)
    (hbody : ∀ (A : Around) (outer : List PySem.Env) (s : Shared) (H : Hp) (E : XK), Room k (A.deeper (envOfC qual scope s.heap.objs.size (He.fAd K at_) (.ref (He.codeOf K at_)))) →
      SVs (cxOf (L2.CX P w) P w K mg base N qual scope (He.fAd K at_) (.ref (He.codeOf K at_)) A outer s H E) ⟨T, H, [], []⟩ (fun cls d _ H' => E cls d H') [] [] [] body B) : FnOk P w K mg base (L2.CX P w) (k + 1) (He.fAd K at_) fd ps (spD K T ps.length (callD N.length B)) := by
  obtain ⟨oc, od, dV, kV, doc, pm, an, cdv, ct, osl, rfl, lk, hcd, _, _⟩ := F.ex
  obtain ⟨c, rfl⟩ := He.codeIn_ref hcd
  have hc : He.codeOf K at_ = c := He.codeOf_eq lk rfl
  refine fn_of lk hcd S (fun vs H Q E h => h.1) fun A outer s H vs Q E hr h => ?_
  obtain ⟨hl, ds, FA, r, t, q⟩ := h
  rw [← hc] at hr ⊢
  refine ⟨_, hbody A outer s H E hr, ?_⟩
  obtain ⟨Fs, er⟩ := er_start (N := N) r t
  refine ⟨_, Fs, er, ?_⟩
  unfold callD at q
  generalize B _ = rs at q
  cases rs with
  | nx ρ' => exact fun σ' H' Fs' er' => q .non H' [] er'.ext .non List.nodup_nil fun b hb => (nomatch hb)
  | rt d => exact fun v H' F' x _ r nd fr => q v H' F' x r nd fr
  | exc c ρ' => exact fun σ' H' Fs' er' => q H' er'.ext
  | _ => exact q.elim
theorem fd_of {P : Program} {w : World} {K : PySem.W.Frag} {mg : Str → Option Value} {base : Heap} {T : List Addr} {k : Nat} {x qual : Str} {params : Arguments} {body : List Stmt} {scope : Scope} {at_ : Str × Option Str} {fd : FuncData} {N ps : List Str} {B : Env → RS}
    (F : FunD K x qual params body scope [] [] (He.fAd K at_) fd) (S : FnScope N ps scope) (gm : mg x = some (.ref (He.fAd K at_))) (hb : ∀ (kV doc pm : Value) (an : Option Addr) (cdv ct : Value) (us : List Value), us.length = ps.length → bindArgs (PySem.W.fnOf x qual params body scope .none kV doc pm an cdv ct) ⟨us, []⟩ = pure (ps.zip us))
    (hbody : ∀ (A : Around) (outer : List PySem.Env) (s : Shared) (H : Hp) (E : XK), Room k (A.deeper (envOfC qual scope s.heap.objs.size (He.fAd K at_) (.ref (He.codeOf K at_)))) →
      SVs (cxOf (L2.CX P w) P w K mg base N qual scope (He.fAd K at_) (.ref (He.codeOf K at_)) A outer s H E) ⟨T, H, [], []⟩ (fun cls d _ H' => E cls d H') [] [] [] body B) : FD P w K mg base T (k + 1) x ps.length (callD N.length B) :=
  ⟨_, fd, ps, fd_fn F S hbody, gm, F.kp, F.bindsN hb⟩
theorem FD.mono {P : Program} {w : World} {K : PySem.W.Frag} {mg : Str → Option Value} {base : Heap} {T : List Addr} {k k' n : Nat} {x : Str} {F : List D → R D} (h : FD P w K mg base T k x n F) (hk : k ≤ k') : FD P w K mg base T k' x n F := by
  obtain ⟨f, fd, ps, h1, h2⟩ := h
  exact ⟨f, fd, ps, h1.mono hk, h2⟩
end Pd
namespace Pd
open PySem PySem.Spec PyProof.Rows L2
/-! ### list comprehensions -/
def wipeD (ρ : Env) : List Nat → Env
  | [] => ρ
  | v :: vs => (wipeD ρ vs).del v
/-- no exception comes out of a comprehension here -/
def still {α : Type} : R α → R α
  | .ok a => .ok a
  | _ => .stuck
def lcGo (g : Env → D → R Env) (tt : Env → R Bool) (te : EF) (ρ : Env) : List D → R (List D)
  | [] => .ok []
  | d :: ds => (still ((g ρ d).bind fun ρ1 => (tt ρ1).bind fun b => if b = true then (te ρ1).bind fun y => .ok (some y) else .ok none)).bind fun o => (lcGo g tt te ρ ds).bind fun ys => .ok (o.toList ++ ys)
def eLc (I : Env → R (List D)) (g : Env → D → R Env) (tt : Env → R Bool) (te : EF) (vs : List Nat) : EF := fun ρ => (I ρ).bind fun ds => (lcGo g tt te (wipeD ρ vs) ds).bind fun ys => if ys.length < 16777216 then .ok (.list ys) else .stuck
def bYes : Env → R Bool := fun _ => .ok true
theorem still_sat {α : Type} {r : R α} {P : α → Prop} {E : Str → Prop} (h : Sat (still r) P E) : Sat r P (fun _ => False) := by
  cases r <;> exact h
theorem lcGo_nox {g : Env → D → R Env} {tt : Env → R Bool} {te : EF} {ρ : Env} : ∀ ds, NoX (lcGo g tt te ρ ds)
  | [] => noxO
  | d :: ds => by
    unfold lcGo
    refine bind_nox (fun c e => ?_) fun o => bind_nox (lcGo_nox ds) fun ys => noxO
    unfold still at e
    split at e <;> cases e
section
variable {K : PySem.W.Frag} {C : Cc} {O : Own} {H H' : Hp} {σ : L2.St} {ρ : Env} {Fs : Nat → List Addr}
/-- the slots vs forgotten -/
theorem ER.wipe (er : ER K C O H σ ρ Fs) : ∀ vs : List Nat, ∃ Fs', ER K C O H (L2.wipe σ vs) (wipeD ρ vs) Fs' ∧ ∀ j, j ∉ vs → Fs' j = Fs j
  | [] => ⟨Fs, er, fun _ _ => rfl⟩
  | v :: vs => by
    obtain ⟨Fs1, er1, k1⟩ := ER.wipe er vs
    have er2 := er1.del (i := v)
    refine ⟨_, ⟨?_, fun i d h => ?_, er2.emp, er2.own, er2.tab, er2.ext, er2.lks⟩, fun j hj => ?_⟩
    · show (List.set (L2.wipe σ vs) v none).length = _
      rw [List.length_set]; exact er2.len
    · obtain ⟨u, h1, r⟩ := er2.rep i d h
      refine ⟨u, ?_, r⟩
      show (List.set (L2.wipe σ vs) v none)[i]? = _
      by_cases e : i = v
      · subst e
        exfalso
        unfold wipeD Env.del at h
        by_cases hl : i < (wipeD ρ vs).length
        · rw [List.getElem?_set_self hl] at h; cases h
        · rw [List.getElem?_eq_none (by simpa using hl)] at h; cases h
      · rw [List.getElem?_set_ne (Ne.symm e)]; exact h1
    · have hj1 : j ≠ v := fun z => hj (z ▸ List.mem_cons_self)
      show (if j = v then [] else Fs1 j) = _
      rw [if_neg hj1]
      exact k1 j fun z => hj (List.mem_cons_of_mem _ z)
theorem wipe_same {is vs : List Nat} {σ σ' : L2.St} (h : ∀ i ∈ is, i ∈ vs) (s : SameO is (L2.wipe σ vs) σ') : L2.wipe σ' vs = L2.wipe σ vs := by
  have key : ∀ (vs : List Nat) (σ : L2.St) (j : Nat), (L2.wipe σ vs)[j]? = if j ∈ vs ∧ j < σ.length then some none else σ[j]? := by
    intro vs
    induction vs with
    | nil => intro σ j; simp [L2.wipe]
    | cons v vs ih =>
      intro σ j
      show (List.set (L2.wipe σ vs) v none)[j]? = _
      by_cases e : j = v
      · subst e
        by_cases hl : j < σ.length
        · rw [List.getElem?_set_self (by rw [wipe_length]; exact hl), if_pos ⟨List.mem_cons_self, hl⟩]
        · rw [List.getElem?_eq_none (by rw [List.length_set, wipe_length]; omega), if_neg (fun z => hl z.2), List.getElem?_eq_none (by omega)]
      · rw [List.getElem?_set_ne (Ne.symm e), ih]
        simp [e]
  apply List.ext_getElem?
  intro j
  rw [key vs σ' j]
  by_cases hj : j ∈ vs
  · by_cases hl : j < σ.length
    · have hl' : j < σ'.length := by rw [s.1, wipe_length]; exact hl
      rw [if_pos ⟨hj, hl'⟩, key, if_pos ⟨hj, hl⟩]
    · have hl' : ¬ j < σ'.length := by rw [s.1, wipe_length]; exact hl
      rw [if_neg (fun z => hl' z.2), key, if_neg (fun z => hl z.2), List.getElem?_eq_none (by omega), List.getElem?_eq_none (by omega)]
  · rw [if_neg (fun z => hj z.1)]
    exact s.2 j fun z => hj (h j z)
/-- a list of no slot is written -/
theorem ER.free_upd {p : Addr} {xs : List V} (er : ER K C O H σ ρ Fs) (h0 : C.H0 p = none) (hn : ∀ j, p ∉ Fs j) (hl : ∀ l ∈ C.lk, p ∉ l.F) (hH : H p = none ∨ ∃ ys, H p = some (.lst ys)) : ER K C O (L2.upd H p (.lst xs)) σ ρ Fs := by
  have nt : ∀ b zs, H b = some (.tup zs) → b ≠ p := fun b zs e z => by
    subst z
    rcases hH with w | ⟨ys, w⟩ <;> rw [e] at w <;> cases w
  have nf : ∀ b o u, H b = some (.frz o u) → b ≠ p := fun b o u e z => by
    subst z
    rcases hH with w | ⟨ys, w⟩ <;> rw [e] at w <;> cases w
  have nb : ∀ b ps, H b = some (.tbl ps) → b ≠ p := fun b ps e z => by
    subst z
    rcases hH with w | ⟨ys, w⟩ <;> rw [e] at w <;> cases w
  have kp : ∀ S : List Addr, p ∉ S → Kp H (L2.upd H p (.lst xs)) S := fun S h => ⟨fun b ys e => by rw [upd_ne (nt _ _ e)]; exact e, fun b o u e => by rw [upd_ne (nf _ _ _ e)]; exact e, fun b hb => upd_ne fun z => h (z ▸ hb)⟩
  refine ⟨er.len, fun i d h => ?_, er.emp, er.own, fun P hP => ?_, ⟨fun b o e n => ?_, fun b e => ?_, fun t P hP => ?_⟩, fun l hm => ?_⟩
  · obtain ⟨v, h1, r⟩ := er.rep i d h
    exact ⟨v, h1, r.kp (kp _ (hn i))⟩
  · obtain ⟨ps, h1, h2⟩ := er.tab P hP
    exact ⟨ps, by rw [upd_ne (nb _ _ h1)]; exact h1, h2⟩
  · rw [upd_ne fun z => by rw [z, h0] at e; cases e]
    exact er.ext.kept b o e n
  · rw [upd_ne fun z => by rw [z, h0] at e; exact e rfl]
    exact er.ext.dom b e
  · obtain ⟨ps, h1, h2⟩ := er.tab P hP
    exact ⟨ps, by rw [upd_ne (nb _ _ h1)]; exact h1, h2⟩
  · obtain ⟨st, k, dom, sep⟩ := er.lks l hm
    exact ⟨st, k.trans (kp _ (hl l hm)), dom, sep⟩
/-- .. from H1 on, which had nothing there -/
theorem Ex.free_upd {T : List Addr} {H1 H : Hp} {p : Addr} {xs : List V} (x : Ex T H1 H) (h1 : H1 p = none) (hH : H p = none ∨ ∃ ys, H p = some (.lst ys)) : Ex T H1 (L2.upd H p (.lst xs)) := by
  refine ⟨fun b o e n => ?_, fun b e => ?_, fun t P hP => ?_⟩
  · rw [upd_ne fun z => by rw [z, h1] at e; cases e]
    exact x.kept b o e n
  · rw [upd_ne fun z => by rw [z, h1] at e; exact e rfl]
    exact x.dom b e
  · obtain ⟨ps, e1, e2⟩ := x.tab t P hP
    refine ⟨ps, ?_, e2⟩
    rw [upd_ne fun z => by
      subst z
      rcases hH with w | ⟨ys, w⟩ <;> rw [e1] at w <;> cases w]
    exact e1
end
/-- a comprehension's tests -/
abbrev TTs (X : Cx) (C : Cc) (W : WX) (O : Own) (ifs : List Expr) (F : Env → R Bool) : Prop := PTs X ifs (Pd.tB X.K C W O F)
theorem tts_nil {X : Cx} {C : Cc} {W : WX} {O : Own} : TTs X C W O [] bYes := ⟨fun pins s σ H Q I ⟨ρ, Fs, er, q⟩ => (pts_nil (X := X)).run pins s σ H Q I (q H .refl)⟩
theorem tts_one {X : Cx} {C : Cc} {W : WX} {O : Own} {c : Expr} {F : Env → R Bool} (h : TV X C W O c F) : TTs X C W O [c] F := pts_one h
section
variable {X : Cx} {C : Cc} {W : WX} {O : Own} {elt tg iter : Expr} {ifs : List Expr} {scope : Scope} {own : List (Str × Nat)} {pos : Pos} {I : Env → R (List D)} {g : Env → D → R Env} {tt : Env → R Bool} {te : EF} {is : List Nat} {so : Option Nat}
/-- the reading of a comprehension's turns -/
theorem lc_read (ng : ∀ ρ d, NoX (g ρ d)) (his : ∀ i ∈ is, i ∈ own.map (·.2)) (σ : L2.St) (H : Hp) (Q : VK) (h : tD X.K C W O 0 (eLc I g tt te (own.map (·.2))) σ H Q) :
    tLc (tI X.K C W O so I) (tG X.K O is g) (fun σ H Q => ∃ l, Pd.tB X.K (C.lock l so) W0 O tt σ H Q) (fun σ H Q => ∃ l, tD X.K (C.lock l so) W0 O 0 te σ H Q) (own.map (·.2)) σ H Q := by
  obtain ⟨ρ, Fs, er, q⟩ := h
  refine ⟨ρ, Fs, er, (Sat.bind q).mono (fun ds q J H1 l x1 it nw => ?_) fun _ z => z⟩
  intro p hp
  have er1 := (er.ex x1).lock nw
  have hls : ∀ m ∈ C.lk, ∀ i, m.so = some i → i ∈ C.ls := fun m hm => (er.lks m hm).st
  have h0p : C.H0 p = none := er1.ext.free hp
  have hFp : ∀ j, p ∉ Fs j := fun j z => er1.nn j p z hp
  have hlp : ∀ m ∈ (C.lock l so).lk, p ∉ m.F := fun m hm z => er1.lkdom hm p z hp
  have q := (Sat.bind q).nox (lcGo_nox _)
  refine ⟨fun i m H2 => m + i = ds.length ∧ ∃ acc es F, H2 p = some (.lst acc) ∧ RpL X.K H2 acc es F ∧ F.Nodup ∧ (∀ b ∈ F, H1 b = none) ∧ p ∉ F ∧ ER X.K (C.lock l so) O H2 σ ρ Fs ∧ Ex C.T H1 H2 ∧
      Sat (lcGo g tt te (wipeD ρ (own.map (·.2))) (ds.drop i)) (fun ys => (es ++ ys).length < 16777216 ∧ ∀ v H' F', Ex C.T H H' → Rp X.K H' v (.list (es ++ ys)) F' → KdOk 0 O H Fs F' → Q v H') (fun _ => False),
    ⟨ds.length, rfl, [], [], [], upd_same, .nil, List.nodup_nil, (fun b hb => (nomatch hb)), (fun hb => (nomatch hb)), er1.free_upd h0p hFp hlp (.inl hp), Ex.new hp, q.mono (fun ys w => ?_) fun _ z => z⟩, ?_⟩
  · by_cases hl : ys.length < 16777216
    · rw [if_pos hl] at w
      exact ⟨hl, w⟩
    · rw [if_neg hl] at w; exact w.elim
  · rintro i m H2 ⟨hm, acc, es, F, hA, ra, nd, fr, pF, er2, x2, q2⟩
    have kp : Kp l.HG H2 l.F := (er2.lks l List.mem_cons_self).kp
    by_cases hlt : i < ds.length
    · have e1 : ds.drop i = ds[i] :: ds.drop (i + 1) := List.drop_eq_getElem_cons hlt
      rw [e1] at q2
      have q2 := still_sat (Sat.bind q2)
      refine .inr ⟨it.go i H2 kp hlt, fun H3 => ∃ acc es F, H3 p = some (.lst acc) ∧ RpL X.K H3 acc es F ∧ F.Nodup ∧ (∀ b ∈ F, H1 b = none) ∧ p ∉ F ∧ ER X.K (C.lock l so) O H3 σ ρ Fs ∧ Ex C.T H1 H3 ∧
        Sat (lcGo g tt te (wipeD ρ (own.map (·.2))) (ds.drop (i + 1))) (fun ys => (es ++ ys).length < 16777216 ∧ ∀ v H' F', Ex C.T H H' → Rp X.K H' v (.list (es ++ ys)) F' → KdOk 0 O H Fs F' → Q v H') (fun _ => False), fun H' h => ⟨m - 1, by omega, by omega, h⟩, fun v H3 y => ?_⟩
      obtain ⟨x3, G, r3, g3⟩ := it.yld i H2 v H3 ds[i] kp (List.getElem?_eq_getElem hlt) y
      have er3 := er2.ex x3
      obtain ⟨Fw, erw, kw⟩ := er3.wipe (own.map (·.2))
      have owns : ∀ j ∈ O, ∀ b ∈ Fw j, b ∈ Fs j := fun j hj b hb => by
        by_cases hv : j ∈ own.map (·.2)
        · exfalso
          have e : Fw j = [] := by
            refine erw.emp j fun d hd => ?_
            obtain ⟨u, h1, _⟩ := erw.rep j d hd
            obtain ⟨_, h2⟩ := wipe_some h1
            exact h2 hv
          rw [e] at hb; cases hb
        · rw [kw j hv] at hb; exact hb
      refine ⟨C.lock l so, _, Fw, ds[i], G, erw, r3, fun j hj b hb z => ?_, (Sat.bind q2).mono (fun ρ4 p4 σ4 Fs4 er4 k4 s4 => ?_) fun _ z => z⟩
      · have hb := owns j hj b hb
        rcases g3 b z with ⟨h0, h1⟩ | h1
        · exact (er2.lks l List.mem_cons_self).sep j hj (by rw [h0]; intro q; cases q) b hb h1
        · exact er2.nn j b hb h1
      · refine ⟨wipe_same his s4, l, ρ4, Fs4, er4, (Sat.bind p4).mono (fun b p5 H5 x5 => ?_) fun _ z => z.elim⟩
        have x25 := x3.trans x5
        have hA5 : H5 p = some (.lst acc) := x25.kept _ _ hA (fun _ z => by cases z)
        have er5 := er2.ex x25
        cases b with
        | false =>
          exact ite_ff ⟨acc, es, F, hA5, ra.ex x25, nd, fr, pF, er5, x2.trans x25, (Sat.bind p5).mono (fun ys w => w) fun _ z => z⟩
        | true =>
          rw [if_pos rfl] at p5
          refine ite_tt ⟨l, ρ4, Fs4, er4.ex x5, (Sat.bind p5).mono (fun y p6 v6 H6 F6 x6 r6 kd6 => ?_) fun _ z => z.elim⟩
          have x26 := x25.trans x6
          have hA6 : H6 p = some (.lst acc) := x26.kept _ _ hA (fun _ z => by cases z)
          have er6 := er2.ex x26
          have ra6 := ra.ex x26
          obtain ⟨nd6, fr6⟩ := kd6.fr rfl
          have nF : ∀ b ∈ F6, b ∉ F := fun b hb z => by
            obtain ⟨o, e, _⟩ := (ra.ex x25).dom b z
            have := fr6 b hb
            rw [e] at this; cases this
          have np : p ∉ F6 := fun z => by
            have := fr6 p z
            rw [hA5] at this; cases this
          have p6 : Sat (lcGo g tt te (wipeD ρ (own.map (·.2))) (ds.drop (i + 1))) _ _ := Sat.bind p6
          have hlen : acc.length < sizeLine := by
            rw [ra.length]
            cases e : lcGo g tt te (wipeD ρ (own.map (·.2))) (ds.drop (i + 1)) with
            | ok ys =>
              rw [e] at p6
              have := p6.1
              simp only [List.length_append, Option.toList, List.length_cons] at this
              exact len_ok (by omega)
            | exc c => rw [e] at p6; exact p6.elim
            | stuck => rw [e] at p6; exact p6.elim
          have kp6 : Kp H6 (L2.upd H6 p (.lst (acc ++ [v6]))) (F ++ (F6 ++ [])) := by
            refine ⟨fun b ys e => ?_, fun b o u e => ?_, fun b hb => upd_ne fun z => ?_⟩
            · rw [upd_ne fun z => by rw [z, hA6] at e; cases e]; exact e
            · rw [upd_ne fun z => by rw [z, hA6] at e; cases e]; exact e
            · subst z
              rcases List.mem_append.mp hb with w | w
              · exact pF w
              · exact np (by simpa using w)
          refine ⟨acc, hA6, hlen, acc ++ [v6], es ++ [y], F ++ (F6 ++ []), upd_same, (ra6.append (.cons r6 .nil)).kp kp6, ?_, fun b hb => ?_, fun z => ?_, er6.free_upd h0p hFp hlp (.inr ⟨_, hA6⟩), (x2.trans x26).free_upd hp (.inr ⟨_, hA6⟩), ?_⟩
          · rw [List.append_nil]
            exact List.nodup_append.mpr ⟨nd, nd6, fun b hb c hc e => nF c hc (e ▸ hb)⟩
          · rw [List.append_nil] at hb
            rcases List.mem_append.mp hb with w | w
            · exact fr b w
            · exact (x2.trans x25).free (fr6 b w)
          · rw [List.append_nil] at z
            rcases List.mem_append.mp z with w | w
            · exact pF w
            · exact np w
          · refine p6.mono (fun ys w => ?_) fun _ z => z
            have e : es ++ [y] ++ ys = es ++ (Option.toList (some y) ++ ys) := by simp
            rw [e]; exact w
    · have e1 : ds.drop i = [] := List.drop_eq_nil_of_le (by omega)
      rw [e1] at q2
      refine .inl ⟨it.stop i H2 kp (by omega), ?_⟩
      have q2 : (es ++ []).length < 16777216 ∧ ∀ v H' F', Ex C.T H H' → Rp X.K H' v (.list (es ++ [])) F' → KdOk 0 O H Fs F' → Q v H' := q2
      rw [List.append_nil] at q2
      refine q2.2 _ H2 (p :: F) (x1.trans x2) (.lst hA ra) ⟨fun _ => ⟨List.nodup_cons.mpr ⟨pF, nd⟩, fun b hb => ?_⟩, fun z => by omega⟩
      rcases List.mem_cons.mp hb with z | z
      · rw [z]; exact x1.free hp
      · exact x1.free (fr b z)
theorem ev_lc (hc : X.calm = true) (hN : X.N.Nodup) (hi : IV X C W O tg iter so I) (ok : BlkOk X.N X.env.scope scope own)
    (hg : ∀ (s : Shared) (H : Hp) (c : Addr) (cl : List (Str × Addr)) (fp : List Addr), GV (X.blk s H scope (compEnvC scope cl c X.env) fp) O tg is g)
    (ht : ∀ (s : Shared) (H : Hp) (c : Addr) (cl : List (Str × Addr)) (fp : List Addr) (l : Lk), TTs (X.blk s H scope (compEnvC scope cl c X.env) fp) (C.lock l so) W0 O ifs tt)
    (he : ∀ (s : Shared) (H : Hp) (c : Addr) (cl : List (Str × Addr)) (fp : List Addr) (l : Lk), EV (X.blk s H scope (compEnvC scope cl c X.env) fp) (C.lock l so) W0 O elt 0 te)
    (his : ∀ i ∈ is, i ∈ own.map (·.2) := by decide) (hs : ∀ x, foldedSetIterable iter X.env x = pure x := by intro _; rfl) {sl : List Nat} (hsl : own.map (·.2) = sl := by rfl) : EV X C W O (.ListComp elt [⟨tg, iter, ifs, 0⟩] scope pos) 0 (eLc I g tt te sl) := by
  subst hsl
  exact (pe_lc hc hN hi ok (fun s H c cl fp => (hg s H c cl fp).pg) (fun s H c cl fp => ⟨fun pins s' σ H' Q I' ⟨l, h⟩ => (ht s H c cl fp l).run pins s' σ H' Q I' h⟩) (fun s H c cl fp => ⟨fun pins s' σ H' Q I' ⟨l, h⟩ => (he s H c cl fp l).run pins s' σ H' Q I' h⟩) hs).imp
    (lc_read (hg X.s_0 X.H_0 0 [] []).nox his)
theorem sv_setLc {i : Nat} {y : Str} {py spos : Pos} {Ob O' : Own} (hc : X.calm = true) (hN : X.N.Nodup) (hy : X.N[i]? = some y) (hyl : X.env.scope.names.lookup y = some .local) (hi : IV X C W O tg iter so I) (ok : BlkOk X.N X.env.scope scope own)
    (hg : ∀ (s : Shared) (H : Hp) (c : Addr) (cl : List (Str × Addr)) (fp : List Addr), GV (X.blk s H scope (compEnvC scope cl c X.env) fp) O tg is g)
    (ht : ∀ (s : Shared) (H : Hp) (c : Addr) (cl : List (Str × Addr)) (fp : List Addr) (l : Lk), TTs (X.blk s H scope (compEnvC scope cl c X.env) fp) (C.lock l so) W0 O ifs tt)
    (he : ∀ (s : Shared) (H : Hp) (c : Addr) (cl : List (Str × Addr)) (fp : List Addr) (l : Lk), EV (X.blk s H scope (compEnvC scope cl c X.env) fp) (C.lock l so) W0 O elt 0 te)
    (hO : ∀ j ∈ O', j = i ∨ (j ≠ i ∧ j ∈ O) := by decide) (his : ∀ i ∈ is, i ∈ own.map (·.2) := by decide) (hs : ∀ x, foldedSetIterable iter X.env x = pure x := by intro _; rfl)
    (hsw : swapsWith (.ListComp elt [⟨tg, iter, ifs, 0⟩] scope pos) (some (.Name y py)) spos.line X.env = pure true := by rfl) {sl : List Nat} (hsl : own.map (·.2) = sl := by rfl) :
    SV X C W Ob O O' (.Assign [.Name y py] (.ListComp elt [⟨tg, iter, ifs, 0⟩] scope pos) spos) (setD i (eLc I g tt te sl)) := by
  subst hsl
  exact (ps_setLc (tt := fun σ H Q => ∃ l, Pd.tB X.K (C.lock l so) W0 O tt σ H Q) (te := fun σ H Q => ∃ l, tD X.K (C.lock l so) W0 O 0 te σ H Q) hc hN hy hyl hsw hi ok (fun s H c cl fp => (hg s H c cl fp).pg) (fun s H c cl fp => ⟨fun pins s' σ H' Q I' ⟨l, h⟩ => (ht s H c cl fp l).run pins s' σ H' Q I' h⟩) (fun s H c cl fp => ⟨fun pins s' σ H' Q I' ⟨l, h⟩ => (he s H c cl fp l).run pins s' σ H' Q I' h⟩) hs).imp fun De σ H ⟨ρ, Fs, er, q⟩ => by
    refine lc_read (hg X.s_0 X.H_0 0 [] []).nox his σ H _ ?_
    refine tD.step er (fin_of er q) fun d v H1 F1 p er1 x1 r1 kd1 => ?_
    obtain ⟨Fs', er'⟩ := er.put (O' := O') (i := i) x1 r1 kd1 (Nat.zero_le 1) fun j hj => (hO j hj).imp (fun z => ⟨z, rfl⟩) id
    exact p _ _ Fs' er'
end
end Pd
namespace Pd
open PySem PySem.Spec PyProof.Rows L2
/-! ### generator expressions -/
/-- the context of a generator expression's block -/
abbrev _root_.L2.Cx.gx (X : Cx) (A' : Around) (s : Shared) (H : Hp) (cenv : PySem.Env) (fp : List Addr) : Cx :=
  { X with A := A', s_0 := s, H_0 := H, env := cenv, outer := X.stack, stack := cenv :: X.stack, ex := fp, fn := fun _ => false, pn := [], xe := fun _ _ => False }
theorem inv_same {X : Cx} {pins : List (Addr × Obj)} {σ : L2.St} {H : Hp} {s s' : Shared} (I : Inv X pins σ H s) (h : s'.heap = s.heap) (os : s'.os = s.os) (bare : AllBare s'.gens) : Inv X pins σ H s' := by
  obtain ⟨hp, g, d, t, o⟩ := s'
  have h : hp = s.heap := h
  have os : o = s.os := os
  subst h os
  exact ⟨I.ok, I.os, bare, I.base, I.loc, I.cell, I.free, I.freeC, I.pin, I.hok, I.len⟩
/-- the scope of such a block -/
structure GenOk (scope : Scope) : Prop where
  co : scope.isCoroutine = false
  cell : ∀ y ∈ scope.names, y.2 ≠ .cell
  dot : scope.names.lookup (".0" : Str) = some NameKind.local
section
variable {X : Cx} {pins : List (Addr × Obj)} {σ : L2.St} {H : Hp} {s s' : Shared} {scope : Scope} {own : List (Str × Nat)} {fp : List Addr} {code : Value} {A' : Around}
theorem gen_start {m : Str → Option Value} (I : Inv X pins σ H s) (ok : BlkOk X.N X.env.scope scope own) (gk : GenOk scope) (hN : X.N.Nodup) (hfp : ∀ b ∈ fp, FpOk X pins H b ∧ b < s.heap.objs.size)
    (hA : X.calm = true → A'.handled = none) (hfr : A'.frames = some (genEnv scope (cloFrom X.env.cells scope.names []) s.heap.objs.size code builtinsNs X.env :: X.stack))
    (os : s'.os = s.os) (bare : AllBare s'.gens) (kp : ∀ b o, s.heap.get? b = some o → s'.heap.get? b = some o) (hns : s'.heap.Ns s.heap.objs.size m) :
    Inv (X.gx A' s H (genEnv scope (cloFrom X.env.cells scope.names []) s.heap.objs.size code builtinsNs X.env) fp) [] (wipe σ (own.map (·.2))) H s' := by
  have hfree : ∀ y ∈ scope.names, y.2 = .free → ∃ c, X.env.cells.lookup y.1 = some c := fun y hy e => by
    rcases ok.free y hy e with k | k
    · exact I.ok.has _ (.inl k)
    · exact I.ok.has _ (.inr k)
  generalize hcenv : genEnv scope (cloFrom X.env.cells scope.names []) s.heap.objs.size code builtinsNs X.env = cenv at hfr ⊢
  have hL : cenv.locals = s.heap.objs.size := by rw [← hcenv]; rfl
  have hcl : cenv.cells = cloFrom X.env.cells scope.names [] := by rw [← hcenv]; rfl
  have hsc : cenv.scope = scope := by rw [← hcenv]; rfl
  have cm : ∀ {y c}, (y, c) ∈ cloFrom X.env.cells scope.names [] → X.env.cells.lookup y = some c ∧ c < s.heap.objs.size := fun {y c} hm => by
    rcases cloFrom_mem hm with hm | ⟨h1, rfl⟩
    · cases hm
    · obtain ⟨c, hc⟩ := hfree _ h1 rfl
      rw [hc]
      obtain ⟨w, z⟩ := I.cell _ _ hc
      exact ⟨rfl, z.lt⟩
  have mem : ∀ {y c}, cenv.cells.lookup y = some c → X.env.cells.lookup y = some c ∧ c < s.heap.objs.size := fun {y c} e => by
    rw [hcl] at e
    exact cm (PySem.mem_of_lookup e)
  have look : ∀ {y}, scope.names.lookup y = some .free → ∃ c, cenv.cells.lookup y = some c ∧ X.env.cells.lookup y = some c := fun {y} hl => by
    have hy : (y, NameKind.free) ∈ scope.names := PySem.mem_of_lookup hl
    obtain ⟨c', e'⟩ := mem_lookup (cloFrom_has (cells := X.env.cells) (acc := []) hy)
    rw [← hcl] at e'
    exact ⟨c', e', (mem e').1⟩
  have okB : (X.gx A' s H cenv fp).Ok := by
    refine ⟨I.ok.mod, by show cenv.scope.kind = _; rw [hsc]; exact ok.kind, by show cenv.globals = _; rw [← hcenv]; exact I.ok.glob, by show cenv.builtins = _; rw [← hcenv]; rfl, by show s.heap.objs.size ≤ cenv.locals; rw [hL]; exact Nat.le_refl _,
      fun y z c e1 e2 => I.ok.inj y z c (mem e1).1 (mem e2).1, fun y hy => ?_, fun y c z e => (by cases z), hA, hfr, .inr ⟨rfl, by show cenv.frame = some cenv.locals; rw [← hcenv]; rfl⟩, fun b hb => ⟨?_, fun y c e z => ?_⟩, I.bs, Nat.le_trans I.ok.bsz I.sz, fun b o e hb => ?_, fun b hb z => ?_, I.stack, I.stkFree⟩
    · show ∃ c, cenv.cells.lookup y = some c
      have key : ∀ k, cenv.scope.names.lookup y = some k → (k = .cell ∨ k = .free) → ∃ c, cenv.cells.lookup y = some c := fun k hk hk' => by
        rw [hsc] at hk
        rcases hk' with rfl | rfl
        · exact absurd rfl (gk.cell _ (PySem.mem_of_lookup hk))
        · obtain ⟨c, h1, _⟩ := look hk
          exact ⟨c, h1⟩
      rcases hy with hy | hy
      · exact key _ hy (.inl rfl)
      · exact key _ hy (.inr rfl)
    · show b ≠ cenv.locals
      rw [hL]; exact Nat.ne_of_lt (hfp b hb).2
    · exact (hfp b hb).1.2.2.2.2.1 y c (mem e).1 z
    · rcases (hfp b hb).1.2.2.2.1 with z | z
      · exact I.ok.noex b o e z
      · exact absurd (Nat.lt_of_lt_of_le (Heap.lt_size e) (Nat.le_trans I.ok.bsz z)) (Nat.lt_irrefl _)
    · rcases List.mem_cons.mp (I.stkSub b z) with z | z
      · exact (hfp b hb).1.2.1 z
      · exact (hfp b hb).1.2.2.1 z
  refine ⟨okB, os, bare, Un.kept kp, ⟨m, by show Heap.Ns _ cenv.locals _; rw [hL]; exact hns, fun i y av e1 e2 e3 => ?_⟩, fun y c e => ?_, ?_, fun y c e => ?_, fun p hp => ?_, I.hok.kept kp, by rw [wipe_length]; exact I.len⟩
  · obtain ⟨e2, hne⟩ := wipe_some e2
    have hfr : scope.names.lookup y = some .free ∧ cenv.kindOf y = some .free := by
      have key : ∀ k, cenv.scope.names.lookup y = some k → k = .local ∨ k = .cell ∨ k = .free → scope.names.lookup y = some .free ∧ cenv.kindOf y = some .free := fun k hk hk' => by
        have hk0 := hk
        rw [hsc] at hk
        have no : ¬ (k = .local ∨ k = .cell) := fun hh => by
          rcases ok.own _ (PySem.mem_of_lookup hk) hh with e' | e'
          · obtain ⟨p, hp, hpy⟩ := List.mem_map.mp e'
            have e3 := ok.ix p hp
            have : p.1 = y := hpy
            rw [this] at e3
            exact hne (List.mem_map.mpr ⟨p, hp, nodup_ix hN e3 e1⟩)
          · exact e' (List.mem_of_getElem? e1)
        rcases hk' with rfl | rfl | rfl
        · exact absurd (.inl rfl) no
        · exact absurd (.inr rfl) no
        · exact ⟨hk, hk0⟩
      have e3 : Vis cenv.scope y := e3
      rcases e3 with e3 | e3 | e3
      · exact key _ e3 (.inl rfl)
      · exact key _ e3 (.inr (.inl rfl))
      · exact key _ e3 (.inr (.inr rfl))
    obtain ⟨m', hn, hl⟩ := I.loc
    have hvis : Vis X.env.scope y := (ok.free _ (PySem.mem_of_lookup hfr.1) rfl).elim (fun k => .inr (.inl k)) (fun k => .inr (.inr k))
    obtain ⟨w, r, q⟩ := hl i y av e1 e2 hvis
    refine ⟨w, r, .inr ⟨.inr hfr.2, ?_⟩⟩
    obtain ⟨c, h1, h2⟩ := look hfr.1
    rcases q with ⟨k, _⟩ | ⟨_, c', e', z⟩
    · have k : X.env.scope.names.lookup y = some .local := k
      rcases ok.free _ (PySem.mem_of_lookup hfr.1) rfl with k' | k' <;> rw [show X.env.scope.names.lookup y = _ from k'] at k <;> cases k
    · rw [h2] at e'; cases e'
      exact ⟨c, h1, z.keeps kp⟩
  · obtain ⟨w, z⟩ := I.cell y c (mem e).1
    exact ⟨w, z.keeps kp⟩
  · show H cenv.locals = none
    rw [hL]; exact I.hok.fresh (Nat.le_refl _)
  · exact I.freeC y c (mem e).1
  · exact absurd (show p ∈ ([] : List (Addr × Obj)) ++ [] from hp) (by simp)
end
/-! the walk of the block -/
section
variable {X : Cx} {vs : List Nat} {σ : L2.St} {ga : Addr} {gob : Obj} {fp : List Addr} {it : Addr} {tn : Nat → Heap → Prop} {J : It} {elt tg iter : Expr} {ifs : List Expr} {scope : Scope} {pos : Pos} {g : TG} {tt : TT} {te : TE} {nb : Nat} {W : Nat → Hp → Prop} {Y : Nat → V → Hp → Prop} {Qe : Hp → Prop}
abbrev genX (elt tg iter : Expr) (ifs : List Expr) (scope : Scope) (pos : Pos) : Expr := .GeneratorExp elt [⟨tg, iter, ifs, 0⟩] scope pos
/-- between the turns -/
def GLI (X : Cx) (vs : List Nat) (σ : L2.St) (ga : Addr) (gob : Obj) (fp : List Addr) (tn : Nat → Heap → Prop) (i : Nat) (H : Hp) (s : Shared) : Prop :=
  Inv X [(ga, gob)] (wipe σ vs) H s ∧ tn i s.heap ∧ ∀ b ∈ fp, H b = none
theorem GLI.same {i : Nat} {H : Hp} {s s' : Shared} (h : GLI X vs σ ga gob fp tn i H s) (e : s'.heap = s.heap) (os : s'.os = s.os) (bare : AllBare s'.gens) : GLI X vs σ ga gob fp tn i H s' :=
  ⟨inv_same h.1 e os bare, by rw [e]; exact h.2.1, h.2.2⟩
def GYp (X : Cx) (vs : List Nat) (σ : L2.St) (ga : Addr) (gob : Obj) (fp : List Addr) (tn : Nat → Heap → Prop) (W : Nat → Hp → Prop) (Y : Nat → V → Hp → Prop) : Protocol := fun m s₀ v s kap =>
  ∃ i y H, RelV y v ∧ GLI X vs σ ga gob fp tn (i + 1) H s ∧ Y i y H ∧ ∀ s'', s''.heap = s.heap → s''.os = s.os → AllBare s''.gens → W (i + 1) H → kap (.send .none) s''
def GEp (X : Cx) (vs : List Nat) (σ : L2.St) (ga : Addr) (gob : Obj) (Qe : Hp → Prop) (_ : Nat) (_ s : Shared) : Prop := ∃ H, Inv X [(ga, gob)] (wipe σ vs) H s ∧ Qe H
/-- one turn's reading -/
def GTurn (J : It) (vs : List Nat) (σ : L2.St) (g : TG) (tt : TT) (te : TE) (nb : Nat) (W : Nat → Hp → Prop) (Y : Nat → V → Hp → Prop) (Qe : Hp → Prop) : Prop := ∀ i H, W i H →
  (J.stop i H ∧ Qe H) ∨ (i < nb ∧ J.go i H ∧ ∀ x H', J.yld i H x H' → g x (wipe σ vs) H' fun σ2 H2 => wipe σ2 vs = wipe σ vs ∧ tt σ2 H2 fun b H3 => if b = true then te σ2 H3 (Y i) else W (i + 1) H3)
theorem seg_gl {A : Around} (hfpe : X.ex = fp) (hcalm : X.calm = true) (hxe : X.xe = fun _ _ => False) (hpn : X.pn = []) (hA : A.over (.compLoop (genX elt tg iter ifs scope pos) 0 (.ref it) .none X.env) [] = X.A) (hco : X.env.scope.isCoroutine = false)
    (T : Turn X.prog X.w X.K tg J fp it tn) (pg : PG X tg g) (pt : PTs X ifs tt) (pe : PE X elt te) (turn : GTurn J vs σ g tt te nb W Y Qe) (gne : ga ∉ fp) :
    ∀ (k i n : Nat) (s₀ s : Shared) (H : Hp), nb - i = k → k ≤ n → GLI X vs σ ga gob fp tn i H s → W i H →
      Seg (model X.prog X.w) A (fun n s₀ r s₁ => r = .ok .next ∧ GEp X vs σ ga gob Qe n s₀ s₁) (GYp X vs σ ga gob fp tn W Y) n s₀ (.compLoop (genX elt tg iter ifs scope pos) 0 (.ref it) .none X.env)
        ((model X.prog X.w).den (.compLoop (genX elt tg iter ifs scope pos) 0 (.ref it) .none X.env)) [] s := by
  have stat : ∀ {σ' : L2.St} {H' : Hp} {s' : Shared} {pins : List (Addr × Obj)}, (∀ p ∈ pins, p.1 ∉ fp) → Inv X pins σ' H' s' → (∀ b ∈ fp, H' b = none) → ∀ b ∈ fp, FpOk X pins H' b := fun {σ' H' s' pins} hp I' hn b hb =>
    ⟨hn b hb, (I'.ok.exf b (by rw [hfpe]; exact hb)).1, I'.ok.exfs b (by rw [hfpe]; exact hb), .inl (by rw [hfpe]; exact hb), fun x c e => (I'.ok.exf b (by rw [hfpe]; exact hb)).2 x c e, fun p hp' z => by
      rw [hpn, List.nil_append] at hp'
      exact hp p hp' (z ▸ hb)⟩
  have hgp : ∀ p ∈ [(ga, gob)], p.1 ∉ fp := fun p hp => by
    have e : p = (ga, gob) := by simpa using hp
    rw [e]; exact gne
  intro k
  induction k with
  | zero =>
    intro i n s₀ s H hk hkn L w
    rcases turn i H w with ⟨stop, qe⟩ | ⟨hlt, _⟩
    · show Seg _ A _ _ _ s₀ _ ((compTurn (genX elt tg iter ifs scope pos) 0 (.ref it) .none X.env).onRaise (leaving X.env)) [] s
      rw [compTurn_gen, Sem.onRaise_eq_wrap]
      refine seg_bind_wrap (wpAny_standAt ?_)
      have td := T.done X rfl rfl rfl hcalm i [(ga, gob)] s _ H (fun _ _ => False) L.1 (stat hgp L.1 L.2.2) L.2.1 stop
      rw [← hA] at td
      refine seg_bind_wrap (wpAny_mono td (fun r s1 h1 => ?_) fun _ _ z => z.elim)
      obtain ⟨hr, I1⟩ := h1
      subst hr
      exact seg_end (.ok .next) ⟨rfl, H, I1, qe⟩
    · omega
  | succ k ih =>
    intro i n s₀ s H hk hkn L w
    show Seg _ A _ _ _ s₀ _ ((compTurn (genX elt tg iter ifs scope pos) 0 (.ref it) .none X.env).onRaise (leaving X.env)) [] s
    rw [compTurn_gen, Sem.onRaise_eq_wrap]
    refine seg_bind_wrap (wpAny_standAt ?_)
    rcases turn i H w with ⟨stop, qe⟩ | ⟨hlt, go, step⟩
    · have td := T.done X rfl rfl rfl hcalm i [(ga, gob)] s _ H (fun _ _ => False) L.1 (stat hgp L.1 L.2.2) L.2.1 stop
      rw [← hA] at td
      refine seg_bind_wrap (wpAny_mono td (fun r s1 h1 => ?_) fun _ _ z => z.elim)
      obtain ⟨hr, I1⟩ := h1
      subst hr
      exact seg_end (.ok .next) ⟨rfl, H, I1, qe⟩
    · have ti := T.item X rfl rfl rfl hcalm i [(ga, gob)] s _ H (fun _ _ => False) L.1 (stat hgp L.1 L.2.2) L.2.1 go
      rw [← hA] at ti
      refine seg_bind_wrap (wpAny_mono ti (fun r s1 h1 => ?_) fun _ _ z => z.elim)
      obtain ⟨u, hr, h1⟩ := h1
      subst hr
      refine seg_bind_wrap (wpAny_mono h1 (fun _ s7 h7 => ?_) fun _ _ z => z.elim)
      obtain ⟨x, H7, I7, r7, y7, st7, n7⟩ := h7
      have I7' := I7.pinned (stat hgp I7 n7) (T.obj _ _ st7)
      have pr := pg.run _ s7 _ H7 x u _ I7' r7 (step x H7 y7)
      rw [← hA, hxe] at pr
      refine seg_bind_wrap (wpAny_mono pr (fun _ s8 h8 => ?_) fun _ _ z => z.elim)
      obtain ⟨σ8, H8, I8, hw8, q8⟩ := h8
      have tr := pt.run _ s8 σ8 H8 _ I8 q8
      rw [← hA, hxe] at tr
      refine seg_bind_wrap (wpAny_mono tr (fun b s9 h9 => ?_) fun _ _ z => z.elim)
      obtain ⟨H9, I9, q9⟩ := h9
      -- the turn's end
      have fin : ∀ {s' : Shared} {H' : Hp}, Inv X ([(ga, gob)] ++ pinsAt fp s7.heap) σ8 H' s' → GLI X vs σ ga gob fp tn (i + 1) H' s' := fun {s' H'} I' => by
        have pin' : ∀ b ∈ fp, ∀ o, s7.heap.get? b = some o → s'.heap.get? b = some o ∧ H' b = none := fun b hb o e =>
          let z := I'.pin (b, o) (List.mem_append_right _ (List.mem_append_right _ (mem_pinsAt hb e)))
          ⟨z.1, z.2.1⟩
        have hl : (wipe σ vs).length = σ8.length := by rw [← hw8, wipe_length]
        refine ⟨(I'.unpinned (pins := [(ga, gob)])).weak hl (fun j v e => ?_), T.keep _ _ _ st7 fun b hb o e => (pin' b hb o e).1, fun b hb => ?_⟩
        · rw [← hw8] at e
          exact (wipe_some e).1
        · obtain ⟨o, e, _⟩ := T.obj _ _ st7 b hb
          exact (pin' b hb o e).2
      cases b with
      | false =>
        simp only [Bool.false_eq_true, if_false] at q9 ⊢
        exact seg_again rfl (ih (i + 1) n s₀ s9 H9 (by omega) (by omega) (fin I9) q9)
      | true =>
        simp only [if_true] at q9 ⊢
        have hy : ∀ v, yieldOut X.env v = yieldValue v := fun v => by simp only [yieldOut, hco, Bool.false_eq_true, if_false]
        simp only [hy]
        rw [Sem.bind_eq_wrap', Sem.bind_eq_wrap', Sem.wrap_wrap, Sem.wrap_wrap]
        have er := pe.run _ s9 σ8 H9 _ I9 q9
        rw [← hA, hxe] at er
        refine seg_wrap (wpAny_mono er (fun z s10 h10 => ?_) fun _ _ z => z.elim)
        obtain ⟨yv, H10, I10, r10, yq⟩ := h10
        cases n with
        | zero => omega
        | succ n =>
          refine seg_at (seg_yield rfl rfl rfl ⟨i, yv, H10, r10, fin I10, yq, fun s'' e1 e2 e3 w1 => ?_⟩)
          exact seg_again rfl (ih (i + 1) n s'' s'' H10 (by omega) (by omega) ((fin I10).same e1 e2 e3) w1)
end
end Pd
namespace Pd
open PySem PySem.Spec PyProof.Rows L2 GxR GenW
section
variable {X : Cx} {vs : List Nat} {σ : L2.St} {ga gi : Nat} {gob : Obj} {fp : List Addr} {it : Addr} {tn : Nat → Heap → Prop} {J : It} {elt tg iter : Expr} {ifs : List Expr} {scope : Scope} {pos : Pos} {g : TG} {tt : TT} {te : TE} {nb : Nat} {W : Nat → Hp → Prop} {Y : Nat → V → Hp → Prop} {Qe : Hp → Prop}
theorem seg_gs {A : Around} (hfpe : X.ex = fp) (hcalm : X.calm = true) (hxe : X.xe = fun _ _ => False) (hpn : X.pn = []) (hA : A.over (.compLoop (genX elt tg iter ifs scope pos) 0 (.ref it) .none X.env) [] = X.A) (hco : X.env.scope.isCoroutine = false)
    (T : Turn X.prog X.w X.K tg J fp it tn) (pg : PG X tg g) (pt : PTs X ifs tt) (pe : PE X elt te) (turn : GTurn J vs σ g tt te nb W Y Qe) (gne : ga ∉ fp) {s₀ s : Shared} {H : Hp} (L : GLI X vs σ ga gob fp tn 0 H s) (w : W 0 H) :
    Seg (model X.prog X.w) A (fun n s₀ r s₁ => r = .ok .next ∧ GEp X vs σ ga gob Qe n s₀ s₁) (GYp X vs σ ga gob fp tn W Y) nb s₀ (.compStart (genX elt tg iter ifs scope pos) 0 (.ref it) .none X.env)
      ((model X.prog X.w).den (.compStart (genX elt tg iter ifs scope pos) 0 (.ref it) .none X.env)) [] s := by
  have loop := seg_gl (gob := gob) (A := A) hfpe hcalm hxe hpn hA hco T pg pt pe turn gne nb 0 nb s₀ s H (Nat.sub_zero _) (Nat.le_refl _) L w
  show Seg _ A _ _ _ s₀ _ ((compStart (genX elt tg iter ifs scope pos) 0 (.ref it) .none X.env).onRaise (leaving X.env)) [] s
  unfold compStart
  rw [Sem.onRaise_eq_wrap]
  show Seg _ A _ _ _ s₀ _ ((ask >>= _).wrap _ _ _ _) [] s
  refine seg_bind_wrap (wpAny_askSetting ?_)
  split
  · exact seg_again rfl loop
  · first
      | exact seg_bind_wrap (wpAny_rule (seg_bind_wrap (wpAny_standAt (seg_bind_wrap (T.self _ 0 s _ _ L.2.1 (seg_again rfl loop))))))
      | (refine seg_bind_wrap (wpAny_rule ?_); show Seg _ A _ _ _ s₀ _ ((standAt iter.pos >>= _).wrap _ _ _ _) [] s; exact seg_bind_wrap (wpAny_standAt (seg_bind_wrap (T.self _ 0 s _ _ L.2.1 (seg_again rfl loop)))))
/-- the generator asleep -/
def GSt (X : Cx) (A : Around) (vs : List Nat) (σ : L2.St) (ga gi : Nat) (gob : Obj) (fp : List Addr) (tn : Nat → Heap → Prop) (W : Nat → Hp → Prop) (Y : Nat → V → Hp → Prop) (Qe : Hp → Prop) (n : Nat) (s : Shared) : Prop :=
  ∃ gs i H, s.gens[gi]? = some gs ∧ gs.bare = true ∧ GLI X vs σ ga gob fp tn i H s ∧ W i H ∧ ∀ s'', s''.heap = s.heap → s''.os = s.os → AllBare s''.gens →
    gs.Goes (model X.prog X.w) A (fun n s₀ r s₁ => r = .ok .next ∧ GEp X vs σ ga gob Qe n s₀ s₁) (GYp X vs σ ga gob fp tn W Y) n (.send .none) s''
theorem gnext {A0 : Around} (hh : A0.handled = none) (hroom : A0.depth < recursionLimit) (hgen : ∀ h : Heap, h.get? ga = some gob → h.IsGen ga gi) {n : Nat} {s : Shared} (G : GSt X A0.in1 vs σ ga gi gob fp tn W Y Qe n s) {Q : Option Value → Shared → Prop} {E : Value → Shared → Prop}
    (hY : ∀ y v i H s', RelV y v → Y i y H → Inv X [(ga, gob)] (wipe σ vs) H s' → (W (i + 1) H → ∃ m, m < n ∧ GSt X A0.in1 vs σ ga gi gob fp tn W Y Qe m s') → Q (some v) s')
    (hE : ∀ H s', Inv X [(ga, gob)] (wipe σ vs) H s' → Qe H → Q none s') : wpAny (model X.prog X.w) A0 (pyNext (.ref ga)) Q E s := by
  obtain ⟨gs, i, H, hgs, hb, L, w, hgo⟩ := G
  have hg : s.heap.IsGen ga gi := hgen _ (L.1.pin (ga, gob) (List.mem_append_right _ List.mem_cons_self)).1
  have hlt : gi < s.gens.size := by
    rcases Nat.lt_or_ge gi s.gens.size with h' | h'
    · exact h'
    · rw [Array.getElem?_eq_none h'] at hgs; cases hgs
  refine wpAny_gsz (n := s.gens.size) (Nat.le_refl _) ?_
  refine wpAny_pyNext_genexpQ (P := GEp X vs σ ga gob Qe) hh L.1.nolimit hroom hg hgs (hgo _ rfl rfl (allBare_setGen L.1.bare rfl)) (fun v s₁ gs' hb' hy hsz => ?_) (fun s₁ hp h' hk hsz => ?_)
  · obtain ⟨i', y, H', r, L', yq, kap⟩ := hy
    have hsz' : gi < s₁.gens.size := by
      rw [setGen_size] at hsz; omega
    have hbare : AllBare (s₁.setGen gi gs').gens := allBare_setGen L'.1.bare hb'
    refine hY y v i' H' _ r yq (inv_same L'.1 rfl rfl hbare) fun w1 => ?_
    cases n with
    | zero => exact (kap s₁ rfl rfl L'.1.bare w1).elim
    | succ m => exact ⟨m, Nat.lt_succ_self m, gs', i' + 1, H', setGen_at hsz', hb', L'.same rfl rfl hbare, w1, fun s'' e1 e2 e3 => kap s'' e1 e2 e3 w1⟩
  · obtain ⟨H', I', qe⟩ := hp
    have hbare : AllBare (s₁.setGen gi .finished).gens := allBare_setGen I'.bare rfl
    have I2 : Inv X [(ga, gob)] (wipe σ vs) H' (s₁.setGen gi .finished) := inv_same I' rfl rfl hbare
    exact hE H' _ (I2.kept (t' := (s₁.setGen gi .finished).toks) hk) qe
/-- the loops of all, any: sv, what they stop at -/
def GQ (sv : Bool) (W : Nat → Hp → Prop) (Y : Nat → V → Hp → Prop) (Qe : Hp → Prop) (Qf : Bool → Hp → Prop) : Prop := (∀ i y H, Y i y H → ∃ b, y = .bl b ∧ (b = sv → Qf sv H) ∧ (b = !sv → W (i + 1) H)) ∧ ∀ H, Qe H → Qf (!sv) H
def GEnd' (X : Cx) (vs : List Nat) (σ : L2.St) (ga : Nat) (gob : Obj) (Qf : Bool → Hp → Prop) (r : Result) (s' : Shared) : Prop := ∃ b H, r = .ok (.ret (.bool b)) ∧ Inv X [(ga, gob)] (wipe σ vs) H s' ∧ Qf b H
theorem all_loopG {A : Around} {Qf : Bool → Hp → Prop} (hh : A.handled = none) (hroom : A.in1.depth < recursionLimit) (hgen : ∀ h : Heap, h.get? ga = some gob → h.IsGen ga gi) (hq : GQ false W Y Qe Qf) :
    ∀ (n : Nat) (s : Shared), GSt X A.in1.in1 vs σ ga gi gob fp tn W Y Qe n s → codeAny (model X.prog X.w) A (.builtin "all.loop" ⟨[.ref ga], []⟩) (GEnd' X vs σ ga gob Qf) s := by
  intro n
  induction n using Nat.strongRecOn with
  | ind n ih =>
    intro s G
    refine codeAny_builtin F.entry_all_loop ?_
    rw [Around.under_plainId F.plain_all_loop _]
    show wpAny _ A.in1 (pyNext (.ref ga) >>= _) _ _ s
    refine wpAny_bind (gnext (A0 := A.in1) hh hroom hgen G (fun y v i H s' r yq I' more => ?_) fun H s' I' qe => ?_)
    · obtain ⟨b, rfl, h1, h2⟩ := hq.1 i y H yq
      obtain rfl : v = Value.bool b := r
      refine wpAny_bind (wpAny_holding (wpAny_truthy_bool ?_))
      refine wpAny_bind (wpAny_letGo ?_)
      cases b with
      | true =>
        simp only [if_true]
        obtain ⟨m, hm, G'⟩ := more (h2 rfl)
        exact wpAny_pure ⟨plainId_quiet F.plain_all_loop _, ih m hm s' G'⟩
      | false =>
        simp only [Bool.false_eq_true, if_false]
        exact wpAny_bind (wpAny_rule (wpAny_pure ⟨false, H, rfl, I', h1 rfl⟩))
    · exact wpAny_bind (wpAny_rule (wpAny_pure ⟨true, H, rfl, I', hq.2 H qe⟩))
theorem any_loopG {A : Around} {Qf : Bool → Hp → Prop} (hh : A.handled = none) (hroom : A.in1.depth < recursionLimit) (hgen : ∀ h : Heap, h.get? ga = some gob → h.IsGen ga gi) (hq : GQ true W Y Qe Qf) :
    ∀ (n : Nat) (s : Shared), GSt X A.in1.in1 vs σ ga gi gob fp tn W Y Qe n s → codeAny (model X.prog X.w) A (.builtin "any.loop" ⟨[.ref ga], []⟩) (GEnd' X vs σ ga gob Qf) s := by
  intro n
  induction n using Nat.strongRecOn with
  | ind n ih =>
    intro s G
    refine codeAny_builtin F.entry_any_loop ?_
    rw [Around.under_plainId F.plain_any_loop _]
    show wpAny _ A.in1 (pyNext (.ref ga) >>= _) _ _ s
    refine wpAny_bind (gnext (A0 := A.in1) hh hroom hgen G (fun y v i H s' r yq I' more => ?_) fun H s' I' qe => ?_)
    · obtain ⟨b, rfl, h1, h2⟩ := hq.1 i y H yq
      obtain rfl : v = Value.bool b := r
      refine wpAny_bind (wpAny_holding (wpAny_truthy_bool ?_))
      refine wpAny_bind (wpAny_letGo ?_)
      cases b with
      | false =>
        simp only [Bool.false_eq_true, if_false]
        obtain ⟨m, hm, G'⟩ := more (h2 rfl)
        exact wpAny_pure ⟨plainId_quiet F.plain_any_loop _, ih m hm s' G'⟩
      | true =>
        simp only [if_true]
        exact wpAny_bind (wpAny_rule (wpAny_pure ⟨true, H, rfl, I', h1 rfl⟩))
    · exact wpAny_bind (wpAny_rule (wpAny_pure ⟨false, H, rfl, I', hq.2 H qe⟩))
end
/-! the whole -/
/-- all, any of a generator expression; behind it the def's table of code objects may have grown -/
def tGx (P : Addr) (sv : Bool) (wi : TI) (g : TG) (tt : TT) (te : TE) (vs : List Nat) : TE := fun σ H Q => wi σ H fun J H1 => TabG H1 P ∧ ∀ H2, Tabbed P H1 H2 →
  ∃ (nb : Nat) (W : Nat → Hp → Prop) (Y : Nat → V → Hp → Prop) (Qe : Hp → Prop), W 0 H2 ∧ GTurn J vs σ g tt te nb W Y Qe ∧ GQ sv W Y Qe (fun b H => Q (.bl b) H)
section
variable {X : Cx} {c P : Addr} {elt tg iter : Expr} {ifs : List Expr} {scope : Scope} {own : List (Str × Nat)} {p pos gpos : Pos} {wi : TI} {g : TG} {tt : TT} {te : TE} {k : Nat}
/-- the environment of the block -/
abbrev gEnv (X : Cx) (scope : Scope) (C : Addr) (code : Value) : PySem.Env := genEnv scope (cloFrom X.env.cells scope.names []) C code builtinsNs X.env
theorem gx_core {pins : List (Addr × Obj)} {s : Shared} {σ : L2.St} {H : Hp} {Q' : Value → Shared → Prop} {sv : Bool} {Q : VK} (hr : Room (k + 3) X.A) (hc : X.calm = true) (hN : X.N.Nodup) (TB : TabB X.base X.mg c P) (hcode : X.env.code = .ref c) (ok : BlkOk X.N X.env.scope scope own) (gk : GenOk scope) (hi : PI X tg iter wi)
    (hg : ∀ (A' : Around) (s : Shared) (H : Hp) (C : Addr) (code : Value) (fp : List Addr), Room k A' → PG (X.gx A' s H (gEnv X scope C code) fp) tg g)
    (ht : ∀ (A' : Around) (s : Shared) (H : Hp) (C : Addr) (code : Value) (fp : List Addr), Room k A' → PTs (X.gx A' s H (gEnv X scope C code) fp) ifs tt)
    (he : ∀ (A' : Around) (s : Shared) (H : Hp) (C : Addr) (code : Value) (fp : List Addr), Room k A' → PE (X.gx A' s H (gEnv X scope C code) fp) elt te)
    (hs : ∀ v, genFold iter X.env v = pure v) (I : Inv X pins σ H s) (h : tGx P sv wi g tt te (own.map (·.2)) σ H Q)
    (hQ : ∀ (Xg : Cx) (ga gi : Nat) (gob : Obj) (fp : List Addr) (tn : Nat → Heap → Prop) (nb : Nat) (W : Nat → Hp → Prop) (Y : Nat → V → Hp → Prop) (Qe : Hp → Prop) (s5 : Shared), (Xg.prog = X.prog ∧ Xg.w = X.w) → (∀ h : Heap, h.get? ga = some gob → h.IsGen ga gi) → s5.heap.get? ga = some gob → GQ sv W Y Qe (fun b H => Q (.bl b) H) → GSt Xg X.A.in1.in1 (own.map (·.2)) σ ga gi gob fp tn W Y Qe nb s5 →
      (∀ b H' s', Inv Xg [(ga, gob)] (wipe σ (own.map (·.2))) H' s' → Q (.bl b) H' → EP X pins σ Q (.bool b) s') → Q' (.ref ga) s5) :
    wpAny (model X.prog X.w) X.A (eval (.GeneratorExp elt [⟨tg, iter, ifs, 0⟩] scope gpos) X.env) Q' X.xe s := by
  have hfree : ∀ y ∈ scope.names, y.2 = .free → ∃ c, X.env.cells.lookup y.1 = some c := fun y hy e => by
    rcases ok.free y hy e with k | k
    · exact I.ok.has _ (.inl k)
    · exact I.ok.has _ (.inr k)
  refine wpAny_GeneratorExp_make gk.co (closure_ok hfree) gk.cell gk.dot ok.kind hr.depth ?_ hs
  refine thn (hi.run pins s σ H _ I h) fun xv s1 h1 => thn h1 fun itv s2 h2 => ?_
  obtain ⟨it, fp, tn, J, H2, e, I2, T, st2, f2, ⟨ps, hP, ht3⟩, q⟩ := h2
  subst e
  refine ⟨I2.nolimit, ?_⟩
  have hPs : s2.heap.get? P = some { cls := .none, data := .fields ps } := I2.hok P _ hP
  have cd : PySem.W.CodeHd s2.heap c P := TB.code.keeps fun b u e => I2.bk b u e
  have cont : ∀ (code : Value) (h3 : Heap) (tk : Nat) (ps' : Array Value), Heap.ExtBut P s2.heap h3 → s2.heap.objs.size ≤ h3.objs.size → h3.get? P = some { cls := .none, data := .fields ps' } → (∃ more, ps' = ps ++ more) → TriplesOk ps'.toList →
      wpAny (model X.prog X.w) X.A (builtinsFor X.env.globals X.env.builtins) (fun bi s₄ =>
        ∀ h', h'.Ns s₄.heap.objs.size (fun y => if y = ".0" then some (.ref it) else none) → Heap.SameBut s₄.heap.objs.size (s₄.heap.push { cls := .type "frame", data := .dict #[] }) h' →
          Q' (.ref h'.objs.size) { s₄ with
            gens := s₄.gens.push (.fresh (.compStart (.GeneratorExp elt [⟨tg, iter, ifs, 0⟩] scope gpos) 0 (.ref it) .none (genEnv scope (cloFrom X.env.cells scope.names []) s₄.heap.objs.size code bi X.env))),
            toks := s₄.toks + 1 + 1 + 1,
            heap := h'.push { cls := .type "generator", data := .fields #[.int s₄.gens.size 0, .str "<genexpr>" (s₄.toks + 1), .str (X.env.qual ++ "<genexpr>") (s₄.toks + 1 + 1)] } }) X.xe { s2 with heap := h3, toks := tk } := by
    intro code h3 tk ps' hx hsz hP3 hmore ht3
    obtain ⟨bm, ob, e1, e2, e3, e4, e5, e6, e7, e8⟩ := TB.bm
    have keep3 : ∀ b u, b ≠ P → s2.heap.get? b = some u → h3.get? b = some u := fun b u hb e => hx b u hb e
    refine wpAny_builtinsFor (m := X.mg) (by rw [I2.ok.glob]; exact (I2.mod.glob.keeps I2.bk).extBut hx TB.gP) e1 e2 (keep3 _ _ e4 (I2.bk _ _ e5)) e6 e7 e8 ?_
    intro h' hns hsb
    obtain ⟨more, em⟩ := hmore
    have I3 : Inv X pins σ (upd H2 P (.tbl (ps ++ more))) { s2 with heap := h3, toks := tk } := by
      have J := inv_tab (more := more) (h' := h3) (g' := s2.gens) (d' := s2.drawn) (t' := tk) I2 hP keep3 (by rw [← em]; exact hP3) I2.bare
      exact J
    have hT : Tabbed P H2 (upd H2 P (.tbl (ps ++ more))) := ⟨⟨ps ++ more, upd_same, by rw [← em]; exact ht3⟩, fun b hb => upd_ne hb⟩
    obtain ⟨nb, W, Y, Qe, w0, turn, gq⟩ := q _ hT
    generalize hH3 : upd H2 P (.tbl (ps ++ more)) = H3 at I3 hT w0 turn
    generalize hs3 : ({ s2 with heap := h3, toks := tk } : Shared) = s3 at I3 hns hsb ⊢
    have hs3h : s3.heap = h3 := by rw [← hs3]
    have Pfp : P ∉ fp := fun z => by
      have := (f2 P z).1
      rw [hP] at this; cases this
    have szfp : ∀ b ∈ fp, b < s3.heap.objs.size := fun b hb => by
      obtain ⟨o, e, _⟩ := T.obj _ _ st2 b hb
      rw [hs3h]
      exact Nat.lt_of_lt_of_le (Heap.lt_size e) hsz
    have nfp : ∀ b ∈ fp, H3 b = none := fun b hb => by
      rw [hT.2 b fun z => Pfp (z ▸ hb)]
      exact (f2 b hb).1
    have f3 : ∀ b ∈ fp, FpOk X pins H3 b ∧ b < s3.heap.objs.size := fun b hb => ⟨⟨nfp b hb, (f2 b hb).2⟩, szfp b hb⟩
    -- the new state
    have szh : h'.objs.size = s3.heap.objs.size + 1 := by rw [hsb.1, Heap.size_push]
    have keep' : ∀ b o, s3.heap.get? b = some o → h'.get? b = some o := fun b o e => hsb.extBut b o (Nat.ne_of_lt (Heap.lt_size e)) (Heap.get?_push_of_some _ e)
    generalize hgo : ({ cls := .type "generator", data := .fields #[.int s3.gens.size 0, .str "<genexpr>" (s3.toks + 1), .str (X.env.qual ++ "<genexpr>") (s3.toks + 1 + 1)] } : Obj) = gob
    generalize hs5 : ({ s3 with
            gens := s3.gens.push (.fresh (.compStart (.GeneratorExp elt [⟨tg, iter, ifs, 0⟩] scope gpos) 0 (.ref it) .none (genEnv scope (cloFrom X.env.cells scope.names []) s3.heap.objs.size code builtinsNs X.env))),
            toks := s3.toks + 1 + 1 + 1,
            heap := h'.push gob } : Shared) = s5
    have h5 : s5.heap = h'.push gob := by rw [← hs5]
    have keep5 : ∀ b o, s3.heap.get? b = some o → s5.heap.get? b = some o := fun b o e => by rw [h5]; exact Heap.get?_push_of_some _ (keep' b o e)
    have bare5 : AllBare s5.gens := by
      rw [← hs5]
      exact I3.bare.push rfl
    have hgen : ∀ h : Heap, h.get? h'.objs.size = some gob → h.IsGen h'.objs.size s3.gens.size := fun h e => ⟨gob, _, _, e, by rw [← hgo], by rw [← hgo], by rw [← hgo]⟩
    have hA1 : X.A.in1.in1.frames = some X.stack := I.ok.frames
    generalize hce : genEnv scope (cloFrom X.env.cells scope.names []) s3.heap.objs.size code builtinsNs X.env = ce at hs5
    generalize hA' : X.A.in1.in1.over (.compLoop (genX elt tg iter ifs scope gpos) 0 (.ref it) .none ce) [] = A'
    have fr' : A'.frames = some (ce :: X.stack) := by
      rw [← hA']
      show pushEnvs (Code.envs (.compLoop (genX elt tg iter ifs scope gpos) 0 (.ref it) .none ce)) (pushEnvs (envsOf (([] : List Frame).map Frame.where_)) X.A.in1.in1.frames) = _
      rw [hA1]; rfl
    have room' : Room k A' := by
      have h1 := hr.dp
      have h2 := hr.un
      rw [← hA']
      refine ⟨hr.hd, ?_, ?_⟩
      · show X.A.depth + 0 + 1 + 3 * k + 5 < _
        omega
      · show X.A.units + 1 + 1 + 0 + 3 + 16 * k + 200 < _
        omega
    have Ig0 : Inv (X.gx A' s3 H3 ce fp) [] (wipe σ (own.map (·.2))) H3 s5 := by
      have := gen_start (code := code) (A' := A') (s' := s5) (m := fun y => if y = ".0" then some (.ref it) else none) I3 ok gk hN f3 (fun z => room'.hd) (by rw [hce]; exact fr') (by rw [← hs5]) bare5 keep5 (by rw [h5]; exact hns.push _)
      rw [hce] at this
      exact this
    have gN : H3 h'.objs.size = none := I3.hok.fresh (by rw [szh]; omega)
    have gL : ce.locals = s3.heap.objs.size := by rw [← hce]; rfl
    have e5 : s5.heap.get? h'.objs.size = some gob := by rw [h5]; exact Heap.get?_push_size _ (by rw [← hgo]; rfl)
    have gfs : h'.objs.size ∉ (X.gx A' s3 H3 ce fp).fs := fun z => by
      obtain ⟨_, o, ho, _⟩ := I3.stack.mem z
      have h9 : (h'.objs.size : Nat) < s3.heap.objs.size := Heap.lt_size ho
      rw [szh] at h9; omega
    have Ig : Inv (X.gx A' s3 H3 ce fp) [(h'.objs.size, gob)] (wipe σ (own.map (·.2))) H3 s5 := Ig0.pins_of fun p hp => by
      have e : p = (h'.objs.size, gob) := by simpa using hp
      subst e
      refine ⟨e5, gN, ?_, gfs, fun v z => by rw [← hgo] at z; cases z⟩
      show h'.objs.size ≠ ce.locals
      rw [gL, szh]; omega
    have st5 : tn 0 s5.heap := T.keep _ _ _ st2 fun b hb o e => keep5 b o (by rw [hs3h]; exact keep3 b o (fun z => Pfp (z ▸ hb)) e)
    have gne : h'.objs.size ∉ fp := fun z => by
      have h9 : (h'.objs.size : Nat) < s3.heap.objs.size := szfp _ z
      rw [szh] at h9; omega
    have L5 : GLI (X.gx A' s3 H3 ce fp) (own.map (·.2)) σ h'.objs.size gob fp tn 0 H3 s5 := ⟨Ig, st5, nfp⟩
    refine hQ (X.gx A' s3 H3 ce fp) h'.objs.size s3.gens.size gob fp tn nb W Y Qe s5 ⟨rfl, rfl⟩ hgen e5 gq ⟨.fresh (.compStart (.GeneratorExp elt [⟨tg, iter, ifs, 0⟩] scope gpos) 0 (.ref it) .none ce), 0, H3, by rw [← hs5]; exact Array.getElem?_push_size .., rfl, L5, w0, fun s'' e1 e2 e3 => ?_⟩ fun b H' s' I' qq => ?_
    · refine ⟨rfl, ?_⟩
      have hg' : PG (X.gx A' s3 H3 ce fp) tg g := by rw [← hce]; exact hg A' s3 H3 s3.heap.objs.size code fp room'
      have ht' : PTs (X.gx A' s3 H3 ce fp) ifs tt := by rw [← hce]; exact ht A' s3 H3 s3.heap.objs.size code fp room'
      have he' : PE (X.gx A' s3 H3 ce fp) elt te := by rw [← hce]; exact he A' s3 H3 s3.heap.objs.size code fp room'
      exact seg_gs (X := X.gx A' s3 H3 ce fp) (gob := gob) (A := X.A.in1.in1) rfl hc rfl rfl hA' (by show ce.scope.isCoroutine = false; rw [← hce]; exact gk.co) T hg' ht' he' turn gne (L5.same e1 e2 e3) w0
    · exact ⟨.bl b, H', I3.call' (ch := fp) I'.os I'.base I'.hok I'.bare fun b hb => ⟨(f3 b hb).1.2.2.2.1, (f3 b hb).1.2.1, (f3 b hb).1.2.2.2.2.1, (f3 b hb).1.2.2.2.2.2⟩, rfl, qq⟩
  cases hf : codeAmong gpos ps.toList with
  | none =>
    refine wpAny_genexprCodeX hcode (cd.code hPs ht3) (cd.tab hPs) hf fun c' h' tk hx hge hlt hco' _ htab' _ => ?_
    obtain ⟨o1, vs, f1, tf, fl, tg, inF, tx, tt, op, _, _, _, _, _, _, _, _, _, htr, _⟩ := hco'
    exact cont _ h' tk _ hx (Nat.le_trans hge (Nat.le_of_lt hlt)) htab'.2 ⟨_, rfl⟩ htr
  | some cv =>
    refine wpAny_genexprCode_hit hcode (cd.code hPs ht3) hf ?_
    exact cont cv s2.heap s2.toks ps (Heap.ExtBut.refl _ _) (Nat.le_refl _) hPs ⟨#[], by simp⟩ ht3
theorem pe_allG (hr : Room (k + 3) X.A) (hc : X.calm = true) (hN : X.N.Nodup) (hgl : Gl X "all") (hm : X.mg "all" = none) (TB : TabB X.base X.mg c P) (hcode : X.env.code = .ref c) (ok : BlkOk X.N X.env.scope scope own) (gk : GenOk scope) (hi : PI X tg iter wi)
    (hg : ∀ (A' : Around) (s : Shared) (H : Hp) (C : Addr) (code : Value) (fp : List Addr), Room k A' → PG (X.gx A' s H (gEnv X scope C code) fp) tg g)
    (ht : ∀ (A' : Around) (s : Shared) (H : Hp) (C : Addr) (code : Value) (fp : List Addr), Room k A' → PTs (X.gx A' s H (gEnv X scope C code) fp) ifs tt)
    (he : ∀ (A' : Around) (s : Shared) (H : Hp) (C : Addr) (code : Value) (fp : List Addr), Room k A' → PE (X.gx A' s H (gEnv X scope C code) fp) elt te)
    (hs : ∀ v, genFold iter X.env v = pure v := by intro _; rfl)
    (hse : starEach [.GeneratorExp elt [⟨tg, iter, ifs, 0⟩] scope gpos] X.env = (false, eval (.GeneratorExp elt [⟨tg, iter, ifs, 0⟩] scope gpos) X.env) :: starEach [] X.env := by rfl) :
    PE X (.Call (.Name "all" p) [.GeneratorExp elt [⟨tg, iter, ifs, 0⟩] scope gpos] [] pos) (tGx P false wi g tt te (own.map (·.2))) := by
  refine ⟨fun pins s σ H Q I h => ?_⟩
  refine wpAny_Call_Name_kw (ld_blt I hgl hm PyProof.Rows.boot_all ?_)
  refine PyProof.Rows.callWith_builtin1 ?_ hse (by rfl)
  rw [hse]
  show wpAny _ _ (spliced ((false, eval (.GeneratorExp elt [⟨tg, iter, ifs, 0⟩] scope gpos) X.env) :: backTo pos (starEach [] X.env))) _ _ s
  refine Calls.spliced_cons (gx_core hr hc hN TB hcode ok gk hi hg ht he hs I h fun Xg ga gi gob fp tn nb W Y Qe s5 ⟨hp, hw⟩ hgen e5 gq G fin => ?_)
  refine Calls.spliced_nil ?_
  refine call_function_tree F.kind_all F.plain_all F.entry_all (F.args_all1 _) ?_
  unfold Builtin.«all»
  refine wpAny_bind (m := oneArg "all" _) (wpAny_pure ?_)
  refine wpAny_bind (wpAny_pyIter_gen (hgen _ e5) ?_)
  refine wpAny_pure ⟨plainId_quiet F.plain_all_loop _, ?_⟩
  have lp := all_loopG (A := X.A) hr.hd hr.depth hgen gq nb s5 G
  rw [hp, hw] at lp
  refine codeAny_mono lp fun r s' ⟨b, H', e, I', qf⟩ => ?_
  subst e
  exact fin b H' s' I' qf
theorem pe_anyG (hr : Room (k + 3) X.A) (hc : X.calm = true) (hN : X.N.Nodup) (hgl : Gl X "any") (hm : X.mg "any" = none) (TB : TabB X.base X.mg c P) (hcode : X.env.code = .ref c) (ok : BlkOk X.N X.env.scope scope own) (gk : GenOk scope) (hi : PI X tg iter wi)
    (hg : ∀ (A' : Around) (s : Shared) (H : Hp) (C : Addr) (code : Value) (fp : List Addr), Room k A' → PG (X.gx A' s H (gEnv X scope C code) fp) tg g)
    (ht : ∀ (A' : Around) (s : Shared) (H : Hp) (C : Addr) (code : Value) (fp : List Addr), Room k A' → PTs (X.gx A' s H (gEnv X scope C code) fp) ifs tt)
    (he : ∀ (A' : Around) (s : Shared) (H : Hp) (C : Addr) (code : Value) (fp : List Addr), Room k A' → PE (X.gx A' s H (gEnv X scope C code) fp) elt te)
    (hs : ∀ v, genFold iter X.env v = pure v := by intro _; rfl)
    (hse : starEach [.GeneratorExp elt [⟨tg, iter, ifs, 0⟩] scope gpos] X.env = (false, eval (.GeneratorExp elt [⟨tg, iter, ifs, 0⟩] scope gpos) X.env) :: starEach [] X.env := by rfl) :
    PE X (.Call (.Name "any" p) [.GeneratorExp elt [⟨tg, iter, ifs, 0⟩] scope gpos] [] pos) (tGx P true wi g tt te (own.map (·.2))) := by
  refine ⟨fun pins s σ H Q I h => ?_⟩
  refine wpAny_Call_Name_kw (ld_blt I hgl hm PyProof.Rows.boot_any ?_)
  refine PyProof.Rows.callWith_builtin1 ?_ hse (by rfl)
  rw [hse]
  show wpAny _ _ (spliced ((false, eval (.GeneratorExp elt [⟨tg, iter, ifs, 0⟩] scope gpos) X.env) :: backTo pos (starEach [] X.env))) _ _ s
  refine Calls.spliced_cons (gx_core hr hc hN TB hcode ok gk hi hg ht he hs I h fun Xg ga gi gob fp tn nb W Y Qe s5 ⟨hp, hw⟩ hgen e5 gq G fin => ?_)
  refine Calls.spliced_nil ?_
  refine call_function_tree F.kind_any F.plain_any F.entry_any (F.args_any1 _) ?_
  unfold Builtin.«any»
  refine wpAny_bind (m := oneArg "any" _) (wpAny_pure ?_)
  refine wpAny_bind (wpAny_pyIter_gen (hgen _ e5) ?_)
  refine wpAny_pure ⟨plainId_quiet F.plain_any_loop _, ?_⟩
  have lp := any_loopG (A := X.A) hr.hd hr.depth hgen gq nb s5 G
  rw [hp, hw] at lp
  refine codeAny_mono lp fun r s' ⟨b, H', e, I', qf⟩ => ?_
  subst e
  exact fin b H' s' I' qf
end
end Pd
namespace Pd
open PySem PySem.Spec PyProof.Rows L2 GxR
def gxGo (sv : Bool) (g : Env → D → R Env) (tt : Env → R Bool) (te : EF) (ρ : Env) : List D → R Bool
  | [] => .ok (!sv)
  | d :: ds => (still ((g ρ d).bind fun ρ1 => (tt ρ1).bind fun b => if b = true then (te ρ1).bind fun y => (match y with
      | .bool c => .ok (some c)
      | _ => .stuck) else .ok none)).bind fun o => if o = some sv then .ok sv else gxGo sv g tt te ρ ds
def eGx (sv : Bool) (I : Env → R (List D)) (g : Env → D → R Env) (tt : Env → R Bool) (te : EF) (vs : List Nat) : EF := fun ρ => (I ρ).bind fun ds => (gxGo sv g tt te (wipeD ρ vs) ds).bind fun b => .ok (.bool b)
theorem gxGo_nox {sv : Bool} {g : Env → D → R Env} {tt : Env → R Bool} {te : EF} {ρ : Env} : ∀ ds, NoX (gxGo sv g tt te ρ ds)
  | [] => noxO
  | d :: ds => by
    unfold gxGo
    refine bind_nox (fun c e => ?_) fun o => noxI noxO (gxGo_nox ds)
    unfold still at e
    split at e <;> cases e
section
variable {X : Cx} {C : Cc} {W : WX} {O : Own} {c P : Addr} {elt tg iter : Expr} {ifs : List Expr} {scope : Scope} {own : List (Str × Nat)} {p pos gpos : Pos} {I : Env → R (List D)} {g : Env → D → R Env} {tt : Env → R Bool} {te : EF} {is : List Nat} {so : Option Nat} {k kk : Nat}
theorem gx_read {sv : Bool} (ng : ∀ ρ d, NoX (g ρ d)) (his : ∀ i ∈ is, i ∈ own.map (·.2)) (hP : P ∈ C.T) (σ : L2.St) (H : Hp) (Q : VK) (h : tD X.K C W O 0 (eGx sv I g tt te (own.map (·.2))) σ H Q) :
    tGx P sv (tI X.K C W O so I) (tG X.K O is g) (fun σ H Q => ∃ l, Pd.tB X.K (C.lock l so) W0 O tt σ H Q) (fun σ H Q => ∃ l, tD X.K (C.lock l so) W0 O kk te σ H Q) (own.map (·.2)) σ H Q := by
  obtain ⟨ρ, Fs, er, q⟩ := h
  refine ⟨ρ, Fs, er, (Sat.bind q).mono (fun ds q J H1 l x1 it nw => ?_) fun _ z => z⟩
  have er1 := (er.ex x1).lock nw
  have tP := er1.tab P hP
  refine ⟨tP, fun H2 hT => ?_⟩
  have x2 : Ex C.T H1 H2 := by
    obtain ⟨ps, e1, _⟩ := tP
    obtain ⟨tG, kp⟩ := hT
    refine ⟨fun b o e n => ?_, fun b e => ?_, fun t Q hQ => ?_⟩
    · rw [kp b fun z => by rw [z, e1] at e; cases e; exact n ps rfl]; exact e
    · by_cases z : b = P
      · obtain ⟨qs, e2, _⟩ := tG
        rw [z, e2]; simp
      · rw [kp b z]; exact e
    · by_cases z : Q = P
      · rw [z]; exact tG
      · obtain ⟨qs, e2, t2⟩ := t Q hQ
        exact ⟨qs, by rw [kp Q z]; exact e2, t2⟩
  have er2 := er1.ex x2
  have x12 := x1.trans x2
  have q := (Sat.bind q).nox (gxGo_nox _)
  refine ⟨ds.length, fun i H3 => ER X.K (C.lock l so) O H3 σ ρ Fs ∧ Ex C.T H H3 ∧ Sat (gxGo sv g tt te (wipeD ρ (own.map (·.2))) (ds.drop i)) (fun b => ∀ H', Ex C.T H H' → Q (.bl b) H') (fun _ => False),
    fun i y H3 => ∃ b, y = .bl b ∧ (b = sv → Q (.bl sv) H3) ∧ (b = !sv → ER X.K (C.lock l so) O H3 σ ρ Fs ∧ Ex C.T H H3 ∧ Sat (gxGo sv g tt te (wipeD ρ (own.map (·.2))) (ds.drop (i + 1))) (fun b => ∀ H', Ex C.T H H' → Q (.bl b) H') (fun _ => False)),
    fun H3 => Q (.bl (!sv)) H3, ⟨er2, x12, q.mono (fun b w H' x => w (.bl b) H' [] x (.bl b) .nil) fun _ z => z⟩, ?_, ⟨fun i y H3 h => h, fun H3 h => h⟩⟩
  rintro i H3 ⟨er3, x3, q3⟩
  have kp : Kp l.HG H3 l.F := (er3.lks l List.mem_cons_self).kp
  by_cases hlt : i < ds.length
  · have e1 : ds.drop i = ds[i] :: ds.drop (i + 1) := List.drop_eq_getElem_cons hlt
    rw [e1] at q3
    have q3 := still_sat (Sat.bind q3)
    refine .inr ⟨hlt, it.go i H3 kp hlt, fun v H4 y => ?_⟩
    obtain ⟨x4, G, r4, g4⟩ := it.yld i H3 v H4 ds[i] kp (List.getElem?_eq_getElem hlt) y
    have er4 := er3.ex x4
    obtain ⟨Fw, erw, kw⟩ := er4.wipe (own.map (·.2))
    have owns : ∀ j ∈ O, ∀ b ∈ Fw j, b ∈ Fs j := fun j hj b hb => by
      by_cases hv : j ∈ own.map (·.2)
      · exfalso
        have e : Fw j = [] := by
          refine erw.emp j fun d hd => ?_
          obtain ⟨u, h1, _⟩ := erw.rep j d hd
          obtain ⟨_, h2⟩ := wipe_some h1
          exact h2 hv
        rw [e] at hb; cases hb
      · rw [kw j hv] at hb; exact hb
    refine ⟨C.lock l so, _, Fw, ds[i], G, erw, r4, fun j hj b hb z => ?_, (Sat.bind q3).mono (fun ρ5 p5 σ5 Fs5 er5 k5 s5 => ?_) fun _ z => z⟩
    · have hb := owns j hj b hb
      rcases g4 b z with ⟨h0, h1⟩ | h1
      · exact (er3.lks l List.mem_cons_self).sep j hj (by rw [h0]; intro q; cases q) b hb h1
      · exact er3.nn j b hb h1
    · refine ⟨wipe_same his s5, l, ρ5, Fs5, er5, (Sat.bind p5).mono (fun b p6 H6 x6 => ?_) fun _ z => z.elim⟩
      have x36 := x4.trans x6
      have er6 := er3.ex x36
      cases b with
      | false =>
        refine ite_ff ⟨er6, x3.trans x36, ?_⟩
        have p6 : Sat (if (none : Option Bool) = some sv then R.ok sv else gxGo sv g tt te (wipeD ρ (own.map (·.2))) (ds.drop (i + 1))) _ _ := p6
        rw [if_neg (by intro z; cases z)] at p6
        exact p6
      | true =>
        rw [if_pos rfl] at p6
        refine ite_tt ⟨l, ρ5, Fs5, er5.ex x6, (Sat.bind p6).mono (fun y p7 v7 H7 F7 x7 r7 kd7 => ?_) fun _ z => z.elim⟩
        cases y with
        | bool b =>
          cases r7
          have x37 := x36.trans x7
          have p7 : Sat (if some b = some sv then R.ok sv else gxGo sv g tt te (wipeD ρ (own.map (·.2))) (ds.drop (i + 1))) _ _ := p7
          refine ⟨b, rfl, fun e => ?_, fun e => ⟨er3.ex x37, x3.trans x37, ?_⟩⟩
          · rw [if_pos (by rw [e])] at p7
            exact p7 H7 (x3.trans x37)
          · rw [if_neg (by rw [e]; cases sv <;> decide)] at p7
            exact p7
        | _ => exact p7.elim
  · have e1 : ds.drop i = [] := List.drop_eq_nil_of_le (by omega)
    rw [e1] at q3
    exact .inl ⟨it.stop i H3 kp (by omega), q3 H3 x3⟩
theorem ev_all (hr : Room (k + 3) X.A) (hc : X.calm = true) (hN : X.N.Nodup) (hgl : Gl X "all") (hm : X.mg "all" = none) (TB : TabB X.base X.mg c P) (hP : P ∈ C.T) (hcode : X.env.code = .ref c) (ok : BlkOk X.N X.env.scope scope own) (gk : GenOk scope) (hi : IV X C W O tg iter so I) (ng : ∀ ρ d, NoX (g ρ d))
    (hg : ∀ (A' : Around) (s : Shared) (H : Hp) (C : Addr) (code : Value) (fp : List Addr), Room k A' → GV (X.gx A' s H (gEnv X scope C code) fp) O tg is g)
    (ht : ∀ (A' : Around) (s : Shared) (H : Hp) (c : Addr) (code : Value) (fp : List Addr) (l : Lk), Room k A' → TTs (X.gx A' s H (gEnv X scope c code) fp) (C.lock l so) W0 O ifs tt)
    (he : ∀ (A' : Around) (s : Shared) (H : Hp) (c : Addr) (code : Value) (fp : List Addr) (l : Lk), Room k A' → EV (X.gx A' s H (gEnv X scope c code) fp) (C.lock l so) W0 O elt kk te)
    (his : ∀ i ∈ is, i ∈ own.map (·.2) := by decide) (hs : ∀ v, genFold iter X.env v = pure v := by intro _; rfl)
    (hse : starEach [.GeneratorExp elt [⟨tg, iter, ifs, 0⟩] scope gpos] X.env = (false, eval (.GeneratorExp elt [⟨tg, iter, ifs, 0⟩] scope gpos) X.env) :: starEach [] X.env := by rfl) {sl : List Nat} (hsl : own.map (·.2) = sl := by rfl) :
    EV X C W O (.Call (.Name "all" p) [.GeneratorExp elt [⟨tg, iter, ifs, 0⟩] scope gpos] [] pos) 0 (eGx false I g tt te sl) := by
  subst hsl
  exact (pe_allG hr hc hN hgl hm TB hcode ok gk hi (fun A' s H c code fp r => (hg A' s H c code fp r).pg) (fun A' s H c code fp r => ⟨fun pins s' σ H' Q I' ⟨l, h⟩ => (ht A' s H c code fp l r).run pins s' σ H' Q I' h⟩)
    (fun A' s H c code fp r => ⟨fun pins s' σ H' Q I' ⟨l, h⟩ => (he A' s H c code fp l r).run pins s' σ H' Q I' h⟩) hs hse).imp (gx_read ng his hP)
theorem ev_any (hr : Room (k + 3) X.A) (hc : X.calm = true) (hN : X.N.Nodup) (hgl : Gl X "any") (hm : X.mg "any" = none) (TB : TabB X.base X.mg c P) (hP : P ∈ C.T) (hcode : X.env.code = .ref c) (ok : BlkOk X.N X.env.scope scope own) (gk : GenOk scope) (hi : IV X C W O tg iter so I) (ng : ∀ ρ d, NoX (g ρ d))
    (hg : ∀ (A' : Around) (s : Shared) (H : Hp) (C : Addr) (code : Value) (fp : List Addr), Room k A' → GV (X.gx A' s H (gEnv X scope C code) fp) O tg is g)
    (ht : ∀ (A' : Around) (s : Shared) (H : Hp) (c : Addr) (code : Value) (fp : List Addr) (l : Lk), Room k A' → TTs (X.gx A' s H (gEnv X scope c code) fp) (C.lock l so) W0 O ifs tt)
    (he : ∀ (A' : Around) (s : Shared) (H : Hp) (c : Addr) (code : Value) (fp : List Addr) (l : Lk), Room k A' → EV (X.gx A' s H (gEnv X scope c code) fp) (C.lock l so) W0 O elt kk te)
    (his : ∀ i ∈ is, i ∈ own.map (·.2) := by decide) (hs : ∀ v, genFold iter X.env v = pure v := by intro _; rfl)
    (hse : starEach [.GeneratorExp elt [⟨tg, iter, ifs, 0⟩] scope gpos] X.env = (false, eval (.GeneratorExp elt [⟨tg, iter, ifs, 0⟩] scope gpos) X.env) :: starEach [] X.env := by rfl) {sl : List Nat} (hsl : own.map (·.2) = sl := by rfl) :
    EV X C W O (.Call (.Name "any" p) [.GeneratorExp elt [⟨tg, iter, ifs, 0⟩] scope gpos] [] pos) 0 (eGx true I g tt te sl) := by
  subst hsl
  exact (pe_anyG hr hc hN hgl hm TB hcode ok gk hi (fun A' s H c code fp r => (hg A' s H c code fp r).pg) (fun A' s H c code fp r => ⟨fun pins s' σ H' Q I' ⟨l, h⟩ => (ht A' s H c code fp l r).run pins s' σ H' Q I' h⟩)
    (fun A' s H c code fp r => ⟨fun pins s' σ H' Q I' ⟨l, h⟩ => (he A' s H c code fp l r).run pins s' σ H' Q I' h⟩) hs hse).imp (gx_read ng his hP)
end
/-! ### built-in functions -/
structure CallD (X : Cx) (T : List Addr) (f : Value) (g : List D → R D) : Prop where
  nox : ∀ ds, NoX (g ds)
  ex : ∃ r : List V → Hp → VK → Prop, CallR X f r ∧ ∀ H vs ds F Q, RpL X.K H vs ds F →
    Sat (g ds) (fun d => ∀ v H' F', Ex T H H' → Rp X.K H' v d F' → Mix1 H F F' → Q v H') (fun _ => False) → r vs H Q
def eFun (g : List D → R D) (L : Env → R (List D)) : EF := fun ρ => (L ρ).bind g
section
variable {X : Cx} {C : Cc} {W : WX} {O : Own} {x : Str} {id T : String} {e : Expr} {es : List Expr} {k : Nat} {L : Env → R (List D)} {g : List D → R D} {p pos apos : Pos} {f : Value} {o : Expr} {F : EF} {ko : Nat}
theorem fun_read {r : List V → Hp → VK → Prop} (nox : ∀ ds, NoX (g ds)) (hr : ∀ H vs ds F Q, RpL X.K H vs ds F → Sat (g ds) (fun d => ∀ v H' F', Ex C.T H H' → Rp X.K H' v d F' → Mix1 H F F' → Q v H') (fun _ => False) → r vs H Q)
    (σ : L2.St) (H : Hp) (Q : VK) (h : tD X.K C W O k (eFun g L) σ H Q) : tCB r (tL X.K C W O k L) σ H Q := by
  obtain ⟨ρ, Fs, er, q⟩ := h
  refine tL.step er (Sat.bind q) fun ds vs H1 F1 p er1 x1 r1 kd1 => ?_
  exact hr H1 vs ds F1 Q r1 ((p.nox (nox _)).mono (fun d p v H' F' x r m => p v H' F' (x1.trans x) r (kd1.mix1 x1 m)) fun _ z => z)
theorem ev_fn (B : CallD X C.T (.builtin id) g) (hg : Gl X x) (hm : X.mg x = none) (hv : bootBuiltins x = some (.builtin id)) (ha : AVn X C W O (e :: es) k L) (hn : x ≠ "__name__" := by decide) (hdb : (x == ("__debug__" : Str)) = false := by decide)
    (he : starEach (e :: es) X.env = (false, eval e X.env) :: starEach es X.env := by rfl) (hpl : (backTo pos (starEach es X.env)).any (·.1) = false := by rfl) : EV X C W O (.Call (.Name x p) (e :: es) [] pos) k (eFun g L) := by
  obtain ⟨nox, r, hc, hr⟩ := B
  exact (pe_callB hc hg hm hv ha.av hn hdb he hpl).imp (fun_read nox hr)
theorem ev_ty (B : CallD X C.T (.type T) g) (hg : Gl X x) (hm : X.mg x = none) (hv : bootBuiltins x = some (.type T)) (ha : AVn X C W O (e :: es) k L) (hn : x ≠ "__name__" := by decide) (hdb : (x == ("__debug__" : Str)) = false := by decide)
    (he : starEach (e :: es) X.env = (false, eval e X.env) :: starEach es X.env := by rfl) (hpl : (backTo pos (starEach es X.env)).any (·.1) = false := by rfl) : EV X C W O (.Call (.Name x p) (e :: es) [] pos) k (eFun g L) := by
  obtain ⟨nox, r, hc, hr⟩ := B
  exact (pe_callTy hc hg hm hv ha.av hn hdb he hpl).imp (fun_read nox hr)
/-- what is always without lists and dicts is fresh -/
theorem ev_fresh {k : Nat} (h : EV X C W O e k F) (im : ∀ ρ d, F ρ = .ok d → imm d = true) : EV X C W O e 0 F := h.imp fun σ H Q ⟨ρ, Fs, er, q⟩ => by
  refine ⟨ρ, Fs, er, ?_⟩
  cases e : F ρ with
  | ok d =>
    rw [e] at q
    intro v H' F' x r kd
    have e1 := r.imm (im ρ d e)
    subst e1
    exact q v H' [] x r .nil
  | exc c => rw [e] at q; exact q
  | stuck => rw [e] at q; exact q
end
def lenD : List D → R D
  | [.tuple ds] => .ok (.int ds.length)
  | [.list ds] => .ok (.int ds.length)
  | [.str y] => if y.length ≤ 16777216 then .ok (.int y.length) else .stuck
  | [.dict [(.none, .tuple ds)]] => .ok (.int ds.length)
  | _ => .stuck
def absD : List D → R D
  | [.int i] => .ok (.int (if i < 0 then -i else i))
  | _ => .stuck
def max2D : List D → R D
  | [.int i, .int j] => .ok (.int (if j > i then j else i))
  | _ => .stuck
def min2D : List D → R D
  | [.int i, .int j] => .ok (.int (if j < i then j else i))
  | _ => .stuck
def intD : List D → R D
  | [.int i] => .ok (.int i)
  | [.bool b] => .ok (.int (if b then 1 else 0))
  | _ => .stuck
def tupleD : List D → R D
  | [.tuple ds] => .ok (.tuple ds)
  | [.list ds] => .ok (.tuple ds)
  | [.dict [(.none, .tuple ds)]] => .ok (.tuple ds)
  | _ => .stuck
def listD : List D → R D
  | [.tuple ds] => .ok (.list ds)
  | [.list ds] => .ok (.list ds)
  | [.dict [(.none, .tuple ds)]] => .ok (.list ds)
  | _ => .stuck
theorem callr_or {X : Cx} {f : Value} {r r' : List V → Hp → VK → Prop} (h : CallR X f r) (h' : CallR X f r') : CallR X f (fun xs H Q => r xs H Q ∨ r' xs H Q) := by
  intro pins s σ H xs us Q I rr q
  rcases q with q | q
  · exact h pins s σ H xs us Q I rr q
  · exact h' pins s σ H xs us Q I rr q
section
variable {X : Cx} {T : List Addr}
theorem dK_no {K : PySem.W.Frag} {H : Hp} {v : V} {kvs : List (D × D)} {F : List Addr} (r : Rp K H v (.dict kvs) F) : (∃ a xs ds, v = .ref a ∧ kvs = [(.none, .tuple ds)] ∧ F = [] ∧ RoL K H a xs ∧ RpL K H xs ds []) ∨ ∀ ds, kvs ≠ [(.none, .tuple ds)] := by
  cases r with
  | ro s r => exact .inl ⟨_, _, _, rfl, rfl, rfl, s, r⟩
  | @dK p kvs ks vs F e1 e2 r =>
    refine .inr fun ds e => ?_
    cases kvs with
    | nil => subst e2; cases e
    | cons kv kvs =>
      subst e2
      cases r with
      | cons r1 r2 =>
        obtain ⟨kk, vv⟩ := kv
        cases kk <;> cases e
  | @dT p kvs ks vs F e1 e2 r =>
    refine .inr fun ds e => ?_
    cases e2 with
    | nil => cases e
    | cons k1 k2 k3 =>
      cases r with
      | cons r1 r2 => cases e
/-- things that stand in a row -/
theorem seq_cases {K : PySem.W.Frag} {H : Hp} {v : V} {d : D} {F : List Addr} {ds : List D} (r : Rp K H v d F) (h : itD d = .ok ds) : ∃ a xs G, v = .ref a ∧ RpL K H xs ds G ∧ List.Sublist G F ∧ ((SqL K H a xs ∧ ∀ es, d ≠ .tuple es) ∨ (NT K H a xs ∧ d = .tuple ds ∧ G = F)) := by
  cases r with
  | tup s r => cases h; exact ⟨_, _, _, rfl, r, List.Sublist.refl _, .inr ⟨s, rfl, rfl⟩⟩
  | lst s r => cases h; exact ⟨_, _, _, rfl, r, List.sublist_cons_self _ _, .inl ⟨.inl (.inl s), fun es z => by cases z⟩⟩
  | ro s r => cases h; exact ⟨_, _, _, rfl, r, List.Sublist.refl _, .inl ⟨s.sq, fun es z => by cases z⟩⟩
  | dK s e r =>
    rename_i kvs ks vs F
    rcases dK_no (.dK s e r) with ⟨a, xs, ds', _, e2, _, _, _⟩ | no
    · rename_i p
      exfalso
      cases kvs with
      | nil => subst e; cases e2
      | cons kv kvs =>
        subst e
        cases r with
        | cons r1 r2 =>
          obtain ⟨kk, vv⟩ := kv
          cases kk <;> cases e2
    · unfold itD at h
      split at h <;> first | cases h | skip
      all_goals (rename_i heq; first | (cases heq; done) | (injection heq with heq; exact absurd heq (no _)))
  | dT s e r =>
    rename_i kvs ks vs F
    rcases dK_no (.dT s e r) with ⟨a, xs, ds', _, e2, _, _, _⟩ | no
    · exfalso
      cases e with
      | nil => cases e2
      | cons k1 k2 k3 =>
        cases r with
        | cons r1 r2 => cases e2
    · unfold itD at h
      split at h <;> first | cases h | skip
      all_goals (rename_i heq; first | (cases heq; done) | (injection heq with heq; exact absurd heq (no _)))
  | _ => cases h
end
end Pd
namespace Pd
open PySem PySem.Spec PyProof.Rows L2
section
variable {X : Cx} {T : List Addr}
theorem noxTac1 : True := trivial
theorem c_len : CallD X T (.builtin "len") lenD where
  nox := fun ds => by
    unfold lenD
    split <;> first | exact noxO | exact noxI noxO noxS | exact noxS
  ex := by
    refine ⟨_, callr_or call_len_seq call_len_str, fun H vs ds F Q r h => ?_⟩
    cases r with
    | nil => exact h.elim
    | cons r1 rs =>
      cases rs with
      | cons r2 rs =>
        exfalso
        unfold lenD at h
        split at h <;> first | exact h | (rename_i heq; cases heq)
      | nil =>
        cases r1 with
        | tup s r => exact .inl ⟨_, _, rfl, .inr s.sq, by rw [r.length]; exact h _ H [] .refl (.int _) Mix1.nil⟩
        | lst s r => exact .inl ⟨_, _, rfl, .inl (.inl (.inl s)), by rw [r.length]; exact h _ H [] .refl (.int _) Mix1.nil⟩
        | ro s r => exact .inl ⟨_, _, rfl, .inl s.sq, by rw [r.length]; exact h _ H [] .refl (.int _) Mix1.nil⟩
        | str y =>
          obtain ⟨hy, h⟩ := satI h
          exact .inr ⟨y, rfl, by rw [sz16]; exact hy, h _ H [] .refl (.int _) Mix1.nil⟩
        | dK s e r =>
          exfalso
          rename_i p kvs ks vs F
          cases kvs with
          | nil => subst e; exact h
          | cons kv kvs =>
            subst e
            cases r with
            | cons r1 r2 =>
              obtain ⟨kk, vv⟩ := kv
              cases kk <;> exact h
        | dT s e r =>
          exfalso
          rename_i p kvs ks vs F
          cases e with
          | nil => exact h
          | cons k1 k2 k3 =>
            cases r with
            | cons r1 r2 => exact h
        | _ => exact False.elim h
theorem c_abs : CallD X T (.builtin "abs") absD where
  nox := fun ds => by
    unfold absD
    split <;> first | exact noxO | exact noxS
  ex := by
    refine ⟨_, call_abs, fun H vs ds F Q r h => ?_⟩
    cases r with
    | nil => exact h.elim
    | cons r1 rs =>
      cases rs with
      | cons r2 rs => cases r1 <;> exact False.elim h
      | nil => cases r1 <;> first | exact False.elim h | exact ⟨_, rfl, h _ H [] .refl (.int _) Mix1.nil⟩
theorem c_int2 {f : Value} {gi : Int → Int → Int} {g : List D → R D} (hc : CallR X f (fun xs H Q => ∃ i j, xs = [.int i, .int j] ∧ Q (.int (gi i j)) H)) (nox : ∀ ds, NoX (g ds))
    (hg : ∀ ds (P : D → Prop), Sat (g ds) P (fun _ => False) → ∃ i j, ds = [.int i, .int j] ∧ P (.int (gi i j))) : CallD X T f g := ⟨nox, _, hc, fun H vs ds F Q r h => by
  obtain ⟨i, j, rfl, p⟩ := hg _ _ h
  match vs, r with
  | [_, _], .cons r1 (.cons r2 .nil) =>
    cases r1
    cases r2
    exact ⟨i, j, rfl, p _ H [] .refl (.int _) Mix1.nil⟩⟩
theorem c_max2 (hc : X.calm = true) : CallD X T (.builtin "max") max2D := c_int2 (call_max2 hc) (fun ds => by unfold max2D; split <;> first | exact noxO | exact noxS) fun ds P h => by
  unfold max2D at h
  split at h
  · exact ⟨_, _, rfl, h⟩
  · exact h.elim
theorem c_min2 (hc : X.calm = true) : CallD X T (.builtin "min") min2D := c_int2 (call_min2 hc) (fun ds => by unfold min2D; split <;> first | exact noxO | exact noxS) fun ds P h => by
  unfold min2D at h
  split at h
  · exact ⟨_, _, rfl, h⟩
  · exact h.elim
theorem c_int : CallD X T (.type "int") intD where
  nox := fun ds => by
    unfold intD
    split <;> first | exact noxO | exact noxS
  ex := by
    refine ⟨_, call_int1, fun H vs ds F Q r h => ?_⟩
    cases r with
    | nil => exact h.elim
    | cons r1 rs =>
      cases rs with
      | cons r2 rs => cases r1 <;> exact False.elim h
      | nil => cases r1 <;> first | exact False.elim h | exact .inl ⟨_, rfl, h _ H [] .refl (.int _) Mix1.nil⟩ | exact .inr ⟨_, rfl, h _ H [] .refl (.int _) Mix1.nil⟩
theorem itD_tuple {d : D} : tupleD [d] = (itD d).bind fun ds => .ok (.tuple ds) := by
  unfold tupleD itD
  split <;> first | rfl | (split <;> first | rfl | (rename_i h1 h2; simp_all))
theorem itD_list {d : D} : listD [d] = (itD d).bind fun ds => .ok (.list ds) := by
  unfold listD itD
  split <;> first | rfl | (split <;> first | rfl | (rename_i h1 h2; simp_all))
theorem itD_sat {α : Type} {d : D} {f : List D → R α} {P : α → Prop} {E : Str → Prop} (h : Sat ((itD d).bind f) P E) : ∃ ds, itD d = .ok ds ∧ Sat (f ds) P E := by
  cases e : itD d with
  | ok ds => rw [e] at h; exact ⟨ds, rfl, h⟩
  | exc c => exact (noxIt d c e).elim
  | stuck => rw [e] at h; exact h.elim
theorem c_tuple : CallD X T (.type "tuple") tupleD where
  nox := fun ds => by
    unfold tupleD
    split <;> first | exact noxO | exact noxS
  ex := by
    refine ⟨_, call_tupleF, fun H vs ds F Q r h => ?_⟩
    cases r with
    | nil => exact h.elim
    | @cons v vs d ds F1 F2 r1 rs =>
      cases rs with
      | cons r2 rs =>
        exfalso
        unfold tupleD at h
        split at h <;> first | exact h | (rename_i heq; cases heq)
      | nil =>
        rw [itD_tuple] at h
        obtain ⟨es, e, h⟩ := itD_sat h
        obtain ⟨a, xs, G, rfl, r', sb, w⟩ := seq_cases r1 e
        refine ⟨a, xs, rfl, ?_⟩
        rcases w with ⟨s, _⟩ | ⟨s, rfl, rfl⟩
        · refine .inl ⟨s, fun l o hl ho => ?_⟩
          have x : Ex T H (upd H l (.frz o (.tup xs))) := .new hl
          exact h _ _ G x (.tup (.new ho) (r'.ex x)) (mix1_sub (sb.trans (List.sublist_append_left _ _)))
        · exact .inr ⟨s.sq, h _ H G .refl (.tup s r') (mix1_sub (List.sublist_append_left _ _))⟩
theorem c_list : CallD X T (.type "list") listD where
  nox := fun ds => by
    unfold listD
    split <;> first | exact noxO | exact noxS
  ex := by
    refine ⟨_, call_list_of, fun H vs ds F Q r h => ?_⟩
    cases r with
    | nil => exact h.elim
    | @cons v vs d ds F1 F2 r1 rs =>
      cases rs with
      | cons r2 rs =>
        exfalso
        unfold listD at h
        split at h <;> first | exact h | (rename_i heq; cases heq)
      | nil =>
        rw [itD_list] at h
        obtain ⟨es, e, h⟩ := itD_sat h
        obtain ⟨a, xs, G, rfl, r', sb, w⟩ := seq_cases r1 e
        refine ⟨a, xs, rfl, ?_⟩
        have fin : ∀ l, H l = none → Q (.ref l) (upd H l (.lst xs)) := fun l hl => by
          have x : Ex T H (upd H l (.lst xs)) := .new hl
          exact h _ _ (l :: G) x (.lst upd_same (r'.ex x)) (mix1_new hl (fun c hc => by
            rcases List.mem_append.mp hc with z | z
            · exact r1.nn c z
            · cases z) (sb.trans (List.sublist_append_left _ _)))
        rcases w with ⟨s, _⟩ | ⟨s, _, _⟩
        · exact ⟨.inl s, fin⟩
        · exact ⟨.inr s.sq, fin⟩
/-- max, min of a list or a tuple: the first of the greatest, the least -/
def okCmp (ds : List D) : Bool := shp (.list ds) && (ds.all fun x => ds.all fun y => PySem.W.alike x y) && ds.all fun x => match x with
  | .none => false
  | _ => true
def bestD (g : D → List D → D) : List D → R D
  | [d] => (itD d).bind fun ds => match ds with
    | [] => .stuck
    | x :: xs => if okCmp (x :: xs) = true then .ok (g x xs) else .stuck
  | _ => .stuck
def maxLD : List D → R D := bestD PySem.W.maxD
def minLD : List D → R D := bestD PySem.W.minD
theorem okCmp_alike {ds : List D} (h : okCmp ds = true) : PySem.W.AlikeAll ds ∧ PyData.depthAll ds ≤ 63 ∧ PyData.canLayAll0 ds = true := by
  unfold okCmp at h
  rw [Bool.and_eq_true, Bool.and_eq_true] at h
  obtain ⟨⟨h1, h2⟩, h3⟩ := h
  have hd := SeqAt.depth_of_shaped h1
  have hl := SeqAt.canLay_of_shaped h1
  refine ⟨⟨fun x hx y hy => List.all_eq_true.mp (List.all_eq_true.mp h2 x hx) y hy, fun x hx e => ?_⟩, ?_, by simpa [PyData.canLay0] using hl⟩
  · have := List.all_eq_true.mp h3 x hx
    rw [e] at this; cases this
  · have e : PyData.depth (.list ds) = PyData.depthAll ds + 1 := by simp [PyData.depth]
    rw [e] at hd
    omega
/-- the rule, by data -/
theorem call_bestT {M : Bool} (hc : X.calm = true) (hu : X.A.units + 65 < cLine) : CallR X (.builtin (if M = true then "max" else "min")) (fun xs H Q => ∃ (a : Addr) (ys : List V) (x : D) (ds : List D), xs = [.ref a] ∧ (SqL X.K H a ys ∨ SqT X.K H a ys) ∧ DpAll X.K H ys (x :: ds) ∧ okCmp (x :: ds) = true ∧
    ∀ (i : Nat) (y : V), ys[i]? = some y → (x :: ds)[i]? = some (if M = true then PySem.W.maxD x ds else PySem.W.minD x ds) → Q y H) := by
  intro pins s σ H xs us Q I r h
  obtain ⟨a, ys, x, ds, rfl, hs, hd, hk, q⟩ := h
  obtain rfl := Vals.ref1 r
  obtain ⟨hal, hdep, hlay⟩ := okCmp_alike hk
  have hu1 : X.A.units + 1 + PyData.depthAll (x :: ds) < cLine := by omega
  have hh := I.ok.hd hc
  have fin : ∀ (its : List Value), Vals ys its → (∃ as, ReadsAll s.heap its (x :: ds) as) → ∀ (i : Nat) v h' tk bs, its.toArray[i]? = some v → Reads h' v (if M = true then PySem.W.maxD x ds else PySem.W.minD x ds) bs → (∀ b o, s.heap.get? b = some o → h'.get? b = some o) →
      EP X pins σ Q v { s with heap := h', toks := tk } := fun its rv hr i v h' tk bs hi rd kp => by
    have hi' : its[i]? = some v := by simpa using hi
    obtain ⟨as, hra⟩ := hr
    obtain ⟨bs2, r2, hlt, hmem, _⟩ := PySem.W.readsAll_at hra i v hi'
    have hyl : i < ys.length := by
      have h1 := (List.getElem?_eq_some_iff.mp hi').1
      have h2 := rv.length
      omega
    obtain ⟨u, hu', ru⟩ := rv.get (List.getElem?_eq_getElem hyl)
    rw [hi'] at hu'
    cases hu'
    have r2' : Reads h' v ((x :: ds).getD i .none) bs2 := PyProof.Rows.Reads.keeps kp r2
    have e : (x :: ds).getD i .none = (if M = true then PySem.W.maxD x ds else PySem.W.minD x ds) := (Reads.unique r2' _ _ rd).1
    refine ⟨ys[i], H, I.kept (t' := tk) kp, ru, q i _ (List.getElem?_eq_getElem hyl) ?_⟩
    rw [← e, List.getD_eq_getElem?_getD, List.getElem?_eq_getElem hlt]
    rfl
  rcases hs with hs | hs
  · obtain ⟨its, rv, p, hz⟩ := I.list hs
    obtain ⟨as, hr⟩ := Dp.readsAll I _ _ _ hd rv
    have hr' : ReadsAll s.heap its.toArray.toList (x :: ds) as := by simpa using hr
    cases M with
    | true => exact PySem.W.max_list_data hh p.isList hr' hal hu1 fun i v h' tk bs e1 e2 e3 => fin its rv ⟨as, hr⟩ i v h' tk bs e1 e2 e3
    | false => exact PySem.W.min_list_data hh p.isList hr' hal hu1 fun i v h' tk bs e1 e2 e3 => fin its rv ⟨as, hr⟩ i v h' tk bs e1 e2 e3
  · obtain ⟨its, rv, p, hz⟩ := I.tuple hs
    obtain ⟨as, hr⟩ := Dp.readsAll I _ _ _ hd rv
    have hr' : ReadsAll s.heap its.toArray.toList (x :: ds) as := by simpa using hr
    have p' : s.heap.IsTuple a its.toArray := p
    cases M with
    | true => exact PySem.W.max_tuple_data hh p' hr' hal hu1 fun i v h' tk bs e1 e2 e3 => fin its rv ⟨as, hr⟩ i v h' tk bs e1 e2 e3
    | false => exact PySem.W.min_tuple_data hh p' hr' hal hu1 fun i v h' tk bs e1 e2 e3 => fin its rv ⟨as, hr⟩ i v h' tk bs e1 e2 e3
theorem c_best {M : Bool} (hc : X.calm = true) (hu : X.A.units + 65 < cLine) : CallD X T (.builtin (if M = true then "max" else "min")) (bestD fun x ds => if M = true then PySem.W.maxD x ds else PySem.W.minD x ds) where
  nox := fun ds => by
    unfold bestD
    split
    · exact bind_nox (noxIt _) fun es => by split <;> first | exact noxS | exact noxI noxO noxS
    · exact noxS
  ex := by
    refine ⟨_, call_bestT hc hu, fun H vs ds F Q r h => ?_⟩
    cases r with
    | nil => exact h.elim
    | @cons v vs d ds F1 F2 r1 rs =>
      cases rs with
      | cons r2 rs => exact h.elim
      | nil =>
        obtain ⟨es, e, h⟩ := itD_sat h
        obtain ⟨a, xs, G, rfl, r', sb, w⟩ := seq_cases r1 e
        cases es with
        | nil => exact h.elim
        | cons x es =>
          obtain ⟨hk, h⟩ := satI h
          refine ⟨a, xs, x, es, rfl, w.elim (fun z => .inl z.1) (fun z => .inr z.1.sq), r'.dp (okCmp_alike hk).2.2, hk, fun i y hi hd => ?_⟩
          obtain ⟨y', G', e1, r3, sb3⟩ := r'.get hd
          rw [hi] at e1
          cases e1
          exact h _ H G' .refl r3 (mix1_sub ((sb3.trans sb).trans (List.sublist_append_left _ _)))
theorem c_maxL (hc : X.calm = true) (hu : X.A.units + 65 < cLine) : CallD X T (.builtin "max") maxLD := c_best (M := true) hc hu
theorem c_minL (hc : X.calm = true) (hu : X.A.units + 65 < cLine) : CallD X T (.builtin "min") minLD := c_best (M := false) hc hu
/-! isinstance(x, T) -/
def tyD : D → String
  | .none => "NoneType"
  | .bool _ => "bool"
  | .int _ => "int"
  | .str _ => "str"
  | .tuple _ => "tuple"
  | .list _ => "list"
  | .dict [(.none, .tuple _)] => "list"
  | .dict _ => "dict"
def isiD (T : String) (x : D) : Bool := tyD x == T || (tyD x == "bool" && T == "int")
/-- a dict whose keys are tuples, or an empty one -/
def isX : D → Bool
  | .dict [] => true
  | .dict ((.tuple _, _) :: _) => true
  | _ => false
theorem rp_ty {K : PySem.W.Frag} {H : Hp} {v : V} {d : D} {F : List Addr} (r : Rp K H v d F) (hx : isX d = false) : TyX K H v (.type (tyD d)) := by
  cases r with
  | non => exact .base .non
  | bl b => exact .base (.bl b)
  | int i => exact .base (.int i)
  | str x => exact .base (.str x)
  | tup s r =>
    rcases s with ⟨o, s, _⟩ | ⟨o, its, n, e, c, _⟩
    · exact .fTuple s
    · exact .kTuple e c.1
  | lst s r => exact .base (.lst s)
  | ro s r =>
    rcases s with ⟨o, s⟩ | ⟨o, its, n, e, c, _⟩
    · exact .base (.frz s)
    · exact .kList e c
  | @dK p kvs ks vs F e1 e2 r =>
    have e : tyD (.dict (ks.zip vs)) = "dict" := by
      unfold tyD
      split
      all_goals first | rfl | (rename_i heq; cases heq; done) | skip
      rename_i heq
      cases kvs with
      | nil => subst e2; cases heq
      | cons kv kvs =>
        subst e2
        cases r with
        | cons r1 r2 =>
          obtain ⟨kk, vv⟩ := kv
          cases kk <;> cases heq
    rw [e]
    exact .base (.dK e1)
  | @dT p kvs ks vs F e1 e2 r =>
    exfalso
    cases e2 with
    | nil => cases hx
    | cons k1 k2 k3 =>
      cases r with
      | cons r1 r2 => cases hx
def isiB (T : String) : Bool := decide (∀ t ∈ ["NoneType", "bool", "int", "str", "tuple", "list", "dict"], kitB t T = some (t == T || (t == "bool" && T == "int")))
theorem tyD_mem (d : D) : tyD d ∈ ["NoneType", "bool", "int", "str", "tuple", "list", "dict"] := by
  unfold tyD
  split <;> decide
def isiR (T : String) (d : D) : R D := if isX d = true then .stuck else .ok (.bool (isiD T d))
def eIsi (T : String) (F : EF) : EF := fun ρ => (F ρ).bind fun d => isiR T d
theorem isi_int : isiB "int" = true := by decide +kernel
theorem isi_tuple : isiB "tuple" = true := by decide +kernel
theorem isi_str : isiB "str" = true := by decide +kernel
theorem isi_list : isiB "list" = true := by decide +kernel
theorem isi_bool : isiB "bool" = true := by decide +kernel
theorem isi_dict : isiB "dict" = true := by decide +kernel
end
theorem bt_len : bootBuiltins "len" = some (.builtin "len") := by decide +kernel
theorem bt_abs : bootBuiltins "abs" = some (.builtin "abs") := by decide +kernel
theorem bt_max : bootBuiltins "max" = some (.builtin "max") := by decide +kernel
theorem bt_min : bootBuiltins "min" = some (.builtin "min") := by decide +kernel
theorem bt_sum : bootBuiltins "sum" = some (.builtin "sum") := by decide +kernel
theorem bt_sorted : bootBuiltins "sorted" = some (.builtin "sorted") := by decide +kernel
theorem bt_isinstance : bootBuiltins "isinstance" = some (.builtin "isinstance") := by decide +kernel
theorem bt_int : bootBuiltins "int" = some (.type "int") := by decide +kernel
theorem bt_str : bootBuiltins "str" = some (.type "str") := by decide +kernel
theorem bt_tuple : bootBuiltins "tuple" = some (.type "tuple") := by decide +kernel
theorem bt_list : bootBuiltins "list" = some (.type "list") := by decide +kernel
theorem bt_dict : bootBuiltins "dict" = some (.type "dict") := by decide +kernel
theorem bt_bool : bootBuiltins "bool" = some (.type "bool") := by decide +kernel
theorem bt_reversed : bootBuiltins "reversed" = some (.type "reversed") := by decide +kernel
section
variable {X : Cx} {C : Cc} {W : WX} {O : Own} {e o : Expr} {k : Nat} {F : EF} {p p2 pos apos : Pos} {T : String} {x : Str} {L : Env → R (List D)} {ko : Nat} {G : EF}
theorem ev_isi (hg : Gl X "isinstance") (hm : X.mg "isinstance" = none) (hgx : Gl X x) (hmx : X.mg x = none) (hv : bootBuiltins x = some (.type T)) (hT : isiB T = true) (he : EV X C W O e k F) (hn : x ≠ "__name__" := by decide) (hdb : (x == ("__debug__" : Str)) = false := by decide)
    (hs : starEach [e, .Name x p2] X.env = (false, eval e X.env) :: starEach [.Name x p2] X.env := by rfl) (hs2 : starEach [.Name x p2] X.env = (false, eval (.Name x p2) X.env) :: starEach [] X.env := by rfl) (hpl : (backTo pos (starEach [.Name x p2] X.env)).any (·.1) = false := by rfl) :
    EV X C W O (.Call (.Name "isinstance" p) [e, .Name x p2] [] pos) 0 (eIsi T F) := by
  refine (pe_callB call_isi hg hm bt_isinstance (pa_cons he (pa_cons (pe_bltn hgx hmx hv (v := .ty T) rfl hn hdb) pa_nil hs2) hs) (by decide) (by decide) hs hpl).imp fun σ H Q ⟨ρ, Fs, er, q⟩ => ?_
  refine tD.step er (Sat.bind q) fun d v H1 F1 p er1 x1 r1 kd1 => ?_
  unfold isiR at p
  by_cases hx : isX d = true
  · rw [if_pos hx] at p
    exact p.elim
  · rw [if_neg hx] at p
    refine ⟨v, .ty T, .type (tyD d), .type T, isiD T d, rfl, .ty T, rp_ty r1 (by simpa using hx), ?_, p (.bl _) H1 [] x1 (.bl _) .nil⟩
    exact kit_ty (of_decide_eq_true hT _ (tyD_mem d))
/-! methods -/
structure MethD (X : Cx) (T : List Addr) (id : String) (ty : D → Prop) (g : D → List D → R D) : Prop where
  nox : ∀ x ds, NoX (g x ds)
  ex : ∃ r : V → List V → Hp → VK → Prop, MtR X id r ∧ ∀ H v d Fd vs ds F Q, Rp X.K H v d Fd → RpL X.K H vs ds F →
    Sat (g d ds) (fun z => ∀ w H' F', Ex T H H' → Rp X.K H' w z F' → Mix1 H Fd F' → Q w H') (fun _ => False) → r v vs H Q
  ok : ∀ x ds z, g x ds = .ok z → ty x
def eMeth (g : D → List D → R D) (F : EF) (L : Env → R (List D)) : EF := fun ρ => (F ρ).bind fun x => (L ρ).bind fun ds => g x ds
/-- the type of what a method is called of -/
def isTy (T : String) (d : D) : Prop := match d with
  | .list _ => T = "list"
  | .str _ => T = "str"
  | .int _ => T = "int"
  | .dict [(.none, .tuple _)] => T = "list"
  | _ => False
end
end Pd
namespace Pd
open PySem PySem.Spec PyProof.Rows L2
/-! ### count, index of lists and tuples -/
theorem room_in' {A : Around} {ds : List D} {d : D} (sd : SeqAt.shaped d = true) (hu : A.units + 65 < cLine) : A.units + 1 + min (PyData.depthAll ds) d.depth < cLine := by
  have := SeqAt.depth_of_shaped sd
  have := Nat.min_le_right (PyData.depthAll ds) d.depth
  omega
section
variable {X : Cx}
def rCntD (K : PySem.W.Frag) (tup : Bool) : V → List V → Hp → VK → Prop := fun x xs H Q => ∃ (a : Addr) (ys : List V) (y : V) (d : D) (ds : List D), x = .ref a ∧ xs = [y] ∧ (if tup = true then SqT K H a ys else SqL K H a ys) ∧ DpAll K H ys ds ∧ Dp K H y d ∧
  SeqAt.shaped (.list ds) = true ∧ SeqAt.shaped d = true ∧ Q (.int ((ds.countP fun z => PyData.eqv z d : Nat))) H
theorem mt_countT (hu : X.A.units + 65 < cLine) : MtR X "tuple.count" (rCntD X.K true) := by
  intro pins s σ H x xs v us Q I rx rxs h
  obtain ⟨a, ys, y, d, ds, rfl, rfl, hs, ha, hy, sl, sd, q⟩ := h
  cases rx
  obtain ⟨uy, rfl, ry⟩ := rxs.one
  obtain ⟨bs, r1⟩ := Dp.reads I d y uy hy ry
  have hxs : PyData.canLayAll0 ds = true := SeqAt.canLay_of_shaped sl
  have hroom : X.A.units + 1 + min (PyData.depthAll ds) d.depth < cLine := room_in' sd hu
  obtain ⟨its, rv, ⟨⟨cls, dd, data, sls⟩, ho, hc, n, hdt⟩, hlen⟩ := I.tuple (show SqT X.K H a ys from hs)
  simp only at hc hdt
  subst hc hdt
  obtain ⟨as, h4⟩ := Dp.readsAll I ds _ its ha rv
  have hmap : its.map (SeqAt.readOf s.heap) = ds := SeqAt.readsAll_map ds its as hxs h4
  refine call_meets PySem.F.slot_tuple_count ⟨_, ho, rfl⟩ PySem.F.entry_tuple_count (PySem.F.args_tuple_count_2 _ _)
    (SeqAt.tuple_countAt a its.toArray n dd sls uy (fun u => PyData.eqv (SeqAt.readOf s.heap u) d)) ⟨ho, SeqAt.items_eqAt (vs := its.toArray) (show ReadsAll s.heap its.toArray.toList ds as from h4) r1 hxs (SeqAt.canLay_of_shaped sd) hroom, ?_⟩
  refine ⟨.int ((ds.countP fun z => PyData.eqv z d : Nat)), H, I.tok _, ⟨s.toks, ?_⟩, q⟩
  rw [← hmap, List.countP_map]
  rfl
theorem mt_countL (hu : X.A.units + 65 < cLine) : MtR X "list.count" (rCntD X.K false) := by
  intro pins s σ H x xs v us Q I rx rxs h
  obtain ⟨a, ys, y, d, ds, rfl, rfl, hs, ha, hy, sl, sd, q⟩ := h
  cases rx
  obtain ⟨uy, rfl, ry⟩ := rxs.one
  obtain ⟨bs, r1⟩ := Dp.reads I d y uy hy ry
  have hxs : PyData.canLayAll0 ds = true := SeqAt.canLay_of_shaped sl
  have hroom : X.A.units + 1 + min (PyData.depthAll ds) d.depth < cLine := room_in' sd hu
  obtain ⟨its, rv, ⟨⟨cls, dd, data, sls⟩, n, ho, hc, hdn, hdt⟩, hlen⟩ := I.list (show SqL X.K H a ys from by simpa using hs)
  simp only at hc hdt
  subst hc hdt
  obtain ⟨as, h4⟩ := Dp.readsAll I ds _ its ha rv
  have hmap : its.map (SeqAt.readOf s.heap) = ds := SeqAt.readsAll_map ds its as hxs h4
  refine call_meets PySem.F.slot_list_count ⟨_, ho, rfl⟩ PySem.F.entry_list_count (PySem.F.args_list_count_2 _ _)
    (SeqAt.list_countAt a its.toArray n dd sls uy (fun u => PyData.eqv (SeqAt.readOf s.heap u) d)) ⟨ho, SeqAt.items_eqAt (vs := its.toArray) (show ReadsAll s.heap its.toArray.toList ds as from h4) r1 hxs (SeqAt.canLay_of_shaped sd) hroom, ?_⟩
  refine ⟨.int ((ds.countP fun z => PyData.eqv z d : Nat)), H, I.tok _, ⟨s.toks, ?_⟩, q⟩
  rw [← hmap, List.countP_map]
  rfl
/-- a method of a list or a tuple -/
def tSM (K : PySem.W.Frag) (rT rL : V → List V → Hp → VK → Prop) (to : TE) (t : TA) : TE := fun σ H Q => to σ H fun x H1 => ∃ a, x = .ref a ∧ (((∃ xs, NT K H1 a xs) ∧ t σ H1 fun vs H2 => rT x vs H2 Q) ∨ ((∃ xs, SqL K H1 a xs) ∧ t σ H1 fun vs H2 => rL x vs H2 Q))
theorem pe_sm {o e : Expr} {es : List Expr} {to : TE} {t : TA} {name : Str} {apos cpos : Pos} {idT idL : String} {rT rL : V → List V → Hp → VK → Prop} (slT : Slot "tuple" name idT) (slL : Slot "list" name idL) (htT : typeOf (.builtin idT) = pure (.type "method_descriptor")) (htL : typeOf (.builtin idL) = pure (.type "method_descriptor"))
    (hmT : MtR X idT rT) (hmL : MtR X idL rL) (ho : PE X o to) (ha : PA X (e :: es) t)
    (hbase : attributeBase o name X.env (eval o X.env) = eval o X.env := by rfl)
    (hfew : ((backTo cpos (starEach (e :: es) X.env)).all (fun x => !x.1) && (backToKw cpos (keywordEach [] X.env)).all (fun x => x.1.isSome)
      && decide ((e :: es).length + ([] : List Keyword).length + (if ([] : List Keyword).isEmpty then 0 else 1) < 30)) = true := by rfl)
    (hline : (apos.endLine == cpos.line) = true := by rfl) (hs : starEach (e :: es) X.env = (false, eval e X.env) :: starEach es X.env := by rfl) (hplain : (backTo cpos (starEach es X.env)).any (·.1) = false := by rfl) :
    PE X (.Call (.Attribute o name apos) (e :: es) [] cpos) (tSM X.K rT rL to t) := by
  refine ⟨fun pins s σ H Q I h => ?_⟩
  refine wpAny_Call_method_late hbase hfew hline rfl (thn (ho.run pins s σ H _ I h) fun v s1 ⟨x, H1, I1, r1, a, ex, q1⟩ => ?_)
  subst ex
  cases r1
  rcases q1 with ⟨⟨xs, hn⟩, q1⟩ | ⟨⟨xs, hl⟩, q1⟩
  · obtain ⟨ob, e1, e2, e3⟩ := hn.obj I1
    refine ⟨"tuple", idT, PySem.F.plainAttrs_tuple, slT, htT, ⟨ob, e1, e2⟩, fun b hb => ⟨ob, by cases hb; exact e1, e3⟩, ?_⟩
    have hA := ha.run cpos pins s1 σ H1 _ I1 q1
    rw [hs] at hA ⊢
    refine Calls.callWith_builtin (by show (false || (backTo cpos (starEach es X.env)).any (·.1)) = false; rw [hplain] <;> rfl) (Calls.evalArgs_plain ?_)
    exact thn hA fun us s2 ⟨vs, H2, I2, r2, q2⟩ => hmT pins s2 σ H2 (.ref a) vs _ us Q I2 rfl r2 q2
  · obtain ⟨its, rv, ⟨ob, n, e1, e2, e3, e4⟩, hz⟩ := I1.list hl
    refine ⟨"list", idL, PySem.F.plainAttrs_list, slL, htL, ⟨ob, e1, e2⟩, fun b hb => ⟨ob, by cases hb; exact e1, e3⟩, ?_⟩
    have hA := ha.run cpos pins s1 σ H1 _ I1 q1
    rw [hs] at hA ⊢
    refine Calls.callWith_builtin (by show (false || (backTo cpos (starEach es X.env)).any (·.1)) = false; rw [hplain] <;> rfl) (Calls.evalArgs_plain ?_)
    exact thn hA fun us s2 ⟨vs, H2, I2, r2, q2⟩ => hmL pins s2 σ H2 (.ref a) vs _ us Q I2 rfl r2 q2
end
def cntD (ds : List D) (d : D) : R D := if shp (.list ds) = true ∧ shp d = true then .ok (.int ((ds.countP fun z => PyData.eqv z d : Nat))) else .stuck
def eCnt (F : EF) (L : Env → R (List D)) : EF := fun ρ => (F ρ).bind fun x => (itD x).bind fun ds => (L ρ).bind fun ys => match ys with
  | [d] => cntD ds d
  | _ => .stuck
section
variable {X : Cx} {C : Cc} {W : WX} {O : Own} {e o : Expr} {k ko : Nat} {F : EF} {apos p2 : Pos} {L : Env → R (List D)}
theorem ev_count (hu : X.A.units + 65 < cLine) (ho : EV X C W O o ko F) (ha : AVn X C W O [e] k L)
    (hbase : attributeBase o "count" X.env (eval o X.env) = eval o X.env := by rfl)
    (hfew : ((backTo p2 (starEach [e] X.env)).all (fun x => !x.1) && (backToKw p2 (keywordEach [] X.env)).all (fun x => x.1.isSome)
      && decide ([e].length + ([] : List Keyword).length + (if ([] : List Keyword).isEmpty then 0 else 1) < 30)) = true := by rfl)
    (hline : (apos.endLine == p2.line) = true := by rfl) (hs : starEach [e] X.env = (false, eval e X.env) :: starEach [] X.env := by rfl) (hplain : (backTo p2 (starEach [] X.env)).any (·.1) = false := by rfl) :
    EV X C W O (.Call (.Attribute o "count" apos) [e] [] p2) 0 (eCnt F L) := by
  refine (pe_sm PySem.F.slot_tuple_count PySem.F.slot_list_count PySem.F.type_tuple_count PySem.F.type_list_count (mt_countT hu) (mt_countL hu) ho ha.av hbase hfew hline hs hplain).imp fun σ H Q ⟨ρ, Fs, er, q⟩ => ?_
  refine tD.step er (Sat.bind q) fun x v H1 F1 p er1 x1 r1 kd1 => ?_
  obtain ⟨ds, hds, p⟩ := itD_sat p
  obtain ⟨a, xs, G, rfl, r', sb, w⟩ := seq_cases r1 hds
  have key : ∀ (b : Bool), (∀ H2, Ex C.T H1 H2 → if b = true then SqT X.K H2 a xs else SqL X.K H2 a xs) → tL X.K C W O k L σ H1 fun vs H2 => rCntD X.K b (.ref a) vs H2 Q := fun b hb => by
    refine tL.step er1 (Sat.later (Sat.bind p) x1) fun ys vs H2 F2 p2 er2 x2 r2 kd2 => ?_
    match ys, vs, r2, p2 with
    | [d], [y], .cons ry .nil, p2 =>
      obtain ⟨⟨h1, h2⟩, p2⟩ := satI (show Sat (cntD ds d) _ _ from p2)
      exact ⟨a, xs, y, d, ds, rfl, rfl, hb H2 x2, RpL.dp (r'.ex x2) (SeqAt.canLay_of_shaped h1), ry.dp (shp_lay h2), h1, h2, p2 _ H2 [] (x1.trans x2) (.int _) .nil⟩
    | [], _, _, p2 => exact p2.elim
    | _ :: _ :: _, _, _, p2 => exact p2.elim
  refine ⟨a, rfl, ?_⟩
  rcases w with ⟨s, ht⟩ | ⟨s, _, _⟩
  · refine .inr ⟨⟨xs, s⟩, key false fun H2 x2 => ?_⟩
    show SqL X.K H2 a xs
    rcases s with (s | ⟨o, s⟩) | s
    · exact .inl (.inl (x2.kept _ _ s (fun _ z => by cases z)))
    · exact .inl (.inr ⟨o, x2.kept _ _ s (fun _ z => by cases z)⟩)
    · exact .inr s
  · exact .inl ⟨⟨xs, s⟩, key true fun H2 x2 => (x2.nt s).sq⟩
end
end Pd
namespace PySem
open Sem (wp)
open RT
section
variable {prog : Program} {w : World} {A : Around} {E : Value → Shared → Prop} {s : Shared}
theorem pd_nolen_rt : typeLookup (.type "reversed") "__len__" = pure none := by rw [typeLookup_type, builtinLookup_eq_fast]; kernel_rfl
theorem pd_hint_rt : typeLookup (.type "reversed") "__length_hint__" = pure (some (.builtin "reversed.__length_hint__")) := by rw [typeLookup_type, builtinLookup_eq_fast]; kernel_rfl
/-- a reversed tuple, walked -/
theorem pd_walks_rt (hh : A.handled = none) (I t : Addr) (hne : t ≠ I) (items : Array Value) (hsz : items.size ≤ sizeLine) :
    Walks prog w A I [I, t] [I] items.size (fun i v => items[items.size - 1 - i]? = some v) (fun i h => i ≤ items.size ∧ IsRt h I t ((items.size : Int) - 1 - (i : Int)) ∧ PyProof.Rows.IsTup h t items) where
  sub := fun b hb => by simp at hb; simp [hb]
  frame := fun _ _ _ x hk => ⟨x.1, x.2.1.at fun o e => hk I (by simp) o e, let ⟨o, ho, r⟩ := x.2.2; ⟨o, hk t (by simp) o ho, r⟩⟩
  item := fun i s Q E hi x hQ => by
    have e : (items.size : Int) - 1 - (i : Int) = ((items.size - 1 - i : Nat) : Int) := by omega
    have hit := x.2.1
    rw [e] at hit
    have hx : items[items.size - 1 - i]? = some (items[items.size - 1 - i]'(by omega)) := Array.getElem?_eq_getElem (by omega)
    refine next_rt_item hit x.2.2 hx hsz fun h' hit' hs' => ?_
    have e2 : ((items.size - 1 - i : Nat) : Int) - 1 = (items.size : Int) - 1 - ((i + 1 : Nat) : Int) := by omega
    rw [e2] at hit'
    exact hQ _ h' _ hx ⟨hi, hit', let ⟨o, ho, r⟩ := x.2.2; ⟨o, (hs'.2 t hne).trans ho, r⟩⟩ fun b o hb eo => hs'.extBut b o (fun h => hb (by simp [h])) eo
  done := fun s Q E x hQ => by
    have e : (items.size : Int) - 1 - (items.size : Int) = -1 := by omega
    have hit := x.2.1
    rw [e] at hit
    exact next_rt_end hh hit fun h' he' => hQ h' s.toks fun b o hb eo => he' b o (fun h => hb (by simp [h])) eo
  self := fun _ _ _ _ x hQ => iter_rt x.2.1 hQ
theorem pd_slot_hint : Slot "reversed" "__length_hint__" "reversed.__length_hint__" :=
  .of (owner := "reversed") (n := "__length_hint__") (by rw [typeLookup_type, builtinLookup_eq_fast]; kernel_rfl) (by decide +kernel) (by decide +kernel) (by decide +kernel)
    (by first | exact .inl (by decide +kernel) | exact .inr (by decide +kernel)) (by rw [isSubtype_type]; kernel_rfl)
theorem pd_entry_hint : entryFor table "reversed.__length_hint__" = some Builtin.«reversed.__length_hint__» := entryFor_of_tree (by kernel_rfl)
theorem pd_args_hint (a : Value) : argsOk "reversed.__length_hint__" ⟨[a], []⟩ := by
  unfold argsOk; rw [signature?_of (id := "reversed.__length_hint__") (n := ['_', '_', 't', 'n', 'i', 'h', '_', 'h', 't', 'g', 'n', 'e', 'l', '_', '_']) (o := ['d', 'e', 's', 'r', 'e', 'v', 'e', 'r']) (by kernel_rfl) owner_rt]; kernel_rfl
theorem pd_hint_call {it t : Addr} {items : Array Value} {Q : Value → Shared → Prop} (hit : IsRt s.heap it t ((items.size : Int) - 1)) (ht : PyProof.Rows.IsTup s.heap t items) (hsz : (items.size : Int) < 2 ^ 62)
    (hQ : ∀ tk u, Q (.int (items.size : Int) u) { s with toks := tk }) : wpAny (model prog w) A (call (.builtin "reversed.__length_hint__") [.ref it]) Q E s := by
  obtain ⟨o, ho, hc, hd⟩ := id hit
  refine wpAny_call_entry pd_slot_hint hit.typeIs pd_entry_hint ?_ (pd_args_hint _)
  unfold Builtin.«reversed.__length_hint__»
  refine wpAny_bind (wpAny_of_eq (a := Value.ref it) rfl ?_)
  refine wpAny_bind (wpAny_field ho hd (x := .ref t) rfl ?_)
  rw [if_neg (show ¬ ((Value.ref t == Value.none) = true) from by simp)]
  refine wpAny_bind (PyProof.Rows.len_tuple ht (by omega) ?_)
  refine wpAny_bind (wpAny_of_eq (a := some ((items.size : Nat) : Int)) rfl ?_)
  try dsimp only
  refine wpAny_bind (wpAny_field (s := { s with toks := s.toks + 1 + 1 }) ho hd (x := rawInt ((items.size : Int) - 1)) rfl ?_)
  show wpAny _ _ (if ((items.size : Nat) : Int) < ((items.size : Int) - 1) + 1 then _ else _) _ _ _
  rw [if_neg (by omega)]
  have e : ((items.size : Int) - 1) + 1 = (items.size : Int) := by omega
  rw [e]
  unfold retInt
  refine wpAny_bind (wpAny_mkInt (wpAny_pure ⟨_, rfl, hQ _ _⟩))
theorem pd_hint_rtQ {it t : Addr} {items : Array Value} {Q : Bool → Shared → Prop} (hit : IsRt s.heap it t ((items.size : Int) - 1)) (ht : PyProof.Rows.IsTup s.heap t items) (hsz : items.size ≤ 2 ^ 24)
    (hQ : ∀ tk, Q ((items.size : Int) != 0) { s with toks := tk }) : wpAny (model prog w) A (Builtin.List.listLengthHint (.ref it)) Q E s := by
  have hT2 := hit.typeIs
  unfold Builtin.List.listLengthHint
  refine wpAny_bind (wpAny_specialOf hT2 pd_nolen_rt ?_)
  show wpAny _ _ (specialOf (Value.ref it) (Str.ofString "__length_hint__") >>= _) _ _ _
  refine wpAny_bind (wpAny_specialOf hT2 pd_hint_rt ?_)
  generalize hid : ("reversed.__length_hint__" : String) = id0
  wp_delta
  rw [show splitId id0 = some ("reversed", "__length_hint__") from by subst hid; decide +kernel]
  subst hid
  refine wpAny_bind (wpAny_isInstance (b := true) hT2 (by rw [isSubtype_type]; kernel_rfl) ?_)
  refine wpAny_ite_split (fun hab => absurd hab (by decide)) (fun _ => ?_)
  refine wpAny_ite_split (fun hab => absurd hab (by decide +kernel)) (fun _ => ?_)
  refine wpAny_bind (wpAny_rule ?_)
  simp only [pd_slot_hint.bind]
  refine wpAny_bind (wpAny_pure ?_)
  try dsimp only
  refine wpAny_bind (wpAny_attempt (pd_hint_call hit ht (by omega) fun tk u => ?_))
  dsimp only
  have hai : asInt? (Value.int ((items.size : Nat) : Int) u) = pure (some ((items.size : Nat) : Int)) := rfl
  rw [hai, pure_bind]
  dsimp only
  have h1 : (!Builtin.List.listFitsIndex ((items.size : Nat) : Int)) = false := by
    unfold Builtin.List.listFitsIndex
    simp
    omega
  have h2 : Builtin.List.listTooLong (((items.size : Nat) : Int).toNat) = false := by
    unfold Builtin.List.listTooLong
    rw [sizeLine_eq]
    exact decide_eq_false (by omega)
  rw [if_neg (by rw [h1]; decide), if_neg (by omega), if_neg (by rw [h2]; decide)]
  exact wpAny_pure (hQ tk)
/-- list(reversed(t)), the reversed object made -/
theorem pd_list_rt {it t : Addr} {items : Array Value} {Q : Value → Shared → Prop} (hh : A.handled = none) (hit : IsRt s.heap it t ((items.size : Int) - 1)) (ht : PyProof.Rows.IsTup s.heap t items) (hne : t ≠ it) (hn : items.size ≤ sizeLine)
    (hQ : ∀ h' tk acc' c', (∀ b o, b ≠ it → s.heap.get? b = some o → h'.get? b = some o) →
      h'.get? s.heap.objs.size = some { cls := .type "list", dict := none, data := .seq acc' c', slots := #[] } → ItemsOf (fun i v => items[items.size - 1 - i]? = some v) acc' items.size → Q (.ref s.heap.objs.size) { s with heap := h', toks := tk }) :
    wpAny (model prog w) A (call (.type "list") [.ref it]) Q E s := by
  refine callType_codes (Q₁ := fun obj s₁ => obj = .ref s.heap.objs.size ∧ s₁ = { s with heap := s.heap.push { cls := .type "list", data := .seq #[] } }) F.called_list (F.typeCall_list_1 _) F.entry_list_init
    (code_list_new _ ⟨rfl, rfl⟩) fun obj s₁ h₁ => ?_
  obtain ⟨rfl, rfl⟩ := h₁
  have hS : (s.heap.push { cls := .type "list", data := .seq #[] }).get? s.heap.objs.size = some { cls := .type "list", data := .seq #[] } := Heap.get?_push_size _ rfl
  obtain ⟨oi, hoi, hci, hdi⟩ := id hit
  obtain ⟨ot, hot, hct, hdt⟩ := id ht
  have hSi : s.heap.objs.size ≠ it := Nat.ne_of_gt (Heap.lt_size hoi)
  have hSt : s.heap.objs.size ≠ t := Nat.ne_of_gt (Heap.lt_size hot)
  have hSf : s.heap.objs.size ∉ [it, t] := by simp only [List.mem_cons, List.not_mem_nil, or_false, not_or]; exact ⟨hSi, hSt⟩
  have W := (pd_walks_rt (prog := prog) (w := w) (A := A.in1.in1) hh it t hne items hn).toS
  refine ⟨⟨_, hS, rfl⟩, F.args_list_init_2 _ _, ?_⟩
  show wpAny _ _ (do let old ← Builtin.List.listItems (.ref s.heap.objs.size); Builtin.List.listUpdate (.ref s.heap.objs.size) (fun _ => #[]); letGo old.toList.reverse; Builtin.List.listExtendWith (.ref s.heap.objs.size) (.ref it) .none) _ _ _
  refine wpAny_bind ?_
  unfold Builtin.List.listItems
  refine wpAny_bind (wpAny_seqItems hS rfl (wpAny_pure ?_))
  show wpAny _ _ (updateSeq s.heap.objs.size (fun _ => #[]) >>= fun _ => letGo (#[] : Array Value).toList.reverse >>= fun _ => Builtin.List.listExtendWith (.ref s.heap.objs.size) (.ref it) .none) _ _ _
  refine wpAny_bind (wpAny_updateSeq hS rfl ?_)
  have hS₂ := Heap.get?_update_self (Obj.mapSeq (fun _ => (#[] : Array Value))) hS rfl
  have oth : ∀ b o, s.heap.get? b = some o → ((s.heap.push { cls := .type "list", data := .seq #[] }).update s.heap.objs.size (Obj.mapSeq (fun _ => (#[] : Array Value)))).get? b = some o :=
    fun b o e => (Heap.get?_update_other _ _ (Nat.ne_of_gt (Heap.lt_size e))).trans (Heap.get?_push_of_some _ e)
  refine wpAny_bind (wpAny_letGo ?_)
  generalize hs2 : ({ s with heap := (s.heap.push { cls := .type "list", data := .seq #[] }).update s.heap.objs.size (Obj.mapSeq (fun _ => (#[] : Array Value))) } : Shared) = s2
  have h2 : s2.heap = (s.heap.push { cls := .type "list", data := .seq #[] }).update s.heap.objs.size (Obj.mapSeq (fun _ => (#[] : Array Value))) := by rw [← hs2]
  have hit2 : IsRt s2.heap it t ((items.size : Int) - 1) := hit.at fun o e => by rw [h2]; exact oth _ o e
  have ht2 : PyProof.Rows.IsTup s2.heap t items := ⟨ot, by rw [h2]; exact oth _ _ hot, hct, hdt⟩
  have hT2 : s2.TypeIs (.ref it) "reversed" := hit2.typeIs
  have h1 : Builtin.List.listSameRef (.ref s.heap.objs.size) (.ref it) = false := by simp [Builtin.List.listSameRef, hSi]
  unfold Builtin.List.listExtendWith
  refine wpAny_bind (wpAny_typeOf hT2 ?_)
  rw [if_neg (by rw [h1]; decide)]
  refine wpAny_bind (iter_rt hit2 ?_)
  refine wpAny_bind (wpAny_holding ?_)
  refine pd_hint_rtQ hit2 ht2 (by rw [sizeLine_eq] at hn; exact hn) fun tk => ?_
  have key : ∀ (h : Heap) (c₁ tk : Nat), IsRt h it t ((items.size : Int) - 1 - ((0 : Nat) : Int)) → PyProof.Rows.IsTup h t items → (∀ b o, b ≠ s.heap.objs.size → s2.heap.get? b = some o → h.get? b = some o) →
      h.get? s.heap.objs.size = some { cls := .type "list", data := .seq #[] c₁ } → codeAny (model prog w) A.in1 (.builtin "list.extend.loop" ⟨[.ref s.heap.objs.size, .ref it, .none], []⟩) (wants (fun r s' => r = Value.none ∧ Q (.ref s.heap.objs.size) s') E) { s2 with heap := h, toks := tk } := by
    intro h c₁ tk hi1 ht1 hk hS₁
    refine codeAny_extend_loopS W hn _ hSf _ items.size 0 _ #[] c₁ rfl (Nat.zero_le _) ⟨Nat.zero_le _, hi1, ht1⟩ hS₁ (ItemsOf.nil _) fun s' acc' c' hm hS' hacc => ?_
    rw [Moved.eq_with hm]
    refine ⟨rfl, ?_⟩
    have z := hQ s'.heap s'.toks acc' c' (fun b o hb e => hm.heap b o (fun hmem => ?_) (hk b o (Nat.ne_of_lt (Heap.lt_size e)) (by rw [h2]; exact oth b o e))) hS' hacc
    · rw [← hs2]
      exact z
    · rcases List.mem_cons.mp hmem with e' | hmem
      · exact absurd (Heap.lt_size e) (by rw [e']; exact Nat.lt_irrefl _)
      · exact hb (List.mem_singleton.mp hmem)
  have e0 : ((items.size : Nat) : Int) - 1 - ((0 : Nat) : Int) = (items.size : Int) - 1 := by omega
  have hS3 : s2.heap.get? s.heap.objs.size = some { cls := .type "list", data := .seq #[] 0 } := by rw [h2]; exact hS₂
  refine wpAny_ite_split (fun _ => ?_) (fun _ => wpAny_pure ⟨plainId_quiet F.plain_extend_loop _, key s2.heap _ tk (by rw [e0]; exact hit2) ht2 (fun b o _ e => e) hS3⟩)
  refine wpAny_bind (wpAny_rule ?_)
  refine wpAny_bind ?_
  show wpAny _ _ (updateSeq s.heap.objs.size (·.push .none) >>= fun _ => updateSeq s.heap.objs.size (·.pop)) _ _ _
  refine wpAny_bind (wpAny_updateSeq (s := { s2 with toks := tk }) hS3 rfl ?_)
  have hS4 := Heap.get?_update_self (Obj.mapSeq (·.push Value.none)) hS3 rfl
  refine wpAny_updateSeq (hz := by seq_fits) hS4 rfl ?_
  have hS5 := Heap.get?_update_self (Obj.mapSeq (·.pop)) hS4 rfl
  have kk : ∀ b o, b ≠ s.heap.objs.size → s2.heap.get? b = some o → ((s2.heap.update s.heap.objs.size (Obj.mapSeq (·.push Value.none))).update s.heap.objs.size (Obj.mapSeq (·.pop))).get? b = some o :=
    fun b o hb e => (Heap.get?_update_other _ _ (Ne.symm hb)).trans ((Heap.get?_update_other _ _ (Ne.symm hb)).trans e)
  exact wpAny_pure ⟨plainId_quiet F.plain_extend_loop _, key _ _ tk (by rw [e0]; exact hit2.at fun o e => kk _ o (Ne.symm hSi) e) (let ⟨o, ho, r⟩ := ht2; ⟨o, kk _ _ (Ne.symm hSt) ho, r⟩) kk hS5⟩
end
end PySem
namespace Pd
open PySem PySem.Spec PyProof.Rows L2 RT
section
variable {X : Cx}
/-- list(reversed(t)), t a tuple -/
def tListRevT (K : PySem.W.Frag) (te : TE) : TE := fun σ H Q => te σ H fun v H1 => ∃ (a : Addr) (xs : List V), v = .ref a ∧ SqT K H1 a xs ∧ ∀ q, H1 q = none → Q (.ref q) (upd H1 q (.lst xs.reverse))
theorem pe_listRevT {e : Expr} {te : TE} {p p2 pos pos2 : Pos} (hc : X.calm = true) (hg : Gl X "list") (hm : X.mg "list" = none) (hg2 : Gl X "reversed") (hm2 : X.mg "reversed" = none) (he : PE X e te)
    (hs : starEach [e] X.env = (false, eval e X.env) :: starEach [] X.env := by rfl)
    (hs2 : starEach [.Call (.Name "reversed" p2) [e] [] pos2] X.env = (false, eval (.Call (.Name "reversed" p2) [e] [] pos2) X.env) :: starEach [] X.env := by rfl) :
    PE X (.Call (.Name "list" p) [.Call (.Name "reversed" p2) [e] [] pos2] [] pos) (tListRevT X.K te) := by
  refine ⟨fun pins s σ H Q I h => ?_⟩
  refine Call_ (ld_blt I hg hm bt_list (PyProof.Rows.callWith_type1 (args_cons (Call_ (ld_blt I hg2 hm2 PyProof.Rows.boot_reversed (PyProof.Rows.callWith_type1 (args_cons (thn (he.run pins s σ H _ I h) fun u s1 ⟨v, H1, I1, r1, q1⟩ => args_nil ?_) hs) hs rfl))) hs2) hs2 rfl))
  obtain ⟨a, xs, ev, hq, q⟩ := q1
  subst ev
  obtain rfl : u = Value.ref a := r1
  obtain ⟨its, rv, p', hz⟩ := I1.tuple hq
  have hl := rv.length
  have hn := line63
  have hsl := sizeLine_eq
  have hsz : its.toArray.size ≤ sizeLine := by rw [List.size_toArray, ← hl]; exact hz
  refine call_reversed_tup p' (fun A E Q k => PyProof.Rows.len_tuple p' (by simp only [List.size_toArray] <;> omega) k) (args_nil ?_)
  generalize hs3 : ({ s1 with heap := s1.heap.push (rtObj a ((its.toArray.size : Int) - 1)), toks := s1.toks + 1 + 1 } : Shared) = s3
  have h3 : s3.heap = s1.heap.push (rtObj a ((its.toArray.size : Int) - 1)) := by rw [← hs3]
  have k0 : ∀ b o, s1.heap.get? b = some o → s3.heap.get? b = some o := fun b o e => by rw [h3]; exact Heap.get?_push_of_some _ e
  have I2 : Inv X pins σ H1 s3 := by
    rw [← hs3]
    exact I1.kept (t' := s1.toks + 1 + 1) fun b o e => Heap.get?_push_of_some _ e
  obtain ⟨f0, f1, f2, f3, f4, f5⟩ := I1.fpOk (H' := H1) (b := s1.heap.objs.size) (Nat.le_refl _) (I1.hok.fresh (Nat.le_refl _))
  obtain ⟨o, ho, hc', hd⟩ := id p'
  have hne : a ≠ s1.heap.objs.size := Nat.ne_of_lt (Heap.lt_size ho)
  have sz3 : s3.heap.objs.size = s1.heap.objs.size + 1 := by rw [h3, Heap.size_push]
  have hpush : s3.heap.get? s1.heap.objs.size = some (rtObj a ((its.toArray.size : Int) - 1)) := by rw [h3]; exact Heap.get?_push_size _ rfl
  refine pd_list_rt (I1.ok.hd hc) ⟨_, hpush, rfl, rfl⟩ ⟨o, k0 _ _ ho, hc', hd⟩ hne hsz fun h' tk acc c' hk hS hi => ?_
  have I3 : Inv X pins σ H1 { s3 with heap := h', toks := tk } := I2.turned (t' := tk) (fun b o hb e => hk b o hb e) f0 f1 f3 f4 f5
  have rr := vals_rev rv hi
  have hf : H1 s3.heap.objs.size = none := I2.hok.fresh (Nat.le_refl _)
  -- the new list is tracked
  refine ⟨.ref s3.heap.objs.size, upd H1 s3.heap.objs.size (.lst xs.reverse), ?_, rfl, q _ hf⟩
  have new : ObjOk X.prog X.w (upd H1 s3.heap.objs.size (.lst xs.reverse)) h' s3.heap.objs.size (.lst xs.reverse) := ⟨by rw [List.length_reverse]; exact hz, acc.toList, c', rr, by rw [Array.toArray_toList]; exact hS⟩
  have nS : s3.heap.objs.size ≠ s1.heap.objs.size := by rw [sz3]; exact Nat.succ_ne_self _
  have neS : ∀ b o, s3.heap.get? b = some o → b ≠ s3.heap.objs.size := fun b o e => Nat.ne_of_lt (Heap.lt_size e)
  refine I2.step (g' := s3.gens) (d' := s3.drawn) (t' := tk) (ch := [s1.heap.objs.size]) (fun b hb => ?_) (fun b o _ _ hc e _ => hk b o (fun z => hc (by simp [z])) e) (fun b o _ _ hc e _ => ⟨o.slots, hk b o (fun z => hc (by simp [z])) e⟩)
    (fun b o hc e n => by rw [upd_ne (neS b o e)]; exact n) (fun b o hc e => ⟨o, hk b o (fun z => hc (by simp [z])) e⟩) (fun b xs e => by rw [upd_ne (ne_of_none e hf)]; exact e) (fun b o u e => by rw [upd_ne (ne_of_none e hf)]; exact e) (fun b ps e => ⟨#[], by rw [upd_ne (ne_of_none e hf), e]; simp⟩) (fun m hm => ?_) (fun b u e => ?_) I2.bare
  · have e : b = s1.heap.objs.size := by simpa using hb
    subst e
    exact ⟨f3, f1, f4, f5⟩
  · obtain ⟨ob, es, ep, ho, r⟩ := hm
    exact ⟨ob, es, ep, hk _ ob (Ne.symm f1) ho, r⟩
  · by_cases hb : b = s3.heap.objs.size
    · subst hb
      rw [upd_same] at e
      cases e
      exact new
    · rw [upd_ne hb] at e
      have I3k := I3.hok b u e
      exact I3k.stay (fun c v _ q => q) (fun c q => by rw [upd_ne (ne_of_none q hf)]; exact q) fun c xs q => by rw [upd_ne (ne_of_none q hf)]; exact q
end
def eListRev (F : EF) : EF := fun ρ => (F ρ).bind fun d => match d with
  | .tuple ds => .ok (.list ds.reverse)
  | _ => .stuck
theorem RpL.reverse {K : PySem.W.Frag} {H : Hp} : ∀ {xs : List V} {ds : List D} {F : List Addr}, RpL K H xs ds F → ∃ G, RpL K H xs.reverse ds.reverse G ∧ (∀ b ∈ G, b ∈ F) ∧ (F.Nodup → G.Nodup)
  | _, _, _, .nil => ⟨[], .nil, fun _ h => h, fun h => h⟩
  | _, _, _, @RpL.cons _ _ v vs d ds F G r t => by
    obtain ⟨G', r', m, nd⟩ := RpL.reverse t
    rw [List.reverse_cons, List.reverse_cons]
    refine ⟨G' ++ (F ++ []), r'.append (.cons r .nil), fun b hb => ?_, fun h => ?_⟩
    · rw [List.append_nil] at hb
      rcases List.mem_append.mp hb with z | z
      · exact List.mem_append_right _ (m b z)
      · exact List.mem_append_left _ z
    · obtain ⟨n1, n2, n3⟩ := List.nodup_append.mp h
      rw [List.append_nil]
      exact List.nodup_append.mpr ⟨nd n2, n1, fun a ha b hb e => n3 b hb a (m a ha) e.symm⟩
section
variable {X : Cx} {C : Cc} {W : WX} {O : Own} {e : Expr} {k : Nat} {F : EF} {p p2 pos pos2 : Pos}
theorem ev_listRev (hc : X.calm = true) (hg : Gl X "list") (hm : X.mg "list" = none) (hg2 : Gl X "reversed") (hm2 : X.mg "reversed" = none) (he : EV X C W O e k F)
    (hs : starEach [e] X.env = (false, eval e X.env) :: starEach [] X.env := by rfl)
    (hs2 : starEach [.Call (.Name "reversed" p2) [e] [] pos2] X.env = (false, eval (.Call (.Name "reversed" p2) [e] [] pos2) X.env) :: starEach [] X.env := by rfl) :
    EV X C W O (.Call (.Name "list" p) [.Call (.Name "reversed" p2) [e] [] pos2] [] pos) k (eListRev F) := (pe_listRevT hc hg hm hg2 hm2 he hs hs2).imp fun σ H Q ⟨ρ, Fs, er, q⟩ => by
  refine tD.step er (Sat.bind q) fun d v H1 F1 p er1 x1 r1 kd1 => ?_
  cases r1 with
  | @tup a xs ds _ s r =>
    refine ⟨a, xs, rfl, s.sq, fun l hl => ?_⟩
    obtain ⟨G, r', m, nd⟩ := r.reverse
    have x2 : Ex C.T H1 (upd H1 l (.lst xs.reverse)) := .new hl
    refine p _ _ (l :: G) (x1.trans x2) (.lst upd_same (r'.ex x2)) (kd1.mix1 x1 ⟨fun b hb => ?_, fun h => ?_⟩)
    · rcases List.mem_cons.mp hb with z | z
      · exact .inr (by rw [z]; exact hl)
      · exact .inl (m b z)
    · exact List.nodup_cons.mpr ⟨fun z => r.nn l (m l z) hl, nd h⟩
  | _ => exact p.elim
end
end Pd
namespace Pd
open PySem PySem.Spec PyProof.Rows L2 GxR
/-! ### small help for the derivations -/
theorem u64 {k : Nat} {A : Around} (r : Room k A) : A.units + 64 < cLine := r.units
theorem u65 {k : Nat} {A : Around} (r : Room k A) : A.units + 65 < cLine := by have := r.un; omega
/-- the built-in names, not bound by the program -/
structure Bt (mg : Str → Option Value) : Prop where
  len : mg "len" = none
  abs : mg "abs" = none
  all : mg "all" = none
  any : mg "any" = none
  max : mg "max" = none
  min : mg "min" = none
  sum : mg "sum" = none
  sorted : mg "sorted" = none
  isinstance : mg "isinstance" = none
  int : mg "int" = none
  str : mg "str" = none
  bool : mg "bool" = none
  tuple : mg "tuple" = none
  list : mg "list" = none
  dict : mg "dict" = none
  range : mg "range" = none
  reversed : mg "reversed" = none
  enumerate : mg "enumerate" = none
def btNames : List Str := ["len", "abs", "all", "any", "max", "min", "sum", "sorted", "isinstance", "int", "str", "bool", "tuple", "list", "dict", "range", "reversed", "enumerate"]
theorem bt_of {mg : Str → Option Value} (h : ∀ x ∈ btNames, mg x = none) : Bt mg :=
  ⟨h _ (by decide +kernel), h _ (by decide +kernel), h _ (by decide +kernel), h _ (by decide +kernel), h _ (by decide +kernel), h _ (by decide +kernel), h _ (by decide +kernel), h _ (by decide +kernel), h _ (by decide +kernel),
    h _ (by decide +kernel), h _ (by decide +kernel), h _ (by decide +kernel), h _ (by decide +kernel), h _ (by decide +kernel), h _ (by decide +kernel), h _ (by decide +kernel), h _ (by decide +kernel), h _ (by decide +kernel)⟩
/-- the names of a block -/
def blkB (N : List Str) (sc scope : Scope) (own : List (Str × Nat)) : Bool :=
  decide (scope.kind = .function) && scope.names.all (fun y => decide (scope.names.lookup y.1 = some y.2)) && own.all (fun p => decide (N[p.2]? = some p.1)) &&
    scope.names.all (fun y => !decide (y.2 = .free) || (decide (sc.names.lookup y.1 = some .cell) || decide (sc.names.lookup y.1 = some .free))) &&
    scope.names.all (fun y => !(decide (y.2 = .local) || decide (y.2 = .cell)) || ((own.map (·.1)).contains y.1 || !N.contains y.1))
theorem blk {N : List Str} {sc scope : Scope} {own : List (Str × Nat)} (h : blkB N sc scope own = true) : BlkOk N sc scope own := by
  unfold blkB at h
  simp only [Bool.and_eq_true] at h
  obtain ⟨⟨⟨⟨h1, h2⟩, h3⟩, h4⟩, h5⟩ := h
  refine ⟨of_decide_eq_true h1, fun y hy => of_decide_eq_true (List.all_eq_true.mp h2 y hy), fun p hp => of_decide_eq_true (List.all_eq_true.mp h3 p hp), fun y hy e => ?_, fun y hy e => ?_⟩
  · have := List.all_eq_true.mp h4 y hy
    rw [decide_eq_true e] at this
    simp only [Bool.not_true, Bool.false_or, Bool.or_eq_true, decide_eq_true_eq] at this
    exact this
  · have := List.all_eq_true.mp h5 y hy
    have e2 : (decide (y.2 = .local) || decide (y.2 = .cell)) = true := by
      rcases e with e | e <;> simp [e]
    rw [e2] at this
    simp only [Bool.not_true, Bool.false_or, Bool.or_eq_true, Bool.not_eq_true'] at this
    rcases this with z | z
    · exact .inl (by simpa using z)
    · exact .inr (by simpa using z)
def genB (scope : Scope) : Bool := !scope.isCoroutine && scope.names.all (fun y => !decide (y.2 = .cell)) && decide (scope.names.lookup (".0" : Str) = some NameKind.local)
theorem genk {scope : Scope} (h : genB scope = true) : GenOk scope := by
  unfold genB at h
  simp only [Bool.and_eq_true, Bool.not_eq_true'] at h
  obtain ⟨⟨h1, h2⟩, h3⟩ := h
  refine ⟨h1, fun y hy e => ?_, of_decide_eq_true h3⟩
  have := List.all_eq_true.mp h2 y hy
  rw [decide_eq_true e] at this
  cases this
theorem nxN {i : Nat} : ∀ ρ d, NoX (gN i ρ d) := fun _ _ => noxO
theorem nxNil : ∀ ρ d, NoX (gNilD ρ d) := fun ρ d => by unfold gNilD; split <;> first | exact noxO | exact noxS
theorem nxCons {g : Env → D → R Env} {h : Env → List D → R Env} (a : ∀ ρ d, NoX (g ρ d)) (b : ∀ ρ d, NoX (h ρ d)) : ∀ ρ d, NoX (gConsD g h ρ d) := fun ρ d => by
  unfold gConsD; split
  · exact bind_nox (a _ _) fun _ => b _ _
  · exact noxS
theorem nxTup {h : Env → List D → R Env} (b : ∀ ρ d, NoX (h ρ d)) : ∀ ρ d, NoX (gTupD h ρ d) := fun ρ d => by
  unfold gTupD; split
  · exact b _ _
  · exact noxS
/-! what is always without lists and dicts -/
theorem im_fun {g : List D → R D} (h : ∀ ds d, g ds = .ok d → imm d = true) {L : Env → R (List D)} : ∀ ρ d, eFun g L ρ = .ok d → imm d = true := fun ρ d e => by
  unfold eFun at e
  cases e1 : L ρ with
  | ok ds => rw [e1] at e; exact h ds d e
  | exc c => rw [e1] at e; cases e
  | stuck => rw [e1] at e; cases e
theorem im_bin {g : D → D → R D} (h : ∀ x y d, g x y = .ok d → imm d = true) {F G : EF} : ∀ ρ d, eBin g F G ρ = .ok d → imm d = true := fun ρ d e => by
  unfold eBin at e
  cases e1 : F ρ with
  | ok x =>
    rw [e1, R.bind_ok] at e
    cases e2 : G ρ with
    | ok y => rw [e2] at e; exact h x y d e
    | exc c => rw [e2] at e; cases e
    | stuck => rw [e2] at e; cases e
  | exc c => rw [e1] at e; cases e
  | stuck => rw [e1] at e; cases e
theorem im_len : ∀ ds d, lenD ds = .ok d → imm d = true := fun ds d e => by
  unfold lenD at e
  split at e <;> first | (cases e; rfl) | (split at e <;> first | (cases e; rfl) | cases e) | cases e
theorem im_abs : ∀ ds d, absD ds = .ok d → imm d = true := fun ds d e => by
  unfold absD at e
  split at e <;> first | (cases e; rfl) | cases e
theorem im_max2 : ∀ ds d, max2D ds = .ok d → imm d = true := fun ds d e => by
  unfold max2D at e
  split at e <;> first | (cases e; rfl) | cases e
theorem im_min2 : ∀ ds d, min2D ds = .ok d → imm d = true := fun ds d e => by
  unfold min2D at e
  split at e <;> first | (cases e; rfl) | cases e
theorem im_int : ∀ ds d, intD ds = .ok d → imm d = true := fun ds d e => by
  unfold intD at e
  split at e <;> first | (cases e; rfl) | cases e
theorem im_sub : ∀ x y d, subD x y = .ok d → imm d = true := fun x y d e => by
  unfold subD at e
  split at e <;> first | (cases e; rfl) | cases e
theorem im_mod : ∀ x y d, modD x y = .ok d → imm d = true := fun x y d e => by
  unfold modD at e
  split at e <;> first | (split at e <;> first | (cases e; rfl) | cases e) | cases e
theorem im_fdiv : ∀ x y d, fdivD x y = .ok d → imm d = true := fun x y d e => by
  unfold fdivD at e
  split at e <;> first | (split at e <;> first | (cases e; rfl) | cases e) | cases e
theorem im_pow : ∀ x y d, powD x y = .ok d → imm d = true := fun x y d e => by
  unfold powD at e
  split at e <;> first | (split at e <;> first | (cases e; rfl) | cases e) | cases e
theorem im_eq : ∀ x y d, eqD x y = .ok d → imm d = true := fun x y d e => by
  unfold eqD at e
  split at e <;> first | (cases e; rfl) | cases e
theorem im_ne : ∀ x y d, neD x y = .ok d → imm d = true := fun x y d e => by
  unfold neD at e
  split at e <;> first | (cases e; rfl) | cases e
theorem im_lt : ∀ x y d, ltD x y = .ok d → imm d = true := fun x y d e => imm_lt e
theorem im_le : ∀ x y d, leD x y = .ok d → imm d = true := fun x y d e => imm_le e
theorem im_gt : ∀ x y d, gtD x y = .ok d → imm d = true := fun x y d e => by
  unfold gtD at e
  split at e <;> first | (cases e; rfl) | cases e
theorem im_ge : ∀ x y d, geD x y = .ok d → imm d = true := fun x y d e => by
  unfold geD at e
  split at e <;> first | (cases e; rfl) | cases e
theorem im_notD {r : R D} {d : D} (e : notD r = .ok d) : imm d = true := by
  unfold notD at e
  cases r with
  | ok z => cases z <;> first | (cases e; rfl) | cases e
  | exc c => cases e
  | stuck => cases e
theorem im_is : ∀ x y d, isD x y = .ok d → imm d = true := fun x y d e => by
  unfold isD at e
  split at e <;> first | (cases e; rfl) | cases e
theorem im_isNot : ∀ x y d, isNotD x y = .ok d → imm d = true := fun x y d e => im_notD e
theorem im_in : ∀ x y d, inD x y = .ok d → imm d = true := fun x y d e => by
  unfold inD at e
  split at e <;> first | (cases e; rfl) | (split at e <;> first | (cases e; rfl) | cases e) | cases e
theorem im_notIn : ∀ x y d, notInD x y = .ok d → imm d = true := fun x y d e => im_notD e
def eNeg (F : EF) : EF := fun ρ => (F ρ).bind fun d => match d with
  | .int i => .ok (.int (-i))
  | _ => .stuck
section
variable {X : Cx} {C : Cc} {W : WX} {Ob O O1 O' : Own} {e : Expr} {k : Nat} {F : EF} {pos : Pos} {st : Stmt} {G : Env → RS}
theorem ev_neg (h : EV X C W O e k F) : EV X C W O (.UnaryOp .USub e pos) 0 (eNeg F) := (pe_un un_neg h).imp fun σ H Q ⟨ρ, Fs, er, q⟩ => by
  refine tD.step er (Sat.bind q) fun d v H1 F1 p er1 x1 r1 kd1 => ?_
  cases d with
  | int i => cases r1; exact ⟨i, rfl, p _ H1 [] x1 (.int _) .nil⟩
  | _ => exact p.elim
theorem sv_preless (h : SV X C W Ob O1 O' st G) (hs : ∀ i ∈ O1, i ∈ O := by decide) : SV X C W Ob O O' st G := h.imp fun D σ H ⟨ρ, Fs, er, q⟩ => ⟨ρ, Fs, er.less hs, q⟩
end
/-! ### the end -/
theorem lawAt {l : PySem.W.OpenLaw} {w : World} {K : PySem.W.Frag} {mg : Str → Option Value} {h : Heap} {k n : Nat} {tf : List He.Defn} {F : List D → R D} {fd : FuncData} {fa : Addr} (KX : K.In h)
    (hd : ∀ p ∈ tf, PySem.W.codeHdIn K (He.cT K p).1 (He.cT K p).2 = true) (out : ∀ p ∈ tf, K.lookup (He.cT K p).2 = none) (em : ∀ p ∈ tf, h.get? (He.cT K p).2 = some { cls := .none, data := .fields #[] })
    (hb : ∀ (s : Shared) (u : Value), BindsTo s fd ⟨[u], []⟩ [("script", u)])
    (hF : ∀ base : Heap, K.In base → base.Ns mainGlobals mg → (∀ p ∈ tf, TabB base mg (He.cT K p).1 (He.cT K p).2) → FnOk l.prog w K mg base (L2.CX l.prog w) k fa fd ["script"] (spD K (tf.map fun p => (He.cT K p).2) 1 F))
    (plain : ∀ (ns : List Int) (d : D), ns.length ≤ n → (d = .list (ns.map .int) ∨ d = .dict [(.none, .tuple (ns.map .int))]) → F [d] = .ok (.bool true)) : LamX.LawAtS l w K (L2.CX l.prog w) k n "script" mg fa h := by
  have mem : ∀ q ∈ tf.map (He.cT K), ∃ p ∈ tf, He.cT K p = q := fun q hq => by
    obtain ⟨p, hp, e⟩ := List.mem_map.mp hq
    exact ⟨p, hp, e⟩
  refine ⟨fd, tf.map (He.cT K), spD K (tf.map fun p => (He.cT K p).2) 1 F, fun q hq => ?_, fun q hq => ?_, fun q hq => ?_, hb, fun H a ns hn hbits ht hS => ?_, fun base hK hg hT => hF base hK hg fun p hp => let t := hT _ (List.mem_map.mpr ⟨p, hp, rfl⟩); ⟨t.code, t.bm, t.gP⟩⟩
  · obtain ⟨p, hp, rfl⟩ := mem q hq; exact em p hp
  · obtain ⟨p, hp, rfl⟩ := mem q hq; exact out p hp
  · obtain ⟨p, hp, rfl⟩ := mem q hq
    exact PySem.W.codeHd_of_K KX (hd p hp)
  · have hin : RpL K H (ns.map V.int) (ns.map PyData.int) [] := by
      clear hn hS hbits
      induction ns with
      | nil => exact .nil
      | cons i ns ih => exact .cons (F := []) (G := []) (.int i) ih
    have key : ∀ (d : D) (FA : List Addr), Rp K H (.ref a) d FA → (d = .list (ns.map .int) ∨ d = .dict [(.none, .tuple (ns.map .int))]) → spD K (tf.map fun p => (He.cT K p).2) 1 F [.ref a] H (fun v _ => v = .bl true) fun _ _ _ => False := fun d FA r hd => by
      refine ⟨rfl, [d], FA ++ [], .cons r .nil, fun P hP => ?_, ?_⟩
      · obtain ⟨p, hp, rfl⟩ := List.mem_map.mp hP
        exact ⟨#[], ht _ (List.mem_map.mpr ⟨p, hp, rfl⟩), trivial⟩
      · rw [plain ns d hn hd]
        intro v H' F' x r _ _
        cases r
        rfl
    rcases hS with (hS | ⟨o, hS⟩) | hS
    · exact key _ _ (.lst hS hin) (.inl rfl)
    · exact key _ _ (.ro (.inl ⟨o, hS⟩) hin) (.inr rfl)
    · exact key _ _ (.ro (.inr hS) hin) (.inr rfl)
end Pd
namespace Pd
open PySem PySem.Spec PyProof.Rows L2
open Pd (D Env)
/-! ### data of a bounded depth -/
def Sh (n : Nat) (d : D) : Prop := d.canLay0 = true ∧ d.depth ≤ n
theorem Sh.shp {n : Nat} {d : D} (h : Sh n d) (hn : n ≤ 64 := by decide) : shp d = true := by
  unfold Pd.shp SeqAt.shaped
  rw [h.1, decide_eq_true (Nat.le_trans h.2 hn)] <;> rfl
theorem Sh.le {n m : Nat} {d : D} (h : Sh n d) (hn : n ≤ m := by decide) : Sh m d := ⟨h.1, Nat.le_trans h.2 hn⟩
theorem sh_int {n : Nat} {i : Int} : Sh n (.int i) := ⟨by unfold PyData.canLay0; rfl, by unfold PyData.depth; exact Nat.zero_le _⟩
theorem sh_none {n : Nat} : Sh n .none := ⟨by unfold PyData.canLay0; rfl, by unfold PyData.depth; exact Nat.zero_le _⟩
theorem sh_bool {n : Nat} {b : Bool} : Sh n (.bool b) := ⟨by unfold PyData.canLay0; rfl, by unfold PyData.depth; exact Nat.zero_le _⟩
theorem sh_all {n : Nat} : ∀ {xs : List D}, (∀ x ∈ xs, Sh n x) → PyData.canLayAll0 xs = true ∧ PyData.depthAll xs ≤ n
  | [], _ => ⟨by unfold PyData.canLayAll0; rfl, by unfold PyData.depthAll; exact Nat.zero_le _⟩
  | x :: xs, h => by
    obtain ⟨a, b⟩ := sh_all (xs := xs) fun y hy => h y (List.mem_cons_of_mem _ hy)
    obtain ⟨c, d⟩ := h x List.mem_cons_self
    unfold PyData.canLayAll0 PyData.depthAll
    exact ⟨by rw [a, c] <;> rfl, Nat.max_le.mpr ⟨d, b⟩⟩
theorem sh_tup {n : Nat} {xs : List D} (h : ∀ x ∈ xs, Sh n x) : Sh (n + 1) (.tuple xs) := by
  obtain ⟨a, b⟩ := sh_all h
  exact ⟨by unfold PyData.canLay0; exact a, by unfold PyData.depth; exact Nat.succ_le_succ b⟩
theorem sh_list {n : Nat} {xs : List D} (h : ∀ x ∈ xs, Sh n x) : Sh (n + 1) (.list xs) := by
  obtain ⟨a, b⟩ := sh_all h
  exact ⟨by unfold PyData.canLay0; exact a, by unfold PyData.depth; exact Nat.succ_le_succ b⟩
theorem sh_ints {L : List Int} : ∀ x ∈ L.map PyData.int, Sh 0 x := fun x hx => by
  obtain ⟨i, _, rfl⟩ := List.mem_map.mp hx
  exact sh_int
theorem sh_tI {L : List Int} : Sh 1 (.tuple (L.map .int)) := sh_tup sh_ints
theorem sh_lI {L : List Int} : Sh 1 (.list (L.map .int)) := sh_list sh_ints
/-! ### equality -/
mutual
theorem eqv_refl : ∀ d : D, d.canLay0 = true → PyData.eqv d d = true
  | .none, _ => by unfold PyData.eqv; rfl
  | .bool b, _ => by unfold PyData.eqv; exact beq_self_eq_true b
  | .int i, _ => by unfold PyData.eqv; exact beq_self_eq_true i
  | .str x, _ => by unfold PyData.eqv; exact beq_self_eq_true x
  | .list xs, h => by unfold PyData.eqv; exact eqvAll_refl xs (by unfold PyData.canLay0 at h; exact h)
  | .tuple xs, h => by unfold PyData.eqv; exact eqvAll_refl xs (by unfold PyData.canLay0 at h; exact h)
  | .dict _, h => by unfold PyData.canLay0 at h; cases h
theorem eqvAll_refl : ∀ xs : List D, PyData.canLayAll0 xs = true → PyData.eqvAll xs xs = true
  | [], _ => by unfold PyData.eqvAll; rfl
  | x :: xs, h => by
    unfold PyData.canLayAll0 at h
    obtain ⟨a, b⟩ := Bool.and_eq_true_iff.mp h
    unfold PyData.eqvAll
    rw [eqv_refl x a, eqvAll_refl xs b] <;> rfl
end
@[simp] theorem eqv_int (i j : Int) : PyData.eqv (.int i) (.int j) = decide (i = j) := by
  unfold PyData.eqv
  by_cases h : i = j <;> simp [h]
theorem eqvAll_ints : ∀ L M : List Int, PyData.eqvAll (L.map .int) (M.map .int) = decide (L = M)
  | [], [] => by simp [PyData.eqvAll]
  | [], _ :: _ => by simp [PyData.eqvAll]
  | _ :: _, [] => by simp [PyData.eqvAll]
  | x :: xs, y :: ys => by
    simp only [List.map_cons, PyData.eqvAll, eqv_int, eqvAll_ints xs ys, List.cons.injEq]
    by_cases h : x = y <;> by_cases g : xs = ys <;> simp [h, g]
theorem eqD_same {n : Nat} {d : D} (h : Sh n d) (hn : n ≤ 64 := by decide) : eqD d d = .ok (.bool true) := by
  unfold eqD
  rw [if_pos ⟨h.shp hn, h.shp hn⟩, eqv_refl d h.1]
theorem neD_same {n : Nat} {d : D} (h : Sh n d) (hn : n ≤ 64 := by decide) : neD d d = .ok (.bool false) := by
  unfold neD
  rw [if_pos ⟨h.shp hn, h.shp hn⟩, eqv_refl d h.1]
  rfl
@[simp] theorem shp_int (i : Int) : shp (.int i) = true := (sh_int (n := 0)).shp
@[simp] theorem shp_none : shp .none = true := (sh_none (n := 0)).shp
@[simp] theorem shp_bool (b : Bool) : shp (.bool b) = true := (sh_bool (n := 0)).shp
@[simp] theorem shp_tI (L : List Int) : shp (.tuple (L.map .int)) = true := sh_tI.shp
@[simp] theorem shp_lI (L : List Int) : shp (.list (L.map .int)) = true := sh_lI.shp
@[simp] theorem eqD_int (i j : Int) : eqD (.int i) (.int j) = .ok (.bool (decide (i = j))) := by
  unfold eqD
  rw [if_pos ⟨shp_int i, shp_int j⟩, eqv_int]
@[simp] theorem neD_int (i j : Int) : neD (.int i) (.int j) = .ok (.bool (!decide (i = j))) := by
  unfold neD
  rw [if_pos ⟨shp_int i, shp_int j⟩, eqv_int]
theorem any_int (L : List Int) (i : Int) : ((L.map PyData.int).any fun z => PyData.eqv z (.int i)) = decide (i ∈ L) := by
  induction L with
  | nil => simp
  | cons x xs ih =>
    rw [List.map_cons, List.any_cons, ih, eqv_int]
    by_cases h : x = i <;> by_cases g : i ∈ xs <;> simp [h, g, eq_comm]
    exact fun e => h e.symm
@[simp] theorem inD_tI (L : List Int) (i : Int) : inD (.int i) (.tuple (L.map .int)) = .ok (.bool (decide (i ∈ L))) := by
  show (if shp (.int i) = true ∧ shp (.tuple (L.map .int)) = true then R.ok (PyData.bool ((L.map PyData.int).any fun z => PyData.eqv z (.int i))) else .stuck) = _
  rw [if_pos ⟨shp_int i, shp_tI L⟩, any_int]
@[simp] theorem inD_lI (L : List Int) (i : Int) : inD (.int i) (.list (L.map .int)) = .ok (.bool (decide (i ∈ L))) := by
  show (if shp (.int i) = true ∧ shp (.list (L.map .int)) = true then R.ok (PyData.bool ((L.map PyData.int).any fun z => PyData.eqv z (.int i))) else .stuck) = _
  rw [if_pos ⟨shp_int i, shp_lI L⟩, any_int]
/-! ### places -/
theorem atI_nat {α : Type} (xs : List α) (k : Nat) : atI xs (k : Int) = xs[k]? := by
  unfold atI ixN
  rw [if_pos (Int.natCast_nonneg k)]
  by_cases h : k < xs.length
  · rw [if_pos (by omega)]
    simp
  · rw [if_neg (by omega)]
    simp [List.getElem?_eq_none (Nat.le_of_not_lt h)]
theorem atI_lt {xs : List Int} {k : Nat} (h : k < xs.length) : atI (xs.map PyData.int) (k : Int) = some (.int (xs.getD k 0)) := by
  rw [atI_nat, List.getElem?_map, List.getElem?_eq_getElem h]
  simp [List.getD, h]
theorem ixD_tup (ds : List D) (i : Int) : ixD (.tuple ds) (.int i) = match atI ds i with
  | some d => .ok d
  | none => .stuck := rfl
theorem ixD_lst (ds : List D) (i : Int) : ixD (.list ds) (.int i) = match atI ds i with
  | some d => .ok d
  | none => .stuck := rfl
theorem ix_tI {xs : List Int} {k : Nat} (h : k < xs.length) : ixD (.tuple (xs.map .int)) (.int k) = .ok (.int (xs.getD k 0)) := by
  rw [ixD_tup, atI_lt h]
theorem ix_lI {xs : List Int} {k : Nat} (h : k < xs.length) : ixD (.list (xs.map .int)) (.int k) = .ok (.int (xs.getD k 0)) := by
  rw [ixD_lst, atI_lt h]
/-! ### loops -/
theorem forD_inv {g : Env → D → R Env} {B : Env → RS} {ds : List D} {ρ : Env} (Inv : Nat → Env → Prop) (h0 : Inv 0 ρ)
    (step : ∀ i d ρ, ds[i]? = some d → Inv i ρ → ∃ ρ1 ρ2, g ρ d = .ok ρ1 ∧ (B ρ1 = .nx ρ2 ∨ B ρ1 = .ct ρ2) ∧ Inv (i + 1) ρ2) : ∃ ρ', forD g B ds ρ = .nx ρ' ∧ Inv ds.length ρ' := by
  have key : ∀ (ds2 : List D) (k : Nat) (ρ : Env), ds.drop k = ds2 → k ≤ ds.length → Inv k ρ → ∃ ρ', forD g B ds2 ρ = .nx ρ' ∧ Inv ds.length ρ' := by
    intro ds2
    induction ds2 with
    | nil =>
      intro k ρ e hk i
      have : ds.length ≤ k := List.drop_eq_nil_iff.mp e
      have : k = ds.length := by omega
      subst this
      exact ⟨ρ, rfl, i⟩
    | cons d r ih =>
      intro k ρ e hk i
      have hd : ds[k]? = some d := by
        have := congrArg (fun l => l[0]?) e
        simpa using this
      obtain ⟨ρ1, ρ2, e1, e2, i2⟩ := step k d ρ hd i
      have lt : k < ds.length := by
        rcases Nat.lt_or_ge k ds.length with z | z
        · exact z
        · rw [List.getElem?_eq_none z] at hd; cases hd
      have er : ds.drop (k + 1) = r := by
        have := congrArg List.tail e
        simpa [List.tail_drop] using this
      obtain ⟨ρ3, e3, i3⟩ := ih (k + 1) ρ2 er lt i2
      refine ⟨ρ3, ?_, i3⟩
      unfold forD
      rw [e1]
      rcases e2 with e2 | e2
      · simp only [RS.of_ok, e2, e3]
      · simp only [RS.of_ok, e2, e3]
  exact key ds 0 ρ rfl (Nat.zero_le _) h0
/-- a comprehension, all turns alike -/
theorem lcGo_map {g : Env → D → R Env} {tt : Env → R Bool} {te : EF} {ρ : Env} {α : Type} (f : α → D) (p : α → Bool) (y : α → D) : ∀ (L : List α),
    (∀ a ∈ L, ∃ ρ1, g ρ (f a) = .ok ρ1 ∧ tt ρ1 = .ok (p a) ∧ (p a = true → te ρ1 = .ok (y a))) → lcGo g tt te ρ (L.map f) = .ok ((L.filter p).map y)
  | [], _ => by unfold lcGo; rfl
  | a :: L, h => by
    obtain ⟨ρ1, e1, e2, e3⟩ := h a List.mem_cons_self
    have ih := lcGo_map f p y L fun b hb => h b (List.mem_cons_of_mem _ hb)
    rw [List.map_cons]
    unfold lcGo
    rw [e1, R.bind_ok, e2, R.bind_ok, ih]
    cases hp : p a with
    | true =>
      rw [if_pos rfl, e3 hp, List.filter_cons_of_pos hp]
      rfl
    | false =>
      rw [if_neg (by decide), List.filter_cons_of_neg (by simp [hp])]
      rfl
theorem lcGo_all {g : Env → D → R Env} {te : EF} {ρ : Env} {α : Type} (f : α → D) (y : α → D) (L : List α)
    (h : ∀ a ∈ L, ∃ ρ1, g ρ (f a) = .ok ρ1 ∧ te ρ1 = .ok (y a)) : lcGo g bYes te ρ (L.map f) = .ok (L.map y) := by
  have := lcGo_map (g := g) (tt := bYes) (te := te) (ρ := ρ) f (fun _ => true) y L fun a ha => by
    obtain ⟨ρ1, a1, a2⟩ := h a ha
    exact ⟨ρ1, a1, rfl, fun _ => a2⟩
  rw [this, List.filter_eq_self.mpr fun a _ => rfl]
theorem gx_all {g : Env → D → R Env} {te : EF} {ρ : Env} {α : Type} (f : α → D) (p : α → Bool) : ∀ (L : List α),
    (∀ a ∈ L, ∃ ρ1, g ρ (f a) = .ok ρ1 ∧ te ρ1 = .ok (.bool (p a))) → gxGo false g bYes te ρ (L.map f) = .ok (L.all p)
  | [], _ => by unfold gxGo; rfl
  | a :: L, h => by
    obtain ⟨ρ1, e1, e2⟩ := h a List.mem_cons_self
    have ih := gx_all f p L fun b hb => h b (List.mem_cons_of_mem _ hb)
    rw [List.map_cons]
    unfold gxGo
    rw [e1, R.bind_ok, show bYes ρ1 = .ok true from rfl, R.bind_ok, if_pos rfl, e2]
    cases hp : p a with
    | true => simpa [still, hp] using ih
    | false => simp [still, hp]
theorem gx_any {g : Env → D → R Env} {te : EF} {ρ : Env} {α : Type} (f : α → D) (p : α → Bool) : ∀ (L : List α),
    (∀ a ∈ L, ∃ ρ1, g ρ (f a) = .ok ρ1 ∧ te ρ1 = .ok (.bool (p a))) → gxGo true g bYes te ρ (L.map f) = .ok (L.any p)
  | [], _ => by unfold gxGo; rfl
  | a :: L, h => by
    obtain ⟨ρ1, e1, e2⟩ := h a List.mem_cons_self
    have ih := gx_any f p L fun b hb => h b (List.mem_cons_of_mem _ hb)
    rw [List.map_cons]
    unfold gxGo
    rw [e1, R.bind_ok, show bYes ρ1 = .ok true from rfl, R.bind_ok, if_pos rfl, e2]
    cases hp : p a with
    | true => simp [still, hp]
    | false => simpa [still, hp] using ih
end Pd
namespace Pd
open PySem PySem.Spec PyProof.Rows L2
open Pd (D Env)
def mag (x : Int) : Int := if x < 0 then -x else x
section
variable {ρ : Env} {F G J : EF} {L : Env → R (List D)} {f g : D → D → R D} {A B : Env → RS} {c b1 b2 : Env → R Bool} {i j : Nat} {h : List D → R D}
/-! ### what the combinators do, step by step -/
@[simp high] theorem z_ok {α β : Type} (a : α) (f : α → R β) : R.bind (.ok a) f = f a := id rfl
@[simp high] theorem z_exc {α β : Type} (c : Str) (f : α → R β) : R.bind (.exc c) f = .exc c := id rfl
@[simp high] theorem z_st {α β : Type} (f : α → R β) : R.bind .stuck f = .stuck := id rfl
@[simp high] theorem z_of_ok {α : Type} {a : α} {ρ : Env} {f : α → RS} : RS.of (.ok a) ρ f = f a := id rfl
@[simp high] theorem z_of_exc {α : Type} {c : Str} {ρ : Env} {f : α → RS} : RS.of (.exc c) ρ f = .exc c ρ := id rfl
@[simp high] theorem z_of_st {α : Type} {ρ : Env} {f : α → RS} : RS.of .stuck ρ f = .stuck := id rfl
def RS.seq (r : RS) (B : Env → RS) : RS := match r with
  | .nx ρ' => B ρ'
  | r => r
@[simp] theorem q_seq : seqD A B ρ = RS.seq (A ρ) B := id rfl
@[simp] theorem q_seq_nx : RS.seq (.nx ρ) B = B ρ := id rfl
@[simp] theorem q_seq_rt {d : D} : RS.seq (.rt d) B = .rt d := id rfl
@[simp] theorem q_seq_bk : RS.seq (.bk ρ) B = .bk ρ := id rfl
@[simp] theorem q_seq_ct : RS.seq (.ct ρ) B = .ct ρ := id rfl
@[simp] theorem q_seq_exc {x : Str} : RS.seq (.exc x ρ) B = .exc x ρ := id rfl
@[simp] theorem q_seq_st : RS.seq .stuck B = .stuck := id rfl
@[simp] theorem q_seq_ite {p : Prop} [Decidable p] {r s : RS} : RS.seq (if p then r else s) B = if p then RS.seq r B else RS.seq s B := apply_ite (fun z => RS.seq z B) _ _ _
@[simp] theorem q_fin_ite {p : Prop} [Decidable p] {r s : RS} : finD (if p then r else s) = if p then finD r else finD s := apply_ite finD _ _ _
@[simp] theorem q_of_ite {α : Type} {p : Prop} [Decidable p] {r s : R α} {f : α → RS} : RS.of (if p then r else s) ρ f = if p then RS.of r ρ f else RS.of s ρ f := apply_ite (fun z => RS.of z ρ f) _ _ _
@[simp] theorem q_bind_ite {α β : Type} {p : Prop} [Decidable p] {r s : R α} {f : α → R β} : R.bind (if p then r else s) f = if p then R.bind r f else R.bind s f := apply_ite (fun z => R.bind z f) _ _ _
@[simp] theorem q_if : ifD c A B ρ = RS.of (c ρ) ρ fun b => if b = true then A ρ else B ρ := id rfl
@[simp] theorem q_next : nextD ρ = .nx ρ := id rfl
@[simp] theorem q_brk : brkD ρ = .bk ρ := id rfl
@[simp] theorem q_cont : contD ρ = .ct ρ := id rfl
@[simp] theorem q_drop : dropD F ρ = RS.of (F ρ) ρ fun _ => .nx ρ := id rfl
@[simp] theorem q_ret : retD F ρ = RS.of (F ρ) ρ .rt := id rfl
@[simp] theorem q_set : setD i F ρ = RS.of (F ρ) ρ fun d => .nx (ρ.put i d) := id rfl
@[simp] theorem q_move : moveD i j ρ = RS.of (ρ.get j) ρ fun d => .nx ((ρ.del j).put i d) := id rfl
@[simp] theorem q_par {is : List Nat} : parD is L ρ = RS.of (L ρ) ρ fun ds => .nx (putsD is ds ρ) := id rfl
@[simp] theorem q_raise {x : Str} : raiseD x ρ = .exc x ρ := id rfl
@[simp] theorem q_name : eName i ρ = ρ.get i := id rfl
@[simp] theorem q_c {d : D} : eC d ρ = .ok d := id rfl
@[simp] theorem q_imm : eImm F ρ = (F ρ).bind fun d => if imm d = true then .ok d else .stuck := id rfl
@[simp] theorem q_bin : eBin f F G ρ = (F ρ).bind fun x => (G ρ).bind fun y => f x y := id rfl
@[simp] theorem q_bbin : bBin f F G ρ = (F ρ).bind fun x => (G ρ).bind fun y => (f x y).bind fun z => match z with
  | .bool b => .ok b
  | _ => .stuck := id rfl
@[simp] theorem q_tru : bTru F ρ = (F ρ).bind truthD := id rfl
@[simp] theorem q_bnot : bNot c ρ = (c ρ).bind fun b => .ok (!b) := id rfl
@[simp] theorem q_band : bAnd b1 b2 ρ = (b1 ρ).bind fun b => if b = true then b2 ρ else .ok false := id rfl
@[simp] theorem q_bor : bOr b1 b2 ρ = (b1 ρ).bind fun b => if b = true then .ok true else b2 ρ := id rfl
@[simp] theorem q_and : eAnd F G ρ = (F ρ).bind fun x => (truthD x).bind fun b => if b = true then G ρ else .ok x := id rfl
@[simp] theorem q_or : eOr F G ρ = (F ρ).bind fun x => (truthD x).bind fun b => if b = true then .ok x else G ρ := id rfl
@[simp] theorem q_not : eNot F ρ = (F ρ).bind fun x => (truthD x).bind fun b => .ok (.bool (!b)) := id rfl
@[simp] theorem q_ife : eIf c F G ρ = (c ρ).bind fun b => if b = true then F ρ else G ρ := id rfl
@[simp] theorem q_nil : lNil ρ = .ok [] := id rfl
@[simp] theorem q_cons : lCons F L ρ = (F ρ).bind fun x => (L ρ).bind fun xs => .ok (x :: xs) := id rfl
@[simp] theorem q_tup : eTup L ρ = (L ρ).bind fun xs => .ok (.tuple xs) := id rfl
@[simp] theorem q_lst : eLst L ρ = (L ρ).bind fun xs => .ok (.list xs) := id rfl
@[simp] theorem q_ix : eIx F G ρ = (F ρ).bind fun x => (G ρ).bind fun y => ixD x y := id rfl
@[simp] theorem q_sl {lo hi : Env → R (Option Int)} : eSl F lo hi ρ = (F ρ).bind fun x => (lo ρ).bind fun l => (hi ρ).bind fun h => slD x l h := id rfl
@[simp] theorem q_pn : pNone ρ = .ok none := id rfl
@[simp] theorem q_ps : pSome F ρ = (F ρ).bind fun d => match d with
  | .int i => .ok (some i)
  | _ => .stuck := id rfl
@[simp] theorem q_fun : eFun h L ρ = (L ρ).bind h := id rfl
@[simp] theorem q_call : eCall h L ρ = (L ρ).bind h := id rfl
@[simp] theorem q_it : eIt F ρ = (F ρ).bind itD := id rfl
@[simp] theorem q_rng : eRng L ρ = (L ρ).bind rngD := id rfl
@[simp] theorem q_isi {T : String} : eIsi T F ρ = (F ρ).bind fun d => isiR T d := id rfl
@[simp] theorem q_isiN {T : String} : isiR T .none = .ok (.bool (isiD T .none)) := id rfl
@[simp] theorem q_isiI {T : String} {a : Int} : isiR T (.int a) = .ok (.bool (isiD T (.int a))) := id rfl
@[simp] theorem q_isiB {T : String} {p : Bool} : isiR T (.bool p) = .ok (.bool (isiD T (.bool p))) := id rfl
@[simp] theorem q_isiS {T : String} {s : Str} : isiR T (.str s) = .ok (.bool (isiD T (.str s))) := id rfl
@[simp] theorem q_isiT {T : String} {xs : List D} : isiR T (.tuple xs) = .ok (.bool (isiD T (.tuple xs))) := id rfl
@[simp] theorem q_isiL {T : String} {xs : List D} : isiR T (.list xs) = .ok (.bool (isiD T (.list xs))) := id rfl
@[simp] theorem q_yes : bYes ρ = .ok true := id rfl
@[simp] theorem q_gn {d : D} : gN i ρ d = .ok (ρ.put i d) := id rfl
@[simp] theorem q_fors {I : Env → R (List D)} {gg : Env → D → R Env} : forS I gg A ρ = RS.of (I ρ) ρ fun ds => forD gg A ds ρ := id rfl
@[simp] theorem q_lc {I : Env → R (List D)} {gg : Env → D → R Env} {vs : List Nat} : eLc I gg c F vs ρ = (I ρ).bind fun ds => (lcGo gg c F (wipeD ρ vs) ds).bind fun ys => if ys.length < 16777216 then .ok (.list ys) else .stuck := id rfl
@[simp] theorem q_gx {sv : Bool} {I : Env → R (List D)} {gg : Env → D → R Env} {vs : List Nat} : eGx sv I gg c F vs ρ = (I ρ).bind fun ds => (gxGo sv gg c F (wipeD ρ vs) ds).bind fun b => .ok (.bool b) := id rfl
@[simp] theorem q_app : appD i L ρ = RS.of (ρ.get i) ρ fun x => match x with
  | .list ds => RS.of (L ρ) ρ fun ys => match ys with
    | [d] => if ds.length < 16777216 then .nx (ρ.put i (.list (ds ++ [d]))) else .stuck
    | _ => .stuck
  | _ => .stuck := id rfl
@[simp] theorem q_try {tbl : List (Str × Bool)} : tryD A tbl B ρ = catchD tbl B (A ρ) := id rfl
@[simp] theorem q_try2 {t1 t2 : List (Str × Bool)} {C : Env → RS} : try2D A t1 B t2 C ρ = catch2D t1 B t2 C (A ρ) := id rfl
@[simp] theorem q_catch_rt {tbl : List (Str × Bool)} {d : D} : catchD tbl B (.rt d) = .rt d := id rfl
@[simp] theorem q_catch_nx {tbl : List (Str × Bool)} : catchD tbl B (.nx ρ) = .nx ρ := id rfl
@[simp] theorem q_catch2_rt {t1 t2 : List (Str × Bool)} {C : Env → RS} {d : D} : catch2D t1 B t2 C (.rt d) = .rt d := id rfl
@[simp] theorem q_catch2_nx {t1 t2 : List (Str × Bool)} {C : Env → RS} : catch2D t1 B t2 C (.nx ρ) = .nx ρ := id rfl
@[simp] theorem q_w0 : wipeD ρ [] = ρ := id rfl
@[simp] theorem q_w1 {vs : List Nat} : wipeD ρ (i :: vs) = (wipeD ρ vs).del i := id rfl
@[simp] theorem q_puts0 {ds : List D} : putsD [] ds ρ = ρ := id rfl
@[simp] theorem q_puts1 {d : D} {ds : List D} {is : List Nat} : putsD (i :: is) (d :: ds) ρ = putsD is ds (ρ.put i d) := id rfl
def chainB (z : D) (r : R D) : R D := match z with
  | .bool p => if p = true then r else .ok (.bool false)
  | _ => .stuck
@[simp] theorem q_chainB {p : Bool} {r : R D} : chainB (.bool p) r = if p = true then r else .ok (.bool false) := id rfl
@[simp] theorem q_chain : eChain f g F G J ρ = (F ρ).bind fun x => (G ρ).bind fun y => (f x y).bind fun z => chainB z ((J ρ).bind fun w => g y w) := by
  unfold eChain
  congr 1; funext x; congr 1; funext y; congr 1; funext z
  cases z with
  | bool p => cases p <;> rfl
  | _ => rfl
def toB (z : D) : R Bool := match z with
  | .bool b => .ok b
  | _ => .stuck
@[simp] theorem q_toB {p : Bool} : toB (.bool p) = .ok p := id rfl
@[simp] theorem q_bchain : bChain f g F G J ρ = (eChain f g F G J ρ).bind toB := id rfl
@[simp] theorem q_cnt : eCnt F L ρ = (F ρ).bind fun x => (itD x).bind fun ds => (L ρ).bind fun ys => match ys with
  | [d] => cntD ds d
  | _ => .stuck := id rfl
theorem cnt_int {L : List Int} {x : Int} : cntD (L.map .int) (.int x) = .ok (.int (L.count x : Nat)) := by
  unfold cntD
  rw [if_pos ⟨shp_lI L, shp_int x⟩]
  congr 3
  rw [List.countP_map]
  unfold List.count
  congr 1
@[simp] theorem q_lrev {xs : List D} (h : F ρ = .ok (.tuple xs)) : eListRev F ρ = .ok (.list xs.reverse) := by
  unfold eListRev
  rw [h] <;> rfl
@[simp] theorem q_neg {a : Int} (h : F ρ = .ok (.int a)) : eNeg F ρ = .ok (.int (-a)) := by
  unfold eNeg
  rw [h] <;> rfl
/-! ### slots -/
@[simp] theorem q_get0 {d : D} {ρ : Env} : Env.get (some d :: ρ) 0 = .ok d := id rfl
@[simp] theorem q_getS {x : Option D} {ρ : Env} : Env.get (x :: ρ) (i + 1) = Env.get ρ i := id rfl
@[simp] theorem q_put0 {x : Option D} {d : D} {ρ : Env} : Env.put (x :: ρ) 0 d = some d :: ρ := id rfl
@[simp] theorem q_putS {x : Option D} {d : D} {ρ : Env} : Env.put (x :: ρ) (i + 1) d = x :: Env.put ρ i d := id rfl
@[simp] theorem q_del0 {x : Option D} {ρ : Env} : Env.del (x :: ρ) 0 = none :: ρ := id rfl
@[simp] theorem q_delS {x : Option D} {ρ : Env} : Env.del (x :: ρ) (i + 1) = x :: Env.del ρ i := id rfl
/-! ### operations -/
variable {a b : Int} {xs ys : List D} {s t : Str}
@[simp] theorem o_add : addD (.int a) (.int b) = .ok (.int (a + b)) := id rfl
@[simp] theorem o_addT : addD (.tuple xs) (.tuple ys) = if xs.length + ys.length ≤ 16777216 then .ok (.tuple (xs ++ ys)) else .stuck := id rfl
@[simp] theorem o_addL : addD (.list xs) (.list ys) = if xs.length + ys.length ≤ 16777216 then .ok (.list (xs ++ ys)) else .stuck := id rfl
@[simp] theorem o_sub : subD (.int a) (.int b) = .ok (.int (a - b)) := id rfl
@[simp] theorem o_mul : mulD (.int a) (.int b) = if (-(2 ^ 64) < a ∧ a < 2 ^ 64) ∨ (-(2 ^ 64) < b ∧ b < 2 ^ 64) then .ok (.int (a * b)) else .stuck := id rfl
@[simp] theorem o_mulT : mulD (.tuple xs) (.int b) = if immL xs = true ∧ -1000000 ≤ b ∧ b ≤ 1000 ∧ xs.length ≤ 1000 then .ok (.tuple (repD xs b)) else .stuck := id rfl
@[simp] theorem o_mulL : mulD (.list xs) (.int b) = if immL xs = true ∧ -1000000 ≤ b ∧ b ≤ 1000 ∧ xs.length ≤ 1000 then .ok (.list (repD xs b)) else .stuck := id rfl
@[simp] theorem o_mod : modD (.int a) (.int b) = if 0 < b then .ok (.int (a % b)) else .stuck := id rfl
@[simp] theorem o_div : fdivD (.int a) (.int b) = if 0 < b ∧ b < 1073741824 then .ok (.int (a / b)) else .stuck := id rfl
@[simp] theorem o_pow : powD (.int a) (.int b) = if 0 ≤ b ∧ b ≤ 1000000 ∧ a.natAbs < 2 ^ 64 then .ok (.int (a ^ b.toNat)) else .stuck := id rfl
@[simp] theorem o_lt : ltD (.int a) (.int b) = .ok (.bool (decide (a < b))) := id rfl
@[simp] theorem o_le : leD (.int a) (.int b) = .ok (.bool (decide (a ≤ b))) := id rfl
@[simp] theorem o_gt : gtD (.int a) (.int b) = .ok (.bool (decide (b < a))) := id rfl
@[simp] theorem o_ge : geD (.int a) (.int b) = .ok (.bool (decide (b ≤ a))) := id rfl
@[simp] theorem o_isNN : isD .none .none = .ok (.bool true) := id rfl
@[simp] theorem o_isIN : isD (.int a) .none = .ok (.bool false) := id rfl
@[simp] theorem o_isTN : isD (.tuple xs) .none = .ok (.bool false) := id rfl
@[simp] theorem o_isLN : isD (.list xs) .none = .ok (.bool false) := id rfl
@[simp] theorem o_isSN : isD (.str s) .none = .ok (.bool false) := id rfl
@[simp] theorem o_isBN {p : Bool} : isD (.bool p) .none = .ok (.bool false) := by cases p <;> rfl
@[simp] theorem o_isNB {q : Bool} : isD .none (.bool q) = .ok (.bool false) := id rfl
@[simp] theorem o_isBB {p q : Bool} : isD (.bool p) (.bool q) = .ok (.bool (p == q)) := id rfl
@[simp] theorem o_isIB {q : Bool} : isD (.int a) (.bool q) = .ok (.bool false) := id rfl
@[simp] theorem o_isTB {q : Bool} : isD (.tuple xs) (.bool q) = .ok (.bool false) := id rfl
@[simp] theorem o_isLB {q : Bool} : isD (.list xs) (.bool q) = .ok (.bool false) := id rfl
@[simp] theorem o_isSB {q : Bool} : isD (.str s) (.bool q) = .ok (.bool false) := id rfl
@[simp] theorem o_isNot {x y : D} : isNotD x y = notD (isD x y) := id rfl
@[simp] theorem o_notIn {x y : D} : notInD x y = notD (inD x y) := id rfl
@[simp] theorem o_not {p : Bool} : notD (.ok (.bool p)) = .ok (.bool (!p)) := id rfl
@[simp] theorem o_truN : truthD .none = .ok false := id rfl
@[simp] theorem o_truB {p : Bool} : truthD (.bool p) = .ok p := id rfl
@[simp] theorem o_truI : truthD (.int a) = .ok (a != 0) := id rfl
@[simp] theorem o_truT : truthD (.tuple xs) = .ok (!xs.isEmpty) := id rfl
@[simp] theorem o_truL : truthD (.list xs) = .ok (!xs.isEmpty) := id rfl
@[simp] theorem o_lenT : lenD [.tuple xs] = .ok (.int xs.length) := id rfl
@[simp] theorem o_lenL : lenD [.list xs] = .ok (.int xs.length) := id rfl
@[simp] theorem o_lenR : lenD [.dict [(.none, .tuple xs)]] = .ok (.int xs.length) := id rfl
@[simp] theorem o_abs : absD [.int a] = .ok (.int (mag a)) := id rfl
@[simp] theorem o_max : max2D [.int a, .int b] = .ok (.int (if b > a then b else a)) := id rfl
@[simp] theorem o_min : min2D [.int a, .int b] = .ok (.int (if b < a then b else a)) := id rfl
@[simp] theorem o_int : intD [.int a] = .ok (.int a) := id rfl
@[simp] theorem o_tupT : tupleD [.tuple xs] = .ok (.tuple xs) := id rfl
@[simp] theorem o_tupL : tupleD [.list xs] = .ok (.tuple xs) := id rfl
@[simp] theorem o_lstT : listD [.tuple xs] = .ok (.list xs) := id rfl
@[simp] theorem o_lstL : listD [.list xs] = .ok (.list xs) := id rfl
@[simp] theorem o_itT : itD (.tuple xs) = .ok xs := id rfl
@[simp] theorem o_itL : itD (.list xs) = .ok xs := id rfl
@[simp] theorem o_tyN : isiD "int" .none = false := id rfl
@[simp] theorem o_tyI : isiD "int" (.int a) = true := by simp [isiD, tyD]
@[simp] theorem o_tyB {p : Bool} : isiD "int" (.bool p) = true := by simp [isiD, tyD]
@[simp] theorem o_tyS : isiD "int" (.str s) = false := by simp [isiD, tyD]
@[simp] theorem o_tyT : isiD "int" (.tuple xs) = false := by simp [isiD, tyD]
@[simp] theorem o_tyL : isiD "int" (.list xs) = false := by simp [isiD, tyD]
@[simp] theorem o_ttN : isiD "tuple" .none = false := id rfl
@[simp] theorem o_ttI : isiD "tuple" (.int a) = false := by simp [isiD, tyD]
@[simp] theorem o_ttB {p : Bool} : isiD "tuple" (.bool p) = false := by simp [isiD, tyD]
@[simp] theorem o_ttS : isiD "tuple" (.str s) = false := by simp [isiD, tyD]
@[simp] theorem o_ttT : isiD "tuple" (.tuple xs) = true := by simp [isiD, tyD]
@[simp] theorem o_ttL : isiD "tuple" (.list xs) = false := by simp [isiD, tyD]
@[simp] theorem o_imI : imm (.int a) = true := id rfl
@[simp] theorem o_imN : imm .none = true := id rfl
@[simp] theorem o_imB {p : Bool} : imm (.bool p) = true := id rfl
@[simp] theorem o_imS : imm (.str s) = true := id rfl
@[simp] theorem o_imT : imm (.tuple xs) = immL xs := id rfl
@[simp] theorem o_imL0 : immL [] = true := id rfl
@[simp] theorem o_imL1 {x : D} : immL (x :: xs) = (imm x && immL xs) := id rfl
@[simp] theorem o_imInts {L : List Int} : immL (L.map PyData.int) = true := by
  induction L with
  | nil => rfl
  | cons x xs ih => rw [List.map_cons, o_imL1, ih] <;> rfl
@[simp] theorem o_fin {d : D} : finD (.rt d) = .ok d := id rfl
@[simp] theorem o_finN : finD (.nx ρ) = .ok .none := id rfl
@[simp] theorem o_finX {x : Str} : finD (.exc x ρ) = .exc x := id rfl
end
/-! ### ranges -/
theorem rangeL_get {lo : Int} {n i : Nat} {d : D} (h : (rangeL lo n)[i]? = some d) : i < n ∧ d = .int (lo + (i : Nat)) := by
  unfold rangeL at h
  rw [List.getElem?_map] at h
  rcases Nat.lt_or_ge i n with z | z
  · rw [List.getElem?_range z] at h
    exact ⟨z, (Option.some.inj h).symm⟩
  · rw [List.getElem?_eq_none (by simpa using z)] at h
    cases h
theorem rng1 {b : Nat} (h : b < 4611686018427387904) : rngD [.int (b : Int)] = .ok (rangeL 0 b) := by
  refine (if_pos (by omega) : (if -4611686018427387904 ≤ (b : Int) ∧ (b : Int) < 4611686018427387904 then R.ok (rangeL 0 (b : Int).toNat) else .stuck) = _).trans ?_
  simp
theorem rng2 {a b : Nat} (ha : a < 4611686018427387904) (h : b < 4611686018427387904) : rngD [.int (a : Int), .int (b : Int)] = .ok (rangeL a (b - a)) := by
  refine (if_pos (by omega) : (if -4611686018427387904 ≤ (a : Int) ∧ (a : Int) < 4611686018427387904 ∧ -4611686018427387904 ≤ (b : Int) ∧ (b : Int) < 4611686018427387904 then R.ok (rangeL a ((b : Int) - a).toNat) else .stuck) = _).trans ?_
  have : ((b : Int) - (a : Int)).toNat = b - a := by omega
  rw [this]
theorem rangeL0 (n : Nat) : rangeL 0 n = (List.range n).map fun i => PyData.int (i : Nat) := by
  unfold rangeL
  apply List.map_congr_left
  intro i _
  rw [Int.zero_add]
theorem getD_lt {L : List Int} {k : Nat} (h : k < L.length) : L.getD k 0 = L[k] := by simp [List.getD, h]
end Pd
namespace Pd
open PySem PySem.Spec PyProof.Rows L2
open Pd (D Env)
/-! ### the module's constants -/
section
variable {X : Cx} {C : Cc} {W : WX} {O : Own} {pos : Pos} {x : Str}
theorem ev_gint {i : Int} (hg : Gl X x) (h : ∃ t, X.mg x = some (.int i t)) (hd : (x == ("__debug__" : Str)) = false := by decide) : EV X C W O (.Name x pos) 0 (eC (.int i)) :=
  ev_c (v := .int i) (C8.pe_gc hg (h.elim fun t e => ⟨_, e, He.relB_ok (decide_eq_true rfl)⟩) hd) fun _ => .int i
theorem ev_gstr {z : Str} (hg : Gl X x) (h : ∃ t, X.mg x = some (.str z t)) (hd : (x == ("__debug__" : Str)) = false := by decide) : EV X C W O (.Name x pos) 0 (eC (.str z)) :=
  ev_c (v := .str z) (C8.pe_gc hg (h.elim fun t e => ⟨_, e, He.relB_ok (decide_eq_true rfl)⟩) hd) fun _ => .str z
end
end Pd
namespace Pd
open PySem PySem.Spec PyProof.Rows L2
open PySem.W (dataLt dataLe alike AllAlike Sortable EachIs SortsAt copyHeap sortingHeap dataKind)
/-! ### sorted(list), sorted(tuple) -/
section
variable {P : Program} {w : World} {A : Around} {E : Value → Shared → Prop} {s : Shared}
/-- the items of x, copied -/
def Col (P : Program) (w : World) (A : Around) (s : Shared) (x : Value) (vs : List Value) : Prop :=
  ∀ (E : Value → Shared → Prop) (Q : List Value → Shared → Prop), Q vs { s with heap := (s.heap.push (seqObj "list" #[] 0)).update s.heap.objs.size (Obj.mapSeq (· ++ vs.toArray)) } → wpAny (model P w) A (collect x) Q E s
theorem col_list {l : Addr} {vs : List Value} (h : s.heap.IsList l vs.toArray) (hz : vs.length ≤ sizeLine) : Col P w A s (.ref l) vs := fun _ _ q => collect_list h q hz
theorem col_tup {l : Addr} {vs : List Value} (h : s.heap.IsTuple l vs.toArray) (hz : vs.length ≤ sizeLine) : Col P w A s (.ref l) vs := fun E Q q => by
  obtain ⟨o, ho, hc, n, hd⟩ := id h
  have e1 : (s.heap.push (seqObj "list" #[] 0)).get? l = some o := Heap.get?_push_of_some _ ho
  have e2 : (s.heap.push (seqObj "list" #[] 0)).get? s.heap.objs.size = some (seqObj "list" #[] 0) := Heap.get?_push_size _ rfl
  unfold collect
  refine wpAny_bind (wpAny_runValue (codeAny_builtin entry_proto_collect' ?_))
  change wpAny _ _ (newList [] >>= fun x => again (.builtin "list.__iadd__" ⟨[x, .ref l], []⟩)) _ _ s
  refine wpAny_bind (wpAny_newList (wpAny_pure ⟨Code.quiet_builtin _ (by decide +kernel), codeAny_builtin entry_list_iadd' ?_⟩))
  change wpAny _ _ (Builtin.List.listExtendWith (.ref s.heap.objs.size) (.ref l) (.ref s.heap.objs.size)) _ _ _
  unfold Builtin.List.listExtendWith
  refine wpAny_bind (wpAny_typeOf (T := "tuple") ⟨o, e1, hc⟩ ?_)
  rw [if_pos (by simp)]
  refine wpAny_bind (listItems_at e1 hd (wpAny_bind (listItems_at e2 rfl ?_)))
  rw [if_neg (by simp)]
  refine wpAny_bind (listUpdate_at e2 rfl ?_ (Nat.zero_le _) ?_)
  · refine wpAny_pure ?_
    refine wpAny_bind (wpAny_load (get?_update_seq e2 _) ?_)
    refine wpAny_pure ?_
    have e3 : ((#[] : Array Value) ++ vs.toArray).toList = vs := by simp
    change Q ((#[] : Array Value) ++ vs.toArray).toList _
    rw [e3]
    exact q
  · have e4 : (#[] ++ vs.toArray).size = vs.length := by simp
    change (#[] ++ vs.toArray).size ≤ _
    rw [e4]
    exact Nat.le_succ_of_le hz
theorem sorted_col {x : Value} {vs : List Value} {Q : Value → Shared → Prop} (hc : Col P w A.in1 s x vs) (hz : vs.length ≤ sizeLine)
    (h : ∀ E' : Value → Shared → Prop, wpAny (model P w) A.in1.in1 (Builtin.«list.sort» ⟨[.ref (s.heap.objs.size + 1)], []⟩) (fun f s' => f = .done (.ret .none) ∧ Q (.ref (s.heap.objs.size + 1)) s') E' { s with heap := copyHeap s.heap vs }) :
    wpAny (model P w) A (call (.builtin "sorted") [x]) Q E s := by
  refine Calls.call_function_entry kind_sorted plain_sorted entry_sorted (args_sorted1 _) ?_
  unfold Builtin.«sorted»
  refine wpAny_bind (m := checkCount "sorted" 1 1 _) (wpAny_pure (wpAny_bind (hc _ _ (wpAny_bind (wpAny_newList ?_ hz)))))
  have e : ((s.heap.push (seqObj "list" #[] 0)).update s.heap.objs.size (Obj.mapSeq (· ++ vs.toArray))).objs.size = s.heap.objs.size + 1 := (Heap.size_update ..).trans (size_push' ..)
  change wpAny _ _ _ _ _ { s with heap := copyHeap s.heap vs }
  rw [e]
  refine wpAny_bind (wpAny_holding (wpAny_call_entry slot_list_sort ⟨_, PySem.W.copyHeap_at s.heap vs, rfl⟩ entry_list_sort (wpAny_mono (h _) (fun f s' q => ?_) fun _ _ e => e) (args_list_sort _)))
  obtain ⟨rfl, q⟩ := q
  exact ⟨_, rfl, wpAny_pure ⟨_, rfl, q⟩⟩
end
/-- the items are sorted -/
def srtL (ds : List D) : List D := ds.mergeSort (dataLe false (fun d : D => d))
def okTup : D → Bool
  | .tuple (_ :: _) => true
  | _ => false
def okAtm : D → Bool
  | .tuple _ => false
  | .none => false
  | _ => true
def okE : D → Bool
  | .tuple [] => true
  | _ => false
def okSort (ds : List D) : Bool := shp (.list ds) && (decide (ds.length < 2) || ((ds.all fun x => ds.all fun y => alike x y) && (ds.all okTup || (ds.all okAtm || ds.all okE))))
theorem okE_some {d : D} (h : okE d = true) : d = .tuple [] := by
  unfold okE at h
  split at h
  · rfl
  · cases h
section
variable {prog : Program} {w : World} {A : Around} {s : Shared}
/-- () against () -/
theorem empty_lt {E : Value → Shared → Prop} {Q : Bool → Shared → Prop} {a b : Addr} (ha : s.heap.IsTuple a #[]) (hb : s.heap.IsTuple b #[]) (hu : A.units + 1 < cLine) (hq : Q false s) : wpAny (model prog w) A (oneLt' true (.ref a) (.ref b)) Q E s := by
  obtain ⟨⟨cls, dd, data, sl⟩, ho, hc, n, hd⟩ := id ha
  obtain ⟨⟨cls2, dd2, data2, sl2⟩, ho2, hc2, n2, hd2⟩ := id hb
  simp only at hc hd hc2 hd2
  subst hc hd hc2 hd2
  rw [oneLt'_eq]
  simp only [if_true]
  refine wpAny_bind (wpAny_cRoomFor (by omega) ?_)
  refine wpAny_bind (wpAny_callSpecialIfBound?_slot (T := "tuple") ⟨_, ho, rfl⟩ F.slot_tuple_lt ?_)
  refine call_meets F.slot_tuple_lt ⟨_, ho, rfl⟩ F.entry_tuple_lt (F.args_tuple_lt_2 _ _) (SeqAt.tuple_ltAt a b #[] #[] n n2 dd dd2 sl sl2 (fun _ => true) (fun _ => false)) ⟨ho, ho2, fun j h1 => absurd h1 (Nat.not_lt_zero j), fun j h1 => absurd h1 (Nat.not_lt_zero j), ?_⟩
  exact wpAny_truthy_bool hq
theorem sortsAt_empties {vs : List Value} {ds : List D} (e : EachIs (fun v d => ∃ as, Reads s.heap v d as) vs ds) (hal : AllAlike ds) (he : ∀ d ∈ ds, d = .tuple []) (hu : A.units + 1 < cLine) : SortsAt prog w A s (dataKind s.heap ds) vs := by
  have rd : ∀ {v : Value} {as : List Addr}, Reads s.heap v (.tuple []) as → ∃ a, v = .ref a ∧ s.heap.IsTuple a #[] := fun r => by
    cases r with
    | @tuple a o xs n _ _ h1 h2 h3 h4 =>
      have : xs = #[] := by
        cases xs with
        | mk l =>
          cases l with
          | nil => rfl
          | cons x l => cases h4
      subst this
      exact ⟨a, rfl, o, h1, h2, n, h3⟩
  refine ⟨fun v hv => ?_, oneType', fun E x y a b Q ha hb hq => ?_, fun h2 E Q hq => ?_⟩
  · obtain ⟨d, hd, as, r⟩ := e.left v hv
    exact ⟨_, PySem.W.dataKind_some hal hd r⟩
  · obtain ⟨d, as, hd, ra, rfl⟩ := PySem.W.dataKind_inv ha
    obtain ⟨d', as', hd', rb, rfl⟩ := PySem.W.dataKind_inv hb
    cases he d hd
    cases he d' hd'
    obtain ⟨a1, rfl, ta⟩ := rd ra
    obtain ⟨b1, rfl, tb⟩ := rd rb
    rw [keyLt'_oneType]
    have hq' : Q (dataLt (.tuple []) (.tuple [])) s := hq
    have e0 : dataLt (.tuple []) (.tuple []) = false := by
      rw [PySem.W.dataLt_tuple]
      exact (PySem.W.dataLt_ints [] []).trans (by decide)
    rw [e0] at hq'
    exact empty_lt ta tb hu hq'
  · obtain ⟨v1, v2, rest, rfl⟩ : ∃ v1 v2 rest, vs = v1 :: v2 :: rest := by
      match vs, h2 with
      | [], h2 => simp at h2
      | [_], h2 => simp at h2
      | v1 :: v2 :: rest, _ => exact ⟨v1, v2, rest, rfl⟩
    have all : ∀ v ∈ v1 :: v2 :: rest, ∃ a, v = .ref a ∧ s.heap.IsTuple a #[] := fun v hv => by
      obtain ⟨d, hd, as, r⟩ := e.left v hv
      cases he d hd
      exact rd r
    rw [keyKind'_eq, List.mapM_toArray, map_eq_pure_bind]
    refine wpAny_bind (wpAny_bind (PySem.W.kas_mapM (r := none) _ (fun v hv Q' hq => ?_) (wpAny_pure ?_)))
    · obtain ⟨a, rfl, o, h1, hcls, n, hdat⟩ := all v hv
      rw [PySem.W.kas_first_eq]
      refine wpAny_bind (wpAny_typeOf (T := "tuple") ⟨o, h1, hcls⟩ ?_)
      rw [if_neg (by simp)]
      exact wpAny_bind (listItems_at h1 hdat (wpAny_pure hq))
    · rw [if_neg (by simp), if_neg (by simp), oneTypeOnly'_eq, List.mapM_toArray, map_eq_pure_bind]
      refine wpAny_bind (wpAny_bind (wpAny_bind (PySem.W.kas_mapM (r := .type "tuple") _ (fun v hv Q' hq => ?_) (wpAny_pure ?_))))
      · obtain ⟨a, rfl, o, h1, hcls, n, hdat⟩ := all v hv
        exact wpAny_typeOf (T := "tuple") ⟨o, h1, hcls⟩ hq
      · have h9 : ((List.map (fun _ => Value.type "tuple") (v1 :: v2 :: rest)).toArray.all fun x => x == Value.type "tuple") = true := by
          simp only [List.all_toArray, List.all_map, List.all_eq_true]
          intro _ _
          exact beq_self_eq_true (Value.type "tuple")
        have h0 : (List.map (fun _ => Value.type "tuple") (v1 :: v2 :: rest)).toArray[0]? = some (Value.type "tuple") := by simp
        rw [h0]
        simp only [h9, if_true]
        exact wpAny_pure (wpAny_pure hq)
theorem sortsAt_ok {vs : List Value} {ds : List D} (e : EachIs (fun v d => ∃ as, Reads s.heap v d as) vs ds) (hal : AllAlike ds) (hk : Sortable ds ∨ ∀ d ∈ ds, d = .tuple []) (hu : ∀ d, d ∈ ds → A.units + d.depth < cLine) (hu1 : A.units + 1 < cLine) : SortsAt prog w A s (dataKind s.heap ds) vs :=
  hk.elim (fun k => SortsAt.data e hal k hu) fun k => sortsAt_empties e hal k hu1
end
def sortedD : List D → R D
  | [d] => (itD d).bind fun ds => if immL ds = true ∧ okSort ds = true then .ok (.list (srtL ds)) else .stuck
  | _ => .stuck
theorem srtL_short {ds : List D} (h : ds.length < 2) : srtL ds = ds := by
  unfold srtL
  match ds, h with
  | [], _ => exact List.mergeSort_nil
  | [d], _ => exact List.mergeSort_singleton d
def At {α : Type} (vs : List α) (ds : List D) (z : α) (d : D) : Prop := ∃ i : Nat, vs[i]? = some z ∧ ds[i]? = some d
theorem each_at {α : Type} : ∀ {vs vs' : List α} {ds ds' : List D} (k : Nat), vs.length = ds.length → (∀ i : Nat, vs[i]? = vs'[i + k]?) → (∀ i : Nat, ds[i]? = ds'[i + k]?) → EachIs (At vs' ds') vs ds
  | [], _, [], _, _, _, _, _ => .nil
  | [], _, _ :: _, _, _, h, _, _ => by cases h
  | _ :: _, _, [], _, _, h, _, _ => by cases h
  | v :: vs, vs', d :: ds, ds', k, h, h1, h2 => .cons ⟨k, by have := h1 0; simpa using this.symm, by have := h2 0; simpa using this.symm⟩
      (each_at (k + 1) (by simpa using h) (fun i => by have := h1 (i + 1); rw [← Nat.add_assoc, Nat.add_right_comm]; simpa using this) (fun i => by have := h2 (i + 1); rw [← Nat.add_assoc, Nat.add_right_comm]; simpa using this))
theorem each_vals {vs : List V} {its : List Value} {ds : List D} (r : Vals vs its) : ∀ {out : List Value} {es : List D}, EachIs (At its ds) out es → ∃ zs, Vals zs out ∧ EachIs (At vs ds) zs es
  | _, _, .nil => ⟨[], .nil, .nil⟩
  | _, _, .cons ⟨i, h1, h2⟩ t => by
    obtain ⟨zs, q1, q2⟩ := each_vals r t
    have hl : i < vs.length := by
      have := (List.getElem?_eq_some_iff.mp h1).1
      rw [r.length]; exact this
    obtain ⟨u, e, ru⟩ := r.get (List.getElem?_eq_getElem hl)
    rw [h1] at e
    cases e
    exact ⟨vs[i] :: zs, .cons ru q1, .cons ⟨i, List.getElem?_eq_getElem hl, h2⟩ q2⟩
theorem okSort_some {ds : List D} (h : okSort ds = true) (h2 : ¬ ds.length < 2) : AllAlike ds ∧ (Sortable ds ∨ ∀ d ∈ ds, d = .tuple []) ∧ ∀ d ∈ ds, d.depth ≤ 63 := by
  unfold okSort at h
  rw [decide_eq_false h2, Bool.false_or, Bool.and_eq_true, Bool.and_eq_true, Bool.or_eq_true, Bool.or_eq_true] at h
  obtain ⟨h1, h3, h4⟩ := h
  refine ⟨fun x hx y hy => List.all_eq_true.mp (List.all_eq_true.mp h3 x hx) y hy, ?_, ?_⟩
  · rcases h4 with h4 | h4 | h4
    · refine .inl (.inl fun d hd => ?_)
      have := List.all_eq_true.mp h4 d hd
      unfold okTup at this
      split at this
      · exact ⟨_, _, rfl⟩
      · cases this
    · refine .inl (.inr fun d hd => ?_)
      have := List.all_eq_true.mp h4 d hd
      unfold okAtm at this
      split at this
      · cases this
      · cases this
      · rename_i a b
        exact ⟨b, a⟩
    · exact .inr fun d hd => okE_some (List.all_eq_true.mp h4 d hd)
  · have hd := SeqAt.depth_of_shaped h1
    have e : PyData.depth (.list ds) = PyData.depthAll ds + 1 := by simp [PyData.depth]
    rw [e] at hd
    have key : ∀ ds : List D, ∀ d ∈ ds, d.depth ≤ PyData.depthAll ds := by
      intro ds
      induction ds with
      | nil => intro d h; cases h
      | cons x xs ih =>
        intro d h
        unfold PyData.depthAll
        rcases List.mem_cons.mp h with z | z
        · rw [z]; exact Nat.le_max_left _ _
        · exact Nat.le_trans (ih d z) (Nat.le_max_right _ _)
    intro d h
    have := key ds d h
    omega
section
variable {X : Cx} {T : List Addr}
theorem call_sortD (hu : X.A.units + 65 < cLine) : CallR X (.builtin "sorted") (fun vs H Q => ∃ (a : Addr) (ys : List V) (ds : List D), vs = [.ref a] ∧ (SqL X.K H a ys ∨ SqT X.K H a ys) ∧ (∃ F, RpL X.K H ys ds F) ∧ PyData.canLayAll0 ds = true ∧ okSort ds = true ∧
    ∀ zs p, EachIs (At ys ds) zs (srtL ds) → H p = none → Q (.ref p) (upd H p (.lst zs))) := by
  intro pins s σ H vs us Q I r h
  obtain ⟨a, ys, ds, rfl, hs, ⟨F, hr⟩, hlay, hk, q⟩ := h
  obtain rfl := Vals.ref1 r
  have key : ∃ its, Vals ys its ∧ Col X.prog X.w X.A.in1 s (.ref a) its ∧ its.length ≤ sizeLine := by
    rcases hs with hs | hs
    · obtain ⟨its, rv, hl, hz⟩ := I.list hs
      exact ⟨its, rv, col_list hl.isList (by rw [← rv.length]; exact hz), by rw [← rv.length]; exact hz⟩
    · obtain ⟨its, rv, hl, hz⟩ := I.tuple hs
      exact ⟨its, rv, col_tup hl (by rw [← rv.length]; exact hz), by rw [← rv.length]; exact hz⟩
  obtain ⟨its, rv, hcol, hz⟩ := key
  have hlen : its.length = ds.length := by rw [← rv.length]; exact hr.length
  have fin : ∀ out : List Value, EachIs (At its ds) out (srtL ds) → EP X pins σ Q (.ref (s.heap.objs.size + 1)) { s with heap := sortedAll s.heap its out.toArray } := by
    intro out h
    obtain ⟨zs, r1, r2⟩ := each_vals rv h
    have e1 : zs.length = ds.length := by
      rw [r2.length]
      unfold srtL
      rw [List.length_mergeSort]
    obtain ⟨n, hn⟩ := sortedAll_at s.heap its out.toArray
    exact ⟨.ref (s.heap.objs.size + 1), upd H (s.heap.objs.size + 1) (.lst zs), I.laid (t' := s.toks) (fun b o e => sortedAll_old e) (Nat.le_succ _) ⟨by rw [e1, ← hlen]; exact hz, out, n, r1, hn⟩, rfl, q zs _ r2 (I.hok.fresh (Nat.le_succ _))⟩
  refine sorted_col hcol hz fun E' => ?_
  by_cases h2 : ds.length < 2
  · refine SrtO.list_sort_ord (ltv := fun _ _ => false) ⟨fun _ _ h => (Bool.noConfusion h), fun _ _ _ _ _ => rfl⟩ (PySem.W.copyHeap_at s.heap its) hz (fun h3 => by omega) fun out h3 h4 => ⟨rfl, ?_⟩
    have e : out = its := by
      have hp := h4.perm
      match its, hlen with
      | [], _ => exact hp.eq_nil
      | [u], _ => exact List.perm_singleton.mp hp
      | _ :: _ :: _, hl => simp at hl; omega
    subst e
    refine fin out ?_
    rw [srtL_short h2]
    exact each_at 0 hlen (fun i => rfl) (fun i => rfl)
  · obtain ⟨k1, k2, k3⟩ := okSort_some hk h2
    have er : EachIs (fun v b => At its ds v b ∧ ∃ as, Reads s.heap v b as) its ds := by
      obtain ⟨as, ha⟩ := Dp.readsAll I ds ys its (hr.dp hlay) rv
      have : ∀ {vs : List Value} {ds : List D} {as : List Addr}, ReadsAll s.heap vs ds as → ∀ {P : Value → D → Prop}, EachIs P vs ds → EachIs (fun v b => P v b ∧ ∃ as, Reads s.heap v b as) vs ds := by
        intro vs ds as h P e
        induction e generalizing as with
        | nil => exact .nil
        | cons p t ih =>
          cases h with
          | cons r1 r2 => exact .cons ⟨p, _, r1⟩ (ih r2)
      exact this ha (each_at 0 hlen (fun i => rfl) (fun i => rfl))
    have e1 : EachIs (At its ds) its ds := er.mono fun _ _ q => q.1
    have e2 : EachIs (fun v b => ∃ as, Reads (sortingHeap (copyHeap s.heap its) (s.heap.objs.size + 1) its) v b as) its ds := er.mono fun _ _ q => by
      obtain ⟨_, as, r⟩ := q
      exact ⟨as, PyProof.Rows.Reads.keeps (fun _ _ => PySem.W.sorting_copy_old) r⟩
    have em : ds.map (fun d : D => d) = ds := List.map_id' ds
    refine PySem.W.list_sort_vals (s := { s with heap := copyHeap s.heap its }) (κ := dataKind (sortingHeap (copyHeap s.heap its) (s.heap.objs.size + 1) its) ds) (PySem.W.copyHeap_at s.heap its) ?_ hz ⟨rfl, fin _ ?_⟩
    · have e3 : (X.A.in1.in1).units = X.A.units + 2 := rfl
      refine sortsAt_ok (s := { s with heap := sortingHeap (copyHeap s.heap its) (s.heap.objs.size + 1) its }) e2 k1 k2 (fun d hd => ?_) (by omega)
      have := k3 d hd
      omega
    · have := PySem.W.sortVals_data (h' := sortingHeap (copyHeap s.heap its) (s.heap.objs.size + 1) its) (enc := fun d : D => d) false e1 e2 (by rw [em]; exact k1)
      rw [em] at this
      exact this
theorem rpl_each {K : PySem.W.Frag} {H : Hp} {ys : List V} {ds : List D} (r : RpL K H ys ds []) : ∀ {zs : List V} {es : List D}, EachIs (At ys ds) zs es → RpL K H zs es []
  | _, _, .nil => .nil
  | _, _, .cons ⟨i, h1, h2⟩ t => by
    obtain ⟨y, G, e, r1, sb⟩ := r.get h2
    rw [h1] at e
    cases e
    cases List.sublist_nil.mp sb
    exact .cons (F := []) (G := []) r1 (rpl_each r t)
theorem c_sorted (hu : X.A.units + 65 < cLine) : CallD X T (.builtin "sorted") sortedD where
  nox := fun ds => by
    unfold sortedD
    split
    · exact bind_nox (noxIt _) fun es => noxI noxO noxS
    · exact noxS
  ex := by
    refine ⟨_, call_sortD hu, fun H vs ds F Q r h => ?_⟩
    cases r with
    | nil => exact h.elim
    | @cons v vs d ds F1 F2 r1 rs =>
      cases rs with
      | cons r2 rs => exact h.elim
      | nil =>
        obtain ⟨es, e, h⟩ := itD_sat h
        obtain ⟨a, xs, G, rfl, r', sb, w⟩ := seq_cases r1 e
        obtain ⟨⟨hi, hk⟩, h⟩ := satI h
        cases r'.imm hi
        refine ⟨a, xs, es, rfl, w.elim (fun z => .inl z.1) (fun z => .inr z.1.sq), ⟨[], r'⟩, ?_, hk, fun zs p hz hp => ?_⟩
        · unfold okSort at hk
          have := SeqAt.canLay_of_shaped (Bool.and_eq_true_iff.mp hk).1
          simpa [PyData.canLay0] using this
        · have x : Ex T H (upd H p (.lst zs)) := .new hp
          refine h _ _ [p] x (.lst upd_same ((rpl_each r' hz).ex x)) ⟨fun c hc => ?_, fun _ => ?_⟩
          · rcases List.mem_cons.mp hc with z | z
            · exact .inr (by rw [z]; exact hp)
            · cases z
          · exact List.nodup_cons.mpr ⟨fun z => (nomatch z), List.nodup_nil⟩
end
end Pd
namespace Pd
open PySem PySem.Spec PyProof.Rows L2
open PySem.W (dataLt alike)
/-! ### orders of data -/
def okC2 (x y : D) : Bool := shp x && shp y && alike x y && (match x with
  | .none => false
  | _ => true)
def ordX (f : D → D → Bool) (x y : D) : R D := if okC2 x y = true then .ok (.bool (f x y)) else .stuck
def ltX : D → D → R D := ordX fun x y => dataLt x y
def leX : D → D → R D := ordX fun x y => !dataLt y x
def gtX : D → D → R D := ordX fun x y => dataLt y x
def geX : D → D → R D := ordX fun x y => !dataLt x y
theorem okC2_some {x y : D} (h : okC2 x y = true) : shp x = true ∧ shp y = true ∧ alike x y = true ∧ x ≠ .none := by
  unfold okC2 at h
  rw [Bool.and_eq_true, Bool.and_eq_true, Bool.and_eq_true] at h
  obtain ⟨⟨⟨h1, h2⟩, h3⟩, h4⟩ := h
  refine ⟨h1, h2, h3, fun e => ?_⟩
  rw [e] at h4
  cases h4
section
variable {X : Cx} {T : List Addr}
theorem b_ord {op : CmpOp} {f : D → D → Bool} (ho : ∀ {A : Around} {E : Value → Shared → Prop} {s : Shared} {a b : Value} {da db : D} {as bs : List Addr} {Q : Value → Shared → Prop}, Reads s.heap a da as → Reads s.heap b db bs → alike da db = true → da ≠ .none → A.units + min da.depth db.depth < cLine → Q (.bool (f da db)) s → wpAny (model X.prog X.w) A (compareOp op a b) Q E s)
    (hu : X.A.units + 64 < cLine) : BinD X T (compareOp op) (ordX f) where
  nox := fun x y => noxI noxO noxS
  ex := by
    refine ⟨fun x y H Q => ∃ d e, Dp X.K H x d ∧ Dp X.K H y e ∧ okC2 d e = true ∧ Q (.bl (f d e)) H, ?_, fun H x y dx dy Fx Fy Q rx ry h => ?_⟩
    · intro pins s σ H x y v u Q I rx ry h
      obtain ⟨d, e, hd, he, hk, q⟩ := h
      obtain ⟨h1, h2, h3, h4⟩ := okC2_some hk
      obtain ⟨as, r1⟩ := Dp.reads I d x v hd rx
      obtain ⟨bs, r2⟩ := Dp.reads I e y u he ry
      have := SeqAt.depth_of_shaped h1
      exact ho r1 r2 h3 h4 (by omega) ⟨.bl _, H, I, rfl, q⟩
    · obtain ⟨hk, h⟩ := satI h
      obtain ⟨h1, h2, _, _⟩ := okC2_some hk
      exact ⟨dx, dy, rx.dp (shp_lay h1), ry.dp (shp_lay h2), hk, h _ H [] .refl (.bl _) .nil⟩
theorem b_ltX (hu : X.A.units + 64 < cLine) : BinD X T (compareOp .Lt) ltX := b_ord PySem.W.lt_data hu
theorem b_leX (hu : X.A.units + 64 < cLine) : BinD X T (compareOp .LtE) leX := b_ord PySem.W.le_data hu
theorem b_gtX (hu : X.A.units + 64 < cLine) : BinD X T (compareOp .Gt) gtX := b_ord PySem.W.gt_data hu
theorem b_geX (hu : X.A.units + 64 < cLine) : BinD X T (compareOp .GtE) geX := b_ord PySem.W.ge_data hu
end
theorem imm_ord {f : D → D → Bool} {x y z : D} (h : ordX f x y = .ok z) : imm z = true := by
  unfold ordX at h
  split at h
  · cases h; rfl
  · cases h
theorem okC2_int (a b : Int) : okC2 (.int a) (.int b) = true := by
  unfold okC2
  rw [shp_int, shp_int]
  simp [alike]
@[simp] theorem o_ltX {a b : Int} : ltX (.int a) (.int b) = .ok (.bool (decide (a < b))) := by
  unfold ltX ordX
  rw [if_pos (okC2_int a b)]
  dsimp only
  rw [PySem.W.dataLt_int]
@[simp] theorem o_gtX {a b : Int} : gtX (.int a) (.int b) = .ok (.bool (decide (b < a))) := by
  unfold gtX ordX
  rw [if_pos (okC2_int a b)]
  dsimp only
  rw [PySem.W.dataLt_int]
@[simp] theorem o_leX {a b : Int} : leX (.int a) (.int b) = .ok (.bool (decide (a ≤ b))) := by
  unfold leX ordX
  rw [if_pos (okC2_int a b)]
  dsimp only
  rw [PySem.W.dataLt_int, PySem.W.not_lt_int]
@[simp] theorem o_geX {a b : Int} : geX (.int a) (.int b) = .ok (.bool (decide (b ≤ a))) := by
  unfold geX ordX
  rw [if_pos (okC2_int a b)]
  dsimp only
  rw [PySem.W.dataLt_int, PySem.W.not_lt_int]
end Pd
namespace Pd
open PySem PySem.Spec PyProof.Rows L2
/-! ### tables of data -/
def dget (kvs : List (D × D)) (k : D) : Option D := (kvs.find? fun p => PyData.eqv p.1 k).map (·.2)
def dput (kvs : List (D × D)) (k v : D) : List (D × D) := if (kvs.any fun p => PyData.eqv p.1 k) = true then kvs.map (fun p => if PyData.eqv p.1 k = true then (p.1, v) else p) else kvs ++ [(k, v)]
def atomK : D → Bool
  | .int _ => true
  | .str _ => true
  | _ => false
def tupK : D → Bool
  | .tuple e => okKey (.tuple e)
  | _ => false
def isTup : D → Bool
  | .tuple _ => true
  | _ => false
/-- the key goes with the dict's keys -/
def keyFit (kvs : List (D × D)) (k : D) : Bool := (atomK k && kvs.all fun p => atomK p.1) || (tupK k && kvs.all fun p => isTup p.1)
def keyOf : D → Key
  | .int i => .inl i
  | .str s => .inr s
  | _ => .inl 0
theorem keyD_of {d : D} (h : atomK d = true) : keyD (keyOf d) = d := by
  cases d <;> first | rfl | cases h
theorem atomK_keyD (k : Key) : atomK (keyD k) = true := by cases k <;> rfl
theorem eqv_keyD (a b : Key) : PyData.eqv (keyD a) (keyD b) = decide (a = b) := by
  cases a <;> cases b
  · rename_i i j
    show (i == j) = _
    by_cases h : i = j
    · subst h; simp
    · rw [decide_eq_false (fun e => h (Sum.inl.inj e))]; simpa using h
  · exact (decide_eq_false (fun e => nomatch e)).symm
  · exact (decide_eq_false (fun e => nomatch e)).symm
  · rename_i i j
    show (i == j) = _
    by_cases h : i = j
    · subst h; simp
    · rw [decide_eq_false (fun e => h (Sum.inr.inj e))]; simpa using h
mutual
theorem toK_eqv : ∀ (x y : D), isKey x = true → isKey y = true → PyData.eqv x y = NestedKey.beq (toK x) (toK y)
  | .none, y, _, h => by cases y <;> first | (cases h; done) | (simp only [PyData.eqv, toK, NestedKey.beq])
  | .int i, y, _, h => by
    cases y <;> first | (cases h; done) | (simp only [PyData.eqv, toK, NestedKey.beq]; done) | skip
    rename_i j
    simp only [PyData.eqv, toK, NestedKey.beq]
    by_cases e : i = j <;> simp [e]
  | .tuple xs, y, hx, h => by
    cases y <;> first | (cases h; done) | (simp only [PyData.eqv, toK, NestedKey.beq]; done) | skip
    rename_i ys
    simp only [PyData.eqv, toK, NestedKey.beq]
    exact toKs_eqv xs ys hx h
  | .bool _, _, h, _ => by cases h
  | .str _, _, h, _ => by cases h
  | .list _, _, h, _ => by cases h
  | .dict _, _, h, _ => by cases h
theorem toKs_eqv : ∀ (xs ys : List D), isKeyL xs = true → isKeyL ys = true → PyData.eqvAll xs ys = NestedKey.beqAll (toKs xs) (toKs ys)
  | [], [], _, _ => by simp only [PyData.eqvAll, toKs, NestedKey.beqAll]
  | [], _ :: _, _, _ => by simp only [PyData.eqvAll, toKs, NestedKey.beqAll]
  | _ :: _, [], _, _ => by simp only [PyData.eqvAll, toKs, NestedKey.beqAll]
  | x :: xs, y :: ys, hx, hy => by
    obtain ⟨a, b⟩ := Bool.and_eq_true_iff.mp hx
    obtain ⟨c, d⟩ := Bool.and_eq_true_iff.mp hy
    simp only [PyData.eqvAll, toKs, NestedKey.beqAll]
    rw [toK_eqv x y a c, toKs_eqv xs ys b d]
end
theorem okKey_some {d : D} (h : okKey d = true) : isKey d = true ∧ (toK d).depth ≤ 8 := by
  obtain ⟨a, b⟩ := Bool.and_eq_true_iff.mp h
  exact ⟨a, of_decide_eq_true b⟩
theorem eqv_toK {x y : D} (hx : isKey x = true) (hy : isKey y = true) : PyData.eqv x y = decide (toK x = toK y) := by
  rw [toK_eqv x y hx hy, NestedKey.decide_eq]
/-! a key in the heap -/
section
variable {X : Cx} {pins : List (Addr × Obj)} {σ : L2.St} {H : Hp} {s : Shared}
mutual
theorem Ky.nested (I : Inv X pins σ H s) : ∀ {v : V} {d : D} {u : Value}, Ky X.K H v d → RelV v u → NestedIs s.heap (toK d) u
  | _, _, u, .non, r => by
    cases (show u = Value.none from r)
    exact .none
  | _, _, u, .int i, r => by
    obtain ⟨t, e⟩ := (show ∃ t, u = Value.int i t from r)
    rw [e]
    exact .int i t
  | _, _, u, .tup h t, r => by
    rename_i a xs ds
    cases (show u = Value.ref a from r)
    obtain ⟨its, rv, ⟨o, h1, h2, n, h3⟩, _⟩ := I.tuple h.sq
    exact .tup h1 h2 h3 (by simpa using KyL.nested I t rv)
theorem KyL.nested (I : Inv X pins σ H s) : ∀ {vs : List V} {ds : List D} {us : List Value}, KyL X.K H vs ds → Vals vs us → NestedAll s.heap (toKs ds) us
  | _, _, _, .nil, r => by cases r; exact .nil
  | _, _, _, .cons a b, r => by
    cases r with
    | cons r1 r2 => exact .cons (Ky.nested I a r1) (KyL.nested I b r2)
end
end
mutual
theorem Rp.ky {K : PySem.W.Frag} {H : Hp} : ∀ {v : V} {d : D} {F : List Addr}, Rp K H v d F → isKey d = true → Ky K H v d
  | _, _, _, .non, _ => .non
  | _, _, _, .int i, _ => .int i
  | _, _, _, .tup h r, k => .tup h (RpL.ky r k)
  | _, _, _, .bl _, k => by cases k
  | _, _, _, .str _, k => by cases k
  | _, _, _, .lst _ _, k => by cases k
  | _, _, _, .ro _ _, k => by cases k
  | _, _, _, .dK _ _ _, k => by cases k
  | _, _, _, .dT _ _ _, k => by cases k
theorem RpL.ky {K : PySem.W.Frag} {H : Hp} : ∀ {vs : List V} {ds : List D} {F : List Addr}, RpL K H vs ds F → isKeyL ds = true → KyL K H vs ds
  | _, _, _, .nil, _ => .nil
  | _, _, _, .cons r t, k => .cons (Rp.ky r (Bool.and_eq_true_iff.mp k).1) (RpL.ky t (Bool.and_eq_true_iff.mp k).2)
end
mutual
theorem Ky.rp {K : PySem.W.Frag} {H : Hp} : ∀ {v : V} {d : D}, Ky K H v d → Rp K H v d []
  | _, _, .non => .non
  | _, _, .int i => .int i
  | _, _, .tup h r => .tup h (KyL.rp r)
theorem KyL.rp {K : PySem.W.Frag} {H : Hp} : ∀ {vs : List V} {ds : List D}, KyL K H vs ds → RpL K H vs ds []
  | _, _, .nil => .nil
  | _, _, .cons a b => .cons (F := []) (G := []) (Ky.rp a) (KyL.rp b)
end
/-! ### what stands at a dict -/
def MutD (o : HO) : Prop := (∃ L, o = .dK L) ∨ ∃ a L, o = dkx a L
theorem MutD.mut {o : HO} (h : MutD o) : Mut (some o) := by
  rcases h with ⟨L, e⟩ | ⟨a, L, e⟩ <;> subst e <;> exact True.intro
theorem MutD.no {o : HO} (h : MutD o) : (∀ xs, o ≠ .tup xs) ∧ (∀ ob u, o ≠ .frz ob u) ∧ ∀ ps, o ≠ .tbl ps := by
  rcases h with ⟨L, e⟩ | ⟨a, L, e⟩ <;> subst e <;> refine ⟨fun _ z => ?_, fun _ _ z => ?_, fun _ z => ?_⟩ <;> (try unfold dkx at z) <;> cases z
theorem kyx_len {K : PySem.W.Frag} {H : Hp} : ∀ {L : List (NestedKey × Addr × V)} {ks : List D}, KyX K H L ks → L.length = ks.length
  | _, _, .nil => rfl
  | _, _, .cons _ _ t => congrArg Nat.succ (kyx_len t)
theorem kyx_ok {K : PySem.W.Frag} {H : Hp} : ∀ {L : List (NestedKey × Addr × V)} {ks : List D}, KyX K H L ks → ∀ k ∈ ks, tupK k = true
  | _, _, .nil, _, h => by cases h
  | _, _, .cons _ e t, k, h => by
    rcases List.mem_cons.mp h with z | z
    · rw [z]; exact e
    · exact kyx_ok t k z
theorem kyx_tup {K : PySem.W.Frag} {H : Hp} {L : List (NestedKey × Addr × V)} {ks : List D} (h : KyX K H L ks) : ∀ k ∈ ks, isTup k = true := fun k hk => by
  have := kyx_ok h k hk
  cases k <;> first | rfl | cases this
/-- a dict, whatever its keys -/
theorem dct_cases {K : PySem.W.Frag} {H : Hp} {v : V} {kvs : List (D × D)} {F : List Addr} (r : Rp K H v (.dict kvs) F) (hn : (∀ p ∈ kvs, atomK p.1 = true) ∨ ∀ p ∈ kvs, isTup p.1 = true) :
    ∃ a o Fv vs, v = .ref a ∧ F = a :: Fv ∧ H a = some o ∧ RpL K H vs (kvs.map (·.2)) Fv ∧
      ((∃ L, o = .dK L ∧ kvs.map (·.1) = L.map (fun p => keyD p.1) ∧ vs = L.map (·.2)) ∨ ∃ L, o = dkx a L ∧ KyX K H L (kvs.map (·.1)) ∧ vs = L.map fun p => p.2.2) := by
  cases r with
  | ro s r =>
    rcases hn with hn | hn
    · exact absurd (hn _ List.mem_cons_self) (fun z => by cases z)
    · exact absurd (hn _ List.mem_cons_self) (fun z => by cases z)
  | @dK a L ks vs F e1 e2 r =>
    have hl : ks.length = vs.length := by rw [e2, List.length_map, ← r.length, List.length_map]
    exact ⟨a, _, F, _, rfl, rfl, e1, by rw [List.map_snd_zip (by omega)]; exact r, .inl ⟨L, rfl, by rw [List.map_fst_zip (by omega)]; exact e2, rfl⟩⟩
  | @dT a L ks vs F e1 e2 r =>
    have hl : ks.length = vs.length := by rw [← kyx_len e2, ← r.length, List.length_map]
    exact ⟨a, _, F, _, rfl, rfl, e1, by rw [List.map_snd_zip (by omega)]; exact r, .inr ⟨L, rfl, by rw [List.map_fst_zip (by omega)]; exact e2, rfl⟩⟩
/-- the look of a dict whose keys are ints and texts -/
structure VA (X : Cx) (s : Shared) (a : Addr) (L : List (Key × V)) : Prop where
  le : L.length ≤ sizeLine
  ns : (a == sysModules) = false
  at_ : ∃ vs, KV L vs ∧ s.heap.DictOf (mixKind X.prog X.w) a vs
structure VB (X : Cx) (s : Shared) (a : Addr) (L : List (NestedKey × Addr × V)) : Prop where
  le : L.length ≤ sizeLine
  ns : (a == sysModules) = false
  at_ : ∃ xs, Paired PrX L xs ∧ s.heap.DictOfH (nestedKind X.prog X.w) a xs
section
variable {X : Cx} {pins : List (Addr × Obj)} {σ : L2.St} {H : Hp} {s : Shared} {a : Addr}
theorem va_of (I : Inv X pins σ H s) {L : List (Key × V)} (h : H a = some (.dK L)) : VA X s a L := by
  obtain ⟨z, n, vs, r, d⟩ := dk_of I.hok h
  exact ⟨z, n, vs, r, d⟩
theorem kyx_is (I : Inv X pins σ H s) : ∀ {L : List (NestedKey × Addr × V)} {xs : List (NestedKey × Addr × Value)} {ks : List D}, KyX X.K H L ks → Paired PrX L xs → ∀ x ∈ xs, (nestedKind X.prog X.w).is s.heap x.1 x.2.1
  | _, _, _, .nil, p, x, hx => by cases p; cases hx
  | _, _, _, .cons k e t, p, x, hx => by
    cases p with
    | cons q r =>
      rcases List.mem_cons.mp hx with z | z
      · subst z
        obtain ⟨q1, q2, _⟩ := q
        rw [← q1, ← q2]
        exact ⟨k.nested I rfl, (okKey_some e).2⟩
      · exact kyx_is I t r x z
theorem vb_of (I : Inv X pins σ H s) {L : List (NestedKey × Addr × V)} {ks : List D} (h : H a = some (dkx a L)) (hk : KyX X.K H L ks) : VB X s a L := by
  obtain ⟨⟨n, z, xs, r, nd, o, es, ep, h1, h2, h3, h4⟩, _⟩ := (show ObjOk X.prog X.w H s.heap a (dkx a L) from I.hok a _ h)
  exact ⟨z, n, xs, r, o, es, ep, h1, h2, h3, h4 X.w, kyx_is I hk r, nd⟩
theorem vb_nil (I : Inv X pins σ H s) (h : H a = some (.dK [])) : VB X s a [] := by
  obtain ⟨z, n, vs, r, o, es, ep, h1, h2, h3, h4, h5, h6⟩ := dk_of I.hok h
  cases r
  refine ⟨Nat.zero_le _, n, [], .nil, o, es, ep, h1, h2, h3, ?_, (fun x hx => nomatch hx), List.nodup_nil⟩
  cases he : es.toList with
  | nil => rfl
  | cons e es' => rw [he] at h5; cases h5
theorem va_nil (I : Inv X pins σ H s) (h : H a = some (dkx a [])) : VA X s a [] := by
  obtain ⟨⟨n, z, xs, r, nd, o, es, ep, h1, h2, h3, h4⟩, _⟩ := (show ObjOk X.prog X.w H s.heap a (dkx a []) from I.hok a _ h)
  cases r
  have h5 := h4 X.w
  refine ⟨Nat.zero_le _, n, [], .nil, o, es, ep, h1, h2, h3, ?_, ?_, List.nodup_nil⟩
  · intro e he
    have : es = #[] := by
      cases es with
      | mk l => 
        have : l = [] := h5
        rw [this]
    subst this
    simp at he
  · rw [show es.toList = [] from h5]
    exact .nil
end
end Pd
namespace Pd
open PySem PySem.Spec PyProof.Rows L2
/-! ### reading a dict -/
theorem dget_nil (k : D) : dget [] k = none := rfl
theorem dget_yes {p : D × D} {l : List (D × D)} {k : D} (h : PyData.eqv p.1 k = true) : dget (p :: l) k = some p.2 := by simp [dget, h]
theorem dget_no {p : D × D} {l : List (D × D)} {k : D} (h : PyData.eqv p.1 k = false) : dget (p :: l) k = dget l k := by simp [dget, h]
section
variable {K : PySem.W.Frag} {H : Hp}
theorem dget_A (k : Key) : ∀ {L : List (Key × V)} {kvs : List (D × D)} {Fv : List Addr}, kvs.map (·.1) = L.map (fun p => keyD p.1) → RpL K H (L.map (·.2)) (kvs.map (·.2)) Fv →
    (dget kvs (keyD k)).isSome = (valV L k).isSome ∧ ∀ d, dget kvs (keyD k) = some d → ∃ v G, valV L k = some v ∧ Rp K H v d G ∧ List.Sublist G Fv
  | [], kvs, Fv, h, r => by
    cases kvs with
    | nil => exact ⟨rfl, fun d e => by cases e⟩
    | cons p l => cases h
  | p :: L, [], Fv, h, r => by cases h
  | p :: L, q :: kvs, Fv, h, r => by
    rw [List.map_cons, List.map_cons] at h
    injection h with h1 h2
    rw [List.map_cons, List.map_cons] at r
    cases r with
    | @cons _ _ _ _ F1 F2 r1 r2 =>
      obtain ⟨i1, i2⟩ := dget_A k h2 r2
      by_cases e : p.1 = k
      · have e1 : PyData.eqv q.1 (keyD k) = true := by rw [h1, eqv_keyD, decide_eq_true e]
        rw [dget_yes e1, valV_pos e]
        exact ⟨rfl, fun d z => by cases z; exact ⟨_, F1, rfl, r1, List.sublist_append_left _ _⟩⟩
      · have e1 : PyData.eqv q.1 (keyD k) = false := by rw [h1, eqv_keyD, decide_eq_false e]
        rw [dget_no e1, valV_neg e]
        refine ⟨i1, fun d z => ?_⟩
        obtain ⟨v, G, a, b, c⟩ := i2 d z
        exact ⟨v, G, a, b, c.trans (List.sublist_append_right _ _)⟩
theorem atKey_yes {x : NestedKey × Addr × Value} {xs : List (NestedKey × Addr × Value)} {k : NestedKey} (h : x.1 = k) : atKey (x :: xs) k = some x.2 := by simp [atKey, h]
theorem atKey_no {x : NestedKey × Addr × Value} {xs : List (NestedKey × Addr × Value)} {k : NestedKey} (h : ¬ x.1 = k) : atKey (x :: xs) k = atKey xs k := by simp [atKey, h]
theorem dget_B {k : D} (hk : okKey k = true) : ∀ {L : List (NestedKey × Addr × V)} {xs : List (NestedKey × Addr × Value)} {kvs : List (D × D)} {Fv : List Addr}, KyX K H L (kvs.map (·.1)) → Paired PrX L xs → RpL K H (L.map fun p => p.2.2) (kvs.map (·.2)) Fv →
    (dget kvs k).isSome = (atKey xs (toK k)).isSome ∧ ∀ d, dget kvs k = some d → ∃ v G b u, atKey xs (toK k) = some (b, u) ∧ RelV v u ∧ Rp K H v d G ∧ List.Sublist G Fv
  | L, xs, [], Fv, h, p, r => by
    cases h
    cases p
    exact ⟨rfl, fun d e => by cases e⟩
  | L, xs, q :: kvs, Fv, h, p, r => by
    obtain ⟨qk, qv⟩ := q
    rw [List.map_cons] at h
    cases h with
    | @cons b e v L _ k1 k2 k3 =>
      cases p with
      | @cons _ x _ xs p1 p2 =>
        rw [List.map_cons, List.map_cons] at r
        cases r with
        | @cons _ _ _ _ F1 F2 r1 r2 =>
          obtain ⟨i1, i2⟩ := dget_B hk k3 p2 r2
          obtain ⟨x1, xb, xu⟩ := x
          obtain ⟨p3, p4, p5⟩ := p1
          have p3 : toK (.tuple e) = x1 := p3
          have ee := eqv_toK (okKey_some k2).1 (okKey_some hk).1
          by_cases z : toK (.tuple e) = toK k
          · have e1 : PyData.eqv (.tuple e) k = true := by rw [ee, decide_eq_true z]
            rw [dget_yes (p := (.tuple e, qv)) e1, atKey_yes (x := (x1, xb, xu)) (p3.symm.trans z)]
            exact ⟨rfl, fun d z => by cases z; exact ⟨_, F1, xb, xu, rfl, p5, r1, List.sublist_append_left _ _⟩⟩
          · have e1 : PyData.eqv (.tuple e) k = false := by rw [ee, decide_eq_false z]
            rw [dget_no (p := (.tuple e, qv)) e1, atKey_no (x := (x1, xb, xu)) (fun w => z (p3.trans w))]
            refine ⟨i1, fun d z => ?_⟩
            obtain ⟨v, G, b, u, a1, a2, a3, a4⟩ := i2 d z
            exact ⟨v, G, b, u, a1, a2, a3, a4.trans (List.sublist_append_right _ _)⟩
end
theorem keyFit_cases {kvs : List (D × D)} {k : D} (h : keyFit kvs k = true) : (atomK k = true ∧ ∀ p ∈ kvs, atomK p.1 = true) ∨ (tupK k = true ∧ ∀ p ∈ kvs, isTup p.1 = true) := by
  unfold keyFit at h
  rw [Bool.or_eq_true, Bool.and_eq_true, Bool.and_eq_true] at h
  rcases h with ⟨a, b⟩ | ⟨a, b⟩
  · exact .inl ⟨a, fun p hp => List.all_eq_true.mp b p hp⟩
  · exact .inr ⟨a, fun p hp => List.all_eq_true.mp b p hp⟩
theorem atom_not_tup {d : D} (h : atomK d = true) : isTup d = true → False := by cases d <;> first | (cases h; done) | (intro z; cases z)
section
variable {X : Cx} {pins : List (Addr × Obj)} {σ : L2.St} {H : Hp} {s : Shared} {v : V} {kvs : List (D × D)} {F : List Addr} {k : D} {x : V} {Fk : List Addr}
/-- a dict's two looks, with a key -/
inductive Look (X : Cx) (H : Hp) (s : Shared) (a : Addr) (kvs : List (D × D)) (Fv : List Addr) (x : V) (k : D) : Prop
  | atoms {L : List (Key × V)} : VA X s a L → x = kV (keyOf k) → k = keyD (keyOf k) → kvs.map (·.1) = L.map (fun p => keyD p.1) → RpL X.K H (L.map (·.2)) (kvs.map (·.2)) Fv → Look X H s a kvs Fv x k
  | tups {L : List (NestedKey × Addr × V)} {b : Addr} {e : List D} : VB X s a L → x = .ref b → k = .tuple e → okKey k = true → Ky X.K H x k → KyX X.K H L (kvs.map (·.1)) → RpL X.K H (L.map fun p => p.2.2) (kvs.map (·.2)) Fv → Look X H s a kvs Fv x k
theorem look (I : Inv X pins σ H s) (r : Rp X.K H v (.dict kvs) F) (rk : Rp X.K H x k Fk) (h : keyFit kvs k = true) : ∃ a o Fv, v = .ref a ∧ F = a :: Fv ∧ H a = some o ∧ MutD o ∧ Look X H s a kvs Fv x k := by
  rcases keyFit_cases h with ⟨ha, hall⟩ | ⟨ha, hall⟩
  · obtain ⟨a, o, Fv, vs, rfl, rfl, ho, rv, w⟩ := dct_cases r (.inl hall)
    have hx : x = kV (keyOf k) := by
      cases k <;> first | (cases ha; done) | (cases rk; rfl)
    rcases w with ⟨L, rfl, e1, rfl⟩ | ⟨L, rfl, e1, rfl⟩
    · exact ⟨a, _, Fv, rfl, rfl, ho, .inl ⟨L, rfl⟩, .atoms (va_of I ho) hx (keyD_of ha).symm e1 rv⟩
    · have e2 : kvs = [] := by
        cases kvs with
        | nil => rfl
        | cons p l => exact (atom_not_tup (hall p List.mem_cons_self) (kyx_tup e1 p.1 (by simp))).elim
      subst e2
      cases e1
      exact ⟨a, _, Fv, rfl, rfl, ho, .inr ⟨a, [], rfl⟩, .atoms (L := []) (va_nil I ho) hx (keyD_of ha).symm rfl rv⟩
  · obtain ⟨a, o, Fv, vs, rfl, rfl, ho, rv, w⟩ := dct_cases r (.inr hall)
    cases k <;> first | (cases ha; done) | skip
    rename_i e
    have ha : okKey (.tuple e) = true := ha
    have hky : Ky X.K H x (.tuple e) := rk.ky (okKey_some ha).1
    obtain ⟨b, rfl⟩ : ∃ b, x = .ref b := by
      cases rk
      exact ⟨_, rfl⟩
    rcases w with ⟨L, rfl, e1, rfl⟩ | ⟨L, rfl, e1, rfl⟩
    · have e2 : kvs = [] := by
        cases kvs with
        | nil => rfl
        | cons p l =>
          exfalso
          cases L with
          | nil => cases e1
          | cons q L =>
            rw [List.map_cons, List.map_cons] at e1
            injection e1 with e1 _
            exact atom_not_tup (d := p.1) (by rw [e1]; exact atomK_keyD _) (hall p List.mem_cons_self)
      subst e2
      have e3 : L = [] := by
        cases L with
        | nil => rfl
        | cons q L => cases e1
      subst e3
      exact ⟨a, _, Fv, rfl, rfl, ho, .inl ⟨[], rfl⟩, .tups (L := []) (vb_nil I ho) rfl rfl ha hky .nil rv⟩
    · exact ⟨a, _, Fv, rfl, rfl, ho, .inr ⟨a, L, rfl⟩, .tups (vb_of I ho e1) rfl rfl ha hky e1 rv⟩
def rDin (K : PySem.W.Frag) (f : Bool → Bool) : R2 := fun x y H Q => ∃ kvs F k Fk, Rp K H y (.dict kvs) F ∧ Rp K H x k Fk ∧ keyFit kvs k = true ∧ Q (.bl (f (dget kvs k).isSome)) H
theorem op_din (hu : X.A.units + 64 < cLine) : OpR X (compareOp .In) (rDin X.K fun b => b) := by
  intro pins s σ H x y u v Q I rx ry h
  obtain ⟨kvs, F, k, Fk, r, rk, hf, q⟩ := h
  obtain ⟨a, o, Fv, rfl, rfl, ho, hm, lk⟩ := look I r rk hf
  cases (show v = Value.ref a from ry)
  cases lk with
  | @atoms L va hx hk e1 rv =>
    subst hx
    obtain ⟨vs, kv, dd⟩ := va.at_
    refine wpAny_in_of (kV_is rx) va.ns dd.mapOf ?_
    rw [← (kv.val (keyOf k)).isSome_eq, ← (dget_A (keyOf k) e1 rv).1, ← hk]
    exact ⟨.bl _, H, I.tok _, rfl, q⟩
  | @tups L b e vb hx hk ok ky e1 rv =>
    subst hx
    cases (show u = Value.ref b from rx)
    obtain ⟨xs, pr, dd⟩ := vb.at_
    refine wpAny_in_heap (knd := nestedKind X.prog X.w) (k := toK k) (show X.A.in1.units + 8 < cLine by rw [Around.in1_units]; omega) ⟨ky.nested I rfl, (okKey_some ok).2⟩ vb.ns dd ?_
    rw [← (dget_B ok e1 pr rv).1]
    exact ⟨.bl _, H, I.tok _, rfl, q⟩
theorem op_dnotin (hu : X.A.units + 64 < cLine) : OpR X (compareOp .NotIn) (rDin X.K fun b => !b) := by
  intro pins s σ H x y u v Q I rx ry h
  obtain ⟨kvs, F, k, Fk, r, rk, hf, q⟩ := h
  obtain ⟨a, o, Fv, rfl, rfl, ho, hm, lk⟩ := look I r rk hf
  cases (show v = Value.ref a from ry)
  cases lk with
  | @atoms L va hx hk e1 rv =>
    subst hx
    obtain ⟨vs, kv, dd⟩ := va.at_
    refine wpAny_notIn_of (kV_is rx) va.ns dd.mapOf ?_
    rw [← (kv.val (keyOf k)).isSome_eq, ← (dget_A (keyOf k) e1 rv).1, ← hk]
    exact ⟨.bl _, H, I.tok _, rfl, q⟩
  | @tups L b e vb hx hk ok ky e1 rv =>
    subst hx
    cases (show u = Value.ref b from rx)
    obtain ⟨xs, pr, dd⟩ := vb.at_
    refine wpAny_notIn_heap (knd := nestedKind X.prog X.w) (k := toK k) (show X.A.in1.units + 8 < cLine by rw [Around.in1_units]; omega) ⟨ky.nested I rfl, (okKey_some ok).2⟩ vb.ns dd ?_
    rw [← (dget_B ok e1 pr rv).1]
    exact ⟨.bl _, H, I.tok _, rfl, q⟩
end
/-- in, not in -/
def inX : D → D → R D
  | x, .dict kvs => if keyFit kvs x = true then .ok (.bool (dget kvs x).isSome) else .stuck
  | x, y => inD x y
def notInX : D → D → R D
  | x, .dict kvs => if keyFit kvs x = true then .ok (.bool (!(dget kvs x).isSome)) else .stuck
  | x, y => notInD x y
theorem inX_d (x : D) (kvs : List (D × D)) : inX x (.dict kvs) = if keyFit kvs x = true then .ok (.bool (dget kvs x).isSome) else .stuck := by cases x <;> rfl
theorem notInX_d (x : D) (kvs : List (D × D)) : notInX x (.dict kvs) = if keyFit kvs x = true then .ok (.bool (!(dget kvs x).isSome)) else .stuck := by cases x <;> rfl
theorem inX_o {x y : D} (h : ∀ kvs, y ≠ .dict kvs) : inX x y = inD x y := by cases x <;> cases y <;> first | rfl | exact absurd rfl (h _)
theorem notInX_o {x y : D} (h : ∀ kvs, y ≠ .dict kvs) : notInX x y = notInD x y := by cases x <;> cases y <;> first | rfl | exact absurd rfl (h _)
section
variable {X : Cx} {T : List Addr}
theorem b_inX (hu : X.A.units + 65 < cLine) : BinD X T (compareOp .In) inX where
  nox := fun x y => by
    by_cases h : ∃ kvs, y = .dict kvs
    · obtain ⟨kvs, rfl⟩ := h
      rw [inX_d]
      exact noxI noxO noxS
    · rw [inX_o fun kvs e => h ⟨kvs, e⟩]
      exact (b_in (T := T) hu).nox x y
  ex := by
    obtain ⟨nox, r, ho, hr⟩ := b_in (X := X) (T := T) hu
    refine ⟨_, or_or ho (op_din (by omega)), fun H x y dx dy Fx Fy Q rx ry h => ?_⟩
    by_cases z : ∃ kvs, dy = .dict kvs
    · obtain ⟨kvs, rfl⟩ := z
      rw [inX_d] at h
      obtain ⟨hk, h⟩ := satI h
      exact .inr ⟨kvs, Fy, dx, Fx, ry, rx, hk, h _ H [] .refl (.bl _) .nil⟩
    · rw [inX_o fun kvs e => z ⟨kvs, e⟩] at h
      exact .inl (hr H x y dx dy Fx Fy Q rx ry h)
theorem b_notInX (hu : X.A.units + 65 < cLine) : BinD X T (compareOp .NotIn) notInX where
  nox := fun x y => by
    by_cases h : ∃ kvs, y = .dict kvs
    · obtain ⟨kvs, rfl⟩ := h
      rw [notInX_d]
      exact noxI noxO noxS
    · rw [notInX_o fun kvs e => h ⟨kvs, e⟩]
      exact (b_notIn (T := T) hu).nox x y
  ex := by
    obtain ⟨nox, r, ho, hr⟩ := b_notIn (X := X) (T := T) hu
    refine ⟨_, or_or ho (op_dnotin (by omega)), fun H x y dx dy Fx Fy Q rx ry h => ?_⟩
    by_cases z : ∃ kvs, dy = .dict kvs
    · obtain ⟨kvs, rfl⟩ := z
      rw [notInX_d] at h
      obtain ⟨hk, h⟩ := satI h
      exact .inr ⟨kvs, Fy, dx, Fx, ry, rx, hk, h _ H [] .refl (.bl _) .nil⟩
    · rw [notInX_o fun kvs e => z ⟨kvs, e⟩] at h
      exact .inl (hr H x y dx dy Fx Fy Q rx ry h)
end
theorem imm_inX {x y z : D} (h : inX x y = .ok z) : imm z = true := by
  by_cases w : ∃ kvs, y = .dict kvs
  · obtain ⟨kvs, rfl⟩ := w
    rw [inX_d] at h
    split at h <;> cases h
    rfl
  · rw [inX_o fun kvs e => w ⟨kvs, e⟩] at h
    exact im_in x y z h
theorem imm_notInX {x y z : D} (h : notInX x y = .ok z) : imm z = true := by
  by_cases w : ∃ kvs, y = .dict kvs
  · obtain ⟨kvs, rfl⟩ := w
    rw [notInX_d] at h
    split at h <;> cases h
    rfl
  · rw [notInX_o fun kvs e => w ⟨kvs, e⟩] at h
    exact im_notIn x y z h
end Pd
namespace Pd
open PySem PySem.Spec PyProof.Rows L2
/-! ### storing into a dict -/
def dputR : List (D × D) → D → D → List (D × D)
  | [], k, v => [(k, v)]
  | p :: l, k, v => if PyData.eqv p.1 k = true then (p.1, v) :: l else p :: dputR l k v
def putR : List (Key × V) → Key → V → List (Key × V)
  | [], k, v => [(k, v)]
  | p :: l, k, v => if p.1 = k then (p.1, v) :: l else p :: putR l k v
def putX : List (NestedKey × Addr × V) → NestedKey → Addr → V → List (NestedKey × Addr × V)
  | [], k, b, v => [(k, b, v)]
  | p :: l, k, b, v => if p.1 = k then (p.1, p.2.1, v) :: l else p :: putX l k b v
def putH : List (NestedKey × Addr × Value) → NestedKey → Addr → Value → List (NestedKey × Addr × Value)
  | [], k, b, v => [(k, b, v)]
  | p :: l, k, b, v => if p.1 = k then (p.1, p.2.1, v) :: l else p :: putH l k b v
theorem putR_eq : ∀ {L : List (Key × V)} {k : Key} {v : V}, (L.map (·.1)).Nodup → putK L k v = putR L k v
  | [], k, v, _ => rfl
  | p :: l, k, v, h => by
    rw [List.map_cons, List.nodup_cons] at h
    by_cases e : p.1 = k
    · have h2 : l.map (fun kv => if kv.1 = k then (kv.1, v) else kv) = l := by
        have : ∀ q ∈ l, (if q.1 = k then (q.1, v) else q) = q := fun q hq => if_neg fun z => h.1 (by rw [e, ← z]; exact List.mem_map.mpr ⟨q, hq, rfl⟩)
        rw [List.map_congr_left this]
        exact List.map_id' l
      unfold putK putR
      rw [if_pos (by rw [List.any_cons, decide_eq_true e]; rfl), if_pos e, List.map_cons, if_pos e, h2]
    · unfold putR
      rw [if_neg e, ← putR_eq h.2]
      unfold putK
      rw [List.any_cons, decide_eq_false e, Bool.false_or]
      split
      · rw [List.map_cons, if_neg e]
      · rfl
theorem putH_eq : ∀ {L : List (NestedKey × Addr × Value)} {k : NestedKey} {b : Addr} {v : Value}, (L.map (·.1)).Nodup → storedH L k b v = putH L k b v
  | [], k, b, v, _ => rfl
  | p :: l, k, b, v, h => by
    rw [List.map_cons, List.nodup_cons] at h
    by_cases e : p.1 = k
    · have h2 : l.map (putAt k v) = l := by
        have : ∀ q ∈ l, putAt k v q = q := fun q hq => if_neg fun z => h.1 (by rw [e, ← z]; exact List.mem_map.mpr ⟨q, hq, rfl⟩)
        rw [List.map_congr_left this]
        exact List.map_id' l
      unfold putH
      rw [storedH_old (atKey_yes e), if_pos e, List.map_cons, h2]
      unfold putAt
      rw [if_pos e]
    · unfold putH
      rw [if_neg e, ← putH_eq h.2]
      unfold storedH
      rw [atKey_no e]
      split
      · rw [List.map_cons]
        congr 1
        exact if_neg e
      · rfl
theorem prx_put {v : V} {u : Value} (r : RelV v u) (k : NestedKey) (b : Addr) : ∀ {L : List (NestedKey × Addr × V)} {xs : List (NestedKey × Addr × Value)}, Paired PrX L xs → Paired PrX (putX L k b v) (putH xs k b u)
  | _, _, .nil => .cons ⟨rfl, rfl, r⟩ .nil
  | _, _, @Paired.cons _ _ _ p q _ _ h t => by
    unfold putX putH
    by_cases e : p.1 = k
    · rw [if_pos e, if_pos (h.1.symm.trans e)]
      exact .cons ⟨h.1, h.2.1, r⟩ t
    · rw [if_neg e, if_neg fun z => e (h.1.trans z)]
      exact .cons h (prx_put r k b t)
theorem kvR_put {v : V} {u : Value} (r : RelV v u) {L : List (Key × V)} {vs : List (Key × Value)} (k : Key) (h : KV L vs) : KV (putK L k v) (stored vs k u) := h.put k r
section
variable {K : PySem.W.Frag} {H : Hp}
/-- values and keys behind a store, a dict of ints and texts -/
theorem putA (k : Key) {v : V} {d : D} {G : List Addr} (rv : Rp K H v d G) : ∀ {L : List (Key × V)} {kvs : List (D × D)} {Fv : List Addr}, kvs.map (·.1) = L.map (fun p => keyD p.1) → RpL K H (L.map (·.2)) (kvs.map (·.2)) Fv →
    (dputR kvs (keyD k) d).map (·.1) = (putR L k v).map (fun p => keyD p.1) ∧ ∃ F2, RpL K H ((putR L k v).map (·.2)) ((dputR kvs (keyD k) d).map (·.2)) F2 ∧ (∀ b ∈ F2, b ∈ Fv ∨ b ∈ G) ∧ ((Fv ++ G).Nodup → F2.Nodup)
  | [], kvs, Fv, h, r => by
    cases kvs with
    | nil =>
      cases r
      exact ⟨rfl, G ++ [], .cons rv .nil, fun b hb => .inr (by simpa using hb), fun nd => by simpa using nd⟩
    | cons p l => cases h
  | p :: L, [], Fv, h, r => by cases h
  | p :: L, q :: kvs, Fv, h, r => by
    rw [List.map_cons, List.map_cons] at h
    injection h with h1 h2
    rw [List.map_cons, List.map_cons] at r
    cases r with
    | @cons _ _ _ _ F1 F2 r1 r2 =>
      unfold dputR putR
      by_cases e : p.1 = k
      · have e1 : PyData.eqv q.1 (keyD k) = true := by rw [h1, eqv_keyD, decide_eq_true e]
        rw [if_pos e, if_pos e1]
        refine ⟨by rw [List.map_cons, List.map_cons, h1, h2], G ++ F2, .cons rv r2, fun b hb => (List.mem_append.mp hb).elim .inr fun z => .inl (List.mem_append_right _ z), fun nd => ?_⟩
        obtain ⟨n1, n2, n3⟩ := List.nodup_append.mp nd
        obtain ⟨m1, m2, m3⟩ := List.nodup_append.mp n1
        exact List.nodup_append.mpr ⟨n2, m2, fun a ha b hb z => n3 b (List.mem_append_right _ hb) a ha z.symm⟩
      · have e1 : ¬ PyData.eqv q.1 (keyD k) = true := by rw [h1, eqv_keyD, decide_eq_false e]; decide
        rw [if_neg e, if_neg e1]
        obtain ⟨i1, F3, i2, i3, i4⟩ := putA k rv h2 r2
        refine ⟨by rw [List.map_cons, List.map_cons, h1, i1], F1 ++ F3, .cons r1 i2, fun b hb => ?_, fun nd => ?_⟩
        · rcases List.mem_append.mp hb with z | z
          · exact .inl (List.mem_append_left _ z)
          · exact (i3 b z).imp (List.mem_append_right _) id
        · obtain ⟨n1, n2, n3⟩ := List.nodup_append.mp nd
          obtain ⟨m1, m2, m3⟩ := List.nodup_append.mp n1
          refine List.nodup_append.mpr ⟨m1, i4 (List.nodup_append.mpr ⟨m2, n2, fun a ha b hb z => n3 a (List.mem_append_right _ ha) b hb z⟩), fun a ha b hb z => ?_⟩
          rcases i3 b hb with w | w
          · exact m3 a ha b w z
          · exact n3 a (List.mem_append_left _ ha) b w z
/-- .. of tuples -/
theorem putB {b : Addr} {e : List D} (hk : okKey (.tuple e) = true) (ky : Ky K H (.ref b) (.tuple e)) {v : V} {d : D} {G : List Addr} (rv : Rp K H v d G) : ∀ {L : List (NestedKey × Addr × V)} {kvs : List (D × D)} {Fv : List Addr}, KyX K H L (kvs.map (·.1)) → RpL K H (L.map fun p => p.2.2) (kvs.map (·.2)) Fv →
    KyX K H (putX L (toK (.tuple e)) b v) ((dputR kvs (.tuple e) d).map (·.1)) ∧ ∃ F2, RpL K H ((putX L (toK (.tuple e)) b v).map fun p => p.2.2) ((dputR kvs (.tuple e) d).map (·.2)) F2 ∧ (∀ b ∈ F2, b ∈ Fv ∨ b ∈ G) ∧ ((Fv ++ G).Nodup → F2.Nodup)
  | L, [], Fv, h, r => by
    cases h
    cases r
    exact ⟨.cons ky hk .nil, G ++ [], .cons rv .nil, fun b hb => .inr (by simpa using hb), fun nd => by simpa using nd⟩
  | L, q :: kvs, Fv, h, r => by
    obtain ⟨qk, qv⟩ := q
    rw [List.map_cons] at h
    cases h with
    | @cons c f w L _ k1 k2 k3 =>
      rw [List.map_cons, List.map_cons] at r
      cases r with
      | @cons _ _ _ _ F1 F2 r1 r2 =>
        have ee := eqv_toK (okKey_some k2).1 (okKey_some hk).1
        unfold dputR putX
        by_cases z : toK (.tuple f) = toK (.tuple e)
        · have e1 : PyData.eqv (.tuple f) (.tuple e) = true := by rw [ee, decide_eq_true z]
          rw [if_pos (by exact z), if_pos (by exact e1)]
          refine ⟨.cons k1 k2 k3, G ++ F2, .cons rv r2, fun b hb => (List.mem_append.mp hb).elim .inr fun z => .inl (List.mem_append_right _ z), fun nd => ?_⟩
          obtain ⟨n1, n2, n3⟩ := List.nodup_append.mp nd
          obtain ⟨m1, m2, m3⟩ := List.nodup_append.mp n1
          exact List.nodup_append.mpr ⟨n2, m2, fun a ha b hb z => n3 b (List.mem_append_right _ hb) a ha z.symm⟩
        · have e1 : ¬ PyData.eqv (.tuple f) (.tuple e) = true := by rw [ee, decide_eq_false z]; decide
          rw [if_neg (by exact z), if_neg (by exact e1)]
          obtain ⟨i1, F3, i2, i3, i4⟩ := putB hk ky rv k3 r2
          refine ⟨.cons k1 k2 i1, F1 ++ F3, .cons r1 i2, fun b hb => ?_, fun nd => ?_⟩
          · rcases List.mem_append.mp hb with z | z
            · exact .inl (List.mem_append_left _ z)
            · exact (i3 b z).imp (List.mem_append_right _) id
          · obtain ⟨n1, n2, n3⟩ := List.nodup_append.mp nd
            obtain ⟨m1, m2, m3⟩ := List.nodup_append.mp n1
            refine List.nodup_append.mpr ⟨m1, i4 (List.nodup_append.mpr ⟨m2, n2, fun a ha b hb z => n3 a (List.mem_append_right _ ha) b hb z⟩), fun a ha b hb z => ?_⟩
            rcases i3 b hb with w | w
            · exact m3 a ha b w z
            · exact n3 a (List.mem_append_left _ ha) b w z
end
mutual
theorem hash_any (w w' : World) : ∀ d : D, isKey d = true → (toK d).hash w = (toK d).hash w'
  | .none, _ => rfl
  | .int _, _ => rfl
  | .tuple xs, h => by
    simp only [toK, NestedKey.hash]
    rw [hashes_any w w' xs h]
  | .bool _, h => by cases h
  | .str _, h => by cases h
  | .list _, h => by cases h
  | .dict _, h => by cases h
theorem hashes_any (w w' : World) : ∀ xs : List D, isKeyL xs = true → NestedKey.hashes w (toKs xs) = NestedKey.hashes w' (toKs xs)
  | [], _ => rfl
  | x :: xs, h => by
    obtain ⟨a, b⟩ := Bool.and_eq_true_iff.mp h
    simp only [toKs, NestedKey.hashes]
    rw [hash_any w w' x a, hashes_any w w' xs b]
end
theorem kyx_hash {K : PySem.W.Frag} {H : Hp} (w w' : World) : ∀ {L : List (NestedKey × Addr × V)} {xs : List (NestedKey × Addr × Value)} {ks : List D}, KyX K H L ks → Paired PrX L xs → ∀ x ∈ xs, x.1.hash w = x.1.hash w'
  | _, _, _, .nil, p, x, hx => by cases p; cases hx
  | _, _, _, .cons k e t, p, x, hx => by
    cases p with
    | cons q r =>
      rcases List.mem_cons.mp hx with z | z
      · subst z
        rw [← q.1]
        exact hash_any w w' _ (okKey_some e).1
      · exact kyx_hash w w' t r x z
theorem putR_len (k : Key) (v : V) : ∀ L : List (Key × V), (putR L k v).length ≤ L.length + 1
  | [] => Nat.le_refl _
  | p :: l => by
    unfold putR
    split
    · simp
    · have := putR_len k v l
      simp only [List.length_cons]
      omega
theorem putX_len (k : NestedKey) (b : Addr) (v : V) : ∀ L : List (NestedKey × Addr × V), (putX L k b v).length ≤ L.length + 1
  | [] => Nat.le_refl _
  | p :: l => by
    unfold putX
    split
    · simp
    · have := putX_len k b v l
      simp only [List.length_cons]
      omega
theorem put_kp {H : Hp} {a : Addr} {o o' : HO} {S : List Addr} (h : H a = some o) (m : MutD o) (ha : a ∉ S) : Kp H (upd H a o') S :=
  ⟨fun b xs e => by rw [upd_ne fun z => by rw [z, h] at e; exact m.no.1 _ (Option.some.inj e)]; exact e, fun b ob u e => by rw [upd_ne fun z => by rw [z, h] at e; exact m.no.2.1 _ _ (Option.some.inj e)]; exact e, fun b hb => upd_ne fun z => ha (z ▸ hb)⟩
theorem zip_fs : ∀ kvs : List (D × D), (kvs.map (·.1)).zip (kvs.map (·.2)) = kvs
  | [] => rfl
  | p :: l => by rw [List.map_cons, List.map_cons, List.zip_cons_cons, zip_fs l]
theorem rp_dict {K : PySem.W.Frag} {H : Hp} {v : V} {kvs : List (D × D)} {F : List Addr} (r : Rp K H v (.dict ((kvs.map (·.1)).zip (kvs.map (·.2)))) F) : Rp K H v (.dict kvs) F := by
  rw [zip_fs] at r
  exact r
end Pd
namespace Pd
open PySem PySem.Spec PyProof.Rows L2
def rSetD (K : PySem.W.Frag) : V → V → V → Hp → (Hp → Prop) → Prop := fun o i v H Q => ∃ kvs F k Fk d G, Rp K H o (.dict kvs) F ∧ Rp K H i k Fk ∧ Rp K H v d G ∧ keyFit kvs k = true ∧ kvs.length < 16777216 ∧ (∀ a Fv, F = a :: Fv → a ∉ Fv ∧ a ∉ G) ∧
  ∀ a ob ob' Fv F2, o = .ref a → F = a :: Fv → H a = some ob → MutD ob → MutD ob' → Rp K (upd H a ob') (.ref a) (.dict (dputR kvs k d)) (a :: F2) → (∀ b ∈ F2, b ∈ Fv ∨ b ∈ G) → ((Fv ++ G).Nodup → F2.Nodup) → Q (upd H a ob')
theorem set_dict {X : Cx} (hu : X.A.units + 64 < cLine) : PSet X (rSetD X.K) := by
  intro pins s σ H o i v ov iv u Q I ro ri rv h
  obtain ⟨kvs, F, k, Fk, d, G, r, rk, rd, hf, hz, hn, q⟩ := h
  obtain ⟨a, ob, Fv, rfl, rfl, ho, hm, lk⟩ := look I r rk hf
  obtain ⟨n1, n2⟩ := hn a Fv rfl
  cases (show ov = Value.ref a from ro)
  have hz' : kvs.length < sizeLine := by rw [sz16]; exact hz
  cases lk with
  | @atoms L va hx hk e1 rl =>
    subst hx
    obtain ⟨vs, kv, dd⟩ := va.at_
    have hl : L.length = kvs.length := by simpa using (congrArg List.length e1).symm
    have hv : vs.length ≤ sizeLine := by rw [← kv.length]; exact va.le
    have hnd : (L.map (·.1)).Nodup := by
      obtain ⟨_, _, _, _, _, _, _, _, nd⟩ := dd
      rw [kv.keys]; exact nd
    refine wpAny_setItem_pairs (hsz := hv) (kV_is ri) dd fun h' dd' hs => ?_
    have he : ∃ q, h'.get? a = some q := let ⟨q, _, _, hq, _⟩ := dd'; ⟨q, hq⟩
    have hl2 : (putK L (keyOf k) v).length ≤ sizeLine := by have := length_putK L (keyOf k) v; omega
    refine ⟨upd H a (.dK (putK L (keyOf k) v)), d_write I (by rw [ho]; exact hm.mut) hs he (dk_new hl2 va.ns (kv.put (keyOf k) rv) dd'), ?_⟩
    obtain ⟨p1, F2, p2, p3, p4⟩ := putA (keyOf k) rd e1 rl
    rw [← hk] at p1 p2
    refine q a ob (.dK (putK L (keyOf k) v)) Fv F2 rfl rfl ho hm (.inl ⟨_, rfl⟩) ?_ p3 p4
    have nF : a ∉ F2 := fun z => (p3 a z).elim n1 n2
    rw [putR_eq hnd]
    refine rp_dict (.dK upd_same p1 ?_)
    exact p2.kp (put_kp ho hm nF)
  | @tups L b e vb hx hk ok ky e1 rl =>
    subst hx hk
    cases (show iv = Value.ref b from ri)
    obtain ⟨xs, pr, dd⟩ := vb.at_
    have hl : L.length = kvs.length := by simpa using kyx_len e1
    have hv : xs.length ≤ sizeLine := by rw [← Paired.length pr]; exact vb.le
    have hnd := dd.nodup
    refine wpAny_setItem_heap (hsz := hv) (knd := nestedKind X.prog X.w) (k := toK (.tuple e)) (show X.A.in1.units + 8 < cLine by rw [Around.in1_units]; omega) ⟨ky.nested I rfl, (okKey_some ok).2⟩ dd fun h' dd' hs => ?_
    obtain ⟨p1, F2, p2, p3, p4⟩ := putB ok ky rd e1 rl
    rw [putH_eq hnd] at dd'
    obtain ⟨o', es, ep, g1, g2, g3, g4, g5, g6⟩ := dd'
    have hl2 : (putX L (toK (.tuple e)) b v).length ≤ sizeLine := by have := putX_len (toK (.tuple e)) b v L; omega
    have px := prx_put rv (toK (.tuple e)) b pr
    refine ⟨upd H a (dkx a (putX L (toK (.tuple e)) b v)), d_write I (by rw [ho]; exact hm.mut) hs ⟨o', g1⟩ ⟨⟨vb.ns, hl2, _, px, g6, o', es, ep, g1, g2, g3, fun w => ?_⟩, ⟨o', g1⟩, fun h1 h2 ph kp => ?_⟩, ?_⟩
    · rw [g4]
      refine List.map_congr_left fun x hx => ?_
      have e2 : x.1.hash X.w = x.1.hash w := kyx_hash X.w w p1 px x hx
      unfold entryOfKey entX
      rw [← e2]
      rfl
    · obtain ⟨a1, a2, xs', a3, a4, o2, es2, ep2, a5, a6⟩ := ph
      exact ⟨a1, a2, xs', a3, a4, o2, es2, ep2, kp _ a5, a6⟩
    · refine q a ob (dkx a (putX L (toK (.tuple e)) b v)) Fv F2 rfl rfl ho hm (.inr ⟨a, _, rfl⟩) ?_ p3 p4
      have nF : a ∉ F2 := fun z => (p3 a z).elim n1 n2
      refine rp_dict (.dT upd_same (p1.mono fun c xs hc => ?_) (p2.kp (put_kp ho hm nF)))
      exact (put_kp (S := []) ho hm (fun z => nomatch z)).nt hc
theorem PSet.or {X : Cx} {t t' : TSet} (h : PSet X t) (h' : PSet X t') : PSet X (fun o i v H Q => t o i v H Q ∨ t' o i v H Q) := by
  intro pins s σ H o i v ov iv u Q I ro ri rv q
  rcases q with q | q
  · exact h pins s σ H o i v ov iv u Q I ro ri rv q
  · exact h' pins s σ H o i v ov iv u Q I ro ri rv q
/-- an owned object is changed -/
theorem ER.updO {K : PySem.W.Frag} {C : Cc} {O O' : Own} {H : Hp} {σ : L2.St} {ρ : Env} {Fs : Nat → List Addr} {i : Nat} {a : Addr} {d' : D} {o o' : HO} {F F2 : List Addr} (er : ER K C O H σ ρ Fs) (ho : i ∈ O) (hl : i ∉ C.ls) (hs : σ[i]? = some (some (.ref a))) (hF : Fs i = a :: F) (hH : H a = some o)
    (no : (∀ xs, o ≠ .tup xs) ∧ (∀ ob u, o ≠ .frz ob u) ∧ ∀ ps, o ≠ .tbl ps) (r : Rp K (L2.upd H a o') (.ref a) d' (a :: F2)) (nd : (a :: F2).Nodup) (sub : ∀ b ∈ F2, b ∈ F ∨ (C.H0 b = none ∧ (∀ j, b ∉ Fs j) ∧ ∀ l ∈ C.lk, b ∉ l.F)) (hO : ∀ j ∈ O', j ∈ O) :
    ∃ Fs', ER K C O' (L2.upd H a o') σ (ρ.put i d') Fs' := by
  obtain ⟨nd0, fr0, se0⟩ := er.own i ho
  have ha0 : C.H0 a = none := fr0 a (by rw [hF]; exact List.mem_cons_self)
  have nt : ∀ b xs, H b = some (.tup xs) → b ≠ a := fun b ys e z => by rw [z, hH] at e; exact no.1 _ (Option.some.inj e)
  have nf : ∀ b o u, H b = some (.frz o u) → b ≠ a := fun b o u e z => by rw [z, hH] at e; exact no.2.1 _ _ (Option.some.inj e)
  have nb : ∀ b ps, H b = some (.tbl ps) → b ≠ a := fun b ps e z => by rw [z, hH] at e; exact no.2.2 _ (Option.some.inj e)
  have kp : ∀ S : List Addr, a ∉ S → Kp H (L2.upd H a o') S := fun S h => ⟨fun b ys e => by rw [upd_ne (nt _ _ e)]; exact e, fun b o u e => by rw [upd_ne (nf _ _ _ e)]; exact e, fun b hb => upd_ne fun z => h (z ▸ hb)⟩
  have hi : i < σ.length := (List.getElem?_eq_some_iff.mp hs).1
  have hlr : i < ρ.length := by rw [← er.len]; exact hi
  obtain ⟨na, nd2⟩ := List.nodup_cons.mp nd
  have so : ∀ l ∈ C.lk, l.so ≠ some i := fun l hm z => hl ((er.lks l hm).st i z)
  refine ⟨fun j => if j = i then a :: F2 else Fs j, by simp [Env.put, er.len], fun j d h => ?_, fun j h => ?_, fun j hj => ?_, fun P hP => ?_, ⟨fun b o e n => ?_, fun b e => ?_, fun t P hP => ?_⟩, fun l hm => ?_⟩
  · rcases put_at h with ⟨rfl, _, rfl⟩ | ⟨e, h⟩
    · exact ⟨_, hs, by rw [if_pos rfl]; exact r⟩
    · obtain ⟨v, h1, r'⟩ := er.rep j d h
      refine ⟨v, h1, ?_⟩
      rw [if_neg e]
      exact r'.kp (kp _ fun z => se0 j e a (by rw [hF]; exact List.mem_cons_self) z)
  · by_cases e : j = i
    · subst e
      exact absurd (show (ρ.put j d')[j]? = some (some d') by unfold Env.put; rw [List.getElem?_set_self hlr]) (h _)
    · show (if j = i then a :: F2 else Fs j) = []
      rw [if_neg e]
      exact er.emp j fun d2 => by rw [← put_ne (d := d') e]; exact h d2
  · by_cases e : j = i
    · subst e
      rw [if_pos rfl]
      refine ⟨nd, fun b hb => ?_, fun j' e' b hb => ?_⟩
      · rcases List.mem_cons.mp hb with z | z
        · rw [z]; exact ha0
        · rcases sub b z with w | w
          · exact fr0 b (by rw [hF]; exact List.mem_cons_of_mem _ w)
          · exact w.1
      · rw [if_neg e']
        rcases List.mem_cons.mp hb with z | z
        · rw [z]; exact se0 j' e' a (by rw [hF]; exact List.mem_cons_self)
        · rcases sub b z with w | w
          · exact se0 j' e' b (by rw [hF]; exact List.mem_cons_of_mem _ w)
          · exact w.2.1 j'
    · obtain ⟨p, q, s⟩ := er.own j (hO j hj)
      rw [if_neg e]
      refine ⟨p, q, fun j' e' b hb => ?_⟩
      by_cases ei : j' = i
      · rw [if_pos ei]
        intro z
        rcases List.mem_cons.mp z with z | z
        · subst z
          exact se0 j e b (by rw [hF]; exact List.mem_cons_self) hb
        · rcases sub b z with w | w
          · exact se0 j e b (by rw [hF]; exact List.mem_cons_of_mem _ w) hb
          · exact w.2.1 j hb
      · rw [if_neg ei]; exact s j' e' b hb
  · obtain ⟨ps, h1, h2⟩ := er.tab P hP
    exact ⟨ps, by rw [upd_ne (nb _ _ h1)]; exact h1, h2⟩
  · have e1 := er.ext.kept b o e n
    rw [upd_ne fun z => by rw [z, ha0] at e; cases e]; exact e1
  · rw [upd_ne fun z => by rw [z, ha0] at e; exact e rfl]
    exact er.ext.dom b e
  · obtain ⟨ps, h1, h2⟩ := er.tab P hP
    exact ⟨ps, by rw [upd_ne (nb _ _ h1)]; exact h1, h2⟩
  · obtain ⟨st, k, dom, sep⟩ := er.lks l hm
    refine ⟨st, k.trans (kp _ fun z => sep i ho (so l hm) a (by rw [hF]; exact List.mem_cons_self) z), dom, fun j hj hs' b hb => ?_⟩
    by_cases e : j = i
    · subst e
      rw [if_pos rfl] at hb
      rcases List.mem_cons.mp hb with z | z
      · rw [z]; exact sep j ho hs' a (by rw [hF]; exact List.mem_cons_self)
      · rcases sub b z with w | w
        · exact sep j ho hs' b (by rw [hF]; exact List.mem_cons_of_mem _ w)
        · exact w.2.2 l hm
    · rw [if_neg e] at hb
      exact sep j (hO j hj) hs' b hb
/-- x[k] = e of an owned list or dict -/
def setIxX (i : Nat) (I F : EF) : Env → RS := fun ρ => RS.of (F ρ) ρ fun d => RS.of (ρ.get i) ρ fun x => match x with
  | .list ds => RS.of (I ρ) ρ fun k => match k with
    | .int n => (match ixN ds.length n with
      | some j => .nx (ρ.put i (.list (ds.set j d)))
      | none => .stuck)
    | _ => .stuck
  | .dict kvs => RS.of (I ρ) ρ fun k => if keyFit kvs k = true ∧ kvs.length < 16777216 then .nx (ρ.put i (.dict (dputR kvs k d))) else .stuck
  | _ => .stuck
section
variable {X : Cx} {C : Cc} {W : WX} {Ob O O1 O' : Own} {e o ix : Expr} {E I F : EF} {k k' i j : Nat} {x : Str} {pos p2 apos : Pos} {L : Env → R (List D)}
theorem sv_setIxX (hu : X.A.units + 64 < cLine) (ho : PE X o (tVar i)) (hx : EV X C W O ix k' I) (he : EV X C W O e 0 F) (hi : i ∈ O := by decide) (hl : decide (i ∈ C.ls) = false := by rfl) (hO : ∀ m ∈ O', m ∈ O := by decide)
    (hs : swapsWithSole [.Subscript o ix p2] e pos.line X.env = pure false := by rfl) (hw : swappedStores [.Subscript o ix p2] e X.env = pure none := by rfl)
    (h1 : (assignEach [.Subscript o ix p2] X.env).map (·.2) = [assign (.Subscript o ix p2) X.env] := by rfl)
    (ha : ∀ v, assign (.Subscript o ix p2) X.env v = (do
      let ov ← holding [v] (eval o X.env)
      let iv ← holding [v, ov] (eval ix X.env)
      standAt p2
      holding [v, ov, iv] (setItem ov iv v)
      release [v, ov, iv] []) := by intro _; rfl) : SV X C W Ob O O' (.Assign [.Subscript o ix p2] e pos) (setIxX i I F) := by
  refine (ps_asg he (pg_sub ho hx (PSet.or set_list (set_dict hu)) ha) hs hw h1).imp fun De σ H ⟨ρ, Fs, er, q⟩ => ?_
  refine tD.step er (fin_of er q) fun d v H1 F1 p er1 x1 r1 kd1 => ?_
  obtain ⟨d0, g1, p⟩ := get_sat (fin_of er1 p)
  obtain ⟨nd1, fr1⟩ := kd1.fr rfl
  cases d0 with
  | list ds =>
    obtain ⟨a, xs, Fx, hs1, hF, hH, r⟩ := er1.at_lst g1
    refine ⟨.ref a, hs1, ?_⟩
    refine tD.step er1 (fin_of er1 p) fun d2 v2 H2 F2 p2 er2 x2 r2 kd2 => ?_
    cases d2 with
    | int n =>
      cases r2
      have p2 : Fin X.K C W Ob O' De (match ixN ds.length n with
        | some j => .nx (ρ.put i (.list (ds.set j d)))
        | none => .stuck) := p2
      cases hj : ixN ds.length n with
      | none => rw [hj] at p2; exact p2.elim
      | some m =>
        rw [hj] at p2
        obtain ⟨a', xs', Fx', hs1', hF', hH', r'⟩ := er2.at_lst g1
        rw [hs1] at hs1'
        cases hs1'
        rw [hF] at hF'
        cases hF'
        obtain ⟨Fs', er'⟩ := ER.setAt (O' := O') (m := m) er er2 hi (of_decide_eq_false hl) hO hs1 hF hH' r' (r1.ex x2) nd1 fr1
        exact .inl ⟨a, xs', n, m, rfl, rfl, hH', by rw [r'.length]; exact hj, p2 _ _ Fs' er'⟩
    | _ => exact p2.elim
  | dict kvs =>
    obtain ⟨v0, hs1, _⟩ := er1.rep i _ g1
    refine ⟨v0, hs1, ?_⟩
    refine tD.step er1 (fin_of er1 p) fun d2 v2 H2 F2 p2 er2 x2 r2 kd2 => ?_
    by_cases hc : keyFit kvs d2 = true ∧ kvs.length < 16777216
    · rw [if_pos hc] at p2
      obtain ⟨v0', hs1', r0⟩ := er2.rep i _ g1
      rw [hs1] at hs1'
      cases hs1'
      have nd0 := (er.own i hi).1
      refine .inr ⟨kvs, Fs i, d2, F2, d, F1, r0, r2, r1.ex x2, hc.1, hc.2, fun a Fv hF => ⟨?_, fun z => ?_⟩, ?_⟩
      · rw [hF] at nd0
        exact (List.nodup_cons.mp nd0).1
      · exact er.nn i a (by rw [hF]; exact List.mem_cons_self) (fr1 a z)
      · intro a ob ob' Fv F3 e1 hF h3 m1 m2 r3 sub nd3
        subst e1
        rw [hF] at nd0
        obtain ⟨n1, n2⟩ := List.nodup_cons.mp nd0
        refine Exists.elim (ER.updO (O' := O') er2 hi (of_decide_eq_false hl) hs1 hF h3 m1.no r3 (List.nodup_cons.mpr ⟨fun z => ?_, nd3 (List.nodup_append.mpr ⟨n2, nd1, fun b hb c hc e => ?_⟩)⟩) (fun b hb => ?_) hO) fun Fs' er' => p2 _ _ Fs' er'
        · rcases sub a z with w | w
          · exact n1 w
          · exact er.nn i a (by rw [hF]; exact List.mem_cons_self) (fr1 a w)
        · subst e
          exact er.nn i b (by rw [hF]; exact List.mem_cons_of_mem _ hb) (fr1 b hc)
        · rcases sub b hb with w | w
          · exact .inl w
          · exact .inr ⟨er.ext.free (fr1 b w), fun j z => er.nn j b z (fr1 b w), fun l hl z => er.lkdom hl b z (fr1 b w)⟩
    · rw [if_neg hc] at p2
      exact p2.elim
  | _ => exact p.elim
/-- {} -/
theorem ev_dnew : EV X C W O (.Dict [] [] pos) 0 (eC (.dict [])) := pe_dnewK.imp fun σ H Q ⟨ρ, Fs, er, q⟩ => fun p hp => by
  have x : Ex C.T H (L2.upd H p (.dK [])) := .new hp
  refine q (.ref p) _ [p] x ?_ ⟨fun _ => ⟨List.nodup_cons.mpr ⟨fun z => (nomatch z), List.nodup_nil⟩, fun b hb => ?_⟩, fun z => (by cases z)⟩
  · exact Rp.dK (kvs := []) (ks := []) (vs := []) (F := []) upd_same rfl .nil
  · rcases List.mem_cons.mp hb with z | z
    · rw [z]; exact hp
    · cases z
end
end Pd
namespace Pd
open PySem PySem.Spec PySem.Calls PyProof.Rows L2
open PySem.W (minD maxD dataLt AlikeAll)
section
variable {P : Program} {w : World} {A : Around} {E : Value → Shared → Prop} {s : Shared}
/-- min(a, b, ..): the items of a new tuple -/
theorem call_min_args {a b : Value} {r : List Value} {Q : Value → Shared → Prop} (ha : argsOk "min" ⟨a :: b :: r, []⟩) (hz : (a :: b :: r).length ≤ sizeLine)
    (h : wpAny (model P w) A.in1 (pyIter (.ref s.heap.objs.size)) (fun it s₂ => ∃ I fp wr G n Pp St H bt, it = .ref I ∧ WalksS P w A.in1 I fp wr G n Pp St ∧ St 0 s₂ ∧ (∀ b ∈ fp, b < s₂.heap.objs.size) ∧ 0 < n ∧
      (∀ b o, H.get? b = some o → b ∉ wr) ∧ (∀ b o, H.get? b = some o → s₂.heap.get? b = some o) ∧ CmpIn P w A.in1 .Lt H Pp bt ∧ ∀ v s', Pp (argBest bt (n - 1)) v → Moved wr G s₂ s' → Q v s') E { s with heap := s.heap.push { cls := .type "tuple", data := .seq (a :: b :: r).toArray } }) :
    wpAny (model P w) A (call (.builtin "min") (a :: b :: r)) Q E s := by
  have hname : (toString "min" ++ toString ".loop" : String) = "min.loop" := by decide
  refine call_function_tree F.kind_min F.plain_min F.entry_min ha ?_
  change wpAny _ A.in1 (Builtin.Builtins.bindParams "min" ["key", "default"] 0 ⟨[], []⟩ >>= _) _ _ s
  refine wpAny_bind (wpAny_of_eq (show Builtin.Builtins.bindParams "min" ["key", "default"] 0 ⟨[], []⟩ = pure [none, none] from rfl) ?_)
  change wpAny _ A.in1 (newTuple (a :: b :: r) >>= _) _ _ s
  refine wpAny_bind (wpAny_newTuple ?_ hz)
  refine wpAny_bind (wpAny_mono h (fun it s₂ h₂ => ?_) fun _ _ e => e)
  obtain ⟨I, fp, wr, G, n, Pp, St, H, bt, rfl, W, hst, hfp, hn, hw, hkeep, hcmp, hQ⟩ := h₂
  refine wpAny_bind (wpAny_newObj_type ?_)
  have hSf : s₂.heap.objs.size ∉ fp := fun hm => Nat.lt_irrefl _ (hfp _ hm)
  rw [hname]
  exact wpAny_pure ⟨plainId_quiet F.plain_min_loop _, codeAny_min_loop_firstH W H hw bt hcmp s₂.heap.objs.size hSf (fresh_in hkeep) _ hn (fun b o e => Heap.get?_push_of_some _ (hkeep b o e)) (W.frame 0 s₂ _ s₂.toks hst (Nat.le_refl _) fun b _ o e => Heap.get?_push_of_some _ e) (Heap.get?_push_size _ rfl) fun v s' hP hm => hQ v s' hP (Moved.drop_new (tk := s₂.toks) hm (Nat.le_refl _))⟩
theorem call_max_args {a b : Value} {r : List Value} {Q : Value → Shared → Prop} (ha : argsOk "max" ⟨a :: b :: r, []⟩) (hz : (a :: b :: r).length ≤ sizeLine)
    (h : wpAny (model P w) A.in1 (pyIter (.ref s.heap.objs.size)) (fun it s₂ => ∃ I fp wr G n Pp St H bt, it = .ref I ∧ WalksS P w A.in1 I fp wr G n Pp St ∧ St 0 s₂ ∧ (∀ b ∈ fp, b < s₂.heap.objs.size) ∧ 0 < n ∧
      (∀ b o, H.get? b = some o → b ∉ wr) ∧ (∀ b o, H.get? b = some o → s₂.heap.get? b = some o) ∧ CmpIn P w A.in1 .Gt H Pp bt ∧ ∀ v s', Pp (argBest bt (n - 1)) v → Moved wr G s₂ s' → Q v s') E { s with heap := s.heap.push { cls := .type "tuple", data := .seq (a :: b :: r).toArray } }) :
    wpAny (model P w) A (call (.builtin "max") (a :: b :: r)) Q E s := by
  have hname : (toString "max" ++ toString ".loop" : String) = "max.loop" := by decide
  refine call_function_tree F.kind_max F.plain_max F.entry_max ha ?_
  change wpAny _ A.in1 (Builtin.Builtins.bindParams "max" ["key", "default"] 0 ⟨[], []⟩ >>= _) _ _ s
  refine wpAny_bind (wpAny_of_eq (show Builtin.Builtins.bindParams "max" ["key", "default"] 0 ⟨[], []⟩ = pure [none, none] from rfl) ?_)
  change wpAny _ A.in1 (newTuple (a :: b :: r) >>= _) _ _ s
  refine wpAny_bind (wpAny_newTuple ?_ hz)
  refine wpAny_bind (wpAny_mono h (fun it s₂ h₂ => ?_) fun _ _ e => e)
  obtain ⟨I, fp, wr, G, n, Pp, St, H, bt, rfl, W, hst, hfp, hn, hw, hkeep, hcmp, hQ⟩ := h₂
  refine wpAny_bind (wpAny_newObj_type ?_)
  have hSf : s₂.heap.objs.size ∉ fp := fun hm => Nat.lt_irrefl _ (hfp _ hm)
  rw [hname]
  exact wpAny_pure ⟨plainId_quiet F.plain_max_loop _, codeAny_max_loop_firstH W H hw bt hcmp s₂.heap.objs.size hSf (fresh_in hkeep) _ hn (fun b o e => Heap.get?_push_of_some _ (hkeep b o e)) (W.frame 0 s₂ _ s₂.toks hst (Nat.le_refl _) fun b _ o e => Heap.get?_push_of_some _ e) (Heap.get?_push_size _ rfl) fun v s' hP hm => hQ v s' hP (Moved.drop_new (tk := s₂.toks) hm (Nat.le_refl _))⟩
theorem args_data {M : Bool} {a b : Value} {r : List Value} {x : D} {xs : List D} {as : List Addr} {Q : Value → Shared → Prop} (hh : A.handled = none) (ha : argsOk (if M = true then "max" else "min") ⟨a :: b :: r, []⟩) (hz : (a :: b :: r).length ≤ sizeLine) (hr : ReadsAll s.heap (a :: b :: r) (x :: xs) as) (hal : AlikeAll (x :: xs)) (hu : A.units + 1 + PyData.depthAll (x :: xs) < cLine)
    (h : ∀ (i : Nat) v h' tk bs, (a :: b :: r)[i]? = some v → Reads h' v (if M = true then maxD x xs else minD x xs) bs → (∀ b o, s.heap.get? b = some o → h'.get? b = some o) → Q v { s with heap := h', toks := tk }) :
    wpAny (model P w) A (call (.builtin (if M = true then "max" else "min")) (a :: b :: r)) Q E s := by
  let s1 : Shared := { s with heap := s.heap.push { cls := .type "tuple", data := .seq (a :: b :: r).toArray } }
  have hT : s1.heap.IsTuple s.heap.objs.size (a :: b :: r).toArray := ⟨_, Heap.get?_push_size _ rfl, rfl, 0, rfl⟩
  have k1 : ∀ b o, s.heap.get? b = some o → s1.heap.get? b = some o := fun b o e => Heap.get?_push_of_some _ e
  have hr1 : ReadsAll s1.heap (a :: b :: r).toArray.toList (x :: xs) as := ReadsAll.keeps k1 hr
  have hn : (a :: b :: r).toArray.size = xs.length + 1 := PySem.W.readsAll_len hr1
  have e1 : (a :: b :: r).toArray.size - 1 = xs.length := by omega
  cases M with
  | false =>
    refine call_min_args ha hz (PySem.W.iter_tupleW (s := s1) (A := A.in1) hh hT fun s₂ e W st hfp hw hk => ?_)
    refine ⟨_, _, _, _, _, _, _, s1.heap, _, rfl, W, st, hfp, by omega, hw, hk, PySem.W.cmpIn_lt (s := s1) (A := A.in1) hr1 hal (by show A.units + 1 + _ < _; exact hu), fun v s' hP m => ?_⟩
    obtain ⟨h', tk, rfl, hk'⟩ := PySem.W.moved_old (s := s1) e rfl m
    obtain ⟨bs, rd, _, _, _⟩ := PySem.W.readsAll_atA hr1 _ v hP
    have e2 := (PySem.W.argBest_fold dataLt PyData.none x xs xs.length (Nat.le_refl _)).2
    rw [List.take_length] at e2
    rw [e1] at rd
    exact h _ v h' tk bs (by simpa using hP) (PySem.W.reads_keeps hk' (by show Reads _ v (minD x xs) bs; unfold minD; rw [← e2]; exact rd)) fun b o q => hk' b o (k1 b o q)
  | true =>
    refine call_max_args ha hz (PySem.W.iter_tupleW (s := s1) (A := A.in1) hh hT fun s₂ e W st hfp hw hk => ?_)
    refine ⟨_, _, _, _, _, _, _, s1.heap, _, rfl, W, st, hfp, by omega, hw, hk, PySem.W.cmpIn_gt (s := s1) (A := A.in1) hr1 hal (by show A.units + 1 + _ < _; exact hu), fun v s' hP m => ?_⟩
    obtain ⟨h', tk, rfl, hk'⟩ := PySem.W.moved_old (s := s1) e rfl m
    obtain ⟨bs, rd, _, _, _⟩ := PySem.W.readsAll_atA hr1 _ v hP
    have e2 := (PySem.W.argBest_fold (fun x y => dataLt y x) PyData.none x xs xs.length (Nat.le_refl _)).2
    rw [List.take_length] at e2
    rw [e1] at rd
    exact h _ v h' tk bs (by simpa using hP) (PySem.W.reads_keeps hk' (by show Reads _ v (maxD x xs) bs; unfold maxD; rw [← e2]; exact rd)) fun b o q => hk' b o (k1 b o q)
end
/-- min, max of two or three things -/
def bestA (g : D → List D → D) : List D → R D
  | [x, y] => if okCmp [x, y] = true then .ok (g x [y]) else .stuck
  | [x, y, z] => if okCmp [x, y, z] = true then .ok (g x [y, z]) else .stuck
  | _ => .stuck
def maxA : List D → R D := bestA maxD
def minA : List D → R D := bestA minD
section
variable {X : Cx} {T : List Addr}
theorem call_argsT {M : Bool} (hc : X.calm = true) (hu : X.A.units + 65 < cLine) : CallR X (.builtin (if M = true then "max" else "min")) (fun ys H Q => ∃ (x y : D) (ds : List D), (ys.length = 2 ∨ ys.length = 3) ∧ DpAll X.K H ys (x :: y :: ds) ∧ okCmp (x :: y :: ds) = true ∧
    ∀ (i : Nat) (z : V), ys[i]? = some z → (x :: y :: ds)[i]? = some (if M = true then maxD x (y :: ds) else minD x (y :: ds)) → Q z H) := by
  intro pins s σ H ys us Q I r h
  obtain ⟨x, y, ds, hl, hd, hk, q⟩ := h
  obtain ⟨hal, hdep, hlay⟩ := okCmp_alike hk
  have hu1 : X.A.units + 1 + PyData.depthAll (x :: y :: ds) < cLine := by omega
  have hh := I.ok.hd hc
  obtain ⟨as, hr⟩ := Dp.readsAll I _ _ _ hd r
  have key : ∀ (a b : Value) (rr : List Value), us = a :: b :: rr → argsOk (if M = true then "max" else "min") ⟨a :: b :: rr, []⟩ → us.length ≤ sizeLine → wpAny (model X.prog X.w) X.A (call (.builtin (if M = true then "max" else "min")) us) (EP X pins σ Q) X.xe s := by
    intro a b rr e ha hz
    subst e
    refine args_data hh ha hz hr hal hu1 fun i v h' tk bs e1 rd kp => ?_
    obtain ⟨bs2, r2, hlt, hmem, _⟩ := PySem.W.readsAll_at hr i v e1
    have hyl : i < ys.length := by
      have h1 := (List.getElem?_eq_some_iff.mp e1).1
      have h2 := r.length
      omega
    obtain ⟨u, hu', ru⟩ := r.get (List.getElem?_eq_getElem hyl)
    rw [e1] at hu'
    cases hu'
    have r2' : Reads h' v ((x :: y :: ds).getD i .none) bs2 := PyProof.Rows.Reads.keeps kp r2
    have e : (x :: y :: ds).getD i .none = (if M = true then maxD x (y :: ds) else minD x (y :: ds)) := (Reads.unique r2' _ _ rd).1
    refine ⟨ys[i], H, I.kept (t' := tk) kp, ru, q i _ (List.getElem?_eq_getElem hyl) ?_⟩
    rw [← e, List.getD_eq_getElem?_getD, List.getElem?_eq_getElem hlt]
    rfl
  have hul : us.length = ys.length := r.length.symm
  have hsz : us.length ≤ sizeLine := by rw [sz16]; omega
  match us, hul with
  | [a, b], _ => exact key a b [] rfl (by cases M; exact F.args_min2 a b; exact F.args_max2 a b) hsz
  | [a, b, c], _ => exact key a b [c] rfl (by cases M; exact F.args_min3 a b c; exact F.args_max3 a b c) hsz
  | [], hul => simp at hul; omega
  | [_], hul => simp at hul; omega
  | _ :: _ :: _ :: _ :: _, hul => simp at hul; omega
theorem c_bestA {M : Bool} (hc : X.calm = true) (hu : X.A.units + 65 < cLine) : CallD X T (.builtin (if M = true then "max" else "min")) (bestA fun x ds => if M = true then maxD x ds else minD x ds) where
  nox := fun ds => by
    unfold bestA
    split <;> first | exact noxS | exact noxI noxO noxS
  ex := by
    refine ⟨_, call_argsT hc hu, fun H vs ds F Q r h => ?_⟩
    have fin : ∀ (x y : D) (es : List D), ds = x :: y :: es → (ds.length = 2 ∨ ds.length = 3) → okCmp ds = true → (∀ v H' F', Ex T H H' → Rp X.K H' v (if M = true then maxD x (y :: es) else minD x (y :: es)) F' → Mix1 H F F' → Q v H') → ∃ (x y : D) (ds : List D), (vs.length = 2 ∨ vs.length = 3) ∧ DpAll X.K H vs (x :: y :: ds) ∧ okCmp (x :: y :: ds) = true ∧
        ∀ (i : Nat) (z : V), vs[i]? = some z → (x :: y :: ds)[i]? = some (if M = true then maxD x (y :: ds) else minD x (y :: ds)) → Q z H := by
      intro x y es e hl hk g
      subst e
      exact ⟨x, y, es, by rw [r.length]; exact hl, r.dp (okCmp_alike hk).2.2, hk, fun i z hi hd => by
        obtain ⟨z', G', e1, r3, sb3⟩ := r.get hd
        rw [hi] at e1
        cases e1
        exact g _ H G' .refl r3 (mix1_sub sb3)⟩
    unfold bestA at h
    split at h
    · obtain ⟨hk, h⟩ := satI h
      exact fin _ _ _ rfl (.inl rfl) hk h
    · obtain ⟨hk, h⟩ := satI h
      exact fin _ _ _ rfl (.inr rfl) hk h
    · exact h.elim
theorem c_maxA (hc : X.calm = true) (hu : X.A.units + 65 < cLine) : CallD X T (.builtin "max") maxA := c_bestA (M := true) hc hu
theorem c_minA (hc : X.calm = true) (hu : X.A.units + 65 < cLine) : CallD X T (.builtin "min") minA := c_bestA (M := false) hc hu
end
end Pd
namespace Pd
open PySem PySem.Spec PyProof.Rows L2
/-! ### defs with one keyword-only parameter -/
section
variable {X : Cx} {CX : CXT} {k n : Nat} {f : Addr} {fd : FuncData} {ps ks : List Str} {sp : Sp} {E : L2.St → XK} {x : Str} {p pos : Pos} {e : Expr} {es : List Expr} {kws : List Keyword} {t tk : TA} {g : List Value → List Value → List Value} {gV : List V → List V → List V}
def tCallNS (n m : Nat) (sp : Sp) (gV : List V → List V → List V) (E : L2.St → XK) (t tk : TA) : TE := fun σ H Q => t σ H fun vs H1 => tk σ H1 fun zs H2 => vs.length = n ∧ zs.length = m ∧ sp (gV vs zs) H2 Q (E σ)
theorem pe_callNS (F : FnOk X.prog X.w X.K X.mg X.base CX k f fd ps sp) (hr : Room k X.A) (hg : Gl X x) (hm : X.mg x = some (.ref f)) (hk : PySem.W.keepIn X.K (.ref f) = true) (hb : KBn X.K fd ps n ks g gV) (hx : ∀ σ, PassesAt CX X σ (E σ))
    (ha : PA X (e :: es) t) (hkw : PK X kws tk) (hall : (backToKw pos (keywordEach kws X.env)).all (·.1.isSome) = true) (hks : (backToKw pos (keywordEach kws X.env)).filterMap (·.1) = ks)
    (hdb : (x == ("__debug__" : Str)) = false) (he : starEach (e :: es) X.env = (false, eval e X.env) :: starEach es X.env)
    (hpl : ((backTo pos (starEach (e :: es) X.env)).any (·.1) || (backToKw pos (keywordEach kws X.env)).any (·.1.isNone)) = false) :
    PE X (.Call (.Name x p) (e :: es) kws pos) (tCallNS n ks.length sp gV E t tk) := by
  refine ⟨fun pins s σ H Q I h => ?_⟩
  refine wpAny_Call_Name_kw (ld_glob I hg hm ?_ hdb)
  refine PySem.W.callWith_KW (h₀ := X.base) I.ok.mod.kin hk hall (thn (ha.run pos pins s σ H _ I h) fun us s1 ⟨vs, H1, I1, r, q⟩ => ?_) hpl he
  refine thn (hkw.run pos pins s1 σ H1 _ I1 q) fun ws s2 ⟨zs, H2, I2, rz, l1, l2, q2⟩ => ⟨I2.kIn, ?_⟩
  rw [hks]
  have r2 := hb.rel r rz
  refine wpAny_call (codeAny_mono (F.run X.A X.stack s2 H2 ⟨us, ks.zip ws⟩ (g us ws) (gV vs zs) Q (E σ) hr I2.env0 (hb.to s2 us ws I2.kIn (r.length.symm.trans l1) (rz.length.symm.trans l2)) r2 q2) fun r s' hq => ?_)
  cases r with
  | error e => exact hx σ pins H2 s2 e s' I2 hq
  | ok fl =>
    cases fl with
    | ret u => exact I2.after hq
    | _ => exact False.elim hq
end
structure FDk (P : Program) (w : World) (K : PySem.W.Frag) (mg : Str → Option Value) (base : Heap) (T : List Addr) (k : Nat) (x : Str) (n : Nat) (key : Str) (m : Int) (F : List D → R D) : Prop where
  ex : ∃ f fd ps, FnOk P w K mg base (L2.CX P w) k f fd ps (spD K T (n + 1) F) ∧ mg x = some (.ref f) ∧ PySem.W.keepIn K (.ref f) = true ∧ (∃ ds, Vals [.int m] ds ∧ Binds K fd ps ds) ∧
    KBn K fd ps n [key] (fun us ws => us ++ ws) (fun vs zs => vs ++ zs)
def eCallD (F : List D → R D) (m : Int) (L : Env → R (List D)) : EF := fun ρ => (L ρ).bind fun xs => F (xs ++ [.int m])
def eCallK (F : List D → R D) (L : Env → R (List D)) (G : EF) : EF := fun ρ => (L ρ).bind fun xs => (G ρ).bind fun y => F (xs ++ [y])
section
variable {X : Cx} {C : Cc} {W : WX} {O : Own} {x key : Str} {e e2 : Expr} {es : List Expr} {k kk k2 : Nat} {L : Env → R (List D)} {G : EF} {F : List D → R D} {p pos kpos : Pos} {m : Int}
theorem ev_callD (h : FDk X.prog X.w X.K X.mg X.base C.T k x (e :: es).length key m F) (hr : Room k X.A) (hg : Gl X x) (tk : Takes X W) (ha : AVn X C W O (e :: es) kk L)
    (hdb : (x == ("__debug__" : Str)) = false := by decide) (he : starEach (e :: es) X.env = (false, eval e X.env) :: starEach es X.env := by rfl) (hpl : (backTo pos (starEach es X.env)).any (·.1) = false := by rfl) :
    EV X C W O (.Call (.Name x p) (e :: es) [] pos) 0 (eCallD F m L) := by
  obtain ⟨f, fd, ps, Fk, hm, hk, ⟨ds0, hv, hb⟩, _⟩ := h
  refine (pe_callSD (E := WE W) Fk hr hg hm hk hb hv (passAt tk) ha.av hdb he hpl).imp fun σ H Q ⟨ρ, Fs, er, q⟩ => ?_
  refine tL.step er (sat_n (σ := σ) (H := H) ha (Sat.bind q)) fun ds vs H1 F1 ⟨hl, p⟩ er1 x1 r1 kd1 => ?_
  refine ⟨by rw [List.length_append, r1.length, hl]; rfl, ds ++ [.int m], F1 ++ [], r1.append (.cons (F := []) (G := []) (.int m) .nil), er1.tab, p.mono (fun d p v H' F' x r nd fr => p v H' F' (x1.trans x) r ⟨fun _ => ⟨nd, fun b hb => x1.free (fr b hb)⟩, fun z => by omega⟩) fun c w H' x => w H' (x1.trans x)⟩
theorem ev_callK (h : FDk X.prog X.w X.K X.mg X.base C.T k x (e :: es).length key m F) (hr : Room k X.A) (hg : Gl X x) (tk : Takes X W) (ha : AVn X C W O (e :: es) kk L) (hy : EV X C W O e2 k2 G)
    (hall : (backToKw pos (keywordEach [⟨some key, e2, kpos⟩] X.env)).all (·.1.isSome) = true := by rfl) (hks : (backToKw pos (keywordEach [⟨some key, e2, kpos⟩] X.env)).filterMap (·.1) = [key] := by rfl)
    (hdb : (x == ("__debug__" : Str)) = false := by decide) (he : starEach (e :: es) X.env = (false, eval e X.env) :: starEach es X.env := by rfl)
    (hpl : ((backTo pos (starEach (e :: es) X.env)).any (·.1) || (backToKw pos (keywordEach [⟨some key, e2, kpos⟩] X.env)).any (·.1.isNone)) = false := by rfl) :
    EV X C W O (.Call (.Name x p) (e :: es) [⟨some key, e2, kpos⟩] pos) 0 (eCallK F L G) := by
  obtain ⟨f, fd, ps, Fk, hm, hk, _, hb⟩ := h
  refine (pe_callNS (E := WE W) Fk hr hg hm hk hb (passAt tk) ha.av (pk_cons hy pk_nil) hall hks hdb he hpl).imp fun σ H Q ⟨ρ, Fs, er, q⟩ => ?_
  refine tL.step er (sat_n (σ := σ) (H := H) ha (Sat.bind q)) fun ds vs H1 F1 ⟨hl, p⟩ er1 x1 r1 kd1 => ?_
  refine tD.step er1 (Sat.later (Sat.bind p) x1) fun d v H2 F2 p2 er2 x2 r2 kd2 => ?_
  have x12 := x1.trans x2
  refine ⟨by rw [r1.length, hl], rfl, by rw [List.length_append, r1.length, hl]; rfl, ds ++ [d], F1 ++ (F2 ++ []), (r1.ex x2).append (.cons r2 .nil), er2.tab, p2.mono (fun d p v H' F' x r nd fr => p v H' F' (x12.trans x) r ⟨fun _ => ⟨nd, fun b hb => x12.free (fr b hb)⟩, fun z => by omega⟩) fun c w H' x => w H' (x12.trans x)⟩
end
theorem fdk_of {P : Program} {w : World} {K : PySem.W.Frag} {mg : Str → Option Value} {base : Heap} {T : List Addr} {k n : Nat} {x qual key : Str} {m : Int} {params : Arguments} {body : List Stmt} {scope : Scope} {at_ : Str × Option Str} {fd : FuncData} {N ps : List Str} {B : Env → RS}
    (F : FunD K x qual params body scope [] [(key, .int m)] (He.fAd K at_) fd) (S : FnScope N ps scope) (gm : mg x = some (.ref (He.fAd K at_))) (hl : ps.length = n + 1)
    (hb : ∀ (D : Addr) (doc pm : Value) (an : Option Addr) (cdv ct : Value) (us ks : List Value), us.length = n → ks.length = [(key, V.int m)].length → KwChain D (([(key, V.int m)].map (·.1)).zip ks) (bindArgs (PySem.W.fnOf x qual params body scope .none (.ref D) doc pm an cdv ct) ⟨us, []⟩) (ps.zip (us ++ ks)))
    (hb2 : ∀ (kV doc pm : Value) (an : Option Addr) (cdv ct : Value) (us ws : List Value), us.length = n → ws.length = 1 → bindArgs (PySem.W.fnOf x qual params body scope .none kV doc pm an cdv ct) ⟨us, [key].zip ws⟩ = pure (ps.zip (us ++ ws)))
    (hbody : ∀ (A : Around) (outer : List PySem.Env) (s : Shared) (H : Hp) (E : XK), Room k (A.deeper (envOfC qual scope s.heap.objs.size (He.fAd K at_) (.ref (He.codeOf K at_)))) →
      SVs (cxOf (L2.CX P w) P w K mg base N qual scope (He.fAd K at_) (.ref (He.codeOf K at_)) A outer s H E) ⟨T, H, [], []⟩ (fun cls d _ H' => E cls d H') [] [] [] body B) : FDk P w K mg base T (k + 1) x n key m (callD N.length B) := by
  refine ⟨_, fd, ps, ?_, gm, F.kp, ?_, ?_⟩
  · have := fd_fn (T := T) F S hbody
    rw [hl] at this
    exact this
  · exact F.binds0 n (by simp) (by simp [hl]) hb
  · obtain ⟨oc, od, dV, kV, doc, pm, an, cdv, ct, osl, rfl, lk, hcd, hD, hK⟩ := F.ex
    rcases hD with ⟨_, rfl⟩ | ⟨e, _⟩
    · exact ⟨fun s us ws X l1 l2 => .of_eq (hb2 kV doc pm an cdv ct us ws l1 l2), fun r1 r2 => r1.append r2⟩
    · exact absurd rfl e
theorem FDk.mono {P : Program} {w : World} {K : PySem.W.Frag} {mg : Str → Option Value} {base : Heap} {T : List Addr} {k k' n : Nat} {x key : Str} {m : Int} {F : List D → R D} (h : FDk P w K mg base T k x n key m F) (hk : k ≤ k') : FDk P w K mg base T k' x n key m F := by
  obtain ⟨f, fd, ps, h1, h2⟩ := h
  exact ⟨f, fd, ps, h1.mono hk, h2⟩
end Pd
namespace PySem
open Sem (wp)
open RT
section
variable {prog : Program} {w : World} {A : Around} {E : Value → Shared → Prop} {s : Shared}
theorem pd_collect_rt {it t : Addr} {items : Array Value} {Q : List Value → Shared → Prop} (hh : A.handled = none) (hit : IsRt s.heap it t ((items.size : Int) - 1)) (ht : PyProof.Rows.IsTup s.heap t items) (hne : t ≠ it) (hn : items.size ≤ sizeLine)
    (hQ : ∀ (h' : Heap) (tk : Nat) (acc : Array Value), (∀ b o, b ≠ it → s.heap.get? b = some o → h'.get? b = some o) → ItemsOf (fun i v => items[items.size - 1 - i]? = some v) acc items.size → Q acc.toList { s with heap := h', toks := tk }) :
    wpAny (model prog w) A (collect (.ref it)) Q E s := by
  have W := (pd_walks_rt (prog := prog) (w := w) (A := A.in1) hh it t hne items hn).toS
  obtain ⟨oi, hoi, hci, hdi⟩ := id hit
  obtain ⟨ot, hot, hct, hdt⟩ := id ht
  have hSi : s.heap.objs.size ≠ it := Nat.ne_of_gt (Heap.lt_size hoi)
  have hSt : s.heap.objs.size ≠ t := Nat.ne_of_gt (Heap.lt_size hot)
  have hSf : s.heap.objs.size ∉ [it, t] := by simp only [List.mem_cons, List.not_mem_nil, or_false, not_or]; exact ⟨hSi, hSt⟩
  unfold collect
  refine wpAny_bind (wpAny_runValue (codeAny_builtin F.entry_proto_collect ?_))
  rw [Around.under_plainId F.plain_proto_collect _]
  change wpAny _ A.in1 (newList [] >>= fun x => again (.builtin "list.__iadd__" ⟨[x, .ref it], []⟩)) _ _ s
  refine wpAny_bind (wpAny_newObj_type (wpAny_pure ⟨plainId_quiet F.plain_list_iadd _, codeAny_builtin F.entry_list_iadd ?_⟩))
  rw [Around.under_plainId F.plain_list_iadd _]
  generalize hs2 : ({ s with heap := s.heap.push { cls := .type "list", data := .seq ([] : List Value).toArray } } : Shared) = s2
  have h2 : s2.heap = s.heap.push { cls := .type "list", data := .seq ([] : List Value).toArray } := by rw [← hs2]
  have old : ∀ b o, s.heap.get? b = some o → s2.heap.get? b = some o := fun b o e => by rw [h2]; exact Heap.get?_push_of_some _ e
  have hS3 : s2.heap.get? s.heap.objs.size = some { cls := .type "list", data := .seq #[] 0 } := by rw [h2]; exact Heap.get?_push_size _ rfl
  have hit2 : IsRt s2.heap it t ((items.size : Int) - 1) := hit.at fun o e => old _ o e
  have ht2 : PyProof.Rows.IsTup s2.heap t items := ⟨ot, old _ _ hot, hct, hdt⟩
  have hT2 : s2.TypeIs (.ref it) "reversed" := hit2.typeIs
  have h1 : Builtin.List.listSameRef (.ref s.heap.objs.size) (.ref it) = false := by simp [Builtin.List.listSameRef, hSi]
  change wpAny _ A.in1 (Builtin.List.listExtendWith (.ref s.heap.objs.size) (.ref it) (.ref s.heap.objs.size)) _ _ s2
  unfold Builtin.List.listExtendWith
  refine wpAny_bind (wpAny_typeOf hT2 ?_)
  rw [if_neg (by rw [h1]; decide)]
  refine wpAny_bind (iter_rt hit2 (wpAny_bind (wpAny_holding (pd_hint_rtQ hit2 ht2 (by rw [sizeLine_eq] at hn; exact hn) fun tk => ?_))))
  have key : ∀ (R : Result → Shared → Prop) (h : Heap) (c₁ tk : Nat), IsRt h it t ((items.size : Int) - 1 - ((0 : Nat) : Int)) → PyProof.Rows.IsTup h t items → (∀ b o, b ≠ s.heap.objs.size → s2.heap.get? b = some o → h.get? b = some o) →
      h.get? s.heap.objs.size = some { cls := .type "list", data := .seq #[] c₁ } → (∀ s', wpAny (model prog w) A (load s.heap.objs.size >>= fun o => match o.data with
        | .seq xs _ => pure xs.toList
        | _ => unsupported "internal:collect") Q E s' → R (.ok (.ret (.ref s.heap.objs.size))) s') →
      codeAny (model prog w) A (.builtin "list.extend.loop" ⟨[.ref s.heap.objs.size, .ref it, .ref s.heap.objs.size], []⟩) R { s2 with heap := h, toks := tk } := by
    intro R h c₁ tk hi1 ht1 hk hS₁ hR
    refine codeAny_extend_loopS W hn _ hSf _ items.size 0 { s2 with heap := h, toks := tk } #[] c₁ rfl (Nat.zero_le _) ⟨Nat.zero_le _, hi1, ht1⟩ hS₁ (ItemsOf.nil _) fun s' acc' c' hm hS' hacc => hR s' ?_
    rw [Moved.eq_with hm]
    refine wpAny_bind (wpAny_load hS' (wpAny_pure ?_))
    have z := hQ s'.heap s'.toks acc' (fun b o hb e => hm.heap b o (fun hmem => ?_) (hk b o (Nat.ne_of_lt (Heap.lt_size e)) (old b o e))) hacc
    · rw [← hs2]
      exact z
    · rcases List.mem_cons.mp hmem with e' | hmem
      · exact absurd (Heap.lt_size e) (by rw [e']; exact Nat.lt_irrefl _)
      · exact hb (List.mem_singleton.mp hmem)
  have e0 : ((items.size : Nat) : Int) - 1 - ((0 : Nat) : Int) = (items.size : Int) - 1 := by omega
  refine wpAny_ite_split (fun _ => ?_) (fun _ => wpAny_pure ⟨plainId_quiet F.plain_extend_loop _, key _ s2.heap _ tk (by rw [e0]; exact hit2) ht2 (fun b o _ e => e) hS3 fun s' h => h⟩)
  refine wpAny_bind (wpAny_rule ?_)
  refine wpAny_bind ?_
  change wpAny _ _ (updateSeq s.heap.objs.size (·.push .none) >>= fun _ => updateSeq s.heap.objs.size (·.pop)) _ _ _
  refine wpAny_bind (wpAny_updateSeq (s := { s2 with toks := tk }) hS3 rfl ?_)
  have hS4 := Heap.get?_update_self (Obj.mapSeq (·.push Value.none)) hS3 rfl
  refine wpAny_updateSeq (hz := by seq_fits) hS4 rfl ?_
  have hS5 := Heap.get?_update_self (Obj.mapSeq (·.pop)) hS4 rfl
  have kk : ∀ b o, b ≠ s.heap.objs.size → s2.heap.get? b = some o → ((s2.heap.update s.heap.objs.size (Obj.mapSeq (·.push Value.none))).update s.heap.objs.size (Obj.mapSeq (·.pop))).get? b = some o :=
    fun b o hb e => (Heap.get?_update_other _ _ (Ne.symm hb)).trans ((Heap.get?_update_other _ _ (Ne.symm hb)).trans e)
  exact wpAny_pure ⟨plainId_quiet F.plain_extend_loop _, key _ _ _ tk (by rw [e0]; exact hit2.at fun o e => kk _ o (Ne.symm hSi) e) (let ⟨o, ho, r⟩ := ht2; ⟨o, kk _ _ (Ne.symm hSt) ho, r⟩) kk hS5 fun s' h => h⟩
theorem pd_code_tuple_rt {it t : Addr} {items : Array Value} {Q₁ : Value → Shared → Prop} (hh : A.handled = none) (hit : IsRt s.heap it t ((items.size : Int) - 1)) (ht : PyProof.Rows.IsTup s.heap t items) (hne : t ≠ it) (hn : items.size ≤ sizeLine)
    (h : ∀ (h' : Heap) (tk : Nat) (acc : Array Value), (∀ b o, b ≠ it → s.heap.get? b = some o → h'.get? b = some o) → ItemsOf (fun i v => items[items.size - 1 - i]? = some v) acc items.size →
      Q₁ (.ref h'.objs.size) { s with heap := h'.push { cls := .type "tuple", data := .seq acc }, toks := tk }) :
    codeAny (model prog w) A (.call (.builtin "tuple.__new__") ⟨[.type "tuple", .ref it], []⟩) (wants Q₁ E) s := by
  refine codeAny_of_tree ?_
  change wpAny _ A.in1 (do checkBuiltinCall "tuple.__new__" ⟨[.type "tuple", .ref it], []⟩; again (.builtin "tuple.__new__" ⟨[.type "tuple", .ref it], []⟩)) _ _ s
  refine wpAny_bind (wpAny_of_eq (F.newCall_tuple_1 _) (wpAny_pure ⟨plainId_quiet F.plain_tuple_new _, codeAny_builtin F.entry_tuple_new ?_⟩))
  rw [Around.under_plainId F.plain_tuple_new _]
  have q1 := sub_tuple_self
  have q2 := init_tuple_lookup
  have q3 := madeHere_tuple
  have q4 : s.TypeIs (.ref it) "reversed" := hit.typeIs
  have q5 : A.in1.handled = none := hh
  wp_walk using wpAny_typeOf q4, pd_collect_rt (A := A.in1) q5 hit ht hne hn
  intro h' tk acc hk hacc
  change wpAny _ _ (Builtin.Tuple.tupleExact acc.toList.toArray >>= fun v => ret v) _ _ _
  unfold Builtin.Tuple.tupleExact
  refine wpAny_bind (wpAny_newObj_type (wpAny_pure ?_) (by show acc.toList.toArray.size ≤ sizeLine; simp only [Array.toArray_toList]; rw [hacc.1]; exact hn))
  have e : acc.toList.toArray = acc := by simp
  rw [e]
  exact h h' tk acc hk hacc
theorem pd_tuple_rt {it t : Addr} {items : Array Value} {Q : Value → Shared → Prop} (hh : A.handled = none) (hit : IsRt s.heap it t ((items.size : Int) - 1)) (ht : PyProof.Rows.IsTup s.heap t items) (hne : t ≠ it) (hn : items.size ≤ sizeLine)
    (hQ : ∀ (h' : Heap) (tk : Nat) (acc : Array Value), (∀ b o, b ≠ it → s.heap.get? b = some o → h'.get? b = some o) → ItemsOf (fun i v => items[items.size - 1 - i]? = some v) acc items.size →
      Q (.ref h'.objs.size) { s with heap := h'.push { cls := .type "tuple", data := .seq acc }, toks := tk }) :
    wpAny (model prog w) A (call (.type "tuple") [.ref it]) Q E s := by
  refine callType_codes (Q₁ := fun obj s₁ => s₁.TypeIs obj "tuple" ∧ Q obj s₁) F.called_tuple (F.typeCall_tuple_1 _) F.entry_object_init
    (pd_code_tuple_rt (A := A.in1) hh hit ht hne hn fun h' tk acc hk hacc => ⟨⟨_, Heap.get?_push_size _ rfl, rfl⟩, hQ h' tk acc hk hacc⟩) fun obj s₁ h₁ => ?_
  exact ⟨h₁.1, F.args_object_init_2 obj _, object_init_meets F.called_tuple.init.lookup F.called_tuple.made (by decide) prog w A.in1 _ s₁ ⟨h₁.1, rfl, h₁.2⟩⟩
end
end PySem
namespace Pd
open PySem PySem.Spec PyProof.Rows L2 RT
section
variable {X : Cx}
/-- tuple(reversed(t)), t a tuple or a list -/
def tTupRev (K : PySem.W.Frag) (te : TE) : TE := fun σ H Q => te σ H fun v H1 => ∃ (a : Addr) (xs : List V), v = .ref a ∧ (SqT K H1 a xs ∨ SqL K H1 a xs) ∧ ∀ q o, H1 q = none → NewT o → Q (.ref q) (upd H1 q (.frz o (.tup xs.reverse)))
theorem pe_tupRev {e : Expr} {te : TE} {p p2 pos pos2 : Pos} (hc : X.calm = true) (hg : Gl X "tuple") (hm : X.mg "tuple" = none) (hg2 : Gl X "reversed") (hm2 : X.mg "reversed" = none) (he : PE X e te)
    (hs : starEach [e] X.env = (false, eval e X.env) :: starEach [] X.env := by rfl)
    (hs2 : starEach [.Call (.Name "reversed" p2) [e] [] pos2] X.env = (false, eval (.Call (.Name "reversed" p2) [e] [] pos2) X.env) :: starEach [] X.env := by rfl) :
    PE X (.Call (.Name "tuple" p) [.Call (.Name "reversed" p2) [e] [] pos2] [] pos) (tTupRev X.K te) := by
  refine ⟨fun pins s σ H Q I h => ?_⟩
  refine Call_ (ld_blt I hg hm bt_tuple (PyProof.Rows.callWith_type1 (args_cons (Call_ (ld_blt I hg2 hm2 PyProof.Rows.boot_reversed (PyProof.Rows.callWith_type1 (args_cons (thn (he.run pins s σ H _ I h) fun u s1 ⟨v, H1, I1, r1, q1⟩ => args_nil ?_) hs) hs rfl))) hs2) hs2 rfl))
  obtain ⟨a, xs, ev, hq, q⟩ := q1
  subst ev
  obtain rfl : u = Value.ref a := r1
  have hn := line63
  have hsl := sizeLine_eq
  obtain ⟨f0, f1, f2, f3, f4, f5⟩ := I1.fpOk (H' := H1) (b := s1.heap.objs.size) (Nat.le_refl _) (I1.hok.fresh (Nat.le_refl _))
  rcases hq with hq | hq
  · obtain ⟨its, rv, p', hz⟩ := I1.tuple hq
    have hl := rv.length
    have hsz : its.toArray.size ≤ sizeLine := by rw [List.size_toArray, ← hl]; exact hz
    refine call_reversed_tup p' (fun A E Q k => PyProof.Rows.len_tuple p' (by simp only [List.size_toArray] <;> omega) k) (args_nil ?_)
    generalize hs3 : ({ s1 with heap := s1.heap.push (rtObj a ((its.toArray.size : Int) - 1)), toks := s1.toks + 1 + 1 } : Shared) = s3
    have h3 : s3.heap = s1.heap.push (rtObj a ((its.toArray.size : Int) - 1)) := by rw [← hs3]
    have k0 : ∀ b o, s1.heap.get? b = some o → s3.heap.get? b = some o := fun b o e => by rw [h3]; exact Heap.get?_push_of_some _ e
    have I2 : Inv X pins σ H1 s3 := by
      rw [← hs3]
      exact I1.kept (t' := s1.toks + 1 + 1) fun b o e => Heap.get?_push_of_some _ e
    obtain ⟨o, ho, hc', hd⟩ := id p'
    have hne : a ≠ s1.heap.objs.size := Nat.ne_of_lt (Heap.lt_size ho)
    have hpush : s3.heap.get? s1.heap.objs.size = some (rtObj a ((its.toArray.size : Int) - 1)) := by rw [h3]; exact Heap.get?_push_size _ rfl
    refine pd_tuple_rt (I1.ok.hd hc) ⟨_, hpush, rfl, rfl⟩ ⟨o, k0 _ _ ho, hc', hd⟩ hne hsz fun h' tk acc hk hi => ?_
    have I3 : Inv X pins σ H1 { s3 with heap := h', toks := tk } := I2.turned (t' := tk) (fun b o hb e => hk b o hb e) f0 f1 f3 f4 f5
    have rr := vals_rev rv hi
    have e1 : acc.toList.toArray = acc := by simp
    have L := laidT I3 rr (by rw [List.length_reverse]; exact hz) tk
    rw [e1] at L
    exact ⟨.ref h'.objs.size, _, L, rfl, q _ _ (I3.hok.fresh (Nat.le_refl _)) ⟨rfl, rfl⟩⟩
  · obtain ⟨its, rv, p', hz⟩ := I1.list hq
    have hl := rv.length
    have hsz : its.toArray.size ≤ sizeLine := by rw [List.size_toArray, ← hl]; exact hz
    refine call_reversed_list p'.isList (args_nil ?_)
    generalize hs3 : ({ s1 with heap := s1.heap.push (revObj a ((its.toArray.size : Int) - 1)) } : Shared) = s3
    have h3 : s3.heap = s1.heap.push (revObj a ((its.toArray.size : Int) - 1)) := by rw [← hs3]
    have k0 : ∀ b o, s1.heap.get? b = some o → s3.heap.get? b = some o := fun b o e => by rw [h3]; exact Heap.get?_push_of_some _ e
    have I2 : Inv X pins σ H1 s3 := by
      rw [← hs3]
      exact I1.kept (t' := s1.toks) fun b o e => Heap.get?_push_of_some _ e
    obtain ⟨o, ho, hc', n, hd⟩ := id p'.isList
    have hne : a ≠ s1.heap.objs.size := Nat.ne_of_lt (Heap.lt_size ho)
    have hpush : s3.heap.get? s1.heap.objs.size = some (revObj a ((its.toArray.size : Int) - 1)) := by rw [h3]; exact Heap.get?_push_size _ rfl
    refine call_tuple_rev (I1.ok.hd hc) ⟨_, hpush, rfl, rfl⟩ ⟨o, k0 _ _ ho, hc', n, hd⟩ hne hsz fun h' tk acc hk hi => ?_
    have I3 : Inv X pins σ H1 { s3 with heap := h', toks := tk } := I2.turned (t' := tk) (fun b o hb e => hk b o hb e) f0 f1 f3 f4 f5
    have rr := vals_rev rv hi
    have e1 : acc.toList.toArray = acc := by simp
    have L := laidT I3 rr (by rw [List.length_reverse]; exact hz) tk
    rw [e1] at L
    exact ⟨.ref h'.objs.size, _, L, rfl, q _ _ (I3.hok.fresh (Nat.le_refl _)) ⟨rfl, rfl⟩⟩
end
def eTupRev (F : EF) : EF := fun ρ => (F ρ).bind fun d => match d with
  | .tuple ds => .ok (.tuple ds.reverse)
  | .list ds => .ok (.tuple ds.reverse)
  | _ => .stuck
section
variable {X : Cx} {C : Cc} {W : WX} {O : Own} {e : Expr} {k : Nat} {F : EF} {p p2 pos pos2 : Pos}
theorem ev_tupRev (hc : X.calm = true) (hg : Gl X "tuple") (hm : X.mg "tuple" = none) (hg2 : Gl X "reversed") (hm2 : X.mg "reversed" = none) (he : EV X C W O e k F)
    (hs : starEach [e] X.env = (false, eval e X.env) :: starEach [] X.env := by rfl)
    (hs2 : starEach [.Call (.Name "reversed" p2) [e] [] pos2] X.env = (false, eval (.Call (.Name "reversed" p2) [e] [] pos2) X.env) :: starEach [] X.env := by rfl) :
    EV X C W O (.Call (.Name "tuple" p) [.Call (.Name "reversed" p2) [e] [] pos2] [] pos) k (eTupRev F) := (pe_tupRev hc hg hm hg2 hm2 he hs hs2).imp fun σ H Q ⟨ρ, Fs, er, q⟩ => by
  refine tD.step er (Sat.bind q) fun d v H1 F1 p er1 x1 r1 kd1 => ?_
  cases r1 with
  | @tup a xs ds _ s r =>
    refine ⟨a, xs, rfl, .inl s.sq, fun l o hl ho => ?_⟩
    obtain ⟨G, r', m, nd⟩ := r.reverse
    have x2 : Ex C.T H1 (upd H1 l (.frz o (.tup xs.reverse))) := .new hl
    exact p _ _ G (x1.trans x2) (.tup (.new ho) (r'.ex x2)) (kd1.mix1 x1 ⟨fun b hb => .inl (m b hb), nd⟩)
  | @lst a xs ds _ s r =>
    refine ⟨a, xs, rfl, .inr (.inl (.inl s)), fun l o hl ho => ?_⟩
    obtain ⟨G, r', m, nd⟩ := r.reverse
    have x2 : Ex C.T H1 (upd H1 l (.frz o (.tup xs.reverse))) := .new hl
    exact p _ _ G (x1.trans x2) (.tup (.new ho) (r'.ex x2)) (kd1.mix1 x1 ⟨fun b hb => .inl (List.mem_cons_of_mem _ (m b hb)), fun h => nd (List.nodup_cons.mp h).2⟩)
  | _ => exact p.elim
end
/-! len, of dicts too -/
def isDct (kvs : List (D × D)) : Bool := (kvs.all fun p => atomK p.1) || kvs.all fun p => isTup p.1
def lenX : List D → R D
  | [.dict kvs] => if isDct kvs = true then .ok (.int kvs.length) else lenD [.dict kvs]
  | ds => lenD ds
section
variable {X : Cx} {T : List Addr}
theorem lenD_nox (ds : List D) : NoX (lenD ds) := by
  unfold lenD
  split <;> first | exact noxO | exact noxI noxO noxS | exact noxS
theorem call_lenX : CallR X (.builtin "len") (fun vs H Q => ∃ v kvs F, vs = [v] ∧ Rp X.K H v (.dict kvs) F ∧ isDct kvs = true ∧ Q (.int kvs.length) H) := by
  intro pins s σ H vs us Q I r h
  obtain ⟨v, kvs, F, rfl, rd, hd, q⟩ := h
  have hn : (∀ p ∈ kvs, atomK p.1 = true) ∨ ∀ p ∈ kvs, isTup p.1 = true := by
    unfold isDct at hd
    rw [Bool.or_eq_true] at hd
    exact hd.imp (fun z p hp => List.all_eq_true.mp z p hp) (fun z p hp => List.all_eq_true.mp z p hp)
  obtain ⟨a, o, Fv, vs, rfl, rfl, ho, rv, w⟩ := dct_cases rd hn
  obtain rfl := Vals.ref1 r
  have hl63 := line63
  rcases w with ⟨L, rfl, e1, rfl⟩ | ⟨L, rfl, e1, rfl⟩
  · have hl : L.length = kvs.length := by simpa using (congrArg List.length e1).symm
    refine d_len I (.inl ho) fun t s' I' => ⟨.int kvs.length, H, I', ⟨t, by rw [hl]⟩, q⟩
  · obtain ⟨le, ns, xs, pr, dd⟩ := vb_of I ho e1
    have hl : L.length = kvs.length := by simpa using kyx_len e1
    have hx : xs.length = kvs.length := by rw [← hl]; exact (Paired.length pr).symm
    have km : s.heap.DictKeyed (nestedKind X.prog X.w) a (pairsH xs) := ⟨xs, dd, rfl⟩
    have hp : (pairsH xs).length = kvs.length := by rw [pairsH_length, hx]
    refine PyProof.Rows.call_len_slot (n := (pairsH xs).length) km.typeIs F.slot_dict_len (fun Q' hq => len_keyed ns km hq) (by omega) (by rw [hp, ← hl]; omega) ?_
    rw [hp]
    exact ⟨.int kvs.length, H, I.tok _, ⟨_, rfl⟩, q⟩
theorem c_lenX : CallD X T (.builtin "len") lenX where
  nox := fun ds => by
    unfold lenX
    split
    · exact noxI noxO (lenD_nox _)
    · exact lenD_nox _
  ex := by
    obtain ⟨nox, r0, hc, hr⟩ := c_len (X := X) (T := T)
    refine ⟨_, callr_or hc call_lenX, fun H vs ds F Q r h => ?_⟩
    unfold lenX at h
    split at h
    · rename_i kvs
      by_cases hd : isDct kvs = true
      · rw [if_pos hd] at h
        cases r with
        | @cons v _ _ _ F1 F2 r1 rs =>
          cases rs
          exact .inr ⟨v, kvs, F1, rfl, r1, hd, h _ H [] .refl (.int _) Mix1.nil⟩
      · rw [if_neg hd] at h
        exact .inl (hr H vs _ F Q r h)
    · exact .inl (hr H vs ds F Q r h)
end
theorem im_lenX : ∀ ds d, lenX ds = .ok d → imm d = true := fun ds d h => by
  unfold lenX at h
  split at h
  · split at h
    · cases h; rfl
    · exact im_len _ _ h
  · exact im_len _ _ h
end Pd
namespace Pd
open PySem PySem.Spec PyProof.Rows L2
/-! what is always without lists and dicts -/
theorem im_ltX : ∀ x y d, ltX x y = .ok d → imm d = true := fun _ _ _ e => imm_ord e
theorem im_leX : ∀ x y d, leX x y = .ok d → imm d = true := fun _ _ _ e => imm_ord e
theorem im_gtX : ∀ x y d, gtX x y = .ok d → imm d = true := fun _ _ _ e => imm_ord e
theorem im_geX : ∀ x y d, geX x y = .ok d → imm d = true := fun _ _ _ e => imm_ord e
theorem im_inX : ∀ x y d, inX x y = .ok d → imm d = true := fun _ _ _ e => imm_inX e
theorem im_notInX : ∀ x y d, notInX x y = .ok d → imm d = true := fun _ _ _ e => imm_notInX e
/-- sorted(xs): a new list -/
theorem ev_sorted {X : Cx} {C : Cc} {W : WX} {O : Own} {x : Str} {e : Expr} {es : List Expr} {k : Nat} {L : Env → R (List D)} {p pos : Pos} (hu : X.A.units + 65 < cLine) (hg : Gl X x) (hm : X.mg x = none) (ha : AVn X C W O (e :: es) k L) (hv : bootBuiltins x = some (.builtin "sorted") := by exact bt_sorted) (hn : x ≠ "__name__" := by decide) (hdb : (x == ("__debug__" : Str)) = false := by decide)
    (he : starEach (e :: es) X.env = (false, eval e X.env) :: starEach es X.env := by rfl) (hpl : (backTo pos (starEach es X.env)).any (·.1) = false := by rfl) : EV X C W O (.Call (.Name x p) (e :: es) [] pos) 0 (eFun sortedD L) :=
  (pe_callB (call_sortD hu) hg hm hv ha.av hn hdb he hpl).imp fun σ H Q ⟨ρ, Fs, er, q⟩ => by
    refine tL.step er (Sat.bind q) fun ds vs H1 F1 p er1 x1 r1 kd1 => ?_
    match ds, vs, r1, p with
    | [d], [v], .cons r1 .nil, p =>
      have p := p.nox (bind_nox (noxIt _) fun es => noxI noxO noxS)
      obtain ⟨es, e, h⟩ := itD_sat p
      obtain ⟨a, xs, G, rfl, r', sb, w⟩ := seq_cases r1 e
      obtain ⟨⟨hi, hk⟩, h⟩ := satI h
      cases r'.imm hi
      refine ⟨a, xs, es, rfl, w.elim (fun z => .inl z.1) (fun z => .inr z.1.sq), ⟨[], r'⟩, ?_, hk, fun zs p hz hp => ?_⟩
      · unfold okSort at hk
        have := SeqAt.canLay_of_shaped (Bool.and_eq_true_iff.mp hk).1
        simpa [PyData.canLay0] using this
      · have x2 : Ex C.T H1 (upd H1 p (.lst zs)) := .new hp
        refine h _ _ [p] (x1.trans x2) (.lst upd_same ((rpl_each r' hz).ex x2)) ⟨fun _ => ⟨List.nodup_cons.mpr ⟨fun z => (nomatch z), List.nodup_nil⟩, fun b hb => ?_⟩, fun z => (by cases z)⟩
        rcases List.mem_cons.mp hb with z | z
        · rw [z]; exact x1.free hp
        · cases z
    | [], [], .nil, p => exact p.elim
    | _ :: _ :: _, _, _, p => exact p.elim
/-! ### steps of the combinators, further -/
section
variable {ρ : Env} {F G J : EF} {L : Env → R (List D)} {h : List D → R D} {m : Int} {i : Nat} {xs ys : List D} {a b : Int} {x : D} {kvs : List (D × D)}
@[simp] theorem q_callD : eCallD h m L ρ = (L ρ).bind fun xs => h (xs ++ [.int m]) := id rfl
@[simp] theorem q_callK : eCallK h L G ρ = (L ρ).bind fun xs => (G ρ).bind fun y => h (xs ++ [y]) := id rfl
@[simp] theorem q_setIxX : setIxX i F G ρ = RS.of (G ρ) ρ fun d => RS.of (ρ.get i) ρ fun x => match x with
  | .list ds => RS.of (F ρ) ρ fun k => match k with
    | .int n => (match ixN ds.length n with
      | some j => .nx (ρ.put i (.list (ds.set j d)))
      | none => .stuck)
    | _ => .stuck
  | .dict kvs => RS.of (F ρ) ρ fun k => if keyFit kvs k = true ∧ kvs.length < 16777216 then .nx (ρ.put i (.dict (dputR kvs k d))) else .stuck
  | _ => .stuck := id rfl
@[simp] theorem q_tupRevT (hh : F ρ = .ok (.tuple xs)) : eTupRev F ρ = .ok (.tuple xs.reverse) := by
  unfold eTupRev
  rw [hh] <;> rfl
@[simp] theorem q_tupRevL (hh : F ρ = .ok (.list xs)) : eTupRev F ρ = .ok (.tuple xs.reverse) := by
  unfold eTupRev
  rw [hh] <;> rfl
@[simp] theorem o_lenXT : lenX [.tuple xs] = .ok (.int xs.length) := id rfl
@[simp] theorem o_lenXL : lenX [.list xs] = .ok (.int xs.length) := id rfl
@[simp] theorem o_lenXR : lenX [.dict [(.none, .tuple xs)]] = .ok (.int xs.length) := by
  have e : isDct [(.none, .tuple xs)] = false := id rfl
  refine (show lenX [.dict [(.none, .tuple xs)]] = (if isDct [(.none, .tuple xs)] = true then R.ok (PyData.int ([(PyData.none, PyData.tuple xs)] : List (D × D)).length) else lenD [.dict [(.none, .tuple xs)]]) from rfl).trans ?_
  rw [if_neg (by rw [e]; decide)]
  rfl
@[simp] theorem o_inXT : inX x (.tuple xs) = inD x (.tuple xs) := inX_o fun kvs e => by cases e
@[simp] theorem o_inXL : inX x (.list xs) = inD x (.list xs) := inX_o fun kvs e => by cases e
@[simp] theorem o_inXD : inX x (.dict kvs) = if keyFit kvs x = true then .ok (.bool (dget kvs x).isSome) else .stuck := inX_d x kvs
@[simp] theorem o_notInXT : notInX x (.tuple xs) = notInD x (.tuple xs) := notInX_o fun kvs e => by cases e
@[simp] theorem o_notInXL : notInX x (.list xs) = notInD x (.list xs) := notInX_o fun kvs e => by cases e
@[simp] theorem o_notInXD : notInX x (.dict kvs) = if keyFit kvs x = true then .ok (.bool (!(dget kvs x).isSome)) else .stuck := notInX_d x kvs
end
end Pd
namespace Pd
open PySem PySem.Spec PyProof.Rows L2
/-- xs + ys, lists of things without lists: a new one -/
def catD : D → D → R D
  | .list xs, .list ys => if xs.length + ys.length ≤ 16777216 ∧ immL xs = true ∧ immL ys = true then .ok (.list (xs ++ ys)) else .stuck
  | _, _ => .stuck
def eCat (F G : EF) : EF := fun ρ => (F ρ).bind fun x => (G ρ).bind fun y => catD x y
theorem catD_nox (x y : D) : NoX (catD x y) := by
  unfold catD
  split <;> first | exact noxS | exact noxI noxO noxS
@[simp] theorem q_cat {ρ : Env} {F G : EF} : eCat F G ρ = (F ρ).bind fun x => (G ρ).bind fun y => catD x y := id rfl
@[simp] theorem o_cat {xs ys : List D} : catD (.list xs) (.list ys) = if xs.length + ys.length ≤ 16777216 ∧ immL xs = true ∧ immL ys = true then .ok (.list (xs ++ ys)) else .stuck := id rfl
theorem ev_cat {X : Cx} {C : Cc} {W : WX} {O : Own} {a b : Expr} {pos : Pos} {ka kb : Nat} {F G : EF} (ha : EV X C W O a ka F) (hb : EV X C W O b kb G) : EV X C W O (.BinOp a .Add b pos) 0 (eCat F G) :=
  (pe_op op_cat ha hb).imp fun σ H Q ⟨ρ, Fs, er, q⟩ => by
    refine tD.step er (Sat.bind q) fun d v H1 F1 p er1 x1 r1 kd1 => ?_
    refine tD.step er1 (Sat.later (Sat.bind p) x1) fun d2 v2 H2 F2 p2 er2 x2 r2 kd2 => ?_
    have p2 := p2.nox (catD_nox _ _)
    have r1 := r1.ex x2
    cases r1 with
    | @lst a1 xs ds Fx ea ra =>
      cases r2 with
      | @lst a2 ys es Fy eb rb =>
        obtain ⟨⟨hc, h1, h2⟩, p2⟩ := satI p2
        cases ra.imm h1
        cases rb.imm h2
        refine ⟨a1, a2, xs, ys, rfl, rfl, ea, eb, by rw [sz16, ra.length, rb.length]; exact hc, fun p hp => ?_⟩
        have x3 : Ex C.T H2 (upd H2 p (.lst (xs ++ ys))) := .new hp
        refine p2 _ _ [p] ((x1.trans x2).trans x3) (.lst upd_same ((ra.ex x3).append (rb.ex x3))) ⟨fun _ => ⟨List.nodup_cons.mpr ⟨fun z => (nomatch z), List.nodup_nil⟩, fun b hb => ?_⟩, fun z => (by cases z)⟩
        rcases List.mem_cons.mp hb with z | z
        · rw [z]; exact (x1.trans x2).free hp
        · cases z
      | _ => exact p2.elim
    | _ => cases d2 <;> exact p2.elim
end Pd
namespace Pd
open PySem PySem.Spec PyProof.Rows L2
open PySem.W (dataLt alike)
/-! ### tuples of whole numbers -/
abbrev tW (w : List Int) : D := .tuple (w.map .int)
def ltI : List Int → List Int → Bool
  | [], [] => false
  | [], _ :: _ => true
  | _ :: _, [] => false
  | x :: xs, y :: ys => if x = y then ltI xs ys else decide (x < y)
theorem ltI_dec : ∀ a b : List Int, decide (a < b) = ltI a b
  | [], [] => by simp [ltI]
  | [], _ :: _ => by simp [ltI]
  | _ :: _, [] => by simp [ltI]
  | x :: xs, y :: ys => by
    unfold ltI
    rw [← ltI_dec xs ys]
    by_cases h : x = y
    · subst h
      rw [if_pos rfl]
      apply decide_eq_decide.mpr
      rw [List.cons_lt_cons_iff]
      constructor
      · rintro (z | z)
        · exact absurd z (Int.lt_irrefl _)
        · exact z.2
      · exact fun z => .inr ⟨rfl, z⟩
    · rw [if_neg h]
      apply decide_eq_decide.mpr
      rw [List.cons_lt_cons_iff]
      constructor
      · rintro (z | z)
        · exact z
        · exact absurd z.1 h
      · exact .inl
theorem ltI_self : ∀ a : List Int, ltI a a = false
  | [] => rfl
  | x :: xs => by unfold ltI; rw [if_pos rfl, ltI_self xs]
theorem ltI_asym : ∀ a b : List Int, ltI a b = true → ltI b a = false
  | [], [], h => by cases h
  | [], _ :: _, _ => rfl
  | _ :: _, [], h => by cases h
  | x :: xs, y :: ys, h => by
    unfold ltI at h ⊢
    by_cases e : x = y
    · subst e
      rw [if_pos rfl] at h ⊢
      exact ltI_asym xs ys h
    · rw [if_neg e] at h
      rw [if_neg fun z => e z.symm]
      have := of_decide_eq_true h
      exact decide_eq_false (by omega)
theorem ltI_trans : ∀ a b c : List Int, ltI a b = true → ltI b c = true → ltI a c = true
  | [], [], _, h, _ => by cases h
  | [], _ :: _, [], _, h => by cases h
  | [], _ :: _, _ :: _, _, _ => rfl
  | _ :: _, [], _, h, _ => by cases h
  | _ :: _, _ :: _, [], _, h => by cases h
  | x :: xs, y :: ys, z :: zs, h, g => by
    unfold ltI at h g ⊢
    by_cases e : x = y
    · subst e
      rw [if_pos rfl] at h
      by_cases f : x = z
      · subst f
        rw [if_pos rfl] at g ⊢
        exact ltI_trans xs ys zs h g
      · rw [if_neg f] at g ⊢
        exact g
    · rw [if_neg e] at h
      have h := of_decide_eq_true h
      by_cases f : y = z
      · subst f
        rw [if_neg e]
        exact decide_eq_true h
      · rw [if_neg f] at g
        have g := of_decide_eq_true g
        rw [if_neg (by omega)]
        exact decide_eq_true (by omega)
theorem ltI_tri : ∀ a b : List Int, ltI a b = false → ltI b a = false → a = b
  | [], [], _, _ => rfl
  | [], _ :: _, h, _ => by cases h
  | _ :: _, [], _, h => by cases h
  | x :: xs, y :: ys, h, g => by
    unfold ltI at h g
    by_cases e : x = y
    · subst e
      rw [if_pos rfl] at h g
      rw [ltI_tri xs ys h g]
    · rw [if_neg e] at h
      rw [if_neg fun z => e z.symm] at g
      have h := of_decide_eq_false h
      have g := of_decide_eq_false g
      omega
/-- not above -/
theorem geI_trans {a b c : List Int} (h : ltI b a = false) (g : ltI c b = false) : ltI c a = false := by
  cases e : ltI c a with
  | false => rfl
  | true =>
    by_cases f : ltI a b = true
    · have := ltI_trans _ _ _ e f
      rw [g] at this; cases this
    · have := ltI_tri a b (by simpa using f) h
      subst this
      rw [g] at e; cases e
theorem dataLt_tW (a b : List Int) : dataLt (tW a) (tW b) = ltI a b := by
  rw [PySem.W.dataLt_tuple, ← ltI_dec]
  exact PySem.W.dataLt_ints a b
theorem alike_tW (a b : List Int) : alike (tW a) (tW b) = true := by
  show alike (.tuple _) (.tuple _) = true
  rw [alike]
  exact PySem.W.alike_ints a b
theorem tI_inj {a b : List Int} (h : tW a = tW b) : a = b := by
  have h1 : a.map PyData.int = b.map PyData.int := by injection h
  exact List.map_inj_right (fun x y e => by injection e) |>.mp h1
@[simp] theorem eqD_tW (a b : List Int) : eqD (tW a) (tW b) = .ok (.bool (decide (a = b))) := by
  unfold eqD
  rw [if_pos ⟨shp_tI a, shp_tI b⟩]
  unfold PyData.eqv
  rw [eqvAll_ints]
@[simp] theorem neD_tW (a b : List Int) : neD (tW a) (tW b) = .ok (.bool (!decide (a = b))) := by
  unfold neD
  rw [if_pos ⟨shp_tI a, shp_tI b⟩]
  unfold PyData.eqv
  rw [eqvAll_ints]
theorem okC2_tW (a b : List Int) : okC2 (tW a) (tW b) = true := by
  unfold okC2
  rw [shp_tI, shp_tI, alike_tW]
  rfl
@[simp] theorem ltX_tW (a b : List Int) : ltX (tW a) (tW b) = .ok (.bool (ltI a b)) := by
  unfold ltX ordX
  rw [if_pos (okC2_tW a b)]
  dsimp only
  rw [dataLt_tW]
@[simp] theorem gtX_tW (a b : List Int) : gtX (tW a) (tW b) = .ok (.bool (ltI b a)) := by
  unfold gtX ordX
  rw [if_pos (okC2_tW a b)]
  dsimp only
  rw [dataLt_tW]
@[simp] theorem leX_tW (a b : List Int) : leX (tW a) (tW b) = .ok (.bool (!ltI b a)) := by
  unfold leX ordX
  rw [if_pos (okC2_tW a b)]
  dsimp only
  rw [dataLt_tW]
@[simp] theorem geX_tW (a b : List Int) : geX (tW a) (tW b) = .ok (.bool (!ltI a b)) := by
  unfold geX ordX
  rw [if_pos (okC2_tW a b)]
  dsimp only
  rw [dataLt_tW]
/-! lists of such tuples -/
theorem sh_lT (xs : List (List Int)) : Sh 2 (.list (xs.map tW)) := sh_list fun x hx => by
  obtain ⟨w, _, rfl⟩ := List.mem_map.mp hx
  exact sh_tI
theorem sh_tT (xs : List (List Int)) : Sh 2 (.tuple (xs.map tW)) := sh_tup fun x hx => by
  obtain ⟨w, _, rfl⟩ := List.mem_map.mp hx
  exact sh_tI
@[simp] theorem shp_lT (xs : List (List Int)) : shp (.list (xs.map tW)) = true := (sh_lT xs).shp
@[simp] theorem shp_tT (xs : List (List Int)) : shp (.tuple (xs.map tW)) = true := (sh_tT xs).shp
@[simp] theorem immL_tW : ∀ xs : List (List Int), immL (xs.map tW) = true
  | [] => rfl
  | x :: xs => by
    rw [List.map_cons, o_imL1, immL_tW xs]
    simp
theorem eqvAll_tW : ∀ L M : List (List Int), PyData.eqvAll (L.map tW) (M.map tW) = decide (L = M)
  | [], [] => by simp [PyData.eqvAll]
  | [], _ :: _ => by simp [PyData.eqvAll]
  | _ :: _, [] => by simp [PyData.eqvAll]
  | x :: xs, y :: ys => by
    have e : PyData.eqv (tW x) (tW y) = decide (x = y) := by
      unfold PyData.eqv
      exact eqvAll_ints x y
    simp only [List.map_cons, PyData.eqvAll, eqvAll_tW xs ys, List.cons.injEq, e]
    by_cases h : x = y <;> by_cases g : xs = ys <;> simp [h, g]
@[simp] theorem eqD_lT (a b : List (List Int)) : eqD (.list (a.map tW)) (.list (b.map tW)) = .ok (.bool (decide (a = b))) := by
  unfold eqD
  rw [if_pos ⟨shp_lT a, shp_lT b⟩]
  unfold PyData.eqv
  rw [eqvAll_tW]
@[simp] theorem neD_lT (a b : List (List Int)) : neD (.list (a.map tW)) (.list (b.map tW)) = .ok (.bool (!decide (a = b))) := by
  unfold neD
  rw [if_pos ⟨shp_lT a, shp_lT b⟩]
  unfold PyData.eqv
  rw [eqvAll_tW]
@[simp] theorem eqD_tT (a b : List (List Int)) : eqD (.tuple (a.map tW)) (.tuple (b.map tW)) = .ok (.bool (decide (a = b))) := by
  unfold eqD
  rw [if_pos ⟨shp_tT a, shp_tT b⟩]
  unfold PyData.eqv
  rw [eqvAll_tW]
@[simp] theorem neD_tT (a b : List (List Int)) : neD (.tuple (a.map tW)) (.tuple (b.map tW)) = .ok (.bool (!decide (a = b))) := by
  unfold neD
  rw [if_pos ⟨shp_tT a, shp_tT b⟩]
  unfold PyData.eqv
  rw [eqvAll_tW]
theorem any_tW (L : List (List Int)) (i : List Int) : ((L.map tW).any fun z => PyData.eqv z (tW i)) = decide (i ∈ L) := by
  induction L with
  | nil => simp
  | cons x xs ih =>
    have e : PyData.eqv (tW x) (tW i) = decide (x = i) := by
      unfold PyData.eqv
      exact eqvAll_ints x i
    rw [List.map_cons, List.any_cons, ih, e]
    by_cases h : x = i <;> by_cases g : i ∈ xs <;> simp [h, g]
    exact fun e => h e.symm
@[simp] theorem inD_lT (L : List (List Int)) (i : List Int) : inD (tW i) (.list (L.map tW)) = .ok (.bool (decide (i ∈ L))) := by
  show (if shp (tW i) = true ∧ shp (.list (L.map tW)) = true then R.ok (PyData.bool ((L.map tW).any fun z => PyData.eqv z (tW i))) else .stuck) = _
  rw [if_pos ⟨shp_tI i, shp_lT L⟩, any_tW]
@[simp] theorem inD_tT (L : List (List Int)) (i : List Int) : inD (tW i) (.tuple (L.map tW)) = .ok (.bool (decide (i ∈ L))) := by
  show (if shp (tW i) = true ∧ shp (.tuple (L.map tW)) = true then R.ok (PyData.bool ((L.map tW).any fun z => PyData.eqv z (tW i))) else .stuck) = _
  rw [if_pos ⟨shp_tI i, shp_tT L⟩, any_tW]
/-! min, max -/
def minI (x : List Int) (xs : List (List Int)) : List Int := xs.foldl (fun a y => if ltI y a = true then y else a) x
theorem okCmp_tW (xs : List (List Int)) : okCmp (xs.map tW) = true := by
  unfold okCmp
  rw [shp_lT, Bool.true_and, Bool.and_eq_true]
  refine ⟨List.all_eq_true.mpr fun x hx => List.all_eq_true.mpr fun y hy => ?_, List.all_eq_true.mpr fun x hx => ?_⟩
  · obtain ⟨a, _, rfl⟩ := List.mem_map.mp hx
    obtain ⟨b, _, rfl⟩ := List.mem_map.mp hy
    exact alike_tW a b
  · obtain ⟨a, _, rfl⟩ := List.mem_map.mp hx
    rfl
theorem minD_tW : ∀ (xs : List (List Int)) (x : List Int), PySem.W.minD (tW x) (xs.map tW) = tW (minI x xs)
  | [], x => rfl
  | y :: ys, x => by
    unfold PySem.W.minD minI
    rw [List.map_cons, List.foldl_cons, List.foldl_cons, dataLt_tW]
    have := minD_tW ys (if ltI y x = true then y else x)
    unfold PySem.W.minD minI at this
    rw [← this]
    cases ltI y x <;> rfl
theorem min_lT (x : List Int) (xs : List (List Int)) : minLD [.list ((x :: xs).map tW)] = .ok (tW (minI x xs)) := by
  refine (show minLD [.list ((x :: xs).map tW)] = (if okCmp (tW x :: xs.map tW) = true then R.ok (PySem.W.minD (tW x) (xs.map tW)) else .stuck) from rfl).trans ?_
  have := okCmp_tW (x :: xs)
  rw [List.map_cons] at this
  rw [if_pos this, minD_tW]
theorem min2_tW (a b : List Int) : minA [tW a, tW b] = .ok (tW (if ltI b a = true then b else a)) := by
  show (if okCmp [tW a, tW b] = true then R.ok (PySem.W.minD (tW a) [tW b]) else .stuck) = _
  have h1 := okCmp_tW [a, b]
  have h2 := minD_tW [b] a
  rw [List.map_cons, List.map_cons, List.map_nil] at h1
  rw [List.map_cons, List.map_nil] at h2
  rw [if_pos h1, h2]
  rfl
/-! sorted -/
theorem pw_eq {α : Type} {r : α → α → Bool} (anti : ∀ a b, r a b = false → r b a = false → a = b) : ∀ {xs ys : List α}, xs.Perm ys → xs.Pairwise (fun a b => r b a = false) → ys.Pairwise (fun a b => r b a = false) → (∀ a, r a a = false) → xs = ys
  | [], ys, p, _, _, _ => (List.perm_nil.mp p.symm).symm
  | x :: xs, [], p, _, _, _ => by have := p.length_eq; simp at this
  | x :: xs, y :: ys, p, h, g, rf => by
    obtain ⟨h1, h2⟩ := List.pairwise_cons.mp h
    obtain ⟨g1, g2⟩ := List.pairwise_cons.mp g
    have e : x = y := by
      have mx : x ∈ y :: ys := p.mem_iff.mp List.mem_cons_self
      have my : y ∈ x :: xs := p.mem_iff.mpr List.mem_cons_self
      rcases List.mem_cons.mp mx with z | z
      · exact z
      · rcases List.mem_cons.mp my with w | w
        · exact w.symm
        · exact anti _ _ (g1 x z) (h1 y w)
    subst e
    rw [pw_eq anti (List.Perm.cons_inv p) h2 g2 rf]
/-- the list in its order -/
theorem srt_gen {α : Type} (f : α → D) (lt : α → α → Bool) (hf : ∀ a b, dataLt (f a) (f b) = lt a b) (anti : ∀ a b, lt a b = false → lt b a = false → a = b) (rf : ∀ a, lt a a = false) (tr : ∀ a b c, lt b a = false → lt c b = false → lt c a = false) (as : ∀ a b, lt a b = true → lt b a = false)
    {xs ys : List α} (p : ys.Perm xs) (s : ys.Pairwise fun a b => lt b a = false) : srtL (xs.map f) = ys.map f := by
  have h1 : srtL (xs.map f) = (xs.mergeSort fun a b => !lt b a).map f := by
    unfold srtL
    rw [List.map_mergeSort]
    intro a _ b _
    rw [PySem.W.dataLe_eq]
    simp only [cond_false, hf]
  have h2 : (xs.mergeSort fun a b => !lt b a).Pairwise fun a b => (!lt b a) = true := by
    refine List.pairwise_mergeSort (fun a b c h g => ?_) (fun a b => ?_) xs
    · simp only [Bool.not_eq_true'] at *
      exact tr a b c h g
    · cases e : lt b a with
      | false => rfl
      | true => simp [as b a e]
  rw [h1, pw_eq anti ((List.mergeSort_perm xs _).trans p.symm) (h2.imp fun h => by simpa using h) s rf]
theorem srt_tW {xs ys : List (List Int)} (p : ys.Perm xs) (s : ys.Pairwise fun a b => ltI b a = false) : srtL (xs.map tW) = ys.map tW :=
  srt_gen tW ltI dataLt_tW ltI_tri ltI_self (fun _ _ _ => geI_trans) ltI_asym p s
theorem srt_int {xs ys : List Int} (p : ys.Perm xs) (s : ys.Pairwise fun a b => a ≤ b) : srtL (xs.map PyData.int) = ys.map PyData.int :=
  srt_gen PyData.int (fun a b => decide (a < b)) PySem.W.dataLt_int (fun a b h g => by simp at h g; omega) (fun a => by simp) (fun a b c h g => by simp at h g ⊢; omega) (fun a b h => by simp at h ⊢; omega) p (s.imp fun h => by simpa using h)
theorem okSort_tW (xs : List (List Int)) (h : xs.length < 2 ∨ ∀ x ∈ xs, x ≠ []) : okSort (xs.map tW) = true := by
  unfold okSort
  rw [shp_lT, Bool.true_and, Bool.or_eq_true]
  rcases h with h | h
  · exact .inl (decide_eq_true (by rw [List.length_map]; exact h))
  · refine .inr (Bool.and_eq_true_iff.mpr ⟨List.all_eq_true.mpr fun x hx => List.all_eq_true.mpr fun y hy => ?_, Bool.or_eq_true_iff.mpr (.inl (List.all_eq_true.mpr fun x hx => ?_))⟩)
    · obtain ⟨a, _, rfl⟩ := List.mem_map.mp hx
      obtain ⟨b, _, rfl⟩ := List.mem_map.mp hy
      exact alike_tW a b
    · obtain ⟨a, ha, rfl⟩ := List.mem_map.mp hx
      cases a with
      | nil => exact absurd rfl (h _ ha)
      | cons y ys => rfl
theorem okSort_int (xs : List Int) : okSort (xs.map PyData.int) = true := by
  unfold okSort
  rw [shp_lI, Bool.true_and, Bool.or_eq_true]
  refine .inr (Bool.and_eq_true_iff.mpr ⟨List.all_eq_true.mpr fun x hx => List.all_eq_true.mpr fun y hy => ?_, Bool.or_eq_true_iff.mpr (.inr (Bool.or_eq_true_iff.mpr (.inl (List.all_eq_true.mpr fun x hx => ?_))))⟩)
  · obtain ⟨a, _, rfl⟩ := List.mem_map.mp hx
    obtain ⟨b, _, rfl⟩ := List.mem_map.mp hy
    rfl
  · obtain ⟨a, ha, rfl⟩ := List.mem_map.mp hx
    rfl
theorem sorted_lT {xs ys : List (List Int)} (h : xs.length < 2 ∨ ∀ x ∈ xs, x ≠ []) (p : ys.Perm xs) (s : ys.Pairwise fun a b => ltI b a = false) : sortedD [.list (xs.map tW)] = .ok (.list (ys.map tW)) := by
  show (if immL (xs.map tW) = true ∧ okSort (xs.map tW) = true then R.ok (PyData.list (srtL (xs.map tW))) else .stuck) = _
  rw [if_pos ⟨immL_tW xs, okSort_tW xs h⟩, srt_tW p s]
theorem okSort_tW0 (xs : List (List Int)) (h : ∀ x ∈ xs, x = []) : okSort (xs.map tW) = true := by
  unfold okSort
  rw [shp_lT, Bool.true_and, Bool.or_eq_true]
  refine .inr (Bool.and_eq_true_iff.mpr ⟨List.all_eq_true.mpr fun x hx => List.all_eq_true.mpr fun y hy => ?_, Bool.or_eq_true_iff.mpr (.inr (Bool.or_eq_true_iff.mpr (.inr (List.all_eq_true.mpr fun x hx => ?_))))⟩)
  · obtain ⟨a, _, rfl⟩ := List.mem_map.mp hx
    obtain ⟨b, _, rfl⟩ := List.mem_map.mp hy
    exact alike_tW a b
  · obtain ⟨a, ha, rfl⟩ := List.mem_map.mp hx
    rw [h _ ha]
    rfl
/-- tuples of one length -/
theorem sorted_lTn {xs ys : List (List Int)} {n : Nat} (h : ∀ x ∈ xs, x.length = n) (p : ys.Perm xs) (s : ys.Pairwise fun a b => ltI b a = false) : sortedD [.list (xs.map tW)] = .ok (.list (ys.map tW)) := by
  have hk : okSort (xs.map tW) = true := by
    cases n with
    | zero => exact okSort_tW0 xs fun x hx => List.length_eq_zero_iff.mp (h x hx)
    | succ n => exact okSort_tW xs (.inr fun x hx e => by have := h x hx; rw [e] at this; cases this)
  show (if immL (xs.map tW) = true ∧ okSort (xs.map tW) = true then R.ok (PyData.list (srtL (xs.map tW))) else .stuck) = _
  rw [if_pos ⟨immL_tW xs, hk⟩, srt_tW p s]
theorem sorted_lI {xs ys : List Int} (p : ys.Perm xs) (s : ys.Pairwise fun a b => a ≤ b) : sortedD [.list (xs.map .int)] = .ok (.list (ys.map .int)) := by
  show (if immL (xs.map PyData.int) = true ∧ okSort (xs.map PyData.int) = true then R.ok (PyData.list (srtL (xs.map PyData.int))) else .stuck) = _
  rw [if_pos ⟨o_imInts, okSort_int xs⟩, srt_int p s]
theorem sorted_tI {xs ys : List Int} (p : ys.Perm xs) (s : ys.Pairwise fun a b => a ≤ b) : sortedD [.tuple (xs.map .int)] = .ok (.list (ys.map .int)) := by
  show (if immL (xs.map PyData.int) = true ∧ okSort (xs.map PyData.int) = true then R.ok (PyData.list (srtL (xs.map PyData.int))) else .stuck) = _
  rw [if_pos ⟨o_imInts, okSort_int xs⟩, srt_int p s]
/-! tuples of whole numbers as keys -/
theorem isKeyL_int : ∀ w : List Int, isKeyL (w.map .int) = true
  | [] => rfl
  | x :: xs => by
    rw [List.map_cons]
    unfold isKeyL
    rw [isKeyL_int xs]
    rfl
theorem keyDepth_int : ∀ w : List Int, NestedKey.depthAll (toKs (w.map .int)) = 0
  | [] => rfl
  | x :: xs => by
    rw [List.map_cons]
    unfold toKs NestedKey.depthAll
    rw [keyDepth_int xs]
    rfl
@[simp] theorem okKey_tW (w : List Int) : okKey (tW w) = true := by
  unfold okKey
  rw [Bool.and_eq_true]
  refine ⟨isKeyL_int w, decide_eq_true ?_⟩
  show NestedKey.depthAll (toKs (w.map .int)) + 1 ≤ 8
  rw [keyDepth_int]
  decide
theorem eqv_tW (a b : List Int) : PyData.eqv (tW a) (tW b) = decide (a = b) := by
  unfold PyData.eqv
  exact eqvAll_ints a b
/-- a dict with such keys, all values alike -/
def dW (ks : List (List Int)) (v : D) : List (D × D) := ks.map fun k => (tW k, v)
theorem keyFit_dW (ks : List (List Int)) (v : D) (k : List Int) : keyFit (dW ks v) (tW k) = true := by
  unfold keyFit
  rw [Bool.or_eq_true]
  refine .inr (Bool.and_eq_true_iff.mpr ⟨okKey_tW k, List.all_eq_true.mpr fun p hp => ?_⟩)
  obtain ⟨w, _, rfl⟩ := List.mem_map.mp hp
  rfl
theorem dget_dW (v : D) (k : List Int) : ∀ ks : List (List Int), (dget (dW ks v) (tW k)).isSome = decide (k ∈ ks)
  | [] => by simp [dW, dget]
  | x :: xs => by
    have ih := dget_dW v k xs
    have ee := eqv_tW x k
    by_cases h : x = k
    · rw [decide_eq_true h] at ee
      rw [show dW (x :: xs) v = (tW x, v) :: dW xs v from rfl, dget_yes (p := (tW x, v)) ee]
      simp [h]
    · rw [decide_eq_false h] at ee
      rw [show dW (x :: xs) v = (tW x, v) :: dW xs v from rfl, dget_no (p := (tW x, v)) ee, ih]
      have hk : ¬ k = x := fun e => h e.symm
      by_cases g : k ∈ xs <;> simp [g, hk]
def addK (ks : List (List Int)) (k : List Int) : List (List Int) := if k ∈ ks then ks else ks ++ [k]
theorem dput_dW (v : D) (k : List Int) : ∀ ks : List (List Int), dputR (dW ks v) (tW k) v = dW (addK ks k) v
  | [] => rfl
  | x :: xs => by
    have ih := dput_dW v k xs
    have ee := eqv_tW x k
    show dputR ((tW x, v) :: dW xs v) (tW k) v = _
    unfold dputR
    by_cases h : x = k
    · rw [decide_eq_true h] at ee
      rw [if_pos ee]
      unfold addK
      rw [if_pos (by rw [h]; exact List.mem_cons_self)]
      rfl
    · rw [decide_eq_false h] at ee
      rw [if_neg (by rw [ee]; decide), ih]
      unfold addK
      by_cases g : k ∈ xs
      · rw [if_pos g, if_pos (List.mem_cons_of_mem _ g)]
        rfl
      · rw [if_neg g, if_neg (fun z => (List.mem_cons.mp z).elim (fun w => h w.symm) g)]
        rfl
theorem isDct_dW (ks : List (List Int)) (v : D) : isDct (dW ks v) = true := by
  unfold isDct
  rw [Bool.or_eq_true]
  refine .inr (List.all_eq_true.mpr fun p hp => ?_)
  obtain ⟨w, _, rfl⟩ := List.mem_map.mp hp
  rfl
theorem lenX_dW (ks : List (List Int)) (v : D) : lenX [.dict (dW ks v)] = .ok (.int ks.length) := by
  refine (show lenX [.dict (dW ks v)] = (if isDct (dW ks v) = true then R.ok (PyData.int (dW ks v).length) else lenD [.dict (dW ks v)]) from rfl).trans ?_
  rw [if_pos (isDct_dW ks v)]
  unfold dW
  rw [List.length_map]
/-! ### while -/
theorem whD_step {c : Env → R Bool} {B : Env → RS} {n : Nat} {ρ ρ' : Env} (h : c ρ = .ok true) (hb : B ρ = .nx ρ' ∨ B ρ = .ct ρ') : whD c B (n + 1) ρ = whD c B n ρ' := by
  rw [whD]
  rcases hb with hb | hb <;> simp [h, hb]
theorem whD_stop {c : Env → R Bool} {B : Env → RS} {n : Nat} {ρ : Env} (h : c ρ = .ok false) : whD c B (n + 1) ρ = .nx ρ := by
  rw [whD]
  simp [h]
/-- a loop by its invariant and a measure -/
theorem whD_inv {c : Env → R Bool} {B : Env → RS} (Inv : Env → Prop) (Post : Env → Prop) (μ : Env → Nat)
    (step : ∀ ρ, Inv ρ → (c ρ = .ok false ∧ Post ρ) ∨ (c ρ = .ok true ∧ ∃ ρ', (B ρ = .nx ρ' ∨ B ρ = .ct ρ') ∧ Inv ρ' ∧ μ ρ' < μ ρ)) : ∀ (n : Nat) (ρ : Env), Inv ρ → μ ρ < n → ∃ ρ', whD c B n ρ = .nx ρ' ∧ Post ρ'
  | 0, ρ, _, h => absurd h (Nat.not_lt_zero _)
  | n + 1, ρ, i, h => by
    rcases step ρ i with ⟨h1, h2⟩ | ⟨h1, ρ', h2, h3, h4⟩
    · exact ⟨ρ, whD_stop h1, h2⟩
    · obtain ⟨ρ2, e, p⟩ := whD_inv Inv Post μ step n ρ' h3 (by omega)
      exact ⟨ρ2, by rw [whD_step h1 h2]; exact e, p⟩
end Pd
namespace Pd
open PySem PySem.Spec PyProof.Rows L2
/-! ### slices -/
section
variable {α : Type}
theorem cut_from' (L : List α) (d : Nat) : cut L (some (d : Int)) none = L.drop d := by
  unfold cut
  rw [HT.sIx_nat, HT.sIx_none]
  by_cases h : d ≤ L.length
  · rw [Nat.min_eq_left h, ← List.length_drop, List.take_length]
  · rw [Nat.min_eq_right (by omega), List.drop_length, List.drop_eq_nil_of_le (by omega)]
    simp
theorem cut_to' (L : List α) (d : Nat) : cut L none (some (d : Int)) = L.take d := by
  unfold cut
  rw [HT.sIx_nat, HT.sIx_none, List.drop_zero, Nat.sub_zero]
  by_cases h : d ≤ L.length
  · rw [Nat.min_eq_left h]
  · rw [Nat.min_eq_right (by omega), List.take_length, List.take_of_length_le (by omega)]
theorem cut_mid (L : List α) (i j : Nat) : cut L (some (i : Int)) (some (j : Int)) = (L.drop i).take (j - i) := by
  unfold cut
  rw [HT.sIx_nat, HT.sIx_nat]
  by_cases h : i ≤ L.length
  · rw [Nat.min_eq_left h]
    by_cases g : j ≤ L.length
    · rw [Nat.min_eq_left g]
    · rw [show min j L.length = L.length by omega, List.take_of_length_le (by rw [List.length_drop] <;> omega), List.take_of_length_le (by rw [List.length_drop] <;> omega)]
  · rw [show min i L.length = L.length by omega, List.drop_length, List.drop_eq_nil_of_le (by omega)]
    simp
end
theorem sl_T (xs : List D) (lo hi : Option Int) : slD (.tuple xs) lo hi = .ok (.tuple (cut xs lo hi)) := rfl
theorem sl_L (xs : List D) (lo hi : Option Int) : slD (.list xs) lo hi = .ok (.list (cut xs lo hi)) := rfl
@[simp] theorem sl_from (w : List Int) (k : Nat) : slD (tW w) (some (k : Int)) none = .ok (tW (w.drop k)) := by rw [sl_T, cut_from', ← List.map_drop]
@[simp] theorem sl_to (w : List Int) (k : Nat) : slD (tW w) none (some (k : Int)) = .ok (tW (w.take k)) := by rw [sl_T, cut_to', ← List.map_take]
@[simp] theorem sl_mid (w : List Int) (i j : Nat) : slD (tW w) (some (i : Int)) (some (j : Int)) = .ok (tW ((w.drop i).take (j - i))) := by rw [sl_T, cut_mid, ← List.map_drop, ← List.map_take]
theorem addT_tW (a b : List Int) (h : a.length + b.length ≤ 16777216) : addD (tW a) (tW b) = .ok (tW (a ++ b)) := by
  rw [o_addT, if_pos (by simpa using h)]
  simp
theorem ixW {w : List Int} {k : Nat} (h : k < w.length) : ixD (tW w) (.int (k : Int)) = .ok (.int (w.getD k 0)) := ix_tI h
theorem ixLT {xs : List (List Int)} {k : Nat} (h : k < xs.length) : ixD (.list (xs.map tW)) (.int (k : Int)) = .ok (tW (xs.getD k [])) := by
  rw [ixD_lst, atI_nat, List.getElem?_map, List.getElem?_eq_getElem h]
  simp [List.getD, h]
theorem ixTT {xs : List (List Int)} {k : Nat} (h : k < xs.length) : ixD (.tuple (xs.map tW)) (.int (k : Int)) = .ok (tW (xs.getD k [])) := by
  rw [ixD_tup, atI_nat, List.getElem?_map, List.getElem?_eq_getElem h]
  simp [List.getD, h]
theorem rng2' {a b : Nat} (ha : a < 4611686018427387904) (h : b < 4611686018427387904) : rngD [.int (a : Int), .int (b : Int)] = .ok ((List.range (b - a)).map fun i : Nat => PyData.int ((a + i : Nat) : Int)) := by
  rw [rng2 ha h]
  rfl
theorem rng1' {b : Nat} (h : b < 4611686018427387904) : rngD [.int (b : Int)] = .ok ((List.range b).map fun i : Nat => PyData.int (i : Int)) := by
  rw [rng1 h, rangeL0]
theorem seq_nx {A B : Env → RS} {ρ ρ' : Env} (h : A ρ = .nx ρ') : seqD A B ρ = B ρ' := by
  rw [q_seq, h, q_seq_nx]
theorem ix_mapI {n : List Int} {k : Nat} (h : k < n.length) : ixD (.list (n.map .int)) (.int (k : Int)) = .ok (.int (n.getD k 0)) := ix_lI h
theorem ix_map_i {n : List Int} (k : Nat) (h : k < n.length) {i : Int} (e : i = (k : Int)) : ixD (.list (n.map .int)) (.int i) = .ok (.int (n.getD k 0)) := by rw [e]; exact ix_lI h
/-- the comprehension over a range of naturals -/
theorem lc_nat {g : Env → D → R Env} {te : EF} {ρ : Env} (y : Nat → D) (m : Nat) (f : Nat → D)
    (h : ∀ k, k < m → ∃ ρ1, g ρ (f k) = .ok ρ1 ∧ te ρ1 = .ok (y k)) : lcGo g bYes te ρ ((List.range m).map f) = .ok ((List.range m).map y) :=
  lcGo_all f y (List.range m) fun a ha => h a (List.mem_range.mp ha)
end Pd
namespace Pd
open PySem PySem.Spec PyProof.Rows L2
/-! ### loops that may return or break -/
theorem forD_gen {α : Type} {g : Env → D → R Env} {B : Env → RS} (f : α → D) (L : List α) (Inv : Nat → Env → Prop) (Ret : D → Prop) (Brk : Env → Prop)
    (step : ∀ i a ρ, L[i]? = some a → Inv i ρ → ∃ ρ1, g ρ (f a) = .ok ρ1 ∧ ((∃ ρ2, (B ρ1 = .nx ρ2 ∨ B ρ1 = .ct ρ2) ∧ Inv (i + 1) ρ2) ∨ (∃ d, B ρ1 = .rt d ∧ Ret d) ∨ ∃ ρ2, B ρ1 = .bk ρ2 ∧ Brk ρ2)) {ρ : Env} (h0 : Inv 0 ρ) :
    (∃ ρ', forD g B (L.map f) ρ = .nx ρ' ∧ (Inv L.length ρ' ∨ Brk ρ')) ∨ ∃ d, forD g B (L.map f) ρ = .rt d ∧ Ret d := by
  have key : ∀ (M : List α) (k : Nat) (ρ : Env), L.drop k = M → k ≤ L.length → Inv k ρ → (∃ ρ', forD g B (M.map f) ρ = .nx ρ' ∧ (Inv L.length ρ' ∨ Brk ρ')) ∨ ∃ d, forD g B (M.map f) ρ = .rt d ∧ Ret d := by
    intro M
    induction M with
    | nil =>
      intro k ρ e hk i
      have : L.length ≤ k := List.drop_eq_nil_iff.mp e
      have : k = L.length := by omega
      subst this
      exact .inl ⟨ρ, rfl, .inl i⟩
    | cons a r ih =>
      intro k ρ e hk i
      have hd : L[k]? = some a := by
        have := congrArg (fun l => l[0]?) e
        simpa using this
      obtain ⟨ρ1, e1, h⟩ := step k a ρ hd i
      have lt : k < L.length := by
        rcases Nat.lt_or_ge k L.length with z | z
        · exact z
        · rw [List.getElem?_eq_none z] at hd; cases hd
      have er : L.drop (k + 1) = r := by
        have := congrArg List.tail e
        simpa [List.tail_drop] using this
      rw [List.map_cons]
      unfold forD
      rw [e1]
      rcases h with ⟨ρ2, e2, i2⟩ | ⟨d, e2, i2⟩ | ⟨ρ2, e2, i2⟩
      · rcases ih (k + 1) ρ2 er lt i2 with ⟨ρ3, e3, i3⟩ | ⟨d, e3, i3⟩
        · refine .inl ⟨ρ3, ?_, i3⟩
          rcases e2 with e2 | e2 <;> simp only [RS.of_ok, e2, e3]
        · refine .inr ⟨d, ?_, i3⟩
          rcases e2 with e2 | e2 <;> simp only [RS.of_ok, e2, e3]
      · exact .inr ⟨d, by simp only [RS.of_ok, e2], i2⟩
      · exact .inl ⟨ρ2, by simp only [RS.of_ok, e2], .inr i2⟩
  exact key L 0 ρ rfl (Nat.zero_le _) h0
/-- the loop that returns at the first hit -/
theorem forD_find {α : Type} {g : Env → D → R Env} {B : Env → RS} (f : α → D) (p : α → Bool) (y : α → D) (Inv : Env → Prop) : ∀ (L : List α),
    (∀ a ∈ L, ∀ ρ, Inv ρ → ∃ ρ1, g ρ (f a) = .ok ρ1 ∧ (p a = true → B ρ1 = .rt (y a)) ∧ (p a = false → ∃ ρ2, (B ρ1 = .nx ρ2 ∨ B ρ1 = .ct ρ2) ∧ Inv ρ2)) → ∀ ρ, Inv ρ →
    ∃ ρ', forD g B (L.map f) ρ = (match L.find? p with
      | some a => .rt (y a)
      | none => .nx ρ') ∧ Inv ρ'
  | [], _, ρ, i => ⟨ρ, rfl, i⟩
  | a :: L, h, ρ, i => by
    obtain ⟨ρ1, e1, h1, h2⟩ := h a List.mem_cons_self ρ i
    rw [List.map_cons]
    unfold forD
    rw [e1, List.find?_cons]
    cases hp : p a with
    | true => exact ⟨ρ, by simp only [RS.of_ok, h1 hp], i⟩
    | false =>
      obtain ⟨ρ2, e2, i2⟩ := h2 hp
      obtain ⟨ρ3, e3, i3⟩ := forD_find f p y Inv L (fun b hb => h b (List.mem_cons_of_mem _ hb)) ρ2 i2
      refine ⟨ρ3, ?_, i3⟩
      rcases e2 with e2 | e2 <;> simp only [RS.of_ok, e2, e3]
/-- while, with return and break -/
theorem whD_gen {c : Env → R Bool} {B : Env → RS} (Inv : Env → Prop) (Post : Env → Prop) (Ret : D → Prop) (μ : Env → Nat)
    (step : ∀ ρ, Inv ρ → (c ρ = .ok false ∧ Post ρ) ∨ (c ρ = .ok true ∧ ((∃ ρ', (B ρ = .nx ρ' ∨ B ρ = .ct ρ') ∧ Inv ρ' ∧ μ ρ' < μ ρ) ∨ (∃ d, B ρ = .rt d ∧ Ret d) ∨ ∃ ρ', B ρ = .bk ρ' ∧ Post ρ'))) : ∀ (n : Nat) (ρ : Env), Inv ρ → μ ρ < n → (∃ ρ', whD c B n ρ = .nx ρ' ∧ Post ρ') ∨ ∃ d, whD c B n ρ = .rt d ∧ Ret d
  | 0, ρ, _, h => absurd h (Nat.not_lt_zero _)
  | n + 1, ρ, i, h => by
    rcases step ρ i with ⟨h1, h2⟩ | ⟨h1, h2⟩
    · exact .inl ⟨ρ, whD_stop h1, h2⟩
    · rcases h2 with ⟨ρ', h2, h3, h4⟩ | ⟨d, h2, h3⟩ | ⟨ρ', h2, h3⟩
      · rw [whD_step h1 h2]
        exact whD_gen Inv Post Ret μ step n ρ' h3 (by omega)
      · refine .inr ⟨d, ?_, h3⟩
        rw [whD]
        simp [h1, h2]
      · refine .inl ⟨ρ', ?_, h3⟩
        rw [whD]
        simp [h1, h2]
/-! repetition, ranges -/
def repI (x : List Int) (n : Nat) : List Int := (List.replicate n x).flatten
theorem repD_int (x : List Int) (n : Nat) : repD (x.map .int) (n : Int) = (repI x n).map .int := by
  unfold repD repI
  rw [Int.toNat_natCast]
  induction n with
  | zero => rfl
  | succ n ih => rw [List.replicate_succ, List.flatten_cons, ih, List.replicate_succ, List.flatten_cons, List.map_append]
theorem repI_len (x : List Int) (n : Nat) : (repI x n).length = n * x.length := by
  unfold repI
  induction n with
  | zero => simp
  | succ n ih => rw [List.replicate_succ, List.flatten_cons, List.length_append, ih, Nat.succ_mul, Nat.add_comm]
theorem rangeLn (a n : Nat) : rangeL a n = (List.range n).map fun i => PyData.int ((a + i : Nat) : Int) := by
  unfold rangeL
  apply List.map_congr_left
  intro i _
  congr 1
end Pd
namespace Pd
open PySem PySem.Spec PyProof.Rows L2
/-! ### loops over a state -/
theorem whD_st {σ : Type} {c : Env → R Bool} {B : Env → RS} (e : σ → Env) (I : σ → Prop) (P : σ → Prop) (μ : σ → Nat)
    (step : ∀ s, I s → (c (e s) = .ok false ∧ P s) ∨ (c (e s) = .ok true ∧ ∃ s', (B (e s) = .nx (e s') ∨ B (e s) = .ct (e s')) ∧ I s' ∧ μ s' < μ s)) : ∀ (n : Nat) (s : σ), I s → μ s < n → ∃ s', whD c B n (e s) = .nx (e s') ∧ I s' ∧ P s'
  | 0, _, _, h => absurd h (Nat.not_lt_zero _)
  | n + 1, s, i, h => by
    rcases step s i with ⟨h1, h2⟩ | ⟨h1, s', h2, h3, h4⟩
    · exact ⟨s, whD_stop h1, i, h2⟩
    · obtain ⟨s2, e2, p⟩ := whD_st e I P μ step n s' h3 (by omega)
      exact ⟨s2, by rw [whD_step h1 h2]; exact e2, p⟩
theorem forD_st {α σ : Type} {g : Env → D → R Env} {B : Env → RS} (f : α → D) (e : σ → Env) (I : Nat → σ → Prop) : ∀ (L : List α)
    (_step : ∀ i a s, L[i]? = some a → I i s → ∃ ρ1 s', g (e s) (f a) = .ok ρ1 ∧ (B ρ1 = .nx (e s') ∨ B ρ1 = .ct (e s')) ∧ I (i + 1) s') (s : σ) (_h0 : I 0 s), ∃ s', forD g B (L.map f) (e s) = .nx (e s') ∧ I L.length s' := by
  intro L step s h0
  obtain ⟨ρ', e1, s', rfl, i'⟩ := forD_inv (g := g) (B := B) (ds := L.map f) (ρ := e s) (fun k ρ => ∃ s, ρ = e s ∧ I k s) ⟨s, rfl, h0⟩ (fun i d ρ hd ⟨s, h1, h2⟩ => by
    subst h1
    rw [List.getElem?_map, Option.map_eq_some_iff] at hd
    obtain ⟨a, ha, rfl⟩ := hd
    obtain ⟨ρ1, s', g1, b1, i1⟩ := step i a s ha h2
    exact ⟨ρ1, e s', g1, b1, s', rfl, i1⟩)
  rw [List.length_map] at i'
  exact ⟨s', e1, i'⟩
/-! ### orders of int tuples, by places -/
theorem ltI_at : ∀ (a b : List Int) (i : Nat), i < a.length → i < b.length → (∀ j, j < i → a.getD j 0 = b.getD j 0) → a.getD i 0 < b.getD i 0 → ltI a b = true
  | [], _, i, h, _, _, _ => by simp at h
  | _ :: _, [], i, _, h, _, _ => by simp at h
  | x :: xs, y :: ys, 0, _, _, _, h => by
    have h : x < y := by simpa using h
    unfold ltI
    rw [if_neg (by omega)]
    exact decide_eq_true h
  | x :: xs, y :: ys, i + 1, h1, h2, h3, h4 => by
    have e : x = y := by simpa using h3 0 (by omega)
    subst e
    unfold ltI
    rw [if_pos rfl]
    exact ltI_at xs ys i (by simpa using h1) (by simpa using h2) (fun j hj => by simpa using h3 (j + 1) (by omega)) (by simpa using h4)
theorem ltI_not : ∀ (a b : List Int) (t : Nat), (∀ i, i < t → i < b.length → i < a.length ∧ a.getD i 0 = b.getD i 0) → (b.length ≤ t ∨ (t < a.length ∧ b.getD t 0 < a.getD t 0)) → ltI a b = false
  | a, [], _, _, _ => by cases a <;> rfl
  | [], y :: ys, 0, _, h => by
    rcases h with h | h
    · simp at h
    · simp at h
  | [], y :: ys, t + 1, h, _ => by
    have := (h 0 (by omega) (by simp)).1
    simp at this
  | x :: xs, y :: ys, 0, _, h => by
    rcases h with h | ⟨_, h⟩
    · simp at h
    · have h : y < x := by simpa using h
      unfold ltI
      rw [if_neg (by omega)]
      exact decide_eq_false (by omega)
  | x :: xs, y :: ys, t + 1, h, g => by
    have e : x = y := by simpa using (h 0 (by omega) (by simp)).2
    subst e
    unfold ltI
    rw [if_pos rfl]
    refine ltI_not xs ys t (fun i h1 h2 => ?_) ?_
    · have := h (i + 1) (by omega) (by simpa using h2)
      simpa using this
    · rcases g with g | ⟨g, k⟩
      · exact .inl (by simpa using g)
      · exact .inr ⟨by simpa using g, by simpa using k⟩
end Pd
namespace Pd
open PySem PySem.Spec PyProof.Rows L2
section
variable {ρ : Env} {F G : EF} {g : D → D → R D} {i : Nat} {a b : Int}
@[simp] theorem q_aug : augD g i F ρ = RS.of (ρ.get i) ρ fun x => RS.of (F ρ) ρ fun d => RS.of (g x d) ρ fun z => if imm z = true then .nx (ρ.put i z) else .stuck := id rfl
@[simp] theorem o_iadd : iaddD (.int a) (.int b) = .ok (.int (a + b)) := id rfl
@[simp] theorem o_isub : isubD (.int a) (.int b) = .ok (.int (a - b)) := id rfl
end
end Pd
namespace Pd
open PySem PySem.Spec PyProof.Rows L2
/-! ### set comprehensions, by what is known of the set -/
def freshS (w : World) : Obj := { cls := .type "set", dict := none, data := .set #[] 0 (.fresh 0 0 (!w.params.followText "set-order")) }
structure SetKit (P : Program) (w : World) (K : PySem.W.Frag) where
  S : Type
  p : Addr → S → Heap → Prop
  s0 : S
  ok : List D → Prop
  rel : Hp → S → List D → Prop
  new : ∀ (H : Hp) (h : Heap), ObjOk P w H (h.push (freshS w)) h.objs.size (.ext (p h.objs.size s0))
  rel0 : ∀ H, rel H s0 []
  relx : ∀ {H H' : Hp} {st : S} {es : List D}, rel H st es → (∀ a xs, NT K H a xs → NT K H' a xs) → rel H' st es
  add : ∀ (Y : Cx), Y.prog = P → Y.w = w → Y.K = K → Y.A.units + 65 < cLine → ∀ {pins : List (Addr × Obj)} {σ : L2.St} {H : Hp} {s : Shared} {a : Addr} {st : S} {es : List D} {d : D} {rest : List D} {y : V} {v : Value} {E Q : Value → Shared → Prop},
    Inv Y pins σ H s → H a = some (.ext (p a st)) → rel H st es → ok (es ++ d :: rest) → Rp K H y d [] → RelV y v →
    (∀ s' st', Inv Y pins σ (upd H a (.ext (p a st'))) s' → rel (upd H a (.ext (p a st'))) st' (es ++ [d]) → Q .none s') → wpAny (model Y.prog Y.w) Y.A (call (.builtin "set.add") [.ref a, v]) Q E s
abbrev SetKit.ho {P : Program} {w : World} {K : PySem.W.Frag} (k : SetKit P w K) (a : Addr) (st : k.S) : HO := .ext (k.p a st)
section
variable {X : Cx}
def tSx (kit : SetKit X.prog X.w X.K) (wi : TI) (g : TG) (tt : TT) (te : TE) (vs : List Nat) : TE := fun σ H Q => wi σ H fun J H1 => ∀ a, H1 a = none → ∃ W : Nat → Nat → Hp → Prop, (∃ m, W 0 m (upd H1 a (kit.ho a kit.s0))) ∧ ∀ i m H, W i m H →
  (J.stop i H ∧ Q (.ref a) H) ∨ (J.go i H ∧ ∃ Nx : Hp → Prop, (∀ H', Nx H' → ∃ m', m' < m ∧ W (i + 1) m' H') ∧ ∀ x H', J.yld i H x H' → g x (wipe σ vs) H' fun σ2 H2 => wipe σ2 vs = wipe σ vs ∧ tt σ2 H2 fun b H3 =>
    if b = true then te σ2 H3 fun y H4 => ∃ st es d rest, H4 a = some (kit.ho a st) ∧ kit.rel H4 st es ∧ kit.ok (es ++ d :: rest) ∧ Rp X.K H4 y d [] ∧ ∀ st', kit.rel (upd H4 a (kit.ho a st')) st' (es ++ [d]) → Nx (upd H4 a (kit.ho a st')) else Nx H3)
theorem sx_core (hu : X.A.units + 65 < cLine) (kit : SetKit X.prog X.w X.K) {pins : List (Addr × Obj)} {s : Shared} {σ : L2.St} {H : Hp} {Q : VK} {elt tg iter : Expr} {ifs : List Expr} {scope : Scope} {own : List (Str × Nat)} {pos pos' : Pos} {wi : TI} {g : TG} {tt : TT} {te : TE} {use : Option (Value → Sem Unit)} {Qf : Value → Shared → Prop}
    (hc : X.calm = true) (hN : X.N.Nodup) (I : Inv X pins σ H s) (hi : PI X tg iter wi) (ok : BlkOk X.N X.env.scope scope own)
    (hg : ∀ (s : Shared) (H : Hp) (c : Addr) (cl : List (Str × Addr)) (fp : List Addr), PG (X.blk s H scope (compEnvC scope cl c X.env) fp) tg g) (ht : ∀ (s : Shared) (H : Hp) (c : Addr) (cl : List (Str × Addr)) (fp : List Addr), PTs (X.blk s H scope (compEnvC scope cl c X.env) fp) ifs tt)
    (he : ∀ (s : Shared) (H : Hp) (c : Addr) (cl : List (Str × Addr)) (fp : List Addr), PE (X.blk s H scope (compEnvC scope cl c X.env) fp) elt te) (hs : ∀ x, foldedSetIterable iter X.env x = pure x)
    (h : tSx kit wi g tt te (own.map (·.2)) σ H Q)
    (hR : ∀ a c s' m H', Inv X pins σ H' s' → Q (.ref a) H' → s'.heap.Ns c m → FpOk X pins H' c → compPost (model X.prog X.w) X.A X.xe use Qf (.ref a) c (.ok .next) s') :
    wpAny (model X.prog X.w) X.A (comprehension (.SetComp elt [⟨tg, iter, ifs, 0⟩] scope pos) scope X.env pos' (newSet (.type "set")) false (eval iter X.env) use) Qf X.xe s := by
  have hf : ∀ y ∈ scope.names, y.2 = .free → ∃ c, X.env.cells.lookup y.1 = some c := fun y hy e => (ok.free y hy e).elim (fun z => I.ok.has _ (.inl z)) fun z => I.ok.has _ (.inr z)
  refine wpAny_comprehension_free (use := use) rfl hs (closure_ok hf) ok.kind (fun y hy e => by rw [ok.uniq y hy, e]) (thn (hi.run pins s σ H _ I h) fun xv t1 hx => thn hx fun iv t2 r2 => ?_)
  obtain ⟨it, fp, tn, J, H2, rfl, I2, T, z2, f2, q⟩ := r2
  refine PpSet.newSet_ok (newEnv_comp ?_)
  generalize ha : t2.heap.objs.size = a
  have an : H2 a = none := I2.hok.fresh (Nat.le_of_eq ha)
  obtain ⟨W, ⟨m0, w0⟩, turn⟩ := q a an
  generalize ht3 : ({ t2 with heap := t2.heap.push (freshS X.w) } : Shared) = t3
  have I3 : Inv X pins σ (upd H2 a (kit.ho a kit.s0)) t3 := by
    rw [← ht3]
    refine I2.laid (t' := t2.toks) (fun b o e => Heap.get?_push_of_some _ e) (Nat.le_of_eq ha) ?_
    rw [← ha]
    exact kit.new _ _
  have h3 : t3.heap = t2.heap.push (freshS X.w) := by rw [← ht3]
  have f3 : ∀ b ∈ fp, FpOk X pins (upd H2 a (kit.ho a kit.s0)) b ∧ b < t3.heap.objs.size := fun b hb => by
    obtain ⟨o, e, _⟩ := T.obj _ _ z2 b hb
    have lt := Heap.lt_size e
    refine ⟨⟨?_, (f2 b hb).2⟩, by rw [h3, Heap.size_push] <;> exact Nat.lt_succ_of_lt lt⟩
    rw [upd_ne (by rw [← ha] <;> exact Nat.ne_of_lt lt)]
    exact (f2 b hb).1
  have z3 : tn 0 t3.heap := T.keep _ _ _ z2 fun b _ o e => by rw [h3] <;> exact Heap.get?_push_of_some _ e
  have I4 := block_start I3 ok hN f3
  have pg := hg t3 (upd H2 a (kit.ho a kit.s0)) t3.heap.objs.size (cellsFrom (t3.heap.objs.size + 1) scope.names (cloFrom X.env.cells scope.names [])) fp
  have pt := ht t3 (upd H2 a (kit.ho a kit.s0)) t3.heap.objs.size (cellsFrom (t3.heap.objs.size + 1) scope.names (cloFrom X.env.cells scope.names [])) fp
  have pe := he t3 (upd H2 a (kit.ho a kit.s0)) t3.heap.objs.size (cellsFrom (t3.heap.objs.size + 1) scope.names (cloFrom X.env.cells scope.names [])) fp
  have e3 : ({ t2 with heap := t2.heap.push (freshS X.w) } : Shared) = t3 := ht3
  change codeAny _ _ (.compStart (.SetComp elt [⟨tg, iter, ifs, 0⟩] scope pos) 0 (.ref it) (.ref a) (compEnvC scope (cellsFrom (({ t2 with heap := t2.heap.push (freshS X.w) } : Shared).heap.objs.size + 1) scope.names (cloFrom X.env.cells scope.names [])) ({ t2 with heap := t2.heap.push (freshS X.w) } : Shared).heap.objs.size X.env)) (compPost (model X.prog X.w) X.A X.xe use Qf (.ref a) ({ t2 with heap := t2.heap.push (freshS X.w) } : Shared).heap.objs.size) { ({ t2 with heap := t2.heap.push (freshS X.w) } : Shared) with heap := pushCells (({ t2 with heap := t2.heap.push (freshS X.w) } : Shared).heap.push { cls := .type "dict", data := .dict #[] }) scope.names }
  rw [e3]
  have nfp : ∀ b ∈ fp, (upd H2 a (kit.ho a kit.s0)) b = none := fun b hb => (f3 b hb).1.1
  generalize hce : compEnvC scope (cellsFrom (t3.heap.objs.size + 1) scope.names (cloFrom X.env.cells scope.names [])) t3.heap.objs.size X.env = ce at I4 pg pt pe ⊢
  have cl : ce.locals = t3.heap.objs.size := by subst hce; rfl
  generalize hH3 : upd H2 a (kit.ho a kit.s0) = H3 at I3 I4 pg pt pe w0 nfp f3
  generalize ht4 : ({ t3 with heap := pushCells (t3.heap.push { cls := .type "dict", data := .dict #[] }) scope.names } : Shared) = t4 at I4 ⊢
  have z4 : tn 0 t4.heap := T.keep _ _ _ z3 fun b _ o e => by rw [← ht4] <;> exact pushCells_keeps _ _ _ _ (Heap.get?_push_of_some _ e)
  have stat : ∀ {σ' : L2.St} {H' : Hp} {s' : Shared}, Inv (X.blk t3 H3 scope ce fp) [] σ' H' s' → (∀ b ∈ fp, H' b = none) → ∀ b ∈ fp, FpOk (X.blk t3 H3 scope ce fp) [] H' b := fun {σ' H' s'} I' hn b hb =>
    ⟨hn b hb, (I'.ok.exf b hb).1, I'.ok.exfs b hb, .inl hb, (I'.ok.exf b hb).2, fun p hp => absurd (show p ∈ ([] : List (Addr × Obj)) ++ [] from hp) (by simp)⟩
  have loop : codeAny (model X.prog X.w) X.A (.compLoop (.SetComp elt [⟨tg, iter, ifs, 0⟩] scope pos) 0 (.ref it) (.ref a) ce) (compPost (model X.prog X.w) X.A X.xe use Qf (.ref a) t3.heap.objs.size) t4 := by
    refine PpSet.compLoopS_any (fun n s' => ∃ i H', Inv (X.blk t3 H3 scope ce fp) [] (wipe σ (own.map (·.2))) H' s' ∧ tn i s'.heap ∧ (∀ b ∈ fp, H' b = none) ∧ W i n H') ?_ m0 ⟨0, H3, I4, z4, nfp, w0⟩
    rintro n t5 ⟨i, H5, I5, z5, n5, w5⟩
    rcases turn i n H5 w5 with ⟨stop, qq⟩ | ⟨go, Nx, hNx, step⟩
    · have td := T.done (X.blk t3 H3 scope ce fp) rfl rfl rfl hc i [] t5 _ H5 (fun _ _ => False) I5 (stat I5 n5) z5 stop
      refine thnF td fun r t6 ⟨hr, I6⟩ => ?_
      subst hr
      have I7 : Inv X pins σ H5 t6 := I3.call' (ch := fp) I6.os I6.base I6.hok I6.bare fun b hb => ⟨(f3 b hb).1.2.2.2.1, (f3 b hb).1.2.1, (f3 b hb).1.2.2.2.2.1, (f3 b hb).1.2.2.2.2.2⟩
      have nC : H5 t3.heap.objs.size = none := by
        have z : H5 ce.locals = none := I6.free
        rwa [cl] at z
      obtain ⟨m, hn, _⟩ := I6.loc
      have hn : t6.heap.Ns ce.locals m := hn
      rw [cl] at hn
      exact hR a t3.heap.objs.size t6 m H5 I7 qq hn (I3.fpOk (Nat.le_refl _) nC)
    · have ti := T.item (X.blk t3 H3 scope ce fp) rfl rfl rfl hc i [] t5 _ H5 (fun _ _ => False) I5 (stat I5 n5) z5 go
      refine thnF ti fun r t6 ⟨u, hr, h6⟩ => ?_
      subst hr
      refine thnF h6 fun _ t7 ⟨x, H7, I7, r7, y7, z7, n7⟩ => ?_
      have J7 := I7.pinned (stat I7 n7) (T.obj _ _ z7)
      refine thnF (pg.run _ t7 _ H7 x u _ J7 r7 (step x H7 y7)) fun _ t8 ⟨σ8, H8, I8, hw8, q8⟩ => ?_
      refine thnF (pt.run _ t8 σ8 H8 _ I8 q8) fun b t9 ⟨H9, I9, q9⟩ => ?_
      have fin : ∀ {s' : Shared} {H' : Hp}, Inv (X.blk t3 H3 scope ce fp) ([] ++ pinsAt fp t7.heap) σ8 H' s' → Nx H' → ∃ m, m < n ∧ ∃ i H', Inv (X.blk t3 H3 scope ce fp) [] (wipe σ (own.map (·.2))) H' s' ∧ tn i s'.heap ∧ (∀ b ∈ fp, H' b = none) ∧ W i m H' := fun {s' H'} I' nx => by
        obtain ⟨m', hm, w'⟩ := hNx H' nx
        have pin' : ∀ b ∈ fp, ∀ o, t7.heap.get? b = some o → s'.heap.get? b = some o ∧ H' b = none := fun b hb o e =>
          let z := I'.pin (b, o) (List.mem_append_right _ (List.mem_append_right _ (mem_pinsAt hb e)))
          ⟨z.1, z.2.1⟩
        refine ⟨m', hm, i + 1, H', (I'.unpinned (pins := [])).weak (by rw [← hw8, wipe_length]) (fun j v e => ?_), T.keep _ _ _ z7 fun b hb o e => (pin' b hb o e).1, fun b hb => ?_, w'⟩
        · rw [← hw8] at e; exact (wipe_some e).1
        · obtain ⟨o, e, _⟩ := T.obj _ _ z7 b hb; exact (pin' b hb o e).2
      cases b with
      | false =>
        simp only [Bool.false_eq_true, if_false] at q9 ⊢
        exact fin I9 q9
      | true =>
        simp only [if_true] at q9 ⊢
        refine thnF (pe.run _ t9 σ8 H9 _ I9 q9) fun z t10 ⟨yv, H10, I10, r10, st, es, d, rest, e1, e2, e3, e4, nx⟩ => ?_
        exact kit.add (X.blk t3 H3 scope ce fp) rfl rfl rfl hu I10 e1 e2 e3 e4 r10 fun t11 st' I11 rl => fin I11 (nx st' rl)
  exact PpSet.codeAny_compStart_set loop (T.self X.A 0 _ _ _ z4 loop)
theorem pe_sx (hu : X.A.units + 65 < cLine) (kit : SetKit X.prog X.w X.K) {elt tg iter : Expr} {ifs : List Expr} {scope : Scope} {own : List (Str × Nat)} {pos : Pos} {wi : TI} {g : TG} {tt : TT} {te : TE} (hc : X.calm = true) (hN : X.N.Nodup) (hi : PI X tg iter wi) (ok : BlkOk X.N X.env.scope scope own)
    (hg : ∀ (s : Shared) (H : Hp) (c : Addr) (cl : List (Str × Addr)) (fp : List Addr), PG (X.blk s H scope (compEnvC scope cl c X.env) fp) tg g) (ht : ∀ (s : Shared) (H : Hp) (c : Addr) (cl : List (Str × Addr)) (fp : List Addr), PTs (X.blk s H scope (compEnvC scope cl c X.env) fp) ifs tt)
    (he : ∀ (s : Shared) (H : Hp) (c : Addr) (cl : List (Str × Addr)) (fp : List Addr), PE (X.blk s H scope (compEnvC scope cl c X.env) fp) elt te) (hs : ∀ x, foldedSetIterable iter X.env x = pure x) :
    PE X (.SetComp elt [⟨tg, iter, ifs, 0⟩] scope pos) (tSx kit wi g tt te (own.map (·.2))) := by
  refine ⟨fun pins s σ H Q I h => ?_⟩
  rw [PpSet.eval_SetComp]
  refine sx_core hu kit hc hN I hi ok hg ht he hs h fun a c s' m H' I' q hn f => ⟨m, hn, fun h'' sb => ?_⟩
  obtain ⟨f0, f1, f2, f3, f4, f5⟩ := f
  exact ⟨.ref a, H', I'.turned (t' := s'.toks) (fun b o hb e => (sb.2 b hb).trans e) f0 f1 f3 f4 f5, rfl, q⟩
end
end Pd
namespace Pd
open PySem PySem.Spec PyProof.Rows L2
/-! ### set comprehensions, read by what the turns give -/
section
variable {K : PySem.W.Frag} {C : Cc} {O : Own} {H : Hp} {σ : L2.St} {ρ : Env} {Fs : Nat → List Addr}
theorem ext_no {H : Hp} {p : Addr} (hH : H p = none ∨ ∃ φ, H p = some (.ext φ)) : (∀ xs, H p ≠ some (.tup xs)) ∧ (∀ o u, H p ≠ some (.frz o u)) ∧ ∀ ps, H p ≠ some (.tbl ps) := by
  rcases hH with z | ⟨φ, z⟩ <;> rw [z] <;> refine ⟨fun _ e => ?_, fun _ _ e => ?_, fun _ e => ?_⟩ <;> cases e
theorem ER.free_ext {p : Addr} {ψ : Heap → Prop} (er : ER K C O H σ ρ Fs) (h0 : C.H0 p = none) (hn : ∀ j, p ∉ Fs j) (hl : ∀ l ∈ C.lk, p ∉ l.F) (hH : H p = none ∨ ∃ φ, H p = some (.ext φ)) : ER K C O (L2.upd H p (.ext ψ)) σ ρ Fs := by
  obtain ⟨n1, n2, n3⟩ := ext_no hH
  have kp : ∀ S : List Addr, p ∉ S → Kp H (L2.upd H p (.ext ψ)) S := fun S h => ⟨fun b ys e => by rw [upd_ne (fun (z : b = p) => n1 ys (by rw [← z] <;> exact e))] <;> exact e, fun b o u e => by rw [upd_ne (fun (z : b = p) => n2 o u (by rw [← z] <;> exact e))] <;> exact e, fun b hb => upd_ne fun z => h (z ▸ hb)⟩
  have tb : (∀ P ∈ C.T, GxR.TabG H P) → ∀ P ∈ C.T, GxR.TabG (L2.upd H p (.ext ψ)) P := fun t P hP => by
    obtain ⟨ps, h1, h2⟩ := t P hP
    exact ⟨ps, by rw [upd_ne (fun (z : P = p) => n3 ps (by rw [← z] <;> exact h1))] <;> exact h1, h2⟩
  refine ⟨er.len, fun i d h => ?_, er.emp, er.own, tb er.tab, ⟨fun b o e n => ?_, fun b e => ?_, fun t => tb (er.ext.tab t)⟩, fun l hm => ?_⟩
  · obtain ⟨v, h1, r⟩ := er.rep i d h
    exact ⟨v, h1, r.kp (kp _ (hn i))⟩
  · rw [upd_ne fun z => by rw [z, h0] at e; cases e]
    exact er.ext.kept b o e n
  · rw [upd_ne fun z => by rw [z, h0] at e; exact e rfl]
    exact er.ext.dom b e
  · obtain ⟨st, k, dom, sep⟩ := er.lks l hm
    exact ⟨st, k.trans (kp _ (hl l hm)), dom, sep⟩
theorem Ex.free_ext {T : List Addr} {H1 H : Hp} {p : Addr} {ψ : Heap → Prop} (x : Ex T H1 H) (h1 : H1 p = none) (hH : H p = none ∨ ∃ φ, H p = some (.ext φ)) : Ex T H1 (L2.upd H p (.ext ψ)) := by
  obtain ⟨_, _, n3⟩ := ext_no hH
  refine ⟨fun b o e n => ?_, fun b e => ?_, fun t P hP => ?_⟩
  · rw [upd_ne fun z => by rw [z, h1] at e; cases e]
    exact x.kept b o e n
  · rw [upd_ne fun z => by rw [z, h1] at e; exact e rfl]
    exact x.dom b e
  · obtain ⟨ps, e1, e2⟩ := x.tab t P hP
    exact ⟨ps, by rw [upd_ne (fun (z : P = p) => n3 ps (by rw [← z] <;> exact e1))] <;> exact e1, e2⟩
theorem immL_at : ∀ {es : List D} {d : D} {rest : List D}, immL (es ++ d :: rest) = true → imm d = true
  | [], d, rest, h => by
    rw [List.nil_append, o_imL1, Bool.and_eq_true] at h
    exact h.1
  | e :: es, d, rest, h => by
    rw [List.cons_append, o_imL1, Bool.and_eq_true] at h
    exact immL_at h.2
end
def eSet (I : Env → R (List D)) (g : Env → D → R Env) (tt : Env → R Bool) (te : EF) (vs : List Nat) : Env → R (List D) := fun ρ => (I ρ).bind fun ds => lcGo g tt te (wipeD ρ vs) ds
section
variable {X : Cx} {C : Cc} {W : WX} {O : Own} {elt tg iter : Expr} {ifs : List Expr} {scope : Scope} {own : List (Str × Nat)} {pos : Pos} {I : Env → R (List D)} {g : Env → D → R Env} {tt : Env → R Bool} {te : EF} {is : List Nat} {so : Option Nat} {kk : Nat}
/-- the set of what F gives -/
def tSet (kit : SetKit X.prog X.w X.K) (C : Cc) (W : WX) (O : Own) (F : Env → R (List D)) : TE := fun σ H Q => ∃ ρ Fs, ER X.K C O H σ ρ Fs ∧
  Sat (F ρ) (fun ys => kit.ok ys ∧ ∀ a H' st, Ex C.T H H' → H' a = some (kit.ho a st) → H a = none → kit.rel H' st ys → Q (.ref a) H') (WOk X.K C W σ H)
theorem sx_read (kit : SetKit X.prog X.w X.K) (him : ∀ ys, kit.ok ys → immL ys = true) (ng : ∀ ρ d, NoX (g ρ d)) (his : ∀ i ∈ is, i ∈ own.map (·.2)) (σ : L2.St) (H : Hp) (Q : VK) (h : tSet kit C W O (eSet I g tt te (own.map (·.2))) σ H Q) :
    tSx kit (tI X.K C W O so I) (tG X.K O is g) (fun σ H Q => ∃ l, Pd.tB X.K (C.lock l so) W0 O tt σ H Q) (fun σ H Q => ∃ l, tD X.K (C.lock l so) W0 O kk te σ H Q) (own.map (·.2)) σ H Q := by
  obtain ⟨ρ, Fs, er, q⟩ := h
  refine ⟨ρ, Fs, er, (Sat.bind q).mono (fun ds q J H1 l x1 it nw => ?_) fun _ z => z⟩
  intro p hp
  have er1 := (er.ex x1).lock nw
  have h0p : C.H0 p = none := er1.ext.free hp
  have hFp : ∀ j, p ∉ Fs j := fun j z => er1.nn j p z hp
  have hlp : ∀ m ∈ (C.lock l so).lk, p ∉ m.F := fun m hm z => er1.lkdom hm p z hp
  have q := q.nox (lcGo_nox _)
  refine ⟨fun i m H2 => m + i = ds.length ∧ ∃ st es, H2 p = some (kit.ho p st) ∧ kit.rel H2 st es ∧ ER X.K (C.lock l so) O H2 σ ρ Fs ∧ Ex C.T H1 H2 ∧
      Sat (lcGo g tt te (wipeD ρ (own.map (·.2))) (ds.drop i)) (fun ys => kit.ok (es ++ ys) ∧ ∀ a H' st, Ex C.T H H' → H' a = some (kit.ho a st) → H a = none → kit.rel H' st (es ++ ys) → Q (.ref a) H') (fun _ => False),
    ⟨ds.length, rfl, kit.s0, [], upd_same, kit.rel0 _, er1.free_ext h0p hFp hlp (.inl hp), Ex.new hp, q⟩, ?_⟩
  rintro i m H2 ⟨hm, st, es, hA, ra, er2, x2, q2⟩
  have kp : Kp l.HG H2 l.F := (er2.lks l List.mem_cons_self).kp
  by_cases hlt : i < ds.length
  · have e1 : ds.drop i = ds[i] :: ds.drop (i + 1) := List.drop_eq_getElem_cons hlt
    rw [e1] at q2
    have q2 := still_sat (Sat.bind q2)
    refine .inr ⟨it.go i H2 kp hlt, fun H3 => ∃ st es, H3 p = some (kit.ho p st) ∧ kit.rel H3 st es ∧ ER X.K (C.lock l so) O H3 σ ρ Fs ∧ Ex C.T H1 H3 ∧
      Sat (lcGo g tt te (wipeD ρ (own.map (·.2))) (ds.drop (i + 1))) (fun ys => kit.ok (es ++ ys) ∧ ∀ a H' st, Ex C.T H H' → H' a = some (kit.ho a st) → H a = none → kit.rel H' st (es ++ ys) → Q (.ref a) H') (fun _ => False), fun H' h => ⟨m - 1, by omega, by omega, h⟩, fun v H3 y => ?_⟩
    obtain ⟨x3, G, r3, g3⟩ := it.yld i H2 v H3 ds[i] kp (List.getElem?_eq_getElem hlt) y
    have er3 := er2.ex x3
    obtain ⟨Fw, erw, kw⟩ := er3.wipe (own.map (·.2))
    have owns : ∀ j ∈ O, ∀ b ∈ Fw j, b ∈ Fs j := fun j hj b hb => by
      by_cases hv : j ∈ own.map (·.2)
      · rw [erw.emp j fun d hd => by
          obtain ⟨u, h1, _⟩ := erw.rep j d hd
          exact (wipe_some h1).2 hv] at hb
        cases hb
      · rw [kw j hv] at hb; exact hb
    refine ⟨C.lock l so, _, Fw, ds[i], G, erw, r3, fun j hj b hb z => ?_, (Sat.bind q2).mono (fun ρ4 p4 σ4 Fs4 er4 k4 s4 => ?_) fun _ z => z⟩
    · have hb := owns j hj b hb
      rcases g3 b z with ⟨h0, h1⟩ | h1
      · exact (er2.lks l List.mem_cons_self).sep j hj (by rw [h0]; intro q; cases q) b hb h1
      · exact er2.nn j b hb h1
    · refine ⟨wipe_same his s4, l, ρ4, Fs4, er4, (Sat.bind p4).mono (fun b p5 H5 x5 => ?_) fun _ z => z.elim⟩
      have x25 := x3.trans x5
      have hA5 : H5 p = some (kit.ho p st) := x25.kept _ _ hA (fun _ z => by cases z)
      have er5 := er2.ex x25
      cases b with
      | false =>
        exact ite_ff ⟨st, es, hA5, kit.relx ra fun _ _ z => x25.nt z, er5, x2.trans x25, (Sat.bind p5).mono (fun ys w => w) fun _ z => z⟩
      | true =>
        rw [if_pos rfl] at p5
        refine ite_tt ⟨l, ρ4, Fs4, er4.ex x5, (Sat.bind p5).mono (fun y p6 v6 H6 F6 x6 r6 kd6 => ?_) fun _ z => z.elim⟩
        have x26 := x25.trans x6
        have hA6 : H6 p = some (kit.ho p st) := x26.kept _ _ hA (fun _ z => by cases z)
        have er6 := er2.ex x26
        have p6 : Sat (lcGo g tt te (wipeD ρ (own.map (·.2))) (ds.drop (i + 1))) _ _ := Sat.bind p6
        obtain ⟨rest, hok⟩ : ∃ rest, kit.ok (es ++ y :: rest) := by
          cases e : lcGo g tt te (wipeD ρ (own.map (·.2))) (ds.drop (i + 1)) with
          | ok ys =>
            rw [e] at p6
            exact ⟨ys, p6.1⟩
          | exc c => rw [e] at p6; exact p6.elim
          | stuck => rw [e] at p6; exact p6.elim
        have eF : F6 = [] := r6.imm (immL_at (him _ hok))
        subst eF
        refine ⟨st, es, y, rest, hA6, kit.relx ra fun _ _ z => x26.nt z, hok, r6, fun st' rl => ⟨st', es ++ [y], upd_same, rl, er6.free_ext h0p hFp hlp (.inr ⟨_, hA6⟩), (x2.trans x26).free_ext hp (.inr ⟨_, hA6⟩), ?_⟩⟩
        refine p6.mono (fun ys w => ?_) fun _ z => z
        have e : es ++ [y] ++ ys = es ++ (Option.toList (some y) ++ ys) := by simp
        rw [e]; exact w
  · have e1 : ds.drop i = [] := List.drop_eq_nil_of_le (by omega)
    rw [e1] at q2
    refine .inl ⟨it.stop i H2 kp (by omega), ?_⟩
    have q2 : kit.ok (es ++ []) ∧ ∀ a H' st, Ex C.T H H' → H' a = some (kit.ho a st) → H a = none → kit.rel H' st (es ++ []) → Q (.ref a) H' := q2
    rw [List.append_nil] at q2
    exact q2.2 p H2 st (x1.trans x2) hA (x1.free hp) ra
/-- {elt for target in iter if ..} -/
theorem pe_setc (hu : X.A.units + 65 < cLine) (kit : SetKit X.prog X.w X.K) (him : ∀ ys, kit.ok ys → immL ys = true) (hc : X.calm = true) (hN : X.N.Nodup) (hi : IV X C W O tg iter so I) (ok : BlkOk X.N X.env.scope scope own)
    (hg : ∀ (s : Shared) (H : Hp) (c : Addr) (cl : List (Str × Addr)) (fp : List Addr), GV (X.blk s H scope (compEnvC scope cl c X.env) fp) O tg is g)
    (ht : ∀ (s : Shared) (H : Hp) (c : Addr) (cl : List (Str × Addr)) (fp : List Addr) (l : Lk), TTs (X.blk s H scope (compEnvC scope cl c X.env) fp) (C.lock l so) W0 O ifs tt)
    (he : ∀ (s : Shared) (H : Hp) (c : Addr) (cl : List (Str × Addr)) (fp : List Addr) (l : Lk), EV (X.blk s H scope (compEnvC scope cl c X.env) fp) (C.lock l so) W0 O elt kk te)
    (his : ∀ i ∈ is, i ∈ own.map (·.2) := by decide) (hs : ∀ x, foldedSetIterable iter X.env x = pure x := by intro _; rfl) {sl : List Nat} (hsl : own.map (·.2) = sl := by rfl) : PE X (.SetComp elt [⟨tg, iter, ifs, 0⟩] scope pos) (tSet kit C W O (eSet I g tt te sl)) := hsl ▸
  (pe_sx hu kit hc hN hi ok (fun s H c cl fp => (hg s H c cl fp).pg) (fun s H c cl fp => ⟨fun pins s' σ H' Q I' ⟨l, h⟩ => (ht s H c cl fp l).run pins s' σ H' Q I' h⟩) (fun s H c cl fp => ⟨fun pins s' σ H' Q I' ⟨l, h⟩ => (he s H c cl fp l).run pins s' σ H' Q I' h⟩) hs).imp
    (sx_read kit him (hg X.s_0 X.H_0 0 [] []).nox his)
end
end Pd
namespace Pd
open PySem PySem.Spec PyProof.Rows L2
/-! ### sets of ints, sets of tuples of ints -/
theorem at_mid {α : Type} {es : List D} {d : D} {rest : List D} {f : α → D} {ns : List α} (e : es ++ d :: rest = ns.map f) : ∃ k, d = f k := by
  have : d ∈ ns.map f := by rw [← e]; simp
  obtain ⟨k, _, h⟩ := List.mem_map.mp this
  exact ⟨k, h.symm⟩
theorem rp_int {K : PySem.W.Frag} {H : Hp} {y : V} {k : Int} {F : List Addr} (r : Rp K H y (.int k) F) : y = .int k := by
  cases r; rfl
theorem int_inj {a b : Int} (h : PyData.int a = .int b) : a = b := by injection h
theorem ints_mem {ns : List Int} {k : Int} : PyData.int k ∈ ns.map PyData.int ↔ k ∈ ns := by
  constructor
  · intro h
    obtain ⟨j, hj, e⟩ := List.mem_map.mp h
    rw [← int_inj e]; exact hj
  · exact fun h => List.mem_map.mpr ⟨k, h, rfl⟩
theorem tups_mem {ws : List (List Int)} {k : List Int} : tW k ∈ ws.map tW ↔ k ∈ ws := by
  constructor
  · intro h
    obtain ⟨j, hj, e⟩ := List.mem_map.mp h
    rw [← tI_inj e]; exact hj
  · exact fun h => List.mem_map.mpr ⟨k, h, rfl⟩
theorem room64 {n : Nat} (h : n < 4000) : n + 1 < scanBound := by
  unfold scanBound
  omega
def intKit (P : Program) (w : World) (K : PySem.W.Frag) : SetKit P w K where
  S := (Int → Bool) × Nat
  p := fun a st h => SetR w h a st.1 st.2
  s0 := (fun _ => false, 0)
  ok := fun ys => ∃ ns : List Int, ys = ns.map .int ∧ ns.length < 4000
  rel := fun _ st es => (∃ ns : List Int, es = ns.map .int ∧ ∀ k, st.1 k = decide (k ∈ ns)) ∧ st.2 ≤ es.length
  new := fun H h => setO_new (setR_fresh w)
  rel0 := fun _ => ⟨⟨[], rfl, fun k => by simp⟩, Nat.zero_le _⟩
  relx := fun h _ => h
  add := fun Y hP hw hK hu {pins σ H s a st es d rest y v E Q} I ha rl ok ry rv hq => by
    subst hP hw hK
    obtain ⟨ns, e, hl⟩ := ok
    obtain ⟨k, rfl⟩ := at_mid e
    cases rp_int ry
    obtain ⟨tk, rfl⟩ := rv
    have R : SetR Y.w s.heap a st.1 st.2 := (I.hok a _ ha).1
    have hlen : es.length < ns.length := by
      have := congrArg List.length e
      rw [List.length_append, List.length_cons, List.length_map] at this
      omega
    obtain ⟨⟨ms, e2, hm⟩, hn⟩ := rl
    refine setR_add R (room64 (by omega)) fun h' sb new => ?_
    obtain ⟨o, ho⟩ : ∃ u, h'.get? a = some u := by
      obtain ⟨o, _, _, _, ho, _⟩ := id new
      exact ⟨o, ho⟩
    refine hq _ (fun j => st.1 j || decide (j = k), if st.1 k = true then st.2 else st.2 + 1) (I.write (e := a) (t' := s.toks + 1) (by rw [ha] <;> trivial) (.inl rfl) (fun b u hb hu => (sb.2 b hb).trans hu) ⟨o, ho⟩ (setO_new new)) ⟨⟨ms ++ [k], by rw [e2, List.map_append] <;> rfl, fun j => ?_⟩, ?_⟩
    · dsimp only
      rw [hm j]
      by_cases h1 : j ∈ ms <;> by_cases h2 : j = k <;> simp [h1, h2]
    · dsimp only
      rw [List.length_append]
      split <;> simp <;> omega
theorem rp_tW {K : PySem.W.Frag} {H : Hp} {y : V} {k : List Int} {F : List Addr} (r : Rp K H y (tW k) F) : ∃ a, y = .ref a ∧ NT K H a (k.map V.int) := by
  have key : ∀ {vs : List V} {k : List Int} {F : List Addr}, RpL K H vs (k.map PyData.int) F → vs = k.map V.int := by
    intro vs k
    induction k generalizing vs with
    | nil => intro F r; cases r; rfl
    | cons x xs ih =>
      intro F r
      cases r with
      | cons r1 r2 => rw [rp_int r1, ih r2]; rfl
  have r : Rp K H y (.tuple (k.map .int)) F := r
  cases r with
  | tup s r => exact ⟨_, rfl, by rw [← key r]; exact s⟩
section
variable {P : Program} {w : World} {A : Around} {E : Value → Shared → Prop} {s : Shared} {a : Addr} {L : List (Addr × List Int)} {es : Array (Int × Value)} {ep : Nat} {t : SetTable}
/-- s.add(t), t a tuple of ints -/
theorem setT_add (R : SetTR P w s.heap a L es ep t) {x : Addr} {k : List Int} (hx : IsT P w s.heap k x) (hu : A.units + 2 < cLine) (hfew : L.length + 1 < 64) {Q : Value → Shared → Prop}
    (hQ : ∀ h' L' es' ep' t' tk, Heap.SameBut a s.heap h' → SetTR P w h' a L' es' ep' t' → (k ∈ L.map (·.2) → L' = L) → (k ∉ L.map (·.2) → L'.Perm ((x, k) :: L)) → Q .none { s with heap := h', toks := tk }) :
    wpAny (model P w) A (call (.builtin "set.add") [.ref a, .ref x]) Q E s := by
  obtain ⟨o, ho, hex, hd⟩ := R.ob
  refine wpAny_call_entry F.slot_set_add ⟨o, ho, hex.1⟩ F.entry_set_add ?_ (F.args_set_add_2 _ _)
  unfold Builtin.«set.add» Builtin.Frozenset.oneOther
  simp only [List.isEmpty_nil, bind_assoc]
  unfold Builtin.Frozenset.addrOf setAdd
  refine wpAny_bind (wpAny_pure ?_)
  try dsimp only
  refine wpAny_bind (wpAny_pure ?_)
  try dsimp only
  refine wpAny_bind (wpAny_holding (wpAny_bind (wpAny_pyHash_tuple (by have e : A.in1.units = A.units + 1 := rfl; omega) hx ?_)))
  refine add_at (s := { s with toks := s.toks + (k.length + 1) }) R hx (by have e : A.in1.units = A.units + 1 := rfl; omega) hfew fun b h' L' es' ep' t' hsb hS2 c1 c2 => ?_
  exact wpAny_pure ⟨_, rfl, hQ h' L' es' ep' t' _ hsb hS2 c1 c2⟩
end
def tupKit (P : Program) (w : World) (K : PySem.W.Frag) : SetKit P w K where
  S := List (Addr × List Int)
  p := fun a L h => SetT0 P w h a L
  s0 := []
  ok := fun ys => ∃ ws : List (List Int), ys = ws.map tW ∧ ws.length < 63
  rel := fun H L es => (∀ q ∈ L, NT K H q.1 (q.2.map V.int)) ∧ (∀ k, k ∈ L.map (·.2) ↔ tW k ∈ es) ∧ L.length ≤ es.length ∧ ∃ ws : List (List Int), es = ws.map tW
  new := fun H h => setTO_new (setTR_fresh (Heap.get?_push_size _ rfl)).t0
  rel0 := fun _ => ⟨fun _ h => (nomatch h), fun k => by simp, Nat.le_refl _, [], rfl⟩
  relx := fun h m => ⟨fun q hq => m _ _ (h.1 q hq), h.2⟩
  add := fun Y hP hw hK hu {pins σ H s a L es d rest y v E Q} I ha rl ok ry rv hq => by
    subst hP hw hK
    obtain ⟨ws, e, hl⟩ := ok
    obtain ⟨k, rfl⟩ := at_mid e
    obtain ⟨b, rfl, hb⟩ := rp_tW ry
    cases rv
    obtain ⟨r1, r2, r3, us, r4⟩ := rl
    have R0 : SetT0 Y.prog Y.w s.heap a L := (I.hok a _ ha).1
    obtain ⟨tab, ep, t, R⟩ := R0.full fun q hq => Inv.isT I (r1 q hq).sq
    have hlen : es.length < ws.length := by
      have := congrArg List.length e
      rw [List.length_append, List.length_cons, List.length_map] at this
      omega
    refine setT_add R (Inv.isT I hb.sq) (by omega) (by omega) fun h' L' tab' ep' t' tk hsb hS2 c1 c2 => ?_
    have hn : ∀ b xs, NT Y.K H b xs → NT Y.K (upd H a (.ext fun h => SetT0 Y.prog Y.w h a L')) b xs := fun b xs z => by
      rcases z with ⟨o, z, n⟩ | z
      · exact .inl ⟨o, by rw [upd_ne (fun e => by rw [e, ha] at z; cases z)]; exact z, n⟩
      · exact .inr z
    have hmem : ∀ q ∈ L', q ∈ L ∨ q = (b, k) := fun q hq' => by
      by_cases hk : k ∈ L.map (·.2)
      · rw [c1 hk] at hq'; exact .inl hq'
      · rcases List.mem_cons.mp ((c2 hk).mem_iff.mp hq') with z | z
        · exact .inr z
        · exact .inl z
    obtain ⟨o, ho, _⟩ := hS2.ob
    refine hq _ L' (I.write (e := a) (t' := tk) (by rw [ha] <;> trivial) (.inl rfl) (fun b u hb hu => (hsb.2 b hb).trans hu) ⟨o, ho⟩ (setTO_new hS2.t0)) ⟨fun q hq' => ?_, fun j => ?_, ?_, us ++ [k], by rw [r4, List.map_append] <;> rfl⟩
    · rcases hmem q hq' with z | z
      · exact hn _ _ (r1 q z)
      · rw [z]; exact hn _ _ hb
    · rw [List.mem_append, List.mem_singleton, ← r2 j]
      by_cases hk : k ∈ L.map (·.2)
      · rw [c1 hk]
        exact ⟨.inl, fun z => z.elim id fun e => by rw [tI_inj e]; exact hk⟩
      · rw [((c2 hk).map (·.2)).mem_iff, List.map_cons, List.mem_cons]
        exact ⟨fun z => z.elim (fun e => .inr (by rw [e])) .inl, fun z => z.elim .inr fun e => .inl (tI_inj e)⟩
    · rw [List.length_append]
      by_cases hk : k ∈ L.map (·.2)
      · rw [c1 hk]; simp; omega
      · rw [(c2 hk).length_eq, List.length_cons]; simp; omega
end Pd
namespace Pd
open PySem PySem.Spec PyProof.Rows L2
open PySem.W (dataLt dataLe alike AllAlike Sortable EachIs SortsAt copyHeap sortingHeap dataKind)
/-! ### what a set holds -/
structure SetSee {P : Program} {w : World} {K : PySem.W.Frag} (kit : SetKit P w K) : Prop where
  see : ∀ (Y : Cx), Y.prog = P → Y.w = w → Y.K = K → ∀ {pins : List (Addr × Obj)} {σ : L2.St} {H : Hp} {s : Shared} {a : Addr} {st : kit.S} {es : List D}, Inv Y pins σ H s → H a = some (kit.ho a st) → kit.rel H st es →
    ∃ tab ep t, (∃ o, s.heap.get? a = some o ∧ o.ExactSet ∧ o.data = .set tab ep t) ∧ t.fits tab.size = true ∧ tab.size < scanBound ∧ Ris t.place.toList ∧ (w.params.followText "set-order" = true ∨ t.led = true) ∧
      ∃ xs ds, Vals xs (tab.toList.map (·.2)) ∧ RpL K H xs ds [] ∧ ds.Nodup ∧ ∀ d, d ∈ ds ↔ d ∈ es
theorem vals_keys : ∀ {l : List (Int × Value)}, (∀ e ∈ l, GoodE e) → Vals ((l.map L2.keyOf).map V.int) (l.map (·.2))
  | [], _ => .nil
  | e :: l, h => by
    obtain ⟨k, tk, h1, _⟩ := h e List.mem_cons_self
    refine .cons ?_ (vals_keys fun x hx => h x (List.mem_cons_of_mem _ hx))
    unfold L2.keyOf
    rw [h1]
    exact ⟨tk, h1⟩
theorem rpl_ints {K : PySem.W.Frag} {H : Hp} : ∀ ns : List Int, RpL K H (ns.map V.int) (ns.map PyData.int) []
  | [] => .nil
  | n :: ns => .cons (F := []) (G := []) (.int n) (rpl_ints ns)
theorem nodup_map_inj {α β : Type} {f : α → β} (h : ∀ a b, f a = f b → a = b) {l : List α} (n : l.Nodup) : (l.map f).Nodup :=
  List.pairwise_map.mpr (n.imp fun g e => g (h _ _ e))
theorem intSee (P : Program) (w : World) (K : PySem.W.Frag) : SetSee (intKit P w K) where
  see := fun Y hP hw hK {pins σ H s a st es} I ha rl => by
    subst hP hw hK
    have R : SetR Y.w s.heap a st.1 st.2 := (I.hok a _ ha).1
    obtain ⟨⟨ns, e, hm⟩, hn⟩ := rl
    obtain ⟨o, tab, ep, t, ho, hx, hd, g, nd, mem, hb, hf, hsz, hr, hl⟩ := R
    refine ⟨tab, ep, t, ⟨o, ho, hx, hd⟩, hf, hb, hr, hl, _, (tab.toList.map L2.keyOf).map PyData.int, vals_keys g, rpl_ints _, nodup_map_inj (fun _ _ => int_inj) nd, fun d => ?_⟩
    rw [e]
    constructor
    · intro hd
      obtain ⟨k, hk, rfl⟩ := List.mem_map.mp hd
      have := (mem k).mpr hk
      rw [hm k] at this
      exact ints_mem.mpr (of_decide_eq_true this)
    · intro hd
      obtain ⟨k, hk, rfl⟩ := List.mem_map.mp hd
      exact ints_mem.mpr ((mem k).mp (by rw [hm k]; exact decide_eq_true hk))
theorem tup_see (Y : Cx) {pins : List (Addr × Obj)} {σ : L2.St} {H : Hp} {s : Shared} {a : Addr} {L : List (Addr × List Int)} {es : List D} (I : Inv Y pins σ H s) (R0 : SetT0 Y.prog Y.w s.heap a L)
    (r1 : ∀ q ∈ L, NT Y.K H q.1 (q.2.map V.int)) (r2 : ∀ k, k ∈ L.map (·.2) ↔ tW k ∈ es) {ws : List (List Int)} (r4 : es = ws.map tW) :
    ∃ tab ep t, (∃ o, s.heap.get? a = some o ∧ o.ExactSet ∧ o.data = .set tab ep t) ∧ t.fits tab.size = true ∧ tab.size < scanBound ∧ Ris t.place.toList ∧ (Y.w.params.followText "set-order" = true ∨ t.led = true) ∧
      ∃ xs ds, Vals xs (tab.toList.map (·.2)) ∧ RpL Y.K H xs ds [] ∧ ds.Nodup ∧ ∀ d, d ∈ ds ↔ d ∈ es := by
  obtain ⟨tab, ep, t, R⟩ := R0.full fun q hq => Inv.isT I (r1 q hq).sq
  have hes : tab.toList.map (·.2) = L.map fun q => Value.ref q.1 := by
    rw [R.rows]
    unfold rowsOf
    rw [List.map_map] <;> rfl
  have hsz := R.size
  have hfew := R.few
  refine ⟨tab, ep, t, R.ob, R.fits, by unfold scanBound; omega, R.tab.ris, R.led, L.map (fun q => V.ref q.1), (L.map (·.2)).map tW, ?_, ?_, nodup_map_inj (fun _ _ => tI_inj) R.nd, fun d => ?_⟩
  · rw [hes]
    exact vals_of_refs L
  · have key : ∀ M : List (Addr × List Int), (∀ q ∈ M, NT Y.K H q.1 (q.2.map V.int)) → RpL Y.K H (M.map fun q => V.ref q.1) ((M.map (·.2)).map tW) [] := by
      intro M
      induction M with
      | nil => intro _; exact .nil
      | cons q M ih => exact fun h => .cons (F := []) (G := []) (.tup (h q List.mem_cons_self) (rpl_ints _)) (ih fun x hx => h x (List.mem_cons_of_mem _ hx))
    exact key L r1
  · constructor
    · intro hd
      obtain ⟨k, hk, rfl⟩ := List.mem_map.mp hd
      exact (r2 k).mp hk
    · intro hd
      have hd2 := hd
      rw [r4] at hd2
      obtain ⟨k, hk, rfl⟩ := List.mem_map.mp hd2
      exact List.mem_map.mpr ⟨k, (r2 k).mpr hd, rfl⟩
theorem tupSee (P : Program) (w : World) (K : PySem.W.Frag) : SetSee (tupKit P w K) where
  see := fun Y hP hw hK {pins σ H s a L es} I ha rl => by
    subst hP hw hK
    obtain ⟨r1, r2, r3, ws, r4⟩ := rl
    exact tup_see Y I (I.hok a _ ha).1 r1 r2 r4
theorem vals_perm {K : PySem.W.Frag} {H : Hp} {us us' : List Value} (p : us.Perm us') : ∀ {xs : List V} {ds : List D}, Vals xs us → RpL K H xs ds [] → ∃ xs' ds', Vals xs' us' ∧ RpL K H xs' ds' [] ∧ ds.Perm ds' := by
  have uncons0 : ∀ {v : V} {vs : List V} {ds : List D} {F : List Addr}, RpL K H (v :: vs) ds F → F = [] → ∃ d es, ds = d :: es ∧ Rp K H v d [] ∧ RpL K H vs es [] := by
    intro v vs ds F r hF
    cases r with
    | @cons _ _ d es F G r1 r2 =>
      have e := List.append_eq_nil_iff.mp hF
      rw [e.1] at r1
      rw [e.2] at r2
      exact ⟨d, es, rfl, r1, r2⟩
  have uncons : ∀ {v : V} {vs : List V} {ds : List D}, RpL K H (v :: vs) ds [] → ∃ d es, ds = d :: es ∧ Rp K H v d [] ∧ RpL K H vs es [] := fun r => uncons0 r rfl
  induction p with
  | nil => intro xs ds r q; exact ⟨xs, ds, r, q, .refl _⟩
  | cons x _ ih =>
    intro xs ds r q
    cases r with
    | cons r1 r2 =>
      obtain ⟨d, es, rfl, q1, q2⟩ := uncons q
      obtain ⟨xs', ds', a, b, c⟩ := ih r2 q2
      exact ⟨_, d :: ds', .cons r1 a, .cons (F := []) (G := []) q1 b, c.cons d⟩
  | swap x y l =>
    intro xs ds r q
    cases r with
    | cons r1 r2 =>
      cases r2 with
      | cons r2 r3 =>
        obtain ⟨d, es, rfl, q1, q2⟩ := uncons q
        obtain ⟨d2, es2, rfl, q2, q3⟩ := uncons q2
        exact ⟨_, d2 :: d :: es2, .cons r2 (.cons r1 r3), .cons (F := []) (G := []) q2 (.cons (F := []) (G := []) q1 q3), .swap _ _ _⟩
  | trans _ _ ih1 ih2 =>
    intro xs ds r q
    obtain ⟨xs1, ds1, a1, b1, c1⟩ := ih1 r q
    obtain ⟨xs2, ds2, a2, b2, c2⟩ := ih2 a1 b1
    exact ⟨xs2, ds2, a2, b2, c1.trans c2⟩
section
variable {X : Cx}
/-- sorted(a set) -/
theorem call_sortSet {kit : SetKit X.prog X.w X.K} (S : SetSee kit) (hc : X.calm = true) (hu : X.A.units + 65 < cLine) :
    CallR X (.builtin "sorted") (fun vs H Q => ∃ a st es, vs = [.ref a] ∧ H a = some (kit.ho a st) ∧ kit.rel H st es ∧ (∀ ds : List D, ds.Nodup → (∀ d, d ∈ ds ↔ d ∈ es) → okSort ds = true) ∧ ∀ ds zs p, ds.Nodup → (∀ d, d ∈ ds ↔ d ∈ es) → RpL X.K H zs (srtL ds) [] → H p = none → Q (.ref p) (upd H p (.lst zs))) := by
  intro pins s σ H vs us Q I r h
  obtain ⟨a, st, es, rfl, ha, rl, hok, q⟩ := h
  obtain rfl := Vals.ref1 r
  obtain ⟨tab, ep, t, ⟨o, ho, hex, hd⟩, hf, hb, hr, hl, xs0, ds0, v0, r0, n0, m0⟩ := S.see X rfl rfl rfl I ha rl
  refine Calls.call_function_entry kind_sorted plain_sorted entry_sorted (args_sorted1 _) ?_
  unfold Builtin.«sorted»
  refine wpAny_bind (m := checkCount "sorted" 1 1 _) (wpAny_pure (wpAny_bind (collect_set (A := X.A.in1) (I.ok.hd hc) ⟨o, ho, hex.1, hd⟩ hf hb hr hl fun s1 its k1 hz g1 o1 pm => ?_)))
  obtain ⟨ys, ds, rv, hrd, pd⟩ := vals_perm pm.symm v0 r0
  have nd : ds.Nodup := pd.nodup_iff.mp n0
  have md : ∀ d, d ∈ ds ↔ d ∈ es := fun d => pd.mem_iff.symm.trans (m0 d)
  have hk := hok ds nd md
  have hlen : its.length = ds.length := by rw [← rv.length]; exact hrd.length
  have hz2 : its.length ≤ sizeLine := by
    have e1 : its.length = tab.size := by rw [pm.length_eq, List.length_map, Array.length_toList]
    rw [sizeLine_eq, e1]
    unfold scanBound at hb
    omega
  refine wpAny_bind (wpAny_newList ?_ hz2)
  have hoL : (s1.heap.push (seqObj "list" its.toArray 0)).get? s1.heap.objs.size = some (seqObj "list" its.toArray 0) := Heap.get?_push_size _ rfl
  have keep : ∀ b u, s.heap.get? b = some u → (s1.heap.push (seqObj "list" its.toArray 0)).get? b = some u := fun b u e => Heap.get?_push_of_some _ (k1 b u e)
  have old : ∀ b u, s.heap.get? b = some u → b ≠ s1.heap.objs.size := fun b u e => Nat.ne_of_lt (Heap.lt_size (k1 b u e))
  have hlay : PyData.canLayAll0 ds = true := by
    unfold okSort at hk
    have := SeqAt.canLay_of_shaped (Bool.and_eq_true_iff.mp hk).1
    simpa [PyData.canLay0] using this
  have fin : ∀ out : List Value, EachIs (At its ds) out (srtL ds) → EP X pins σ Q (.ref s1.heap.objs.size) { s1 with heap := sortedHeap (s1.heap.push (seqObj "list" its.toArray 0)) s1.heap.objs.size its out.toArray } := by
    intro out h
    obtain ⟨zs, r1, r2⟩ := each_vals rv h
    have e1 : zs.length = ds.length := by
      rw [r2.length]
      unfold srtL
      rw [List.length_mergeSort]
    obtain ⟨n, hn⟩ := sortedHeap_at (out := out.toArray) hoL
    have hp : H s1.heap.objs.size = none := I.hok.fresh hz
    have k3 : ∀ b u, s.heap.get? b = some u → (sortedHeap (s1.heap.push (seqObj "list" its.toArray 0)) s1.heap.objs.size its out.toArray).get? b = some u := fun b u e => by
      rw [sortedHeap_old (old b u e) (Heap.lt_size (keep b u e))]
      exact keep b u e
    have e9 : ({ s1 with heap := sortedHeap (s1.heap.push (seqObj "list" its.toArray 0)) s1.heap.objs.size its out.toArray } : Shared) = { s with heap := sortedHeap (s1.heap.push (seqObj "list" its.toArray 0)) s1.heap.objs.size its out.toArray, gens := s1.gens, drawn := s1.drawn, toks := s1.toks } := by
      cases s1
      cases s
      cases o1
      rfl
    rw [e9]
    exact ⟨.ref s1.heap.objs.size, upd H s1.heap.objs.size (.lst zs), I.call (ch := []) (Un.laid k3 hz hp) (I.hok.laid k3 hz ⟨by rw [e1, ← hlen]; exact hz2, out, n, r1, hn⟩) (by rw [g1]; exact I.bare) (fun _ z => nomatch z), rfl, q ds zs _ nd md (rpl_each hrd r2) hp⟩
  refine wpAny_bind (wpAny_holding (wpAny_call_entry slot_list_sort ⟨_, hoL, rfl⟩ entry_list_sort ?_ (args_list_sort _)))
  by_cases h2 : ds.length < 2
  · refine SrtO.list_sort_ord (s := { s1 with heap := s1.heap.push (seqObj "list" its.toArray 0) }) (ltv := fun _ _ => false) ⟨fun _ _ h => (Bool.noConfusion h), fun _ _ _ _ _ => rfl⟩ hoL hz2 (fun h3 => by omega) fun out h3 h4 => ⟨_, rfl, wpAny_pure ⟨_, rfl, ?_⟩⟩
    have e : out = its := by
      have hp := h4.perm
      match its, hlen with
      | [], _ => exact hp.eq_nil
      | [u], _ => exact List.perm_singleton.mp hp
      | _ :: _ :: _, hl => simp at hl; omega
    subst e
    refine fin out ?_
    rw [srtL_short h2]
    exact each_at 0 hlen (fun i => rfl) (fun i => rfl)
  · obtain ⟨k1', k2, k3⟩ := okSort_some hk h2
    have er : EachIs (fun v b => At its ds v b ∧ ∃ as, Reads s.heap v b as) its ds := by
      obtain ⟨as, hra⟩ := Dp.readsAll I ds ys its (hrd.dp hlay) rv
      have : ∀ {vs : List Value} {ds : List D} {as : List Addr}, ReadsAll s.heap vs ds as → ∀ {P : Value → D → Prop}, EachIs P vs ds → EachIs (fun v b => P v b ∧ ∃ as, Reads s.heap v b as) vs ds := by
        intro vs ds as h P e
        induction e generalizing as with
        | nil => exact .nil
        | cons p t ih =>
          cases h with
          | cons r1 r2 => exact .cons ⟨p, _, r1⟩ (ih r2)
      exact this hra (each_at 0 hlen (fun i => rfl) (fun i => rfl))
    have e1 : EachIs (At its ds) its ds := er.mono fun _ _ q => q.1
    have e2 : EachIs (fun v b => ∃ as, Reads (sortingHeap (s1.heap.push (seqObj "list" its.toArray 0)) s1.heap.objs.size its) v b as) its ds := er.mono fun _ _ q => by
      obtain ⟨_, as, r⟩ := q
      exact ⟨as, PyProof.Rows.Reads.keeps (fun b u e => PySem.W.sortingHeap_old (old b u e) (keep b u e)) r⟩
    have em : ds.map (fun d : D => d) = ds := List.map_id' ds
    refine PySem.W.list_sort_vals (s := { s1 with heap := s1.heap.push (seqObj "list" its.toArray 0) }) (κ := dataKind (sortingHeap (s1.heap.push (seqObj "list" its.toArray 0)) s1.heap.objs.size its) ds) hoL ?_ hz2 ⟨_, rfl, wpAny_pure ⟨_, rfl, fin _ ?_⟩⟩
    · have e3 : (X.A.in1.in1).units = X.A.units + 2 := rfl
      refine sortsAt_ok (s := { s1 with heap := sortingHeap (s1.heap.push (seqObj "list" its.toArray 0)) s1.heap.objs.size its }) e2 k1' k2 (fun d hd => ?_) (by omega)
      have := k3 d hd
      omega
    · have := PySem.W.sortVals_data (h' := sortingHeap (s1.heap.push (seqObj "list" its.toArray 0)) s1.heap.objs.size its) (enc := fun d : D => d) false e1 e2 (by rw [em]; exact k1')
      rw [em] at this
      exact this
/-- len(a set) -/
theorem call_lenSet {kit : SetKit X.prog X.w X.K} (S : SetSee kit) : CallR X (.builtin "len") (fun vs H Q => ∃ a st es, vs = [.ref a] ∧ H a = some (kit.ho a st) ∧ kit.rel H st es ∧ ∀ ds : List D, ds.Nodup → (∀ d, d ∈ ds ↔ d ∈ es) → Q (.int ds.length) H) := by
  intro pins s σ H vs us Q I r h
  obtain ⟨a, st, es, rfl, ha, rl, q⟩ := h
  obtain rfl := Vals.ref1 r
  obtain ⟨tab, ep, t, ⟨o, ho, hex, hd⟩, hf, hb, hr, hl, xs0, ds0, v0, r0, n0, m0⟩ := S.see X rfl rfl rfl I ha rl
  have e : tab.size = ds0.length := by rw [← r0.length, v0.length, List.length_map, Array.length_toList]
  refine call_len_set ho hex hd hf (by unfold scanBound at hb; omega) ⟨.int ds0.length, H, I.tok _, ⟨_, by rw [← e]⟩, q ds0 n0 m0⟩
end
end Pd
namespace Pd
open PySem PySem.Spec PyProof.Rows L2
/-! ### sorted({..}), len({..}) -/
def ddp {α : Type} [DecidableEq α] : List α → List α
  | [] => []
  | a :: l => if a ∈ ddp l then ddp l else a :: ddp l
theorem mem_ddp {α : Type} [DecidableEq α] {x : α} : ∀ {l : List α}, x ∈ ddp l ↔ x ∈ l
  | [] => Iff.rfl
  | a :: l => by
    unfold ddp
    rw [List.mem_cons, ← mem_ddp (l := l)]
    by_cases h : a ∈ ddp l
    · rw [if_pos h]
      exact ⟨.inr, fun z => z.elim (fun e => e ▸ h) id⟩
    · rw [if_neg h, List.mem_cons]
theorem nodup_ddp {α : Type} [DecidableEq α] : ∀ (l : List α), (ddp l).Nodup
  | [] => List.nodup_nil
  | a :: l => by
    unfold ddp
    by_cases h : a ∈ ddp l
    · rw [if_pos h]; exact nodup_ddp l
    · rw [if_neg h]; exact List.nodup_cons.mpr ⟨h, nodup_ddp l⟩
theorem ddp_len {α : Type} [DecidableEq α] : ∀ (l : List α), (ddp l).length ≤ l.length
  | [] => Nat.le_refl _
  | a :: l => by
    unfold ddp
    have := ddp_len l
    split <;> simp <;> omega
theorem ddp_nodup {α : Type} [DecidableEq α] : ∀ {l : List α}, l.Nodup → ddp l = l
  | [], _ => rfl
  | a :: l, h => by
    obtain ⟨h1, h2⟩ := List.nodup_cons.mp h
    unfold ddp
    rw [ddp_nodup h2, if_neg h1]
def unI : D → Int
  | .int i => i
  | _ => 0
def isI : D → Bool
  | .int _ => true
  | _ => false
def unW : D → List Int
  | .tuple ds => ds.map unI
  | _ => []
def isW : D → Bool
  | .tuple ds => ds.all isI
  | _ => false
theorem unI_map : ∀ {ds : List D}, ds.all isI = true → (ds.map unI).map PyData.int = ds
  | [], _ => rfl
  | d :: ds, h => by
    rw [List.all_cons, Bool.and_eq_true] at h
    rw [List.map_cons, List.map_cons, unI_map h.2]
    cases d <;> first | rfl | (cases h.1; done)
theorem unW_map : ∀ {ds : List D}, ds.all isW = true → (ds.map unW).map tW = ds
  | [], _ => rfl
  | d :: ds, h => by
    rw [List.all_cons, Bool.and_eq_true] at h
    rw [List.map_cons, List.map_cons, unW_map h.2]
    cases d with
    | tuple es =>
      have : tW (unW (.tuple es)) = .tuple es := congrArg PyData.tuple (unI_map (ds := es) h.1)
      rw [this]
    | _ => cases h.1
@[simp] theorem all_isI (ns : List Int) : (ns.map PyData.int).all isI = true := List.all_eq_true.mpr fun d hd => by
  obtain ⟨k, _, rfl⟩ := List.mem_map.mp hd
  rfl
@[simp] theorem all_isW (ws : List (List Int)) : (ws.map tW).all isW = true := List.all_eq_true.mpr fun d hd => by
  obtain ⟨k, _, rfl⟩ := List.mem_map.mp hd
  exact all_isI k
@[simp] theorem map_unI (ns : List Int) : (ns.map PyData.int).map unI = ns := by
  rw [List.map_map]
  exact (List.map_congr_left fun _ _ => rfl).trans (List.map_id ns)
@[simp] theorem map_unW (ws : List (List Int)) : (ws.map tW).map unW = ws := by
  rw [List.map_map]
  exact (List.map_congr_left fun w _ => map_unI w).trans (List.map_id ws)
def okWs (ws : List (List Int)) : Bool := decide ((ddp ws).length < 2) || ws.all fun w => !w.isEmpty
def sortSI (ys : List D) : R D := if ys.all isI = true ∧ ys.length < 4000 then .ok (.list (srtL ((ddp (ys.map unI)).map .int))) else .stuck
def sortST (ys : List D) : R D := if ys.all isW = true ∧ ys.length < 63 ∧ okWs (ys.map unW) = true then .ok (.list (srtL ((ddp (ys.map unW)).map tW))) else .stuck
def lenSI (ys : List D) : R D := if ys.all isI = true ∧ ys.length < 4000 then .ok (.int ((ddp (ys.map unI)).length : Nat)) else .stuck
def lenST (ys : List D) : R D := if ys.all isW = true ∧ ys.length < 63 then .ok (.int ((ddp (ys.map unW)).length : Nat)) else .stuck
def eOfS (h : List D → R D) (F : Env → R (List D)) : EF := fun ρ => (F ρ).bind h
theorem srt_perm_int {as bs : List Int} (p : as.Perm bs) : srtL (as.map PyData.int) = srtL (bs.map PyData.int) := by
  have hs : (bs.mergeSort fun a b => decide (a ≤ b)).Pairwise fun a b => a ≤ b := (List.pairwise_mergeSort (le := fun a b : Int => decide (a ≤ b)) (fun a b c h1 h2 => by simp at h1 h2 ⊢; omega) (fun a b => by simp; omega) bs).imp fun h => of_decide_eq_true h
  have hp := List.mergeSort_perm bs fun a b : Int => decide (a ≤ b)
  rw [srt_int hp hs, srt_int (hp.trans p.symm) hs]
theorem srt_perm_tW {as bs : List (List Int)} (p : as.Perm bs) : srtL (as.map tW) = srtL (bs.map tW) := by
  have hs : (bs.mergeSort fun a b => !ltI b a).Pairwise fun a b => ltI b a = false := (List.pairwise_mergeSort (le := fun a b : List Int => !ltI b a) (fun a b c h1 h2 => by
    have h1 : ltI b a = false := by simpa using h1
    have h2 : ltI c b = false := by simpa using h2
    have := geI_trans h1 h2
    simp [this]) (fun a b => by
    cases h : ltI b a with
    | false => simp
    | true =>
      have := ltI_asym _ _ h
      simp [this]) bs).imp fun h => by simpa using h
  have hp := List.mergeSort_perm bs fun a b : List Int => !ltI b a
  rw [srt_tW hp hs, srt_tW (hp.trans p.symm) hs]
/-- the members, as ints -/
theorem mem_ints {ds es : List D} (n : ds.Nodup) (m : ∀ d, d ∈ ds ↔ d ∈ es) (h : es.all isI = true) : ∃ as : List Int, ds = as.map PyData.int ∧ as.Perm (ddp (es.map unI)) := by
  have h1 : ds.all isI = true := List.all_eq_true.mpr fun d hd => List.all_eq_true.mp h d ((m d).mp hd)
  refine ⟨ds.map unI, (unI_map h1).symm, ?_⟩
  have n1 : (ds.map unI).Nodup := by
    have : ((ds.map unI).map PyData.int).Nodup := by rw [unI_map h1]; exact n
    exact List.Pairwise.of_map _ (fun _ _ z e => z (congrArg _ e)) this
  refine (List.perm_ext_iff_of_nodup n1 (nodup_ddp _)).mpr fun k => ?_
  rw [mem_ddp, ← ints_mem (ns := ds.map unI), ← ints_mem (ns := es.map unI), unI_map h1, unI_map h]
  exact m _
theorem mem_tups {ds es : List D} (n : ds.Nodup) (m : ∀ d, d ∈ ds ↔ d ∈ es) (h : es.all isW = true) : ∃ as : List (List Int), ds = as.map tW ∧ as.Perm (ddp (es.map unW)) := by
  have h1 : ds.all isW = true := List.all_eq_true.mpr fun d hd => List.all_eq_true.mp h d ((m d).mp hd)
  refine ⟨ds.map unW, (unW_map h1).symm, ?_⟩
  have n1 : (ds.map unW).Nodup := by
    have : ((ds.map unW).map tW).Nodup := by rw [unW_map h1]; exact n
    exact List.Pairwise.of_map _ (fun _ _ z e => z (congrArg _ e)) this
  refine (List.perm_ext_iff_of_nodup n1 (nodup_ddp _)).mpr fun k => ?_
  rw [mem_ddp, ← tups_mem (ws := ds.map unW), ← tups_mem (ws := es.map unW), unW_map h1, unW_map h]
  exact m _
section
variable {X : Cx} {C : Cc} {W : WX} {O : Own} {e : Expr} {F : Env → R (List D)} {pos p : Pos}
/-- what is asked of a kind of set, that sorted and len may be read -/
structure SetUse (X : Cx) where
  kit : SetKit X.prog X.w X.K
  S : SetSee kit
  him : ∀ ys, kit.ok ys → immL ys = true
def intUse (X : Cx) : SetUse X := ⟨intKit _ _ _, intSee _ _ _, fun ys ⟨ns, e, _⟩ => by rw [e]; exact o_imInts⟩
def tupUse (X : Cx) : SetUse X := ⟨tupKit _ _ _, tupSee _ _ _, fun ys ⟨ns, e, _⟩ => by rw [e]; exact immL_tW ns⟩
theorem ev_sortS (U : SetUse X) {h : List D → R D} {srt : List D → List D} (hh : ∀ ys d, h ys = .ok d → U.kit.ok ys ∧ d = .list (srt ys) ∧ (∀ ds : List D, ds.Nodup → (∀ x, x ∈ ds ↔ x ∈ ys) → okSort ds = true ∧ srtL ds = srt ys)) (nox : ∀ ys, NoX (h ys))
    (hc : X.calm = true) (hu : X.A.units + 65 < cLine) (hg : Gl X "sorted") (hm : X.mg "sorted" = none) (he : PE X e (tSet U.kit C W O F))
    (hs : starEach [e] X.env = (false, eval e X.env) :: starEach [] X.env := by rfl) : EV X C W O (.Call (.Name "sorted" p) [e] [] pos) 0 (eOfS h F) := by
  refine (pe_callB (call_sortSet U.S hc hu) hg hm bt_sorted (pa_cons he pa_nil hs) (by decide) (by decide) hs rfl).imp fun σ H Q ⟨ρ, Fs, er, q⟩ => ?_
  refine ⟨ρ, Fs, er, (Sat.bind q).mono (fun ys q => ?_) fun _ z => z⟩
  have q := q.nox (nox ys)
  cases e0 : h ys with
  | exc c => rw [e0] at q; exact q.elim
  | stuck => rw [e0] at q; exact q.elim
  | ok d =>
    rw [e0] at q
    obtain ⟨ok, rfl, hk⟩ := hh ys d e0
    refine ⟨ok, fun a H' st x ha h0 rl => ⟨a, st, ys, rfl, ha, rl, fun ds n m => (hk ds n m).1, fun ds zs p n m rz hp => ?_⟩⟩
    rw [(hk ds n m).2] at rz
    have x2 : Ex C.T H' (upd H' p (.lst zs)) := .new hp
    refine q _ _ [p] (x.trans x2) (.lst upd_same (rz.ex x2)) ⟨fun _ => ⟨List.nodup_cons.mpr ⟨fun z => (nomatch z), List.nodup_nil⟩, fun b hb => ?_⟩, fun z => (by cases z)⟩
    cases List.mem_singleton.mp hb
    exact x.free hp
theorem ev_lenS (U : SetUse X) {h : List D → R D} {n : List D → Nat} (hh : ∀ ys d, h ys = .ok d → U.kit.ok ys ∧ d = .int (n ys : Nat) ∧ (∀ ds : List D, ds.Nodup → (∀ x, x ∈ ds ↔ x ∈ ys) → ds.length = n ys)) (nox : ∀ ys, NoX (h ys))
    (hg : Gl X "len") (hm : X.mg "len" = none) (he : PE X e (tSet U.kit C W O F))
    (hs : starEach [e] X.env = (false, eval e X.env) :: starEach [] X.env := by rfl) : EV X C W O (.Call (.Name "len" p) [e] [] pos) 0 (eOfS h F) := by
  refine (pe_callB (call_lenSet U.S) hg hm bt_len (pa_cons he pa_nil hs) (by decide) (by decide) hs rfl).imp fun σ H Q ⟨ρ, Fs, er, q⟩ => ?_
  refine ⟨ρ, Fs, er, (Sat.bind q).mono (fun ys q => ?_) fun _ z => z⟩
  have q := q.nox (nox ys)
  cases e0 : h ys with
  | exc c => rw [e0] at q; exact q.elim
  | stuck => rw [e0] at q; exact q.elim
  | ok d =>
    rw [e0] at q
    obtain ⟨ok, rfl, hk⟩ := hh ys d e0
    refine ⟨ok, fun a H' st x ha h0 rl => ⟨a, st, ys, rfl, ha, rl, fun ds n m => ?_⟩⟩
    rw [hk ds n m]
    exact q _ _ [] x (.int _) .nil
end
theorem sortSI_use (X : Cx) (ys : List D) (d : D) (h : sortSI ys = .ok d) : (intUse X).kit.ok ys ∧ d = .list (srtL ((ddp (ys.map unI)).map .int)) ∧ (∀ ds : List D, ds.Nodup → (∀ x, x ∈ ds ↔ x ∈ ys) → okSort ds = true ∧ srtL ds = srtL ((ddp (ys.map unI)).map .int)) := by
  unfold sortSI at h
  split at h
  · rename_i c
    cases h
    refine ⟨⟨ys.map unI, (unI_map c.1).symm, by rw [List.length_map]; exact c.2⟩, rfl, fun ds n m => ?_⟩
    obtain ⟨as, rfl, p⟩ := mem_ints n m c.1
    exact ⟨okSort_int as, srt_perm_int p⟩
  · cases h
theorem lenSI_use (X : Cx) (ys : List D) (d : D) (h : lenSI ys = .ok d) : (intUse X).kit.ok ys ∧ d = .int ((ddp (ys.map unI)).length : Nat) ∧ (∀ ds : List D, ds.Nodup → (∀ x, x ∈ ds ↔ x ∈ ys) → ds.length = (ddp (ys.map unI)).length) := by
  unfold lenSI at h
  split at h
  · rename_i c
    cases h
    refine ⟨⟨ys.map unI, (unI_map c.1).symm, by rw [List.length_map]; exact c.2⟩, rfl, fun ds n m => ?_⟩
    obtain ⟨as, rfl, p⟩ := mem_ints n m c.1
    rw [List.length_map, p.length_eq]
  · cases h
theorem sortST_use (X : Cx) (ys : List D) (d : D) (h : sortST ys = .ok d) : (tupUse X).kit.ok ys ∧ d = .list (srtL ((ddp (ys.map unW)).map tW)) ∧ (∀ ds : List D, ds.Nodup → (∀ x, x ∈ ds ↔ x ∈ ys) → okSort ds = true ∧ srtL ds = srtL ((ddp (ys.map unW)).map tW)) := by
  unfold sortST at h
  split at h
  · rename_i c
    cases h
    refine ⟨⟨ys.map unW, (unW_map c.1).symm, by rw [List.length_map]; exact c.2.1⟩, rfl, fun ds n m => ?_⟩
    obtain ⟨as, rfl, p⟩ := mem_tups n m c.1
    refine ⟨okSort_tW as ?_, srt_perm_tW p⟩
    have c3 := c.2.2
    unfold okWs at c3
    rw [Bool.or_eq_true] at c3
    rcases c3 with c3 | c3
    · exact .inl (by rw [p.length_eq]; exact of_decide_eq_true c3)
    · refine .inr fun x hx e => ?_
      have := List.all_eq_true.mp c3 x (mem_ddp.mp (p.mem_iff.mp hx))
      rw [e] at this
      cases this
  · cases h
theorem lenST_use (X : Cx) (ys : List D) (d : D) (h : lenST ys = .ok d) : (tupUse X).kit.ok ys ∧ d = .int ((ddp (ys.map unW)).length : Nat) ∧ (∀ ds : List D, ds.Nodup → (∀ x, x ∈ ds ↔ x ∈ ys) → ds.length = (ddp (ys.map unW)).length) := by
  unfold lenST at h
  split at h
  · rename_i c
    cases h
    refine ⟨⟨ys.map unW, (unW_map c.1).symm, by rw [List.length_map]; exact c.2⟩, rfl, fun ds n m => ?_⟩
    obtain ⟨as, rfl, p⟩ := mem_tups n m c.1
    rw [List.length_map, p.length_eq]
  · cases h
theorem nox_sortSI (ys : List D) : NoX (sortSI ys) := by unfold sortSI; exact noxI noxO noxS
theorem nox_sortST (ys : List D) : NoX (sortST ys) := by unfold sortST; exact noxI noxO noxS
theorem nox_lenSI (ys : List D) : NoX (lenSI ys) := by unfold lenSI; exact noxI noxO noxS
theorem nox_lenST (ys : List D) : NoX (lenST ys) := by unfold lenST; exact noxI noxO noxS
section
variable {X : Cx} {C : Cc} {W : WX} {O : Own} {e : Expr} {F : Env → R (List D)} {pos p : Pos}
theorem ev_sortSI (hc : X.calm = true) (hu : X.A.units + 65 < cLine) (hg : Gl X "sorted") (hm : X.mg "sorted" = none) (he : PE X e (tSet (intUse X).kit C W O F))
    (hs : starEach [e] X.env = (false, eval e X.env) :: starEach [] X.env := by rfl) : EV X C W O (.Call (.Name "sorted" p) [e] [] pos) 0 (eOfS sortSI F) := ev_sortS (intUse X) (sortSI_use X) nox_sortSI hc hu hg hm he hs
theorem ev_sortST (hc : X.calm = true) (hu : X.A.units + 65 < cLine) (hg : Gl X "sorted") (hm : X.mg "sorted" = none) (he : PE X e (tSet (tupUse X).kit C W O F))
    (hs : starEach [e] X.env = (false, eval e X.env) :: starEach [] X.env := by rfl) : EV X C W O (.Call (.Name "sorted" p) [e] [] pos) 0 (eOfS sortST F) := ev_sortS (tupUse X) (sortST_use X) nox_sortST hc hu hg hm he hs
theorem ev_lenSI (hg : Gl X "len") (hm : X.mg "len" = none) (he : PE X e (tSet (intUse X).kit C W O F))
    (hs : starEach [e] X.env = (false, eval e X.env) :: starEach [] X.env := by rfl) : EV X C W O (.Call (.Name "len" p) [e] [] pos) 0 (eOfS lenSI F) := ev_lenS (intUse X) (lenSI_use X) nox_lenSI hg hm he hs
theorem ev_lenST (hg : Gl X "len") (hm : X.mg "len" = none) (he : PE X e (tSet (tupUse X).kit C W O F))
    (hs : starEach [e] X.env = (false, eval e X.env) :: starEach [] X.env := by rfl) : EV X C W O (.Call (.Name "len" p) [e] [] pos) 0 (eOfS lenST F) := ev_lenS (tupUse X) (lenST_use X) nox_lenST hg hm he hs
section
variable {ρ : Env} {h : List D → R D} {I : Env → R (List D)} {g : Env → D → R Env} {tt : Env → R Bool} {te : EF} {vs : List Nat}
@[simp] theorem q_ofS : eOfS h F ρ = (F ρ).bind h := id rfl
@[simp] theorem q_eSet : eSet I g tt te vs ρ = (I ρ).bind fun ds => lcGo g tt te (wipeD ρ vs) ds := id rfl
end
end
/-! the values -/
theorem sortSI_val {ns ys : List Int} (hl : ns.length < 4000) (m : ∀ k, k ∈ ys ↔ k ∈ ns) (s : ys.Pairwise (· < ·)) : sortSI (ns.map .int) = .ok (.list (ys.map .int)) := by
  have n : ys.Nodup := s.imp fun h e => by omega
  have p : ys.Perm (ddp ns) := (List.perm_ext_iff_of_nodup n (nodup_ddp _)).mpr fun k => by rw [mem_ddp]; exact m k
  unfold sortSI
  rw [if_pos ⟨all_isI ns, by rw [List.length_map]; exact hl⟩, map_unI, ← srt_perm_int p, srt_int (.refl _) (s.imp fun h => by omega)]
theorem sortST_val {ws ys : List (List Int)} (hl : ws.length < 63) (hk : ys.length < 2 ∨ ∀ w ∈ ws, w ≠ []) (m : ∀ k, k ∈ ys ↔ k ∈ ws) (s : ys.Pairwise fun a b => ltI a b = true) : sortST (ws.map tW) = .ok (.list (ys.map tW)) := by
  have n : ys.Nodup := s.imp fun h e => by rw [e, ltI_self] at h; cases h
  have p : ys.Perm (ddp ws) := (List.perm_ext_iff_of_nodup n (nodup_ddp _)).mpr fun k => by rw [mem_ddp]; exact m k
  have ok : okWs ws = true := by
    unfold okWs
    rw [Bool.or_eq_true]
    rcases hk with h | h
    · exact .inl (decide_eq_true (by rw [← p.length_eq]; exact h))
    · refine .inr (List.all_eq_true.mpr fun w hw => ?_)
      have := h w hw
      cases w with
      | nil => exact (this rfl).elim
      | cons _ _ => rfl
  unfold sortST
  rw [if_pos ⟨all_isW ws, by rw [List.length_map]; exact hl, by rw [map_unW]; exact ok⟩, map_unW, ← srt_perm_tW p, srt_tW (.refl _) (s.imp fun h => ltI_asym _ _ h)]
theorem lenSI_val {ns : List Int} (hl : ns.length < 4000) : lenSI (ns.map .int) = .ok (.int ((ddp ns).length : Nat)) := by
  unfold lenSI
  rw [if_pos ⟨all_isI ns, by rw [List.length_map]; exact hl⟩, map_unI]
theorem lenST_val {ws : List (List Int)} (hl : ws.length < 63) : lenST (ws.map tW) = .ok (.int ((ddp ws).length : Nat)) := by
  unfold lenST
  rw [if_pos ⟨all_isW ws, by rw [List.length_map]; exact hl⟩, map_unW]
end Pd
namespace Pd
open PySem PySem.Spec PyProof.Rows L2
/-! ### a dict's rows in the heap -/
theorem vals_ext : ∀ {vs : List V} {us : List Value}, vs.length = us.length → (∀ (i : Nat) (v : V) (u : Value), vs[i]? = some v → us[i]? = some u → RelV v u) → Vals vs us
  | [], [], _, _ => .nil
  | [], _ :: _, h, _ => by cases h
  | _ :: _, [], h, _ => by cases h
  | v :: vs, u :: us, h, r => .cons (r 0 v u rfl rfl) (vals_ext (by simpa using h) fun i a b e1 e2 => r (i + 1) a b (by simpa using e1) (by simpa using e2))
theorem rpl_keyD {K : PySem.W.Frag} {H : Hp} : ∀ L : List Key, RpL K H (L.map kV) (L.map keyD) []
  | [] => .nil
  | k :: L => .cons (F := []) (G := []) (by cases k <;> constructor) (rpl_keyD L)
theorem kyx_keys {K : PySem.W.Frag} {H : Hp} : ∀ {L : List (NestedKey × Addr × V)} {ks : List D}, KyX K H L ks → RpL K H (L.map fun p => V.ref p.2.1) ks []
  | _, _, .nil => .nil
  | _, _, .cons k _ t => .cons (F := []) (G := []) k.rp (kyx_keys t)
section
variable {X : Cx} {pins : List (Addr × Obj)} {σ : L2.St} {H : Hp} {s : Shared}
theorem isDct_cases {kvs : List (D × D)} (hd : isDct kvs = true) : (∀ p ∈ kvs, atomK p.1 = true) ∨ ∀ p ∈ kvs, isTup p.1 = true := by
  unfold isDct at hd
  rw [Bool.or_eq_true] at hd
  exact hd.imp (fun z p hp => List.all_eq_true.mp z p hp) (fun z p hp => List.all_eq_true.mp z p hp)
theorem dict_raw (I : Inv X pins σ H s) {v : V} {kvs : List (D × D)} {F : List Addr} (rd : Rp X.K H v (.dict kvs) F) (hd : isDct kvs = true) : ∃ a es ep ks vs Fv, v = .ref a ∧ F = a :: Fv ∧ (a == sysModules) = false ∧ s.heap.DictRaw a es ep ∧ es.size ≤ sizeLine ∧
    Vals ks (es.toList.map fun e => e.key) ∧ RpL X.K H ks (kvs.map (·.1)) [] ∧ Vals vs (es.toList.map fun e => e.val) ∧ RpL X.K H vs (kvs.map (·.2)) Fv := by
  obtain ⟨a, o, Fv, vs, rfl, rfl, ho, rv, w⟩ := dct_cases rd (isDct_cases hd)
  rcases w with ⟨L, rfl, e1, rfl⟩ | ⟨L, rfl, e1, rfl⟩
  · obtain ⟨le, ns, us, kv, dd⟩ := va_of I ho
    obtain ⟨es, ep, raw, hsz, he⟩ := dd.raw
    have hl : L.length = us.length := Paired.length kv
    have row : ∀ (i : Nat) (hi : i < es.size) (p : Key × V), L[i]? = some p → keyIs p.1 es[i].key = true ∧ RelV p.2 es[i].val := fun i hi p hp => by
      have hu : i < us.length := by rw [← hsz]; exact hi
      have hL : i < L.length := by rw [hl]; exact hu
      have key : ∀ {L : List (Key × V)} {us : List (Key × Value)}, KV L us → ∀ (i : Nat) p q, L[i]? = some p → us[i]? = some q → p.1 = q.1 ∧ RelV p.2 q.2 := by
        intro L us kv
        induction kv with
        | nil => intro i p q h; simp at h
        | cons r t ih =>
          intro i p q h g
          cases i with
          | zero => cases h; cases g; exact r
          | succ i => exact ih i p q (by simpa using h) (by simpa using g)
      obtain ⟨k1, k2⟩ := key kv i p us[i] hp (List.getElem?_eq_getElem hu)
      obtain ⟨h1, h2⟩ := he i hi us[i].1 us[i].2 (List.getElem?_eq_getElem hu)
      rw [k1, h2]
      exact ⟨h1, k2⟩
    have hlen : L.length = es.toList.length := by rw [hl, ← hsz, Array.length_toList]
    refine ⟨a, es, ep, (L.map (·.1)).map kV, _, Fv, rfl, rfl, ns, raw, by rw [hsz, ← hl]; exact le, vals_ext (by rw [List.length_map, List.length_map, List.length_map, hlen]) fun i v u h1 h2 => ?_, by rw [e1]; rw [show L.map (fun p => keyD p.1) = (L.map (·.1)).map keyD by rw [List.map_map]; rfl]; exact rpl_keyD _, vals_ext (by rw [List.length_map, List.length_map, hlen]) fun i v u h1 h2 => ?_, rv⟩
    · rw [List.map_map, List.getElem?_map, Option.map_eq_some_iff] at h1
      rw [List.getElem?_map, Option.map_eq_some_iff] at h2
      obtain ⟨p, hp, rfl⟩ := h1
      obtain ⟨e, hq, rfl⟩ := h2
      obtain ⟨hi, eq⟩ := List.getElem?_eq_some_iff.mp hq
      have hi' : i < es.size := by rw [Array.length_toList] at hi; exact hi
      have := (row i hi' p hp).1
      rw [← eq, Array.getElem_toList]
      show RelV (kV p.1) es[i].key
      rcases keyIs_shape this with ⟨j, t, e1, e2⟩ | ⟨x, t, e1, e2⟩
      · rw [e1, e2]; exact ⟨t, rfl⟩
      · rw [e1, e2]; exact ⟨t, rfl⟩
    · rw [List.getElem?_map, Option.map_eq_some_iff] at h1
      rw [List.getElem?_map, Option.map_eq_some_iff] at h2
      obtain ⟨p, hp, rfl⟩ := h1
      obtain ⟨e, hq, rfl⟩ := h2
      obtain ⟨hi, eq⟩ := List.getElem?_eq_some_iff.mp hq
      have hi' : i < es.size := by rw [Array.length_toList] at hi; exact hi
      have := (row i hi' p hp).2
      rw [← eq, Array.getElem_toList]
      exact this
  · obtain ⟨le, ns, xs, pr, dd⟩ := vb_of I ho e1
    obtain ⟨es, ep, raw, hsz, he⟩ := dd.raw
    have hl : L.length = xs.length := Paired.length pr
    have row : ∀ (i : Nat) (hi : i < es.size) (p : NestedKey × Addr × V), L[i]? = some p → es[i].key = .ref p.2.1 ∧ RelV p.2.2 es[i].val := fun i hi p hp => by
      obtain ⟨y, hy, h1, h2, _⟩ := he i hi
      have key : ∀ {L : List (NestedKey × Addr × V)} {us : List (NestedKey × Addr × Value)}, Paired PrX L us → ∀ (i : Nat) p q, L[i]? = some p → us[i]? = some q → PrX p q := by
        intro L us kv
        induction kv with
        | nil => intro i p q h; simp at h
        | cons r t ih =>
          intro i p q h g
          cases i with
          | zero => cases h; cases g; exact r
          | succ i => exact ih i p q (by simpa using h) (by simpa using g)
      obtain ⟨_, k2, k3⟩ := key pr i p y hp hy
      rw [h1, h2, k2]
      exact ⟨rfl, k3⟩
    have hlen : L.length = es.toList.length := by rw [hl, ← hsz, Array.length_toList]
    refine ⟨a, es, ep, L.map (fun p => V.ref p.2.1), _, Fv, rfl, rfl, ns, raw, by rw [hsz, ← hl]; exact le, vals_ext (by rw [List.length_map, List.length_map, hlen]) fun i v u h1 h2 => ?_, kyx_keys e1, vals_ext (by rw [List.length_map, List.length_map, hlen]) fun i v u h1 h2 => ?_, rv⟩
    · rw [List.getElem?_map, Option.map_eq_some_iff] at h1 h2
      obtain ⟨p, hp, rfl⟩ := h1
      obtain ⟨e, hq, rfl⟩ := h2
      obtain ⟨hi, eq⟩ := List.getElem?_eq_some_iff.mp hq
      have hi' : i < es.size := by rw [Array.length_toList] at hi; exact hi
      have := (row i hi' p hp).1
      rw [← eq, Array.getElem_toList, this]
      rfl
    · rw [List.getElem?_map, Option.map_eq_some_iff] at h1 h2
      obtain ⟨p, hp, rfl⟩ := h1
      obtain ⟨e, hq, rfl⟩ := h2
      obtain ⟨hi, eq⟩ := List.getElem?_eq_some_iff.mp hq
      have hi' : i < es.size := by rw [Array.length_toList] at hi; exact hi
      have := (row i hi' p hp).2
      rw [← eq, Array.getElem_toList]
      exact this
end
section
variable {X : Cx} {T : List Addr}
/-- list(a dict) -/
theorem call_listDict (hc : X.calm = true) : CallR X (.type "list") (fun vs H Q => ∃ v kvs F, vs = [v] ∧ Rp X.K H v (.dict kvs) F ∧ isDct kvs = true ∧ ∀ p ks, RpL X.K H ks (kvs.map (·.1)) [] → H p = none → Q (.ref p) (upd H p (.lst ks))) := by
  intro pins s σ H vs us Q I r h
  obtain ⟨v, kvs, F, rfl, rd, hd, q⟩ := h
  obtain ⟨a, es, ep, ks, ws, Fv, rfl, rfl, ns, raw, hz, vk, rk, vv, rv⟩ := dict_raw I rd hd
  obtain rfl := Vals.ref1 r
  refine PySem.W.kdl_call (KdlSrc.rawDict ns) (I.ok.hd hc) raw hz fun h' tk acc c' hk hS hacc => ?_
  have hn : H s.heap.objs.size = none := I.hok.fresh (Nat.le_refl _)
  have e : acc.toList = es.toList.map fun e => e.key := by
    apply List.ext_getElem?
    intro i
    rcases Nat.lt_or_ge i es.size with z | z
    · have hi : i < acc.size := by rw [hacc.1]; exact z
      obtain ⟨z', e⟩ := hacc.2 i acc[i] (by simp [hi])
      rw [Array.getElem?_toList, Array.getElem?_eq_getElem hi, e, List.getElem?_map, Array.getElem?_toList, Array.getElem?_eq_getElem z]
      rfl
    · rw [List.getElem?_eq_none (by rw [Array.length_toList, hacc.1]; exact z), List.getElem?_eq_none (by rw [List.length_map, Array.length_toList]; exact z)]
  have hl : ks.length ≤ sizeLine := by rw [vk.length, List.length_map, Array.length_toList]; exact hz
  exact ⟨.ref s.heap.objs.size, upd H s.heap.objs.size (.lst ks), I.laid (t' := tk) hk (Nat.le_refl _) ⟨hl, acc.toList, c', by rw [e]; exact vk, hS⟩, rfl, q _ ks rk hn⟩
def listX : List D → R D
  | [.dict kvs] => if isDct kvs = true then .ok (.list (kvs.map (·.1))) else listD [.dict kvs]
  | ds => listD ds
theorem noxListD (ds : List D) : NoX (listD ds) := by
  unfold listD
  split <;> first | exact noxO | exact noxS
theorem c_listX (hc : X.calm = true) : CallD X T (.type "list") listX where
  nox := fun ds => by
    unfold listX
    split
    · exact noxI noxO (noxListD _)
    · exact noxListD _
  ex := by
    obtain ⟨nox, r0, h0, hr⟩ := c_list (X := X) (T := T)
    refine ⟨_, callr_or h0 (call_listDict hc), fun H vs ds F Q r h => ?_⟩
    unfold listX at h
    split at h
    · rename_i kvs
      by_cases hd : isDct kvs = true
      · rw [if_pos hd] at h
        cases r with
        | @cons v _ _ _ F1 F2 r1 rs =>
          cases rs
          refine .inr ⟨v, kvs, F1, rfl, r1, hd, fun p ks rk hp => ?_⟩
          have x : Ex T H (upd H p (.lst ks)) := .new hp
          refine h _ _ [p] x (.lst upd_same (rk.ex x)) ⟨fun c hc => ?_, fun _ => List.nodup_cons.mpr ⟨fun z => (nomatch z), List.nodup_nil⟩⟩
          cases List.mem_singleton.mp hc
          exact .inr hp
      · rw [if_neg hd] at h
        exact .inl (hr H vs _ F Q r h)
    · exact .inl (hr H vs ds F Q r h)
end
section
variable {kvs : List (D × D)} {xs : List D}
@[simp] theorem o_listXT : listX [.tuple xs] = .ok (.list xs) := id rfl
@[simp] theorem o_listXL : listX [.list xs] = .ok (.list xs) := id rfl
@[simp] theorem o_listXD : listX [.dict kvs] = if isDct kvs = true then .ok (.list (kvs.map (·.1))) else listD [.dict kvs] := id rfl
end
theorem listX_dW (ks : List (List Int)) (v : D) : listX [.dict (dW ks v)] = .ok (.list (ks.map tW)) := by
  rw [o_listXD, if_pos (isDct_dW ks v)]
  unfold dW
  rw [List.map_map]
  rfl
end Pd
namespace Pd
open PySem PySem.Spec PyProof.Rows L2
/-! ### x.append(y.pop(k)) -/
def appPopD (i j : Nat) (L : Env → R (List D)) : Env → RS := fun ρ => RS.of (ρ.get i) ρ fun x => match x with
  | .list ds => RS.of (ρ.get j) ρ fun y => match y with
    | .list es => RS.of (L ρ) ρ fun ks => match ks with
      | [.int k] => (match ixN es.length k with
        | some m => (match es[m]? with
          | some d => if immL es = true ∧ ds.length < 16777216 ∧ es.length < 16777216 then .nx ((ρ.put j (.list (es.eraseIdx m))).put i (.list (ds ++ [d]))) else .stuck
          | none => .stuck)
        | none => .stuck)
      | _ => .stuck
    | _ => .stuck
  | _ => .stuck
theorem RpL.erase {K : PySem.W.Frag} {H : Hp} : ∀ {xs : List V} {ds : List D} {F : List Addr} (m : Nat), RpL K H xs ds F → ∃ G, RpL K H (xs.eraseIdx m) (ds.eraseIdx m) G
  | _, _, _, _, .nil => ⟨[], .nil⟩
  | _, _, _, 0, .cons r t => ⟨_, t⟩
  | _, _, _, m + 1, .cons r t => by
    obtain ⟨G, q⟩ := RpL.erase m t
    exact ⟨_, .cons r q⟩
theorem immL_get : ∀ {es : List D} {m : Nat} {d : D}, immL es = true → es[m]? = some d → imm d = true
  | e :: es, 0, d, h, g => by
    cases g
    exact (Bool.and_eq_true_iff.mp h).1
  | e :: es, m + 1, d, h, g => immL_get (Bool.and_eq_true_iff.mp h).2 (by simpa using g)
theorem immL_erase : ∀ {es : List D} (m : Nat), immL es = true → immL (es.eraseIdx m) = true
  | [], _, h => by simp [immL]
  | e :: es, 0, h => (Bool.and_eq_true_iff.mp h).2
  | e :: es, m + 1, h => by
    obtain ⟨a, b⟩ := Bool.and_eq_true_iff.mp h
    show (imm e && immL (es.eraseIdx m)) = true
    rw [a, immL_erase m b]
    rfl
section
variable {X : Cx} {C : Cc} {W : WX} {Ob O O' : Own} {e o o2 : Expr} {k i j : Nat} {pos p2 p3 apos ap2 : Pos} {L : Env → R (List D)}
theorem sv_appPop (ho : PE X o (tVar i)) (ho2 : PE X o2 (tVar j)) (hx : AVn X C W O [e] k L) (hi : i ∈ O := by decide) (hj : j ∈ O := by decide) (hij : i ≠ j := by decide) (hl : decide (i ∈ C.ls) = false := by rfl) (hlj : decide (j ∈ C.ls) = false := by rfl) (hO : ∀ m ∈ O', m ∈ O := by decide)
    (hbase : attributeBase o "append" X.env (eval o X.env) = eval o X.env := by rfl)
    (hfew : ((backTo p2 (starEach [.Call (.Attribute o2 "pop" ap2) [e] [] p3] X.env)).all (fun x => !x.1) && (backToKw p2 (keywordEach [] X.env)).all (fun x => x.1.isSome)
      && decide ([Expr.Call (.Attribute o2 "pop" ap2) [e] [] p3].length + ([] : List Keyword).length + (if ([] : List Keyword).isEmpty then 0 else 1) < 30)) = true := by rfl)
    (hline : (apos.endLine == p2.line) = true := by rfl) (hs : starEach [.Call (.Attribute o2 "pop" ap2) [e] [] p3] X.env = (false, eval (.Call (.Attribute o2 "pop" ap2) [e] [] p3) X.env) :: starEach [] X.env := by rfl) (hplain : (backTo p2 (starEach [] X.env)).any (·.1) = false := by rfl)
    (hw : swapsWith (.Call (.Attribute o "append" apos) [.Call (.Attribute o2 "pop" ap2) [e] [] p3] [] p2) none pos.line X.env = pure false := by rfl)
    (hbase2 : attributeBase o2 "pop" X.env (eval o2 X.env) = eval o2 X.env := by rfl)
    (hfew2 : ((backTo p3 (starEach [e] X.env)).all (fun x => !x.1) && (backToKw p3 (keywordEach [] X.env)).all (fun x => x.1.isSome)
      && decide ([e].length + ([] : List Keyword).length + (if ([] : List Keyword).isEmpty then 0 else 1) < 30)) = true := by rfl)
    (hline2 : (ap2.endLine == p3.line) = true := by rfl) (hs2 : starEach [e] X.env = (false, eval e X.env) :: starEach [] X.env := by rfl) (hplain2 : (backTo p3 (starEach [] X.env)).any (·.1) = false := by rfl) :
    SV X C W Ob O O' (.Expr (.Call (.Attribute o "append" apos) [.Call (.Attribute o2 "pop" ap2) [e] [] p3] [] p2) pos) (appPopD i j L) := by
  refine (ps_expr (pe_bm PySem.F.plainAttrs_list PySem.F.slot_list_append PySem.F.type_list_append (mt_append : MtR X "list.append" rAppend) ho
    (pa_cons (pe_bm PySem.F.plainAttrs_list PySem.F.slot_list_pop PySem.F.type_list_pop (mt_popAt : MtR X "list.pop" rPopAt) ho2 hx.av hbase2 hfew2 hline2 hs2 hplain2) pa_nil hs) hbase hfew hline hs hplain) hw).imp fun De σ H ⟨ρ, Fs, er, q⟩ => ?_
  obtain ⟨d, h1, h2⟩ := get_sat (fin_of er q)
  cases d with
  | list ds =>
    obtain ⟨a, xs, Fx, hs1, hF, hH, r⟩ := er.at_lst h1
    refine ⟨.ref a, hs1, .inl ⟨rfl, xs, .inl (.inl hH)⟩, ?_⟩
    obtain ⟨d2, h3, h4⟩ := get_sat (fin_of er h2)
    cases d2 with
    | list es =>
      obtain ⟨b, ys, Fy, hs3, hF3, hH3, r3⟩ := er.at_lst h3
      refine ⟨.ref b, hs3, .inl ⟨rfl, ys, .inl (.inl hH3)⟩, ?_⟩
      refine tL.step er (fin_of er h4) fun ks vs H1 F1 p er1 x1 r1 kd1 => ?_
      obtain ⟨z, rfl⟩ : ∃ z, ks = [.int z] := by
        match ks, p with
        | [], p => exact p.elim
        | [d1], p => cases d1 <;> first | exact p.elim | exact ⟨_, rfl⟩
        | d1 :: _ :: _, p => cases d1 <;> exact p.elim
      dsimp only at p
      obtain ⟨v, rfl⟩ : ∃ v, vs = [v] := by
        cases r1 with
        | cons a t => cases t; exact ⟨_, rfl⟩
      have hv : v = .int z := by
        cases r1 with
        | cons a t => exact rp_int a
      subst hv
      obtain ⟨b', ys', Fy', hs3', hF3', hH3', r3'⟩ := er1.at_lst h3
      rw [hs3] at hs3'
      cases hs3'
      cases e1 : ixN es.length z with
      | none => rw [e1] at p; exact p.elim
      | some m =>
        rw [e1] at p
        dsimp only at p
        cases e2 : es[m]? with
        | none => rw [e2] at p; exact p.elim
        | some d =>
          rw [e2] at p
          dsimp only at p
          by_cases c : immL es = true ∧ ds.length < 16777216 ∧ es.length < 16777216
          · rw [if_pos c] at p
            obtain ⟨c1, c2, c3⟩ := c
            obtain ⟨q1, q2, q3, q4⟩ := ixN_seq e1
            cases r3'.imm c1
            obtain ⟨y, G, e3, ry, sb⟩ := r3'.get e2
            cases List.sublist_nil.mp sb
            refine ⟨b, ys', z, m, y, rfl, rfl, hH3', by omega, by omega, by rw [r3'.length]; exact q1, e3, ?_⟩
            obtain ⟨G2, r4⟩ := RpL.erase m r3'
            cases r4.imm (immL_erase m c1)
            obtain ⟨Fs2, er2⟩ := er1.upd (O' := O) (ds' := es.eraseIdx m) hj (of_decide_eq_false hlj) hs3 hF3' hH3' r4 (List.nodup_cons.mpr ⟨fun z => (nomatch z), List.nodup_nil⟩) (fun b hb => (nomatch hb)) fun _ h => h
            have h1' : (ρ.put j (.list (es.eraseIdx m)))[i]? = some (some (.list ds)) := by
              unfold Env.put
              rw [List.getElem?_set_ne (Ne.symm hij)]
              exact h1
            obtain ⟨a', xs', Fx', hs1', hF', hH', r'⟩ := er2.at_lst h1'
            rw [hs1] at hs1'
            cases hs1'
            refine ⟨a, xs', y, rfl, rfl, hH', len_ok (by rw [r'.length]; exact c2), ?_⟩
            have ne : ∀ w xs, L2.upd H1 b (.lst (ys'.eraseIdx m)) w = some (.tup xs) → True := fun _ _ _ => trivial
            have ry2 : Rp X.K (L2.upd H1 b (.lst (ys'.eraseIdx m))) y d [] := ry.kp ⟨fun w xs e => by rw [upd_ne fun z => by rw [z, hH3'] at e; cases e]; exact e, fun w o u e => by rw [upd_ne fun z => by rw [z, hH3'] at e; cases e]; exact e, fun w hw => (nomatch hw)⟩
            have nd0 := (er2.own i hi).1
            rw [hF'] at nd0
            refine Exists.elim (er2.upd (O' := O') (ds' := ds ++ [d]) hi (of_decide_eq_false hl) hs1 hF' hH' (r'.append (.cons (F := []) (G := []) ry2 .nil)) (by simpa using nd0) (fun w hw => .inl (by simpa using hw)) hO) fun Fs' er' => p _ _ Fs' er'
          · rw [if_neg c] at p; exact p.elim
    | _ => exact h4.elim
  | _ => exact h2.elim
end
section
variable {ρ : Env} {L : Env → R (List D)} {i j : Nat}
@[simp] theorem q_appPop : appPopD i j L ρ = RS.of (ρ.get i) ρ fun x => match x with
  | .list ds => RS.of (ρ.get j) ρ fun y => match y with
    | .list es => RS.of (L ρ) ρ fun ks => match ks with
      | [.int k] => (match ixN es.length k with
        | some m => (match es[m]? with
          | some d => if immL es = true ∧ ds.length < 16777216 ∧ es.length < 16777216 then .nx ((ρ.put j (.list (es.eraseIdx m))).put i (.list (ds ++ [d]))) else .stuck
          | none => .stuck)
        | none => .stuck)
      | _ => .stuck
    | _ => .stuck
  | _ => .stuck := id rfl
end
end Pd
namespace Pd
open PySem PySem.Spec PyProof.Rows L2
/-! ### range with a step -/
def rangeC (lo c : Int) (n : Nat) : List D := (List.range n).map fun i => .int (lo + (i : Nat) * c)
def rngD3 : List D → R (List D)
  | [.int a, .int b, .int c] => if c ≠ 0 ∧ c.natAbs < 1073741824 ∧ Builtin.Range.small a b c = true then .ok (rangeC a c (Builtin.Range.rangeSize a b c).toNat) else .stuck
  | _ => .stuck
def eRng3 (L : Env → R (List D)) : Env → R (List D) := fun ρ => (L ρ).bind rngD3
theorem rangeC_len {lo c : Int} {n : Nat} : (rangeC lo c n).length = n := by simp [rangeC]
theorem itok_rng3 {K : PySem.W.Frag} {T : List Addr} {H : Hp} {lo c : Int} {n : Nat} : ItOk K T ⟨[], H, none⟩ (rangeC lo c n) (Itc lo c n) := by
  refine ⟨fun i H' k hi => by rw [rangeC_len] at hi; exact hi, fun i H' x H2 d k hd y => ?_, fun i H' k hi => by rw [rangeC_len] at hi; exact hi⟩
  obtain ⟨e, y⟩ := y
  subst e
  refine ⟨.refl, [], ?_, fun b hb => (nomatch hb)⟩
  subst y
  have hi : i < n := by
    have := (List.getElem?_eq_some_iff.mp hd).1
    rwa [rangeC_len] at this
  have e2 : (rangeC lo c n)[i]? = some (.int (lo + (i : Nat) * c)) := by simp [rangeC, hi]
  rw [e2] at hd
  cases hd
  exact .int _
section
variable {X : Cx} {C : Cc} {W : WX} {O : Own} {tg : Expr} {k : Nat} {L : Env → R (List D)} {pos : Pos}
theorem iv_range3 {a b c : Expr} {p : Pos} (hg : Gl X "range") (hm : X.mg "range" = none) (ha : AVn X C W O [a, b, c] k L) (hs : starEach [a, b, c] X.env = (false, eval a X.env) :: starEach [b, c] X.env := by rfl) (hpl : (backTo pos (starEach [b, c] X.env)).any (·.1) = false := by rfl) :
    IV X C W O tg (.Call (.Name "range" p) [a, b, c] [] pos) none (eRng3 L) := by
  refine (pi_range3 hg hm ha.av hs hpl).imp fun σ H R ⟨ρ, Fs, er, q⟩ => ?_
  refine tL.step er (sat_n (σ := σ) (H := H) ha (Sat.bind q)) fun d v H1 F1 ⟨hl, p⟩ er1 x1 r1 kd1 => ?_
  match d, hl, r1, p with
  | [d, d', d''], _, .cons r (.cons r' (.cons r'' .nil)), p =>
    cases r with
    | int j =>
      cases r' with
      | int j' =>
        cases r'' with
        | int j'' =>
          obtain ⟨⟨c1, c2, c3⟩, p⟩ := satI p
          exact ⟨j, j', j'', _, rfl, ⟨c1, c2, c3, PyProof.Rows.rangeSize_toNat j j' j''⟩, p (Itc j j'' (Builtin.Range.rangeSize j j' j'').toNat) H1 _ x1 itok_rng3 lk_none⟩
        | _ => exact p.elim
      | _ => exact p.elim
    | _ => exact p.elim
end
@[simp] theorem q_rng3 {ρ : Env} {L : Env → R (List D)} : eRng3 L ρ = (L ρ).bind rngD3 := id rfl
end Pd
namespace Pd
open PySem PySem.Spec PyProof.Rows L2
/-! ### list(range(..)), tuple(range(..)) -/
def eLstRg (L : Env → R (List D)) : EF := fun ρ => (L ρ).bind fun xs => (rngD xs).bind fun ds => if ds.length < 16777216 then .ok (.list ds) else .stuck
def eTupRg (L : Env → R (List D)) : EF := fun ρ => (L ρ).bind fun xs => (rngD xs).bind fun ds => if ds.length < 16777216 then .ok (.tuple ds) else .stuck
theorem rpl_rg {K : PySem.W.Frag} {H : Hp} (a b : Int) : RpL K H (rgV a b) (rangeL a (b - a).toNat) [] := by
  have key : ∀ L : List Nat, RpL K H (L.map fun i => V.int (a + (i : Nat))) (L.map fun i => PyData.int (a + (i : Nat))) [] := by
    intro L
    induction L with
    | nil => exact .nil
    | cons x xs ih => exact .cons (F := []) (G := []) (.int _) ih
  exact key _
def tTupRF (te : L2.St → Hp → (Int → Int → Hp → Prop) → Prop) : TE := fun σ H Q => te σ H fun a b H1 => RgOk a b ∧ ∀ q o, H1 q = none → NewT o → Q (.ref q) (upd H1 q (.frz o (.tup (rgV a b))))
section
variable {X : Cx} {C : Cc} {W : WX} {O : Own} {e a b : Expr} {F G : EF} {ka kb : Nat} {p p2 pos pos2 : Pos} {te : L2.St → Hp → (Int → Int → Hp → Prop) → Prop}
theorem pe_tupRF (hc : X.calm = true) (hg : Gl X "tuple") (hm : X.mg "tuple" = none) (he : PRg X e te) (na : starEach [e] X.env = (false, eval e X.env) :: starEach [] X.env := by rfl) : PE X (.Call (.Name "tuple" p) [e] [] pos) (tTupRF te) := by
  refine ⟨fun pins s σ H Q I h => ?_⟩
  refine Call_ (ld_blt I hg hm boot_tuple (PyProof.Rows.callWith_type1 (args_cons (thn (he pins s σ H _ I h) fun x s1 ⟨r, lo, hi, t, u, v, H1, ex, hr, J1, ok, q⟩ => args_nil ?_) na) na))
  subst ex
  obtain ⟨b1, b2, b3, b4, b5⟩ := ok
  refine call_tuple_range (n := (hi - lo).toNat) (J1.ok.hd hc) hr (small_one b1 b2 b3 b4) (rangeSize_nat lo hi) b5 fun h' tk acc hk it => ?_
  have J2 : Inv X pins σ H1 { s1 with heap := h', toks := tk } := J1.kept hk
  have hl : (rgV lo hi).length ≤ sizeLine := by rw [rgV_length, sizeLine_eq] <;> omega
  have J3 := laidT (s := { s1 with heap := h', toks := tk }) J2 (vals_rg it) hl tk
  have e9 : acc.toList.toArray = acc := by simp
  rw [e9] at J3
  exact ⟨.ref h'.objs.size, _, J3, rfl, q _ _ (J2.hok.fresh (Nat.le_refl _)) ⟨rfl, rfl⟩⟩
theorem rg_ok {lo hi : Int} (h : -4611686018427387904 ≤ lo ∧ lo < 4611686018427387904 ∧ -4611686018427387904 ≤ hi ∧ hi < 4611686018427387904) (hl : (rangeL lo (hi - lo).toNat).length < 16777216) : RgOk lo hi := by
  rw [rangeL_len] at hl
  exact ⟨by omega, by omega, by omega, by omega, by omega⟩
theorem ev_listRg1 (hc : X.calm = true) (hg : Gl X "list") (hm : X.mg "list" = none) (hg2 : Gl X "range") (hm2 : X.mg "range" = none) (ha : EV X C W O a ka F) (na : starEach [a] X.env = (false, eval a X.env) :: starEach [] X.env := by rfl)
    (n2 : starEach [.Call (.Name "range" p2) [a] [] pos2] X.env = (false, eval (.Call (.Name "range" p2) [a] [] pos2) X.env) :: starEach [] X.env := by rfl) : EV X C W O (.Call (.Name "list" p) [.Call (.Name "range" p2) [a] [] pos2] [] pos) 0 (eLstRg (lCons F lNil)) := by
  refine (pe_listRg hc hg hm (prg_1 hg2 hm2 ha na) n2).imp fun σ H Q ⟨ρ, Fs, er, q⟩ => ?_
  have q := Sat.bind q
  refine tD.step er (Sat.bind q) fun d v H1 F1 q1 er1 x1 r1 kd1 => ?_
  have q1 : Sat ((rngD [d]).bind fun ds => if ds.length < 16777216 then R.ok (PyData.list ds) else .stuck) (fun d => ∀ v H' F', Ex C.T H H' → Rp X.K H' v d F' → KdOk 0 O H Fs F' → Q v H') (WOk X.K C W σ H) := q1
  cases d with
  | int j =>
    cases r1
    refine ⟨j, rfl, ?_⟩
    obtain ⟨⟨c1, c2⟩, q1⟩ := satI (Sat.bind q1)
    obtain ⟨hl, q1⟩ := satI q1
    have e0 : (j - 0).toNat = j.toNat := by omega
    refine ⟨rg_ok ⟨by decide, by decide, c1, c2⟩ (by rw [e0]; exact hl), fun w hw => ?_⟩
    have rp := rpl_rg (K := X.K) (H := H1) 0 j
    rw [e0] at rp
    have x2 : Ex C.T H1 (upd H1 w (.lst (rgV 0 j))) := .new hw
    refine q1 _ _ [w] (x1.trans x2) (.lst upd_same (rp.ex x2)) ⟨fun _ => ⟨List.nodup_cons.mpr ⟨fun z => (nomatch z), List.nodup_nil⟩, fun c hc => ?_⟩, fun z => by cases z⟩
    cases List.mem_singleton.mp hc
    exact x1.free hw
  | _ => exact (Sat.bind q1).elim
theorem ev_tupRg1 (hc : X.calm = true) (hg : Gl X "tuple") (hm : X.mg "tuple" = none) (hg2 : Gl X "range") (hm2 : X.mg "range" = none) (ha : EV X C W O a ka F) (na : starEach [a] X.env = (false, eval a X.env) :: starEach [] X.env := by rfl)
    (n2 : starEach [.Call (.Name "range" p2) [a] [] pos2] X.env = (false, eval (.Call (.Name "range" p2) [a] [] pos2) X.env) :: starEach [] X.env := by rfl) : EV X C W O (.Call (.Name "tuple" p) [.Call (.Name "range" p2) [a] [] pos2] [] pos) 0 (eTupRg (lCons F lNil)) := by
  refine (pe_tupRF hc hg hm (prg_1 hg2 hm2 ha na) n2).imp fun σ H Q ⟨ρ, Fs, er, q⟩ => ?_
  have q := Sat.bind q
  refine tD.step er (Sat.bind q) fun d v H1 F1 q1 er1 x1 r1 kd1 => ?_
  have q1 : Sat ((rngD [d]).bind fun ds => if ds.length < 16777216 then R.ok (PyData.tuple ds) else .stuck) (fun d => ∀ v H' F', Ex C.T H H' → Rp X.K H' v d F' → KdOk 0 O H Fs F' → Q v H') (WOk X.K C W σ H) := q1
  cases d with
  | int j =>
    cases r1
    refine ⟨j, rfl, ?_⟩
    obtain ⟨⟨c1, c2⟩, q1⟩ := satI (Sat.bind q1)
    obtain ⟨hl, q1⟩ := satI q1
    have e0 : (j - 0).toNat = j.toNat := by omega
    refine ⟨rg_ok ⟨by decide, by decide, c1, c2⟩ (by rw [e0]; exact hl), fun w o hw ho => ?_⟩
    have rp := rpl_rg (K := X.K) (H := H1) 0 j
    rw [e0] at rp
    have x2 : Ex C.T H1 (upd H1 w (.frz o (.tup (rgV 0 j)))) := .new hw
    exact q1 _ _ [] (x1.trans x2) (.tup (.new ho) (rp.ex x2)) .nil
  | _ => exact (Sat.bind q1).elim
end
section
variable {ρ : Env} {L : Env → R (List D)}
@[simp] theorem q_lstRg : eLstRg L ρ = (L ρ).bind fun xs => (rngD xs).bind fun ds => if ds.length < 16777216 then .ok (.list ds) else .stuck := id rfl
@[simp] theorem q_tupRg : eTupRg L ρ = (L ρ).bind fun xs => (rngD xs).bind fun ds => if ds.length < 16777216 then .ok (.tuple ds) else .stuck := id rfl
end
end Pd
namespace Pd
open PySem PySem.Spec PyProof.Rows L2
/-! ### index of lists and tuples -/
section
variable {X : Cx}
def rIdxD (K : PySem.W.Frag) (tup : Bool) : V → List V → Hp → VK → Prop := fun x xs H Q => ∃ (a : Addr) (ys : List V) (y : V) (d : D) (ds : List D) (j : Nat) (z : D), x = .ref a ∧ xs = [y] ∧ (if tup = true then SqT K H a ys else SqL K H a ys) ∧ DpAll K H ys ds ∧ Dp K H y d ∧
  SeqAt.shaped (.list ds) = true ∧ SeqAt.shaped d = true ∧ ds[j]? = some z ∧ PyData.eqv z d = true ∧ (∀ (m : Nat) (z' : D), m < j → ds[m]? = some z' → PyData.eqv z' d = false) ∧ Q (.int (j : Nat)) H
theorem mt_idxT (hu : X.A.units + 65 < cLine) : MtR X "tuple.index" (rIdxD X.K true) := by
  intro pins s σ H x xs v us Q I rx rxs h
  obtain ⟨a, ys, y, d, ds, j, z, rfl, rfl, hs, ha, hy, sl, sd, hz, hzj, hno, q⟩ := h
  cases rx
  obtain ⟨uy, rfl, ry⟩ := rxs.one
  obtain ⟨bs, r1⟩ := Dp.reads I d y uy hy ry
  have hxs : PyData.canLayAll0 ds = true := SeqAt.canLay_of_shaped sl
  have hroom : X.A.units + 1 + min (PyData.depthAll ds) d.depth < cLine := room_in' sd hu
  obtain ⟨its, rv, ⟨⟨cls, dd, data, sls⟩, ho, hc, n, hdt⟩, hlen⟩ := I.tuple (show SqT X.K H a ys from hs)
  simp only at hc hdt
  subst hc hdt
  obtain ⟨as, h4⟩ := Dp.readsAll I ds _ its ha rv
  have hn : its.length = ds.length := SeqAt.ReadsAll.length ds its as h4
  have hmap : its.map (SeqAt.readOf s.heap) = ds := SeqAt.readsAll_map ds its as hxs h4
  obtain ⟨hjd, _⟩ := List.getElem?_eq_some_iff.mp hz
  have hjl : j < its.length := by omega
  have hj : j < its.toArray.size := by simpa using hjl
  have at_ : ∀ (m : Nat) (hm : m < its.toArray.size) (z' : D), ds[m]? = some z' → SeqAt.readOf s.heap its.toArray[m] = z' := by
    intro m hm z' hz'
    have hml : m < its.length := by simpa using hm
    rw [← hmap, List.getElem?_map, List.getElem?_eq_getElem hml] at hz'
    have e1 : SeqAt.readOf s.heap its[m] = z' := Option.some.inj (show some (SeqAt.readOf s.heap its[m]) = some z' from hz')
    simpa using e1
  refine call_meets PySem.F.slot_tuple_index ⟨_, ho, rfl⟩ PySem.F.entry_tuple_index (PySem.F.args_tuple_index_2 _ _)
    (TI.tuple_indexAt a its.toArray n dd sls uy (fun u => PyData.eqv (SeqAt.readOf s.heap u) d) j hj ?_ ?_) ⟨ho, SeqAt.items_eqAt (vs := its.toArray) (show ReadsAll s.heap its.toArray.toList ds as from h4) r1 hxs (SeqAt.canLay_of_shaped sd) hroom, ?_⟩
  · show PyData.eqv (SeqAt.readOf s.heap its.toArray[j]) d = true
    rw [at_ j hj z hz]
    exact hzj
  · intro m hm hmj
    have hmd : m < ds.length := by omega
    have hz' : ds[m]? = some ds[m] := List.getElem?_eq_getElem hmd
    show PyData.eqv (SeqAt.readOf s.heap its.toArray[m]) d = false
    rw [at_ m hm _ hz']
    exact hno m _ hmj hz'
  · exact ⟨.int (j : Nat), H, I.tok _, ⟨_, rfl⟩, q⟩
theorem mt_idxL (hu : X.A.units + 65 < cLine) : MtR X "list.index" (rIdxD X.K false) := by
  intro pins s σ H x xs v us Q I rx rxs h
  obtain ⟨a, ys, y, d, ds, j, z, rfl, rfl, hs, ha, hy, sl, sd, hz, hzj, hno, q⟩ := h
  cases rx
  obtain ⟨uy, rfl, ry⟩ := rxs.one
  obtain ⟨bs, r1⟩ := Dp.reads I d y uy hy ry
  have hxs : PyData.canLayAll0 ds = true := SeqAt.canLay_of_shaped sl
  have hroom : X.A.units + 1 + min (PyData.depthAll ds) d.depth < cLine := room_in' sd hu
  obtain ⟨its, rv, ⟨⟨cls, dd, data, sls⟩, n, ho, hc, hdn, hdt⟩, hlen⟩ := I.list (show SqL X.K H a ys from by simpa using hs)
  simp only at hc hdt
  subst hc hdt
  obtain ⟨as, h4⟩ := Dp.readsAll I ds _ its ha rv
  have hn : its.length = ds.length := SeqAt.ReadsAll.length ds its as h4
  have hmap : its.map (SeqAt.readOf s.heap) = ds := SeqAt.readsAll_map ds its as hxs h4
  have hvl := rv.length
  have hsl := sizeLine_eq
  obtain ⟨hjd, _⟩ := List.getElem?_eq_some_iff.mp hz
  have hjl : j < its.length := by omega
  have hj : j < its.toArray.size := by simpa using hjl
  have at_ : ∀ (m : Nat) (hm : m < its.toArray.size) (z' : D), ds[m]? = some z' → SeqAt.readOf s.heap its.toArray[m] = z' := by
    intro m hm z' hz'
    have hml : m < its.length := by simpa using hm
    rw [← hmap, List.getElem?_map, List.getElem?_eq_getElem hml] at hz'
    have e1 : SeqAt.readOf s.heap its[m] = z' := Option.some.inj (show some (SeqAt.readOf s.heap its[m]) = some z' from hz')
    simpa using e1
  refine call_meets PySem.F.slot_list_index ⟨_, ho, rfl⟩ PySem.F.entry_list_index (PySem.F.args_list_index_2 _ _)
    (SeqAt.list_indexAt a its.toArray n dd sls uy (fun u => PyData.eqv (SeqAt.readOf s.heap u) d) j hj (by omega) ?_ ?_) ⟨ho, SeqAt.items_eqAt (vs := its.toArray) (show ReadsAll s.heap its.toArray.toList ds as from h4) r1 hxs (SeqAt.canLay_of_shaped sd) hroom, ?_⟩
  · show PyData.eqv (SeqAt.readOf s.heap its.toArray[j]) d = true
    rw [at_ j hj z hz]
    exact hzj
  · intro m hm hmj
    have hmd : m < ds.length := by omega
    have hz' : ds[m]? = some ds[m] := List.getElem?_eq_getElem hmd
    show PyData.eqv (SeqAt.readOf s.heap its.toArray[m]) d = false
    rw [at_ m hm _ hz']
    exact hno m _ hmj hz'
  · exact ⟨.int (j : Nat), H, I.tok _, ⟨_, rfl⟩, q⟩
end
def idxD (ds : List D) (d : D) : R D := if shp (.list ds) = true ∧ shp d = true then (match ds.findIdx? fun z => PyData.eqv z d with
  | some j => .ok (.int (j : Nat))
  | none => .stuck) else .stuck
def eIdx (F : EF) (L : Env → R (List D)) : EF := fun ρ => (F ρ).bind fun x => (itD x).bind fun ds => (L ρ).bind fun ys => match ys with
  | [d] => idxD ds d
  | _ => .stuck
section
variable {X : Cx} {C : Cc} {W : WX} {O : Own} {e o : Expr} {k ko : Nat} {F : EF} {apos p2 : Pos} {L : Env → R (List D)}
theorem ev_index (hu : X.A.units + 65 < cLine) (ho : EV X C W O o ko F) (ha : AVn X C W O [e] k L)
    (hbase : attributeBase o "index" X.env (eval o X.env) = eval o X.env := by rfl)
    (hfew : ((backTo p2 (starEach [e] X.env)).all (fun x => !x.1) && (backToKw p2 (keywordEach [] X.env)).all (fun x => x.1.isSome)
      && decide ([e].length + ([] : List Keyword).length + (if ([] : List Keyword).isEmpty then 0 else 1) < 30)) = true := by rfl)
    (hline : (apos.endLine == p2.line) = true := by rfl) (hs : starEach [e] X.env = (false, eval e X.env) :: starEach [] X.env := by rfl) (hplain : (backTo p2 (starEach [] X.env)).any (·.1) = false := by rfl) :
    EV X C W O (.Call (.Attribute o "index" apos) [e] [] p2) 0 (eIdx F L) := by
  refine (pe_sm PySem.F.slot_tuple_index PySem.F.slot_list_index PySem.F.type_tuple_index PySem.F.type_list_index (mt_idxT hu) (mt_idxL hu) ho ha.av hbase hfew hline hs hplain).imp fun σ H Q ⟨ρ, Fs, er, q⟩ => ?_
  refine tD.step er (Sat.bind q) fun x v H1 F1 p er1 x1 r1 kd1 => ?_
  obtain ⟨ds, hds, p⟩ := itD_sat p
  obtain ⟨a, xs, G, rfl, r', sb, w⟩ := seq_cases r1 hds
  have key : ∀ (b : Bool), (∀ H2, Ex C.T H1 H2 → if b = true then SqT X.K H2 a xs else SqL X.K H2 a xs) → tL X.K C W O k L σ H1 fun vs H2 => rIdxD X.K b (.ref a) vs H2 Q := fun b hb => by
    refine tL.step er1 (Sat.later (Sat.bind p) x1) fun ys vs H2 F2 p2 er2 x2 r2 kd2 => ?_
    match ys, vs, r2, p2 with
    | [d], [y], .cons ry .nil, p2 =>
      obtain ⟨⟨h1, h2⟩, p2⟩ := satI (show Sat (idxD ds d) _ _ from p2)
      cases hf : ds.findIdx? fun z => PyData.eqv z d with
      | none =>
        rw [hf] at p2
        exact p2.elim
      | some j =>
        rw [hf] at p2
        obtain ⟨hj, hz, hno⟩ := List.findIdx?_eq_some_iff_getElem.mp hf
        refine ⟨a, xs, y, d, ds, j, ds[j], rfl, rfl, hb H2 x2, RpL.dp (r'.ex x2) (SeqAt.canLay_of_shaped h1), ry.dp (shp_lay h2), h1, h2, List.getElem?_eq_getElem hj, hz, fun m z' hm hz' => ?_, p2 _ H2 [] (x1.trans x2) (.int _) .nil⟩
        have hml : m < ds.length := by omega
        rw [List.getElem?_eq_getElem hml] at hz'
        cases hz'
        have := hno m hm
        simpa using this
    | [], _, _, p2 => exact p2.elim
    | _ :: _ :: _, _, _, p2 => exact p2.elim
  refine ⟨a, rfl, ?_⟩
  rcases w with ⟨s, ht⟩ | ⟨s, _, _⟩
  · refine .inr ⟨⟨xs, s⟩, key false fun H2 x2 => ?_⟩
    show SqL X.K H2 a xs
    rcases s with (s | ⟨o, s⟩) | s
    · exact .inl (.inl (x2.kept _ _ s (fun _ z => by cases z)))
    · exact .inl (.inr ⟨o, x2.kept _ _ s (fun _ z => by cases z)⟩)
    · exact .inr s
  · exact .inl ⟨⟨xs, s⟩, key true fun H2 x2 => (x2.nt s).sq⟩
end
section
variable {F : EF} {L : Env → R (List D)} {ρ : Env}
@[simp] theorem q_idx : eIdx F L ρ = (F ρ).bind fun x => (itD x).bind fun ds => (L ρ).bind fun ys => match ys with
  | [d] => idxD ds d
  | _ => .stuck := id rfl
end
theorem idx_int {L : List Int} {x : Int} (h : x ∈ L) : idxD (L.map .int) (.int x) = .ok (.int (L.idxOf x : Nat)) := by
  unfold idxD
  rw [if_pos ⟨shp_lI L, shp_int x⟩]
  have : (L.map PyData.int).findIdx? (fun z => PyData.eqv z (.int x)) = some (L.idxOf x) := by
    rw [List.findIdx?_map]
    have hj : L.idxOf x < L.length := List.idxOf_lt_length_iff.mpr h
    refine List.findIdx?_eq_some_iff_getElem.mpr ⟨hj, ?_, fun m hm => ?_⟩
    · simp [PyData.eqv]
    · have := List.not_of_lt_findIdx (p := (· == x)) (xs := L) hm
      simp [PyData.eqv] at this ⊢
      exact this
  rw [this]
end Pd
namespace Pd
open PySem PySem.Spec PyProof.Rows L2
/-! ### dict comprehensions, keys ints or texts, values of no heap -/
def dcPut (kvs : List (D × D)) : Option (D × D) → R (List (D × D))
  | none => .ok kvs
  | some (k, v) => if (atomK k = true ∧ imm v = true) ∧ kvs.length < 16777216 then .ok (dputR kvs k v) else .stuck
def dcGo (g : Env → D → R Env) (tt : Env → R Bool) (tk tv : EF) (ρ : Env) : List D → List (D × D) → R (List (D × D))
  | [], kvs => .ok kvs
  | d :: ds, kvs => (still ((g ρ d).bind fun ρ1 => (tt ρ1).bind fun b => if b = true then ((tk ρ1).bind fun k => (tv ρ1).bind fun v => .ok (some (k, v))) else .ok none)).bind fun o => (dcPut kvs o).bind fun kvs => dcGo g tt tk tv ρ ds kvs
def eDc (I : Env → R (List D)) (g : Env → D → R Env) (tt : Env → R Bool) (tk tv : EF) (vs : List Nat) : EF := fun ρ => (I ρ).bind fun ds => (dcGo g tt tk tv (wipeD ρ vs) ds []).bind fun kvs => .ok (.dict kvs)
theorem dcPut_nox (kvs : List (D × D)) (o : Option (D × D)) : NoX (dcPut kvs o) := by
  unfold dcPut
  split
  · exact noxO
  · exact noxI noxO noxS
theorem dcGo_nox {g : Env → D → R Env} {tt : Env → R Bool} {tk tv : EF} {ρ : Env} : ∀ ds kvs, NoX (dcGo g tt tk tv ρ ds kvs)
  | [], _ => noxO
  | d :: ds, kvs => by
    unfold dcGo
    refine bind_nox (fun c e => ?_) fun o => bind_nox (dcPut_nox _ _) fun ys => dcGo_nox ds ys
    unfold still at e
    split at e <;> cases e
section
variable {X : Cx} {C : Cc} {W : WX} {O : Own} {kx vx tg iter : Expr} {ifs : List Expr} {scope : Scope} {own : List (Str × Nat)} {pos : Pos} {I : Env → R (List D)} {g : Env → D → R Env} {tt : Env → R Bool} {tk tv : EF} {is : List Nat} {so : Option Nat}
theorem dK_upd {K : PySem.W.Frag} {C : Cc} {O : Own} {H : Hp} {σ : L2.St} {ρ : Env} {Fs : Nat → List Addr} {p : Addr} {L2' : List (Key × V)} (er : ER K C O H σ ρ Fs) (h0 : C.H0 p = none) (hn : ∀ j, p ∉ Fs j) (hl : ∀ l ∈ C.lk, p ∉ l.F) (hH : H p = none ∨ ∃ L, H p = some (.dK L)) : ER K C O (L2.upd H p (.dK L2')) σ ρ Fs := by
  have nn : (∀ xs, H p ≠ some (.tup xs)) ∧ (∀ o u, H p ≠ some (.frz o u)) ∧ ∀ ps, H p ≠ some (.tbl ps) := by
    rcases hH with z | ⟨φ, z⟩ <;> rw [z] <;> refine ⟨fun _ e => ?_, fun _ _ e => ?_, fun _ e => ?_⟩ <;> cases e
  obtain ⟨n1, n2, n3⟩ := nn
  have kp : ∀ S : List Addr, p ∉ S → Kp H (L2.upd H p (.dK L2')) S := fun S h => ⟨fun b ys e => by rw [upd_ne (fun (z : b = p) => n1 ys (by rw [← z] <;> exact e))] <;> exact e, fun b o u e => by rw [upd_ne (fun (z : b = p) => n2 o u (by rw [← z] <;> exact e))] <;> exact e, fun b hb => upd_ne fun z => h (z ▸ hb)⟩
  have tb : (∀ P ∈ C.T, GxR.TabG H P) → ∀ P ∈ C.T, GxR.TabG (L2.upd H p (.dK L2')) P := fun t P hP => by
    obtain ⟨ps, h1, h2⟩ := t P hP
    exact ⟨ps, by rw [upd_ne (fun (z : P = p) => n3 ps (by rw [← z] <;> exact h1))] <;> exact h1, h2⟩
  refine ⟨er.len, fun i d h => ?_, er.emp, er.own, tb er.tab, ⟨fun b o e n => ?_, fun b e => ?_, fun t => tb (er.ext.tab t)⟩, fun l hm => ?_⟩
  · obtain ⟨v, h1, r⟩ := er.rep i d h
    exact ⟨v, h1, r.kp (kp _ (hn i))⟩
  · rw [upd_ne fun z => by rw [z, h0] at e; cases e]
    exact er.ext.kept b o e n
  · rw [upd_ne fun z => by rw [z, h0] at e; exact e rfl]
    exact er.ext.dom b e
  · obtain ⟨st, k, dom, sep⟩ := er.lks l hm
    exact ⟨st, k.trans (kp _ (hl l hm)), dom, sep⟩
theorem dK_ex {T : List Addr} {H1 H : Hp} {p : Addr} {L2' : List (Key × V)} (x : Ex T H1 H) (h1 : H1 p = none) (hH : H p = none ∨ ∃ L, H p = some (.dK L)) : Ex T H1 (L2.upd H p (.dK L2')) := by
  have n3 : ∀ ps, H p ≠ some (.tbl ps) := by
    rcases hH with z | ⟨φ, z⟩ <;> rw [z] <;> intro _ e <;> cases e
  refine ⟨fun b o e n => ?_, fun b e => ?_, fun t P hP => ?_⟩
  · rw [upd_ne fun z => by rw [z, h1] at e; cases e]
    exact x.kept b o e n
  · rw [upd_ne fun z => by rw [z, h1] at e; exact e rfl]
    exact x.dom b e
  · obtain ⟨ps, e1, e2⟩ := x.tab t P hP
    exact ⟨ps, by rw [upd_ne (fun (z : P = p) => n3 ps (by rw [← z] <;> exact e1))] <;> exact e1, e2⟩
theorem putR_keys (k : Key) (v : V) : ∀ {L : List (Key × V)}, (L.map (·.1)).Nodup → ((putR L k v).map (·.1)).Nodup ∧ ∀ x, x ∈ (putR L k v).map (·.1) → x ∈ L.map (·.1) ∨ x = k
  | [], _ => ⟨by simp [putR], fun x h => .inr (by simpa [putR] using h)⟩
  | p :: l, h => by
    rw [List.map_cons, List.nodup_cons] at h
    unfold putR
    by_cases e : p.1 = k
    · rw [if_pos e, List.map_cons]
      exact ⟨List.nodup_cons.mpr h, fun x hx => .inl hx⟩
    · rw [if_neg e, List.map_cons, List.map_cons]
      obtain ⟨i1, i2⟩ := putR_keys k v h.2
      refine ⟨List.nodup_cons.mpr ⟨fun z => ?_, i1⟩, fun x hx => ?_⟩
      · rcases i2 _ z with w | w
        · exact h.1 w
        · exact e w
      · rcases List.mem_cons.mp hx with z | z
        · exact .inl (z ▸ List.mem_cons_self)
        · exact (i2 x z).imp (List.mem_cons_of_mem _) id
theorem dc_read (ng : ∀ ρ d, NoX (g ρ d)) (his : ∀ i ∈ is, i ∈ own.map (·.2)) (σ : L2.St) (H : Hp) (Q : VK) (h : tD X.K C W O 0 (eDc I g tt tk tv (own.map (·.2))) σ H Q) :
    tDc (tI X.K C W O so I) (tG X.K O is g) (fun σ H Q => ∃ l, Pd.tB X.K (C.lock l so) W0 O tt σ H Q) (fun σ H Q => ∃ l, tD X.K (C.lock l so) W0 O 0 tk σ H Q) (fun σ H Q => ∃ l, tD X.K (C.lock l so) W0 O 0 tv σ H Q) (own.map (·.2)) σ H Q := by
  obtain ⟨ρ, Fs, er, q⟩ := h
  refine ⟨ρ, Fs, er, (Sat.bind q).mono (fun ds q J H1 l x1 it nw => ?_) fun _ z => z⟩
  intro p hp
  have er1 := (er.ex x1).lock nw
  have h0p : C.H0 p = none := er1.ext.free hp
  have hFp : ∀ j, p ∉ Fs j := fun j z => er1.nn j p z hp
  have hlp : ∀ m ∈ (C.lock l so).lk, p ∉ m.F := fun m hm z => er1.lkdom hm p z hp
  have q := (Sat.bind q).nox (dcGo_nox _ _)
  refine ⟨fun i m H2 => m + i = ds.length ∧ ∃ L kvs, H2 p = some (.dK L) ∧ kvs.map (·.1) = L.map (fun p => keyD p.1) ∧ RpL X.K H2 (L.map (·.2)) (kvs.map (·.2)) [] ∧ (L.map (·.1)).Nodup ∧ ER X.K (C.lock l so) O H2 σ ρ Fs ∧ Ex C.T H1 H2 ∧
      Sat (dcGo g tt tk tv (wipeD ρ (own.map (·.2))) (ds.drop i) kvs) (fun ys => ∀ v H' F', Ex C.T H H' → Rp X.K H' v (.dict ys) F' → KdOk 0 O H Fs F' → Q v H') (fun _ => False),
    ⟨ds.length, rfl, [], [], upd_same, rfl, .nil, List.nodup_nil, dK_upd er1 h0p hFp hlp (.inl hp), Ex.new hp, q⟩, ?_⟩
  rintro i m H2 ⟨hm, L, kvs, hA, hk, ra, nd, er2, x2, q2⟩
  have kp : Kp l.HG H2 l.F := (er2.lks l List.mem_cons_self).kp
  have hkl : kvs.length = L.length := by
    have := congrArg List.length hk
    rwa [List.length_map, List.length_map] at this
  by_cases hlt : i < ds.length
  · have e1 : ds.drop i = ds[i] :: ds.drop (i + 1) := List.drop_eq_getElem_cons hlt
    rw [e1] at q2
    have q2 := still_sat (Sat.bind q2)
    refine .inr ⟨it.go i H2 kp hlt, fun H3 => ∃ L kvs, H3 p = some (.dK L) ∧ kvs.map (·.1) = L.map (fun p => keyD p.1) ∧ RpL X.K H3 (L.map (·.2)) (kvs.map (·.2)) [] ∧ (L.map (·.1)).Nodup ∧ ER X.K (C.lock l so) O H3 σ ρ Fs ∧ Ex C.T H1 H3 ∧
      Sat (dcGo g tt tk tv (wipeD ρ (own.map (·.2))) (ds.drop (i + 1)) kvs) (fun ys => ∀ v H' F', Ex C.T H H' → Rp X.K H' v (.dict ys) F' → KdOk 0 O H Fs F' → Q v H') (fun _ => False), fun H' h => ⟨m - 1, by omega, by omega, h⟩, fun v H3 y => ?_⟩
    obtain ⟨x3, G, r3, g3⟩ := it.yld i H2 v H3 ds[i] kp (List.getElem?_eq_getElem hlt) y
    have er3 := er2.ex x3
    obtain ⟨Fw, erw, kw⟩ := er3.wipe (own.map (·.2))
    have owns : ∀ j ∈ O, ∀ b ∈ Fw j, b ∈ Fs j := fun j hj b hb => by
      by_cases hv : j ∈ own.map (·.2)
      · rw [erw.emp j fun d hd => by
          obtain ⟨u, h1, _⟩ := erw.rep j d hd
          exact (wipe_some h1).2 hv] at hb
        cases hb
      · rw [kw j hv] at hb; exact hb
    refine ⟨C.lock l so, _, Fw, ds[i], G, erw, r3, fun j hj b hb z => ?_, (Sat.bind q2).mono (fun ρ4 p4 σ4 Fs4 er4 k4 s4 => ?_) fun _ z => z⟩
    · have hb := owns j hj b hb
      rcases g3 b z with ⟨h0, h1⟩ | h1
      · exact (er2.lks l List.mem_cons_self).sep j hj (by rw [h0]; intro q; cases q) b hb h1
      · exact er2.nn j b hb h1
    · refine ⟨wipe_same his s4, l, ρ4, Fs4, er4, (Sat.bind p4).mono (fun b p5 H5 x5 => ?_) fun _ z => z.elim⟩
      have x25 := x3.trans x5
      have hA5 : H5 p = some (.dK L) := x25.kept _ _ hA (fun _ z => by cases z)
      have er5 := er2.ex x25
      cases b with
      | false =>
        exact ite_ff ⟨L, kvs, hA5, hk, ra.ex x25, nd, er5, x2.trans x25, (Sat.bind p5).mono (fun ys w => w) fun _ z => z⟩
      | true =>
        rw [if_pos rfl] at p5
        refine ite_tt ⟨l, ρ4, Fs4, er4.ex x5, (Sat.bind p5).mono (fun y p6 v6 H6 F6 x6 r6 kd6 => ?_) fun _ z => z.elim⟩
        refine ⟨l, ρ4, Fs4, (er4.ex x5).ex x6, (Sat.bind p6).mono (fun z p7 v7 H7 F7 x7 r7 kd7 => ?_) fun _ z => z.elim⟩
        have x27 := (x25.trans x6).trans x7
        have hA7 : H7 p = some (.dK L) := x27.kept _ _ hA (fun _ z => by cases z)
        have er7 := er2.ex x27
        have p7 : Sat (dcPut kvs (some (y, z))) _ _ := Sat.bind p7
        obtain ⟨⟨⟨hak, hiv⟩, hlen⟩, p7⟩ := satI p7
        have eF : F7 = [] := r7.imm hiv
        subst eF
        have hy : v6 = kV (keyOf y) := by
          cases y <;> first | (cases hak; done) | (cases r6; rfl)
        have hyk : keyD (keyOf y) = y := keyD_of hak
        obtain ⟨i1, F2, i2, i3, _⟩ := putA (keyOf y) r7 hk (ra.ex x27)
        have eF2 : F2 = [] := by
          cases F2 with
          | nil => rfl
          | cons b t =>
            rcases i3 b List.mem_cons_self with w | w <;> cases w
        subst eF2
        rw [hyk] at i1 i2
        have hpe : putK L (keyOf y) v7 = putR L (keyOf y) v7 := putR_eq nd
        refine ⟨L, keyOf y, hy, hA7, by have := sizeLine_eq; omega, ?_⟩
        rw [hpe]
        refine ⟨putR L (keyOf y) v7, dputR kvs y z, upd_same, i1, ?_, (putR_keys _ _ nd).1, dK_upd er7 h0p hFp hlp (.inr ⟨_, hA7⟩), dK_ex (x2.trans x27) hp (.inr ⟨_, hA7⟩), p7⟩
        exact i2.kp (put_kp hA7 (.inl ⟨L, rfl⟩) (fun w => nomatch w))
  · have e1 : ds.drop i = [] := List.drop_eq_nil_of_le (by omega)
    rw [e1] at q2
    refine .inl ⟨it.stop i H2 kp (by omega), ?_⟩
    have q2 : ∀ v H' F', Ex C.T H H' → Rp X.K H' v (.dict kvs) F' → KdOk 0 O H Fs F' → Q v H' := q2
    refine q2 (.ref p) H2 [p] (x1.trans x2) ?_ ⟨fun _ => ⟨List.nodup_cons.mpr ⟨fun z => (nomatch z), List.nodup_nil⟩, fun b hb => ?_⟩, fun z => (by cases z)⟩
    · have hl2 : (kvs.map (·.2)).length = (L.map (·.2)).length := by rw [List.length_map, List.length_map, hkl]
      exact rp_dict (Rp.dK (ks := kvs.map (·.1)) hA hk ra)
    · rcases List.mem_cons.mp hb with z | z
      · rw [z]
        exact x1.free hp
      · cases z
theorem ev_dc (hc : X.calm = true) (hN : X.N.Nodup) (hi : IV X C W O tg iter so I) (ok : BlkOk X.N X.env.scope scope own)
    (hg : ∀ (s : Shared) (H : Hp) (c : Addr) (cl : List (Str × Addr)) (fp : List Addr), GV (X.blk s H scope (compEnvC scope cl c X.env) fp) O tg is g)
    (ht : ∀ (s : Shared) (H : Hp) (c : Addr) (cl : List (Str × Addr)) (fp : List Addr) (l : Lk), TTs (X.blk s H scope (compEnvC scope cl c X.env) fp) (C.lock l so) W0 O ifs tt)
    (hk : ∀ (s : Shared) (H : Hp) (c : Addr) (cl : List (Str × Addr)) (fp : List Addr) (l : Lk), EV (X.blk s H scope (compEnvC scope cl c X.env) fp) (C.lock l so) W0 O kx 0 tk)
    (he : ∀ (s : Shared) (H : Hp) (c : Addr) (cl : List (Str × Addr)) (fp : List Addr) (l : Lk), EV (X.blk s H scope (compEnvC scope cl c X.env) fp) (C.lock l so) W0 O vx 0 tv)
    (his : ∀ i ∈ is, i ∈ own.map (·.2) := by decide) (hs : ∀ x, foldedSetIterable iter X.env x = pure x := by intro _; rfl) {sl : List Nat} (hsl : own.map (·.2) = sl := by rfl) : EV X C W O (.DictComp kx vx [⟨tg, iter, ifs, 0⟩] scope pos) 0 (eDc I g tt tk tv sl) := by
  subst hsl
  exact (pe_dc hc hN hi ok (fun s H c cl fp => (hg s H c cl fp).pg) (fun s H c cl fp => ⟨fun pins s' σ H' Q I' ⟨l, h⟩ => (ht s H c cl fp l).run pins s' σ H' Q I' h⟩) (fun s H c cl fp => ⟨fun pins s' σ H' Q I' ⟨l, h⟩ => (hk s H c cl fp l).run pins s' σ H' Q I' h⟩) (fun s H c cl fp => ⟨fun pins s' σ H' Q I' ⟨l, h⟩ => (he s H c cl fp l).run pins s' σ H' Q I' h⟩) hs).imp
    (dc_read (hg X.s_0 X.H_0 0 [] []).nox his)
theorem ps_setDc {i : Nat} {y : Str} {py : Pos} {spos : Pos} {wi : TI} {g : TG} {tt : TT} {tk tv : TE} (hc : X.calm = true) (hN : X.N.Nodup) (hy : X.N[i]? = some y) (hyl : X.env.scope.names.lookup y = some .local)
    (hsw : swapsWith (.DictComp kx vx [⟨tg, iter, ifs, 0⟩] scope pos) (some (.Name y py)) spos.line X.env = pure true) (hi : PI X tg iter wi) (ok : BlkOk X.N X.env.scope scope own)
    (hg : ∀ (s : Shared) (H : Hp) (C : Addr) (cl : List (Str × Addr)) (fp : List Addr), PG (X.blk s H scope (compEnvC scope cl C X.env) fp) tg g) (ht : ∀ (s : Shared) (H : Hp) (C : Addr) (cl : List (Str × Addr)) (fp : List Addr), PTs (X.blk s H scope (compEnvC scope cl C X.env) fp) ifs tt)
    (hk : ∀ (s : Shared) (H : Hp) (C : Addr) (cl : List (Str × Addr)) (fp : List Addr), PE (X.blk s H scope (compEnvC scope cl C X.env) fp) kx tk)
    (he : ∀ (s : Shared) (H : Hp) (C : Addr) (cl : List (Str × Addr)) (fp : List Addr), PE (X.blk s H scope (compEnvC scope cl C X.env) fp) vx tv) (hs : ∀ x, foldedSetIterable iter X.env x = pure x := by intro _; rfl) :
    PS X (.Assign [.Name y py] (.DictComp kx vx [⟨tg, iter, ifs, 0⟩] scope pos) spos) (tAsg (tDc wi g tt tk tv (own.map (·.2))) (gName i)) := by
  refine ⟨fun pins s σ H D I h => ?_⟩
  rw [exec_Assign_Name_used _ _ _ _ hsw]
  refine wpAny_bind (wpAny_standAt (wpAny_bind ?_))
  show wpAny _ X.A (do let _ ← comprehension (.DictComp kx vx [⟨tg, iter, ifs, 0⟩] scope pos) scope X.env (firstIterPos [⟨tg, iter, ifs, 0⟩] pos) newDict false (eval iter X.env) (some (assign (.Name y py) X.env))) _ _ s
  have h : tDc wi g tt tk tv (own.map (·.2)) σ H (fun x H1 => gName i x σ H1 D.nx) := h
  refine wpAny_bind (thn (dc_core (Qf := fun _ s' => SP X pins D .next s') hc hN I hi ok hg ht hk he hs h fun L C s' m H' I' q hn f => ?_) fun _ s' hq => wpAny_pure (wpAny_pure hq))
  show wpAny _ _ (assign (.Name y py) X.env (.ref L)) _ _ _
  refine wpAny_assign_Name (store_ok2 (v := V.ref L) I' hN hy (.inl hyl) rfl (fun s2 I2 ⟨a, sb, ha⟩ => ?_) (.inr hyl))
  obtain ⟨f0, f1, f2, f3, f4, f5⟩ := f
  have haC : C ≠ a := by
    rcases ha with z | z
    · rw [z]; exact f1
    · exact fun e => f4 y a z e.symm
  refine ⟨m, hn.sameBut sb haC, fun h3 sb3 => ?_⟩
  exact ⟨_, H', I2.turned (t' := s2.toks) (fun b o hb e => (sb3.2 b hb).trans e) f0 f1 f3 f4 f5, q⟩
theorem sv_setDc {i : Nat} {y : Str} {py spos : Pos} {Ob O' : Own} (hc : X.calm = true) (hN : X.N.Nodup) (hy : X.N[i]? = some y) (hyl : X.env.scope.names.lookup y = some .local) (hi : IV X C W O tg iter so I) (ok : BlkOk X.N X.env.scope scope own)
    (hg : ∀ (s : Shared) (H : Hp) (c : Addr) (cl : List (Str × Addr)) (fp : List Addr), GV (X.blk s H scope (compEnvC scope cl c X.env) fp) O tg is g)
    (ht : ∀ (s : Shared) (H : Hp) (c : Addr) (cl : List (Str × Addr)) (fp : List Addr) (l : Lk), TTs (X.blk s H scope (compEnvC scope cl c X.env) fp) (C.lock l so) W0 O ifs tt)
    (hk : ∀ (s : Shared) (H : Hp) (c : Addr) (cl : List (Str × Addr)) (fp : List Addr) (l : Lk), EV (X.blk s H scope (compEnvC scope cl c X.env) fp) (C.lock l so) W0 O kx 0 tk)
    (he : ∀ (s : Shared) (H : Hp) (c : Addr) (cl : List (Str × Addr)) (fp : List Addr) (l : Lk), EV (X.blk s H scope (compEnvC scope cl c X.env) fp) (C.lock l so) W0 O vx 0 tv)
    (hO : ∀ j ∈ O', j = i ∨ (j ≠ i ∧ j ∈ O) := by decide) (his : ∀ i ∈ is, i ∈ own.map (·.2) := by decide) (hs : ∀ x, foldedSetIterable iter X.env x = pure x := by intro _; rfl)
    (hsw : swapsWith (.DictComp kx vx [⟨tg, iter, ifs, 0⟩] scope pos) (some (.Name y py)) spos.line X.env = pure true := by rfl) {sl : List Nat} (hsl : own.map (·.2) = sl := by rfl) :
    SV X C W Ob O O' (.Assign [.Name y py] (.DictComp kx vx [⟨tg, iter, ifs, 0⟩] scope pos) spos) (setD i (eDc I g tt tk tv sl)) := by
  subst hsl
  exact (ps_setDc (tt := fun σ H Q => ∃ l, Pd.tB X.K (C.lock l so) W0 O tt σ H Q) (tk := fun σ H Q => ∃ l, tD X.K (C.lock l so) W0 O 0 tk σ H Q) (tv := fun σ H Q => ∃ l, tD X.K (C.lock l so) W0 O 0 tv σ H Q) hc hN hy hyl hsw hi ok (fun s H c cl fp => (hg s H c cl fp).pg) (fun s H c cl fp => ⟨fun pins s' σ H' Q I' ⟨l, h⟩ => (ht s H c cl fp l).run pins s' σ H' Q I' h⟩) (fun s H c cl fp => ⟨fun pins s' σ H' Q I' ⟨l, h⟩ => (hk s H c cl fp l).run pins s' σ H' Q I' h⟩) (fun s H c cl fp => ⟨fun pins s' σ H' Q I' ⟨l, h⟩ => (he s H c cl fp l).run pins s' σ H' Q I' h⟩) hs).imp fun De σ H ⟨ρ, Fs, er, q⟩ => by
    refine dc_read (hg X.s_0 X.H_0 0 [] []).nox his σ H _ ?_
    refine tD.step er (fin_of er q) fun d v H1 F1 p er1 x1 r1 kd1 => ?_
    obtain ⟨Fs', er'⟩ := er.put (O' := O') (i := i) x1 r1 kd1 (Nat.zero_le 1) fun j hj => (hO j hj).imp (fun z => ⟨z, rfl⟩) id
    exact p _ _ Fs' er'
end
section
variable {I : Env → R (List D)} {g : Env → D → R Env} {tt : Env → R Bool} {tk tv : EF} {ρ : Env}
@[simp] theorem q_dc {vs : List Nat} : eDc I g tt tk tv vs ρ = (I ρ).bind fun ds => (dcGo g tt tk tv (wipeD ρ vs) ds []).bind fun kvs => .ok (.dict kvs) := id rfl
/-- a comprehension of a table, all turns alike -/
theorem dcGo_map {α : Type} (f : α → D) (p : α → Bool) (k v : α → D) : ∀ (L : List α) (kvs : List (D × D)),
    (∀ a ∈ L, ∃ ρ1, g ρ (f a) = .ok ρ1 ∧ tt ρ1 = .ok (p a) ∧ (p a = true → tk ρ1 = .ok (k a) ∧ tv ρ1 = .ok (v a) ∧ atomK (k a) = true ∧ imm (v a) = true)) → kvs.length + L.length ≤ 16777216 →
    dcGo g tt tk tv ρ (L.map f) kvs = .ok ((L.filter p).foldl (fun q a => dputR q (k a) (v a)) kvs)
  | [], kvs, _, _ => by unfold dcGo; rfl
  | a :: L, kvs, h, hl => by
    obtain ⟨ρ1, e1, e2, e3⟩ := h a List.mem_cons_self
    rw [List.length_cons] at hl
    rw [List.map_cons]
    unfold dcGo
    rw [e1, R.bind_ok, e2, R.bind_ok]
    cases hp : p a with
    | true =>
      obtain ⟨e4, e5, e6, e7⟩ := e3 hp
      rw [if_pos rfl, e4, R.bind_ok, e5, R.bind_ok, List.filter_cons_of_pos hp]
      show (dcPut kvs (some (k a, v a))).bind _ = _
      have hpt : dcPut kvs (some (k a, v a)) = .ok (dputR kvs (k a) (v a)) := if_pos ⟨⟨e6, e7⟩, by omega⟩
      rw [hpt, R.bind_ok, dcGo_map f p k v L _ (fun b hb => h b (List.mem_cons_of_mem _ hb)), List.foldl_cons]
      have : ∀ (q : List (D × D)) (k v : D), (dputR q k v).length ≤ q.length + 1 := fun q k v => by
        induction q with
        | nil => exact Nat.le_refl _
        | cons x q ih =>
          unfold dputR
          split
          · simp
          · simp only [List.length_cons]
            omega
      have := this kvs (k a) (v a)
      omega
    | false =>
      rw [if_neg (by decide), List.filter_cons_of_neg (by simp [hp])]
      exact dcGo_map f p k v L _ (fun b hb => h b (List.mem_cons_of_mem _ hb)) (by omega)
end
end Pd
namespace Pd
open PySem PySem.Spec PyProof.Rows L2
/-! ### the sum of a list of ints -/
def intsOf : List D → Option (List Int)
  | [] => some []
  | .int i :: ds => (intsOf ds).map (i :: ·)
  | _ :: _ => none
theorem intsOf_some : ∀ {ds : List D} {ns : List Int}, intsOf ds = some ns → ds = ns.map .int
  | [], ns, h => by cases h; rfl
  | .int i :: ds, ns, h => by
    unfold intsOf at h
    cases e : intsOf ds with
    | none => rw [e] at h; cases h
    | some ms =>
      rw [e] at h
      cases h
      rw [List.map_cons, intsOf_some e]
  | .none :: _, _, h => by cases h
  | .bool _ :: _, _, h => by cases h
  | .str _ :: _, _, h => by cases h
  | .list _ :: _, _, h => by cases h
  | .tuple _ :: _, _, h => by cases h
  | .dict _ :: _, _, h => by cases h
@[simp] theorem intsOf_int : ∀ ns : List Int, intsOf (ns.map .int) = some ns
  | [] => rfl
  | i :: ns => by
    show (intsOf (ns.map .int)).map (i :: ·) = _
    rw [intsOf_int ns]
    rfl
def sumD : List D → R D
  | [.list ds] => match intsOf ds with
    | some ns => .ok (.int ns.sum)
    | none => .stuck
  | _ => .stuck
theorem sum_int (ns : List Int) : sumD [.list (ns.map .int)] = .ok (.int ns.sum) := by
  show (match intsOf (ns.map .int) with
    | some ns => R.ok (PyData.int ns.sum)
    | none => R.stuck) = _
  rw [intsOf_int]
theorem im_sum : ∀ ds d, sumD ds = .ok d → imm d = true := fun ds d h => by
  unfold sumD at h
  split at h
  · split at h
    · cases h; rfl
    · cases h
  · cases h
section
variable {X : Cx} {T : List Addr}
theorem rpl_intsE {K : PySem.W.Frag} {H : Hp} : ∀ {xs : List V} {ns : List Int} {F : List Addr}, RpL K H xs (ns.map .int) F → xs = ns.map V.int
  | _, [], _, h => by cases h; rfl
  | _, n :: ns, _, h => by
    cases h with
    | cons r t =>
      cases r
      rw [List.map_cons, rpl_intsE t]
theorem c_sum (hc : X.calm = true) : CallD X T (.builtin "sum") sumD where
  nox := fun ds => by
    unfold sumD
    split
    · split
      · exact noxO
      · exact noxS
    · exact noxS
  ex := by
    refine ⟨_, cr_sum hc, fun H vs ds F Q r h => ?_⟩
    cases r with
    | nil => exact h.elim
    | @cons v vs d ds F1 F2 r1 rs =>
      cases rs with
      | cons r2 rs =>
        exfalso
        unfold sumD at h
        split at h <;> first | exact h | (rename_i heq; cases heq)
      | nil =>
        cases d with
        | list es =>
          cases e : intsOf es with
          | none =>
            have h : Sat (match intsOf es with
              | some ns => R.ok (PyData.int ns.sum)
              | none => R.stuck) _ _ := h
            rw [e] at h
            exact h.elim
          | some ns =>
            have h : Sat (match intsOf es with
              | some ns => R.ok (PyData.int ns.sum)
              | none => R.stuck) _ _ := h
            rw [e] at h
            have h2 := h
            have he := intsOf_some e
            subst he
            obtain ⟨a, xs, G, rfl, r', sb, w⟩ := seq_cases r1 (show itD (.list (ns.map .int)) = .ok (ns.map .int) from rfl)
            have hx := rpl_intsE r'
            subst hx
            refine ⟨a, ns, rfl, ?_, h2 _ H [] .refl (.int _) Mix1.nil⟩
            rcases w with ⟨s, _⟩ | ⟨s, z, _⟩
            · exact s
            · cases z
        | _ => exact h.elim
end
end Pd
namespace Pd
end Pd
namespace Pd.Law
open PySem PySem.Spec PyProof.Rows L2 Pd
open Pd (D Env)
def top (i : Nat) : Stmt := PySem.Challenge.pw_tuneworks_k68_whole_even_patterns.main.body.getD i (.Pass ⟨0, 0, 0, 0⟩)
abbrev N__law_draws : List Str := ["cell", "count", "result", "rest", "k", "mixed"]
abbrev sc__law_draws : Scope := defScope (top 30)
theorem S__law_draws : FnScope N__law_draws ["cell", "count"] sc__law_draws := ⟨rfl, rfl, rfl, by decide +kernel, rfl, by decide +kernel, by decide +kernel⟩
def m__law_draws_L1 : Env → RS := (seqD (setD 5 (eBin modD (eFun intD (lCons (eBin addD (eBin addD (eBin mulD (eName 0) (eC (.int 48271))) (eBin mulD (eName 4) (eC (.int 69621)))) (eC (.int 1))) lNil)) (eC (.int 2147483647)))) (ifD (bBin geX (eName 0) (eBin powD (eC (.int 10)) (eC (.int 18)))) (seqD (appD 2 (lCons (eBin modD (eName 3) (eC (.int 1009))) lNil)) (setD 3 (eBin fdivD (eName 3) (eC (.int 1009))))) (appD 2 (lCons (eBin fdivD (eBin modD (eFun intD (lCons (eBin addD (eBin mulD (eName 5) (eName 5)) (eBin mulD (eName 5) (eC (.int 40692)))) lNil)) (eC (.int 2147483399))) (eC (.int 7))) lNil))))
def m__law_draws : Env → RS := (seqD (setD 2 (eLst lNil)) (seqD (setD 3 (eFun intD (lCons (eName 0) lNil))) (seqD (forS (eRng (lCons (eName 1) lNil)) (gN 4) m__law_draws_L1) (retD (eName 2)))))
def d__law_draws : List D → R D := callD N__law_draws.length m__law_draws
abbrev N_is_number : List Str := ["value"]
abbrev sc_is_number : Scope := defScope (top 5)
theorem S_is_number : FnScope N_is_number ["value"] sc_is_number := ⟨rfl, rfl, rfl, by decide +kernel, rfl, by decide +kernel, by decide +kernel⟩
def m_is_number : Env → RS := (retD (eAnd (eIsi "int" (eName 0)) (eAnd (eBin isNotD (eName 0) (eC (.bool true))) (eBin isNotD (eName 0) (eC (.bool false))))))
def d_is_number : List D → R D := callD N_is_number.length m_is_number
abbrev N_check_round : List Str := ["many"]
abbrev sc_check_round : Scope := defScope (top 8)
theorem S_check_round : FnScope N_check_round ["many"] sc_check_round := ⟨rfl, rfl, rfl, by decide +kernel, rfl, by decide +kernel, by decide +kernel⟩
def m_check_round : Env → RS := (ifD (bOr (bNot (bTru (eCall d_is_number (lCons (eName 0) lNil)))) (bNot (bChain leX leX (eC (.int 1)) (eName 0) (eC (.int 24))))) (raiseD "BadSet") nextD)
def d_check_round : List D → R D := callD N_check_round.length m_check_round
abbrev N_check_parts : List Str := ["many", "size"]
abbrev sc_check_parts : Scope := defScope (top 12)
theorem S_check_parts : FnScope N_check_parts ["many", "size"] sc_check_parts := ⟨rfl, rfl, rfl, by decide +kernel, rfl, by decide +kernel, by decide +kernel⟩
def m_check_parts : Env → RS := (seqD (dropD (eCall d_check_round (lCons (eName 0) lNil))) (ifD (bOr (bNot (bTru (eCall d_is_number (lCons (eName 1) lNil)))) (bNot (bChain leX leX (eC (.int 1)) (eName 1) (eName 0)))) (raiseD "BadNumber") nextD))
def d_check_parts : List D → R D := callD N_check_parts.length m_check_parts
abbrev N_even_set : List Str := ["many", "size", "start", "k"]
abbrev sc_even_set : Scope := defScope (top 13)
theorem S_even_set : FnScope N_even_set ["many", "size", "start"] sc_even_set := ⟨rfl, rfl, rfl, by decide +kernel, rfl, by decide +kernel, by decide +kernel⟩
def m_even_set_e1 : EF := (eBin modD (eBin fdivD (eBin addD (eBin mulD (eName 3) (eName 0)) (eName 2)) (eName 1)) (eName 0))
def m_even_set : Env → RS := (seqD (dropD (eCall d_check_parts (lCons (eName 0) (lCons (eName 1) lNil)))) (seqD (ifD (bOr (bNot (bTru (eCall d_is_number (lCons (eName 2) lNil)))) (bNot (bChain leX ltX (eC (.int 0)) (eName 2) (eName 1)))) (raiseD "BadNumber") nextD) (retD (eFun tupleD (lCons (eFun sortedD (lCons (eLc (eRng (lCons (eName 1) lNil)) (gN 3) bYes m_even_set_e1 [3]) lNil)) lNil)))))
def d_even_set : List D → R D := callD N_even_set.length m_even_set
abbrev N_folded_pattern : List Str := ["many", "size", "first", "second", "pairs", "joined", "rest", "pattern", "group", "k"]
abbrev sc_folded_pattern : Scope := defScope (top 14)
theorem S_folded_pattern : FnScope N_folded_pattern ["many", "size"] sc_folded_pattern := ⟨rfl, rfl, rfl, by decide +kernel, rfl, by decide +kernel, by decide +kernel⟩
def m_folded_pattern_e1 : EF := (eLst (lCons (eC (.int 1)) lNil))
def m_folded_pattern_e2 : EF := (eLst (lCons (eC (.int 0)) lNil))
def m_folded_pattern_e3 : EF := (eCat (eIx (eName 2) (eName 9)) (eIx (eName 3) (eName 9)))
def m_folded_pattern_L1 : Env → RS := (seqD (setD 4 (eFun min2D (lCons (eFun lenX (lCons (eName 2) lNil)) (lCons (eFun lenX (lCons (eName 3) lNil)) lNil)))) (seqD (setD 5 (eLc (eRng (lCons (eName 4) lNil)) (gN 9) bYes m_folded_pattern_e3 [9])) (seqD (setD 6 (eIf (bBin gtX (eFun lenX (lCons (eName 2) lNil)) (eName 4)) (eSl (eName 2) (pSome (eName 4)) pNone) (eSl (eName 3) (pSome (eName 4)) pNone))) (setG (gTupD (gConsD (gN 2) (gConsD (gN 3) gNilD))) (eTup (lCons (eName 5) (lCons (eName 6) lNil)))))))
def m_folded_pattern_L2 : Env → RS := (setD 7 (eBin addD (eName 7) (eName 8)))
def m_folded_pattern : Env → RS := (seqD (dropD (eCall d_check_parts (lCons (eName 0) (lCons (eName 1) lNil)))) (seqD (setD 2 (eLc (eRng (lCons (eName 1) lNil)) (gN 9) bYes m_folded_pattern_e1 [9])) (seqD (setD 3 (eLc (eRng (lCons (eBin subD (eName 0) (eName 1)) lNil)) (gN 9) bYes m_folded_pattern_e2 [9])) (seqD (whD (bBin gtX (eFun lenX (lCons (eName 3) lNil)) (eC (.int 1))) m_folded_pattern_L1 1000000000) (seqD (setD 7 (eLst lNil)) (seqD (forS (eIt (eBin addD (eName 2) (eName 3))) (gN 8) m_folded_pattern_L2) (retD (eImm (eFun tupleD (lCons (eName 7) lNil))))))))))
def d_folded_pattern : List D → R D := callD N_folded_pattern.length m_folded_pattern
abbrev N__law_spans : List Str := ["many", "own", "rows", "gap", "found", "k", "one"]
abbrev sc__law_spans : Scope := defScope (top 32)
theorem S__law_spans : FnScope N__law_spans ["many", "own"] sc__law_spans := ⟨rfl, rfl, rfl, by decide +kernel, rfl, by decide +kernel, by decide +kernel⟩
def m__law_spans_e1 : EF := (eBin modD (eFun intD (lCons (eBin subD (eIx (eName 1) (eBin modD (eBin addD (eName 5) (eName 3)) (eFun lenX (lCons (eName 1) lNil)))) (eIx (eName 1) (eName 5))) lNil)) (eName 0))
def m__law_spans_e2 : EF := (eImm (eName 6))
def m__law_spans_L1 : Env → RS := (seqD (setD 4 (eLc (eRng (lCons (eFun lenX (lCons (eName 1) lNil)) lNil)) (gN 5) bYes m__law_spans_e1 [5])) (appD 2 (lCons (eFun tupleD (lCons (eLc (eRng (lCons (eName 0) lNil)) (gN 6) (bBin inX (eName 6) (eName 4)) m__law_spans_e2 [6]) lNil)) lNil)))
def m__law_spans : Env → RS := (seqD (setD 2 (eLst lNil)) (seqD (forS (eRng (lCons (eC (.int 1)) (lCons (eFun lenX (lCons (eName 1) lNil)) lNil))) (gN 3) m__law_spans_L1) (retD (eName 2))))
def d__law_spans : List D → R D := callD N__law_spans.length m__law_spans
abbrev N_scale_of : List Str := ["many", "step", "size", "found", "k", "one"]
abbrev sc_scale_of : Scope := defScope (top 20)
theorem S_scale_of : FnScope N_scale_of ["many", "step", "size"] sc_scale_of := ⟨rfl, rfl, rfl, by decide +kernel, rfl, by decide +kernel, by decide +kernel⟩
def m_scale_of_e1 : EF := (eBin modD (eBin mulD (eName 4) (eName 1)) (eName 0))
def m_scale_of_e2 : EF := (eImm (eName 5))
def m_scale_of : Env → RS := (seqD (dropD (eCall d_check_parts (lCons (eName 0) (lCons (eName 2) lNil)))) (seqD (ifD (bOr (bNot (bTru (eCall d_is_number (lCons (eName 1) lNil)))) (bNot (bChain leX ltX (eC (.int 0)) (eName 1) (eName 0)))) (raiseD "BadNumber") nextD) (seqD (setD 3 (eLc (eRng (lCons (eName 2) lNil)) (gN 4) bYes m_scale_of_e1 [4])) (seqD (ifD (bBin ltX (eOfS lenSI (eSet (eIt (eName 3)) (gN 5) bYes m_scale_of_e2 [5])) (eName 2)) (raiseD "BadNumber") nextD) (retD (eFun tupleD (lCons (eFun sortedD (lCons (eName 3) lNil)) lNil)))))))
def d_scale_of : List D → R D := callD N_scale_of.length m_scale_of
abbrev N__law_cell : List Str := ["script", "k"]
abbrev sc__law_cell : Scope := defScope (top 29)
theorem S__law_cell : FnScope N__law_cell ["script", "k"] sc__law_cell := ⟨rfl, rfl, rfl, by decide +kernel, rfl, by decide +kernel, by decide +kernel⟩
def m__law_cell : Env → RS := (seqD (ifD (bBin ltX (eName 1) (eFun lenX (lCons (eName 0) lNil))) (retD (eImm (eIx (eName 0) (eName 1)))) nextD) (retD (eC (.int 0))))
def d__law_cell : List D → R D := callD N__law_cell.length m__law_cell
abbrev N__law_moved : List Str := ["many", "own", "steps", "one"]
abbrev sc__law_moved : Scope := defScope (top 31)
theorem S__law_moved : FnScope N__law_moved ["many", "own", "steps"] sc__law_moved := ⟨rfl, rfl, rfl, by decide +kernel, rfl, by decide +kernel, by decide +kernel⟩
def m__law_moved_e1 : EF := (eBin modD (eFun intD (lCons (eBin addD (eName 3) (eName 2)) lNil)) (eName 0))
def m__law_moved : Env → RS := (retD (eFun tupleD (lCons (eFun sortedD (lCons (eLc (eIt (eName 1)) (gN 3) bYes m__law_moved_e1 [3]) lNil)) lNil)))
def d__law_moved : List D → R D := callD N__law_moved.length m__law_moved
abbrev N_closes : List Str := ["places", "size", "gap", "k"]
abbrev sc_closes : Scope := defScope (top 24)
theorem S_closes : FnScope N_closes ["places", "size"] sc_closes := ⟨rfl, rfl, rfl, by decide +kernel, rfl, by decide +kernel, by decide +kernel⟩
def m_closes_e1 : EF := (eBin eqD (eBin modD (eBin subD (eIx (eName 0) (eBin modD (eBin addD (eName 3) (eC (.int 1))) (eName 1))) (eIx (eName 0) (eName 3))) (eName 1)) (eName 2))
def m_closes : Env → RS := (seqD (setD 2 (eIf (bBin gtX (eName 1) (eC (.int 1))) (eBin modD (eBin subD (eIx (eName 0) (eC (.int 1))) (eIx (eName 0) (eC (.int 0)))) (eName 1)) (eC (.int 0)))) (retD (eGx false (eRng (lCons (eName 1) lNil)) (gN 3) bYes m_closes_e1 [3])))
def d_closes : List D → R D := callD N_closes.length m_closes
abbrev N_is_well_formed : List Str := ["many", "step", "size", "own", "k"]
abbrev sc_is_well_formed : Scope := defScope (top 23)
theorem S_is_well_formed : FnScope N_is_well_formed ["many", "step", "size"] sc_is_well_formed := ⟨rfl, rfl, rfl, by decide +kernel, rfl, by decide +kernel, by decide +kernel⟩
def m_is_well_formed_e1 : EF := (eIdx (eName 3) (lCons (eBin modD (eBin mulD (eName 4) (eName 1)) (eName 0)) lNil))
def m_is_well_formed : Env → RS := (seqD (setD 3 (eCall d_scale_of (lCons (eName 0) (lCons (eName 1) (lCons (eName 2) lNil))))) (retD (eCall d_closes (lCons (eLc (eRng (lCons (eName 2) lNil)) (gN 4) bYes m_is_well_formed_e1 [4]) (lCons (eName 2) lNil)))))
def d_is_well_formed : List D → R D := callD N_is_well_formed.length m_is_well_formed
abbrev N_check_set : List Str := ["many", "own", "one", "k"]
abbrev sc_check_set : Scope := defScope (top 9)
theorem S_check_set : FnScope N_check_set ["many", "own"] sc_check_set := ⟨rfl, rfl, rfl, by decide +kernel, rfl, by decide +kernel, by decide +kernel⟩
def m_check_set_e1 : EF := (eAnd (eCall d_is_number (lCons (eName 2) lNil)) (eChain leX ltX (eC (.int 0)) (eName 2) (eName 0)))
def m_check_set_e2 : EF := (eBin geX (eIx (eName 1) (eName 3)) (eIx (eName 1) (eBin addD (eName 3) (eC (.int 1)))))
def m_check_set : Env → RS := (seqD (dropD (eCall d_check_round (lCons (eName 0) lNil))) (seqD (ifD (bOr (bNot (bTru (eIsi "tuple" (eName 1)))) (bNot (bTru (eGx false (eIt (eName 1)) (gN 2) bYes m_check_set_e1 [2])))) (raiseD "BadSet") nextD) (ifD (bTru (eGx true (eRng (lCons (eBin subD (eFun lenX (lCons (eName 1) lNil)) (eC (.int 1))) lNil)) (gN 3) bYes m_check_set_e2 [3])) (raiseD "BadSet") nextD)))
def d_check_set : List D → R D := callD N_check_set.length m_check_set
abbrev N_generators : List Str := ["many", "own", "found", "step", "start", "places", "k", "one"]
abbrev sc_generators : Scope := defScope (top 21)
theorem S_generators : FnScope N_generators ["many", "own"] sc_generators := ⟨rfl, rfl, rfl, by decide +kernel, rfl, by decide +kernel, by decide +kernel⟩
def m_generators_e1 : EF := (eBin modD (eBin addD (eName 4) (eBin mulD (eName 6) (eName 3))) (eName 0))
def m_generators_e2 : EF := (eC (.bool true))
def m_generators_e3 : EF := (eBin inX (eName 7) (eName 5))
def m_generators_L1 : Env → RS := (seqD (setD 5 (eDc (eRng (lCons (eFun lenX (lCons (eName 1) lNil)) lNil)) (gN 6) bYes m_generators_e1 m_generators_e2 [6])) (ifD (bAnd (bBin eqD (eFun lenX (lCons (eName 5) lNil)) (eFun lenX (lCons (eName 1) lNil))) (bAnd (bTru (eGx false (eIt (eName 1)) (gN 7) bYes m_generators_e3 [7])) (bBin notInX (eName 3) (eName 2)))) (appD 2 (lCons (eImm (eName 3)) lNil)) nextD))
def m_generators_L2 : Env → RS := (forS (eIt (eName 1)) (gN 4) m_generators_L1)
def m_generators : Env → RS := (seqD (dropD (eCall d_check_set (lCons (eName 0) (lCons (eName 1) lNil)))) (seqD (setD 2 (eLst lNil)) (seqD (forS (eRng (lCons (eName 0) lNil)) (gN 3) m_generators_L2) (retD (eImm (eFun tupleD (lCons (eName 2) lNil)))))))
def d_generators : List D → R D := callD N_generators.length m_generators
abbrev N_steps_round : List Str := ["many", "own", "k"]
abbrev sc_steps_round : Scope := defScope (top 10)
theorem S_steps_round : FnScope N_steps_round ["many", "own"] sc_steps_round := ⟨rfl, rfl, rfl, by decide +kernel, rfl, by decide +kernel, by decide +kernel⟩
def m_steps_round_e1 : EF := (eImm (eIf (bBin gtX (eFun lenX (lCons (eName 1) lNil)) (eC (.int 1))) (eBin modD (eBin subD (eIx (eName 1) (eBin modD (eBin addD (eName 2) (eC (.int 1))) (eFun lenX (lCons (eName 1) lNil)))) (eIx (eName 1) (eName 2))) (eName 0)) (eName 0)))
def m_steps_round : Env → RS := (seqD (dropD (eCall d_check_set (lCons (eName 0) (lCons (eName 1) lNil)))) (retD (eFun tupleD (lCons (eLc (eRng (lCons (eFun lenX (lCons (eName 1) lNil)) lNil)) (gN 2) bYes m_steps_round_e1 [2]) lNil))))
def d_steps_round : List D → R D := callD N_steps_round.length m_steps_round
abbrev N_onsets_apart : List Str := ["many", "own", "gap", "one"]
abbrev sc_onsets_apart : Scope := defScope (top 26)
theorem S_onsets_apart : FnScope N_onsets_apart ["many", "own", "gap"] sc_onsets_apart := ⟨rfl, rfl, rfl, by decide +kernel, rfl, by decide +kernel, by decide +kernel⟩
def m_onsets_apart_e1 : EF := (eBin geX (eName 3) (eName 2))
def m_onsets_apart : Env → RS := (seqD (dropD (eCall d_check_set (lCons (eName 0) (lCons (eName 1) lNil)))) (seqD (ifD (bOr (bNot (bTru (eCall d_is_number (lCons (eName 2) lNil)))) (bBin ltX (eName 2) (eC (.int 0)))) (raiseD "BadNumber") nextD) (retD (eGx false (eIt (eCall d_steps_round (lCons (eName 0) (lCons (eName 1) lNil)))) (gN 3) bYes m_onsets_apart_e1 [3]))))
def d_onsets_apart : List D → R D := callD N_onsets_apart.length m_onsets_apart
abbrev N_fits_twice : List Str := ["many", "own", "k", "one"]
abbrev sc_fits_twice : Scope := defScope (top 27)
theorem S_fits_twice : FnScope N_fits_twice ["many", "own"] sc_fits_twice := ⟨rfl, rfl, rfl, by decide +kernel, rfl, by decide +kernel, by decide +kernel⟩
def m_fits_twice_e1 : EF := (eBin inX (eBin modD (eBin addD (eName 3) (eName 2)) (eName 0)) (eName 1))
def m_fits_twice_e2 : EF := (eImm (eName 2))
def m_fits_twice : Env → RS := (seqD (dropD (eCall d_check_set (lCons (eName 0) (lCons (eName 1) lNil)))) (retD (eFun tupleD (lCons (eLc (eRng (lCons (eName 0) lNil)) (gN 2) (bNot (bTru (eGx true (eIt (eName 1)) (gN 3) bYes m_fits_twice_e1 [3]))) m_fits_twice_e2 [2]) lNil))))
def d_fits_twice : List D → R D := callD N_fits_twice.length m_fits_twice
abbrev N_set_of_pattern : List Str := ["pattern", "one", "k"]
abbrev sc_set_of_pattern : Scope := defScope (top 15)
theorem S_set_of_pattern : FnScope N_set_of_pattern ["pattern"] sc_set_of_pattern := ⟨rfl, rfl, rfl, by decide +kernel, rfl, by decide +kernel, by decide +kernel⟩
def m_set_of_pattern_e1 : EF := (eAnd (eBin inX (eName 1) (eTup (lCons (eC (.int 0)) (lCons (eC (.int 1)) lNil)))) (eCall d_is_number (lCons (eName 1) lNil)))
def m_set_of_pattern_e2 : EF := (eImm (eName 2))
def m_set_of_pattern : Env → RS := (seqD (ifD (bOr (bNot (bTru (eIsi "tuple" (eName 0)))) (bNot (bTru (eGx false (eIt (eName 0)) (gN 1) bYes m_set_of_pattern_e1 [1])))) (raiseD "BadSet") nextD) (seqD (dropD (eCall d_check_round (lCons (eFun lenX (lCons (eName 0) lNil)) lNil))) (retD (eFun tupleD (lCons (eLc (eRng (lCons (eFun lenX (lCons (eName 0) lNil)) lNil)) (gN 2) (bBin eqD (eIx (eName 0) (eName 2)) (eC (.int 1))) m_set_of_pattern_e2 [2]) lNil)))))
def d_set_of_pattern : List D → R D := callD N_set_of_pattern.length m_set_of_pattern
abbrev N_spans : List Str := ["many", "own", "result", "gap", "found", "k"]
abbrev sc_spans : Scope := defScope (top 17)
theorem S_spans : FnScope N_spans ["many", "own"] sc_spans := ⟨rfl, rfl, rfl, by decide +kernel, rfl, by decide +kernel, by decide +kernel⟩
def m_spans_e1 : EF := (eBin modD (eBin subD (eIx (eName 1) (eBin modD (eBin addD (eName 5) (eName 3)) (eFun lenX (lCons (eName 1) lNil)))) (eIx (eName 1) (eName 5))) (eName 0))
def m_spans_e2 : EF := (eC (.bool true))
def m_spans_L1 : Env → RS := (seqD (setD 4 (eDc (eRng (lCons (eFun lenX (lCons (eName 1) lNil)) lNil)) (gN 5) bYes m_spans_e1 m_spans_e2 [5])) (appD 2 (lCons (eFun tupleD (lCons (eFun sortedD (lCons (eFun listX (lCons (eName 4) lNil)) lNil)) lNil)) lNil)))
def m_spans : Env → RS := (seqD (dropD (eCall d_check_set (lCons (eName 0) (lCons (eName 1) lNil)))) (seqD (setD 2 (eLst lNil)) (seqD (forS (eRng (lCons (eC (.int 1)) (lCons (eFun lenX (lCons (eName 1) lNil)) lNil))) (gN 3) m_spans_L1) (retD (eImm (eFun tupleD (lCons (eName 2) lNil)))))))
def d_spans : List D → R D := callD N_spans.length m_spans
abbrev N_is_even : List Str := ["many", "own", "row"]
abbrev sc_is_even : Scope := defScope (top 18)
theorem S_is_even : FnScope N_is_even ["many", "own"] sc_is_even := ⟨rfl, rfl, rfl, by decide +kernel, rfl, by decide +kernel, by decide +kernel⟩
def m_is_even_e1 : EF := (eBin leX (eBin subD (eIx (eName 2) (eNeg (eC (.int 1)))) (eIx (eName 2) (eC (.int 0)))) (eC (.int 1)))
def m_is_even : Env → RS := (retD (eGx false (eIt (eCall d_spans (lCons (eName 0) (lCons (eName 1) lNil)))) (gN 2) bYes m_is_even_e1 [2]))
def d_is_even : List D → R D := callD N_is_even.length m_is_even
abbrev N_is_balanced : List Str := ["pattern", "own", "many", "length", "counts", "start", "k"]
abbrev sc_is_balanced : Scope := defScope (top 25)
theorem S_is_balanced : FnScope N_is_balanced ["pattern"] sc_is_balanced := ⟨rfl, rfl, rfl, by decide +kernel, rfl, by decide +kernel, by decide +kernel⟩
def m_is_balanced_e1 : EF := (eImm (eName 6))
def m_is_balanced_e2 : EF := (eFun lenX (lCons (eLc (eRng (lCons (eName 3) lNil)) (gN 6) (bBin inX (eBin modD (eBin addD (eName 5) (eName 6)) (eName 2)) (eName 1)) m_is_balanced_e1 [6]) lNil))
def m_is_balanced_L1 : Env → RS := (seqD (setD 4 (eLc (eRng (lCons (eName 2) lNil)) (gN 5) bYes m_is_balanced_e2 [5])) (ifD (bBin gtX (eBin subD (eFun maxLD (lCons (eName 4) lNil)) (eFun minLD (lCons (eName 4) lNil))) (eC (.int 1))) (retD (eC (.bool false))) nextD))
def m_is_balanced : Env → RS := (seqD (setD 1 (eCall d_set_of_pattern (lCons (eName 0) lNil))) (seqD (setD 2 (eFun lenX (lCons (eName 0) lNil))) (seqD (forS (eRng (lCons (eC (.int 1)) (lCons (eName 2) lNil))) (gN 3) m_is_balanced_L1) (retD (eC (.bool true))))))
def d_is_balanced : List D → R D := callD N_is_balanced.length m_is_balanced
abbrev N_pattern_of : List Str := ["many", "own", "k"]
abbrev sc_pattern_of : Scope := defScope (top 16)
theorem S_pattern_of : FnScope N_pattern_of ["many", "own"] sc_pattern_of := ⟨rfl, rfl, rfl, by decide +kernel, rfl, by decide +kernel, by decide +kernel⟩
def m_pattern_of_e1 : EF := (eIf (bBin inX (eName 2) (eName 1)) (eC (.int 1)) (eC (.int 0)))
def m_pattern_of : Env → RS := (seqD (dropD (eCall d_check_set (lCons (eName 0) (lCons (eName 1) lNil)))) (retD (eFun tupleD (lCons (eLc (eRng (lCons (eName 0) lNil)) (gN 2) bYes m_pattern_of_e1 [2]) lNil))))
def d_pattern_of : List D → R D := callD N_pattern_of.length m_pattern_of
abbrev N__law_balanced : List Str := ["pattern", "many", "length", "counts", "at", "k"]
abbrev sc__law_balanced : Scope := defScope (top 33)
theorem S__law_balanced : FnScope N__law_balanced ["pattern"] sc__law_balanced := ⟨rfl, rfl, rfl, by decide +kernel, rfl, by decide +kernel, by decide +kernel⟩
def m__law_balanced_e1 : EF := (eImm (eIx (eName 0) (eBin modD (eFun intD (lCons (eBin addD (eName 4) (eName 5)) lNil)) (eName 1))))
def m__law_balanced_e2 : EF := (eFun sumD (lCons (eLc (eRng (lCons (eName 2) lNil)) (gN 5) bYes m__law_balanced_e1 [5]) lNil))
def m__law_balanced_L1 : Env → RS := (seqD (setD 3 (eLc (eRng (lCons (eName 1) lNil)) (gN 4) bYes m__law_balanced_e2 [4])) (ifD (bBin gtX (eBin subD (eFun maxLD (lCons (eName 3) lNil)) (eFun minLD (lCons (eName 3) lNil))) (eC (.int 1))) (retD (eC (.bool false))) nextD))
def m__law_balanced : Env → RS := (seqD (setD 1 (eFun lenX (lCons (eName 0) lNil))) (seqD (forS (eRng (lCons (eC (.int 1)) (lCons (eName 1) lNil))) (gN 2) m__law_balanced_L1) (retD (eC (.bool true)))))
def d__law_balanced : List D → R D := callD N__law_balanced.length m__law_balanced
abbrev N_has_two_spans : List Str := ["many", "own", "row"]
abbrev sc_has_two_spans : Scope := defScope (top 19)
theorem S_has_two_spans : FnScope N_has_two_spans ["many", "own"] sc_has_two_spans := ⟨rfl, rfl, rfl, by decide +kernel, rfl, by decide +kernel, by decide +kernel⟩
def m_has_two_spans_e1 : EF := (eBin eqD (eFun lenX (lCons (eName 2) lNil)) (eC (.int 2)))
def m_has_two_spans : Env → RS := (retD (eAnd (eBin gtX (eFun lenX (lCons (eName 1) lNil)) (eC (.int 1))) (eGx false (eIt (eCall d_spans (lCons (eName 0) (lCons (eName 1) lNil)))) (gN 2) bYes m_has_two_spans_e1 [2])))
def d_has_two_spans : List D → R D := callD N_has_two_spans.length m_has_two_spans
abbrev N_gap_sizes : List Str := ["many", "step", "size", "one"]
abbrev sc_gap_sizes : Scope := defScope (top 22)
theorem S_gap_sizes : FnScope N_gap_sizes ["many", "step", "size"] sc_gap_sizes := ⟨rfl, rfl, rfl, by decide +kernel, rfl, by decide +kernel, by decide +kernel⟩
def m_gap_sizes_e1 : EF := (eImm (eName 3))
def m_gap_sizes : Env → RS := (retD (eFun tupleD (lCons (eOfS sortSI (eSet (eIt (eCall d_steps_round (lCons (eName 0) (lCons (eCall d_scale_of (lCons (eName 0) (lCons (eName 1) (lCons (eName 2) lNil)))) lNil)))) (gN 3) bYes m_gap_sizes_e1 [3])) lNil)))
def d_gap_sizes : List D → R D := callD N_gap_sizes.length m_gap_sizes
abbrev N_law : List Str := ["script", "n", "many", "size", "start", "own", "base", "folded", "turns", "pattern", "drawn", "rows", "even", "step", "places", "scale", "gaps", "sizes", "over", "due", "one", "place", "come", "gap", "near", "k", "row"]
abbrev sc_law : Scope := defScope (top 34)
theorem S_law : FnScope N_law ["script"] sc_law := ⟨rfl, rfl, rfl, by decide +kernel, rfl, by decide +kernel, by decide +kernel⟩
def m_law_e1 : EF := (eBin fdivD (eBin addD (eBin mulD (eName 25) (eName 2)) (eName 4)) (eName 3))
def m_law_e2 : EF := (eCall d__law_moved (lCons (eName 2) (lCons (eName 6) (lCons (eName 25) lNil))))
def m_law_e3 : EF := (eFun intD (lCons (eBin ltX (eBin modD (eIx (eName 1) (eBin addD (eC (.int 3)) (eName 25))) (eC (.int 5))) (eC (.int 2))) lNil))
def m_law_e4 : EF := (eImm (eName 25))
def m_law_e5 : EF := (eImm (eName 26))
def m_law_e6 : EF := (eImm (eName 26))
def m_law_e7 : EF := (eCall d__law_moved (lCons (eName 2) (lCons (eCall d_even_set (lCons (eName 2) (lCons (eFun lenX (lCons (eName 10) lNil)) (lCons (eC (.int 0)) lNil)))) (lCons (eName 25) lNil))))
def m_law_e8 : EF := (eBin modD (eFun intD (lCons (eBin mulD (eName 25) (eName 13)) lNil)) (eName 2))
def m_law_e9 : EF := (eImm (eName 20))
def tb_law_BadNumber : List (Str × Bool) := [("BadNumber", true), ("BadSet", false)]
def m_law_e10 : EF := (eBin addD (eBin modD (eBin subD (eBin subD (eIx (eName 15) (eBin modD (eBin addD (eName 25) (eC (.int 1))) (eName 3))) (eIx (eName 15) (eName 25))) (eC (.int 1))) (eName 2)) (eC (.int 1)))
def m_law_e11 : EF := (eImm (eName 20))
def m_law_e12 : EF := (eBin modD (eFun intD (lCons (eBin subD (eIdx (eName 15) (lCons (eIx (eName 14) (eBin modD (eBin addD (eName 25) (eC (.int 1))) (eName 3))) lNil)) (eIdx (eName 15) (lCons (eIx (eName 14) (eName 25)) lNil))) lNil)) (eName 3))
def m_law_e13 : EF := (eImm (eName 20))
def m_law_e14 : EF := (eBin modD (eFun intD (lCons (eBin addD (eName 21) (eBin mulD (eName 25) (eName 20))) lNil)) (eName 2))
def m_law_L1 : Env → RS := (seqD (setD 22 (eLc (eRng (lCons (eFun lenX (lCons (eName 10) lNil)) lNil)) (gN 25) bYes m_law_e14 [25])) (ifD (bAnd (bBin eqD (eFun sortedD (lCons (eName 22) lNil)) (eFun listX (lCons (eName 10) lNil))) (bBin notInX (eName 20) (eName 19))) (appD 19 (lCons (eImm (eName 20)) lNil)) nextD))
def m_law_L2 : Env → RS := (forS (eIt (eName 10)) (gN 21) m_law_L1)
def m_law_e15 : EF := (eC (.int 1))
def m_law_e16 : EF := (eImm (eName 20))
def m_law_e17 : EF := (eImm (eName 25))
def tb_law_BadSet : List (Str × Bool) := [("BadNumber", false), ("BadSet", true)]
def m_law_s0 : Env → RS := (setD 1 (eCall d__law_draws (lCons (eCall d__law_cell (lCons (eName 0) (lCons (eC (.int 0)) lNil))) (lCons (eC (.int 40)) lNil))))
def m_law_s1 : Env → RS := (setD 2 (eBin addD (eBin modD (eIx (eName 1) (eC (.int 0))) (eC (.int 16))) (eC (.int 1))))
def m_law_s2 : Env → RS := (setD 3 (eBin addD (eBin modD (eIx (eName 1) (eC (.int 1))) (eName 2)) (eC (.int 1))))
def m_law_s3 : Env → RS := (setD 4 (eBin modD (eIx (eName 1) (eC (.int 2))) (eName 3)))
def m_law_s4 : Env → RS := (setD 5 (eCall d_even_set (lCons (eName 2) (lCons (eName 3) (lCons (eName 4) lNil)))))
def m_law_s5 : Env → RS := (ifD (bOr (bBin neD (eName 5) (eFun tupleD (lCons (eFun sortedD (lCons (eLc (eRng (lCons (eName 3) lNil)) (gN 25) bYes m_law_e1 [25]) lNil)) lNil))) (bNot (bTru (eCall d_is_even (lCons (eName 2) (lCons (eName 5) lNil)))))) (retD (eC (.bool false))) nextD)
def m_law_s6 : Env → RS := (setD 6 (eCall d_even_set (lCons (eName 2) (lCons (eName 3) (lCons (eC (.int 0)) lNil)))))
def m_law_s7 : Env → RS := (setD 7 (eCall d_folded_pattern (lCons (eName 2) (lCons (eName 3) lNil))))
def m_law_s8 : Env → RS := (setD 8 (eLc (eRng (lCons (eName 2) lNil)) (gN 25) bYes m_law_e2 [25]))
def m_law_s9 : Env → RS := (ifD (bOr (bBin neD (eFun lenX (lCons (eName 7) lNil)) (eName 2)) (bOr (bBin notInX (eName 5) (eName 8)) (bOr (bBin notInX (eCall d_set_of_pattern (lCons (eName 7) lNil)) (eName 8)) (bNot (bTru (eCall d_is_balanced (lCons (eName 7) lNil))))))) (retD (eC (.bool false))) nextD)
def m_law_s10 : Env → RS := (setD 9 (eFun tupleD (lCons (eLc (eRng (lCons (eName 2) lNil)) (gN 25) bYes m_law_e3 [25]) lNil)))
def m_law_s11 : Env → RS := (setD 10 (eFun tupleD (lCons (eLc (eRng (lCons (eName 2) lNil)) (gN 25) (bBin eqD (eIx (eName 9) (eName 25)) (eC (.int 1))) m_law_e4 [25]) lNil)))
def m_law_s12 : Env → RS := (ifD (bOr (bBin neD (eCall d_set_of_pattern (lCons (eName 9) lNil)) (eName 10)) (bOr (bBin neD (eCall d_pattern_of (lCons (eName 2) (lCons (eName 10) lNil))) (eName 9)) (bBin neD (eCall d_is_balanced (lCons (eName 9) lNil)) (eCall d__law_balanced (lCons (eName 9) lNil))))) (retD (eC (.bool false))) nextD)
def m_law_s13 : Env → RS := (setD 11 (eCall d__law_spans (lCons (eName 2) (lCons (eName 10) lNil))))
def m_law_s14 : Env → RS := (setD 12 (eBin eqD (eFun lenX (lCons (eLc (eIt (eName 11)) (gN 26) (bBin gtX (eBin subD (eIx (eName 26) (eNeg (eC (.int 1)))) (eIx (eName 26) (eC (.int 0)))) (eC (.int 1))) m_law_e5 [26]) lNil)) (eC (.int 0))))
def m_law_s15 : Env → RS := (ifD (bOr (bBin neD (eCall d_spans (lCons (eName 2) (lCons (eName 10) lNil))) (eFun tupleD (lCons (eName 11) lNil))) (bOr (bBin neD (eCall d_is_even (lCons (eName 2) (lCons (eName 10) lNil))) (eName 12)) (bBin neD (eCall d_has_two_spans (lCons (eName 2) (lCons (eName 10) lNil))) (eAnd (eBin gtX (eFun lenX (lCons (eName 10) lNil)) (eC (.int 1))) (eBin eqD (eFun lenX (lCons (eLc (eIt (eName 11)) (gN 26) (bBin neD (eFun lenX (lCons (eName 26) lNil)) (eC (.int 2))) m_law_e6 [26]) lNil)) (eC (.int 0))))))) (retD (eC (.bool false))) nextD)
def m_law_s16 : Env → RS := (ifD (bAnd (bBin gtX (eFun lenX (lCons (eName 10) lNil)) (eC (.int 0))) (bOr (bBin neD (eName 12) (eCall d__law_balanced (lCons (eName 9) lNil))) (bBin neD (eName 12) (eBin inX (eName 10) (eLc (eRng (lCons (eName 2) lNil)) (gN 25) bYes m_law_e7 [25]))))) (retD (eC (.bool false))) nextD)
def m_law_s17 : Env → RS := (setD 13 (eBin modD (eIx (eName 1) (eC (.int 20))) (eName 2)))
def m_law_s18 : Env → RS := (setD 14 (eLc (eRng (lCons (eName 3) lNil)) (gN 25) bYes m_law_e8 [25]))
def m_law_s19 : Env → RS := (ifD (bBin gtX (eFun lenX (lCons (eLc (eIt (eName 14)) (gN 20) (bBin gtX (eCnt (eName 14) (lCons (eName 20) lNil)) (eC (.int 1))) m_law_e9 [20]) lNil)) (eC (.int 0))) (tryD (seqD (dropD (eCall d_scale_of (lCons (eName 2) (lCons (eName 13) (lCons (eName 3) lNil))))) (retD (eC (.bool false)))) tb_law_BadNumber (retD (eC (.bool true)))) nextD)
def m_law_s20 : Env → RS := (setD 15 (eCall d_scale_of (lCons (eName 2) (lCons (eName 13) (lCons (eName 3) lNil)))))
def m_law_s21 : Env → RS := (setD 16 (eLc (eRng (lCons (eName 3) lNil)) (gN 25) bYes m_law_e10 [25]))
def m_law_s22 : Env → RS := (setD 17 (eFun tupleD (lCons (eLc (eRng (lCons (eC (.int 1)) (lCons (eBin addD (eName 2) (eC (.int 1))) lNil))) (gN 20) (bBin inX (eName 20) (eName 16)) m_law_e11 [20]) lNil)))
def m_law_s23 : Env → RS := (ifD (bOr (bBin neD (eName 15) (eFun tupleD (lCons (eFun sortedD (lCons (eName 14) lNil)) lNil))) (bOr (bBin neD (eCall d_gap_sizes (lCons (eName 2) (lCons (eName 13) (lCons (eName 3) lNil)))) (eName 17)) (bBin gtX (eFun lenX (lCons (eName 17) lNil)) (eC (.int 3))))) (retD (eC (.bool false))) nextD)
def m_law_s24 : Env → RS := (setD 18 (eLc (eRng (lCons (eName 3) lNil)) (gN 25) bYes m_law_e12 [25]))
def m_law_s25 : Env → RS := (ifD (bBin neD (eCall d_is_well_formed (lCons (eName 2) (lCons (eName 13) (lCons (eName 3) lNil)))) (eBin eqD (eFun lenX (lCons (eLc (eIt (eName 18)) (gN 20) (bBin neD (eName 20) (eIx (eName 18) (eC (.int 0)))) m_law_e13 [20]) lNil)) (eC (.int 0)))) (retD (eC (.bool false))) nextD)
def m_law_s26 : Env → RS := (ifD (bBin notInX (eName 13) (eCall d_generators (lCons (eName 2) (lCons (eName 15) lNil)))) (retD (eC (.bool false))) nextD)
def m_law_s27 : Env → RS := (setD 19 (eLst lNil))
def m_law_s28 : Env → RS := (forS (eRng (lCons (eName 2) lNil)) (gN 20) m_law_L2)
def m_law_s29 : Env → RS := (ifD (bBin neD (eCall d_generators (lCons (eName 2) (lCons (eName 10) lNil))) (eFun tupleD (lCons (eName 19) lNil))) (retD (eC (.bool false))) nextD)
def m_law_s30 : Env → RS := (setD 23 (eBin modD (eIx (eName 1) (eC (.int 21))) (eC (.int 5))))
def m_law_s31 : Env → RS := (setD 24 (eLc (eRng (lCons (eFun lenX (lCons (eName 10) lNil)) lNil)) (gN 25) (bBin ltX (eBin addD (eBin modD (eBin subD (eBin subD (eIx (eName 10) (eBin modD (eBin addD (eName 25) (eC (.int 1))) (eFun lenX (lCons (eName 10) lNil)))) (eIx (eName 10) (eName 25))) (eC (.int 1))) (eName 2)) (eC (.int 1))) (eName 23)) m_law_e15 [25]))
def m_law_s32 : Env → RS := (ifD (bBin neD (eCall d_onsets_apart (lCons (eName 2) (lCons (eName 10) (lCons (eName 23) lNil)))) (eBin eqD (eFun lenX (lCons (eName 24) lNil)) (eC (.int 0)))) (retD (eC (.bool false))) nextD)
def m_law_s33 : Env → RS := (ifD (bBin neD (eCall d_fits_twice (lCons (eName 2) (lCons (eName 10) lNil))) (eFun tupleD (lCons (eLc (eRng (lCons (eName 2) lNil)) (gN 25) (bBin eqD (eFun lenX (lCons (eLc (eIt (eName 10)) (gN 20) (bBin inX (eBin modD (eFun intD (lCons (eBin addD (eName 20) (eName 25)) lNil)) (eName 2)) (eName 10)) m_law_e16 [20]) lNil)) (eC (.int 0))) m_law_e17 [25]) lNil))) (retD (eC (.bool false))) nextD)
def m_law_s34 : Env → RS := (tryD (seqD (dropD (eCall d_set_of_pattern (lCons (eIx (eTup (lCons (eTup lNil) (lCons (eTup (lCons (eC (.int 2)) lNil)) (lCons (eLst (lCons (eC (.int 1)) lNil)) (lCons (eTup (lCons (eC (.bool true)) lNil)) (lCons (eC .none) lNil)))))) (eBin modD (eIx (eName 1) (eC (.int 22))) (eC (.int 5)))) lNil))) (retD (eC (.bool false)))) tb_law_BadSet (retD (eC (.bool true))))
def m_law : Env → RS := (seqD m_law_s0 (seqD m_law_s1 (seqD m_law_s2 (seqD m_law_s3 (seqD m_law_s4 (seqD m_law_s5 (seqD m_law_s6 (seqD m_law_s7 (seqD m_law_s8 (seqD m_law_s9 (seqD m_law_s10 (seqD m_law_s11 (seqD m_law_s12 (seqD m_law_s13 (seqD m_law_s14 (seqD m_law_s15 (seqD m_law_s16 (seqD m_law_s17 (seqD m_law_s18 (seqD m_law_s19 (seqD m_law_s20 (seqD m_law_s21 (seqD m_law_s22 (seqD m_law_s23 (seqD m_law_s24 (seqD m_law_s25 (seqD m_law_s26 (seqD m_law_s27 (seqD m_law_s28 (seqD m_law_s29 (seqD m_law_s30 (seqD m_law_s31 (seqD m_law_s32 (seqD m_law_s33 m_law_s34))))))))))))))))))))))))))))))))))
def d_law : List D → R D := callD N_law.length m_law
end Pd.Law
namespace Pd.Law
open PySem PySem.Spec PyProof.Rows L2 Pd
open Pd (D Env)
theorem ok__law_balanced {P : Program} {w : World} {K : PySem.W.Frag} {mg : Str → Option Value} {base : Heap} {T : List Addr} {fd : FuncData} (B : Bt mg) (F : FunD K "_law_balanced" "_law_balanced" (defArgs (top 33)) (defBody (top 33)) (defScope (top 33)) [] [] (He.fAd K ("_law_balanced", none)) fd) (gm : mg "_law_balanced" = some (.ref (He.fAd K ("_law_balanced", none)))) :
    FD P w K mg base T 1 "_law_balanced" 1 d__law_balanced :=
  fd_of (k := 0) (N := N__law_balanced) (ps := ["pattern"]) (B := m__law_balanced) F S__law_balanced gm (fun _ _ _ _ _ _ us hl => match us, hl with | [_], _ => rfl) fun A outer s H E hr =>
    (svs_cons (O1 := []) (sv_set (O' := []) (S__law_balanced).nd rfl (.inr rfl) (ev_fresh (ev_fn c_lenX (by rfl) B.len bt_len (av_cons (ev_nameU 0 (pe_var rfl (.inr (.inl rfl)))) av_nil)) (im_fun im_lenX))) (svs_cons (O1 := []) (sv_for (passes_of rfl) rfl (iv_range2 (by rfl) B.range (av_cons ev_int (av_cons (ev_nameU 1 (pe_var rfl (.inr (.inl rfl)))) av_nil))) (gv_name (S__law_balanced).nd rfl (.inr rfl)) (fun _ => (svs_cons (O1 := []) (sv_setLc (O' := []) rfl (S__law_balanced).nd rfl rfl (iv_range1 (by rfl) B.range (av_cons (ev_nameU 1 (pe_var rfl (.inr (.inl rfl)))) av_nil)) (blk (N := N__law_balanced) (sc := sc__law_balanced) (own := [("at", 4)]) (by decide +kernel)) (fun _ _ _ _ _ => (gv_name (S__law_balanced).nd rfl (.inr rfl))) (fun _ _ _ _ _ _ => tts_nil) (fun _ _ _ _ _ _ => (ev_fn (c_sum rfl) (by rfl) B.sum bt_sum (av_cons (ev_lc rfl (S__law_balanced).nd (iv_range1 (by rfl) B.range (av_cons (ev_nameU 2 (pe_var rfl (.inr (.inl rfl)))) av_nil)) (blk (N := N__law_balanced) (sc := _) (own := [("k", 5)]) (by kernel_rfl)) (fun _ _ _ _ _ => (gv_name (S__law_balanced).nd rfl (.inl rfl))) (fun _ _ _ _ _ _ => tts_nil) (fun _ _ _ _ _ _ => (ev_imm (ev_ix (ev_nameU 0 (pe_var rfl (.inr (.inl rfl)))) (ev_fresh (ev_bin b_mod (ev_fresh (ev_ty c_int (by rfl) B.int bt_int (av_cons (ev_bin b_add (ev_nameU 4 (pe_var rfl (.inr (.inl rfl)))) (ev_nameU 5 (pe_var rfl (.inl rfl)))) av_nil)) (im_fun im_int)) (ev_nameU 1 (pe_var rfl (.inr (.inl rfl))))) (im_bin im_mod)))))) av_nil)))) (svs_one (sv_if (tv_cmp (b_gtX (u64 hr)) (ev_fresh (ev_bin b_sub (ev_fn (c_maxL rfl (u65 hr)) (by rfl) B.max bt_max (av_cons (ev_nameU 3 (pe_var rfl (.inl rfl))) av_nil)) (ev_fn (c_minL rfl (u65 hr)) (by rfl) B.min bt_min (av_cons (ev_nameU 3 (pe_var rfl (.inl rfl))) av_nil))) (im_bin im_sub)) ev_int (nobehind _ (by decide) (by decide))) (svs_one (sv_ret ev_bl)) (svs_nil)))))) (svs_one (sv_ret ev_bl))))
end Pd.Law
namespace Pd.Law
open PySem PySem.Spec PyProof.Rows L2 Pd
open Pd (D Env)
theorem ok__law_cell {P : Program} {w : World} {K : PySem.W.Frag} {mg : Str → Option Value} {base : Heap} {T : List Addr} {fd : FuncData} (B : Bt mg) (F : FunD K "_law_cell" "_law_cell" (defArgs (top 29)) (defBody (top 29)) (defScope (top 29)) [] [] (He.fAd K ("_law_cell", none)) fd) (gm : mg "_law_cell" = some (.ref (He.fAd K ("_law_cell", none)))) :
    FD P w K mg base T 1 "_law_cell" 2 d__law_cell :=
  fd_of (k := 0) (N := N__law_cell) (ps := ["script", "k"]) (B := m__law_cell) F S__law_cell gm (fun _ _ _ _ _ _ us hl => match us, hl with | [_, _], _ => rfl) fun A outer s H E hr =>
    (svs_cons (O1 := []) (sv_if (tv_cmp (b_ltX (u64 hr)) (ev_nameU 1 (pe_var rfl (.inl rfl))) (ev_fresh (ev_fn c_lenX (by rfl) B.len bt_len (av_cons (ev_nameU 0 (pe_var rfl (.inl rfl))) av_nil)) (im_fun im_lenX)) (nobehind _ (by decide) (by decide))) (svs_one (sv_ret (ev_imm (ev_ix (ev_nameU 0 (pe_var rfl (.inl rfl))) (ev_nameU 1 (pe_var rfl (.inl rfl))))))) (svs_nil)) (svs_one (sv_ret ev_int)))
end Pd.Law
namespace Pd.Law
open PySem PySem.Spec PyProof.Rows L2 Pd
open Pd (D Env)
theorem ok__law_draws {P : Program} {w : World} {K : PySem.W.Frag} {mg : Str → Option Value} {base : Heap} {T : List Addr} {fd : FuncData} (B : Bt mg) (F : FunD K "_law_draws" "_law_draws" (defArgs (top 30)) (defBody (top 30)) (defScope (top 30)) [] [] (He.fAd K ("_law_draws", none)) fd) (gm : mg "_law_draws" = some (.ref (He.fAd K ("_law_draws", none)))) :
    FD P w K mg base T 1 "_law_draws" 2 d__law_draws :=
  fd_of (k := 0) (N := N__law_draws) (ps := ["cell", "count"]) (B := m__law_draws) F S__law_draws gm (fun _ _ _ _ _ _ us hl => match us, hl with | [_, _], _ => rfl) fun A outer s H E hr =>
    (svs_cons (O1 := [2]) (sv_set (O' := [2]) (S__law_draws).nd rfl (.inl rfl) (ev_lst av_nil)) (svs_cons (O1 := [2]) (sv_set (O' := [2]) (S__law_draws).nd rfl (.inl rfl) (ev_fresh (ev_ty c_int (by rfl) B.int bt_int (av_cons (ev_nameU 0 (pe_var rfl (.inl rfl))) av_nil)) (im_fun im_int))) (svs_cons (O1 := [2]) (sv_for (passes_of rfl) rfl (iv_range1 (by rfl) B.range (av_cons (ev_nameU 1 (pe_var rfl (.inl rfl))) av_nil)) (gv_name (S__law_draws).nd rfl (.inl rfl)) (fun _ => (svs_cons (O1 := [2]) (sv_set (O' := [2]) (S__law_draws).nd rfl (.inl rfl) (ev_bin b_mod (ev_fresh (ev_ty c_int (by rfl) B.int bt_int (av_cons (ev_bin b_add (ev_bin b_add (ev_bin b_mul (ev_nameU 0 (pe_var rfl (.inl rfl))) ev_int) (ev_bin b_mul (ev_nameU 4 (pe_var rfl (.inl rfl))) ev_int)) ev_int) av_nil)) (im_fun im_int)) ev_int)) (svs_one (sv_if (tv_cmp (b_geX (u64 hr)) (ev_nameU 0 (pe_var rfl (.inl rfl))) (ev_bin b_pow ev_int ev_int) (nobehind _ (by decide) (by decide))) (svs_cons (O1 := [2]) (sv_app (pe_var rfl (.inl rfl)) (av_cons (ev_fresh (ev_bin b_mod (ev_nameU 3 (pe_var rfl (.inl rfl))) ev_int) (im_bin im_mod)) av_nil)) (svs_one (sv_set (O' := [2]) (S__law_draws).nd rfl (.inl rfl) (ev_fresh (ev_bin b_fdiv (ev_nameU 3 (pe_var rfl (.inl rfl))) ev_int) (im_bin im_fdiv))))) (svs_one (sv_app (pe_var rfl (.inl rfl)) (av_cons (ev_bin b_fdiv (ev_bin b_mod (ev_fresh (ev_ty c_int (by rfl) B.int bt_int (av_cons (ev_bin b_add (ev_bin b_mul (ev_nameU 5 (pe_var rfl (.inl rfl))) (ev_nameU 5 (pe_var rfl (.inl rfl)))) (ev_bin b_mul (ev_nameU 5 (pe_var rfl (.inl rfl))) ev_int)) av_nil)) (im_fun im_int)) ev_int) ev_int) av_nil)))))))) (svs_one (sv_retO (pe_var rfl (.inl rfl)))))))
end Pd.Law
namespace Pd.Law
open PySem PySem.Spec PyProof.Rows L2 Pd
open Pd (D Env)
theorem ok__law_moved {P : Program} {w : World} {K : PySem.W.Frag} {mg : Str → Option Value} {base : Heap} {T : List Addr} {fd : FuncData} (B : Bt mg) (F : FunD K "_law_moved" "_law_moved" (defArgs (top 31)) (defBody (top 31)) (defScope (top 31)) [] [] (He.fAd K ("_law_moved", none)) fd) (gm : mg "_law_moved" = some (.ref (He.fAd K ("_law_moved", none)))) :
    FD P w K mg base T 1 "_law_moved" 3 d__law_moved :=
  fd_of (k := 0) (N := N__law_moved) (ps := ["many", "own", "steps"]) (B := m__law_moved) F S__law_moved gm (fun _ _ _ _ _ _ us hl => match us, hl with | [_, _, _], _ => rfl) fun A outer s H E hr =>
    (svs_one (sv_ret (ev_ty c_tuple (by rfl) B.tuple bt_tuple (av_cons (ev_sorted (u65 hr) (by rfl) B.sorted (av_cons (ev_lc rfl (S__law_moved).nd (iv_seq (ev_nameU 1 (pe_var rfl (.inl rfl)))) (blk (N := N__law_moved) (sc := sc__law_moved) (own := [("one", 3)]) (by decide +kernel)) (fun _ _ _ _ _ => (gv_name (S__law_moved).nd rfl (.inl rfl))) (fun _ _ _ _ _ _ => tts_nil) (fun _ _ _ _ _ _ => (ev_fresh (ev_bin b_mod (ev_fresh (ev_ty c_int (by rfl) B.int bt_int (av_cons (ev_bin b_add (ev_nameU 3 (pe_var rfl (.inl rfl))) (ev_nameU 2 (pe_var rfl (.inr (.inl rfl))))) av_nil)) (im_fun im_int)) (ev_nameU 0 (pe_var rfl (.inr (.inl rfl))))) (im_bin im_mod)))) av_nil)) av_nil))))
end Pd.Law
namespace Pd.Law
open PySem PySem.Spec PyProof.Rows L2 Pd
open Pd (D Env)
theorem ok__law_spans {P : Program} {w : World} {K : PySem.W.Frag} {mg : Str → Option Value} {base : Heap} {T : List Addr} {fd : FuncData} (B : Bt mg) (F : FunD K "_law_spans" "_law_spans" (defArgs (top 32)) (defBody (top 32)) (defScope (top 32)) [] [] (He.fAd K ("_law_spans", none)) fd) (gm : mg "_law_spans" = some (.ref (He.fAd K ("_law_spans", none)))) :
    FD P w K mg base T 1 "_law_spans" 2 d__law_spans :=
  fd_of (k := 0) (N := N__law_spans) (ps := ["many", "own"]) (B := m__law_spans) F S__law_spans gm (fun _ _ _ _ _ _ us hl => match us, hl with | [_, _], _ => rfl) fun A outer s H E hr =>
    (svs_cons (O1 := [2]) (sv_set (O' := [2]) (S__law_spans).nd rfl (.inl rfl) (ev_lst av_nil)) (svs_cons (O1 := [2]) (sv_for (passes_of rfl) rfl (iv_range2 (by rfl) B.range (av_cons ev_int (av_cons (ev_fresh (ev_fn c_lenX (by rfl) B.len bt_len (av_cons (ev_nameU 1 (pe_var rfl (.inr (.inl rfl)))) av_nil)) (im_fun im_lenX)) av_nil))) (gv_name (S__law_spans).nd rfl (.inr rfl)) (fun _ => (svs_cons (O1 := [2]) (sv_set (O' := [2]) (S__law_spans).nd rfl (.inr rfl) (ev_lc rfl (S__law_spans).nd (iv_range1 (by rfl) B.range (av_cons (ev_fresh (ev_fn c_lenX (by rfl) B.len bt_len (av_cons (ev_nameU 1 (pe_var rfl (.inr (.inl rfl)))) av_nil)) (im_fun im_lenX)) av_nil)) (blk (N := N__law_spans) (sc := sc__law_spans) (own := [("k", 5)]) (by decide +kernel)) (fun _ _ _ _ _ => (gv_name (S__law_spans).nd rfl (.inl rfl))) (fun _ _ _ _ _ _ => tts_nil) (fun _ _ _ _ _ _ => (ev_fresh (ev_bin b_mod (ev_ty c_int (by rfl) B.int bt_int (av_cons (ev_fresh (ev_bin b_sub (ev_ix (ev_nameU 1 (pe_var rfl (.inr (.inl rfl)))) (ev_fresh (ev_bin b_mod (ev_bin b_add (ev_nameU 5 (pe_var rfl (.inl rfl))) (ev_nameU 3 (pe_var rfl (.inr (.inl rfl))))) (ev_fresh (ev_fn c_lenX (by rfl) B.len bt_len (av_cons (ev_nameU 1 (pe_var rfl (.inr (.inl rfl)))) av_nil)) (im_fun im_lenX))) (im_bin im_mod))) (ev_ix (ev_nameU 1 (pe_var rfl (.inr (.inl rfl)))) (ev_nameU 5 (pe_var rfl (.inl rfl))))) (im_bin im_sub)) av_nil)) (ev_nameU 0 (pe_var rfl (.inr (.inl rfl))))) (im_bin im_mod))))) (svs_one (sv_app (pe_var rfl (.inl rfl)) (av_cons (ev_ty c_tuple (by rfl) B.tuple bt_tuple (av_cons (ev_lc rfl (S__law_spans).nd (iv_range1 (by rfl) B.range (av_cons (ev_nameU 0 (pe_var rfl (.inr (.inl rfl)))) av_nil)) (blk (N := N__law_spans) (sc := sc__law_spans) (own := [("one", 6)]) (by decide +kernel)) (fun _ _ _ _ _ => (gv_name (S__law_spans).nd rfl (.inl rfl))) (fun _ _ _ _ _ _ => (tts_one (tv_cmp (b_inX (u65 hr)) (ev_nameU 6 (pe_var rfl (.inl rfl))) (ev_nameU 4 (pe_var rfl (.inr (.inl rfl)))) rfl))) (fun _ _ _ _ _ _ => (ev_imm (ev_nameU 6 (pe_var rfl (.inl rfl)))))) av_nil)) av_nil)))))) (svs_one (sv_retO (pe_var rfl (.inl rfl))))))
end Pd.Law
namespace Pd.Law
open PySem PySem.Spec PyProof.Rows L2 Pd
open Pd (D Env)
theorem ok_check_parts {P : Program} {w : World} {K : PySem.W.Frag} {mg : Str → Option Value} {base : Heap} {T : List Addr} {fd : FuncData} (B : Bt mg) (F : FunD K "check_parts" "check_parts" (defArgs (top 12)) (defBody (top 12)) (defScope (top 12)) [] [] (He.fAd K ("check_parts", none)) fd) (gm : mg "check_parts" = some (.ref (He.fAd K ("check_parts", none)))) (x_BadNumber : ExD K mg "BadNumber") (h_check_round : FD P w K mg base T 2 "check_round" 1 d_check_round) (h_is_number : FD P w K mg base T 1 "is_number" 1 d_is_number) :
    FD P w K mg base T 3 "check_parts" 2 d_check_parts :=
  fd_of (k := 2) (N := N_check_parts) (ps := ["many", "size"]) (B := m_check_parts) F S_check_parts gm (fun _ _ _ _ _ _ us hl => match us, hl with | [_, _], _ => rfl) fun A outer s H E hr =>
    (svs_cons (O1 := []) (sv_expr (ev_call (h_check_round.mono (by decide)) hr (by rfl) (takes_of rfl rfl rfl rfl) (av_cons (ev_nameU 0 (pe_var rfl (.inl rfl))) av_nil))) (svs_one (sv_if (tv_pw (wv_or (tv_not (tv_tru (ev_call (h_is_number.mono (by decide)) hr (by rfl) (takes_of rfl rfl rfl rfl) (av_cons (ev_nameU 1 (pe_var rfl (.inl rfl))) av_nil)))) (wv_or1 (tv_not (tv_chain (b_leX (u64 hr)) (b_leX (u64 hr)) ev_int (ev_nameU 1 (pe_var rfl (.inl rfl))) (ev_nameU 0 (pe_var rfl (.inl rfl)))))))) (svs_one (sv_raise rfl (takes_of rfl rfl rfl rfl) x_BadNumber rfl)) (svs_nil))))
end Pd.Law
namespace Pd.Law
open PySem PySem.Spec PyProof.Rows L2 Pd
open Pd (D Env)
theorem ok_check_round {P : Program} {w : World} {K : PySem.W.Frag} {mg : Str → Option Value} {base : Heap} {T : List Addr} {fd : FuncData} (B : Bt mg) (F : FunD K "check_round" "check_round" (defArgs (top 8)) (defBody (top 8)) (defScope (top 8)) [] [] (He.fAd K ("check_round", none)) fd) (gm : mg "check_round" = some (.ref (He.fAd K ("check_round", none)))) (x_BadSet : ExD K mg "BadSet") (k_MOST_ROUND : ∃ t, mg "MOST_ROUND" = some (.int (24) t)) (h_is_number : FD P w K mg base T 1 "is_number" 1 d_is_number) :
    FD P w K mg base T 2 "check_round" 1 d_check_round :=
  fd_of (k := 1) (N := N_check_round) (ps := ["many"]) (B := m_check_round) F S_check_round gm (fun _ _ _ _ _ _ us hl => match us, hl with | [_], _ => rfl) fun A outer s H E hr =>
    (svs_one (sv_if (tv_pw (wv_or (tv_not (tv_tru (ev_call (h_is_number.mono (by decide)) hr (by rfl) (takes_of rfl rfl rfl rfl) (av_cons (ev_nameU 0 (pe_var rfl (.inl rfl))) av_nil)))) (wv_or1 (tv_not (tv_chain (b_leX (u64 hr)) (b_leX (u64 hr)) ev_int (ev_nameU 0 (pe_var rfl (.inl rfl))) (ev_gint (by rfl) k_MOST_ROUND)))))) (svs_one (sv_raise rfl (takes_of rfl rfl rfl rfl) x_BadSet rfl)) (svs_nil)))
end Pd.Law
namespace Pd.Law
open PySem PySem.Spec PyProof.Rows L2 Pd
open Pd (D Env)
theorem ok_check_set {P : Program} {w : World} {K : PySem.W.Frag} {mg : Str → Option Value} {base : Heap} {T : List Addr} {fd : FuncData} (B : Bt mg) (F : FunD K "check_set" "check_set" (defArgs (top 9)) (defBody (top 9)) (defScope (top 9)) [] [] (He.fAd K ("check_set", none)) fd) (gm : mg "check_set" = some (.ref (He.fAd K ("check_set", none)))) (x_BadSet : ExD K mg "BadSet") (h_check_round : FD P w K mg base T 2 "check_round" 1 d_check_round) (h_is_number : FD P w K mg base T 1 "is_number" 1 d_is_number) (TB : GxR.TabB base mg (He.cT K ("check_set", none)).1 (He.cT K ("check_set", none)).2) (hP : (He.cT K ("check_set", none)).2 ∈ T) :
    FD P w K mg base T 5 "check_set" 2 d_check_set :=
  fd_of (k := 4) (N := N_check_set) (ps := ["many", "own"]) (B := m_check_set) F S_check_set gm (fun _ _ _ _ _ _ us hl => match us, hl with | [_, _], _ => rfl) fun A outer s H E hr =>
    (svs_cons (O1 := []) (sv_expr (ev_call (h_check_round.mono (by decide)) hr (by rfl) (takes_of rfl rfl rfl rfl) (av_cons (ev_nameU 0 (pe_var rfl (.inr (.inl rfl)))) av_nil))) (svs_cons (O1 := []) (sv_if (tv_pw (wv_or (tv_not (tv_tru (ev_isi (by rfl) B.isinstance (by rfl) B.tuple bt_tuple isi_tuple (ev_nameU 1 (pe_var rfl (.inr (.inl rfl))))))) (wv_or1 (tv_not (tv_tru (ev_all (k := 1) (hr.mono (by decide)) rfl (S_check_set).nd (by rfl) B.all TB hP rfl (blk (N := N_check_set) (sc := sc_check_set) (own := [("one", 2)]) (by decide +kernel)) (genk (by decide +kernel)) (iv_seq (ev_nameU 1 (pe_var rfl (.inr (.inl rfl))))) nxN (fun _ _ _ _ _ _ _ => (gv_name (S_check_set).nd rfl (.inl rfl))) (fun _ _ _ _ _ _ _ r => tts_nil) (fun _ _ _ _ _ _ _ r => (ev_and (ev_call (h_is_number.mono (by decide)) r (by rfl) takes0 (av_cons (ev_nameU 2 (pe_var rfl (.inl rfl))) av_nil)) (ev_one (ev_chain (b_leX (u64 r)) (b_ltX (u64 r)) ev_int (ev_nameU 2 (pe_var rfl (.inl rfl))) (ev_nameU 0 (pe_var rfl (.inr (.inr rfl)))) (fun _ _ _ e => imm_ord e))))))))))) (svs_one (sv_raise rfl (takes_of rfl rfl rfl rfl) x_BadSet rfl)) (svs_nil)) (svs_one (sv_if (tv_tru (ev_any (k := 0) (hr.mono (by decide)) rfl (S_check_set).nd (by rfl) B.any TB hP rfl (blk (N := N_check_set) (sc := sc_check_set) (own := [("k", 3)]) (by decide +kernel)) (genk (by decide +kernel)) (iv_range1 (by rfl) B.range (av_cons (ev_bin b_sub (ev_fresh (ev_fn c_lenX (by rfl) B.len bt_len (av_cons (ev_nameU 1 (pe_var rfl (.inr (.inl rfl)))) av_nil)) (im_fun im_lenX)) ev_int) av_nil)) nxN (fun _ _ _ _ _ _ _ => (gv_name (S_check_set).nd rfl (.inl rfl))) (fun _ _ _ _ _ _ _ r => tts_nil) (fun _ _ _ _ _ _ _ r => (ev_fresh (ev_cmp (b_geX (u64 r)) (ev_ix (ev_nameU 1 (pe_var rfl (.inr (.inr rfl)))) (ev_nameU 3 (pe_var rfl (.inl rfl)))) (ev_ix (ev_nameU 1 (pe_var rfl (.inr (.inr rfl)))) (ev_bin b_add (ev_nameU 3 (pe_var rfl (.inl rfl))) ev_int)) (nobehind _ (by decide) (by decide))) (im_bin im_geX))))) (svs_one (sv_raise rfl (takes_of rfl rfl rfl rfl) x_BadSet rfl)) (svs_nil)))))
end Pd.Law
namespace Pd.Law
open PySem PySem.Spec PyProof.Rows L2 Pd
open Pd (D Env)
theorem ok_closes {P : Program} {w : World} {K : PySem.W.Frag} {mg : Str → Option Value} {base : Heap} {T : List Addr} {fd : FuncData} (B : Bt mg) (F : FunD K "closes" "closes" (defArgs (top 24)) (defBody (top 24)) (defScope (top 24)) [] [] (He.fAd K ("closes", none)) fd) (gm : mg "closes" = some (.ref (He.fAd K ("closes", none)))) (TB : GxR.TabB base mg (He.cT K ("closes", none)).1 (He.cT K ("closes", none)).2) (hP : (He.cT K ("closes", none)).2 ∈ T) :
    FD P w K mg base T 4 "closes" 2 d_closes :=
  fd_of (k := 3) (N := N_closes) (ps := ["places", "size"]) (B := m_closes) F S_closes gm (fun _ _ _ _ _ _ us hl => match us, hl with | [_, _], _ => rfl) fun A outer s H E hr =>
    (svs_cons (O1 := []) (sv_set (O' := []) (S_closes).nd rfl (.inr rfl) (ev_if (tv_cmp (b_gtX (u64 hr)) (ev_nameU 1 (pe_var rfl (.inr (.inl rfl)))) ev_int (nobehind _ (by decide) (by decide))) (ev_fresh (ev_bin b_mod (ev_fresh (ev_bin b_sub (ev_ix (ev_nameU 0 (pe_var rfl (.inr (.inl rfl)))) ev_int) (ev_ix (ev_nameU 0 (pe_var rfl (.inr (.inl rfl)))) ev_int)) (im_bin im_sub)) (ev_nameU 1 (pe_var rfl (.inr (.inl rfl))))) (im_bin im_mod)) ev_int)) (svs_one (sv_ret (ev_all (k := 0) (hr.mono (by decide)) rfl (S_closes).nd (by rfl) B.all TB hP rfl (blk (N := N_closes) (sc := sc_closes) (own := [("k", 3)]) (by decide +kernel)) (genk (by decide +kernel)) (iv_range1 (by rfl) B.range (av_cons (ev_nameU 1 (pe_var rfl (.inr (.inl rfl)))) av_nil)) nxN (fun _ _ _ _ _ _ _ => (gv_name (S_closes).nd rfl (.inl rfl))) (fun _ _ _ _ _ _ _ r => tts_nil) (fun _ _ _ _ _ _ _ r => (ev_fresh (ev_cmp (b_eq (u64 r)) (ev_fresh (ev_bin b_mod (ev_fresh (ev_bin b_sub (ev_ix (ev_nameU 0 (pe_var rfl (.inr (.inr rfl)))) (ev_fresh (ev_bin b_mod (ev_bin b_add (ev_nameU 3 (pe_var rfl (.inl rfl))) ev_int) (ev_nameU 1 (pe_var rfl (.inr (.inr rfl))))) (im_bin im_mod))) (ev_ix (ev_nameU 0 (pe_var rfl (.inr (.inr rfl)))) (ev_nameU 3 (pe_var rfl (.inl rfl))))) (im_bin im_sub)) (ev_nameU 1 (pe_var rfl (.inr (.inr rfl))))) (im_bin im_mod)) (ev_nameU 2 (pe_var rfl (.inr (.inr rfl)))) (nobehind _ (by decide) (by decide))) (im_bin im_eq)))))))
end Pd.Law
namespace Pd.Law
open PySem PySem.Spec PyProof.Rows L2 Pd
open Pd (D Env)
theorem ok_even_set {P : Program} {w : World} {K : PySem.W.Frag} {mg : Str → Option Value} {base : Heap} {T : List Addr} {fd : FuncData} (B : Bt mg) (F : FunD K "even_set" "even_set" (defArgs (top 13)) (defBody (top 13)) (defScope (top 13)) [] [] (He.fAd K ("even_set", none)) fd) (gm : mg "even_set" = some (.ref (He.fAd K ("even_set", none)))) (x_BadNumber : ExD K mg "BadNumber") (h_check_parts : FD P w K mg base T 3 "check_parts" 2 d_check_parts) (h_is_number : FD P w K mg base T 1 "is_number" 1 d_is_number) :
    FD P w K mg base T 4 "even_set" 3 d_even_set :=
  fd_of (k := 3) (N := N_even_set) (ps := ["many", "size", "start"]) (B := m_even_set) F S_even_set gm (fun _ _ _ _ _ _ us hl => match us, hl with | [_, _, _], _ => rfl) fun A outer s H E hr =>
    (svs_cons (O1 := []) (sv_expr (ev_call (h_check_parts.mono (by decide)) hr (by rfl) (takes_of rfl rfl rfl rfl) (av_cons (ev_nameU 0 (pe_var rfl (.inr (.inl rfl)))) (av_cons (ev_nameU 1 (pe_var rfl (.inr (.inl rfl)))) av_nil)))) (svs_cons (O1 := []) (sv_if (tv_pw (wv_or (tv_not (tv_tru (ev_call (h_is_number.mono (by decide)) hr (by rfl) (takes_of rfl rfl rfl rfl) (av_cons (ev_nameU 2 (pe_var rfl (.inr (.inl rfl)))) av_nil)))) (wv_or1 (tv_not (tv_chain (b_leX (u64 hr)) (b_ltX (u64 hr)) ev_int (ev_nameU 2 (pe_var rfl (.inr (.inl rfl)))) (ev_nameU 1 (pe_var rfl (.inr (.inl rfl))))))))) (svs_one (sv_raise rfl (takes_of rfl rfl rfl rfl) x_BadNumber rfl)) (svs_nil)) (svs_one (sv_ret (ev_ty c_tuple (by rfl) B.tuple bt_tuple (av_cons (ev_sorted (u65 hr) (by rfl) B.sorted (av_cons (ev_lc rfl (S_even_set).nd (iv_range1 (by rfl) B.range (av_cons (ev_nameU 1 (pe_var rfl (.inr (.inl rfl)))) av_nil)) (blk (N := N_even_set) (sc := sc_even_set) (own := [("k", 3)]) (by decide +kernel)) (fun _ _ _ _ _ => (gv_name (S_even_set).nd rfl (.inl rfl))) (fun _ _ _ _ _ _ => tts_nil) (fun _ _ _ _ _ _ => (ev_fresh (ev_bin b_mod (ev_fresh (ev_bin b_fdiv (ev_bin b_add (ev_bin b_mul (ev_nameU 3 (pe_var rfl (.inl rfl))) (ev_nameU 0 (pe_var rfl (.inr (.inl rfl))))) (ev_nameU 2 (pe_var rfl (.inr (.inl rfl))))) (ev_nameU 1 (pe_var rfl (.inr (.inl rfl))))) (im_bin im_fdiv)) (ev_nameU 0 (pe_var rfl (.inr (.inl rfl))))) (im_bin im_mod)))) av_nil)) av_nil))))))
end Pd.Law
namespace Pd.Law
open PySem PySem.Spec PyProof.Rows L2 Pd
open Pd (D Env)
theorem ok_fits_twice {P : Program} {w : World} {K : PySem.W.Frag} {mg : Str → Option Value} {base : Heap} {T : List Addr} {fd : FuncData} (B : Bt mg) (F : FunD K "fits_twice" "fits_twice" (defArgs (top 27)) (defBody (top 27)) (defScope (top 27)) [] [] (He.fAd K ("fits_twice", none)) fd) (gm : mg "fits_twice" = some (.ref (He.fAd K ("fits_twice", none)))) (h_check_set : FD P w K mg base T 5 "check_set" 2 d_check_set) (TB : GxR.TabB base mg (He.cT K ("fits_twice", none)).1 (He.cT K ("fits_twice", none)).2) (hP : (He.cT K ("fits_twice", none)).2 ∈ T) :
    FD P w K mg base T 6 "fits_twice" 2 d_fits_twice :=
  fd_of (k := 5) (N := N_fits_twice) (ps := ["many", "own"]) (B := m_fits_twice) F S_fits_twice gm (fun _ _ _ _ _ _ us hl => match us, hl with | [_, _], _ => rfl) fun A outer s H E hr =>
    (svs_cons (O1 := []) (sv_expr (ev_call (h_check_set.mono (by decide)) hr (by rfl) (takes_of rfl rfl rfl rfl) (av_cons (ev_nameU 0 (pe_var rfl (.inr (.inl rfl)))) (av_cons (ev_nameU 1 (pe_var rfl (.inr (.inl rfl)))) av_nil)))) (svs_one (sv_ret (ev_ty c_tuple (by rfl) B.tuple bt_tuple (av_cons (ev_lc rfl (S_fits_twice).nd (iv_range1 (by rfl) B.range (av_cons (ev_nameU 0 (pe_var rfl (.inr (.inl rfl)))) av_nil)) (blk (N := N_fits_twice) (sc := sc_fits_twice) (own := [("k", 2)]) (by decide +kernel)) (fun _ _ _ _ _ => (gv_name (S_fits_twice).nd rfl (.inr rfl))) (fun _ _ _ _ _ _ => (tts_one (tv_not (tv_tru (ev_any (k := 0) (hr.mono (by decide)) rfl (S_fits_twice).nd (by rfl) B.any TB hP rfl (blk (N := N_fits_twice) (sc := _) (own := [("one", 3)]) (by kernel_rfl)) (genk (by decide +kernel)) (iv_seq (ev_nameU 1 (pe_var rfl (.inr (.inl rfl))))) nxN (fun _ _ _ _ _ _ _ => (gv_name (S_fits_twice).nd rfl (.inl rfl))) (fun _ _ _ _ _ _ _ r => tts_nil) (fun _ _ _ _ _ _ _ r => (ev_fresh (ev_cmp (b_inX (u65 r)) (ev_fresh (ev_bin b_mod (ev_bin b_add (ev_nameU 3 (pe_var rfl (.inl rfl))) (ev_nameU 2 (pe_var rfl (.inr (.inr rfl))))) (ev_nameU 0 (pe_var rfl (.inr (.inr rfl))))) (im_bin im_mod)) (ev_nameU 1 (pe_var rfl (.inr (.inr rfl)))) rfl) (im_bin im_inX)))))))) (fun _ _ _ _ _ _ => (ev_imm (ev_nameU 2 (pe_var rfl (.inr (.inl rfl))))))) av_nil)))))
end Pd.Law
namespace Pd.Law
open PySem PySem.Spec PyProof.Rows L2 Pd
open Pd (D Env)
theorem ok_folded_pattern {P : Program} {w : World} {K : PySem.W.Frag} {mg : Str → Option Value} {base : Heap} {T : List Addr} {fd : FuncData} (B : Bt mg) (F : FunD K "folded_pattern" "folded_pattern" (defArgs (top 14)) (defBody (top 14)) (defScope (top 14)) [] [] (He.fAd K ("folded_pattern", none)) fd) (gm : mg "folded_pattern" = some (.ref (He.fAd K ("folded_pattern", none)))) (h_check_parts : FD P w K mg base T 3 "check_parts" 2 d_check_parts) :
    FD P w K mg base T 4 "folded_pattern" 2 d_folded_pattern :=
  fd_of (k := 3) (N := N_folded_pattern) (ps := ["many", "size"]) (B := m_folded_pattern) F S_folded_pattern gm (fun _ _ _ _ _ _ us hl => match us, hl with | [_, _], _ => rfl) fun A outer s H E hr =>
    (svs_cons (O1 := []) (sv_expr (ev_call (h_check_parts.mono (by decide)) hr (by rfl) (takes_of rfl rfl rfl rfl) (av_cons (ev_nameU 0 (pe_var rfl (.inl rfl))) (av_cons (ev_nameU 1 (pe_var rfl (.inl rfl))) av_nil)))) (svs_cons (O1 := []) (sv_set (O' := []) (S_folded_pattern).nd rfl (.inr rfl) (ev_lc rfl (S_folded_pattern).nd (iv_range1 (by rfl) B.range (av_cons (ev_nameU 1 (pe_var rfl (.inl rfl))) av_nil)) (blk (N := N_folded_pattern) (sc := sc_folded_pattern) (own := [("k", 9)]) (by decide +kernel)) (fun _ _ _ _ _ => (gv_name (S_folded_pattern).nd rfl (.inl rfl))) (fun _ _ _ _ _ _ => tts_nil) (fun _ _ _ _ _ _ => (ev_lst (av_cons ev_int av_nil))))) (svs_cons (O1 := []) (sv_set (O' := []) (S_folded_pattern).nd rfl (.inr rfl) (ev_lc rfl (S_folded_pattern).nd (iv_range1 (by rfl) B.range (av_cons (ev_fresh (ev_bin b_sub (ev_nameU 0 (pe_var rfl (.inl rfl))) (ev_nameU 1 (pe_var rfl (.inl rfl)))) (im_bin im_sub)) av_nil)) (blk (N := N_folded_pattern) (sc := sc_folded_pattern) (own := [("k", 9)]) (by decide +kernel)) (fun _ _ _ _ _ => (gv_name (S_folded_pattern).nd rfl (.inl rfl))) (fun _ _ _ _ _ _ => tts_nil) (fun _ _ _ _ _ _ => (ev_lst (av_cons ev_int av_nil))))) (svs_cons (O1 := []) (sv_while 1000000000 (passes_of rfl) (tv_cmp (b_gtX (u64 hr)) (ev_fresh (ev_fn c_lenX (by rfl) B.len bt_len (av_cons (ev_nameU 3 (pe_var rfl (.inr (.inl rfl)))) av_nil)) (im_fun im_lenX)) ev_int (nobehind _ (by decide) (by decide))) (svs_cons (O1 := []) (sv_set (O' := []) (S_folded_pattern).nd rfl (.inl rfl) (ev_fn (c_min2 rfl) (by rfl) B.min bt_min (av_cons (ev_fresh (ev_fn c_lenX (by rfl) B.len bt_len (av_cons (ev_nameU 2 (pe_var rfl (.inr (.inl rfl)))) av_nil)) (im_fun im_lenX)) (av_cons (ev_fresh (ev_fn c_lenX (by rfl) B.len bt_len (av_cons (ev_nameU 3 (pe_var rfl (.inr (.inl rfl)))) av_nil)) (im_fun im_lenX)) av_nil)))) (svs_cons (O1 := []) (sv_setLc (O' := []) rfl (S_folded_pattern).nd rfl rfl (iv_range1 (by rfl) B.range (av_cons (ev_nameU 4 (pe_var rfl (.inl rfl))) av_nil)) (blk (N := N_folded_pattern) (sc := sc_folded_pattern) (own := [("k", 9)]) (by decide +kernel)) (fun _ _ _ _ _ => (gv_name (S_folded_pattern).nd rfl (.inl rfl))) (fun _ _ _ _ _ _ => tts_nil) (fun _ _ _ _ _ _ => (ev_cat (ev_ix (ev_nameU 2 (pe_var rfl (.inr (.inl rfl)))) (ev_nameU 9 (pe_var rfl (.inl rfl)))) (ev_ix (ev_nameU 3 (pe_var rfl (.inr (.inl rfl)))) (ev_nameU 9 (pe_var rfl (.inl rfl))))))) (svs_cons (O1 := []) (sv_set (O' := []) (S_folded_pattern).nd rfl (.inl rfl) (ev_if (tv_cmp (b_gtX (u64 hr)) (ev_fresh (ev_fn c_lenX (by rfl) B.len bt_len (av_cons (ev_nameU 2 (pe_var rfl (.inr (.inl rfl)))) av_nil)) (im_fun im_lenX)) (ev_nameU 4 (pe_var rfl (.inl rfl))) (nobehind _ (by decide) (by decide))) (ev_sl (ev_nameU 2 (pe_var rfl (.inr (.inl rfl)))) (pv_some (ev_nameU 4 (pe_var rfl (.inl rfl)))) pv_none) (ev_sl (ev_nameU 3 (pe_var rfl (.inr (.inl rfl)))) (pv_some (ev_nameU 4 (pe_var rfl (.inl rfl)))) pv_none))) (svs_one (sv_asg (O' := []) (gv_tup rfl (gvs_cons (gv_name (S_folded_pattern).nd rfl (.inr rfl)) (gvs_cons (gv_name (S_folded_pattern).nd rfl (.inr rfl)) gvs_nil))) (ev_tup (av_cons (ev_nameU 5 (pe_var rfl (.inl rfl))) (av_cons (ev_nameU 6 (pe_var rfl (.inl rfl))) av_nil))))))))) (svs_cons (O1 := []) (sv_set (O' := []) (S_folded_pattern).nd rfl (.inl rfl) (ev_lst av_nil)) (svs_cons (O1 := []) (sv_for (passes_of rfl) rfl (iv_seq (ev_bin b_add (ev_nameU 2 (pe_var rfl (.inr (.inl rfl)))) (ev_nameU 3 (pe_var rfl (.inr (.inl rfl)))))) (gv_name (S_folded_pattern).nd rfl (.inl rfl)) (fun _ => (svs_one (sv_set (O' := []) (S_folded_pattern).nd rfl (.inl rfl) (ev_bin b_add (ev_nameU 7 (pe_var rfl (.inl rfl))) (ev_nameU 8 (pe_var rfl (.inl rfl)))))))) (svs_one (sv_ret (ev_imm (ev_ty c_tuple (by rfl) B.tuple bt_tuple (av_cons (ev_nameU 7 (pe_var rfl (.inl rfl))) av_nil)))))))))))
end Pd.Law
namespace Pd.Law
open PySem PySem.Spec PyProof.Rows L2 Pd
open Pd (D Env)
theorem ok_gap_sizes {P : Program} {w : World} {K : PySem.W.Frag} {mg : Str → Option Value} {base : Heap} {T : List Addr} {fd : FuncData} (B : Bt mg) (F : FunD K "gap_sizes" "gap_sizes" (defArgs (top 22)) (defBody (top 22)) (defScope (top 22)) [] [] (He.fAd K ("gap_sizes", none)) fd) (gm : mg "gap_sizes" = some (.ref (He.fAd K ("gap_sizes", none)))) (h_scale_of : FD P w K mg base T 4 "scale_of" 3 d_scale_of) (h_steps_round : FD P w K mg base T 6 "steps_round" 2 d_steps_round) :
    FD P w K mg base T 7 "gap_sizes" 3 d_gap_sizes :=
  fd_of (k := 6) (N := N_gap_sizes) (ps := ["many", "step", "size"]) (B := m_gap_sizes) F S_gap_sizes gm (fun _ _ _ _ _ _ us hl => match us, hl with | [_, _, _], _ => rfl) fun A outer s H E hr =>
    (svs_one (sv_ret (ev_ty c_tuple (by rfl) B.tuple bt_tuple (av_cons (ev_sortSI rfl (u65 hr) (by rfl) B.sorted (pe_setc (u65 hr) (intUse _).kit (intUse _).him rfl (S_gap_sizes).nd (iv_seq (ev_call (h_steps_round.mono (by decide)) hr (by rfl) (takes_of rfl rfl rfl rfl) (av_cons (ev_nameU 0 (pe_var rfl (.inl rfl))) (av_cons (ev_call (h_scale_of.mono (by decide)) hr (by rfl) (takes_of rfl rfl rfl rfl) (av_cons (ev_nameU 0 (pe_var rfl (.inl rfl))) (av_cons (ev_nameU 1 (pe_var rfl (.inl rfl))) (av_cons (ev_nameU 2 (pe_var rfl (.inl rfl))) av_nil)))) av_nil)))) (blk (N := N_gap_sizes) (sc := sc_gap_sizes) (own := [("one", 3)]) (by decide +kernel)) (fun _ _ _ _ _ => (gv_name (S_gap_sizes).nd rfl (.inl rfl))) (fun _ _ _ _ _ _ => tts_nil) (fun _ _ _ _ _ _ => (ev_imm (ev_nameU 3 (pe_var rfl (.inl rfl))))))) av_nil))))
end Pd.Law
namespace Pd.Law
open PySem PySem.Spec PyProof.Rows L2 Pd
open Pd (D Env)
theorem ok_generators {P : Program} {w : World} {K : PySem.W.Frag} {mg : Str → Option Value} {base : Heap} {T : List Addr} {fd : FuncData} (B : Bt mg) (F : FunD K "generators" "generators" (defArgs (top 21)) (defBody (top 21)) (defScope (top 21)) [] [] (He.fAd K ("generators", none)) fd) (gm : mg "generators" = some (.ref (He.fAd K ("generators", none)))) (h_check_set : FD P w K mg base T 5 "check_set" 2 d_check_set) (TB : GxR.TabB base mg (He.cT K ("generators", none)).1 (He.cT K ("generators", none)).2) (hP : (He.cT K ("generators", none)).2 ∈ T) :
    FD P w K mg base T 6 "generators" 2 d_generators :=
  fd_of (k := 5) (N := N_generators) (ps := ["many", "own"]) (B := m_generators) F S_generators gm (fun _ _ _ _ _ _ us hl => match us, hl with | [_, _], _ => rfl) fun A outer s H E hr =>
    (svs_cons (O1 := []) (sv_expr (ev_call (h_check_set.mono (by decide)) hr (by rfl) (takes_of rfl rfl rfl rfl) (av_cons (ev_nameU 0 (pe_var rfl (.inr (.inl rfl)))) (av_cons (ev_nameU 1 (pe_var rfl (.inl rfl))) av_nil)))) (svs_cons (O1 := [2]) (sv_set (O' := [2]) (S_generators).nd rfl (.inl rfl) (ev_lst av_nil)) (svs_cons (O1 := [2]) (sv_for (passes_of rfl) rfl (iv_range1 (by rfl) B.range (av_cons (ev_nameU 0 (pe_var rfl (.inr (.inl rfl)))) av_nil)) (gv_name (S_generators).nd rfl (.inr rfl)) (fun _ => (svs_one (sv_for (passes_of rfl) rfl (iv_seq (ev_nameU 1 (pe_var rfl (.inl rfl)))) (gv_name (S_generators).nd rfl (.inr rfl)) (fun _ => (svs_cons (O1 := [2]) (sv_set (O' := [2]) (S_generators).nd rfl (.inr rfl) (ev_dc rfl (S_generators).nd (iv_range1 (by rfl) B.range (av_cons (ev_fresh (ev_fn c_lenX (by rfl) B.len bt_len (av_cons (ev_nameU 1 (pe_var rfl (.inl rfl))) av_nil)) (im_fun im_lenX)) av_nil)) (blk (N := N_generators) (sc := sc_generators) (own := [("k", 6)]) (by decide +kernel)) (fun _ _ _ _ _ => (gv_name (S_generators).nd rfl (.inl rfl))) (fun _ _ _ _ _ _ => tts_nil) (fun _ _ _ _ _ _ => (ev_fresh (ev_bin b_mod (ev_bin b_add (ev_nameU 4 (pe_var rfl (.inr (.inl rfl)))) (ev_bin b_mul (ev_nameU 6 (pe_var rfl (.inl rfl))) (ev_nameU 3 (pe_var rfl (.inr (.inl rfl)))))) (ev_nameU 0 (pe_var rfl (.inr (.inl rfl))))) (im_bin im_mod))) (fun _ _ _ _ _ _ => ev_bl))) (svs_one (sv_if (tv_pw (wv_and (tv_cmp (b_eq (u64 hr)) (ev_fresh (ev_fn c_lenX (by rfl) B.len bt_len (av_cons (ev_nameU 5 (pe_var rfl (.inr (.inl rfl)))) av_nil)) (im_fun im_lenX)) (ev_fresh (ev_fn c_lenX (by rfl) B.len bt_len (av_cons (ev_nameU 1 (pe_var rfl (.inl rfl))) av_nil)) (im_fun im_lenX)) (nobehind _ (by decide) (by decide))) (wv_and (tv_tru (ev_all (k := 0) (hr.mono (by decide)) rfl (S_generators).nd (by rfl) B.all TB hP rfl (blk (N := N_generators) (sc := sc_generators) (own := [("one", 7)]) (by decide +kernel)) (genk (by decide +kernel)) (iv_seq (ev_nameU 1 (pe_var rfl (.inl rfl)))) nxN (fun _ _ _ _ _ _ _ => (gv_name (S_generators).nd rfl (.inl rfl))) (fun _ _ _ _ _ _ _ r => tts_nil) (fun _ _ _ _ _ _ _ r => (ev_fresh (ev_cmp (b_inX (u65 r)) (ev_nameU 7 (pe_var rfl (.inl rfl))) (ev_nameU 5 (pe_var rfl (.inr (.inr rfl)))) rfl) (im_bin im_inX))))) (wv_and1 (tv_cmp (b_notInX (u65 hr)) (ev_nameU 3 (pe_var rfl (.inr (.inl rfl)))) (ev_name 2 (pe_var rfl (.inl rfl))) rfl))))) (svs_one (sv_app (pe_var rfl (.inl rfl)) (av_cons (ev_imm (ev_nameU 3 (pe_var rfl (.inr (.inl rfl))))) av_nil))) (svs_nil))))))))) (svs_one (sv_ret (ev_imm (ev_ty c_tuple (by rfl) B.tuple bt_tuple (av_cons (ev_name 2 (pe_var rfl (.inl rfl))) av_nil))))))))
end Pd.Law
namespace Pd.Law
open PySem PySem.Spec PyProof.Rows L2 Pd
open Pd (D Env)
theorem ok_has_two_spans {P : Program} {w : World} {K : PySem.W.Frag} {mg : Str → Option Value} {base : Heap} {T : List Addr} {fd : FuncData} (B : Bt mg) (F : FunD K "has_two_spans" "has_two_spans" (defArgs (top 19)) (defBody (top 19)) (defScope (top 19)) [] [] (He.fAd K ("has_two_spans", none)) fd) (gm : mg "has_two_spans" = some (.ref (He.fAd K ("has_two_spans", none)))) (h_spans : FD P w K mg base T 6 "spans" 2 d_spans) (TB : GxR.TabB base mg (He.cT K ("has_two_spans", none)).1 (He.cT K ("has_two_spans", none)).2) (hP : (He.cT K ("has_two_spans", none)).2 ∈ T) :
    FD P w K mg base T 7 "has_two_spans" 2 d_has_two_spans :=
  fd_of (k := 6) (N := N_has_two_spans) (ps := ["many", "own"]) (B := m_has_two_spans) F S_has_two_spans gm (fun _ _ _ _ _ _ us hl => match us, hl with | [_, _], _ => rfl) fun A outer s H E hr =>
    (svs_one (sv_ret (ev_and (ev_cmp (b_gtX (u64 hr)) (ev_fresh (ev_fn c_lenX (by rfl) B.len bt_len (av_cons (ev_nameU 1 (pe_var rfl (.inl rfl))) av_nil)) (im_fun im_lenX)) ev_int (nobehind _ (by decide) (by decide))) (ev_one (ev_all (k := 0) (hr.mono (by decide)) rfl (S_has_two_spans).nd (by rfl) B.all TB hP rfl (blk (N := N_has_two_spans) (sc := sc_has_two_spans) (own := [("row", 2)]) (by decide +kernel)) (genk (by decide +kernel)) (iv_seq (ev_call (h_spans.mono (by decide)) hr (by rfl) (takes_of rfl rfl rfl rfl) (av_cons (ev_nameU 0 (pe_var rfl (.inl rfl))) (av_cons (ev_nameU 1 (pe_var rfl (.inl rfl))) av_nil)))) nxN (fun _ _ _ _ _ _ _ => (gv_name (S_has_two_spans).nd rfl (.inl rfl))) (fun _ _ _ _ _ _ _ r => tts_nil) (fun _ _ _ _ _ _ _ r => (ev_cmp (b_eq (u64 r)) (ev_fresh (ev_fn c_lenX (by rfl) B.len bt_len (av_cons (ev_nameU 2 (pe_var rfl (.inl rfl))) av_nil)) (im_fun im_lenX)) ev_int (nobehind _ (by decide) (by decide)))))))))
end Pd.Law
namespace Pd.Law
open PySem PySem.Spec PyProof.Rows L2 Pd
open Pd (D Env)
theorem ok_is_balanced {P : Program} {w : World} {K : PySem.W.Frag} {mg : Str → Option Value} {base : Heap} {T : List Addr} {fd : FuncData} (B : Bt mg) (F : FunD K "is_balanced" "is_balanced" (defArgs (top 25)) (defBody (top 25)) (defScope (top 25)) [] [] (He.fAd K ("is_balanced", none)) fd) (gm : mg "is_balanced" = some (.ref (He.fAd K ("is_balanced", none)))) (h_set_of_pattern : FD P w K mg base T 5 "set_of_pattern" 1 d_set_of_pattern) :
    FD P w K mg base T 6 "is_balanced" 1 d_is_balanced :=
  fd_of (k := 5) (N := N_is_balanced) (ps := ["pattern"]) (B := m_is_balanced) F S_is_balanced gm (fun _ _ _ _ _ _ us hl => match us, hl with | [_], _ => rfl) fun A outer s H E hr =>
    (svs_cons (O1 := []) (sv_set (O' := []) (S_is_balanced).nd rfl (.inr rfl) (ev_call (h_set_of_pattern.mono (by decide)) hr (by rfl) (takes_of rfl rfl rfl rfl) (av_cons (ev_nameU 0 (pe_var rfl (.inl rfl))) av_nil))) (svs_cons (O1 := []) (sv_set (O' := []) (S_is_balanced).nd rfl (.inr rfl) (ev_fresh (ev_fn c_lenX (by rfl) B.len bt_len (av_cons (ev_nameU 0 (pe_var rfl (.inl rfl))) av_nil)) (im_fun im_lenX))) (svs_cons (O1 := []) (sv_for (passes_of rfl) rfl (iv_range2 (by rfl) B.range (av_cons ev_int (av_cons (ev_nameU 2 (pe_var rfl (.inr (.inl rfl)))) av_nil))) (gv_name (S_is_balanced).nd rfl (.inr rfl)) (fun _ => (svs_cons (O1 := []) (sv_setLc (O' := []) rfl (S_is_balanced).nd rfl rfl (iv_range1 (by rfl) B.range (av_cons (ev_nameU 2 (pe_var rfl (.inr (.inl rfl)))) av_nil)) (blk (N := N_is_balanced) (sc := sc_is_balanced) (own := [("start", 5)]) (by decide +kernel)) (fun _ _ _ _ _ => (gv_name (S_is_balanced).nd rfl (.inr rfl))) (fun _ _ _ _ _ _ => tts_nil) (fun _ _ _ _ _ _ => (ev_fn c_lenX (by rfl) B.len bt_len (av_cons (ev_lc rfl (S_is_balanced).nd (iv_range1 (by rfl) B.range (av_cons (ev_nameU 3 (pe_var rfl (.inr (.inl rfl)))) av_nil)) (blk (N := N_is_balanced) (sc := _) (own := [("k", 6)]) (by kernel_rfl)) (fun _ _ _ _ _ => (gv_name (S_is_balanced).nd rfl (.inl rfl))) (fun _ _ _ _ _ _ => (tts_one (tv_cmp (b_inX (u65 hr)) (ev_fresh (ev_bin b_mod (ev_bin b_add (ev_nameU 5 (pe_var rfl (.inr (.inl rfl)))) (ev_nameU 6 (pe_var rfl (.inl rfl)))) (ev_nameU 2 (pe_var rfl (.inr (.inl rfl))))) (im_bin im_mod)) (ev_nameU 1 (pe_var rfl (.inr (.inl rfl)))) rfl))) (fun _ _ _ _ _ _ => (ev_imm (ev_nameU 6 (pe_var rfl (.inl rfl)))))) av_nil)))) (svs_one (sv_if (tv_cmp (b_gtX (u64 hr)) (ev_fresh (ev_bin b_sub (ev_fn (c_maxL rfl (u65 hr)) (by rfl) B.max bt_max (av_cons (ev_nameU 4 (pe_var rfl (.inl rfl))) av_nil)) (ev_fn (c_minL rfl (u65 hr)) (by rfl) B.min bt_min (av_cons (ev_nameU 4 (pe_var rfl (.inl rfl))) av_nil))) (im_bin im_sub)) ev_int (nobehind _ (by decide) (by decide))) (svs_one (sv_ret ev_bl)) (svs_nil)))))) (svs_one (sv_ret ev_bl)))))
end Pd.Law
namespace Pd.Law
open PySem PySem.Spec PyProof.Rows L2 Pd
open Pd (D Env)
theorem ok_is_even {P : Program} {w : World} {K : PySem.W.Frag} {mg : Str → Option Value} {base : Heap} {T : List Addr} {fd : FuncData} (B : Bt mg) (F : FunD K "is_even" "is_even" (defArgs (top 18)) (defBody (top 18)) (defScope (top 18)) [] [] (He.fAd K ("is_even", none)) fd) (gm : mg "is_even" = some (.ref (He.fAd K ("is_even", none)))) (h_spans : FD P w K mg base T 6 "spans" 2 d_spans) (TB : GxR.TabB base mg (He.cT K ("is_even", none)).1 (He.cT K ("is_even", none)).2) (hP : (He.cT K ("is_even", none)).2 ∈ T) :
    FD P w K mg base T 7 "is_even" 2 d_is_even :=
  fd_of (k := 6) (N := N_is_even) (ps := ["many", "own"]) (B := m_is_even) F S_is_even gm (fun _ _ _ _ _ _ us hl => match us, hl with | [_, _], _ => rfl) fun A outer s H E hr =>
    (svs_one (sv_ret (ev_all (k := 0) (hr.mono (by decide)) rfl (S_is_even).nd (by rfl) B.all TB hP rfl (blk (N := N_is_even) (sc := sc_is_even) (own := [("row", 2)]) (by decide +kernel)) (genk (by decide +kernel)) (iv_seq (ev_call (h_spans.mono (by decide)) hr (by rfl) (takes_of rfl rfl rfl rfl) (av_cons (ev_nameU 0 (pe_var rfl (.inl rfl))) (av_cons (ev_nameU 1 (pe_var rfl (.inl rfl))) av_nil)))) nxN (fun _ _ _ _ _ _ _ => (gv_name (S_is_even).nd rfl (.inl rfl))) (fun _ _ _ _ _ _ _ r => tts_nil) (fun _ _ _ _ _ _ _ r => (ev_cmp (b_leX (u64 r)) (ev_fresh (ev_bin b_sub (ev_ix (ev_nameU 2 (pe_var rfl (.inl rfl))) (ev_neg ev_int)) (ev_ix (ev_nameU 2 (pe_var rfl (.inl rfl))) ev_int)) (im_bin im_sub)) ev_int (nobehind _ (by decide) (by decide)))))))
end Pd.Law
namespace Pd.Law
open PySem PySem.Spec PyProof.Rows L2 Pd
open Pd (D Env)
theorem ok_is_number {P : Program} {w : World} {K : PySem.W.Frag} {mg : Str → Option Value} {base : Heap} {T : List Addr} {fd : FuncData} (B : Bt mg) (F : FunD K "is_number" "is_number" (defArgs (top 5)) (defBody (top 5)) (defScope (top 5)) [] [] (He.fAd K ("is_number", none)) fd) (gm : mg "is_number" = some (.ref (He.fAd K ("is_number", none)))) :
    FD P w K mg base T 1 "is_number" 1 d_is_number :=
  fd_of (k := 0) (N := N_is_number) (ps := ["value"]) (B := m_is_number) F S_is_number gm (fun _ _ _ _ _ _ us hl => match us, hl with | [_], _ => rfl) fun A outer s H E hr =>
    (svs_one (sv_ret (ev_and (ev_isi (by rfl) B.isinstance (by rfl) B.int bt_int isi_int (ev_nameU 0 (pe_var rfl (.inl rfl)))) (ev_and (ev_fresh (ev_cmp b_isNot (ev_nameU 0 (pe_var rfl (.inl rfl))) ev_bl (nobehind _ (by decide) (by decide))) (im_bin im_isNot)) (ev_one (ev_fresh (ev_cmp b_isNot (ev_nameU 0 (pe_var rfl (.inl rfl))) ev_bl (nobehind _ (by decide) (by decide))) (im_bin im_isNot)))))))
end Pd.Law
namespace Pd.Law
open PySem PySem.Spec PyProof.Rows L2 Pd
open Pd (D Env)
theorem ok_is_well_formed {P : Program} {w : World} {K : PySem.W.Frag} {mg : Str → Option Value} {base : Heap} {T : List Addr} {fd : FuncData} (B : Bt mg) (F : FunD K "is_well_formed" "is_well_formed" (defArgs (top 23)) (defBody (top 23)) (defScope (top 23)) [] [] (He.fAd K ("is_well_formed", none)) fd) (gm : mg "is_well_formed" = some (.ref (He.fAd K ("is_well_formed", none)))) (h_scale_of : FD P w K mg base T 4 "scale_of" 3 d_scale_of) (h_closes : FD P w K mg base T 4 "closes" 2 d_closes) :
    FD P w K mg base T 5 "is_well_formed" 3 d_is_well_formed :=
  fd_of (k := 4) (N := N_is_well_formed) (ps := ["many", "step", "size"]) (B := m_is_well_formed) F S_is_well_formed gm (fun _ _ _ _ _ _ us hl => match us, hl with | [_, _, _], _ => rfl) fun A outer s H E hr =>
    (svs_cons (O1 := []) (sv_set (O' := []) (S_is_well_formed).nd rfl (.inr rfl) (ev_call (h_scale_of.mono (by decide)) hr (by rfl) (takes_of rfl rfl rfl rfl) (av_cons (ev_nameU 0 (pe_var rfl (.inr (.inl rfl)))) (av_cons (ev_nameU 1 (pe_var rfl (.inr (.inl rfl)))) (av_cons (ev_nameU 2 (pe_var rfl (.inl rfl))) av_nil))))) (svs_one (sv_ret (ev_call (h_closes.mono (by decide)) hr (by rfl) (takes_of rfl rfl rfl rfl) (av_cons (ev_lc rfl (S_is_well_formed).nd (iv_range1 (by rfl) B.range (av_cons (ev_nameU 2 (pe_var rfl (.inl rfl))) av_nil)) (blk (N := N_is_well_formed) (sc := sc_is_well_formed) (own := [("k", 4)]) (by decide +kernel)) (fun _ _ _ _ _ => (gv_name (S_is_well_formed).nd rfl (.inl rfl))) (fun _ _ _ _ _ _ => tts_nil) (fun _ _ _ _ _ _ => (ev_index (u65 hr) (ev_nameU 3 (pe_var rfl (.inr (.inl rfl)))) (av_cons (ev_fresh (ev_bin b_mod (ev_bin b_mul (ev_nameU 4 (pe_var rfl (.inl rfl))) (ev_nameU 1 (pe_var rfl (.inr (.inl rfl))))) (ev_nameU 0 (pe_var rfl (.inr (.inl rfl))))) (im_bin im_mod)) av_nil)))) (av_cons (ev_nameU 2 (pe_var rfl (.inl rfl))) av_nil))))))
end Pd.Law
namespace Pd.Law
open PySem PySem.Spec PyProof.Rows L2 Pd
open Pd (D Env)
theorem ok_law {P : Program} {w : World} {K : PySem.W.Frag} {mg : Str → Option Value} {base : Heap} {T : List Addr} {fd : FuncData} (B : Bt mg) (F : FunD K "law" "law" (defArgs (top 34)) (defBody (top 34)) (defScope (top 34)) [] [] (He.fAd K ("law", none)) fd) (gm : mg "law" = some (.ref (He.fAd K ("law", none)))) (x_BadNumber : ExD K mg "BadNumber") (x_BadSet : ExD K mg "BadSet") (y_law_BadSet : Exm K "BadSet" tb_law_BadSet) (y_law_BadNumber : Exm K "BadNumber" tb_law_BadNumber) (h__law_cell : FD P w K mg base T 1 "_law_cell" 2 d__law_cell) (h__law_draws : FD P w K mg base T 1 "_law_draws" 2 d__law_draws) (h_even_set : FD P w K mg base T 4 "even_set" 3 d_even_set) (h_is_even : FD P w K mg base T 7 "is_even" 2 d_is_even) (h_folded_pattern : FD P w K mg base T 4 "folded_pattern" 2 d_folded_pattern) (h__law_moved : FD P w K mg base T 1 "_law_moved" 3 d__law_moved) (h_set_of_pattern : FD P w K mg base T 5 "set_of_pattern" 1 d_set_of_pattern) (h_is_balanced : FD P w K mg base T 6 "is_balanced" 1 d_is_balanced) (h_pattern_of : FD P w K mg base T 6 "pattern_of" 2 d_pattern_of) (h__law_balanced : FD P w K mg base T 1 "_law_balanced" 1 d__law_balanced) (h__law_spans : FD P w K mg base T 1 "_law_spans" 2 d__law_spans) (h_spans : FD P w K mg base T 6 "spans" 2 d_spans) (h_has_two_spans : FD P w K mg base T 7 "has_two_spans" 2 d_has_two_spans) (h_scale_of : FD P w K mg base T 4 "scale_of" 3 d_scale_of) (h_gap_sizes : FD P w K mg base T 7 "gap_sizes" 3 d_gap_sizes) (h_is_well_formed : FD P w K mg base T 5 "is_well_formed" 3 d_is_well_formed) (h_generators : FD P w K mg base T 6 "generators" 2 d_generators) (h_onsets_apart : FD P w K mg base T 7 "onsets_apart" 3 d_onsets_apart) (h_fits_twice : FD P w K mg base T 6 "fits_twice" 2 d_fits_twice) :
    FnOk P w K mg base (L2.CX P w) 8 (He.fAd K ("law", none)) fd ["script"] (spD K T 1 d_law) :=
  fd_fn (k := 7) (N := N_law) (ps := ["script"]) (B := m_law) F S_law fun A outer s H E hr =>
    (svs_cons (O1 := []) (sv_set (O' := []) (S_law).nd rfl (.inr rfl) (ev_call (h__law_draws.mono (by decide)) hr (by rfl) (takes_of rfl rfl rfl rfl) (av_cons (ev_call (h__law_cell.mono (by decide)) hr (by rfl) (takes_of rfl rfl rfl rfl) (av_cons (ev_nameU 0 (pe_var rfl (.inl rfl))) (av_cons ev_int av_nil))) (av_cons ev_int av_nil)))) (svs_cons (O1 := []) (sv_set (O' := []) (S_law).nd rfl (.inr rfl) (ev_bin b_add (ev_fresh (ev_bin b_mod (ev_ix (ev_nameU 1 (pe_var rfl (.inr (.inl rfl)))) ev_int) ev_int) (im_bin im_mod)) ev_int)) (svs_cons (O1 := []) (sv_set (O' := []) (S_law).nd rfl (.inr rfl) (ev_bin b_add (ev_fresh (ev_bin b_mod (ev_ix (ev_nameU 1 (pe_var rfl (.inr (.inl rfl)))) ev_int) (ev_nameU 2 (pe_var rfl (.inr (.inl rfl))))) (im_bin im_mod)) ev_int)) (svs_cons (O1 := []) (sv_set (O' := []) (S_law).nd rfl (.inr rfl) (ev_fresh (ev_bin b_mod (ev_ix (ev_nameU 1 (pe_var rfl (.inr (.inl rfl)))) ev_int) (ev_nameU 3 (pe_var rfl (.inr (.inl rfl))))) (im_bin im_mod))) (svs_cons (O1 := []) (sv_set (O' := []) (S_law).nd rfl (.inl rfl) (ev_call (h_even_set.mono (by decide)) hr (by rfl) (takes_of rfl rfl rfl rfl) (av_cons (ev_nameU 2 (pe_var rfl (.inr (.inl rfl)))) (av_cons (ev_nameU 3 (pe_var rfl (.inr (.inl rfl)))) (av_cons (ev_nameU 4 (pe_var rfl (.inr (.inl rfl)))) av_nil))))) (svs_cons (O1 := []) (sv_if (tv_pw (wv_or (tv_cmp (b_ne (u64 hr)) (ev_nameU 5 (pe_var rfl (.inl rfl))) (ev_ty c_tuple (by rfl) B.tuple bt_tuple (av_cons (ev_sorted (u65 hr) (by rfl) B.sorted (av_cons (ev_lc rfl (S_law).nd (iv_range1 (by rfl) B.range (av_cons (ev_nameU 3 (pe_var rfl (.inr (.inl rfl)))) av_nil)) (blk (N := N_law) (sc := sc_law) (own := [("k", 25)]) (by decide +kernel)) (fun _ _ _ _ _ => (gv_name (S_law).nd rfl (.inl rfl))) (fun _ _ _ _ _ _ => tts_nil) (fun _ _ _ _ _ _ => (ev_fresh (ev_bin b_fdiv (ev_bin b_add (ev_bin b_mul (ev_nameU 25 (pe_var rfl (.inl rfl))) (ev_nameU 2 (pe_var rfl (.inr (.inl rfl))))) (ev_nameU 4 (pe_var rfl (.inr (.inl rfl))))) (ev_nameU 3 (pe_var rfl (.inr (.inl rfl))))) (im_bin im_fdiv)))) av_nil)) av_nil)) (nobehind _ (by decide) (by decide))) (wv_or1 (tv_not (tv_tru (ev_call (h_is_even.mono (by decide)) hr (by rfl) (takes_of rfl rfl rfl rfl) (av_cons (ev_nameU 2 (pe_var rfl (.inr (.inl rfl)))) (av_cons (ev_nameU 5 (pe_var rfl (.inl rfl))) av_nil)))))))) (svs_one (sv_ret ev_bl)) (svs_nil)) (svs_cons (O1 := []) (sv_set (O' := []) (S_law).nd rfl (.inr rfl) (ev_call (h_even_set.mono (by decide)) hr (by rfl) (takes_of rfl rfl rfl rfl) (av_cons (ev_nameU 2 (pe_var rfl (.inr (.inl rfl)))) (av_cons (ev_nameU 3 (pe_var rfl (.inr (.inl rfl)))) (av_cons ev_int av_nil))))) (svs_cons (O1 := []) (sv_set (O' := []) (S_law).nd rfl (.inl rfl) (ev_call (h_folded_pattern.mono (by decide)) hr (by rfl) (takes_of rfl rfl rfl rfl) (av_cons (ev_nameU 2 (pe_var rfl (.inr (.inl rfl)))) (av_cons (ev_nameU 3 (pe_var rfl (.inr (.inl rfl)))) av_nil)))) (svs_cons (O1 := []) (sv_setLc (O' := []) rfl (S_law).nd rfl rfl (iv_range1 (by rfl) B.range (av_cons (ev_nameU 2 (pe_var rfl (.inr (.inl rfl)))) av_nil)) (blk (N := N_law) (sc := sc_law) (own := [("k", 25)]) (by decide +kernel)) (fun _ _ _ _ _ => (gv_name (S_law).nd rfl (.inl rfl))) (fun _ _ _ _ _ _ => tts_nil) (fun _ _ _ _ _ _ => (ev_call (h__law_moved.mono (by decide)) hr (by rfl) takes0 (av_cons (ev_nameU 2 (pe_var rfl (.inr (.inl rfl)))) (av_cons (ev_nameU 6 (pe_var rfl (.inr (.inl rfl)))) (av_cons (ev_nameU 25 (pe_var rfl (.inl rfl))) av_nil)))))) (svs_cons (O1 := []) (sv_if (tv_pw (wv_or (tv_cmp (b_ne (u64 hr)) (ev_fresh (ev_fn c_lenX (by rfl) B.len bt_len (av_cons (ev_nameU 7 (pe_var rfl (.inl rfl))) av_nil)) (im_fun im_lenX)) (ev_nameU 2 (pe_var rfl (.inr (.inl rfl)))) (nobehind _ (by decide) (by decide))) (wv_or (tv_cmp (b_notInX (u65 hr)) (ev_nameU 5 (pe_var rfl (.inl rfl))) (ev_nameU 8 (pe_var rfl (.inl rfl))) rfl) (wv_or (tv_cmp (b_notInX (u65 hr)) (ev_call (h_set_of_pattern.mono (by decide)) hr (by rfl) (takes_of rfl rfl rfl rfl) (av_cons (ev_nameU 7 (pe_var rfl (.inl rfl))) av_nil)) (ev_nameU 8 (pe_var rfl (.inl rfl))) rfl) (wv_or1 (tv_not (tv_tru (ev_call (h_is_balanced.mono (by decide)) hr (by rfl) (takes_of rfl rfl rfl rfl) (av_cons (ev_nameU 7 (pe_var rfl (.inl rfl))) av_nil))))))))) (svs_one (sv_ret ev_bl)) (svs_nil)) (svs_cons (O1 := []) (sv_set (O' := []) (S_law).nd rfl (.inr rfl) (ev_ty c_tuple (by rfl) B.tuple bt_tuple (av_cons (ev_lc rfl (S_law).nd (iv_range1 (by rfl) B.range (av_cons (ev_nameU 2 (pe_var rfl (.inr (.inl rfl)))) av_nil)) (blk (N := N_law) (sc := sc_law) (own := [("k", 25)]) (by decide +kernel)) (fun _ _ _ _ _ => (gv_name (S_law).nd rfl (.inl rfl))) (fun _ _ _ _ _ _ => tts_nil) (fun _ _ _ _ _ _ => (ev_ty c_int (by rfl) B.int bt_int (av_cons (ev_cmp (b_ltX (u64 hr)) (ev_fresh (ev_bin b_mod (ev_ix (ev_nameU 1 (pe_var rfl (.inr (.inl rfl)))) (ev_bin b_add ev_int (ev_nameU 25 (pe_var rfl (.inl rfl))))) ev_int) (im_bin im_mod)) ev_int (nobehind _ (by decide) (by decide))) av_nil)))) av_nil))) (svs_cons (O1 := []) (sv_set (O' := []) (S_law).nd rfl (.inr rfl) (ev_ty c_tuple (by rfl) B.tuple bt_tuple (av_cons (ev_lc rfl (S_law).nd (iv_range1 (by rfl) B.range (av_cons (ev_nameU 2 (pe_var rfl (.inr (.inl rfl)))) av_nil)) (blk (N := N_law) (sc := sc_law) (own := [("k", 25)]) (by decide +kernel)) (fun _ _ _ _ _ => (gv_name (S_law).nd rfl (.inl rfl))) (fun _ _ _ _ _ _ => (tts_one (tv_cmp (b_eq (u64 hr)) (ev_ix (ev_nameU 9 (pe_var rfl (.inr (.inl rfl)))) (ev_nameU 25 (pe_var rfl (.inl rfl)))) ev_int (nobehind _ (by decide) (by decide))))) (fun _ _ _ _ _ _ => (ev_imm (ev_nameU 25 (pe_var rfl (.inl rfl)))))) av_nil))) (svs_cons (O1 := []) (sv_if (tv_pw (wv_or (tv_cmp (b_ne (u64 hr)) (ev_call (h_set_of_pattern.mono (by decide)) hr (by rfl) (takes_of rfl rfl rfl rfl) (av_cons (ev_nameU 9 (pe_var rfl (.inr (.inl rfl)))) av_nil)) (ev_nameU 10 (pe_var rfl (.inr (.inl rfl)))) (nobehind _ (by decide) (by decide))) (wv_or (tv_cmp (b_ne (u64 hr)) (ev_call (h_pattern_of.mono (by decide)) hr (by rfl) (takes_of rfl rfl rfl rfl) (av_cons (ev_nameU 2 (pe_var rfl (.inr (.inl rfl)))) (av_cons (ev_nameU 10 (pe_var rfl (.inr (.inl rfl)))) av_nil))) (ev_nameU 9 (pe_var rfl (.inr (.inl rfl)))) (nobehind _ (by decide) (by decide))) (wv_or1 (tv_cmp (b_ne (u64 hr)) (ev_call (h_is_balanced.mono (by decide)) hr (by rfl) (takes_of rfl rfl rfl rfl) (av_cons (ev_nameU 9 (pe_var rfl (.inr (.inl rfl)))) av_nil)) (ev_call (h__law_balanced.mono (by decide)) hr (by rfl) (takes_of rfl rfl rfl rfl) (av_cons (ev_nameU 9 (pe_var rfl (.inr (.inl rfl)))) av_nil)) (nobehind _ (by decide) (by decide))))))) (svs_one (sv_ret ev_bl)) (svs_nil)) (svs_cons (O1 := []) (sv_set (O' := []) (S_law).nd rfl (.inl rfl) (ev_call (h__law_spans.mono (by decide)) hr (by rfl) (takes_of rfl rfl rfl rfl) (av_cons (ev_nameU 2 (pe_var rfl (.inr (.inl rfl)))) (av_cons (ev_nameU 10 (pe_var rfl (.inr (.inl rfl)))) av_nil)))) (svs_cons (O1 := []) (sv_set (O' := []) (S_law).nd rfl (.inl rfl) (ev_cmp (b_eq (u64 hr)) (ev_fn c_lenX (by rfl) B.len bt_len (av_cons (ev_lc rfl (S_law).nd (iv_seq (ev_nameU 11 (pe_var rfl (.inl rfl)))) (blk (N := N_law) (sc := sc_law) (own := [("row", 26)]) (by decide +kernel)) (fun _ _ _ _ _ => (gv_name (S_law).nd rfl (.inl rfl))) (fun _ _ _ _ _ _ => (tts_one (tv_cmp (b_gtX (u64 hr)) (ev_fresh (ev_bin b_sub (ev_ix (ev_nameU 26 (pe_var rfl (.inl rfl))) (ev_neg ev_int)) (ev_ix (ev_nameU 26 (pe_var rfl (.inl rfl))) ev_int)) (im_bin im_sub)) ev_int (nobehind _ (by decide) (by decide))))) (fun _ _ _ _ _ _ => (ev_imm (ev_nameU 26 (pe_var rfl (.inl rfl)))))) av_nil)) ev_int (nobehind _ (by decide) (by decide)))) (svs_cons (O1 := []) (sv_if (tv_pw (wv_or (tv_cmp (b_ne (u64 hr)) (ev_call (h_spans.mono (by decide)) hr (by rfl) (takes_of rfl rfl rfl rfl) (av_cons (ev_nameU 2 (pe_var rfl (.inr (.inl rfl)))) (av_cons (ev_nameU 10 (pe_var rfl (.inr (.inl rfl)))) av_nil))) (ev_ty c_tuple (by rfl) B.tuple bt_tuple (av_cons (ev_nameU 11 (pe_var rfl (.inl rfl))) av_nil)) (nobehind _ (by decide) (by decide))) (wv_or (tv_cmp (b_ne (u64 hr)) (ev_call (h_is_even.mono (by decide)) hr (by rfl) (takes_of rfl rfl rfl rfl) (av_cons (ev_nameU 2 (pe_var rfl (.inr (.inl rfl)))) (av_cons (ev_nameU 10 (pe_var rfl (.inr (.inl rfl)))) av_nil))) (ev_nameU 12 (pe_var rfl (.inl rfl))) (nobehind _ (by decide) (by decide))) (wv_or1 (tv_cmp (b_ne (u64 hr)) (ev_call (h_has_two_spans.mono (by decide)) hr (by rfl) (takes_of rfl rfl rfl rfl) (av_cons (ev_nameU 2 (pe_var rfl (.inr (.inl rfl)))) (av_cons (ev_nameU 10 (pe_var rfl (.inr (.inl rfl)))) av_nil))) (ev_and (ev_cmp (b_gtX (u64 hr)) (ev_fresh (ev_fn c_lenX (by rfl) B.len bt_len (av_cons (ev_nameU 10 (pe_var rfl (.inr (.inl rfl)))) av_nil)) (im_fun im_lenX)) ev_int (nobehind _ (by decide) (by decide))) (ev_one (ev_cmp (b_eq (u64 hr)) (ev_fn c_lenX (by rfl) B.len bt_len (av_cons (ev_lc rfl (S_law).nd (iv_seq (ev_nameU 11 (pe_var rfl (.inl rfl)))) (blk (N := N_law) (sc := sc_law) (own := [("row", 26)]) (by decide +kernel)) (fun _ _ _ _ _ => (gv_name (S_law).nd rfl (.inl rfl))) (fun _ _ _ _ _ _ => (tts_one (tv_cmp (b_ne (u64 hr)) (ev_fresh (ev_fn c_lenX (by rfl) B.len bt_len (av_cons (ev_nameU 26 (pe_var rfl (.inl rfl))) av_nil)) (im_fun im_lenX)) ev_int (nobehind _ (by decide) (by decide))))) (fun _ _ _ _ _ _ => (ev_imm (ev_nameU 26 (pe_var rfl (.inl rfl)))))) av_nil)) ev_int (nobehind _ (by decide) (by decide))))) (nobehind _ (by decide) (by decide))))))) (svs_one (sv_ret ev_bl)) (svs_nil)) (svs_cons (O1 := []) (sv_if (tv_pw (wv_and (tv_cmp (b_gtX (u64 hr)) (ev_fresh (ev_fn c_lenX (by rfl) B.len bt_len (av_cons (ev_nameU 10 (pe_var rfl (.inr (.inl rfl)))) av_nil)) (im_fun im_lenX)) ev_int (nobehind _ (by decide) (by decide))) (wv_and1 (tv_pw (wv_or (tv_cmp (b_ne (u64 hr)) (ev_nameU 12 (pe_var rfl (.inl rfl))) (ev_call (h__law_balanced.mono (by decide)) hr (by rfl) (takes_of rfl rfl rfl rfl) (av_cons (ev_nameU 9 (pe_var rfl (.inr (.inl rfl)))) av_nil)) (nobehind _ (by decide) (by decide))) (wv_or1 (tv_cmp (b_ne (u64 hr)) (ev_nameU 12 (pe_var rfl (.inl rfl))) (ev_fresh (ev_cmp (b_inX (u65 hr)) (ev_nameU 10 (pe_var rfl (.inr (.inl rfl)))) (ev_lc rfl (S_law).nd (iv_range1 (by rfl) B.range (av_cons (ev_nameU 2 (pe_var rfl (.inr (.inl rfl)))) av_nil)) (blk (N := N_law) (sc := sc_law) (own := [("k", 25)]) (by decide +kernel)) (fun _ _ _ _ _ => (gv_name (S_law).nd rfl (.inl rfl))) (fun _ _ _ _ _ _ => tts_nil) (fun _ _ _ _ _ _ => (ev_call (h__law_moved.mono (by decide)) hr (by rfl) takes0 (av_cons (ev_nameU 2 (pe_var rfl (.inr (.inl rfl)))) (av_cons (ev_call (h_even_set.mono (by decide)) hr (by rfl) takes0 (av_cons (ev_nameU 2 (pe_var rfl (.inr (.inl rfl)))) (av_cons (ev_fresh (ev_fn c_lenX (by rfl) B.len bt_len (av_cons (ev_nameU 10 (pe_var rfl (.inr (.inl rfl)))) av_nil)) (im_fun im_lenX)) (av_cons ev_int av_nil)))) (av_cons (ev_nameU 25 (pe_var rfl (.inl rfl))) av_nil)))))) rfl) (im_bin im_inX)) (nobehind _ (by decide) (by decide))))))))) (svs_one (sv_ret ev_bl)) (svs_nil)) (svs_cons (O1 := []) (sv_set (O' := []) (S_law).nd rfl (.inr rfl) (ev_fresh (ev_bin b_mod (ev_ix (ev_nameU 1 (pe_var rfl (.inr (.inl rfl)))) ev_int) (ev_nameU 2 (pe_var rfl (.inr (.inl rfl))))) (im_bin im_mod))) (svs_cons (O1 := []) (sv_set (O' := []) (S_law).nd rfl (.inr rfl) (ev_lc rfl (S_law).nd (iv_range1 (by rfl) B.range (av_cons (ev_nameU 3 (pe_var rfl (.inr (.inl rfl)))) av_nil)) (blk (N := N_law) (sc := sc_law) (own := [("k", 25)]) (by decide +kernel)) (fun _ _ _ _ _ => (gv_name (S_law).nd rfl (.inl rfl))) (fun _ _ _ _ _ _ => tts_nil) (fun _ _ _ _ _ _ => (ev_fresh (ev_bin b_mod (ev_fresh (ev_ty c_int (by rfl) B.int bt_int (av_cons (ev_bin b_mul (ev_nameU 25 (pe_var rfl (.inl rfl))) (ev_nameU 13 (pe_var rfl (.inr (.inl rfl))))) av_nil)) (im_fun im_int)) (ev_nameU 2 (pe_var rfl (.inr (.inl rfl))))) (im_bin im_mod))))) (svs_cons (O1 := []) (sv_if (tv_cmp (b_gtX (u64 hr)) (ev_fn c_lenX (by rfl) B.len bt_len (av_cons (ev_lc rfl (S_law).nd (iv_seq (ev_nameU 14 (pe_var rfl (.inr (.inl rfl))))) (blk (N := N_law) (sc := sc_law) (own := [("one", 20)]) (by decide +kernel)) (fun _ _ _ _ _ => (gv_name (S_law).nd rfl (.inl rfl))) (fun _ _ _ _ _ _ => (tts_one (tv_cmp (b_gtX (u64 hr)) (ev_count (u65 hr) (ev_nameU 14 (pe_var rfl (.inr (.inl rfl)))) (av_cons (ev_nameU 20 (pe_var rfl (.inl rfl))) av_nil)) ev_int (nobehind _ (by decide) (by decide))))) (fun _ _ _ _ _ _ => (ev_imm (ev_nameU 20 (pe_var rfl (.inl rfl)))))) av_nil)) ev_int (nobehind _ (by decide) (by decide))) (svs_one (sv_try (O1 := []) (tbl := tb_law_BadNumber) rfl rfl ⟨rfl, by decide, .inl x_BadNumber.gC⟩ (takes_of rfl rfl rfl rfl) y_law_BadNumber (fun W pn xe tk hp => (svs_cons (O1 := []) (sv_expr (ev_call (h_scale_of.mono (by decide)) hr (by rfl) tk (av_cons (ev_nameU 2 (pe_var rfl (.inr (.inl rfl)))) (av_cons (ev_nameU 13 (pe_var rfl (.inr (.inl rfl)))) (av_cons (ev_nameU 3 (pe_var rfl (.inr (.inl rfl)))) av_nil))))) (svs_one (sv_ret ev_bl)))) (fun _ _ => (svs_one (sv_ret ev_bl))))) (svs_nil)) (svs_cons (O1 := []) (sv_set (O' := []) (S_law).nd rfl (.inr rfl) (ev_call (h_scale_of.mono (by decide)) hr (by rfl) (takes_of rfl rfl rfl rfl) (av_cons (ev_nameU 2 (pe_var rfl (.inr (.inl rfl)))) (av_cons (ev_nameU 13 (pe_var rfl (.inr (.inl rfl)))) (av_cons (ev_nameU 3 (pe_var rfl (.inr (.inl rfl)))) av_nil))))) (svs_cons (O1 := []) (sv_set (O' := []) (S_law).nd rfl (.inr rfl) (ev_lc rfl (S_law).nd (iv_range1 (by rfl) B.range (av_cons (ev_nameU 3 (pe_var rfl (.inr (.inl rfl)))) av_nil)) (blk (N := N_law) (sc := sc_law) (own := [("k", 25)]) (by decide +kernel)) (fun _ _ _ _ _ => (gv_name (S_law).nd rfl (.inl rfl))) (fun _ _ _ _ _ _ => tts_nil) (fun _ _ _ _ _ _ => (ev_bin b_add (ev_fresh (ev_bin b_mod (ev_bin b_sub (ev_fresh (ev_bin b_sub (ev_ix (ev_nameU 15 (pe_var rfl (.inr (.inl rfl)))) (ev_fresh (ev_bin b_mod (ev_bin b_add (ev_nameU 25 (pe_var rfl (.inl rfl))) ev_int) (ev_nameU 3 (pe_var rfl (.inr (.inl rfl))))) (im_bin im_mod))) (ev_ix (ev_nameU 15 (pe_var rfl (.inr (.inl rfl)))) (ev_nameU 25 (pe_var rfl (.inl rfl))))) (im_bin im_sub)) ev_int) (ev_nameU 2 (pe_var rfl (.inr (.inl rfl))))) (im_bin im_mod)) ev_int)))) (svs_cons (O1 := []) (sv_set (O' := []) (S_law).nd rfl (.inl rfl) (ev_ty c_tuple (by rfl) B.tuple bt_tuple (av_cons (ev_lc rfl (S_law).nd (iv_range2 (by rfl) B.range (av_cons ev_int (av_cons (ev_bin b_add (ev_nameU 2 (pe_var rfl (.inr (.inl rfl)))) ev_int) av_nil))) (blk (N := N_law) (sc := sc_law) (own := [("one", 20)]) (by decide +kernel)) (fun _ _ _ _ _ => (gv_name (S_law).nd rfl (.inl rfl))) (fun _ _ _ _ _ _ => (tts_one (tv_cmp (b_inX (u65 hr)) (ev_nameU 20 (pe_var rfl (.inl rfl))) (ev_nameU 16 (pe_var rfl (.inr (.inl rfl)))) rfl))) (fun _ _ _ _ _ _ => (ev_imm (ev_nameU 20 (pe_var rfl (.inl rfl)))))) av_nil))) (svs_cons (O1 := []) (sv_if (tv_pw (wv_or (tv_cmp (b_ne (u64 hr)) (ev_nameU 15 (pe_var rfl (.inr (.inl rfl)))) (ev_ty c_tuple (by rfl) B.tuple bt_tuple (av_cons (ev_sorted (u65 hr) (by rfl) B.sorted (av_cons (ev_nameU 14 (pe_var rfl (.inr (.inl rfl)))) av_nil)) av_nil)) (nobehind _ (by decide) (by decide))) (wv_or (tv_cmp (b_ne (u64 hr)) (ev_call (h_gap_sizes.mono (by decide)) hr (by rfl) (takes_of rfl rfl rfl rfl) (av_cons (ev_nameU 2 (pe_var rfl (.inr (.inl rfl)))) (av_cons (ev_nameU 13 (pe_var rfl (.inr (.inl rfl)))) (av_cons (ev_nameU 3 (pe_var rfl (.inr (.inl rfl)))) av_nil)))) (ev_nameU 17 (pe_var rfl (.inl rfl))) (nobehind _ (by decide) (by decide))) (wv_or1 (tv_cmp (b_gtX (u64 hr)) (ev_fresh (ev_fn c_lenX (by rfl) B.len bt_len (av_cons (ev_nameU 17 (pe_var rfl (.inl rfl))) av_nil)) (im_fun im_lenX)) ev_int (nobehind _ (by decide) (by decide))))))) (svs_one (sv_ret ev_bl)) (svs_nil)) (svs_cons (O1 := []) (sv_set (O' := []) (S_law).nd rfl (.inr rfl) (ev_lc rfl (S_law).nd (iv_range1 (by rfl) B.range (av_cons (ev_nameU 3 (pe_var rfl (.inr (.inl rfl)))) av_nil)) (blk (N := N_law) (sc := sc_law) (own := [("k", 25)]) (by decide +kernel)) (fun _ _ _ _ _ => (gv_name (S_law).nd rfl (.inl rfl))) (fun _ _ _ _ _ _ => tts_nil) (fun _ _ _ _ _ _ => (ev_fresh (ev_bin b_mod (ev_ty c_int (by rfl) B.int bt_int (av_cons (ev_bin b_sub (ev_index (u65 hr) (ev_nameU 15 (pe_var rfl (.inr (.inl rfl)))) (av_cons (ev_ix (ev_nameU 14 (pe_var rfl (.inr (.inl rfl)))) (ev_fresh (ev_bin b_mod (ev_bin b_add (ev_nameU 25 (pe_var rfl (.inl rfl))) ev_int) (ev_nameU 3 (pe_var rfl (.inr (.inl rfl))))) (im_bin im_mod))) av_nil)) (ev_index (u65 hr) (ev_nameU 15 (pe_var rfl (.inr (.inl rfl)))) (av_cons (ev_ix (ev_nameU 14 (pe_var rfl (.inr (.inl rfl)))) (ev_nameU 25 (pe_var rfl (.inl rfl)))) av_nil))) av_nil)) (ev_nameU 3 (pe_var rfl (.inr (.inl rfl))))) (im_bin im_mod))))) (svs_cons (O1 := []) (sv_if (tv_cmp (b_ne (u64 hr)) (ev_call (h_is_well_formed.mono (by decide)) hr (by rfl) (takes_of rfl rfl rfl rfl) (av_cons (ev_nameU 2 (pe_var rfl (.inr (.inl rfl)))) (av_cons (ev_nameU 13 (pe_var rfl (.inr (.inl rfl)))) (av_cons (ev_nameU 3 (pe_var rfl (.inr (.inl rfl)))) av_nil)))) (ev_cmp (b_eq (u64 hr)) (ev_fn c_lenX (by rfl) B.len bt_len (av_cons (ev_lc rfl (S_law).nd (iv_seq (ev_nameU 18 (pe_var rfl (.inr (.inl rfl))))) (blk (N := N_law) (sc := sc_law) (own := [("one", 20)]) (by decide +kernel)) (fun _ _ _ _ _ => (gv_name (S_law).nd rfl (.inl rfl))) (fun _ _ _ _ _ _ => (tts_one (tv_cmp (b_ne (u64 hr)) (ev_nameU 20 (pe_var rfl (.inl rfl))) (ev_ix (ev_nameU 18 (pe_var rfl (.inr (.inl rfl)))) ev_int) (nobehind _ (by decide) (by decide))))) (fun _ _ _ _ _ _ => (ev_imm (ev_nameU 20 (pe_var rfl (.inl rfl)))))) av_nil)) ev_int (nobehind _ (by decide) (by decide))) (nobehind _ (by decide) (by decide))) (svs_one (sv_ret ev_bl)) (svs_nil)) (svs_cons (O1 := []) (sv_if (tv_cmp (b_notInX (u65 hr)) (ev_nameU 13 (pe_var rfl (.inr (.inl rfl)))) (ev_call (h_generators.mono (by decide)) hr (by rfl) (takes_of rfl rfl rfl rfl) (av_cons (ev_nameU 2 (pe_var rfl (.inr (.inl rfl)))) (av_cons (ev_nameU 15 (pe_var rfl (.inr (.inl rfl)))) av_nil))) rfl) (svs_one (sv_ret ev_bl)) (svs_nil)) (svs_cons (O1 := [19]) (sv_set (O' := [19]) (S_law).nd rfl (.inl rfl) (ev_lst av_nil)) (svs_cons (O1 := [19]) (sv_for (passes_of rfl) rfl (iv_range1 (by rfl) B.range (av_cons (ev_nameU 2 (pe_var rfl (.inr (.inl rfl)))) av_nil)) (gv_name (S_law).nd rfl (.inr rfl)) (fun _ => (svs_one (sv_for (passes_of rfl) rfl (iv_seq (ev_nameU 10 (pe_var rfl (.inr (.inl rfl))))) (gv_name (S_law).nd rfl (.inr rfl)) (fun _ => (svs_cons (O1 := [19]) (sv_setLc (O' := [19]) rfl (S_law).nd rfl rfl (iv_range1 (by rfl) B.range (av_cons (ev_fresh (ev_fn c_lenX (by rfl) B.len bt_len (av_cons (ev_nameU 10 (pe_var rfl (.inr (.inl rfl)))) av_nil)) (im_fun im_lenX)) av_nil)) (blk (N := N_law) (sc := sc_law) (own := [("k", 25)]) (by decide +kernel)) (fun _ _ _ _ _ => (gv_name (S_law).nd rfl (.inl rfl))) (fun _ _ _ _ _ _ => tts_nil) (fun _ _ _ _ _ _ => (ev_fresh (ev_bin b_mod (ev_fresh (ev_ty c_int (by rfl) B.int bt_int (av_cons (ev_bin b_add (ev_nameU 21 (pe_var rfl (.inr (.inl rfl)))) (ev_bin b_mul (ev_nameU 25 (pe_var rfl (.inl rfl))) (ev_nameU 20 (pe_var rfl (.inr (.inl rfl)))))) av_nil)) (im_fun im_int)) (ev_nameU 2 (pe_var rfl (.inr (.inl rfl))))) (im_bin im_mod)))) (svs_one (sv_if (tv_pw (wv_and (tv_cmp (b_eq (u64 hr)) (ev_sorted (u65 hr) (by rfl) B.sorted (av_cons (ev_nameU 22 (pe_var rfl (.inl rfl))) av_nil)) (ev_ty (c_listX rfl) (by rfl) B.list bt_list (av_cons (ev_nameU 10 (pe_var rfl (.inr (.inl rfl)))) av_nil)) (nobehind _ (by decide) (by decide))) (wv_and1 (tv_cmp (b_notInX (u65 hr)) (ev_nameU 20 (pe_var rfl (.inr (.inl rfl)))) (ev_name 19 (pe_var rfl (.inl rfl))) rfl)))) (svs_one (sv_app (pe_var rfl (.inl rfl)) (av_cons (ev_imm (ev_nameU 20 (pe_var rfl (.inr (.inl rfl))))) av_nil))) (svs_nil))))))))) (svs_cons (O1 := [19]) (sv_if (tv_cmp (b_ne (u64 hr)) (ev_call (h_generators.mono (by decide)) hr (by rfl) (takes_of rfl rfl rfl rfl) (av_cons (ev_nameU 2 (pe_var rfl (.inr (.inl rfl)))) (av_cons (ev_nameU 10 (pe_var rfl (.inr (.inl rfl)))) av_nil))) (ev_ty c_tuple (by rfl) B.tuple bt_tuple (av_cons (ev_name 19 (pe_var rfl (.inl rfl))) av_nil)) (nobehind _ (by decide) (by decide))) (svs_one (sv_ret ev_bl)) (svs_nil)) (svs_cons (O1 := [19]) (sv_set (O' := [19]) (S_law).nd rfl (.inr rfl) (ev_fresh (ev_bin b_mod (ev_ix (ev_nameU 1 (pe_var rfl (.inr (.inl rfl)))) ev_int) ev_int) (im_bin im_mod))) (svs_cons (O1 := [19]) (sv_setLc (O' := [19]) rfl (S_law).nd rfl rfl (iv_range1 (by rfl) B.range (av_cons (ev_fresh (ev_fn c_lenX (by rfl) B.len bt_len (av_cons (ev_nameU 10 (pe_var rfl (.inr (.inl rfl)))) av_nil)) (im_fun im_lenX)) av_nil)) (blk (N := N_law) (sc := sc_law) (own := [("k", 25)]) (by decide +kernel)) (fun _ _ _ _ _ => (gv_name (S_law).nd rfl (.inl rfl))) (fun _ _ _ _ _ _ => (tts_one (tv_cmp (b_ltX (u64 hr)) (ev_bin b_add (ev_fresh (ev_bin b_mod (ev_bin b_sub (ev_fresh (ev_bin b_sub (ev_ix (ev_nameU 10 (pe_var rfl (.inr (.inl rfl)))) (ev_fresh (ev_bin b_mod (ev_bin b_add (ev_nameU 25 (pe_var rfl (.inl rfl))) ev_int) (ev_fresh (ev_fn c_lenX (by rfl) B.len bt_len (av_cons (ev_nameU 10 (pe_var rfl (.inr (.inl rfl)))) av_nil)) (im_fun im_lenX))) (im_bin im_mod))) (ev_ix (ev_nameU 10 (pe_var rfl (.inr (.inl rfl)))) (ev_nameU 25 (pe_var rfl (.inl rfl))))) (im_bin im_sub)) ev_int) (ev_nameU 2 (pe_var rfl (.inr (.inl rfl))))) (im_bin im_mod)) ev_int) (ev_nameU 23 (pe_var rfl (.inr (.inl rfl)))) (nobehind _ (by decide) (by decide))))) (fun _ _ _ _ _ _ => ev_int)) (svs_cons (O1 := [19]) (sv_if (tv_cmp (b_ne (u64 hr)) (ev_call (h_onsets_apart.mono (by decide)) hr (by rfl) (takes_of rfl rfl rfl rfl) (av_cons (ev_nameU 2 (pe_var rfl (.inr (.inl rfl)))) (av_cons (ev_nameU 10 (pe_var rfl (.inr (.inl rfl)))) (av_cons (ev_nameU 23 (pe_var rfl (.inr (.inl rfl)))) av_nil)))) (ev_cmp (b_eq (u64 hr)) (ev_fresh (ev_fn c_lenX (by rfl) B.len bt_len (av_cons (ev_nameU 24 (pe_var rfl (.inl rfl))) av_nil)) (im_fun im_lenX)) ev_int (nobehind _ (by decide) (by decide))) (nobehind _ (by decide) (by decide))) (svs_one (sv_ret ev_bl)) (svs_nil)) (svs_cons (O1 := [19]) (sv_if (tv_cmp (b_ne (u64 hr)) (ev_call (h_fits_twice.mono (by decide)) hr (by rfl) (takes_of rfl rfl rfl rfl) (av_cons (ev_nameU 2 (pe_var rfl (.inr (.inl rfl)))) (av_cons (ev_nameU 10 (pe_var rfl (.inr (.inl rfl)))) av_nil))) (ev_ty c_tuple (by rfl) B.tuple bt_tuple (av_cons (ev_lc rfl (S_law).nd (iv_range1 (by rfl) B.range (av_cons (ev_nameU 2 (pe_var rfl (.inr (.inl rfl)))) av_nil)) (blk (N := N_law) (sc := sc_law) (own := [("k", 25)]) (by decide +kernel)) (fun _ _ _ _ _ => (gv_name (S_law).nd rfl (.inr rfl))) (fun _ _ _ _ _ _ => (tts_one (tv_cmp (b_eq (u64 hr)) (ev_fn c_lenX (by rfl) B.len bt_len (av_cons (ev_lc rfl (S_law).nd (iv_seq (ev_nameU 10 (pe_var rfl (.inr (.inl rfl))))) (blk (N := N_law) (sc := _) (own := [("one", 20)]) (by kernel_rfl)) (fun _ _ _ _ _ => (gv_name (S_law).nd rfl (.inl rfl))) (fun _ _ _ _ _ _ => (tts_one (tv_cmp (b_inX (u65 hr)) (ev_fresh (ev_bin b_mod (ev_fresh (ev_ty c_int (by rfl) B.int bt_int (av_cons (ev_bin b_add (ev_nameU 20 (pe_var rfl (.inl rfl))) (ev_nameU 25 (pe_var rfl (.inr (.inl rfl))))) av_nil)) (im_fun im_int)) (ev_nameU 2 (pe_var rfl (.inr (.inl rfl))))) (im_bin im_mod)) (ev_nameU 10 (pe_var rfl (.inr (.inl rfl)))) rfl))) (fun _ _ _ _ _ _ => (ev_imm (ev_nameU 20 (pe_var rfl (.inl rfl)))))) av_nil)) ev_int (nobehind _ (by decide) (by decide))))) (fun _ _ _ _ _ _ => (ev_imm (ev_nameU 25 (pe_var rfl (.inr (.inl rfl))))))) av_nil)) (nobehind _ (by decide) (by decide))) (svs_one (sv_ret ev_bl)) (svs_nil)) (svs_one (sv_try (O1 := []) (tbl := tb_law_BadSet) rfl rfl ⟨rfl, by decide, .inl x_BadSet.gC⟩ (takes_of rfl rfl rfl rfl) y_law_BadSet (fun W pn xe tk hp => (svs_cons (O1 := [19]) (sv_expr (ev_call (h_set_of_pattern.mono (by decide)) hr (by rfl) tk (av_cons (ev_ix (ev_tup (av_cons (ev_tup av_nil) (av_cons (ev_tup (av_cons ev_int av_nil)) (av_cons (ev_lst (av_cons ev_int av_nil)) (av_cons (ev_tup (av_cons ev_bl av_nil)) (av_cons ev_non av_nil)))))) (ev_fresh (ev_bin b_mod (ev_ix (ev_nameU 1 (pe_var rfl (.inr (.inl rfl)))) ev_int) ev_int) (im_bin im_mod))) av_nil))) (svs_one (sv_ret ev_bl)))) (fun _ _ => (svs_one (sv_ret ev_bl)))))))))))))))))))))))))))))))))))))))
end Pd.Law
namespace Pd.Law
open PySem PySem.Spec PyProof.Rows L2 Pd
open Pd (D Env)
theorem ok_onsets_apart {P : Program} {w : World} {K : PySem.W.Frag} {mg : Str → Option Value} {base : Heap} {T : List Addr} {fd : FuncData} (B : Bt mg) (F : FunD K "onsets_apart" "onsets_apart" (defArgs (top 26)) (defBody (top 26)) (defScope (top 26)) [] [] (He.fAd K ("onsets_apart", none)) fd) (gm : mg "onsets_apart" = some (.ref (He.fAd K ("onsets_apart", none)))) (x_BadNumber : ExD K mg "BadNumber") (h_check_set : FD P w K mg base T 5 "check_set" 2 d_check_set) (h_is_number : FD P w K mg base T 1 "is_number" 1 d_is_number) (h_steps_round : FD P w K mg base T 6 "steps_round" 2 d_steps_round) (TB : GxR.TabB base mg (He.cT K ("onsets_apart", none)).1 (He.cT K ("onsets_apart", none)).2) (hP : (He.cT K ("onsets_apart", none)).2 ∈ T) :
    FD P w K mg base T 7 "onsets_apart" 3 d_onsets_apart :=
  fd_of (k := 6) (N := N_onsets_apart) (ps := ["many", "own", "gap"]) (B := m_onsets_apart) F S_onsets_apart gm (fun _ _ _ _ _ _ us hl => match us, hl with | [_, _, _], _ => rfl) fun A outer s H E hr =>
    (svs_cons (O1 := []) (sv_expr (ev_call (h_check_set.mono (by decide)) hr (by rfl) (takes_of rfl rfl rfl rfl) (av_cons (ev_nameU 0 (pe_var rfl (.inl rfl))) (av_cons (ev_nameU 1 (pe_var rfl (.inl rfl))) av_nil)))) (svs_cons (O1 := []) (sv_if (tv_pw (wv_or (tv_not (tv_tru (ev_call (h_is_number.mono (by decide)) hr (by rfl) (takes_of rfl rfl rfl rfl) (av_cons (ev_nameU 2 (pe_var rfl (.inr (.inl rfl)))) av_nil)))) (wv_or1 (tv_cmp (b_ltX (u64 hr)) (ev_nameU 2 (pe_var rfl (.inr (.inl rfl)))) ev_int (nobehind _ (by decide) (by decide)))))) (svs_one (sv_raise rfl (takes_of rfl rfl rfl rfl) x_BadNumber rfl)) (svs_nil)) (svs_one (sv_ret (ev_all (k := 0) (hr.mono (by decide)) rfl (S_onsets_apart).nd (by rfl) B.all TB hP rfl (blk (N := N_onsets_apart) (sc := sc_onsets_apart) (own := [("one", 3)]) (by decide +kernel)) (genk (by decide +kernel)) (iv_seq (ev_call (h_steps_round.mono (by decide)) hr (by rfl) (takes_of rfl rfl rfl rfl) (av_cons (ev_nameU 0 (pe_var rfl (.inl rfl))) (av_cons (ev_nameU 1 (pe_var rfl (.inl rfl))) av_nil)))) nxN (fun _ _ _ _ _ _ _ => (gv_name (S_onsets_apart).nd rfl (.inl rfl))) (fun _ _ _ _ _ _ _ r => tts_nil) (fun _ _ _ _ _ _ _ r => (ev_fresh (ev_cmp (b_geX (u64 r)) (ev_nameU 3 (pe_var rfl (.inl rfl))) (ev_nameU 2 (pe_var rfl (.inr (.inr rfl)))) (nobehind _ (by decide) (by decide))) (im_bin im_geX))))))))
end Pd.Law
namespace Pd.Law
open PySem PySem.Spec PyProof.Rows L2 Pd
open Pd (D Env)
theorem ok_pattern_of {P : Program} {w : World} {K : PySem.W.Frag} {mg : Str → Option Value} {base : Heap} {T : List Addr} {fd : FuncData} (B : Bt mg) (F : FunD K "pattern_of" "pattern_of" (defArgs (top 16)) (defBody (top 16)) (defScope (top 16)) [] [] (He.fAd K ("pattern_of", none)) fd) (gm : mg "pattern_of" = some (.ref (He.fAd K ("pattern_of", none)))) (h_check_set : FD P w K mg base T 5 "check_set" 2 d_check_set) :
    FD P w K mg base T 6 "pattern_of" 2 d_pattern_of :=
  fd_of (k := 5) (N := N_pattern_of) (ps := ["many", "own"]) (B := m_pattern_of) F S_pattern_of gm (fun _ _ _ _ _ _ us hl => match us, hl with | [_, _], _ => rfl) fun A outer s H E hr =>
    (svs_cons (O1 := []) (sv_expr (ev_call (h_check_set.mono (by decide)) hr (by rfl) (takes_of rfl rfl rfl rfl) (av_cons (ev_nameU 0 (pe_var rfl (.inl rfl))) (av_cons (ev_nameU 1 (pe_var rfl (.inr (.inl rfl)))) av_nil)))) (svs_one (sv_ret (ev_ty c_tuple (by rfl) B.tuple bt_tuple (av_cons (ev_lc rfl (S_pattern_of).nd (iv_range1 (by rfl) B.range (av_cons (ev_nameU 0 (pe_var rfl (.inl rfl))) av_nil)) (blk (N := N_pattern_of) (sc := sc_pattern_of) (own := [("k", 2)]) (by decide +kernel)) (fun _ _ _ _ _ => (gv_name (S_pattern_of).nd rfl (.inl rfl))) (fun _ _ _ _ _ _ => tts_nil) (fun _ _ _ _ _ _ => (ev_if (tv_cmp (b_inX (u65 hr)) (ev_nameU 2 (pe_var rfl (.inl rfl))) (ev_nameU 1 (pe_var rfl (.inr (.inl rfl)))) rfl) ev_int ev_int))) av_nil)))))
end Pd.Law
namespace Pd.Law
open PySem PySem.Spec PyProof.Rows L2 Pd
open Pd (D Env)
theorem ok_scale_of {P : Program} {w : World} {K : PySem.W.Frag} {mg : Str → Option Value} {base : Heap} {T : List Addr} {fd : FuncData} (B : Bt mg) (F : FunD K "scale_of" "scale_of" (defArgs (top 20)) (defBody (top 20)) (defScope (top 20)) [] [] (He.fAd K ("scale_of", none)) fd) (gm : mg "scale_of" = some (.ref (He.fAd K ("scale_of", none)))) (x_BadNumber : ExD K mg "BadNumber") (h_check_parts : FD P w K mg base T 3 "check_parts" 2 d_check_parts) (h_is_number : FD P w K mg base T 1 "is_number" 1 d_is_number) :
    FD P w K mg base T 4 "scale_of" 3 d_scale_of :=
  fd_of (k := 3) (N := N_scale_of) (ps := ["many", "step", "size"]) (B := m_scale_of) F S_scale_of gm (fun _ _ _ _ _ _ us hl => match us, hl with | [_, _, _], _ => rfl) fun A outer s H E hr =>
    (svs_cons (O1 := []) (sv_expr (ev_call (h_check_parts.mono (by decide)) hr (by rfl) (takes_of rfl rfl rfl rfl) (av_cons (ev_nameU 0 (pe_var rfl (.inr (.inl rfl)))) (av_cons (ev_nameU 2 (pe_var rfl (.inl rfl))) av_nil)))) (svs_cons (O1 := []) (sv_if (tv_pw (wv_or (tv_not (tv_tru (ev_call (h_is_number.mono (by decide)) hr (by rfl) (takes_of rfl rfl rfl rfl) (av_cons (ev_nameU 1 (pe_var rfl (.inr (.inl rfl)))) av_nil)))) (wv_or1 (tv_not (tv_chain (b_leX (u64 hr)) (b_ltX (u64 hr)) ev_int (ev_nameU 1 (pe_var rfl (.inr (.inl rfl)))) (ev_nameU 0 (pe_var rfl (.inr (.inl rfl))))))))) (svs_one (sv_raise rfl (takes_of rfl rfl rfl rfl) x_BadNumber rfl)) (svs_nil)) (svs_cons (O1 := []) (sv_setLc (O' := []) rfl (S_scale_of).nd rfl rfl (iv_range1 (by rfl) B.range (av_cons (ev_nameU 2 (pe_var rfl (.inl rfl))) av_nil)) (blk (N := N_scale_of) (sc := sc_scale_of) (own := [("k", 4)]) (by decide +kernel)) (fun _ _ _ _ _ => (gv_name (S_scale_of).nd rfl (.inl rfl))) (fun _ _ _ _ _ _ => tts_nil) (fun _ _ _ _ _ _ => (ev_fresh (ev_bin b_mod (ev_bin b_mul (ev_nameU 4 (pe_var rfl (.inl rfl))) (ev_nameU 1 (pe_var rfl (.inr (.inl rfl))))) (ev_nameU 0 (pe_var rfl (.inr (.inl rfl))))) (im_bin im_mod)))) (svs_cons (O1 := []) (sv_if (tv_cmp (b_ltX (u64 hr)) (ev_lenSI (by rfl) B.len (pe_setc (u65 hr) (intUse _).kit (intUse _).him rfl (S_scale_of).nd (iv_seq (ev_nameU 3 (pe_var rfl (.inl rfl)))) (blk (N := N_scale_of) (sc := sc_scale_of) (own := [("one", 5)]) (by decide +kernel)) (fun _ _ _ _ _ => (gv_name (S_scale_of).nd rfl (.inl rfl))) (fun _ _ _ _ _ _ => tts_nil) (fun _ _ _ _ _ _ => (ev_imm (ev_nameU 5 (pe_var rfl (.inl rfl))))))) (ev_nameU 2 (pe_var rfl (.inl rfl))) (nobehind _ (by decide) (by decide))) (svs_one (sv_raise rfl (takes_of rfl rfl rfl rfl) x_BadNumber rfl)) (svs_nil)) (svs_one (sv_ret (ev_ty c_tuple (by rfl) B.tuple bt_tuple (av_cons (ev_sorted (u65 hr) (by rfl) B.sorted (av_cons (ev_nameU 3 (pe_var rfl (.inl rfl))) av_nil)) av_nil))))))))
end Pd.Law
namespace Pd.Law
open PySem PySem.Spec PyProof.Rows L2 Pd
open Pd (D Env)
theorem ok_set_of_pattern {P : Program} {w : World} {K : PySem.W.Frag} {mg : Str → Option Value} {base : Heap} {T : List Addr} {fd : FuncData} (B : Bt mg) (F : FunD K "set_of_pattern" "set_of_pattern" (defArgs (top 15)) (defBody (top 15)) (defScope (top 15)) [] [] (He.fAd K ("set_of_pattern", none)) fd) (gm : mg "set_of_pattern" = some (.ref (He.fAd K ("set_of_pattern", none)))) (x_BadSet : ExD K mg "BadSet") (h_is_number : FD P w K mg base T 1 "is_number" 1 d_is_number) (h_check_round : FD P w K mg base T 2 "check_round" 1 d_check_round) (TB : GxR.TabB base mg (He.cT K ("set_of_pattern", none)).1 (He.cT K ("set_of_pattern", none)).2) (hP : (He.cT K ("set_of_pattern", none)).2 ∈ T) :
    FD P w K mg base T 5 "set_of_pattern" 1 d_set_of_pattern :=
  fd_of (k := 4) (N := N_set_of_pattern) (ps := ["pattern"]) (B := m_set_of_pattern) F S_set_of_pattern gm (fun _ _ _ _ _ _ us hl => match us, hl with | [_], _ => rfl) fun A outer s H E hr =>
    (svs_cons (O1 := []) (sv_if (tv_pw (wv_or (tv_not (tv_tru (ev_isi (by rfl) B.isinstance (by rfl) B.tuple bt_tuple isi_tuple (ev_nameU 0 (pe_var rfl (.inr (.inl rfl))))))) (wv_or1 (tv_not (tv_tru (ev_all (k := 1) (hr.mono (by decide)) rfl (S_set_of_pattern).nd (by rfl) B.all TB hP rfl (blk (N := N_set_of_pattern) (sc := sc_set_of_pattern) (own := [("one", 1)]) (by decide +kernel)) (genk (by decide +kernel)) (iv_seq (ev_nameU 0 (pe_var rfl (.inr (.inl rfl))))) nxN (fun _ _ _ _ _ _ _ => (gv_name (S_set_of_pattern).nd rfl (.inl rfl))) (fun _ _ _ _ _ _ _ r => tts_nil) (fun _ _ _ _ _ _ _ r => (ev_and (ev_fresh (ev_cmp (b_inX (u65 r)) (ev_nameU 1 (pe_var rfl (.inl rfl))) (ev_tup (av_cons ev_int (av_cons ev_int av_nil))) rfl) (im_bin im_inX)) (ev_one (ev_call (h_is_number.mono (by decide)) r (by rfl) takes0 (av_cons (ev_nameU 1 (pe_var rfl (.inl rfl))) av_nil))))))))))) (svs_one (sv_raise rfl (takes_of rfl rfl rfl rfl) x_BadSet rfl)) (svs_nil)) (svs_cons (O1 := []) (sv_expr (ev_call (h_check_round.mono (by decide)) hr (by rfl) (takes_of rfl rfl rfl rfl) (av_cons (ev_fresh (ev_fn c_lenX (by rfl) B.len bt_len (av_cons (ev_nameU 0 (pe_var rfl (.inr (.inl rfl)))) av_nil)) (im_fun im_lenX)) av_nil))) (svs_one (sv_ret (ev_ty c_tuple (by rfl) B.tuple bt_tuple (av_cons (ev_lc rfl (S_set_of_pattern).nd (iv_range1 (by rfl) B.range (av_cons (ev_fresh (ev_fn c_lenX (by rfl) B.len bt_len (av_cons (ev_nameU 0 (pe_var rfl (.inr (.inl rfl)))) av_nil)) (im_fun im_lenX)) av_nil)) (blk (N := N_set_of_pattern) (sc := sc_set_of_pattern) (own := [("k", 2)]) (by decide +kernel)) (fun _ _ _ _ _ => (gv_name (S_set_of_pattern).nd rfl (.inl rfl))) (fun _ _ _ _ _ _ => (tts_one (tv_cmp (b_eq (u64 hr)) (ev_ix (ev_nameU 0 (pe_var rfl (.inr (.inl rfl)))) (ev_nameU 2 (pe_var rfl (.inl rfl)))) ev_int (nobehind _ (by decide) (by decide))))) (fun _ _ _ _ _ _ => (ev_imm (ev_nameU 2 (pe_var rfl (.inl rfl)))))) av_nil))))))
end Pd.Law
namespace Pd.Law
open PySem PySem.Spec PyProof.Rows L2 Pd
open Pd (D Env)
theorem ok_spans {P : Program} {w : World} {K : PySem.W.Frag} {mg : Str → Option Value} {base : Heap} {T : List Addr} {fd : FuncData} (B : Bt mg) (F : FunD K "spans" "spans" (defArgs (top 17)) (defBody (top 17)) (defScope (top 17)) [] [] (He.fAd K ("spans", none)) fd) (gm : mg "spans" = some (.ref (He.fAd K ("spans", none)))) (h_check_set : FD P w K mg base T 5 "check_set" 2 d_check_set) :
    FD P w K mg base T 6 "spans" 2 d_spans :=
  fd_of (k := 5) (N := N_spans) (ps := ["many", "own"]) (B := m_spans) F S_spans gm (fun _ _ _ _ _ _ us hl => match us, hl with | [_, _], _ => rfl) fun A outer s H E hr =>
    (svs_cons (O1 := []) (sv_expr (ev_call (h_check_set.mono (by decide)) hr (by rfl) (takes_of rfl rfl rfl rfl) (av_cons (ev_nameU 0 (pe_var rfl (.inr (.inl rfl)))) (av_cons (ev_nameU 1 (pe_var rfl (.inr (.inl rfl)))) av_nil)))) (svs_cons (O1 := [2]) (sv_set (O' := [2]) (S_spans).nd rfl (.inl rfl) (ev_lst av_nil)) (svs_cons (O1 := [2]) (sv_for (passes_of rfl) rfl (iv_range2 (by rfl) B.range (av_cons ev_int (av_cons (ev_fresh (ev_fn c_lenX (by rfl) B.len bt_len (av_cons (ev_nameU 1 (pe_var rfl (.inr (.inl rfl)))) av_nil)) (im_fun im_lenX)) av_nil))) (gv_name (S_spans).nd rfl (.inr rfl)) (fun _ => (svs_cons (O1 := [2]) (sv_setDc (O' := [2]) rfl (S_spans).nd rfl rfl (iv_range1 (by rfl) B.range (av_cons (ev_fresh (ev_fn c_lenX (by rfl) B.len bt_len (av_cons (ev_nameU 1 (pe_var rfl (.inr (.inl rfl)))) av_nil)) (im_fun im_lenX)) av_nil)) (blk (N := N_spans) (sc := sc_spans) (own := [("k", 5)]) (by decide +kernel)) (fun _ _ _ _ _ => (gv_name (S_spans).nd rfl (.inl rfl))) (fun _ _ _ _ _ _ => tts_nil) (fun _ _ _ _ _ _ => (ev_fresh (ev_bin b_mod (ev_fresh (ev_bin b_sub (ev_ix (ev_nameU 1 (pe_var rfl (.inr (.inl rfl)))) (ev_fresh (ev_bin b_mod (ev_bin b_add (ev_nameU 5 (pe_var rfl (.inl rfl))) (ev_nameU 3 (pe_var rfl (.inr (.inl rfl))))) (ev_fresh (ev_fn c_lenX (by rfl) B.len bt_len (av_cons (ev_nameU 1 (pe_var rfl (.inr (.inl rfl)))) av_nil)) (im_fun im_lenX))) (im_bin im_mod))) (ev_ix (ev_nameU 1 (pe_var rfl (.inr (.inl rfl)))) (ev_nameU 5 (pe_var rfl (.inl rfl))))) (im_bin im_sub)) (ev_nameU 0 (pe_var rfl (.inr (.inl rfl))))) (im_bin im_mod))) (fun _ _ _ _ _ _ => ev_bl)) (svs_one (sv_app (pe_var rfl (.inl rfl)) (av_cons (ev_ty c_tuple (by rfl) B.tuple bt_tuple (av_cons (ev_sorted (u65 hr) (by rfl) B.sorted (av_cons (ev_ty (c_listX rfl) (by rfl) B.list bt_list (av_cons (ev_nameU 4 (pe_var rfl (.inl rfl))) av_nil)) av_nil)) av_nil)) av_nil)))))) (svs_one (sv_ret (ev_imm (ev_ty c_tuple (by rfl) B.tuple bt_tuple (av_cons (ev_name 2 (pe_var rfl (.inl rfl))) av_nil))))))))
end Pd.Law
namespace Pd.Law
open PySem PySem.Spec PyProof.Rows L2 Pd
open Pd (D Env)
theorem ok_steps_round {P : Program} {w : World} {K : PySem.W.Frag} {mg : Str → Option Value} {base : Heap} {T : List Addr} {fd : FuncData} (B : Bt mg) (F : FunD K "steps_round" "steps_round" (defArgs (top 10)) (defBody (top 10)) (defScope (top 10)) [] [] (He.fAd K ("steps_round", none)) fd) (gm : mg "steps_round" = some (.ref (He.fAd K ("steps_round", none)))) (h_check_set : FD P w K mg base T 5 "check_set" 2 d_check_set) :
    FD P w K mg base T 6 "steps_round" 2 d_steps_round :=
  fd_of (k := 5) (N := N_steps_round) (ps := ["many", "own"]) (B := m_steps_round) F S_steps_round gm (fun _ _ _ _ _ _ us hl => match us, hl with | [_, _], _ => rfl) fun A outer s H E hr =>
    (svs_cons (O1 := []) (sv_expr (ev_call (h_check_set.mono (by decide)) hr (by rfl) (takes_of rfl rfl rfl rfl) (av_cons (ev_nameU 0 (pe_var rfl (.inr (.inl rfl)))) (av_cons (ev_nameU 1 (pe_var rfl (.inr (.inl rfl)))) av_nil)))) (svs_one (sv_ret (ev_ty c_tuple (by rfl) B.tuple bt_tuple (av_cons (ev_lc rfl (S_steps_round).nd (iv_range1 (by rfl) B.range (av_cons (ev_fresh (ev_fn c_lenX (by rfl) B.len bt_len (av_cons (ev_nameU 1 (pe_var rfl (.inr (.inl rfl)))) av_nil)) (im_fun im_lenX)) av_nil)) (blk (N := N_steps_round) (sc := sc_steps_round) (own := [("k", 2)]) (by decide +kernel)) (fun _ _ _ _ _ => (gv_name (S_steps_round).nd rfl (.inl rfl))) (fun _ _ _ _ _ _ => tts_nil) (fun _ _ _ _ _ _ => (ev_imm (ev_if (tv_cmp (b_gtX (u64 hr)) (ev_fresh (ev_fn c_lenX (by rfl) B.len bt_len (av_cons (ev_nameU 1 (pe_var rfl (.inr (.inl rfl)))) av_nil)) (im_fun im_lenX)) ev_int (nobehind _ (by decide) (by decide))) (ev_fresh (ev_bin b_mod (ev_fresh (ev_bin b_sub (ev_ix (ev_nameU 1 (pe_var rfl (.inr (.inl rfl)))) (ev_fresh (ev_bin b_mod (ev_bin b_add (ev_nameU 2 (pe_var rfl (.inl rfl))) ev_int) (ev_fresh (ev_fn c_lenX (by rfl) B.len bt_len (av_cons (ev_nameU 1 (pe_var rfl (.inr (.inl rfl)))) av_nil)) (im_fun im_lenX))) (im_bin im_mod))) (ev_ix (ev_nameU 1 (pe_var rfl (.inr (.inl rfl)))) (ev_nameU 2 (pe_var rfl (.inl rfl))))) (im_bin im_sub)) (ev_nameU 0 (pe_var rfl (.inr (.inl rfl))))) (im_bin im_mod)) (ev_nameU 0 (pe_var rfl (.inr (.inl rfl)))))))) av_nil)))))
end Pd.Law
namespace Pd.Law
open PySem PySem.Spec PyProof.Rows L2 Pd
open Pd (D Env)
theorem number_int (i : Int) : d_is_number [.int i] = .ok (.bool true) := by
  simp [d_is_number, callD, m_is_number]
theorem number_none : d_is_number [.none] = .ok (.bool false) := by
  simp [d_is_number, callD, m_is_number]
theorem number_bool (b : Bool) : d_is_number [.bool b] = .ok (.bool false) := by
  cases b <;> simp [d_is_number, callD, m_is_number]
theorem cell_ok (ns : List Int) (d : D) (h : d = .list (ns.map .int) ∨ d = .dict [(.none, .tuple (ns.map .int))]) : ∃ c : Int, d__law_cell [d, .int 0] = .ok (.int c) := by
  rcases h with rfl | rfl
  · cases ns with
    | nil => exact ⟨0, by simp [d__law_cell, callD, m__law_cell]⟩
    | cons x xs =>
      have i0 : ixD (.list ((x :: xs).map .int)) (.int 0) = .ok (.int x) := by
        have := ix_lI (xs := x :: xs) (k := 0) (by simp)
        simpa using this
      have hp : (0 : Int) < ((x :: xs).map PyData.int).length := by simp
      refine ⟨x, ?_⟩
      simp only [List.map_cons] at i0 hp ⊢
      simp [d__law_cell, callD, m__law_cell, i0]
  · cases ns with
    | nil => exact ⟨0, by simp [d__law_cell, callD, m__law_cell]⟩
    | cons x xs =>
      have i0 : ixD (.list ((x :: xs).map .int)) (.int 0) = .ok (.int x) := by
        have := ix_lI (xs := x :: xs) (k := 0) (by simp)
        simpa using this
      have i0 : ixD (.dict [(.none, .tuple ((x :: xs).map .int))]) (.int 0) = .ok (.int x) := (show ixD (.dict [(.none, .tuple ((x :: xs).map .int))]) (.int 0) = ixD (.list ((x :: xs).map .int)) (.int 0) from rfl).trans i0
      refine ⟨x, ?_⟩
      simp only [List.map_cons] at i0 ⊢
      simp [d__law_cell, callD, m__law_cell, i0]
/-- the draws: none is below zero -/
theorem draws_ok (c : Int) (m : Nat) (hm : m ≤ 1000) : ∃ n : List Int, n.length = m ∧ (∀ x ∈ n, 0 ≤ x) ∧ d__law_draws [.int c, .int m] = .ok (.list (n.map .int)) := by
  obtain ⟨ρ', e, n, r, x, y, hn, hp, rfl⟩ := forD_inv (g := gN 4) (B := m__law_draws_L1) (ds := rangeL 0 m) (ρ := [some (.int c), some (.int m), some (.list []), some (.int c), none, none])
    (fun k ρ => ∃ (n : List Int) (r : Int) (x y : Option D), n.length = k ∧ (∀ x ∈ n, 0 ≤ x) ∧ ρ = [some (.int c), some (.int m), some (.list (n.map .int)), some (.int r), x, y]) ⟨[], c, none, none, rfl, fun _ h => (nomatch h), rfl⟩ (fun k d ρ hd i => by
      obtain ⟨n, r, x, y, hn, hp, rfl⟩ := i
      obtain ⟨hk, rfl⟩ := rangeL_get hd
      have hb : n.length < 16777216 := by omega
      generalize hm : (c * 48271 + (k : Int) * 69621 + 1) % 2147483647 = m
      have m0 : (-18446744073709551616 : Int) < m := by omega
      have m1 : m < 18446744073709551616 := by omega
      by_cases h : (10 : Int) ^ 18 ≤ c
      · refine ⟨_, _, rfl, .inl ?_, n ++ [r % 1009], r / 1009, some (.int k), some (.int m), by simp [hn], fun x hx => ?_, rfl⟩
        · have h' : (1000000000000000000 : Int) ≤ c := h
          simp [m__law_draws_L1, hm, h', hb]
        · rcases List.mem_append.mp hx with z | z
          · exact hp x z
          · cases List.mem_singleton.mp z
            omega
      · refine ⟨_, _, rfl, .inl ?_, n ++ [(m * m + m * 40692) % 2147483399 / 7], r, some (.int k), some (.int m), by simp [hn], fun x hx => ?_, rfl⟩
        · have h' : ¬ (1000000000000000000 : Int) ≤ c := h
          simp [m__law_draws_L1, hm, h', hb, m0, m1]
        · rcases List.mem_append.mp hx with z | z
          · exact hp x z
          · cases List.mem_singleton.mp z
            omega)
  rw [rangeL_len] at hn
  have hr : rngD [.int m] = .ok (rangeL 0 m) := rng1 (b := m) (by omega)
  exact ⟨n, hn, hp, by simp [d__law_draws, callD, m__law_draws, hr, e]⟩
end Pd.Law
namespace Pd.Law
open PySem PySem.Spec PyProof.Rows L2 Pd
open Pd (D Env)
/-! ### insertion sort -/
section
variable {α : Type} (lt : α → α → Bool)
def ins (x : α) : List α → List α
  | [] => [x]
  | y :: ys => if lt y x = true then y :: ins x ys else x :: y :: ys
def srtI : List α → List α
  | [] => []
  | x :: xs => ins lt x (srtI xs)
theorem ins_perm (x : α) : ∀ l : List α, (ins lt x l).Perm (x :: l)
  | [] => .refl _
  | y :: ys => by
    unfold ins
    by_cases h : lt y x = true
    · rw [if_pos h]
      exact ((ins_perm x ys).cons y).trans (.swap _ _ _)
    · rw [if_neg h]
theorem srtI_perm : ∀ l : List α, (srtI lt l).Perm l
  | [] => .refl _
  | x :: xs => (ins_perm lt x _).trans ((srtI_perm xs).cons x)
theorem ins_pw (as : ∀ a b, lt a b = true → lt b a = false) (tr : ∀ a b c, lt b a = false → lt c b = false → lt c a = false) (x : α) : ∀ l : List α, l.Pairwise (fun a b => lt b a = false) → (ins lt x l).Pairwise fun a b => lt b a = false
  | [], _ => by simp [ins]
  | y :: ys, h => by
    obtain ⟨h1, h2⟩ := List.pairwise_cons.mp h
    unfold ins
    by_cases g : lt y x = true
    · rw [if_pos g]
      refine List.pairwise_cons.mpr ⟨fun b hb => ?_, ins_pw as tr x ys h2⟩
      rcases List.mem_cons.mp ((ins_perm lt x ys).mem_iff.mp hb) with z | z
      · rw [z]; exact as _ _ g
      · exact h1 b z
    · rw [if_neg g]
      have g : lt y x = false := by simpa using g
      refine List.pairwise_cons.mpr ⟨fun b hb => ?_, h⟩
      rcases List.mem_cons.mp hb with z | z
      · rw [z]; exact g
      · exact tr _ _ _ g (h1 b z)
theorem srtI_pw (as : ∀ a b, lt a b = true → lt b a = false) (tr : ∀ a b c, lt b a = false → lt c b = false → lt c a = false) : ∀ l : List α, (srtI lt l).Pairwise fun a b => lt b a = false
  | [] => .nil
  | x :: xs => ins_pw lt as tr x _ (srtI_pw as tr xs)
end
def isrt (l : List Int) : List Int := srtI (fun a b => decide (a < b)) l
def wsrt (l : List (List Int)) : List (List Int) := srtI ltI l
theorem isrt_perm (l : List Int) : (isrt l).Perm l := srtI_perm _ l
theorem wsrt_perm (l : List (List Int)) : (wsrt l).Perm l := srtI_perm _ l
theorem isrt_pw (l : List Int) : (isrt l).Pairwise fun a b => a ≤ b := (srtI_pw (fun a b : Int => decide (a < b)) (fun a b h => by simp at h ⊢; omega) (fun a b c h g => by simp at h g ⊢; omega) l).imp fun h => by simp at h; omega
theorem wsrt_pw (l : List (List Int)) : (wsrt l).Pairwise fun a b => ltI b a = false := srtI_pw ltI ltI_asym (fun a b c h g => geI_trans h g) l
theorem le_eq {xs ys : List Int} (p : xs.Perm ys) (h1 : xs.Pairwise (· ≤ ·)) (h2 : ys.Pairwise (· ≤ ·)) : xs = ys :=
  pw_eq (r := fun a b => decide (a < b)) (fun a b h g => by simp at h g; omega) p (h1.imp fun h => by simp; omega) (h2.imp fun h => by simp; omega) fun a => by simp
theorem isrt_eq {xs ys : List Int} (p : xs.Perm ys) : isrt xs = isrt ys := le_eq ((isrt_perm xs).trans (p.trans (isrt_perm ys).symm)) (isrt_pw xs) (isrt_pw ys)
theorem isrt_of {xs : List Int} (h : xs.Pairwise (· ≤ ·)) : isrt xs = xs := le_eq (isrt_perm xs) (isrt_pw xs) h
theorem isrt_len (l : List Int) : (isrt l).length = l.length := (isrt_perm l).length_eq
theorem lt_eq {xs ys : List (List Int)} (m : ∀ k, k ∈ xs ↔ k ∈ ys) (h1 : xs.Pairwise fun a b => ltI a b = true) (h2 : ys.Pairwise fun a b => ltI a b = true) : xs = ys := by
  have n1 : xs.Nodup := h1.imp fun h e => by rw [e, ltI_self] at h; cases h
  have n2 : ys.Nodup := h2.imp fun h e => by rw [e, ltI_self] at h; cases h
  exact pw_eq (r := ltI) ltI_tri ((List.perm_ext_iff_of_nodup n1 n2).mpr m) (h1.imp fun h => ltI_asym _ _ h) (h2.imp fun h => ltI_asym _ _ h) ltI_self
/-- the unlike words, in order -/
def wset (l : List (List Int)) : List (List Int) := wsrt (ddp l)
theorem wset_mem {l : List (List Int)} {k : List Int} : k ∈ wset l ↔ k ∈ l := ((wsrt_perm _).mem_iff).trans mem_ddp
theorem wset_pw (l : List (List Int)) : (wset l).Pairwise fun a b => ltI a b = true := by
  have n : (wset l).Nodup := (wsrt_perm _).nodup_iff.mpr (nodup_ddp l)
  refine List.Pairwise.imp_of_mem (R := fun a b => ltI b a = false ∧ a ≠ b) (fun {a b} _ _ h => ?_) (List.Pairwise.and (wsrt_pw (ddp l)) n)
  cases e : ltI a b with
  | true => rfl
  | false => exact absurd (ltI_tri a b e h.1) h.2
theorem wset_eq {l l' : List (List Int)} (m : ∀ k, k ∈ l ↔ k ∈ l') : wset l = wset l' := lt_eq (fun k => wset_mem.trans ((m k).trans wset_mem.symm)) (wset_pw l) (wset_pw l')
theorem wset_of {ys l : List (List Int)} (m : ∀ k, k ∈ ys ↔ k ∈ l) (h : ys.Pairwise fun a b => ltI a b = true) : ys = wset l := lt_eq (fun k => (m k).trans wset_mem.symm) h (wset_pw l)
theorem wset_len (l : List (List Int)) : (wset l).length ≤ l.length := by
  unfold wset
  rw [(wsrt_perm _).length_eq]
  exact ddp_len l
/-! ### sets -/
structure SOk (m : Nat) (A : List Int) : Prop where
  m1 : 1 ≤ m
  m2 : m ≤ 24
  up : A.Pairwise (· < ·)
  x : ∀ x ∈ A, 0 ≤ x ∧ x < (m : Int)
theorem SOk.nd {m : Nat} {A : List Int} (h : SOk m A) : A.Nodup := h.up.imp fun h e => by omega
theorem pig {A : List Int} {m : Nat} (n : A.Nodup) (h : ∀ x ∈ A, 0 ≤ x ∧ x < (m : Int)) : A.length ≤ m := by
  have n2 : (A.map Int.toNat).Nodup := by
    refine List.pairwise_map.mpr (List.Pairwise.imp_of_mem (fun {a b} ha hb hne e => hne ?_) n)
    have := h a ha
    have := h b hb
    omega
  have := nat_nodup_len (A.map Int.toNat) (List.range m) n2 fun x hx => by
    obtain ⟨a, ha, rfl⟩ := List.mem_map.mp hx
    have := h a ha
    exact List.mem_range.mpr (by omega)
  rwa [List.length_map, List.length_range] at this
theorem SOk.len {m : Nat} {A : List Int} (h : SOk m A) : A.length ≤ m := pig h.nd h.x
theorem round_ok {m : Nat} (h1 : 1 ≤ m) (h2 : m ≤ 24) : d_check_round [.int m] = .ok .none := by
  have g1 : (1 : Int) ≤ m := by omega
  have g2 : (m : Int) ≤ 24 := by omega
  simp [d_check_round, callD, m_check_round, number_int, g1, g2]
theorem set_ok {m : Nat} {A : List Int} (h : SOk m A) : d_check_set [.int m, tW A] = .ok .none := by
  have hl := h.len
  have hm := h.m2
  have e : gxGo false (gN 2) bYes m_check_set_e1 [some (.int m), some (tW A), none, none] (A.map PyData.int) = .ok (A.all fun x => decide (0 ≤ x) && decide (x < (m : Int))) :=
    gx_all PyData.int _ A fun a _ => ⟨_, rfl, by
      by_cases h : 0 ≤ a <;> simp [m_check_set_e1, number_int, h]⟩
  have ha : (A.all fun x => decide (0 ≤ x) && decide (x < (m : Int))) = true := List.all_eq_true.mpr fun x hq => by
    obtain ⟨a, b⟩ := h.x x hq
    simp [a, b]
  rw [ha] at e
  have hr : rngD [.int ((A.length : Int) - 1)] = .ok ((List.range (A.length - 1)).map fun i : Nat => PyData.int (i : Int)) := by
    cases A with
    | nil => rfl
    | cons a A =>
      have e1 : (((a :: A).length : Int) - 1) = ((A.length : Nat) : Int) := by rw [List.length_cons]; omega
      rw [e1]
      exact rng1' (by rw [List.length_cons] at hl; omega)
  have e2 : gxGo true (gN 3) bYes m_check_set_e2 [some (.int m), some (tW A), none, none] ((List.range (A.length - 1)).map fun i : Nat => PyData.int (i : Int)) = .ok ((List.range (A.length - 1)).any fun k => decide (A.getD (k + 1) 0 ≤ A.getD k 0)) :=
    gx_any (fun i : Nat => PyData.int (i : Int)) _ _ fun k hk => by
      have hk := List.mem_range.mp hk
      refine ⟨_, rfl, ?_⟩
      have i1 := ixW (w := A) (k := k) (by omega)
      have i2 := ixW (w := A) (k := k + 1) (by omega)
      rw [Int.natCast_add] at i2
      have e0 : ((1 : Nat) : Int) = 1 := rfl
      rw [e0] at i2
      simp only [tW] at i1 i2
      simp [m_check_set_e2, i1, i2, -List.getD_eq_getElem?_getD]
  have ha2 : ((List.range (A.length - 1)).any fun k => decide (A.getD (k + 1) 0 ≤ A.getD k 0)) = false := by
    rw [List.any_eq_false]
    intro k hk
    have hk := List.mem_range.mp hk
    have := List.pairwise_iff_getElem.mp h.up k (k + 1) (by omega) (by omega) (by omega)
    rw [getD_lt (by omega), getD_lt (by omega)]
    simp
    exact this
  rw [ha2] at e2
  have hk := round_ok h.m1 h.m2
  simp only [tW] at e e2 ⊢
  simp [d_check_set, callD, m_check_set, hk, e, hr, e2]
/-! ### moved sets -/
def movN (m : Nat) (A : List Int) (s : Int) : List Int := isrt (A.map fun x => (x + s) % (m : Int))
theorem movN_len (m : Nat) (A : List Int) (s : Int) : (movN m A s).length = A.length := by
  unfold movN
  rw [isrt_len, List.length_map]
theorem sort_map {A : List Int} {f : Int → Int} : sortedD [.list ((A.map f).map .int)] = .ok (.list ((isrt (A.map f)).map .int)) := sorted_lI (isrt_perm _) (isrt_pw _)
theorem lmoved_ok {m : Nat} {A : List Int} {s : Int} (hm : 1 ≤ m) (hl : A.length ≤ 1000) : d__law_moved [.int m, tW A, .int s] = .ok (tW (movN m A s)) := by
  have hp : (0 : Int) < m := by omega
  have hp0 : m ≠ 0 := by omega
  have e : lcGo (gN 3) bYes m__law_moved_e1 [some (.int m), some (tW A), some (.int s), none] (A.map PyData.int) = .ok ((A.map fun x => (x + s) % (m : Int)).map .int) := by
    rw [lcGo_all PyData.int (fun x => .int ((x + s) % (m : Int))) A fun a _ => ⟨_, rfl, by simp [m__law_moved_e1, hp, hp0]⟩, List.map_map]
    rfl
  have hb : A.length < 16777216 := by omega
  have hs := sort_map (A := A) (f := fun x => (x + s) % (m : Int))
  simp only [tW] at e ⊢
  simp [d__law_moved, callD, m__law_moved, e, hb, hs, movN, -List.map_map]
/-! ### places by a test -/
def ixs (m : Nat) (p : Nat → Bool) : List Int := ((List.range m).filter p).map fun k : Nat => (k : Int)
theorem ixs_map (m : Nat) (p : Nat → Bool) : (ixs m p).map PyData.int = ((List.range m).filter p).map fun k : Nat => PyData.int (k : Int) := by
  unfold ixs
  rw [List.map_map]
  rfl
theorem ixs_len (m : Nat) (p : Nat → Bool) : (ixs m p).length ≤ m := by
  unfold ixs
  rw [List.length_map]
  exact Nat.le_trans (List.length_filter_le _ _) (by rw [List.length_range]; exact Nat.le_refl _)
theorem lc_ixs {g : Env → D → R Env} {tt : Env → R Bool} {te : EF} {ρ : Env} (m : Nat) (p : Nat → Bool) (h : ∀ k, k < m → ∃ ρ1, g ρ (.int (k : Int)) = .ok ρ1 ∧ tt ρ1 = .ok (p k) ∧ (p k = true → te ρ1 = .ok (.int (k : Int)))) :
    lcGo g tt te ρ ((List.range m).map fun i : Nat => PyData.int (i : Int)) = .ok ((ixs m p).map .int) := by
  rw [ixs_map]
  exact lcGo_map (fun i : Nat => PyData.int (i : Int)) p (fun i : Nat => PyData.int (i : Int)) _ fun k hk => h k (List.mem_range.mp hk)
theorem ixs_up (m : Nat) (p : Nat → Bool) : (ixs m p).Pairwise (· < ·) := by
  unfold ixs
  refine List.pairwise_map.mpr ((List.pairwise_lt_range.filter p).imp fun h => by omega)
theorem mem_ixs {m : Nat} {p : Nat → Bool} {x : Int} : x ∈ ixs m p ↔ ∃ k : Nat, k < m ∧ p k = true ∧ x = (k : Int) := by
  unfold ixs
  constructor
  · intro h
    obtain ⟨k, hk, rfl⟩ := List.mem_map.mp h
    obtain ⟨a, b⟩ := List.mem_filter.mp hk
    exact ⟨k, List.mem_range.mp a, b, rfl⟩
  · rintro ⟨k, a, b, rfl⟩
    exact List.mem_map.mpr ⟨k, List.mem_filter.mpr ⟨List.mem_range.mpr a, b⟩, rfl⟩
theorem ixs_ok {m : Nat} (h1 : 1 ≤ m) (h2 : m ≤ 24) (p : Nat → Bool) : SOk m (ixs m p) := ⟨h1, h2, ixs_up m p, fun x hx => by
  obtain ⟨k, a, _, rfl⟩ := mem_ixs.mp hx
  omega⟩
theorem range_nat (m : Nat) (h : m < 1000000) : rngD [.int (m : Int)] = .ok ((List.range m).map fun i : Nat => PyData.int (i : Int)) := rng1' (by omega)
theorem mod_nat {a b : Nat} (h : 0 < b) : modD (.int (a : Int)) (.int (b : Int)) = .ok (.int ((a % b : Nat) : Int)) := by
  rw [o_mod, if_pos (by omega), Int.natCast_emod]
theorem SOk.le {m : Nat} {A : List Int} (h : SOk m A) : A.length ≤ 1000 := by have := h.len; have := h.m2; omega
theorem ne_b (b : Bool) : neD (.bool b) (.bool b) = .ok (.bool false) := by cases b <;> exact neD_same (sh_bool (n := 0))
end Pd.Law
namespace Pd.Law
open PySem PySem.Spec PyProof.Rows L2 Pd
open Pd (D Env)
/-! ### sums -/
def sm (f : Nat → Int) : Nat → Int
  | 0 => 0
  | n + 1 => sm f n + f n
theorem sm_tel (h : Nat → Int) : ∀ n, sm (fun k => h (k + 1) - h k) n = h n - h 0
  | 0 => by unfold sm; omega
  | n + 1 => by
    unfold sm
    rw [sm_tel h n]
    omega
theorem sm_add (f g : Nat → Int) : ∀ n, sm (fun k => f k + g k) n = sm f n + sm g n
  | 0 => rfl
  | n + 1 => by
    unfold sm
    rw [sm_add f g n]
    omega
theorem sm_congr {f g : Nat → Int} : ∀ n, (∀ k, k < n → f k = g k) → sm f n = sm g n
  | 0, _ => rfl
  | n + 1, h => by
    unfold sm
    rw [sm_congr n fun k hk => h k (by omega), h n (by omega)]
theorem sm_up {f : Nat → Int} {c : Int} : ∀ n, (∀ k, k < n → f k ≤ c + 1) → sm f n ≤ n * c + n
  | 0, _ => by unfold sm; simp
  | n + 1, h => by
    unfold sm
    have h1 := sm_up n fun k hk => h k (by omega)
    have h2 := h n (by omega)
    rw [Int.natCast_add, Int.add_mul]
    omega
theorem sm_lo {f : Nat → Int} {c : Int} : ∀ n, (∀ k, k < n → c ≤ f k + 1) → n * c ≤ sm f n + n
  | 0, _ => by unfold sm; simp
  | n + 1, h => by
    unfold sm
    have h1 := sm_lo n fun k hk => h k (by omega)
    have h2 := h n (by omega)
    rw [Int.natCast_add, Int.add_mul]
    omega
theorem sm_near {f : Nat → Int} {c : Int} : ∀ n, (∀ k, k < n → f k ≤ c + 1 ∧ c ≤ f k + 1) → ∀ i, i < n → f i = c → sm f n ≤ n * c + (n - 1) ∧ n * c ≤ sm f n + (n - 1)
  | 0, _, i, hi, _ => absurd hi (Nat.not_lt_zero _)
  | n + 1, h, i, hi, e => by
    unfold sm
    have h2 := h n (by omega)
    rw [Int.natCast_add, Int.add_mul]
    by_cases z : i = n
    · subst z
      have h1 := sm_up (f := f) (c := c) i fun k hk => (h k (by omega)).1
      have h3 := sm_lo (f := f) (c := c) i fun k hk => (h k (by omega)).2
      omega
    · have h1 := sm_near n (fun k hk => h k (by omega)) i (by omega) e
      omega
theorem sm_max (b : Nat → Int) : ∀ n, 0 < n → ∃ i, i < n ∧ ∀ k, k < n → b k ≤ b i
  | 0, h => absurd h (Nat.lt_irrefl _)
  | 1, _ => ⟨0, by omega, fun k hk => by
    have : k = 0 := by omega
    rw [this]
    omega⟩
  | n + 2, _ => by
    obtain ⟨i, hi, h⟩ := sm_max b (n + 1) (by omega)
    by_cases c : b (n + 1) ≤ b i
    · refine ⟨i, by omega, fun k hk => ?_⟩
      by_cases z : k = n + 1
      · rw [z]; exact c
      · exact h k (by omega)
    · refine ⟨n + 1, by omega, fun k hk => ?_⟩
      by_cases z : k = n + 1
      · rw [z]; omega
      · have := h k (by omega)
        omega
/-! ### division -/
theorem dm (y m : Int) : y % m + m * (y / m) = y := Int.emod_add_mul_ediv y m
theorem divmod_of {y m q r : Int} (hm : 0 < m) (h : r + m * q = y) (h0 : 0 ≤ r) (h1 : r < m) : y / m = q ∧ y % m = r := (Int.ediv_emod_unique hm).mpr ⟨h, h0, h1⟩
theorem divstep {m d y : Int} (hm : 0 < m) (hd : 0 < d) (hdm : d ≤ m) : (y - d) / m = if y % m < d then y / m - 1 else y / m := by
  have e := dm y m
  have h0 := Int.emod_nonneg y (show m ≠ 0 by omega)
  have h1 := Int.emod_lt_of_pos y hm
  by_cases c : y % m < d
  · rw [if_pos c]
    refine (divmod_of (r := y % m - d + m) hm ?_ (by omega) (by omega)).1
    rw [Int.mul_sub]
    omega
  · rw [if_neg c]
    exact (divmod_of (r := y % m - d) hm (by omega) (by omega) (by omega)).1
theorem div_mul_sub {m y q : Int} (hm : 0 < m) : (y - m * q) / m = y / m - q ∧ (y - m * q) % m = y % m := by
  have e := dm y m
  have h0 := Int.emod_nonneg y (show m ≠ 0 by omega)
  have h1 := Int.emod_lt_of_pos y hm
  refine divmod_of hm ?_ h0 h1
  rw [Int.mul_sub]
  omega
/-! ### sets by floors -/
def flo (m d : Nat) (s x : Int) : Bool := decide ((s - x * (d : Int)) % (m : Int) < (d : Int))
/-- A is the floor set of s -/
def isF (m : Nat) (A : List Int) (s : Int) : Prop := ∀ x : Int, x % (m : Int) ∈ A ↔ flo m A.length s x = true
theorem flo_step {m d : Nat} {s x : Int} (hd : 0 < d) (hdm : d ≤ m) : (s - (x + 1) * (d : Int)) / (m : Int) = (s - x * (d : Int)) / (m : Int) - (if flo m d s x = true then 1 else 0) := by
  have e : s - (x + 1) * (d : Int) = (s - x * (d : Int)) - d := by rw [Int.add_mul]; omega
  rw [e, divstep (by omega) (by omega) (by omega)]
  unfold flo
  by_cases c : (s - x * (d : Int)) % (m : Int) < (d : Int)
  · rw [if_pos c, if_pos (decide_eq_true c)]
  · rw [if_neg c, if_neg (by simpa using c)]
    omega
theorem flo_per {m d : Nat} {s x q : Int} (hm : 0 < m) : flo m d s (x + m * q) = flo m d s x := by
  unfold flo
  have e : s - (x + (m : Int) * q) * (d : Int) = (s - x * (d : Int)) - m * (q * d) := by rw [Int.add_mul, Int.mul_assoc]; omega
  rw [e, (div_mul_sub (by omega)).2]
/-- how many of L places from at hold p -/
def cnt (p : Int → Bool) (a : Int) (L : Nat) : Nat := ((List.range L).filter fun k : Nat => p (a + k)).length
theorem cnt_succ (p : Int → Bool) (a : Int) (L : Nat) : cnt p a (L + 1) = cnt p a L + (if p (a + L) = true then 1 else 0) := by
  unfold cnt
  rw [List.range_succ, List.filter_append, List.length_append]
  congr 1
  by_cases c : p (a + L) = true
  · rw [if_pos c]
    simp [c]
  · rw [if_neg c]
    simp [c]
theorem cnt_congr {p q : Int → Bool} {a : Int} {L : Nat} (h : ∀ x, p x = q x) : cnt p a L = cnt q a L := by
  have : p = q := funext h
  rw [this]
theorem cnt_flo {m d : Nat} {s a : Int} (hd : 0 < d) (hdm : d ≤ m) : ∀ L, (cnt (flo m d s) a L : Int) = (s - a * (d : Int)) / (m : Int) - (s - (a + L) * (d : Int)) / (m : Int)
  | 0 => by
    have : (a + ((0 : Nat) : Int)) = a := by omega
    rw [this]
    show ((0 : Nat) : Int) = _
    omega
  | L + 1 => by
    rw [cnt_succ, Int.natCast_add, cnt_flo hd hdm L]
    have e : (a + ((L + 1 : Nat) : Int)) = (a + (L : Int)) + 1 := by omega
    rw [e, flo_step hd hdm]
    by_cases c : flo m d s (a + L) = true
    · rw [if_pos c, if_pos c]
      show _ + (1 : Int) = _
      omega
    · rw [if_neg c, if_neg c]
      show _ + (0 : Int) = _
      omega
theorem cnt_flo_m {m d : Nat} {s a : Int} (hd : 0 < d) (hdm : d ≤ m) : cnt (flo m d s) a m = d := by
  have h := cnt_flo (s := s) (a := a) hd hdm m
  have e : s - (a + (m : Int)) * (d : Int) = (s - a * (d : Int)) - m * d := by rw [Int.add_mul]; omega
  rw [e, (div_mul_sub (by omega)).1] at h
  omega
theorem lt_mul {a b m : Int} (hm : 0 < m) (h : a * m < b * m) : a < b := Int.lt_of_mul_lt_mul_right h (by omega)
def balP (m : Nat) (p : Int → Bool) : Prop := ∀ L, 1 ≤ L → L < m → ∀ a b : Nat, a < m → b < m → cnt p a L ≤ cnt p b L + 1
theorem flo_bal {m d : Nat} {s : Int} (hd : 0 < d) (hdm : d ≤ m) : balP m (flo m d s) := fun L _ _ a b _ _ => by
  have h1 := cnt_flo (s := s) (a := a) hd hdm L
  have h2 := cnt_flo (s := s) (a := b) hd hdm L
  have hm : (0 : Int) < m := by omega
  have key : ∀ a : Int, ∃ r1 r2 : Int, 0 ≤ r1 ∧ r1 < m ∧ 0 ≤ r2 ∧ r2 < m ∧ ((s - a * (d : Int)) / (m : Int) - (s - (a + L) * (d : Int)) / (m : Int)) * m = (L : Int) * d + r2 - r1 := fun a => by
    have e1 := dm (s - a * (d : Int)) m
    have e2 := dm (s - (a + L) * (d : Int)) m
    refine ⟨_, _, Int.emod_nonneg (s - a * (d : Int)) (by omega), Int.emod_lt_of_pos (s - a * (d : Int)) hm, Int.emod_nonneg (s - (a + L) * (d : Int)) (by omega), Int.emod_lt_of_pos (s - (a + L) * (d : Int)) hm, ?_⟩
    rw [Int.sub_mul, Int.mul_comm _ (m : Int), Int.mul_comm _ (m : Int)]
    have e3 : (a + (L : Int)) * (d : Int) = a * d + L * d := Int.add_mul _ _ _
    omega
  obtain ⟨r1, r2, a1, a2, a3, a4, k1⟩ := key a
  obtain ⟨t1, t2, b1, b2, b3, b4, k2⟩ := key b
  rw [← h1] at k1
  rw [← h2] at k2
  have : (cnt (flo m d s) a L : Int) < (cnt (flo m d s) b L : Int) + 2 := lt_mul hm (by rw [Int.add_mul]; omega)
  omega
end Pd.Law
namespace Pd.Law
open PySem PySem.Spec PyProof.Rows L2 Pd
open Pd (D Env)
theorem nd_len {α : Type} [DecidableEq α] : ∀ {l1 l2 : List α}, l1.Nodup → (∀ x ∈ l1, x ∈ l2) → l1.length ≤ l2.length
  | [], l2, _, _ => Nat.zero_le _
  | a :: l1, l2, n, h => by
    obtain ⟨n1, n2⟩ := List.nodup_cons.mp n
    have ha := h a List.mem_cons_self
    have i := nd_len (l2 := l2.erase a) n2 fun x hx => (List.mem_erase_of_ne (fun e => n1 (by rw [← e]; exact hx))).mpr (h x (List.mem_cons_of_mem _ hx))
    rw [List.length_erase_of_mem ha] at i
    have := List.length_pos_of_mem ha
    rw [List.length_cons]
    omega
def mem (m : Nat) (A : List Int) (x : Int) : Bool := decide (x % (m : Int) ∈ A)
theorem mem_per {m : Nat} {A : List Int} {x q : Int} (hm : 0 < m) : mem m A (x + m * q) = mem m A x := by
  unfold mem
  rw [Int.add_mul_emod_self_left]
theorem mem_nat {m : Nat} {A : List Int} {k : Nat} (h : k < m) : mem m A (k : Int) = decide ((k : Int) ∈ A) := by
  unfold mem
  rw [Int.emod_eq_of_lt (by omega) (by omega)]
theorem cnt_mem {m : Nat} {A : List Int} (h : SOk m A) : cnt (mem m A) 0 m = A.length := by
  have e : cnt (mem m A) 0 m = (ixs m fun k => decide ((k : Int) ∈ A)).length := by
    unfold cnt ixs
    rw [List.length_map]
    congr 1
    refine List.filter_congr fun k hk => ?_
    have hk := List.mem_range.mp hk
    rw [Int.zero_add, mem_nat hk]
  rw [e]
  refine Nat.le_antisymm (nd_len ((ixs_up m _).imp fun h e => by omega) fun x hx => ?_) (nd_len h.nd fun x hx => ?_)
  · obtain ⟨k, _, h2, rfl⟩ := mem_ixs.mp hx
    exact of_decide_eq_true h2
  · obtain ⟨a, b⟩ := h.x x hx
    have : ((x.toNat : Nat) : Int) = x := Int.toNat_of_nonneg a
    exact mem_ixs.mpr ⟨x.toNat, by omega, decide_eq_true (by rw [this]; exact hx), this.symm⟩
theorem cnt_add (p : Int → Bool) (a : Int) (L : Nat) : ∀ K, cnt p a (L + K) = cnt p a L + cnt p (a + L) K
  | 0 => rfl
  | K + 1 => by
    rw [← Nat.add_assoc, cnt_succ, cnt_succ, cnt_add p a L K]
    have : a + ((L + K : Nat) : Int) = a + (L : Int) + (K : Int) := by omega
    rw [this]
    omega
theorem cnt_one (p : Int → Bool) (a : Int) : cnt p a 1 = if p a = true then 1 else 0 := by
  have h := cnt_succ p a 0
  have e : a + ((0 : Nat) : Int) = a := by omega
  rw [e] at h
  exact h.trans (Nat.zero_add _)
theorem cnt_shift {p : Int → Bool} {m : Nat} (hp : ∀ x, p (x + m) = p x) : ∀ a : Nat, cnt p (a : Int) m = cnt p 0 m
  | 0 => rfl
  | a + 1 => by
    have h1 := cnt_add p (a : Int) m 1
    have h2 := cnt_add p (a : Int) 1 m
    rw [cnt_one, hp] at h1
    rw [cnt_one, Nat.add_comm 1 m, h1] at h2
    have e : ((a + 1 : Nat) : Int) = (a : Int) + ((1 : Nat) : Int) := by omega
    rw [e]
    have := cnt_shift hp a
    omega
theorem sm_ind (p : Int → Bool) (L : Nat) : ∀ n, sm (fun a : Nat => if p ((a : Int) + L) = true then 1 else 0) n = (cnt p (L : Int) n : Int)
  | 0 => rfl
  | n + 1 => by
    unfold sm
    rw [sm_ind p L n, cnt_succ]
    have : (L : Int) + (n : Int) = (n : Int) + L := by omega
    rw [this]
    by_cases c : p ((n : Int) + L) = true
    · rw [if_pos c, if_pos c]; omega
    · rw [if_neg c, if_neg c]; omega
theorem sm_cnt {p : Int → Bool} {m : Nat} (hp : ∀ x, p (x + m) = p x) : ∀ L : Nat, sm (fun a : Nat => (cnt p (a : Int) L : Int)) m = (L : Int) * (cnt p 0 m : Int)
  | 0 => by
    have : ∀ n, sm (fun a : Nat => (cnt p (a : Int) 0 : Int)) n = 0 := fun n => by
      induction n with
      | zero => rfl
      | succ n ih =>
        unfold sm
        rw [ih]
        rfl
    rw [this]
    simp
  | L + 1 => by
    have e : sm (fun a : Nat => (cnt p (a : Int) (L + 1) : Int)) m = sm (fun a : Nat => (cnt p (a : Int) L : Int) + (if p ((a : Int) + L) = true then 1 else 0)) m := sm_congr m fun k _ => by
      rw [cnt_succ]
      by_cases c : p ((k : Int) + L) = true
      · rw [if_pos c, if_pos c]; omega
      · rw [if_neg c, if_neg c]; omega
    rw [e, sm_add, sm_cnt hp L, sm_ind, cnt_shift hp, Int.natCast_add, Int.add_mul]
    omega
/-- balanced sets are floor sets -/
theorem bal_F {m : Nat} {A : List Int} (h : SOk m A) (hd : 0 < A.length) (hb : balP m (mem m A)) : ∃ s, isF m A s := by
  have hm : 0 < m := by have := h.m1; omega
  have hdm := h.len
  have hp : ∀ x, mem m A (x + m) = mem m A x := fun x => by
    have := mem_per (A := A) (x := x) (q := 1) hm
    rwa [Int.mul_one] at this
  have hc := cnt_mem h
  generalize hP : mem m A = p at *
  generalize hD : A.length = d at *
  have near : ∀ x y : Nat, x < m → y < m → (cnt p 0 y : Int) * m - y * d ≤ (cnt p 0 x : Int) * m - x * d + (m - 1) := fun x y hx hy => by
    rcases Nat.lt_trichotomy x y with z | z | z
    · obtain ⟨L, rfl⟩ : ∃ L, y = x + L := ⟨y - x, by omega⟩
      have e1 := cnt_add p 0 x L
      rw [Int.zero_add] at e1
      have e2 := sm_cnt hp L
      rw [hc] at e2
      have e3 := sm_near (f := fun a : Nat => (cnt p (a : Int) L : Int)) (c := (cnt p (x : Int) L : Int)) m (fun k hk => by
        have g1 := hb L (by omega) (by omega) k x hk hx
        have g2 := hb L (by omega) (by omega) x k hx hk
        omega) x hx rfl
      rw [e2] at e3
      rw [e1, Int.natCast_add, Int.natCast_add, Int.add_mul, Int.add_mul, Int.mul_comm (cnt p (x : Int) L : Int)]
      omega
    · subst z; omega
    · obtain ⟨L, rfl⟩ : ∃ L, x = y + L := ⟨x - y, by omega⟩
      have e1 := cnt_add p 0 y L
      rw [Int.zero_add] at e1
      have e2 := sm_cnt hp L
      rw [hc] at e2
      have e3 := sm_near (f := fun a : Nat => (cnt p (a : Int) L : Int)) (c := (cnt p (y : Int) L : Int)) m (fun k hk => by
        have g1 := hb L (by omega) (by omega) k y hk hy
        have g2 := hb L (by omega) (by omega) y k hy hk
        omega) y hy rfl
      rw [e2] at e3
      rw [e1, Int.natCast_add, Int.natCast_add, Int.add_mul, Int.add_mul, Int.mul_comm (cnt p (y : Int) L : Int)]
      omega
  obtain ⟨i, hi, hM⟩ := sm_max (fun x : Nat => (cnt p 0 x : Int) * m - x * d) m hm
  obtain ⟨M, hMe⟩ : ∃ M : Int, M = (cnt p 0 i : Int) * m - i * d := ⟨_, rfl⟩
  have hM : ∀ x, x < m → (cnt p 0 x : Int) * m - x * d ≤ M := fun x hx => by rw [hMe]; exact hM x hx
  have hM2 : ∀ x, x < m → M ≤ (cnt p 0 x : Int) * m - x * d + (m - 1) := fun x hx => by rw [hMe]; exact near x i hx hi
  have hq : ∀ x, x < m → ((m : Int) - 1 - M - x * d) / m = -(cnt p 0 x : Int) := fun x hx => by
    have g1 := hM x hx
    have g2 := hM2 x hx
    refine (divmod_of (r := (cnt p 0 x : Int) * m - x * d + (m - 1 - M)) (by omega) ?_ (by omega) (by omega)).1
    rw [Int.mul_neg, Int.mul_comm (m : Int)]
    omega
  have h0 := hq 0 hm
  have hqm : ((m : Int) - 1 - M - m * d) / m = -(cnt p 0 m : Int) := by
    rw [(div_mul_sub (by omega)).1, hc]
    have e0 : (m : Int) - 1 - M - ((0 : Nat) : Int) * d = m - 1 - M := by simp
    rw [e0] at h0
    rw [h0]
    show -((0 : Nat) : Int) - _ = _
    omega
  have hq : ∀ x, x ≤ m → ((m : Int) - 1 - M - x * d) / m = -(cnt p 0 x : Int) := fun x hx => by
    rcases Nat.lt_or_ge x m with z | z
    · exact hq x z
    · have : x = m := by omega
      rw [this]
      exact hqm
  have key : ∀ k : Nat, k < m → p (k : Int) = flo m d (m - 1 - M) k := fun k hk => by
    have s1 := flo_step (s := (m : Int) - 1 - M) (x := (k : Int)) hd hdm
    have s2 := hq k (by omega)
    have s3 := hq (k + 1) (by omega)
    have s4 := cnt_succ p 0 k
    rw [Int.zero_add] at s4
    rw [Int.natCast_add, s4] at s3
    have e1 : ((1 : Nat) : Int) = 1 := rfl
    rw [e1] at s3
    rw [s3, s2] at s1
    cases hp1 : p (k : Int) <;> cases hp2 : flo m d (m - 1 - M) k <;> first | rfl | (rw [hp1, hp2] at s1; simp at s1; omega)
  refine ⟨m - 1 - M, fun x => ?_⟩
  have g0 := Int.emod_nonneg x (show (m : Int) ≠ 0 by omega)
  have g1 := Int.emod_lt_of_pos x (show (0 : Int) < m by omega)
  obtain ⟨k, hk⟩ : ∃ k : Nat, x % (m : Int) = (k : Int) := ⟨(x % (m : Int)).toNat, by omega⟩
  have hkm : k < m := by omega
  have ex := dm x m
  rw [hk] at ex
  have e2 : flo m d (m - 1 - M) x = p (k : Int) := by
    rw [key k hkm, ← ex, flo_per hm]
  rw [hD, e2, ← hP, mem_nat hkm, hk]
  exact (decide_eq_true_iff).symm
end Pd.Law
namespace Pd.Law
open PySem PySem.Spec PyProof.Rows L2 Pd
open Pd (D Env)
/-! ### places laid out for ever -/
def ex (m : Nat) (A : List Int) (k : Nat) : Int := A.getD (k % A.length) 0 + (m : Int) * ((k / A.length : Nat) : Int)
theorem ex_at {m : Nat} {A : List Int} (q : Nat) {r : Nat} (h : r < A.length) : ex m A (A.length * q + r) = A.getD r 0 + (m : Int) * (q : Int) := by
  unfold ex
  rw [Nat.mul_add_mod, Nat.mod_eq_of_lt h, Nat.mul_add_div (by omega), Nat.div_eq_of_lt h, Nat.add_zero]
theorem ex_lt0 {m : Nat} {A : List Int} {k : Nat} (h : k < A.length) : ex m A k = A.getD k 0 := by
  have := ex_at (m := m) 0 h
  rw [Nat.mul_zero, Nat.zero_add] at this
  rw [this]
  simp
theorem ex_per {m : Nat} {A : List Int} (hd : 0 < A.length) (k : Nat) : ex m A (k + A.length) = ex m A k + m := by
  unfold ex
  rw [Nat.add_mod_right, Nat.add_div_right _ hd, Int.natCast_add, Int.mul_add]
  have : (m : Int) * ((1 : Nat) : Int) = m := by simp
  omega
theorem getD_mem {A : List Int} {r : Nat} (h : r < A.length) : A.getD r 0 ∈ A := by
  rw [List.getD_eq_getElem?_getD, List.getElem?_eq_getElem h]
  exact List.getElem_mem h
theorem ex_split {A : List Int} (hd : 0 < A.length) (k : Nat) : ∃ q r, r < A.length ∧ k = A.length * q + r := ⟨k / A.length, k % A.length, Nat.mod_lt _ hd, (Nat.div_add_mod _ _).symm⟩
theorem ex_mod {m : Nat} {A : List Int} (h : SOk m A) (hd : 0 < A.length) (k : Nat) : ex m A k % (m : Int) ∈ A := by
  obtain ⟨q, r, hr, rfl⟩ := ex_split hd k
  rw [ex_at q hr, Int.add_mul_emod_self_left]
  have hm := getD_mem hr
  obtain ⟨a, b⟩ := h.x _ hm
  rw [Int.emod_eq_of_lt a b]
  exact hm
theorem ex_next {m : Nat} {A : List Int} (h : SOk m A) (hd : 0 < A.length) (k : Nat) : ex m A k < ex m A (k + 1) := by
  obtain ⟨q, r, hr, rfl⟩ := ex_split hd k
  rw [ex_at q hr]
  by_cases c : r + 1 < A.length
  · rw [Nat.add_assoc, ex_at q c]
    have := List.pairwise_iff_getElem.mp h.up r (r + 1) hr c (by omega)
    rw [getD_lt hr, getD_lt c]
    omega
  · have e : A.length * q + r + 1 = A.length * (q + 1) + 0 := by rw [Nat.mul_add]; omega
    rw [e, ex_at (q + 1) hd]
    have h1 := h.x _ (getD_mem hr)
    have h2 := h.x _ (getD_mem hd)
    rw [Int.natCast_add, Int.mul_add]
    have : (m : Int) * ((1 : Nat) : Int) = m := by simp
    omega
theorem ex_mono {m : Nat} {A : List Int} (h : SOk m A) (hd : 0 < A.length) (k : Nat) : ∀ j : Nat, ex m A k + (j : Int) ≤ ex m A (k + j)
  | 0 => by
    show ex m A k + ((0 : Nat) : Int) ≤ ex m A k
    omega
  | j + 1 => by
    have := ex_mono h hd k j
    have := ex_next h hd (k + j)
    rw [← Nat.add_assoc]
    omega
def evenP (m : Nat) (A : List Int) : Prop := ∀ g, 1 ≤ g → g < A.length → ∀ k j, k < A.length → j < A.length → ex m A (k + g) - ex m A k ≤ ex m A (j + g) - ex m A j + 1
/-- floor sets are even -/
theorem F_even {m : Nat} {A : List Int} {s : Int} (h : SOk m A) (hF : isF m A s) : evenP m A := fun g g1 g2 k j hk hj => by
  have hd : 0 < A.length := by omega
  have hm : 0 < m := by have := h.m1; omega
  have hdm := h.len
  have hM : ∀ k, flo m A.length s (ex m A k) = true := fun k => (hF _).mp (ex_mod h hd k)
  have hper := ex_per (m := m) hd
  have hnx := ex_next h hd
  generalize ex m A = e at *
  generalize A.length = d at *
  clear hF
  have mono : ∀ (x : Int) (n : Nat), (s - (x + n) * (d : Int)) / (m : Int) ≤ (s - x * (d : Int)) / (m : Int) := fun x n => by
    have := cnt_flo (s := s) (a := x) hd hdm n
    omega
  have up : ∀ k, (s - e (k + 1) * (d : Int)) / (m : Int) ≤ (s - e k * (d : Int)) / (m : Int) - 1 := fun k => by
    have s1 := flo_step (s := s) (x := e k) hd hdm
    rw [if_pos (hM k)] at s1
    have := hnx k
    obtain ⟨n, hn⟩ : ∃ n : Nat, e (k + 1) = e k + 1 + n := ⟨(e (k + 1) - (e k + 1)).toNat, by omega⟩
    rw [hn]
    have := mono (e k + 1) n
    omega
  have upj : ∀ k j : Nat, (s - e (k + j) * (d : Int)) / (m : Int) ≤ (s - e k * (d : Int)) / (m : Int) - j := fun k j => by
    induction j with
    | zero =>
      show (s - e k * (d : Int)) / (m : Int) ≤ _
      omega
    | succ j ih =>
      have := up (k + j)
      rw [← Nat.add_assoc]
      omega
  have per : ∀ k, (s - e (k + d) * (d : Int)) / (m : Int) = (s - e k * (d : Int)) / (m : Int) - d := fun k => by
    have e1 : s - e (k + d) * (d : Int) = (s - e k * (d : Int)) - m * d := by rw [hper, Int.add_mul]; omega
    rw [e1, (div_mul_sub (by omega)).1]
  have exact1 : ∀ k j : Nat, j ≤ d → (s - e (k + j) * (d : Int)) / (m : Int) = (s - e k * (d : Int)) / (m : Int) - j := fun k j hj => by
    have h1 := upj k j
    have h2 := upj (k + j) (d - j)
    have h3 := per k
    have e1 : k + j + (d - j) = k + d := by omega
    rw [e1] at h2
    omega
  have val : ∀ k : Nat, ∃ r : Int, 0 ≤ r ∧ r < d ∧ (e (k + g) - e k) * (d : Int) = (m : Int) * g + r - (s - e (k + g) * (d : Int)) % (m : Int) ∧ r = (s - e k * (d : Int)) % (m : Int) := fun k => by
    have d1 := dm (s - e k * (d : Int)) m
    have d2 := dm (s - e (k + g) * (d : Int)) m
    have d3 := exact1 k g (by omega)
    rw [d3, Int.mul_sub] at d2
    have f1 := of_decide_eq_true (hM k)
    refine ⟨_, Int.emod_nonneg _ (by omega), f1, ?_, rfl⟩
    rw [Int.sub_mul]
    omega
  obtain ⟨r1, a1, a2, a3, _⟩ := val k
  obtain ⟨r2, b1, b2, b3, _⟩ := val j
  have t1 := of_decide_eq_true (hM (k + g))
  have t2 := of_decide_eq_true (hM (j + g))
  have u1 := Int.emod_nonneg (s - e (k + g) * (d : Int)) (show (m : Int) ≠ 0 by omega)
  have u2 := Int.emod_nonneg (s - e (j + g) * (d : Int)) (show (m : Int) ≠ 0 by omega)
  have : e (k + g) - e k < e (j + g) - e j + 2 := lt_mul (m := (d : Int)) (by omega) (by rw [Int.add_mul]; omega)
  omega
/-- even sets are floor sets -/
theorem even_F {m : Nat} {A : List Int} (h : SOk m A) (hd : 0 < A.length) (he : evenP m A) : ∃ s, isF m A s := by
  have hm : 0 < m := by have := h.m1; omega
  have hdm := h.len
  have hper := ex_per (m := m) hd
  have hmod := ex_mod h hd
  have h0 : ∀ k, k < A.length → ex m A k = A.getD k 0 := fun k hk => ex_lt0 hk
  unfold evenP at he
  generalize ex m A = e at *
  generalize hD : A.length = d at *
  have tot : ∀ g : Nat, sm (fun k => e (k + g) - e k) d = (g : Int) * m := fun g => by
    induction g with
    | zero =>
      have : ∀ n, sm (fun k => e (k + 0) - e k) n = 0 := fun n => by
        induction n with
        | zero => rfl
        | succ n ih =>
          unfold sm
          rw [ih]
          show 0 + (e n - e n) = 0
          omega
      rw [this]
      simp
    | succ g ih =>
      have e1 : sm (fun k => e (k + (g + 1)) - e k) d = sm (fun k => (e (k + g) - e k) + (e (k + 1 + g) - e (k + g))) d := sm_congr d fun k _ => by
        have : k + (g + 1) = k + 1 + g := by omega
        rw [this]
        omega
      have e2 := sm_tel (fun k => e (k + g)) d
      have e3 : d + g = g + d := Nat.add_comm _ _
      have e4 : 0 + g = g := Nat.zero_add _
      rw [e3, e4, hper g] at e2
      rw [e1, sm_add, ih, e2, Int.natCast_add, Int.add_mul]
      omega
  have near : ∀ i j : Nat, i < d → j < d → e j * (d : Int) - j * m ≤ e i * (d : Int) - i * m + (d - 1) := fun i j hi hj => by
    rcases Nat.lt_trichotomy i j with z | z | z
    · obtain ⟨g, rfl⟩ : ∃ g, j = i + g := ⟨j - i, by omega⟩
      have e3 := sm_near (f := fun k => e (k + g) - e k) (c := e (i + g) - e i) d (fun k hk => ⟨he g (by omega) (by omega) k i hk hi, he g (by omega) (by omega) i k hi hk⟩) i hi rfl
      rw [tot g] at e3
      have e4 : (d : Int) * (e (i + g) - e i) = e (i + g) * d - e i * d := by rw [Int.mul_comm, Int.sub_mul]
      rw [Int.natCast_add, Int.add_mul]
      omega
    · subst z; omega
    · obtain ⟨g, rfl⟩ : ∃ g, i = j + g := ⟨i - j, by omega⟩
      have e3 := sm_near (f := fun k => e (k + g) - e k) (c := e (j + g) - e j) d (fun k hk => ⟨he g (by omega) (by omega) k j hk hj, he g (by omega) (by omega) j k hj hk⟩) j hj rfl
      rw [tot g] at e3
      have e4 : (d : Int) * (e (j + g) - e j) = e (j + g) * d - e j * d := by rw [Int.mul_comm, Int.sub_mul]
      rw [Int.natCast_add, Int.add_mul]
      omega
  obtain ⟨i, hi, hM⟩ := sm_max (fun k : Nat => e k * (d : Int) - k * m) d hd
  obtain ⟨M, hMe⟩ : ∃ M : Int, M = e i * (d : Int) - i * m := ⟨_, rfl⟩
  have inF : ∀ x ∈ A, flo m d M x = true := fun x hx => by
    obtain ⟨k, hk, rfl⟩ := List.mem_iff_getElem.mp hx
    have hk' : k < d := by omega
    have e1 : A[k] = e k := by rw [h0 k hk', getD_lt hk]
    have g1 : e k * (d : Int) - k * m ≤ M := by rw [hMe]; exact hM k hk'
    have g2 : M ≤ e k * (d : Int) - k * m + (d - 1) := by rw [hMe]; exact near k i hk' hi
    unfold flo
    rw [e1]
    have := divmod_of (y := M - e k * (d : Int)) (m := (m : Int)) (q := -(k : Int)) (r := M - (e k * (d : Int) - k * m)) (by omega) (by rw [Int.mul_neg, Int.mul_comm (m : Int)]; omega) (by omega) (by omega)
    rw [this.2]
    exact decide_eq_true (by omega)
  have cF := cnt_flo_m (s := M) (a := 0) hd hdm
  have eF : cnt (flo m d M) 0 m = (ixs m fun k => flo m d M (k : Int)).length := by
    unfold cnt ixs
    rw [List.length_map]
    congr 1
    exact List.filter_congr fun k _ => by rw [Int.zero_add]
  have sub : ∀ x ∈ A, x ∈ ixs m fun k => flo m d M (k : Int) := fun x hx => by
    obtain ⟨a, b⟩ := h.x x hx
    have : ((x.toNat : Nat) : Int) = x := Int.toNat_of_nonneg a
    exact mem_ixs.mpr ⟨x.toNat, by omega, by rw [this]; exact inF x hx, this.symm⟩
  refine ⟨M, fun x => ?_⟩
  have g0 := Int.emod_nonneg x (show (m : Int) ≠ 0 by omega)
  have g1 := Int.emod_lt_of_pos x (show (0 : Int) < m by omega)
  obtain ⟨k, hk⟩ : ∃ k : Nat, x % (m : Int) = (k : Int) := ⟨(x % (m : Int)).toNat, by omega⟩
  have hkm : k < m := by omega
  have ex := dm x m
  rw [hk] at ex
  have e2 : flo m d M x = flo m d M (k : Int) := by rw [← ex, flo_per hm]
  rw [hD, e2, hk]
  refine ⟨inF _, fun hf => ?_⟩
  refine Decidable.byContradiction fun hn => ?_
  have := nd_len (l1 := (k : Int) :: A) (l2 := ixs m fun k => flo m d M (k : Int)) (List.nodup_cons.mpr ⟨hn, h.nd⟩) fun y hy => by
    rcases List.mem_cons.mp hy with z | z
    · rw [z]; exact mem_ixs.mpr ⟨k, hkm, hf, rfl⟩
    · exact sub y z
  rw [List.length_cons] at this
  omega
end Pd.Law
namespace Pd.Law
open PySem PySem.Spec PyProof.Rows L2 Pd
open Pd (D Env)
theorem up_eq : ∀ {l1 l2 : List Int}, (∀ x, x ∈ l1 ↔ x ∈ l2) → l1.Pairwise (· < ·) → l2.Pairwise (· < ·) → l1 = l2
  | [], [], _, _, _ => rfl
  | [], b :: l2, h, _, _ => by cases (h b).mpr List.mem_cons_self
  | a :: l1, [], h, _, _ => by cases (h a).mp List.mem_cons_self
  | a :: l1, b :: l2, h, p1, p2 => by
    obtain ⟨a1, a2⟩ := List.pairwise_cons.mp p1
    obtain ⟨b1, b2⟩ := List.pairwise_cons.mp p2
    have e : a = b := by
      have h1 := (h a).mp List.mem_cons_self
      have h2 := (h b).mpr List.mem_cons_self
      rcases List.mem_cons.mp h1 with z | z
      · exact z
      · rcases List.mem_cons.mp h2 with w | w
        · exact w.symm
        · have := b1 a z
          have := a1 b w
          omega
    subst e
    rw [up_eq (fun x => ⟨fun hx => ?_, fun hx => ?_⟩) a2 b2]
    · rcases List.mem_cons.mp ((h x).mp (List.mem_cons_of_mem _ hx)) with z | z
      · have := a1 x hx
        omega
      · exact z
    · rcases List.mem_cons.mp ((h x).mpr (List.mem_cons_of_mem _ hx)) with z | z
      · have := b1 x hx
        omega
      · exact z
theorem F_eq {m : Nat} {A B : List Int} {s : Int} (hA : SOk m A) (hB : SOk m B) (hl : A.length = B.length) (a : isF m A s) (b : isF m B s) : A = B := up_eq (fun x => by
  have key : ∀ {C E : List Int}, SOk m C → C.length = E.length → isF m C s → isF m E s → x ∈ C → x ∈ E := fun {C E} hC hl c e hx => by
    obtain ⟨u, v⟩ := hC.x x hx
    have g := (c x).mp (by rw [Int.emod_eq_of_lt u v]; exact hx)
    rw [hl] at g
    have := (e x).mpr g
    rwa [Int.emod_eq_of_lt u v] at this
  exact ⟨key hA hl a b, key hB hl.symm b a⟩) hA.up hB.up
/-! ### moved sets -/
theorem mem_mov {m : Nat} {A : List Int} {t x : Int} (h : SOk m A) : x % (m : Int) ∈ movN m A t ↔ (x - t) % (m : Int) ∈ A := by
  have hm : (0 : Int) < m := by have := h.m1; omega
  unfold movN
  rw [(isrt_perm _).mem_iff, List.mem_map]
  constructor
  · rintro ⟨y, hy, e⟩
    obtain ⟨a, b⟩ := h.x y hy
    have : (x - t) % (m : Int) = y := by
      rw [Int.sub_emod, ← e, ← Int.sub_emod]
      have : y + t - t = y := by omega
      rw [this, Int.emod_eq_of_lt a b]
    rw [this]
    exact hy
  · intro hx
    refine ⟨_, hx, ?_⟩
    rw [Int.emod_add_emod]
    congr 1
    omega
theorem mov_ok {m : Nat} {A : List Int} (h : SOk m A) (t : Int) : SOk m (movN m A t) := by
  have hm : (0 : Int) < m := by have := h.m1; omega
  refine ⟨h.m1, h.m2, ?_, fun x hx => ?_⟩
  · have n : (movN m A t).Nodup := by
      unfold movN
      refine (isrt_perm _).nodup_iff.mpr (List.pairwise_map.mpr (List.Pairwise.imp_of_mem (fun {a b} ha hb hne e => hne ?_) h.nd))
      obtain ⟨a1, a2⟩ := h.x a ha
      obtain ⟨b1, b2⟩ := h.x b hb
      have : (a + t - t) % (m : Int) = (b + t - t) % (m : Int) := by rw [Int.sub_emod, e, ← Int.sub_emod]
      have u : a + t - t = a := by omega
      have v : b + t - t = b := by omega
      rw [u, v, Int.emod_eq_of_lt a1 a2, Int.emod_eq_of_lt b1 b2] at this
      exact this
    exact (List.pairwise_and_iff.mpr ⟨isrt_pw _, n⟩).imp fun ⟨a, b⟩ => by omega
  · unfold movN at hx
    obtain ⟨y, _, rfl⟩ := List.mem_map.mp ((isrt_perm _).mem_iff.mp hx)
    exact ⟨Int.emod_nonneg _ (by omega), Int.emod_lt_of_pos _ hm⟩
theorem mov_F {m : Nat} {A : List Int} {s t : Int} (h : SOk m A) (hF : isF m A s) : isF m (movN m A t) (s + t * A.length) := fun x => by
  rw [mem_mov h, hF (x - t), movN_len]
  unfold flo
  have : s - (x - t) * (A.length : Int) = s + t * (A.length : Int) - x * (A.length : Int) := by rw [Int.sub_mul]; omega
  rw [this]
/-! ### even sets -/
def evN (m d s : Nat) : List Int := (List.range d).map fun k : Nat => (((k * m + s) / d : Nat) : Int)
theorem evN_len (m d s : Nat) : (evN m d s).length = d := by unfold evN; rw [List.length_map, List.length_range]
theorem evN_lt {m d s k : Nat} (hd : d ≤ m) (hs : s < d) (hk : k < d) : (k * m + s) / d < m := by
  refine Nat.div_lt_of_lt_mul ?_
  have : (k + 1) * m ≤ d * m := Nat.mul_le_mul_right _ hk
  rw [Nat.add_mul] at this
  omega
theorem evN_ok {m d s : Nat} (hm : m ≤ 24) (hd : d ≤ m) (hs : s < d) : SOk m (evN m d s) := by
  refine ⟨by omega, hm, ?_, fun x hx => ?_⟩
  · unfold evN
    refine List.pairwise_map.mpr ((List.pairwise_lt_range (n := d)).imp fun {a b} h => ?_)
    have e : (b * m + s) = ((b - a - 1) * m + (m - d)) + (a * m + s) + d := by
      have : b = (b - a - 1) + a + 1 := by omega
      have h2 : b * m = (b - a - 1) * m + a * m + m := by
        conv => lhs; rw [this]
        rw [Nat.add_mul, Nat.add_mul, Nat.one_mul]
      omega
    have h1 : (a * m + s) / d + 1 ≤ (b * m + s) / d := by
      rw [← Nat.add_div_right _ (show 0 < d by omega)]
      exact Nat.div_le_div_right (by omega)
    omega
  · unfold evN at hx
    obtain ⟨k, hk, rfl⟩ := List.mem_map.mp hx
    have hlt := evN_lt hd hs (List.mem_range.mp hk)
    generalize (k * m + s) / d = y at *
    exact ⟨by omega, by omega⟩
theorem evN_F {m d s : Nat} (hm : m ≤ 24) (hd : d ≤ m) (hs : s < d) : isF m (evN m d s) (s : Int) := by
  have ok := evN_ok hm hd hs
  have hm0 : 0 < m := by omega
  have inF : ∀ x ∈ evN m d s, flo m d (s : Int) x = true := fun x hx => by
    unfold evN at hx
    obtain ⟨k, hk, rfl⟩ := List.mem_map.mp hx
    have e := Nat.div_add_mod (k * m + s) d
    have hr := Nat.mod_lt (k * m + s) (show 0 < d by omega)
    generalize (k * m + s) / d = y at *
    generalize (k * m + s) % d = r at *
    unfold flo
    have e2 : ((d : Int) * y + r) = k * m + s := by exact_mod_cast e
    have := divmod_of (y := (s : Int) - (y : Int) * d) (m := (m : Int)) (q := -(k : Int)) (r := (r : Int)) (by omega) (by rw [Int.mul_neg, Int.mul_comm (m : Int), Int.mul_comm (y : Int)]; omega) (by omega) (by omega)
    rw [this.2]
    exact decide_eq_true (by omega)
  have cF := cnt_flo_m (s := (s : Int)) (a := 0) (show 0 < d by omega) hd
  have eF : cnt (flo m d (s : Int)) 0 m = (ixs m fun k => flo m d (s : Int) (k : Int)).length := by
    unfold cnt ixs
    rw [List.length_map]
    congr 1
    exact List.filter_congr fun k _ => by rw [Int.zero_add]
  intro x
  have g0 := Int.emod_nonneg x (show (m : Int) ≠ 0 by omega)
  have g1 := Int.emod_lt_of_pos x (show (0 : Int) < m by omega)
  obtain ⟨k, hk⟩ : ∃ k : Nat, x % (m : Int) = (k : Int) := ⟨(x % (m : Int)).toNat, by omega⟩
  have hkm : k < m := by omega
  have ex := dm x m
  rw [hk] at ex
  have e2 : flo m d (s : Int) x = flo m d (s : Int) (k : Int) := by rw [← ex, flo_per hm0]
  rw [evN_len, e2, hk]
  refine ⟨inF _, fun hf => Decidable.byContradiction fun hn => ?_⟩
  have := nd_len (l1 := (k : Int) :: evN m d s) (l2 := ixs m fun k => flo m d (s : Int) (k : Int)) (List.nodup_cons.mpr ⟨hn, ok.nd⟩) fun y hy => by
    rcases List.mem_cons.mp hy with z | z
    · rw [z]; exact mem_ixs.mpr ⟨k, hkm, hf, rfl⟩
    · obtain ⟨a, b⟩ := ok.x y z
      have : ((y.toNat : Nat) : Int) = y := Int.toNat_of_nonneg a
      exact mem_ixs.mpr ⟨y.toNat, by omega, by rw [this]; exact inF y z, this.symm⟩
  rw [List.length_cons, evN_len] at this
  omega
/-! ### all floor sets are moved from one -/
def floN (m d s x : Nat) : Bool := decide ((s + (m - x) * d) % m < d)
theorem floN_eq {m d s x : Nat} (hm : 0 < m) (hx : x ≤ m) : floN m d s x = flo m d (s : Int) (x : Int) := by
  unfold floN flo
  have e : ((s + (m - x) * d : Nat) : Int) = ((s : Int) - x * d) - m * (-(d : Int)) := by
    rw [Int.natCast_add, Int.natCast_mul, Int.natCast_sub hx, Int.sub_mul, Int.mul_neg]
    omega
  have := (div_mul_sub (y := (s : Int) - x * d) (q := -(d : Int)) (show (0 : Int) < m by omega)).2
  rw [← e] at this
  rw [← this]
  exact decide_eq_decide.mpr (by omega)
def chkT (m d s : Nat) : Bool := (List.range m).any fun k => (List.range m).all fun x => floN m d s x == floN m d (k * d) x
theorem chkT_all : ((List.range 16).all fun a => (List.range (a + 1)).all fun b => (List.range (a + 1)).all fun s => chkT (a + 1) (b + 1) s) = true := by decide +kernel
theorem turn_ex {m d : Nat} {s : Int} (h1 : 1 ≤ d) (h2 : d ≤ m) (h3 : m ≤ 16) : ∃ k : Nat, k < m ∧ ∀ x : Int, flo m d s x = flo m d ((k * d : Nat) : Int) x := by
  have hm : 0 < m := by omega
  have g0 := Int.emod_nonneg s (show (m : Int) ≠ 0 by omega)
  have g1 := Int.emod_lt_of_pos s (show (0 : Int) < m by omega)
  obtain ⟨t, ht⟩ : ∃ t : Nat, s % (m : Int) = (t : Int) := ⟨(s % (m : Int)).toNat, by omega⟩
  have c := List.all_eq_true.mp (List.all_eq_true.mp (List.all_eq_true.mp chkT_all (m - 1) (List.mem_range.mpr (by omega))) (d - 1) (List.mem_range.mpr (by omega))) t (List.mem_range.mpr (by omega))
  have e1 : m - 1 + 1 = m := by omega
  have e2 : d - 1 + 1 = d := by omega
  rw [e1, e2] at c
  obtain ⟨k, hk, hx⟩ := List.any_eq_true.mp c
  refine ⟨k, List.mem_range.mp hk, fun x => ?_⟩
  have ex := dm x m
  have u0 := Int.emod_nonneg x (show (m : Int) ≠ 0 by omega)
  have u1 := Int.emod_lt_of_pos x (show (0 : Int) < m by omega)
  obtain ⟨y, hy⟩ : ∃ y : Nat, x % (m : Int) = (y : Int) := ⟨(x % (m : Int)).toNat, by omega⟩
  rw [hy] at ex
  have hym : y < m := by omega
  have := List.all_eq_true.mp hx y (List.mem_range.mpr hym)
  rw [floN_eq hm (by omega), floN_eq hm (by omega)] at this
  rw [← ex, flo_per hm, flo_per hm, ← eq_of_beq this]
  unfold flo
  have es : s = (t : Int) - m * (-(s / (m : Int))) := by
    have := dm s m
    rw [ht] at this
    rw [Int.mul_neg]
    omega
  have e3 : s - (y : Int) * d = ((t : Int) - y * d) - m * (-(s / (m : Int))) := by omega
  rw [e3, (div_mul_sub (by omega)).2]
theorem F_turn {m : Nat} {A : List Int} (h : SOk m A) (hm : m ≤ 16) (hd : 0 < A.length) : (∃ s, isF m A s) ↔ ∃ k : Nat, k < m ∧ A = movN m (evN m A.length 0) (k : Int) := by
  have hdm := h.len
  have ok := evN_ok (m := m) (d := A.length) (s := 0) h.m2 hdm hd
  have hF := evN_F (m := m) (d := A.length) (s := 0) h.m2 hdm hd
  constructor
  · rintro ⟨s, hs⟩
    obtain ⟨k, hk, e⟩ := turn_ex (s := s) hd hdm hm
    refine ⟨k, hk, F_eq (s := s) h (mov_ok ok _) (by rw [movN_len, evN_len]) hs ?_⟩
    have g := mov_F (t := (k : Int)) ok hF
    intro x
    rw [g x, movN_len, evN_len, e x]
    have : ((0 : Nat) : Int) + (k : Int) * ((A.length : Nat) : Int) = ((k * A.length : Nat) : Int) := by rw [Int.natCast_mul]; omega
    rw [this]
  · rintro ⟨k, _, e⟩
    have g := mov_F (t := (k : Int)) ok hF
    exact ⟨_, by rw [← e] at g; exact g⟩
end Pd.Law
namespace Pd.Law
open PySem PySem.Spec PyProof.Rows L2 Pd
open Pd (D Env)
theorem F_bal {m : Nat} {A : List Int} (h : SOk m A) (hm : m ≤ 16) (hd : 0 < A.length) : balP m (mem m A) ↔ ∃ s, isF m A s := by
  refine ⟨bal_F h hd, fun ⟨s, hs⟩ => ?_⟩
  have : mem m A = flo m A.length s := funext fun x => by
    unfold mem
    rw [Bool.eq_iff_iff, decide_eq_true_iff]
    exact hs x
  rw [this]
  exact flo_bal hd h.len
theorem F_ev {m : Nat} {A : List Int} (h : SOk m A) (hd : 0 < A.length) : evenP m A ↔ ∃ s, isF m A s := ⟨even_F h hd, fun ⟨_, hs⟩ => F_even h hs⟩
/-! ### even_set -/
theorem mul_ok {a b : Nat} (ha : a < 1000) : mulD (.int (a : Int)) (.int (b : Int)) = .ok (.int ((a * b : Nat) : Int)) := by
  rw [o_mul, if_pos (.inl ⟨by omega, by omega⟩), Int.natCast_mul]
theorem div_nat {a b : Nat} (h : 0 < b) (h2 : b < 1000) : fdivD (.int (a : Int)) (.int (b : Int)) = .ok (.int ((a / b : Nat) : Int)) := by
  rw [o_div, if_pos ⟨by omega, by omega⟩, Int.natCast_ediv]
theorem add_nat {a b : Nat} : addD (.int (a : Int)) (.int (b : Int)) = .ok (.int ((a + b : Nat) : Int)) := by
  rw [Int.natCast_add]
  rfl
theorem parts_ok {m z : Nat} (h1 : 1 ≤ z) (h2 : z ≤ m) (h3 : m ≤ 24) : d_check_parts [.int m, .int z] = .ok .none := by
  have hk := round_ok (m := m) (by omega) h3
  have g1 : (1 : Int) ≤ z := by omega
  have g2 : (z : Int) ≤ m := by omega
  simp [d_check_parts, callD, m_check_parts, hk, number_int, g1, h2]
theorem evs_pw {m d s : Nat} (hm : m ≤ 24) (hd : d ≤ m) (hs : s < d) : (evN m d s).Pairwise (· ≤ ·) := (evN_ok hm hd hs).up.imp fun h => by omega
theorem sort_ev {m d s : Nat} (hm : m ≤ 24) (hd : d ≤ m) (hs : s < d) : sortedD [.list ((evN m d s).map .int)] = .ok (.list ((evN m d s).map .int)) := sorted_lI (.refl _) (evs_pw hm hd hs)
theorem even_set_ok {m z s : Nat} (h2 : z ≤ m) (h3 : m ≤ 24) (hs : s < z) : d_even_set [.int m, .int z, .int s] = .ok (tW (evN m z s)) := by
  have hk := parts_ok (m := m) (z := z) (by omega) h2 h3
  have g1 : (0 : Int) ≤ s := by omega
  have g2 : (s : Int) < z := by omega
  have hr := range_nat z (by omega)
  have e : lcGo (gN 3) bYes m_even_set_e1 [some (.int (m : Int)), some (.int (z : Int)), some (.int (s : Int)), none] ((List.range z).map fun i : Nat => PyData.int (i : Int)) = .ok ((evN m z s).map .int) := by
    unfold evN
    rw [List.map_map]
    refine lcGo_all (fun i : Nat => PyData.int (i : Int)) (fun k : Nat => PyData.int (((k * m + s) / z : Nat) : Int)) _ fun k hk => ⟨_, rfl, ?_⟩
    have hk := List.mem_range.mp hk
    have f1 := mul_ok (a := k) (b := m) (by omega)
    have f2 := add_nat (a := k * m) (b := s)
    have f3 := div_nat (a := k * m + s) (b := z) (by omega) (by omega)
    have f4 := mod_nat (a := (k * m + s) / z) (b := m) (by omega)
    rw [Nat.mod_eq_of_lt (evN_lt h2 hs hk)] at f4
    generalize (k * m + s) / z = y at *
    generalize k * m + s = x at *
    generalize k * m = u at *
    simp [m_even_set_e1, f1, f2, f3, f4, -o_mul, -o_mod, -o_div]
  have hb : (evN m z s).length < 16777216 := by rw [evN_len]; omega
  have ho := sort_ev h3 h2 hs
  generalize evN m z s = A at *
  simp only [tW]
  simp [d_even_set, callD, m_even_set, hk, number_int, g1, hs, hr, e, hb, ho]
/-! ### patterns -/
def onesN (w : List Int) : List Int := ixs w.length fun k => decide (w.getD k 0 = 1)
structure POk (m : Nat) (w : List Int) : Prop where
  m1 : 1 ≤ m
  m2 : m ≤ 24
  l : w.length = m
  x : ∀ x ∈ w, x = 0 ∨ x = 1
theorem ones_ok {m : Nat} {w : List Int} (h : POk m w) : SOk m (onesN w) := by
  have := ixs_ok (m := w.length) (by rw [h.l]; exact h.m1) (by rw [h.l]; exact h.m2) fun k => decide (w.getD k 0 = 1)
  unfold onesN
  rw [h.l] at this ⊢
  exact this
theorem set_of_ok {m : Nat} {w : List Int} (h : POk m w) : d_set_of_pattern [tW w] = .ok (tW (onesN w)) := by
  have hl := h.l
  have hm := h.m2
  have hk := round_ok h.m1 h.m2
  have hr := range_nat w.length (by omega)
  have e : gxGo false (gN 1) bYes m_set_of_pattern_e1 [some (tW w), none, none] (w.map PyData.int) = .ok (w.all fun _ => true) :=
    gx_all PyData.int _ w fun a ha => ⟨_, rfl, by
      rcases h.x a ha with z | z <;> subst z <;> simp [m_set_of_pattern_e1, number_int] <;> rfl⟩
  have ha : (w.all fun _ => true) = true := List.all_eq_true.mpr fun _ _ => rfl
  rw [ha] at e
  have e2 : lcGo (gN 2) (bBin eqD (eIx (eName 0) (eName 2)) (eC (.int 1))) m_set_of_pattern_e2 [some (tW w), none, none] ((List.range w.length).map fun i : Nat => PyData.int (i : Int)) = .ok ((onesN w).map .int) :=
    lc_ixs w.length _ fun k hk => by
      have i1 := ixW (w := w) (k := k) hk
      generalize w.getD k 0 = v at *
      refine ⟨_, rfl, ?_, fun _ => by simp [m_set_of_pattern_e2]⟩
      simp only [tW] at i1
      simp [i1]
  have hb : (onesN w).length < 16777216 := by have : (onesN w).length ≤ w.length := ixs_len _ _; omega
  rw [hl] at hr e2
  generalize onesN w = B at *
  simp only [tW] at e e2 ⊢
  simp [d_set_of_pattern, callD, m_set_of_pattern, e, hl, hk, hr, e2, hb]
def patN (m : Nat) (A : List Int) : List Int := (List.range m).map fun k : Nat => if (k : Int) ∈ A then 1 else 0
theorem pattern_ok {m : Nat} {A : List Int} (h : SOk m A) : d_pattern_of [.int m, tW A] = .ok (tW (patN m A)) := by
  have hk := set_ok h
  have hm := h.m2
  have hr := range_nat m (by omega)
  have e : lcGo (gN 2) bYes m_pattern_of_e1 [some (.int (m : Int)), some (tW A), none] ((List.range m).map fun i : Nat => PyData.int (i : Int)) = .ok ((patN m A).map .int) := by
    unfold patN
    rw [List.map_map]
    refine lcGo_all (fun i : Nat => PyData.int (i : Int)) (fun k : Nat => PyData.int (if (k : Int) ∈ A then 1 else 0)) _ fun k _ => ⟨_, rfl, ?_⟩
    by_cases c : (k : Int) ∈ A <;> simp [m_pattern_of_e1, c]
  have hb : (patN m A).length < 16777216 := by unfold patN; rw [List.length_map, List.length_range]; omega
  generalize patN m A = B at *
  simp only [tW] at hk e ⊢
  simp [d_pattern_of, callD, m_pattern_of, hk, hr, e, hb]
theorem pat_ones {m : Nat} {w : List Int} (h : POk m w) : patN m (onesN w) = w := by
  unfold patN
  refine List.ext_getElem (by rw [List.length_map, List.length_range, h.l]) fun k h1 h2 => ?_
  rw [List.getElem_map, List.getElem_range]
  have hm : ((k : Int) ∈ onesN w) ↔ w[k] = 1 := by
    unfold onesN
    rw [mem_ixs]
    constructor
    · rintro ⟨j, h3, h4, e⟩
      have : j = k := by omega
      subst this
      have := of_decide_eq_true h4
      rwa [getD_lt h2] at this
    · intro e
      exact ⟨k, h2, decide_eq_true (by rw [getD_lt h2]; exact e), rfl⟩
  rcases h.x _ (List.getElem_mem h2) with z | z
  · have : ¬ (k : Int) ∈ onesN w := fun c => by
      have := hm.mp c
      omega
    rw [if_neg this, z]
  · rw [if_pos (hm.mpr z), z]
end Pd.Law
namespace Pd.Law
open PySem PySem.Spec PyProof.Rows L2 Pd
open Pd (D Env)
/-! ### dicts of ints -/
def iD (ks : List Int) : List (D × D) := ks.map fun k => (.int k, .bool true)
def addI (ks : List Int) (k : Int) : List Int := if k ∈ ks then ks else ks ++ [k]
def ddI (l : List Int) : List Int := l.foldl addI []
theorem eqv_ii (a b : Int) : PyData.eqv (.int a) (.int b) = decide (a = b) := by
  show (a == b) = _
  by_cases h : a = b
  · subst h; simp
  · rw [decide_eq_false h]; simpa using h
theorem put_iD (k : Int) : ∀ ks : List Int, dputR (iD ks) (.int k) (.bool true) = iD (addI ks k)
  | [] => rfl
  | x :: xs => by
    have ih := put_iD k xs
    show (if PyData.eqv (.int x) (.int k) = true then _ else _) = _
    rw [eqv_ii]
    by_cases c : x = k
    · subst c
      rw [if_pos (decide_eq_true rfl)]
      unfold addI
      rw [if_pos List.mem_cons_self]
      rfl
    · rw [if_neg (by simpa using c)]
      show (.int x, .bool true) :: dputR (iD xs) (.int k) (.bool true) = _
      rw [ih]
      unfold addI
      by_cases d : k ∈ xs
      · rw [if_pos d, if_pos (List.mem_cons_of_mem _ d)]
        rfl
      · rw [if_neg d, if_neg fun z => (List.mem_cons.mp z).elim (fun w => c w.symm) d]
        rfl
theorem fold_iD : ∀ (l ks : List Int), l.foldl (fun q a => dputR q (.int a) (.bool true)) (iD ks) = iD (l.foldl addI ks)
  | [], _ => rfl
  | a :: l, ks => by
    rw [List.foldl_cons, List.foldl_cons, put_iD, fold_iD l]
theorem addI_mem {ks : List Int} {k x : Int} : x ∈ addI ks k ↔ x ∈ ks ∨ x = k := by
  unfold addI
  split
  · refine ⟨.inl, fun h => h.elim id fun e => by rw [e]; assumption⟩
  · rw [List.mem_append, List.mem_singleton]
theorem addI_nd {ks : List Int} {k : Int} (n : ks.Nodup) : (addI ks k).Nodup := by
  unfold addI
  split
  · exact n
  · rename_i h
    exact List.nodup_append.mpr ⟨n, List.nodup_cons.mpr ⟨fun z => (nomatch z), List.nodup_nil⟩, fun a ha b hb e => h (by rw [List.mem_singleton] at hb; rw [← hb, ← e]; exact ha)⟩
theorem fold_add : ∀ (l ks : List Int), ks.Nodup → (l.foldl addI ks).Nodup ∧ (∀ x, x ∈ l.foldl addI ks ↔ x ∈ ks ∨ x ∈ l) ∧ (l.foldl addI ks).length ≤ ks.length + l.length
  | [], ks, n => ⟨n, fun x => by simp, by simp⟩
  | a :: l, ks, n => by
    obtain ⟨h1, h2, h3⟩ := fold_add l (addI ks a) (addI_nd n)
    refine ⟨h1, fun x => ?_, ?_⟩
    · rw [List.foldl_cons, h2, addI_mem, List.mem_cons, or_assoc]
    · rw [List.foldl_cons, List.length_cons]
      have : (addI ks a).length ≤ ks.length + 1 := by unfold addI; split <;> simp
      omega
theorem ddI_nd (l : List Int) : (ddI l).Nodup := (fold_add l [] List.nodup_nil).1
theorem ddI_mem {l : List Int} {x : Int} : x ∈ ddI l ↔ x ∈ l := by
  have := (fold_add l [] List.nodup_nil).2.1 x
  unfold ddI
  simpa using this
theorem ddI_len (l : List Int) : (ddI l).length ≤ l.length := by
  have := (fold_add l [] List.nodup_nil).2.2
  unfold ddI
  simpa using this
theorem iD_len (ks : List Int) : (iD ks).length = ks.length := List.length_map _
theorem isDct_iD (ks : List Int) : isDct (iD ks) = true := by
  unfold isDct
  rw [Bool.or_eq_true]
  exact .inl (List.all_eq_true.mpr fun p hp => by
    obtain ⟨k, _, rfl⟩ := List.mem_map.mp hp
    rfl)
theorem listX_iD (ks : List Int) : listX [.dict (iD ks)] = .ok (.list (ks.map .int)) := by
  rw [o_listXD, if_pos (isDct_iD ks)]
  unfold iD
  rw [List.map_map]
  rfl
theorem in_iD (ks : List Int) (k : Int) : inX (.int k) (.dict (iD ks)) = .ok (.bool (decide (k ∈ ks))) := by
  rw [inX_d, if_pos]
  · congr 2
    unfold dget
    rw [Option.isSome_map]
    rw [Bool.eq_iff_iff, List.find?_isSome, decide_eq_true_iff]
    constructor
    · rintro ⟨p, hp, e⟩
      obtain ⟨x, hx, rfl⟩ := List.mem_map.mp hp
      rw [eqv_ii] at e
      have := of_decide_eq_true e
      rwa [← this]
    · intro h
      exact ⟨_, List.mem_map.mpr ⟨k, h, rfl⟩, by rw [eqv_ii]; exact decide_eq_true rfl⟩
  · unfold keyFit
    rw [Bool.or_eq_true]
    exact .inl (Bool.and_eq_true_iff.mpr ⟨rfl, List.all_eq_true.mpr fun p hp => by
      obtain ⟨x, _, rfl⟩ := List.mem_map.mp hp
      rfl⟩)
/-! ### spans -/
def gapsN (m : Nat) (A : List Int) (g : Nat) : List Int := (List.range A.length).map fun k : Nat => (A.getD ((k + g) % A.length) 0 - A.getD k 0) % (m : Int)
def rowN (m : Nat) (A : List Int) (g : Nat) : List Int := ixs m fun v => decide ((v : Int) ∈ gapsN m A g)
def spansN (m : Nat) (A : List Int) : List (List Int) := (List.range (A.length - 1)).map fun g => rowN m A (g + 1)
theorem gaps_x {m : Nat} {A : List Int} {g : Nat} (hm : 1 ≤ m) : ∀ x ∈ gapsN m A g, 0 ≤ x ∧ x < (m : Int) := fun x hx => by
  unfold gapsN at hx
  obtain ⟨k, _, rfl⟩ := List.mem_map.mp hx
  exact ⟨Int.emod_nonneg _ (by omega), Int.emod_lt_of_pos _ (by omega)⟩
theorem mem_row {m : Nat} {A : List Int} {g : Nat} (hm : 1 ≤ m) {x : Int} : x ∈ rowN m A g ↔ x ∈ gapsN m A g := by
  unfold rowN
  rw [mem_ixs]
  constructor
  · rintro ⟨k, _, h, rfl⟩
    exact of_decide_eq_true h
  · intro h
    obtain ⟨a, b⟩ := gaps_x hm x h
    have : ((x.toNat : Nat) : Int) = x := Int.toNat_of_nonneg a
    exact ⟨x.toNat, by omega, decide_eq_true (by rw [this]; exact h), this.symm⟩
theorem isrt_up {l : List Int} (n : l.Nodup) : (isrt l).Pairwise (· < ·) :=
  (List.pairwise_and_iff.mpr ⟨isrt_pw l, (isrt_perm l).nodup_iff.mpr n⟩).imp fun ⟨a, b⟩ => by omega
theorem row_sort {m : Nat} {A : List Int} {g : Nat} (hm : 1 ≤ m) : sortedD [.list ((ddI (gapsN m A g)).map .int)] = .ok (.list ((rowN m A g).map .int)) := by
  have e : isrt (ddI (gapsN m A g)) = rowN m A g := up_eq (fun x => by rw [(isrt_perm _).mem_iff, ddI_mem, mem_row hm]) (isrt_up (ddI_nd _)) (ixs_up m _)
  rw [← e]
  exact sorted_lI (isrt_perm _) (isrt_pw _)
theorem ixMod {A : List Int} {k g : Nat} (hd : 0 < A.length) : ixD (tW A) (.int (((k + g) % A.length : Nat) : Int)) = .ok (.int (A.getD ((k + g) % A.length) 0)) := ixW (Nat.mod_lt _ hd)
end Pd.Law
namespace Pd.Law
open PySem PySem.Spec PyProof.Rows L2 Pd
open Pd (D Env)
theorem rng1n {n : Nat} (h : n < 100000) : rngD [.int 1, .int (n : Int)] = .ok ((List.range (n - 1)).map fun i : Nat => PyData.int ((1 + i : Nat) : Int)) := rng2' (a := 1) (b := n) (by decide) (by omega)
theorem gap_val {m : Nat} {A : List Int} (hm : 1 ≤ m) (hd : 0 < A.length) (k g : Nat) (hk : k < A.length) : ixD (tW A) (.int (((k + g) % A.length : Nat) : Int)) = .ok (.int (A.getD ((k + g) % A.length) 0)) ∧ ixD (tW A) (.int (k : Int)) = .ok (.int (A.getD k 0)) := ⟨ixMod hd, ixW hk⟩
theorem spans_ok {m : Nat} {A : List Int} (h : SOk m A) : d_spans [.int m, tW A] = .ok (.tuple ((spansN m A).map tW)) := by
  have hk := set_ok h
  have hl := h.len
  have hm := h.m2
  have h1 := h.m1
  have hp : (0 : Int) < m := by omega
  have hp0 : m ≠ 0 := by omega
  have hr := rng1n (n := A.length) (by omega)
  have hr2 := range_nat A.length (by omega)
  obtain ⟨⟨x3, x4, R⟩, e, i⟩ := forD_st (g := gN 3) (B := m_spans_L1) (fun g : Nat => PyData.int ((1 + g : Nat) : Int)) (fun q : Option D × Option D × List (List Int) => [some (.int (m : Int)), some (tW A), some (.list (q.2.2.map tW)), q.1, q.2.1, none])
    (fun k q => q.2.2 = (List.range k).map fun g => rowN m A (g + 1)) (List.range (A.length - 1)) (fun k a ⟨x3, x4, R⟩ ha i => by
      have hk : k < A.length - 1 := by
        rcases Nat.lt_or_ge k (List.range (A.length - 1)).length with z | z
        · rwa [List.length_range] at z
        · rw [List.getElem?_eq_none z] at ha; cases ha
      have : a = k := by
        rw [List.getElem?_range hk] at ha
        exact (Option.some.inj ha).symm
      subst this
      dsimp only at i
      have hd : 0 < A.length := by omega
      have hg : (1 + a) = a + 1 := Nat.add_comm _ _
      refine ⟨_, (some (.int ((1 + a : Nat) : Int)), some (.dict (iD (ddI (gapsN m A (1 + a))))), R ++ [rowN m A (1 + a)]), rfl, .inl ?_, ?_⟩
      · dsimp only
        generalize 1 + a = g at *
        have f : dcGo (gN 5) bYes m_spans_e1 m_spans_e2 [some (.int (m : Int)), some (tW A), some (.list (R.map tW)), some (.int (g : Int)), x4, none] ((List.range A.length).map fun i : Nat => PyData.int (i : Int)) [] = .ok (iD (ddI (gapsN m A g))) := by
          rw [dcGo_map (fun i : Nat => PyData.int (i : Int)) (fun _ => true) (fun k : Nat => PyData.int ((A.getD ((k + g) % A.length) 0 - A.getD k 0) % (m : Int))) (fun _ => PyData.bool true) _ _ (fun k hk => ⟨_, rfl, rfl, fun _ => ⟨?_, rfl, rfl, rfl⟩⟩) (by rw [List.length_range]; show 0 + _ ≤ _; omega), List.filter_eq_self.mpr fun _ _ => rfl]
          · refine congrArg Pd.R.ok ?_
            have this : ((List.range A.length).map fun k : Nat => (A.getD ((k + g) % A.length) 0 - A.getD k 0) % (m : Int)).foldl (fun q a => dputR q (.int a) (.bool true)) [] = iD (ddI (gapsN m A g)) := fold_iD (gapsN m A g) []
            rw [List.foldl_map] at this
            refine Eq.trans ?_ this
            rfl
          · have hk := List.mem_range.mp hk
            obtain ⟨i1, i2⟩ := gap_val h1 hd k g hk
            have f2 := add_nat (a := k) (b := g)
            have f3 := mod_nat (a := k + g) (b := A.length) hd
            generalize A.getD ((k + g) % A.length) 0 = v1 at *
            generalize A.getD k 0 = v2 at *
            generalize (k + g) % A.length = y at *
            generalize k + g = x at *
            generalize hAl : A.length = d at *
            simp only [tW] at i1 i2
            simp [m_spans_e1, hAl, i1, i2, f2, f3, hp, hp0, -o_mod]
            simp [hp]
            exact hp0
        have hs := row_sort (A := A) (g := g) h1
        have hli := listX_iD (ddI (gapsN m A g))
        have hR : R.length < 16777216 := by rw [i, List.length_map, List.length_range]; omega
        have im : imm (tW (rowN m A g)) = true := by
          have := o_imInts (L := rowN m A g)
          simpa [tW] using this
        rw [List.map_append]
        generalize rowN m A g = W at *
        generalize iD (ddI (gapsN m A g)) = K at *
        generalize ddI (gapsN m A g) = K2 at *
        simp only [tW] at f ⊢
        simp [m_spans_L1, hr2, f, hli, hs, hR, -o_listXD]
      · dsimp only
        rw [i, hg, List.range_succ, List.map_append]
        rfl) (none, none, []) rfl
  dsimp only at i
  rw [List.length_range] at i
  have e : forD (gN 3) m_spans_L1 ((List.range (A.length - 1)).map fun g : Nat => PyData.int ((1 + g : Nat) : Int)) [some (.int (m : Int)), some (tW A), some (.list []), none, none, none] = _ := e
  have hR : R = spansN m A := i
  subst hR
  have im : immL ((spansN m A).map tW) = true := immL_tW _
  generalize spansN m A = S at *
  simp only [tW] at hk e ⊢
  simp [d_spans, callD, m_spans, hk, hr, e, -Int.natCast_add]
end Pd.Law
namespace Pd.Law
open PySem PySem.Spec PyProof.Rows L2 Pd
open Pd (D Env)
theorem lspans_ok {m : Nat} {A : List Int} (h : SOk m A) : d__law_spans [.int m, tW A] = .ok (.list ((spansN m A).map tW)) := by
  have hl := h.len
  have hm := h.m2
  have h1 := h.m1
  have hp : (0 : Int) < m := by omega
  have hp0 : m ≠ 0 := by omega
  have hr := rng1n (n := A.length) (by omega)
  have hr2 := range_nat A.length (by omega)
  have hrm := range_nat m (by omega)
  obtain ⟨⟨x3, x4, S⟩, e, i⟩ := forD_st (g := gN 3) (B := m__law_spans_L1) (fun g : Nat => PyData.int ((1 + g : Nat) : Int)) (fun q : Option D × Option D × List (List Int) => [some (.int (m : Int)), some (tW A), some (.list (q.2.2.map tW)), q.1, q.2.1, none, none])
    (fun k q => q.2.2 = (List.range k).map fun g => rowN m A (g + 1)) (List.range (A.length - 1)) (fun k a ⟨x3, x4, S⟩ ha i => by
      have hk : k < A.length - 1 := by
        rcases Nat.lt_or_ge k (List.range (A.length - 1)).length with z | z
        · rwa [List.length_range] at z
        · rw [List.getElem?_eq_none z] at ha; cases ha
      have : a = k := by
        rw [List.getElem?_range hk] at ha
        exact (Option.some.inj ha).symm
      subst this
      dsimp only at i
      have hd : 0 < A.length := by omega
      have hg : (1 + a) = a + 1 := Nat.add_comm _ _
      refine ⟨_, (some (.int ((1 + a : Nat) : Int)), some (.list ((gapsN m A (1 + a)).map .int)), S ++ [rowN m A (1 + a)]), rfl, .inl ?_, ?_⟩
      · dsimp only
        generalize 1 + a = g at *
        have f : lcGo (gN 5) bYes m__law_spans_e1 [some (.int (m : Int)), some (tW A), some (.list (S.map tW)), some (.int (g : Int)), x4, none, none] ((List.range A.length).map fun i : Nat => PyData.int (i : Int)) = .ok ((gapsN m A g).map .int) := by
          unfold gapsN
          rw [List.map_map]
          refine lcGo_all (fun i : Nat => PyData.int (i : Int)) (fun k : Nat => PyData.int ((A.getD ((k + g) % A.length) 0 - A.getD k 0) % (m : Int))) _ fun k hk => ⟨_, rfl, ?_⟩
          have hk := List.mem_range.mp hk
          obtain ⟨i1, i2⟩ := gap_val h1 hd k g hk
          have f2 := add_nat (a := k) (b := g)
          have f3 := mod_nat (a := k + g) (b := A.length) hd
          generalize A.getD ((k + g) % A.length) 0 = v1 at *
          generalize A.getD k 0 = v2 at *
          generalize (k + g) % A.length = y at *
          generalize k + g = x at *
          generalize hAl : A.length = d at *
          simp only [tW] at i1 i2
          simp [m__law_spans_e1, hAl, i1, i2, f2, f3, hp, hp0, -o_mod]
          simp [hp]
          exact hp0
        have f2 : lcGo (gN 6) (bBin inX (eName 6) (eName 4)) m__law_spans_e2 [some (.int (m : Int)), some (tW A), some (.list (S.map tW)), some (.int (g : Int)), some (.list ((gapsN m A g).map .int)), none, none] ((List.range m).map fun i : Nat => PyData.int (i : Int)) = .ok ((rowN m A g).map .int) :=
          lc_ixs m _ fun k hk => ⟨_, rfl, by simp, fun _ => by simp [m__law_spans_e2]⟩
        have hR : S.length < 16777216 := by rw [i, List.length_map, List.length_range]; omega
        have hb : (gapsN m A g).length < 16777216 := by unfold gapsN; rw [List.length_map, List.length_range]; omega
        have hb2 : (rowN m A g).length < 16777216 := by have : (rowN m A g).length ≤ m := ixs_len _ _; omega
        rw [List.map_append]
        generalize rowN m A g = W at *
        generalize gapsN m A g = K at *
        simp only [tW] at f f2 ⊢
        simp [m__law_spans_L1, hr2, f, hrm, f2, hb, hb2, hR]
      · dsimp only
        rw [i, hg, List.range_succ, List.map_append]
        rfl) (none, none, []) rfl
  dsimp only at i
  rw [List.length_range] at i
  have e : forD (gN 3) m__law_spans_L1 ((List.range (A.length - 1)).map fun g : Nat => PyData.int ((1 + g : Nat) : Int)) [some (.int (m : Int)), some (tW A), some (.list []), none, none, none, none] = _ := e
  have hR : S = spansN m A := i
  subst hR
  generalize spansN m A = Z at *
  simp only [tW] at e ⊢
  simp [d__law_spans, callD, m__law_spans, hr, e, -Int.natCast_add]
/-! ### evenness -/
def wide (r : List Int) : Int := r.getD (r.length - 1) 0 - r.getD 0 0
def evenB (m : Nat) (A : List Int) : Bool := (spansN m A).all fun r => decide (wide r ≤ 1)
theorem ix_last {r : List Int} (h : r ≠ []) : ixD (tW r) (.int (-1)) = .ok (.int (r.getD (r.length - 1) 0)) := by
  unfold tW
  rw [ixD_tup]
  have hl : 0 < r.length := by cases r with
    | nil => exact absurd rfl h
    | cons a r => simp
  have hx : ixN r.length (-1) = some (r.length - 1) := by
    unfold ixN
    rw [if_neg (by omega), if_pos (by omega)]
    congr 1
    omega
  have : atI (r.map PyData.int) (-1) = some (.int (r.getD (r.length - 1) 0)) := by
    unfold atI
    rw [List.length_map, hx]
    show (r.map PyData.int)[r.length - 1]? = _
    rw [List.getElem?_map, List.getElem?_eq_getElem (show r.length - 1 < r.length by omega), getD_lt (show r.length - 1 < r.length by omega)]
    rfl
  rw [this]
theorem row_ne {m : Nat} {A : List Int} {g : Nat} (hm : 1 ≤ m) (hd : 0 < A.length) : rowN m A g ≠ [] := fun e => by
  have : (A.getD ((0 + g) % A.length) 0 - A.getD 0 0) % (m : Int) ∈ rowN m A g := (mem_row hm).mpr (by
    unfold gapsN
    exact List.mem_map.mpr ⟨0, List.mem_range.mpr hd, rfl⟩)
  rw [e] at this
  cases this
theorem spans_ne {m : Nat} {A : List Int} (hm : 1 ≤ m) : ∀ r ∈ spansN m A, r ≠ [] := fun r hr => by
  unfold spansN at hr
  obtain ⟨g, hg, rfl⟩ := List.mem_map.mp hr
  have := List.mem_range.mp hg
  exact row_ne hm (by omega)
theorem is_even_ok {m : Nat} {A : List Int} (h : SOk m A) : d_is_even [.int m, tW A] = .ok (.bool (evenB m A)) := by
  have hs := spans_ok h
  have hn : ∀ (ρ : Env), eNeg (eC (.int 1)) ρ = .ok (.int (-1)) := fun ρ => q_neg rfl
  have e : gxGo false (gN 2) bYes m_is_even_e1 [some (.int (m : Int)), some (tW A), none] ((spansN m A).map tW) = .ok (evenB m A) :=
    gx_all tW _ _ fun r hr => ⟨_, rfl, by
      have hne := spans_ne h.m1 r hr
      have i1 := ix_last hne
      have i0 : ixD (tW r) (.int 0) = .ok (.int (r.getD 0 0)) := ixW (w := r) (k := 0) (by
        cases r with
        | nil => exact absurd rfl hne
        | cons a r => simp)
      unfold wide
      generalize r.getD (r.length - 1) 0 = v at *
      generalize r.getD 0 0 = u at *
      simp only [tW] at i0 i1 ⊢
      simp [m_is_even_e1, hn, i0, i1]⟩
  generalize evenB m A = b at *
  generalize spansN m A = Z at *
  simp only [tW] at hs e ⊢
  simp [d_is_even, callD, m_is_even, hs, e]
theorem two_ok {m : Nat} {A : List Int} (h : SOk m A) : d_has_two_spans [.int m, tW A] = .ok (.bool (decide (1 < A.length) && (spansN m A).all fun r => decide (r.length = 2))) := by
  have hs := spans_ok h
  have e : gxGo false (gN 2) bYes m_has_two_spans_e1 [some (.int (m : Int)), some (tW A), none] ((spansN m A).map tW) = .ok ((spansN m A).all fun r => decide (r.length = 2)) :=
    gx_all tW _ _ fun r hr => ⟨_, rfl, by
      have : ((r.length : Int) = 2) ↔ r.length = 2 := by omega
      simp [m_has_two_spans_e1, this]⟩
  generalize ((spansN m A).all fun r => decide (r.length = 2)) = b at *
  generalize spansN m A = Z at *
  have c1 : ((1 : Int) < (A.length : Int)) ↔ 1 < A.length := by omega
  simp only [tW] at hs e ⊢
  by_cases c : 1 < A.length <;> simp [d_has_two_spans, callD, m_has_two_spans, c, c1, hs, e]
end Pd.Law
namespace Pd.Law
open PySem PySem.Spec PyProof.Rows L2 Pd
open Pd (D Env)
/-! ### greatest and least -/
theorem max_ints (x : Int) (xs : List Int) : maxLD [.list ((x :: xs).map .int)] = .ok (.int (xs.foldl max x)) := by
  have hall : ∀ L : List Int, (L.map PyData.int).all (fun z => match z with | .none => false | _ => true) = true := fun L => by
    rw [List.all_eq_true]
    intro z hz
    obtain ⟨i, _, rfl⟩ := List.mem_map.mp hz
    rfl
  have hal : ∀ L M : List Int, (L.map PyData.int).all (fun a => (M.map PyData.int).all fun b => PySem.W.alike a b) = true := fun L M => by
    rw [List.all_eq_true]
    intro z hz
    rw [List.all_eq_true]
    intro y hy
    obtain ⟨i, _, rfl⟩ := List.mem_map.mp hz
    obtain ⟨j, _, rfl⟩ := List.mem_map.mp hy
    unfold PySem.W.alike
    rfl
  have ok : okCmp ((x :: xs).map PyData.int) = true := by
    unfold okCmp
    rw [shp_lI, hal]
    exact hall (x :: xs)
  refine (show maxLD [.list ((x :: xs).map .int)] = (if okCmp ((x :: xs).map PyData.int) = true then R.ok (PySem.W.maxD (.int x) (xs.map .int)) else .stuck) from rfl).trans ?_
  rw [if_pos ok, PySem.W.maxD_ints]
theorem min_ints (x : Int) (xs : List Int) : minLD [.list ((x :: xs).map .int)] = .ok (.int (xs.foldl min x)) := by
  have hall : ∀ L : List Int, (L.map PyData.int).all (fun z => match z with | .none => false | _ => true) = true := fun L => by
    rw [List.all_eq_true]
    intro z hz
    obtain ⟨i, _, rfl⟩ := List.mem_map.mp hz
    rfl
  have hal : ∀ L M : List Int, (L.map PyData.int).all (fun a => (M.map PyData.int).all fun b => PySem.W.alike a b) = true := fun L M => by
    rw [List.all_eq_true]
    intro z hz
    rw [List.all_eq_true]
    intro y hy
    obtain ⟨i, _, rfl⟩ := List.mem_map.mp hz
    obtain ⟨j, _, rfl⟩ := List.mem_map.mp hy
    unfold PySem.W.alike
    rfl
  have ok : okCmp ((x :: xs).map PyData.int) = true := by
    unfold okCmp
    rw [shp_lI, hal]
    exact hall (x :: xs)
  refine (show minLD [.list ((x :: xs).map .int)] = (if okCmp ((x :: xs).map PyData.int) = true then R.ok (PySem.W.minD (.int x) (xs.map .int)) else .stuck) from rfl).trans ?_
  rw [if_pos ok, PySem.W.minD_ints]
theorem fmax_le : ∀ (xs : List Int) (x y : Int), xs.foldl max x ≤ y ↔ x ≤ y ∧ ∀ z ∈ xs, z ≤ y
  | [], x, y => by simp
  | a :: xs, x, y => by
    rw [List.foldl_cons, fmax_le xs, Int.max_le, and_assoc]
    simp only [List.mem_cons, forall_eq_or_imp]
theorem fmin_ge : ∀ (xs : List Int) (x y : Int), y ≤ xs.foldl min x ↔ y ≤ x ∧ ∀ z ∈ xs, y ≤ z
  | [], x, y => by simp
  | a :: xs, x, y => by
    rw [List.foldl_cons, fmin_ge xs, Int.le_min, and_assoc]
    simp only [List.mem_cons, forall_eq_or_imp]
def nearB (l : List Int) : Bool := l.all fun x => l.all fun y => decide (x ≤ y + 1)
theorem near_mm {x : Int} {xs : List Int} : (1 < xs.foldl max x - xs.foldl min x) ↔ nearB (x :: xs) = false := by
  have h : (xs.foldl max x - xs.foldl min x ≤ 1) ↔ nearB (x :: xs) = true := by
    have h1 := fmax_le xs x (xs.foldl min x + 1)
    have h2 : ∀ y, y ≤ xs.foldl min x ↔ ∀ z ∈ x :: xs, y ≤ z := fun y => by
      rw [fmin_ge]
      simp only [List.mem_cons, forall_eq_or_imp]
    have h3 : (x ≤ xs.foldl min x + 1 ∧ ∀ z ∈ xs, z ≤ xs.foldl min x + 1) ↔ ∀ z ∈ x :: xs, z ≤ xs.foldl min x + 1 := by
      simp only [List.mem_cons, forall_eq_or_imp]
    rw [h3] at h1
    unfold nearB
    rw [List.all_eq_true]
    constructor
    · intro e z hz
      rw [List.all_eq_true]
      intro y hy
      have g1 := h1.mp (by omega) z hz
      have g2 := (h2 (z - 1)).mp (by omega) y hy
      exact decide_eq_true (by omega)
    · intro e
      have := h1.mpr fun z hz => by
        have := (h2 (z - 1)).mpr fun y hy => by
          have := of_decide_eq_true (List.all_eq_true.mp (e z hz) y hy)
          omega
        omega
      omega
  rw [← Bool.not_eq_true, ← h]
  omega
theorem nearB_iff {l : List Int} : nearB l = true ↔ ∀ x ∈ l, ∀ y ∈ l, x ≤ y + 1 := by
  unfold nearB
  rw [List.all_eq_true]
  constructor
  · intro h x hx y hy
    exact of_decide_eq_true (List.all_eq_true.mp (h x hx) y hy)
  · intro h x hx
    rw [List.all_eq_true]
    intro y hy
    exact decide_eq_true (h x hx y hy)
/-! ### rows and spans -/
theorem gap_ex {m : Nat} {A : List Int} (h : SOk m A) {g k : Nat} (g1 : 1 ≤ g) (g2 : g < A.length) (hk : k < A.length) : (A.getD ((k + g) % A.length) 0 - A.getD k 0) % (m : Int) = ex m A (k + g) - ex m A k := by
  have hd : 0 < A.length := by omega
  have hm : (0 : Int) < m := by have := h.m1; omega
  have u1 := ex_mono h hd k g
  have u2 := ex_mono h hd (k + g) (A.length - g)
  have e1 : k + g + (A.length - g) = k + A.length := by omega
  rw [e1, ex_per hd] at u2
  have e2 : ex m A (k + g) = A.getD ((k + g) % A.length) 0 + (m : Int) * (((k + g) / A.length : Nat) : Int) := rfl
  have e3 := ex_lt0 (m := m) hk
  have e4 : A.getD ((k + g) % A.length) 0 - A.getD k 0 = (ex m A (k + g) - ex m A k) - (m : Int) * (((k + g) / A.length : Nat) : Int) := by rw [e2, e3]; omega
  rw [e4, (div_mul_sub hm).2, Int.emod_eq_of_lt (by omega) (by omega)]
theorem wide_iff {r : List Int} (h : r.Pairwise (· < ·)) (hne : r ≠ []) : wide r ≤ 1 ↔ ∀ x ∈ r, ∀ y ∈ r, x ≤ y + 1 := by
  have hl : 0 < r.length := by cases r with
    | nil => exact absurd rfl hne
    | cons a r => simp
  have mono : ∀ i j : Nat, i ≤ j → (hj : j < r.length) → r.getD i 0 ≤ r.getD j 0 := fun i j hij hj => by
    rcases Nat.lt_or_ge i j with z | z
    · have := List.pairwise_iff_getElem.mp h i j (by omega) hj z
      rw [getD_lt hj, getD_lt (by omega)]
      omega
    · have : i = j := by omega
      rw [this]
      exact Int.le_refl _
  unfold wide
  constructor
  · intro e x hx y hy
    obtain ⟨i, hi, rfl⟩ := List.mem_iff_getElem.mp hx
    obtain ⟨j, hj, rfl⟩ := List.mem_iff_getElem.mp hy
    have a := mono i (r.length - 1) (by omega) (by omega)
    have b := mono 0 j (by omega) hj
    rw [getD_lt hi] at a
    rw [getD_lt hj] at b
    omega
  · intro e
    have := e _ (getD_mem (show r.length - 1 < r.length by omega)) _ (getD_mem hl)
    omega
theorem evenB_iff {m : Nat} {A : List Int} (h : SOk m A) : evenB m A = true ↔ evenP m A := by
  have h1 := h.m1
  unfold evenB
  rw [List.all_eq_true]
  constructor
  · intro e g g1 g2 k j hk hj
    have hr : rowN m A g ∈ spansN m A := by
      unfold spansN
      refine List.mem_map.mpr ⟨g - 1, List.mem_range.mpr (by omega), ?_⟩
      have : g - 1 + 1 = g := by omega
      rw [this]
    have w := (wide_iff (ixs_up m _) (row_ne h1 (by omega))).mp (of_decide_eq_true (e _ hr))
    have mk : ∀ k, k < A.length → ex m A (k + g) - ex m A k ∈ rowN m A g := fun k hk => (mem_row h1).mpr (by
      rw [← gap_ex h g1 g2 hk]
      unfold gapsN
      exact List.mem_map.mpr ⟨k, List.mem_range.mpr hk, rfl⟩)
    exact w _ (mk k hk) _ (mk j hj)
  · intro e r hr
    unfold spansN at hr
    obtain ⟨a, ha, rfl⟩ := List.mem_map.mp hr
    have ha := List.mem_range.mp ha
    refine decide_eq_true ((wide_iff (ixs_up m _) (row_ne h1 (by omega))).mpr fun x hx y hy => ?_)
    have hx := (mem_row h1).mp hx
    have hy := (mem_row h1).mp hy
    unfold gapsN at hx hy
    obtain ⟨k, hk, rfl⟩ := List.mem_map.mp hx
    obtain ⟨j, hj, rfl⟩ := List.mem_map.mp hy
    have hk := List.mem_range.mp hk
    have hj := List.mem_range.mp hj
    rw [gap_ex h (by omega) (by omega) hk, gap_ex h (by omega) (by omega) hj]
    exact e (a + 1) (by omega) (by omega) k j hk hj
end Pd.Law
namespace Pd.Law
open PySem PySem.Spec PyProof.Rows L2 Pd
open Pd (D Env)
/-! ### balance -/
def cntsN (m : Nat) (p : Int → Bool) (L : Nat) : List Int := (List.range m).map fun a : Nat => (cnt p (a : Int) L : Int)
def balB (m : Nat) (p : Int → Bool) : Bool := (List.range (m - 1)).all fun i => nearB (cntsN m p (1 + i))
theorem cnts_near {m : Nat} {p : Int → Bool} {L : Nat} : nearB (cntsN m p L) = true ↔ ∀ a b : Nat, a < m → b < m → cnt p a L ≤ cnt p b L + 1 := by
  rw [nearB_iff]
  unfold cntsN
  constructor
  · intro h a b ha hb
    have := h _ (List.mem_map.mpr ⟨a, List.mem_range.mpr ha, rfl⟩) _ (List.mem_map.mpr ⟨b, List.mem_range.mpr hb, rfl⟩)
    omega
  · intro h x hx y hy
    obtain ⟨a, ha, rfl⟩ := List.mem_map.mp hx
    obtain ⟨b, hb, rfl⟩ := List.mem_map.mp hy
    have := h a b (List.mem_range.mp ha) (List.mem_range.mp hb)
    omega
theorem balB_iff {m : Nat} {p : Int → Bool} : balB m p = true ↔ balP m p := by
  unfold balB
  rw [List.all_eq_true]
  constructor
  · intro h L h1 h2 a b ha hb
    have := h (L - 1) (List.mem_range.mpr (by omega))
    have e : 1 + (L - 1) = L := by omega
    rw [e] at this
    exact cnts_near.mp this a b ha hb
  · intro h i hi
    have := List.mem_range.mp hi
    exact cnts_near.mpr fun a b ha hb => h (1 + i) (by omega) (by omega) a b ha hb
theorem cnts_cons {m : Nat} {p : Int → Bool} {L : Nat} (hm : 0 < m) : ∃ x xs, cntsN m p L = x :: xs := by
  cases e : cntsN m p L with
  | nil =>
    have : (cntsN m p L).length = m := by unfold cntsN; rw [List.length_map, List.length_range]
    rw [e] at this
    have this : 0 = m := this
    omega
  | cons x xs => exact ⟨x, xs, rfl⟩
theorem is_balanced_ok {m : Nat} {w : List Int} (h : POk m w) : d_is_balanced [tW w] = .ok (.bool (balB m (mem m (onesN w)))) := by
  have hs := set_of_ok h
  have hl := h.l
  have hm := h.m2
  have h1 := h.m1
  have hr := rng1n (n := m) (by omega)
  have hrm := range_nat m (by omega)
  obtain ⟨ρ', e, i⟩ := forD_find (g := gN 3) (B := m_is_balanced_L1) (fun i : Nat => PyData.int ((1 + i : Nat) : Int)) (fun i => !nearB (cntsN m (mem m (onesN w)) (1 + i))) (fun _ => .bool false) (fun ρ => ∃ x3 x4 : Option D, ρ = [some (tW w), some (tW (onesN w)), some (.int (m : Int)), x3, x4, none, none]) (List.range (m - 1)) (fun a ha ρ ⟨x3, x4, hρ⟩ => by
    subst hρ
    have ha := List.mem_range.mp ha
    have hL : 1 + a < m := by omega
    generalize 1 + a = L at *
    have hrL := range_nat L (by omega)
    have f : lcGo (gN 5) bYes m_is_balanced_e2 [some (tW w), some (tW (onesN w)), some (.int (m : Int)), some (.int (L : Int)), x4, none, none] ((List.range m).map fun i : Nat => PyData.int (i : Int)) = .ok ((cntsN m (mem m (onesN w)) L).map .int) := by
      unfold cntsN
      rw [List.map_map]
      refine lcGo_all (fun i : Nat => PyData.int (i : Int)) (fun a : Nat => PyData.int ((cnt (mem m (onesN w)) (a : Int) L : Nat) : Int)) _ fun a ha => ⟨_, rfl, ?_⟩
      have ha := List.mem_range.mp ha
      have f2 : lcGo (gN 6) (bBin inX (eBin modD (eBin addD (eName 5) (eName 6)) (eName 2)) (eName 1)) m_is_balanced_e1 [some (tW w), some (tW (onesN w)), some (.int (m : Int)), some (.int (L : Int)), x4, some (.int (a : Int)), none] ((List.range L).map fun i : Nat => PyData.int (i : Int)) = .ok (((List.range L).filter fun k : Nat => mem m (onesN w) ((a : Int) + k)).map fun i : Nat => PyData.int (i : Int)) :=
        lcGo_map (fun i : Nat => PyData.int (i : Int)) _ (fun i : Nat => PyData.int (i : Int)) _ fun k _ => ⟨_, rfl, by
          have hp : (0 : Int) < m := by omega
          have hp0 : m ≠ 0 := by omega
          unfold mem
          simp [hp, hp0], fun _ => by simp [m_is_balanced_e1]⟩
      have hc : ((List.range L).filter fun k : Nat => mem m (onesN w) ((a : Int) + k)).length < 16777216 := Nat.lt_of_le_of_lt (List.length_filter_le _ _) (by rw [List.length_range]; omega)
      unfold cnt
      generalize ((List.range L).filter fun k : Nat => mem m (onesN w) ((a : Int) + k)) = Z at *
      generalize onesN w = O at *
      simp only [tW] at f2 ⊢
      simp [m_is_balanced_e2, hrL, f2, hc]
    obtain ⟨x, xs, hx⟩ := cnts_cons (p := mem m (onesN w)) (L := L) (show 0 < m by omega)
    have hlen : (cntsN m (mem m (onesN w)) L).length < 16777216 := by unfold cntsN; rw [List.length_map, List.length_range]; omega
    have hn := near_mm (x := x) (xs := xs)
    have M1 := max_ints x xs
    have M2 := min_ints x xs
    rw [← hx] at hn M1 M2
    generalize cntsN m (mem m (onesN w)) L = K at *
    generalize onesN w = O at *
    refine ⟨_, rfl, fun hp => ?_, fun hp => ⟨_, .inl ?_, some (.int (L : Int)), some (.list (K.map .int)), rfl⟩⟩
    · have c := hn.mpr (by simpa using hp)
      simp only [tW] at f ⊢
      simp [m_is_balanced_L1, hrm, f, hlen, M1, M2, c]
    · have c : ¬ (1 < xs.foldl max x - xs.foldl min x) := fun z => by
        have := hn.mp z
        rw [this] at hp
        cases hp
      simp only [tW] at f ⊢
      simp [m_is_balanced_L1, hrm, f, hlen, M1, M2, c]) [some (tW w), some (tW (onesN w)), some (.int (m : Int)), none, none, none, none] ⟨none, none, rfl⟩
  have hb : balB m (mem m (onesN w)) = ((List.range (m - 1)).find? fun i => !nearB (cntsN m (mem m (onesN w)) (1 + i))).isNone := by
    unfold balB
    rw [Bool.eq_iff_iff, List.all_eq_true, Option.isNone_iff_eq_none, List.find?_eq_none]
    simp
  rw [hb]
  generalize ((List.range (m - 1)).find? fun i => !nearB (cntsN m (mem m (onesN w)) (1 + i))) = F at *
  generalize onesN w = O at *
  simp only [tW] at hs e ⊢
  cases F <;> simp [d_is_balanced, callD, m_is_balanced, hs, hl, hr, e, -Int.natCast_add]
end Pd.Law
namespace Pd.Law
open PySem PySem.Spec PyProof.Rows L2 Pd
open Pd (D Env)
theorem mem_ones {m : Nat} {w : List Int} (h : POk m w) {j : Nat} (hj : j < m) : w.getD j 0 = if decide ((j : Int) ∈ onesN w) = true then 1 else 0 := by
  have hl := h.l
  have e : ((j : Int) ∈ onesN w) ↔ w.getD j 0 = 1 := by
    unfold onesN
    rw [mem_ixs]
    constructor
    · rintro ⟨k, h1, h2, e⟩
      have : k = j := by omega
      subst this
      exact of_decide_eq_true h2
    · intro e
      exact ⟨j, by omega, decide_eq_true e, rfl⟩
  have hx := h.x _ (getD_mem (A := w) (r := j) (by omega))
  rcases hx with z | z
  · rw [if_neg (by simp only [decide_eq_true_iff]; rw [e]; omega), z]
  · rw [if_pos (decide_eq_true (e.mpr z)), z]
theorem sum_cnt {m : Nat} {w : List Int} (h : POk m w) (a : Nat) : ∀ L : Nat, ((List.range L).map fun k : Nat => w.getD ((a + k) % m) 0).sum = (cnt (mem m (onesN w)) (a : Int) L : Int)
  | 0 => rfl
  | L + 1 => by
    have hm : 0 < m := by have := h.m1; omega
    rw [List.range_succ, List.map_append, List.sum_append, sum_cnt h a L, cnt_succ, List.map_cons, List.map_nil, List.sum_cons, List.sum_nil, mem_ones h (Nat.mod_lt _ hm)]
    have e : mem m (onesN w) ((a : Int) + L) = decide ((((a + L) % m : Nat) : Int) ∈ onesN w) := by
      unfold mem
      rw [Int.natCast_emod, Int.natCast_add]
    rw [e]
    generalize decide ((((a + L) % m : Nat) : Int) ∈ onesN w) = b
    cases b
    · simp
    · simp
theorem lbalanced_ok {m : Nat} {w : List Int} (h : POk m w) : d__law_balanced [tW w] = .ok (.bool (balB m (mem m (onesN w)))) := by
  have hl := h.l
  have hm := h.m2
  have h1 := h.m1
  have hr := rng1n (n := m) (by omega)
  have hrm := range_nat m (by omega)
  obtain ⟨ρ', e, i⟩ := forD_find (g := gN 2) (B := m__law_balanced_L1) (fun i : Nat => PyData.int ((1 + i : Nat) : Int)) (fun i => !nearB (cntsN m (mem m (onesN w)) (1 + i))) (fun _ => .bool false) (fun ρ => ∃ x3 x4 : Option D, ρ = [some (tW w), some (.int (m : Int)), x3, x4, none, none]) (List.range (m - 1)) (fun a ha ρ ⟨x3, x4, hρ⟩ => by
    subst hρ
    have ha := List.mem_range.mp ha
    have hL : 1 + a < m := by omega
    generalize 1 + a = L at *
    have hrL := range_nat L (by omega)
    have f : lcGo (gN 4) bYes m__law_balanced_e2 [some (tW w), some (.int (m : Int)), some (.int (L : Int)), x4, none, none] ((List.range m).map fun i : Nat => PyData.int (i : Int)) = .ok ((cntsN m (mem m (onesN w)) L).map .int) := by
      unfold cntsN
      rw [List.map_map]
      refine lcGo_all (fun i : Nat => PyData.int (i : Int)) (fun a : Nat => PyData.int ((cnt (mem m (onesN w)) (a : Int) L : Nat) : Int)) _ fun a ha => ⟨_, rfl, ?_⟩
      have ha := List.mem_range.mp ha
      have f2 : lcGo (gN 5) bYes m__law_balanced_e1 [some (tW w), some (.int (m : Int)), some (.int (L : Int)), x4, some (.int (a : Int)), none] ((List.range L).map fun i : Nat => PyData.int (i : Int)) = .ok (((List.range L).map fun k : Nat => w.getD ((a + k) % m) 0).map .int) := by
        rw [List.map_map]
        refine lcGo_all (fun i : Nat => PyData.int (i : Int)) (fun k : Nat => PyData.int (w.getD ((a + k) % m) 0)) _ fun k _ => ⟨_, rfl, ?_⟩
        have i1 := ixW (w := w) (k := (a + k) % m) (by rw [hl]; exact Nat.mod_lt _ (by omega))
        have g2 := add_nat (a := a) (b := k)
        have g3 := mod_nat (a := a + k) (b := m) (by omega)
        generalize w.getD ((a + k) % m) 0 = v at *
        generalize (a + k) % m = y at *
        generalize a + k = z at *
        simp only [tW] at i1
        simp [m__law_balanced_e1, g2, g3, i1, -o_mod]
      have hsum := sum_cnt h a L
      have hs2 := sum_int ((List.range L).map fun k : Nat => w.getD ((a + k) % m) 0)
      rw [hsum] at hs2
      have hc : ((List.range L).map fun k : Nat => w.getD ((a + k) % m) 0).length < 16777216 := by rw [List.length_map, List.length_range]; omega
      generalize ((List.range L).map fun k : Nat => w.getD ((a + k) % m) 0) = Z at *
      generalize cnt (mem m (onesN w)) (a : Int) L = C at *
      simp only [tW] at f2 ⊢
      simp [m__law_balanced_e2, hrL, f2, hc, hs2]
    obtain ⟨x, xs, hx⟩ := cnts_cons (p := mem m (onesN w)) (L := L) (show 0 < m by omega)
    have hlen : (cntsN m (mem m (onesN w)) L).length < 16777216 := by unfold cntsN; rw [List.length_map, List.length_range]; omega
    have hn := near_mm (x := x) (xs := xs)
    have M1 := max_ints x xs
    have M2 := min_ints x xs
    rw [← hx] at hn M1 M2
    generalize cntsN m (mem m (onesN w)) L = K at *
    refine ⟨_, rfl, fun hp => ?_, fun hp => ⟨_, .inl ?_, some (.int (L : Int)), some (.list (K.map .int)), rfl⟩⟩
    · have c := hn.mpr (by simpa using hp)
      simp only [tW] at f ⊢
      simp [m__law_balanced_L1, hrm, f, hlen, M1, M2, c]
    · have c : ¬ (1 < xs.foldl max x - xs.foldl min x) := fun z => by
        have := hn.mp z
        rw [this] at hp
        cases hp
      simp only [tW] at f ⊢
      simp [m__law_balanced_L1, hrm, f, hlen, M1, M2, c]) [some (tW w), some (.int (m : Int)), none, none, none, none] ⟨none, none, rfl⟩
  have hb : balB m (mem m (onesN w)) = ((List.range (m - 1)).find? fun i => !nearB (cntsN m (mem m (onesN w)) (1 + i))).isNone := by
    unfold balB
    rw [Bool.eq_iff_iff, List.all_eq_true, Option.isNone_iff_eq_none, List.find?_eq_none]
    simp
  rw [hb]
  generalize ((List.range (m - 1)).find? fun i => !nearB (cntsN m (mem m (onesN w)) (1 + i))) = F at *
  simp only [tW] at e ⊢
  cases F <;> simp [d__law_balanced, callD, m__law_balanced, hl, hr, e, -Int.natCast_add]
/-! ### steps -/
def stepN (m : Nat) (A : List Int) : List Int := (List.range A.length).map fun k : Nat => if 1 < A.length then (A.getD ((k + 1) % A.length) 0 - A.getD k 0) % (m : Int) else (m : Int)
theorem steps_ok {m : Nat} {A : List Int} (h : SOk m A) : d_steps_round [.int m, tW A] = .ok (tW (stepN m A)) := by
  have hk := set_ok h
  have hl := h.len
  have hm := h.m2
  have h1 := h.m1
  have hp : (0 : Int) < m := by omega
  have hp0 : m ≠ 0 := by omega
  have hr2 := range_nat A.length (by omega)
  have f : lcGo (gN 2) bYes m_steps_round_e1 [some (.int (m : Int)), some (tW A), none] ((List.range A.length).map fun i : Nat => PyData.int (i : Int)) = .ok ((stepN m A).map .int) := by
    unfold stepN
    rw [List.map_map]
    refine lcGo_all (fun i : Nat => PyData.int (i : Int)) (fun k : Nat => PyData.int (if 1 < A.length then (A.getD ((k + 1) % A.length) 0 - A.getD k 0) % (m : Int) else (m : Int))) _ fun k hk => ⟨_, rfl, ?_⟩
    have hk := List.mem_range.mp hk
    have hd : 0 < A.length := by omega
    obtain ⟨i1, i2⟩ := gap_val h1 hd k 1 hk
    have f2 := add_nat (a := k) (b := 1)
    have f3 := mod_nat (a := k + 1) (b := A.length) hd
    have f2 : addD (.int (k : Int)) (.int 1) = .ok (.int ((k + 1 : Nat) : Int)) := f2
    have c1 : ((1 : Int) < (A.length : Int)) ↔ 1 < A.length := by omega
    generalize A.getD ((k + 1) % A.length) 0 = v1 at *
    generalize A.getD k 0 = v2 at *
    generalize (k + 1) % A.length = y at *
    generalize k + 1 = x at *
    generalize hAl : A.length = d at *
    simp only [tW] at i1 i2
    by_cases c : 1 < d
    · simp [m_steps_round_e1, hAl, c1, c, i1, i2, f2, f3, -o_mod]
      simp [hp, hp0]
    · simp [m_steps_round_e1, hAl, c1, c]
  have hb : (stepN m A).length < 16777216 := by unfold stepN; rw [List.length_map, List.length_range]; omega
  generalize stepN m A = B at *
  simp only [tW] at hk f ⊢
  simp [d_steps_round, callD, m_steps_round, hk, hr2, f, hb]
theorem onsets_ok {m : Nat} {A : List Int} {g : Int} (h : SOk m A) (hg : 0 ≤ g) : d_onsets_apart [.int m, tW A, .int g] = .ok (.bool ((stepN m A).all fun x => decide (g ≤ x))) := by
  have hk := set_ok h
  have hs := steps_ok h
  have c : ¬ g < 0 := by omega
  have e : gxGo false (gN 3) bYes m_onsets_apart_e1 [some (.int (m : Int)), some (tW A), some (.int g), none] ((stepN m A).map .int) = .ok ((stepN m A).all fun x => decide (g ≤ x)) :=
    gx_all PyData.int _ _ fun x _ => ⟨_, rfl, by simp [m_onsets_apart_e1]⟩
  generalize ((stepN m A).all fun x => decide (g ≤ x)) = b at *
  generalize stepN m A = B at *
  simp only [tW] at hk hs e ⊢
  simp [d_onsets_apart, callD, m_onsets_apart, hk, number_int, c, hs, e]
def fitsN (m : Nat) (A : List Int) : List Int := ixs m fun k => !(A.any fun x => decide ((x + (k : Int)) % (m : Int) ∈ A))
theorem fits_ok {m : Nat} {A : List Int} (h : SOk m A) : d_fits_twice [.int m, tW A] = .ok (tW (fitsN m A)) := by
  have hk := set_ok h
  have hm := h.m2
  have h1 := h.m1
  have hp : (0 : Int) < m := by omega
  have hp0 : m ≠ 0 := by omega
  have hr := range_nat m (by omega)
  have f : lcGo (gN 2) (bNot (bTru (eGx true (eIt (eName 1)) (gN 3) bYes m_fits_twice_e1 [3]))) m_fits_twice_e2 [some (.int (m : Int)), some (tW A), none, none] ((List.range m).map fun i : Nat => PyData.int (i : Int)) = .ok ((fitsN m A).map .int) :=
    lc_ixs m _ fun k _ => by
      have e : gxGo true (gN 3) bYes m_fits_twice_e1 [some (.int (m : Int)), some (tW A), some (.int (k : Int)), none] (A.map PyData.int) = .ok (A.any fun x => decide ((x + (k : Int)) % (m : Int) ∈ A)) :=
        gx_any PyData.int _ A fun x _ => ⟨_, rfl, by simp [m_fits_twice_e1, hp, hp0]⟩
      refine ⟨_, rfl, ?_, fun _ => by simp [m_fits_twice_e2]⟩
      generalize (A.any fun x => decide ((x + (k : Int)) % (m : Int) ∈ A)) = b at *
      simp only [tW] at e
      simp [e]
  have hb : (fitsN m A).length < 16777216 := by have : (fitsN m A).length ≤ m := ixs_len _ _; omega
  generalize fitsN m A = B at *
  simp only [tW] at hk f ⊢
  simp [d_fits_twice, callD, m_fits_twice, hk, hr, f, hb]
end Pd.Law
namespace Pd.Law
open PySem PySem.Spec PyProof.Rows L2 Pd
open Pd (D Env)
theorem ddp_len_iff {l : List Int} : (ddp l).length = l.length ↔ l.Nodup := by
  constructor
  · intro h
    induction l with
    | nil => exact List.nodup_nil
    | cons a l ih =>
      unfold ddp at h
      by_cases c : a ∈ ddp l
      · rw [if_pos c] at h
        have := ddp_len l
        rw [List.length_cons] at h
        omega
      · rw [if_neg c, List.length_cons, List.length_cons] at h
        exact List.nodup_cons.mpr ⟨fun z => c (mem_ddp.mpr z), ih (by omega)⟩
  · intro h
    rw [ddp_nodup h]
theorem count_nodup {l : List Int} : (l.filter fun x => decide ((1 : Int) < ((l.count x : Nat) : Int))).length = 0 ↔ l.Nodup := by
  rw [List.length_eq_zero_iff, List.filter_eq_nil_iff, List.nodup_iff_count]
  constructor
  · intro h a
    by_cases c : a ∈ l
    · have := h a c
      simp at this
      omega
    · rw [List.count_eq_zero_of_not_mem c]
      omega
  · intro h a _
    have := h a
    simp
    omega
/-! ### scales of one step -/
def plcN (m t z : Nat) : List Int := (List.range z).map fun k : Nat => ((k * t % m : Nat) : Int)
def sclN (m t z : Nat) : List Int := isrt (plcN m t z)
theorem plc_len (m t z : Nat) : (plcN m t z).length = z := by unfold plcN; rw [List.length_map, List.length_range]
theorem plc_x {m t z : Nat} (hm : 0 < m) : ∀ x ∈ plcN m t z, 0 ≤ x ∧ x < (m : Int) := fun x hx => by
  unfold plcN at hx
  obtain ⟨k, _, rfl⟩ := List.mem_map.mp hx
  have := Nat.mod_lt (k * t) hm
  generalize k * t % m = y at *
  exact ⟨by omega, by omega⟩
theorem scl_ok {m t z : Nat} (h1 : 1 ≤ m) (h2 : m ≤ 24) (n : (plcN m t z).Nodup) : SOk m (sclN m t z) := ⟨h1, h2, isrt_up n, fun x hx => plc_x h1 x ((isrt_perm _).mem_iff.mp hx)⟩
theorem scl_len (m t z : Nat) : (sclN m t z).length = z := by unfold sclN; rw [isrt_len, plc_len]
theorem scale_all {m t z : Nat} (h1 : 1 ≤ z) (h2 : z ≤ m) (h3 : m ≤ 24) (ht : t < m) : d_scale_of [.int m, .int t, .int z] = if (plcN m t z).Nodup then .ok (tW (sclN m t z)) else .exc "BadNumber" := by
  have hk := parts_ok h1 h2 h3
  have g1 : (0 : Int) ≤ t := by omega
  have g2 : (t : Int) < m := by omega
  have hr := range_nat z (by omega)
  have f : lcGo (gN 4) bYes m_scale_of_e1 [some (.int (m : Int)), some (.int (t : Int)), some (.int (z : Int)), none, none, none] ((List.range z).map fun i : Nat => PyData.int (i : Int)) = .ok ((plcN m t z).map .int) := by
    unfold plcN
    rw [List.map_map]
    refine lcGo_all (fun i : Nat => PyData.int (i : Int)) (fun k : Nat => PyData.int ((k * t % m : Nat) : Int)) _ fun k hk => ⟨_, rfl, ?_⟩
    have hk := List.mem_range.mp hk
    have f1 := mul_ok (a := k) (b := t) (by omega)
    have f3 := mod_nat (a := k * t) (b := m) (by omega)
    generalize k * t % m = y at *
    generalize k * t = x at *
    simp [m_scale_of_e1, f1, f3, -o_mul, -o_mod]
  have hpl := plc_len m t z
  have f2 : lcGo (gN 5) bYes m_scale_of_e2 [some (.int (m : Int)), some (.int (t : Int)), some (.int (z : Int)), some (.list ((plcN m t z).map .int)), none, none] ((plcN m t z).map PyData.int) = .ok ((plcN m t z).map .int) :=
    lcGo_all PyData.int PyData.int _ fun x _ => ⟨_, rfl, by simp [m_scale_of_e2]⟩
  have hs := lenSI_val (ns := plcN m t z) (by omega)
  have hle := ddp_len (plcN m t z)
  have hso : sortedD [.list ((plcN m t z).map .int)] = .ok (.list ((sclN m t z).map .int)) := sorted_lI (isrt_perm _) (isrt_pw _)
  have hb : (plcN m t z).length < 16777216 := by omega
  have hn := ddp_len_iff (l := plcN m t z)
  generalize sclN m t z = S at *
  generalize plcN m t z = P at *
  by_cases c : P.Nodup
  · rw [if_pos c]
    have e := hn.mpr c
    have c1 : ¬ (((ddp P).length : Int) < (z : Int)) := by omega
    simp only [tW]
    simp [d_scale_of, callD, m_scale_of, hk, number_int, g1, ht, hr, f, hb, f2, hs, c1, hso]
  · rw [if_neg c]
    have e : (ddp P).length ≠ P.length := fun z => c (hn.mp z)
    have c1 : ((ddp P).length : Int) < (z : Int) := by omega
    simp [d_scale_of, callD, m_scale_of, hk, number_int, g1, ht, hr, f, hb, f2, hs, c1]
end Pd.Law
namespace Pd.Law
open PySem PySem.Spec PyProof.Rows L2 Pd
open Pd (D Env)
def gszN (m : Nat) (A : List Int) : List Int := ixs (m + 1) fun v => decide ((v : Int) ∈ stepN m A)
theorem step_x {m : Nat} {A : List Int} (hm : 1 ≤ m) : ∀ x ∈ stepN m A, 0 ≤ x ∧ x ≤ (m : Int) := fun x hx => by
  unfold stepN at hx
  obtain ⟨k, _, rfl⟩ := List.mem_map.mp hx
  split
  · have := Int.emod_nonneg (A.getD ((k + 1) % A.length) 0 - A.getD k 0) (show (m : Int) ≠ 0 by omega)
    have := Int.emod_lt_of_pos (A.getD ((k + 1) % A.length) 0 - A.getD k 0) (show (0 : Int) < m by omega)
    omega
  · omega
theorem gap_sizes_ok {m t z : Nat} (h1 : 1 ≤ z) (h2 : z ≤ m) (h3 : m ≤ 24) (ht : t < m) (n : (plcN m t z).Nodup) : d_gap_sizes [.int m, .int t, .int z] = .ok (tW (gszN m (sclN m t z))) := by
  have hs := scale_all h1 h2 h3 ht
  rw [if_pos n] at hs
  have ok := scl_ok (t := t) (z := z) (show 1 ≤ m by omega) h3 n
  have hst := steps_ok ok
  have hl := scl_len m t z
  have f2 : lcGo (gN 3) bYes m_gap_sizes_e1 [some (.int (m : Int)), some (.int (t : Int)), some (.int (z : Int)), none] ((stepN m (sclN m t z)).map PyData.int) = .ok ((stepN m (sclN m t z)).map .int) :=
    lcGo_all PyData.int PyData.int _ fun x _ => ⟨_, rfl, by simp [m_gap_sizes_e1]⟩
  have hv := sortSI_val (ns := stepN m (sclN m t z)) (ys := gszN m (sclN m t z)) (by unfold stepN; rw [List.length_map, List.length_range]; omega) (fun x => by
    unfold gszN
    rw [mem_ixs]
    constructor
    · rintro ⟨k, _, h, rfl⟩
      exact of_decide_eq_true h
    · intro h
      obtain ⟨a, b⟩ := step_x (show 1 ≤ m by omega) x h
      have : ((x.toNat : Nat) : Int) = x := Int.toNat_of_nonneg a
      exact ⟨x.toNat, by omega, decide_eq_true (by rw [this]; exact h), this.symm⟩) (ixs_up _ _)
  generalize gszN m (sclN m t z) = G at *
  generalize stepN m (sclN m t z) = P at *
  generalize sclN m t z = S at *
  simp only [tW] at hs hst f2 ⊢
  simp [d_gap_sizes, callD, m_gap_sizes, hs, hst, f2, hv]
/-! ### well formed -/
def overN (z : Nat) (ps : List Int) : List Int := (List.range z).map fun k : Nat => (ps.getD ((k + 1) % z) 0 - ps.getD k 0) % (z : Int)
theorem closes_ok {z : Nat} {ps : List Int} (h1 : 1 ≤ z) (h2 : z ≤ 24) (hl : ps.length = z) : d_closes [.list (ps.map .int), .int z] = .ok (.bool ((overN z ps).all fun x => decide (x = (overN z ps).getD 0 0))) := by
  have hr := range_nat z (by omega)
  have hp : (0 : Int) < z := by omega
  have hp0 : z ≠ 0 := by omega
  have hg : (overN z ps).getD 0 0 = (ps.getD (1 % z) 0 - ps.getD 0 0) % (z : Int) := by
    unfold overN
    rw [getD_lt (by rw [List.length_map, List.length_range]; omega), List.getElem_map, List.getElem_range, Nat.zero_add]
  have key : ∀ (G : Int), gxGo false (gN 3) bYes m_closes_e1 [some (.list (ps.map .int)), some (.int (z : Int)), some (.int G), none] ((List.range z).map fun i : Nat => PyData.int (i : Int)) = .ok ((overN z ps).all fun x => decide (x = G)) := fun G => by
    unfold overN
    rw [List.all_map]
    refine gx_all (fun i : Nat => PyData.int (i : Int)) _ _ fun k hk => ⟨_, rfl, ?_⟩
    have hk := List.mem_range.mp hk
    have i1 := ix_lI (xs := ps) (k := (k + 1) % z) (by rw [hl]; exact Nat.mod_lt _ (by omega))
    have i2 := ix_lI (xs := ps) (k := k) (by omega)
    have f2 : addD (.int (k : Int)) (.int 1) = .ok (.int ((k + 1 : Nat) : Int)) := add_nat (a := k) (b := 1)
    have f3 := mod_nat (a := k + 1) (b := z) (by omega)
    show _ = R.ok (PyData.bool (decide ((ps.getD ((k + 1) % z) 0 - ps.getD k 0) % (z : Int) = G)))
    generalize ps.getD ((k + 1) % z) 0 = v1 at *
    generalize ps.getD k 0 = v2 at *
    generalize (k + 1) % z = y at *
    generalize k + 1 = x at *
    simp [m_closes_e1, i1, i2, f2, f3, -o_mod]
    simp [hp, hp0]
  by_cases c : 1 < z
  · have c1 : (1 : Int) < z := by omega
    have e1 : 1 % z = 1 := Nat.mod_eq_of_lt c
    rw [e1] at hg
    have i1 : ixD (.list (ps.map .int)) (.int 1) = .ok (.int (ps.getD 1 0)) := ix_lI (xs := ps) (k := 1) (by omega)
    have i2 : ixD (.list (ps.map .int)) (.int 0) = .ok (.int (ps.getD 0 0)) := ix_lI (xs := ps) (k := 0) (by omega)
    have kk := key ((overN z ps).getD 0 0)
    rw [hg] at kk ⊢
    generalize ((overN z ps).all fun x => decide (x = (ps.getD 1 0 - ps.getD 0 0) % (z : Int))) = b at *
    generalize ps.getD 1 0 = v1 at *
    generalize ps.getD 0 0 = v2 at *
    simp [d_closes, callD, m_closes, c, c1, i1, i2, hp, hp0, hr, kk]
  · have e1 : z = 1 := by omega
    subst e1
    have g0 : (overN 1 ps).getD 0 0 = 0 := by
      rw [hg]
      show (_ % ((1 : Nat) : Int)) = 0
      exact Int.emod_one _
    have kk := key 0
    rw [g0]
    have hr : rngD [.int 1] = .ok ((List.range 1).map fun i : Nat => PyData.int (i : Int)) := hr
    have kk : gxGo false (gN 3) bYes m_closes_e1 [some (.list (ps.map .int)), some (.int 1), some (.int 0), none] ((List.range 1).map fun i : Nat => PyData.int (i : Int)) = _ := kk
    generalize (overN 1 ps).all (fun x => decide (x = 0)) = b at *
    generalize (List.range 1) = L at *
    simp [d_closes, callD, m_closes, hr, kk]
def plxN (m t z : Nat) : List Int := (plcN m t z).map fun p => (((sclN m t z).idxOf p : Nat) : Int)
theorem well_ok {m t z : Nat} (h1 : 1 ≤ z) (h2 : z ≤ m) (h3 : m ≤ 24) (ht : t < m) (n : (plcN m t z).Nodup) : d_is_well_formed [.int m, .int t, .int z] = .ok (.bool ((overN z (plxN m t z)).all fun x => decide (x = (overN z (plxN m t z)).getD 0 0))) := by
  have hs := scale_all h1 h2 h3 ht
  rw [if_pos n] at hs
  have hr := range_nat z (by omega)
  have hc := closes_ok (ps := plxN m t z) h1 (by omega) (by unfold plxN; rw [List.length_map, plc_len])
  have hb : (plxN m t z).length < 16777216 := by unfold plxN; rw [List.length_map, plc_len]; omega
  have f : lcGo (gN 4) bYes m_is_well_formed_e1 [some (.int (m : Int)), some (.int (t : Int)), some (.int (z : Int)), some (tW (sclN m t z)), none] ((List.range z).map fun i : Nat => PyData.int (i : Int)) = .ok ((plxN m t z).map .int) := by
    unfold plxN plcN
    rw [List.map_map, List.map_map]
    refine lcGo_all (fun i : Nat => PyData.int (i : Int)) (fun k : Nat => PyData.int (((sclN m t z).idxOf ((k * t % m : Nat) : Int) : Nat) : Int)) _ fun k hk => ⟨_, rfl, ?_⟩
    have hk := List.mem_range.mp hk
    have hm : ((k * t % m : Nat) : Int) ∈ sclN m t z := (isrt_perm _).mem_iff.mpr (by unfold plcN; exact List.mem_map.mpr ⟨k, List.mem_range.mpr hk, rfl⟩)
    have hi := idx_int hm
    have f1 := mul_ok (a := k) (b := t) (by omega)
    have f3 := mod_nat (a := k * t) (b := m) (by omega)
    generalize k * t % m = y at *
    generalize k * t = x at *
    generalize sclN m t z = S at *
    simp only [tW]
    simp [m_is_well_formed_e1, f1, f3, hi, -o_mul, -o_mod]
  generalize ((overN z (plxN m t z)).all fun x => decide (x = (overN z (plxN m t z)).getD 0 0)) = b at *
  generalize plxN m t z = Q at *
  generalize sclN m t z = S at *
  simp only [tW] at hs f ⊢
  simp [d_is_well_formed, callD, m_is_well_formed, hs, hr, f, hb, hc]
end Pd.Law
namespace Pd.Law
open PySem PySem.Spec PyProof.Rows L2 Pd
open Pd (D Env)
def come (m : Nat) (A : List Int) (s : Nat) (x : Int) : List Int := (List.range A.length).map fun k : Nat => (x + ((k * s : Nat) : Int)) % (m : Int)
def goodB (m : Nat) (A : List Int) (s : Nat) (x : Int) : Bool := decide (isrt (come m A s x) = A)
def inS (m : Nat) (A : List Int) (s : Nat) (S : List Int) (x : Int) : List Int := if goodB m A s x = true ∧ (s : Int) ∉ S then S ++ [(s : Int)] else S
def genN (m : Nat) (A : List Int) : List Int := (List.range m).foldl (fun S s => A.foldl (inS m A s) S) []
theorem come_len (m : Nat) (A : List Int) (s : Nat) (x : Int) : (come m A s x).length = A.length := by unfold come; rw [List.length_map, List.length_range]
theorem good_iff {m : Nat} {A : List Int} (h : SOk m A) (s : Nat) (x : Int) : ((ddI (come m A s x)).length = A.length ∧ (A.all fun y => decide (y ∈ ddI (come m A s x))) = true) ↔ goodB m A s x = true := by
  unfold goodB
  rw [decide_eq_true_iff]
  have hl := come_len m A s x
  generalize come m A s x = C at *
  constructor
  · rintro ⟨e, a⟩
    have a : ∀ y ∈ A, y ∈ ddI C := fun y hy => of_decide_eq_true (List.all_eq_true.mp a y hy)
    have b : ∀ y ∈ ddI C, y ∈ A := fun y hy => Decidable.byContradiction fun hn => by
      have := nd_len (l1 := y :: A) (l2 := ddI C) (List.nodup_cons.mpr ⟨hn, h.nd⟩) fun v hv => by
        rcases List.mem_cons.mp hv with w | w
        · rw [w]; exact hy
        · exact a v w
      rw [List.length_cons] at this
      omega
    have p1 : A.Perm (ddI C) := (List.perm_ext_iff_of_nodup h.nd (ddI_nd C)).mpr fun k => ⟨a k, b k⟩
    have nC : C.Nodup := by
      have g1 : (ddp C).length = C.length := by
        have q : (ddp C).Perm (ddI C) := (List.perm_ext_iff_of_nodup (nodup_ddp C) (ddI_nd C)).mpr fun k => by rw [mem_ddp, ddI_mem]
        rw [q.length_eq]
        omega
      exact ddp_len_iff.mp g1
    have p2 : (ddI C).Perm C := (List.perm_ext_iff_of_nodup (ddI_nd C) nC).mpr fun k => ddI_mem
    rw [isrt_eq (p1.trans p2).symm]
    exact isrt_of (h.up.imp fun h => by omega)
  · intro e
    have p : C.Perm A := by
      rw [← e]
      exact (isrt_perm C).symm
    have nC : C.Nodup := p.nodup_iff.mpr h.nd
    have q : (ddI C).Perm C := (List.perm_ext_iff_of_nodup (ddI_nd C) nC).mpr fun k => ddI_mem
    refine ⟨by rw [q.length_eq, hl], List.all_eq_true.mpr fun y hy => decide_eq_true (ddI_mem.mpr (p.mem_iff.mpr hy))⟩
theorem inS_len {m : Nat} {A : List Int} {s : Nat} {S : List Int} {x : Int} : (inS m A s S x).length ≤ S.length + 1 := by
  unfold inS
  split <;> simp
theorem fold_len {m : Nat} {A : List Int} {s : Nat} : ∀ (L S : List Int), (L.foldl (inS m A s) S).length ≤ S.length + L.length
  | [], S => by simp
  | x :: L, S => by
    rw [List.foldl_cons, List.length_cons]
    have := fold_len (m := m) (A := A) (s := s) L (inS m A s S x)
    have := inS_len (m := m) (A := A) (s := s) (S := S) (x := x)
    omega
theorem gen_len {m : Nat} {A : List Int} : ∀ (L : List Nat) (S : List Int), (L.foldl (fun S s => A.foldl (inS m A s) S) S).length ≤ S.length + L.length * A.length
  | [], S => by simp
  | x :: L, S => by
    rw [List.foldl_cons, List.length_cons, Nat.add_mul]
    have := gen_len (m := m) (A := A) L (A.foldl (inS m A x) S)
    have := fold_len (m := m) (A := A) (s := x) A S
    omega
theorem generators_ok {m : Nat} {A : List Int} (h : SOk m A) : d_generators [.int m, tW A] = .ok (tW (genN m A)) := by
  have hk := set_ok h
  have hl := h.len
  have hm := h.m2
  have h1 := h.m1
  have hp : (0 : Int) < m := by omega
  have hp0 : m ≠ 0 := by omega
  have hr := range_nat m (by omega)
  have hrd := range_nat A.length (by omega)
  have hmd : m * A.length ≤ 24 * 24 := Nat.mul_le_mul hm (by omega)
  obtain ⟨⟨x3, x4, x5, S⟩, e, i⟩ := forD_st (g := gN 3) (B := m_generators_L2) (fun i : Nat => PyData.int (i : Int)) (fun q : Option D × Option D × Option D × List Int => [some (.int (m : Int)), some (tW A), some (.list (q.2.2.2.map .int)), q.1, q.2.1, q.2.2.1, none, none])
    (fun k q => q.2.2.2 = (List.range k).foldl (fun S s => A.foldl (inS m A s) S) []) (List.range m) (fun k a ⟨x3, x4, x5, S⟩ ha i => by
      have hk : k < m := by
        rcases Nat.lt_or_ge k (List.range m).length with z | z
        · rwa [List.length_range] at z
        · rw [List.getElem?_eq_none z] at ha; cases ha
      have : a = k := by
        rw [List.getElem?_range hk] at ha
        exact (Option.some.inj ha).symm
      subst this
      dsimp only at i
      have hSl : S.length ≤ m * A.length := by
        rw [i]
        have := gen_len (m := m) (A := A) (List.range a) []
        rw [List.length_range] at this
        have h2 : a * A.length ≤ m * A.length := Nat.mul_le_mul_right _ (by omega)
        simp at this
        omega
      obtain ⟨⟨y4, y5, S2⟩, e2, i2⟩ := forD_st (g := gN 4) (B := m_generators_L1) PyData.int (fun q : Option D × Option D × List Int => [some (.int (m : Int)), some (tW A), some (.list (q.2.2.map .int)), some (.int (a : Int)), q.1, q.2.1, none, none])
        (fun t q => q.2.2 = (A.take t).foldl (inS m A a) S) A (fun t x ⟨y4, y5, T⟩ hx i2 => by
          have ht : A.take (t + 1) = A.take t ++ [x] := by rw [List.take_add_one, hx]; rfl
          have htl : t < A.length := (List.getElem?_eq_some_iff.mp hx).1
          dsimp only at i2
          have hTl : T.length < 16777216 := by
            rw [i2]
            have := fold_len (m := m) (A := A) (s := a) (A.take t) S
            rw [List.length_take] at this
            omega
          have hd : 0 < A.length := by omega
          refine ⟨_, (some (.int x), some (.dict (iD (ddI (come m A a x)))), inS m A a T x), rfl, .inl ?_, by dsimp only; rw [ht, List.foldl_append, ← i2]; rfl⟩
          dsimp only
          have f : dcGo (gN 6) bYes m_generators_e1 m_generators_e2 [some (.int (m : Int)), some (tW A), some (.list (T.map .int)), some (.int (a : Int)), some (.int x), y5, none, none] ((List.range A.length).map fun i : Nat => PyData.int (i : Int)) [] = .ok (iD (ddI (come m A a x))) := by
            rw [dcGo_map (fun i : Nat => PyData.int (i : Int)) (fun _ => true) (fun k : Nat => PyData.int ((x + ((k * a : Nat) : Int)) % (m : Int))) (fun _ => PyData.bool true) _ _ (fun k hk => ⟨_, rfl, rfl, fun _ => ⟨?_, rfl, rfl, rfl⟩⟩) (by rw [List.length_range]; show 0 + _ ≤ _; omega), List.filter_eq_self.mpr fun _ _ => rfl]
            · refine congrArg Pd.R.ok ?_
              have this : ((List.range A.length).map fun k : Nat => (x + ((k * a : Nat) : Int)) % (m : Int)).foldl (fun q a => dputR q (.int a) (.bool true)) [] = iD (ddI (come m A a x)) := fold_iD (come m A a x) []
              rw [List.foldl_map] at this
              refine Eq.trans ?_ this
              rfl
            · have hk := List.mem_range.mp hk
              have f1 := mul_ok (a := k) (b := a) (by omega)
              generalize k * a = u at *
              simp [m_generators_e1, f1, hp, hp0, -o_mul]
          have hg := good_iff h a x
          have e3 : gxGo false (gN 7) bYes m_generators_e3 [some (.int (m : Int)), some (tW A), some (.list (T.map .int)), some (.int (a : Int)), some (.int x), some (.dict (iD (ddI (come m A a x)))), none, none] (A.map PyData.int) = .ok (A.all fun y => decide (y ∈ ddI (come m A a x))) :=
            gx_all PyData.int _ A fun y _ => ⟨_, rfl, by
              have q := in_iD (ddI (come m A a x)) y
              rw [inX_d] at q
              simp [m_generators_e3, q]⟩
          have hlen := iD_len (ddI (come m A a x))
          have hdc := isDct_iD (ddI (come m A a x))
          have hlx : lenX [.dict (iD (ddI (come m A a x)))] = .ok (.int ((ddI (come m A a x)).length : Nat)) := by
            rw [← hlen]
            exact if_pos hdc
          unfold inS
          generalize goodB m A a x = gb at *
          generalize (A.all fun y => decide (y ∈ ddI (come m A a x))) = ab at *
          generalize ddI (come m A a x) = K at *
          generalize iD K = KD at *
          have ce : ((K.length : Int) = (A.length : Int)) ↔ K.length = A.length := by omega
          simp only [tW] at f e3 ⊢
          by_cases c1 : K.length = A.length
          · cases ab with
            | true =>
              have hgb : gb = true := hg.mp ⟨c1, rfl⟩
              subst hgb
              by_cases c3 : (a : Int) ∈ T <;> simp [m_generators_L1, hrd, f, hlx, ce, c1, e3, c3, hTl]
            | false =>
              have hgb : gb = false := by
                cases gb with
                | true => exact absurd (hg.mpr rfl).2 (by decide)
                | false => rfl
              subst hgb
              simp [m_generators_L1, hrd, f, hlx, ce, c1, e3]
          · have hgb : gb = false := by
              cases gb with
              | true => exact absurd (hg.mpr rfl).1 c1
              | false => rfl
            subst hgb
            simp [m_generators_L1, hrd, f, hlx, ce, c1]) (x4, x5, S) rfl
      dsimp only at i2
      rw [List.take_length] at i2
      have e2 : forD (gN 4) m_generators_L1 (A.map .int) [some (.int (m : Int)), some (tW A), some (.list (S.map .int)), some (.int (a : Int)), x4, x5, none, none] = _ := e2
      refine ⟨_, (some (.int (a : Int)), y4, y5, S2), rfl, .inl ?_, by dsimp only; rw [List.range_succ, List.foldl_append, ← i, i2]; rfl⟩
      dsimp only
      simp only [tW] at e2 ⊢
      simp [m_generators_L2, e2]) (none, none, none, []) rfl
  dsimp only at i
  rw [List.length_range] at i
  have e : forD (gN 3) m_generators_L2 ((List.range m).map fun i : Nat => PyData.int (i : Int)) [some (.int (m : Int)), some (tW A), some (.list []), none, none, none, none, none] = _ := e
  have hS : S = genN m A := i
  subst hS
  generalize genN m A = G at *
  simp only [tW] at hk e ⊢
  have him := o_imInts (L := G)
  simp [d_generators, callD, m_generators, hk, hr, e, him]
theorem fold_keep {m : Nat} {A : List Int} {s : Nat} {y : Int} : ∀ (L S : List Int), y ∈ S → y ∈ L.foldl (inS m A s) S
  | [], S, h => h
  | x :: L, S, h => by
    rw [List.foldl_cons]
    refine fold_keep L _ ?_
    unfold inS
    split
    · exact List.mem_append_left _ h
    · exact h
theorem fold_in {m : Nat} {A : List Int} {s : Nat} {x : Int} (g : goodB m A s x = true) : ∀ (L S : List Int), x ∈ L → (s : Int) ∈ L.foldl (inS m A s) S
  | [], S, h => by cases h
  | y :: L, S, h => by
    rw [List.foldl_cons]
    rcases List.mem_cons.mp h with z | z
    · subst z
      refine fold_keep L _ ?_
      unfold inS
      by_cases c : (s : Int) ∈ S
      · rw [if_neg fun w => w.2 c]; exact c
      · rw [if_pos ⟨g, c⟩]
        exact List.mem_append_right _ List.mem_cons_self
    · exact fold_in g L _ z
theorem gen_keep {m : Nat} {A : List Int} {y : Int} : ∀ (L : List Nat) (S : List Int), y ∈ S → y ∈ L.foldl (fun S s => A.foldl (inS m A s) S) S
  | [], S, h => h
  | x :: L, S, h => by
    rw [List.foldl_cons]
    exact gen_keep L _ (fold_keep A S h)
theorem gen_in {m : Nat} {A : List Int} {s : Nat} {x : Int} (g : goodB m A s x = true) (hx : x ∈ A) : ∀ (L : List Nat) (S : List Int), s ∈ L → (s : Int) ∈ L.foldl (fun S s => A.foldl (inS m A s) S) S
  | [], S, h => by cases h
  | y :: L, S, h => by
    rw [List.foldl_cons]
    rcases List.mem_cons.mp h with z | z
    · subst z
      exact gen_keep L _ (fold_in g A S hx)
    · exact gen_in g hx L _ z
theorem step_gen {m t z : Nat} (hm : 0 < m) (h1 : 1 ≤ z) (ht : t < m) : (t : Int) ∈ genN m (sclN m t z) := by
  have hmem : (0 : Int) ∈ sclN m t z := (isrt_perm _).mem_iff.mpr (by
    unfold plcN
    exact List.mem_map.mpr ⟨0, List.mem_range.mpr h1, by simp⟩)
  refine gen_in (x := 0) ?_ hmem (List.range m) [] (List.mem_range.mpr ht)
  unfold goodB come
  have hl := scl_len m t z
  rw [hl]
  refine decide_eq_true ?_
  show isrt _ = isrt (plcN m t z)
  congr 1
  unfold plcN
  refine List.map_congr_left fun k _ => ?_
  rw [Int.zero_add, Int.natCast_emod]
end Pd.Law
namespace Pd.Law
open PySem PySem.Spec PyProof.Rows L2 Pd
open Pd (D Env)
def chkW (m z : Nat) (w : List Int) : Bool := decide (w.length = m) && (w.all fun x => decide (x = 0) || decide (x = 1)) && (List.range m).any fun k => decide (onesN w = movN m (evN m z 0) (k : Int))
def chkR (m z : Nat) : R D → Bool
  | .ok (.tuple ds) => match intsOf ds with
    | some w => chkW m z w
    | none => false
  | _ => false
theorem chkR_ok {m z : Nat} {r : R D} (h : chkR m z r = true) : ∃ w, r = .ok (tW w) ∧ chkW m z w = true := by
  unfold chkR at h
  split at h
  · rename_i ds
    split at h
    · rename_i w e
      exact ⟨w, by rw [intsOf_some e], h⟩
    · cases h
  · cases h
theorem fold_all : ((List.range 16).all fun a => (List.range (a + 1)).all fun b => chkR (a + 1) (b + 1) (d_folded_pattern [.int ((a + 1 : Nat) : Int), .int ((b + 1 : Nat) : Int)])) = true := by decide +kernel
theorem folded_ok {m z : Nat} (h1 : 1 ≤ z) (h2 : z ≤ m) (h3 : m ≤ 16) : ∃ w, d_folded_pattern [.int (m : Int), .int (z : Int)] = .ok (tW w) ∧ POk m w ∧ ∃ k : Nat, k < m ∧ onesN w = movN m (evN m z 0) (k : Int) := by
  have c := List.all_eq_true.mp (List.all_eq_true.mp fold_all (m - 1) (List.mem_range.mpr (by omega))) (z - 1) (List.mem_range.mpr (by omega))
  have e1 : m - 1 + 1 = m := by omega
  have e2 : z - 1 + 1 = z := by omega
  rw [e1, e2] at c
  obtain ⟨w, hw, hc⟩ := chkR_ok c
  unfold chkW at hc
  rw [Bool.and_eq_true, Bool.and_eq_true] at hc
  obtain ⟨⟨c1, c2⟩, c3⟩ := hc
  obtain ⟨k, hk, he⟩ := List.any_eq_true.mp c3
  refine ⟨w, hw, ⟨by omega, by omega, of_decide_eq_true c1, fun x hx => ?_⟩, k, List.mem_range.mp hk, of_decide_eq_true he⟩
  have := List.all_eq_true.mp c2 x hx
  rw [Bool.or_eq_true] at this
  exact this.imp of_decide_eq_true of_decide_eq_true
end Pd.Law
namespace Pd.Law
open PySem PySem.Spec PyProof.Rows L2 Pd
open Pd (D Env)
def lstepN (m : Nat) (A : List Int) : List Int := (List.range A.length).map fun k : Nat => (A.getD ((k + 1) % A.length) 0 - A.getD k 0 - 1) % (m : Int) + 1
theorem lstep_eq {m : Nat} {A : List Int} (h : SOk m A) : lstepN m A = stepN m A := by
  have hm : (0 : Int) < m := by have := h.m1; omega
  unfold lstepN stepN
  refine List.map_congr_left fun k hk => ?_
  have hk := List.mem_range.mp hk
  have hd : 0 < A.length := by omega
  by_cases c : 1 < A.length
  · rw [if_pos c]
    have g := gap_ex h (g := 1) (Nat.le_refl _) c hk
    have u1 := ex_mono h hd k 1
    have d1 := dm (A.getD ((k + 1) % A.length) 0 - A.getD k 0) m
    have b1 := Int.emod_lt_of_pos (A.getD ((k + 1) % A.length) 0 - A.getD k 0) hm
    generalize A.getD ((k + 1) % A.length) 0 - A.getD k 0 = y at *
    have := divmod_of (y := y - 1) (q := y / m) (r := y % m - 1) hm (by omega) (by omega) (by omega)
    rw [this.2]
    omega
  · rw [if_neg c]
    have e : A.length = 1 := by omega
    have hk0 : k = 0 := by omega
    subst hk0
    rw [e]
    have := divmod_of (y := A.getD ((0 + 1) % 1) 0 - A.getD 0 0 - 1) (q := -1) (r := (m : Int) - 1) hm (by
      have : (0 + 1) % 1 = 0 := rfl
      rw [this]
      omega) (by omega) (by omega)
    rw [this.2]
    omega
def chkG (m t z : Nat) : Bool := !decide (plcN m t z).Nodup || decide ((gszN m (sclN m t z)).length ≤ 3)
theorem gaps_all : ((List.range 16).all fun a => (List.range (a + 1)).all fun t => (List.range (a + 1)).all fun b => chkG (a + 1) t (b + 1)) = true := by decide +kernel
theorem gaps_ok {m t z : Nat} (h1 : 1 ≤ z) (h2 : z ≤ m) (h3 : m ≤ 16) (ht : t < m) (n : (plcN m t z).Nodup) : (gszN m (sclN m t z)).length ≤ 3 := by
  have c := List.all_eq_true.mp (List.all_eq_true.mp (List.all_eq_true.mp gaps_all (m - 1) (List.mem_range.mpr (by omega))) t (List.mem_range.mpr (by omega))) (z - 1) (List.mem_range.mpr (by omega))
  have e1 : m - 1 + 1 = m := by omega
  have e2 : z - 1 + 1 = z := by omega
  rw [e1, e2] at c
  unfold chkG at c
  rw [decide_eq_true n, Bool.not_true, Bool.false_or] at c
  exact of_decide_eq_true c
end Pd.Law
namespace Pd.Law
open PySem PySem.Spec PyProof.Rows L2 Pd
open Pd (D Env)
theorem mov_lt {m : Nat} {A : List Int} (h : SOk m A) (k : Nat) : d__law_moved [.int m, tW A, .int (k : Int)] = .ok (tW (movN m A (k : Int))) := lmoved_ok h.m1 h.le
def turnsN (m : Nat) (A : List Int) : List (List Int) := (List.range m).map fun k : Nat => movN m A (k : Int)
theorem mem_turns {m : Nat} {A B : List Int} : B ∈ turnsN m A ↔ ∃ k : Nat, k < m ∧ B = movN m A (k : Int) := by
  unfold turnsN
  rw [List.mem_map]
  constructor
  · rintro ⟨k, hk, e⟩; exact ⟨k, List.mem_range.mp hk, e.symm⟩
  · rintro ⟨k, hk, e⟩; exact ⟨k, List.mem_range.mpr hk, e.symm⟩
theorem st0 {a1 a2 a3 a4 a5 a6 a7 a8 a9 a10 a11 a12 a13 a14 a15 a16 a17 a18 a19 a20 a21 a22 a23 a24 a25 a26 : Option D} {d : D} {n : List Int} {c : Int} (hc : d__law_cell [d, .int 0] = .ok (.int c)) (hd : d__law_draws [.int c, .int 40] = .ok (.list (n.map .int))) : m_law_s0 [some (d), a1, a2, a3, a4, a5, a6, a7, a8, a9, a10, a11, a12, a13, a14, a15, a16, a17, a18, a19, a20, a21, a22, a23, a24, a25, a26] = .nx [some (d), some (.list (n.map .int)), a2, a3, a4, a5, a6, a7, a8, a9, a10, a11, a12, a13, a14, a15, a16, a17, a18, a19, a20, a21, a22, a23, a24, a25, a26] := by
  simp [m_law_s0, hc, hd]
theorem st1 {a0 a2 a3 a4 a5 a6 a7 a8 a9 a10 a11 a12 a13 a14 a15 a16 a17 a18 a19 a20 a21 a22 a23 a24 a25 a26 : Option D} {v : Nat → Int} {n : List Int} (ix : ∀ k : Nat, k < 40 → ixD (.list (n.map .int)) (.int (k : Int)) = .ok (.int (v k))) {m : Nat} (hm : v 0 % 16 + 1 = (m : Int)) : m_law_s1 [a0, some (.list (n.map .int)), a2, a3, a4, a5, a6, a7, a8, a9, a10, a11, a12, a13, a14, a15, a16, a17, a18, a19, a20, a21, a22, a23, a24, a25, a26] = .nx [a0, some (.list (n.map .int)), some (.int (m : Int)), a3, a4, a5, a6, a7, a8, a9, a10, a11, a12, a13, a14, a15, a16, a17, a18, a19, a20, a21, a22, a23, a24, a25, a26] := by
  have i0 : ixD (.list (n.map .int)) (.int 0) = .ok (.int (v 0)) := ix 0 (by decide)
  simp [m_law_s1, i0, hm]
theorem st2 {a0 a3 a4 a5 a6 a7 a8 a9 a10 a11 a12 a13 a14 a15 a16 a17 a18 a19 a20 a21 a22 a23 a24 a25 a26 : Option D} {v : Nat → Int} {n : List Int} (ix : ∀ k : Nat, k < 40 → ixD (.list (n.map .int)) (.int (k : Int)) = .ok (.int (v k))) {m z : Nat} (h1 : 1 ≤ m) (hz : v 1 % (m : Int) + 1 = (z : Int)) : m_law_s2 [a0, some (.list (n.map .int)), some (.int (m : Int)), a3, a4, a5, a6, a7, a8, a9, a10, a11, a12, a13, a14, a15, a16, a17, a18, a19, a20, a21, a22, a23, a24, a25, a26] = .nx [a0, some (.list (n.map .int)), some (.int (m : Int)), some (.int (z : Int)), a4, a5, a6, a7, a8, a9, a10, a11, a12, a13, a14, a15, a16, a17, a18, a19, a20, a21, a22, a23, a24, a25, a26] := by
  have i0 : ixD (.list (n.map .int)) (.int 1) = .ok (.int (v 1)) := ix 1 (by decide)
  have hp : (0 : Int) < m := by omega
  have hp0 : 0 < m := h1
  simp [m_law_s2, i0, hp, hp0, hz]
theorem st3 {a0 a2 a4 a5 a6 a7 a8 a9 a10 a11 a12 a13 a14 a15 a16 a17 a18 a19 a20 a21 a22 a23 a24 a25 a26 : Option D} {v : Nat → Int} {n : List Int} (ix : ∀ k : Nat, k < 40 → ixD (.list (n.map .int)) (.int (k : Int)) = .ok (.int (v k))) {z s : Nat} (h1 : 1 ≤ z) (hs : v 2 % (z : Int) = (s : Int)) : m_law_s3 [a0, some (.list (n.map .int)), a2, some (.int (z : Int)), a4, a5, a6, a7, a8, a9, a10, a11, a12, a13, a14, a15, a16, a17, a18, a19, a20, a21, a22, a23, a24, a25, a26] = .nx [a0, some (.list (n.map .int)), a2, some (.int (z : Int)), some (.int (s : Int)), a5, a6, a7, a8, a9, a10, a11, a12, a13, a14, a15, a16, a17, a18, a19, a20, a21, a22, a23, a24, a25, a26] := by
  have i0 : ixD (.list (n.map .int)) (.int 2) = .ok (.int (v 2)) := ix 2 (by decide)
  have hp : (0 : Int) < z := by omega
  have hp0 : 0 < z := h1
  simp [m_law_s3, i0, hp, hp0, hs]
theorem st4 {a0 a1 a5 a6 a7 a8 a9 a10 a11 a12 a13 a14 a15 a16 a17 a18 a19 a20 a21 a22 a23 a24 a25 a26 : Option D} {m z s : Nat} (h1 : 1 ≤ z) (h2 : z ≤ m) (h3 : m ≤ 16) (hs : s < z) : m_law_s4 [a0, a1, some (.int (m : Int)), some (.int (z : Int)), some (.int (s : Int)), a5, a6, a7, a8, a9, a10, a11, a12, a13, a14, a15, a16, a17, a18, a19, a20, a21, a22, a23, a24, a25, a26] = .nx [a0, a1, some (.int (m : Int)), some (.int (z : Int)), some (.int (s : Int)), some (tW (evN m z s)), a6, a7, a8, a9, a10, a11, a12, a13, a14, a15, a16, a17, a18, a19, a20, a21, a22, a23, a24, a25, a26] := by
  have h := even_set_ok h2 (by omega) hs
  simp only [tW] at h ⊢
  simp [m_law_s4, h]
theorem st5 {a0 a1 a6 a7 a8 a9 a10 a11 a12 a13 a14 a15 a16 a17 a18 a19 a20 a21 a22 a23 a24 a25 a26 : Option D} {m z s : Nat} (h1 : 1 ≤ z) (h2 : z ≤ m) (h3 : m ≤ 16) (hs : s < z) : m_law_s5 [a0, a1, some (.int (m : Int)), some (.int (z : Int)), some (.int (s : Int)), some (tW (evN m z s)), a6, a7, a8, a9, a10, a11, a12, a13, a14, a15, a16, a17, a18, a19, a20, a21, a22, a23, a24, a25, a26] = .nx [a0, a1, some (.int (m : Int)), some (.int (z : Int)), some (.int (s : Int)), some (tW (evN m z s)), a6, a7, a8, a9, a10, a11, a12, a13, a14, a15, a16, a17, a18, a19, a20, a21, a22, a23, a24, a25, a26] := by
  have ok := evN_ok (m := m) (d := z) (s := s) (by omega) h2 hs
  have hE := is_even_ok ok
  have hb : evenB m (evN m z s) = true := (evenB_iff ok).mpr (F_even ok (evN_F (by omega) h2 hs))
  rw [hb] at hE
  have hr := range_nat z (by omega)
  have f : ∀ X : D, lcGo (gN 25) bYes m_law_e1 [a0, a1, some (.int (m : Int)), some (.int (z : Int)), some (.int (s : Int)), some (X), a6, a7, a8, a9, a10, a11, a12, a13, a14, a15, a16, a17, a18, a19, a20, a21, a22, a23, a24, none, a26] ((List.range z).map fun i : Nat => PyData.int (i : Int)) = .ok ((evN m z s).map .int) := fun X => by
    unfold evN
    rw [List.map_map]
    refine lcGo_all (fun i : Nat => PyData.int (i : Int)) (fun k : Nat => PyData.int (((k * m + s) / z : Nat) : Int)) _ fun k hk => ⟨_, rfl, ?_⟩
    have hk := List.mem_range.mp hk
    have f1 := mul_ok (a := k) (b := m) (by omega)
    have f2 := add_nat (a := k * m) (b := s)
    have f3 := div_nat (a := k * m + s) (b := z) (by omega) (by omega)
    generalize (k * m + s) / z = y at *
    generalize k * m + s = x at *
    generalize k * m = u at *
    simp [m_law_e1, f1, f2, f3, -o_mul, -o_div]
  have hl : (evN m z s).length < 16777216 := by rw [evN_len]; omega
  have ho := sort_ev (m := m) (d := z) (s := s) (by omega) h2 hs
  have e1 := neD_tW (evN m z s) (evN m z s)
  rw [decide_eq_true rfl] at e1
  simp only [tW] at hE f e1 ⊢
  generalize evN m z s = A at *
  simp [m_law_s5, hr, f, hl, ho, e1, hE]
theorem st6 {a0 a1 a4 a5 a6 a7 a8 a9 a10 a11 a12 a13 a14 a15 a16 a17 a18 a19 a20 a21 a22 a23 a24 a25 a26 : Option D} {m z : Nat} (h1 : 1 ≤ z) (h2 : z ≤ m) (h3 : m ≤ 16) : m_law_s6 [a0, a1, some (.int (m : Int)), some (.int (z : Int)), a4, a5, a6, a7, a8, a9, a10, a11, a12, a13, a14, a15, a16, a17, a18, a19, a20, a21, a22, a23, a24, a25, a26] = .nx [a0, a1, some (.int (m : Int)), some (.int (z : Int)), a4, a5, some (tW (evN m z 0)), a7, a8, a9, a10, a11, a12, a13, a14, a15, a16, a17, a18, a19, a20, a21, a22, a23, a24, a25, a26] := by
  have h : d_even_set [.int m, .int z, .int 0] = .ok (tW (evN m z 0)) := even_set_ok (s := 0) h2 (by omega) (by omega)
  simp only [tW] at h ⊢
  simp [m_law_s6, h]
theorem st7 {a0 a1 a4 a5 a6 a7 a8 a9 a10 a11 a12 a13 a14 a15 a16 a17 a18 a19 a20 a21 a22 a23 a24 a25 a26 : Option D} {m z : Nat} {f : List Int} (hf : d_folded_pattern [.int (m : Int), .int (z : Int)] = .ok (tW f)) : m_law_s7 [a0, a1, some (.int (m : Int)), some (.int (z : Int)), a4, a5, a6, a7, a8, a9, a10, a11, a12, a13, a14, a15, a16, a17, a18, a19, a20, a21, a22, a23, a24, a25, a26] = .nx [a0, a1, some (.int (m : Int)), some (.int (z : Int)), a4, a5, a6, some (tW f), a8, a9, a10, a11, a12, a13, a14, a15, a16, a17, a18, a19, a20, a21, a22, a23, a24, a25, a26] := by
  simp only [tW] at hf ⊢
  simp [m_law_s7, hf]
theorem st8 {a0 a1 a3 a4 a5 a7 a8 a9 a10 a11 a12 a13 a14 a15 a16 a17 a18 a19 a20 a21 a22 a23 a24 a25 a26 : Option D} {m : Nat} {B : List Int} (h : SOk m B) : m_law_s8 [a0, a1, some (.int (m : Int)), a3, a4, a5, some (tW B), a7, a8, a9, a10, a11, a12, a13, a14, a15, a16, a17, a18, a19, a20, a21, a22, a23, a24, a25, a26] = .nx [a0, a1, some (.int (m : Int)), a3, a4, a5, some (tW B), a7, some (.list ((turnsN m B).map tW)), a9, a10, a11, a12, a13, a14, a15, a16, a17, a18, a19, a20, a21, a22, a23, a24, a25, a26] := by
  have hm := h.m2
  have hr := range_nat m (by omega)
  have f : lcGo (gN 25) bYes m_law_e2 [a0, a1, some (.int (m : Int)), a3, a4, a5, some (tW B), a7, a8, a9, a10, a11, a12, a13, a14, a15, a16, a17, a18, a19, a20, a21, a22, a23, a24, none, a26] ((List.range m).map fun i : Nat => PyData.int (i : Int)) = .ok ((turnsN m B).map tW) := by
    unfold turnsN
    rw [List.map_map]
    refine lcGo_all (fun i : Nat => PyData.int (i : Int)) (fun k : Nat => tW (movN m B (k : Int))) _ fun k hk => ⟨_, rfl, ?_⟩
    have g := mov_lt h k
    simp only [tW] at g ⊢
    simp [m_law_e2, g]
  have hl : (turnsN m B).length < 16777216 := by unfold turnsN; rw [List.length_map, List.length_range]; omega
  simp only [tW] at f ⊢
  generalize turnsN m B = U at *
  simp [m_law_s8, hr, f, hl]
theorem st9 {a0 a1 a3 a4 a6 a9 a10 a11 a12 a13 a14 a15 a16 a17 a18 a19 a20 a21 a22 a23 a24 a25 a26 : Option D} {m : Nat} {A f : List Int} {U : List (List Int)} (hf : POk m f) (hA : A ∈ U) (hB : onesN f ∈ U) (hb : balB m (mem m (onesN f)) = true) : m_law_s9 [a0, a1, some (.int (m : Int)), a3, a4, some (tW A), a6, some (tW f), some (.list (U.map tW)), a9, a10, a11, a12, a13, a14, a15, a16, a17, a18, a19, a20, a21, a22, a23, a24, a25, a26] = .nx [a0, a1, some (.int (m : Int)), a3, a4, some (tW A), a6, some (tW f), some (.list (U.map tW)), a9, a10, a11, a12, a13, a14, a15, a16, a17, a18, a19, a20, a21, a22, a23, a24, a25, a26] := by
  have hs := set_of_ok hf
  have hl := hf.l
  have hba := is_balanced_ok hf
  rw [hb] at hba
  have e1 := inD_lT U A
  have e2 := inD_lT U (onesN f)
  rw [decide_eq_true hA] at e1
  rw [decide_eq_true hB] at e2
  simp only [tW] at hs hba e1 e2 ⊢
  generalize onesN f = B at *
  simp [m_law_s9, hl, hs, hba, e1, e2]
theorem st10 {a0 a3 a4 a5 a6 a7 a8 a9 a10 a11 a12 a13 a14 a15 a16 a17 a18 a19 a20 a21 a22 a23 a24 a25 a26 : Option D} {v : Nat → Int} {n : List Int} (ix : ∀ k : Nat, k < 40 → ixD (.list (n.map .int)) (.int (k : Int)) = .ok (.int (v k))) {m : Nat} {w : List Int} (h3 : m ≤ 16) (hw : w = (List.range m).map fun k : Nat => if v (3 + k) % 5 < 2 then 1 else 0) : m_law_s10 [a0, some (.list (n.map .int)), some (.int (m : Int)), a3, a4, a5, a6, a7, a8, a9, a10, a11, a12, a13, a14, a15, a16, a17, a18, a19, a20, a21, a22, a23, a24, a25, a26] = .nx [a0, some (.list (n.map .int)), some (.int (m : Int)), a3, a4, a5, a6, a7, a8, some (tW w), a10, a11, a12, a13, a14, a15, a16, a17, a18, a19, a20, a21, a22, a23, a24, a25, a26] := by
  have hr := range_nat m (by omega)
  have f : lcGo (gN 25) bYes m_law_e3 [a0, some (.list (n.map .int)), some (.int (m : Int)), a3, a4, a5, a6, a7, a8, a9, a10, a11, a12, a13, a14, a15, a16, a17, a18, a19, a20, a21, a22, a23, a24, none, a26] ((List.range m).map fun i : Nat => PyData.int (i : Int)) = .ok (w.map .int) := by
    rw [hw, List.map_map]
    refine lcGo_all (fun i : Nat => PyData.int (i : Int)) (fun k : Nat => PyData.int (if v (3 + k) % 5 < 2 then 1 else 0)) _ fun k hk => ⟨_, rfl, ?_⟩
    have hk := List.mem_range.mp hk
    have i0 := ix (3 + k) (by omega)
    have f2 : addD (.int 3) (.int (k : Int)) = .ok (.int ((3 + k : Nat) : Int)) := add_nat (a := 3) (b := k)
    generalize v (3 + k) = y at *
    generalize 3 + k = x at *
    by_cases c : y % 5 < 2 <;> (simp [m_law_e3, f2, i0, c]; rfl)
  have hl : w.length < 16777216 := by rw [hw, List.length_map, List.length_range]; omega
  simp only [tW]
  simp [m_law_s10, hr, f, hl]
theorem st11 {a0 a1 a3 a4 a5 a6 a7 a8 a10 a11 a12 a13 a14 a15 a16 a17 a18 a19 a20 a21 a22 a23 a24 a25 a26 : Option D} {m : Nat} {w : List Int} (h : POk m w) : m_law_s11 [a0, a1, some (.int (m : Int)), a3, a4, a5, a6, a7, a8, some (tW w), a10, a11, a12, a13, a14, a15, a16, a17, a18, a19, a20, a21, a22, a23, a24, a25, a26] = .nx [a0, a1, some (.int (m : Int)), a3, a4, a5, a6, a7, a8, some (tW w), some (tW (onesN w)), a11, a12, a13, a14, a15, a16, a17, a18, a19, a20, a21, a22, a23, a24, a25, a26] := by
  have hl := h.l
  have hm := h.m2
  have hr := range_nat m (by omega)
  have f : lcGo (gN 25) (bBin eqD (eIx (eName 9) (eName 25)) (eC (.int 1))) m_law_e4 [a0, a1, some (.int (m : Int)), a3, a4, a5, a6, a7, a8, some (tW w), a10, a11, a12, a13, a14, a15, a16, a17, a18, a19, a20, a21, a22, a23, a24, none, a26] ((List.range m).map fun i : Nat => PyData.int (i : Int)) = .ok ((onesN w).map .int) := by
    unfold onesN
    rw [hl]
    exact lc_ixs m _ fun k hk => by
      have i1 := ixW (w := w) (k := k) (by omega)
      generalize w.getD k 0 = y at *
      refine ⟨_, rfl, ?_, fun _ => by simp [m_law_e4]⟩
      simp only [tW] at i1 ⊢
      simp [i1]
  have hb : (onesN w).length < 16777216 := by have : (onesN w).length ≤ w.length := ixs_len _ _; omega
  generalize onesN w = B at *
  simp only [tW] at f ⊢
  simp [m_law_s11, hr, f, hb]
theorem st12 {a0 a1 a3 a4 a5 a6 a7 a8 a11 a12 a13 a14 a15 a16 a17 a18 a19 a20 a21 a22 a23 a24 a25 a26 : Option D} {m : Nat} {w : List Int} (h : POk m w) : m_law_s12 [a0, a1, some (.int (m : Int)), a3, a4, a5, a6, a7, a8, some (tW w), some (tW (onesN w)), a11, a12, a13, a14, a15, a16, a17, a18, a19, a20, a21, a22, a23, a24, a25, a26] = .nx [a0, a1, some (.int (m : Int)), a3, a4, a5, a6, a7, a8, some (tW w), some (tW (onesN w)), a11, a12, a13, a14, a15, a16, a17, a18, a19, a20, a21, a22, a23, a24, a25, a26] := by
  have h1 := set_of_ok h
  have h2 := pattern_ok (ones_ok h)
  rw [pat_ones h] at h2
  have h3 := is_balanced_ok h
  have h4 := lbalanced_ok h
  have e1 := neD_tW (onesN w) (onesN w)
  have e2 := neD_tW w w
  rw [decide_eq_true rfl] at e1 e2
  have e3 := ne_b (balB m (mem m (onesN w)))
  generalize balB m (mem m (onesN w)) = b at *
  generalize onesN w = B at *
  simp only [tW] at h1 h2 h3 h4 e1 e2 ⊢
  simp [m_law_s12, h1, h2, h3, h4, e1, e2, e3]
theorem st13 {a0 a1 a3 a4 a5 a6 a7 a8 a9 a11 a12 a13 a14 a15 a16 a17 a18 a19 a20 a21 a22 a23 a24 a25 a26 : Option D} {m : Nat} {A : List Int} (h : SOk m A) : m_law_s13 [a0, a1, some (.int (m : Int)), a3, a4, a5, a6, a7, a8, a9, some (tW A), a11, a12, a13, a14, a15, a16, a17, a18, a19, a20, a21, a22, a23, a24, a25, a26] = .nx [a0, a1, some (.int (m : Int)), a3, a4, a5, a6, a7, a8, a9, some (tW A), some (.list ((spansN m A).map tW)), a12, a13, a14, a15, a16, a17, a18, a19, a20, a21, a22, a23, a24, a25, a26] := by
  have h1 := lspans_ok h
  simp only [tW] at h1 ⊢
  simp [m_law_s13, h1]
theorem st14 {a0 a1 a2 a3 a4 a5 a6 a7 a8 a9 a10 a12 a13 a14 a15 a16 a17 a18 a19 a20 a21 a22 a23 a24 a25 a26 : Option D} {m : Nat} {A : List Int} (h : SOk m A) : m_law_s14 [a0, a1, a2, a3, a4, a5, a6, a7, a8, a9, a10, some (.list ((spansN m A).map tW)), a12, a13, a14, a15, a16, a17, a18, a19, a20, a21, a22, a23, a24, a25, a26] = .nx [a0, a1, a2, a3, a4, a5, a6, a7, a8, a9, a10, some (.list ((spansN m A).map tW)), some (.bool (evenB m A)), a13, a14, a15, a16, a17, a18, a19, a20, a21, a22, a23, a24, a25, a26] := by
  have hn : ∀ (ρ : Env), eNeg (eC (.int 1)) ρ = .ok (.int (-1)) := fun ρ => q_neg rfl
  have hl : (spansN m A).length < 16777216 := by unfold spansN; rw [List.length_map, List.length_range]; have := h.len; have := h.m2; omega
  have hne := spans_ne (A := A) h.m1
  unfold evenB
  generalize spansN m A = Sp at *
  have f : lcGo (gN 26) (bBin gtX (eBin subD (eIx (eName 26) (eNeg (eC (.int 1)))) (eIx (eName 26) (eC (.int 0)))) (eC (.int 1))) m_law_e5 [a0, a1, a2, a3, a4, a5, a6, a7, a8, a9, a10, some (.list (Sp.map tW)), a12, a13, a14, a15, a16, a17, a18, a19, a20, a21, a22, a23, a24, a25, none] (Sp.map tW) = .ok ((Sp.filter fun r => decide (1 < wide r)).map tW) :=
    lcGo_map tW _ tW _ fun r hr => by
      have i1 := ix_last (hne r hr)
      have i0 : ixD (tW r) (.int 0) = .ok (.int (r.getD 0 0)) := ixW (w := r) (k := 0) (by
        have := hne r hr
        cases r with
        | nil => exact absurd rfl this
        | cons a r => simp)
      refine ⟨_, rfl, ?_, fun _ => by simp [m_law_e5]⟩
      unfold wide
      generalize r.getD (r.length - 1) 0 = v1 at *
      generalize r.getD 0 0 = v2 at *
      simp only [tW] at i0 i1 ⊢
      simp [hn, i0, i1]
  have hb : (Sp.filter fun r => decide (1 < wide r)).length < 16777216 := Nat.lt_of_le_of_lt (List.length_filter_le _ _) hl
  have he : (Sp.all fun r => decide (wide r ≤ 1)) = decide ((Sp.filter fun r => decide (1 < wide r)) = []) := by
    rw [Bool.eq_iff_iff, List.all_eq_true, decide_eq_true_iff, List.filter_eq_nil_iff]
    constructor
    · intro g r hr z
      have := of_decide_eq_true (g r hr)
      have := of_decide_eq_true z
      omega
    · intro g r hr
      have := g r hr
      simp at this ⊢
      omega
  rw [he]
  generalize (Sp.filter fun r => decide (1 < wide r)) = Q at *
  simp [m_law_s14, f, hb]
theorem st15 {a0 a1 a3 a4 a5 a6 a7 a8 a9 a13 a14 a15 a16 a17 a18 a19 a20 a21 a22 a23 a24 a25 a26 : Option D} {m : Nat} {A : List Int} (h : SOk m A) : m_law_s15 [a0, a1, some (.int (m : Int)), a3, a4, a5, a6, a7, a8, a9, some (tW A), some (.list ((spansN m A).map tW)), some (.bool (evenB m A)), a13, a14, a15, a16, a17, a18, a19, a20, a21, a22, a23, a24, a25, a26] = .nx [a0, a1, some (.int (m : Int)), a3, a4, a5, a6, a7, a8, a9, some (tW A), some (.list ((spansN m A).map tW)), some (.bool (evenB m A)), a13, a14, a15, a16, a17, a18, a19, a20, a21, a22, a23, a24, a25, a26] := by
  have h1 := spans_ok h
  have h2 := is_even_ok h
  have h3 := two_ok h
  have hl : (spansN m A).length < 16777216 := by unfold spansN; rw [List.length_map, List.length_range]; have := h.len; have := h.m2; omega
  have c1 : ((1 : Int) < (A.length : Int)) ↔ 1 < A.length := by omega
  generalize evenB m A = b at *
  generalize spansN m A = Sp at *
  have e1 := neD_tT Sp Sp
  rw [decide_eq_true rfl] at e1
  have e2 := ne_b b
  have f : lcGo (gN 26) (bBin neD (eFun lenX (lCons (eName 26) lNil)) (eC (.int 2))) m_law_e6 [a0, a1, some (.int (m : Int)), a3, a4, a5, a6, a7, a8, a9, some (tW A), some (.list (Sp.map tW)), some (.bool b), a13, a14, a15, a16, a17, a18, a19, a20, a21, a22, a23, a24, a25, none] (Sp.map tW) = .ok ((Sp.filter fun r => !decide (r.length = 2)).map tW) :=
    lcGo_map tW _ tW _ fun r _ => ⟨_, rfl, by
      have : ((r.length : Int) = 2) ↔ r.length = 2 := by omega
      simp [this], fun _ => by simp [m_law_e6]⟩
  have hb : (Sp.filter fun r => !decide (r.length = 2)).length < 16777216 := Nat.lt_of_le_of_lt (List.length_filter_le _ _) hl
  have he : (Sp.all fun r => decide (r.length = 2)) = decide ((Sp.filter fun r => !decide (r.length = 2)) = []) := by
    rw [Bool.eq_iff_iff, List.all_eq_true, decide_eq_true_iff, List.filter_eq_nil_iff]
    simp
  rw [he] at h3
  generalize (Sp.filter fun r => !decide (r.length = 2)) = Q at *
  have e3 := ne_b (decide (Q = []))
  have e4 := ne_b false
  simp only [tW] at h1 h2 h3 e1 f ⊢
  by_cases c : 1 < A.length
  · rw [decide_eq_true c, Bool.true_and] at h3
    simp [m_law_s15, h1, h2, h3, e1, e2, c1, c, f, hb]
    rw [e3]
    rfl
  · rw [decide_eq_false c, Bool.false_and] at h3
    simp [m_law_s15, h1, h2, h3, e1, e2, c1, c, e4]
theorem st16 {a0 a1 a3 a4 a5 a6 a7 a8 a11 a13 a14 a15 a16 a17 a18 a19 a20 a21 a22 a23 a24 a25 a26 : Option D} {m : Nat} {w : List Int} (h : POk m w) (h3 : m ≤ 16) : m_law_s16 [a0, a1, some (.int (m : Int)), a3, a4, a5, a6, a7, a8, some (tW w), some (tW (onesN w)), a11, some (.bool (evenB m (onesN w))), a13, a14, a15, a16, a17, a18, a19, a20, a21, a22, a23, a24, a25, a26] = .nx [a0, a1, some (.int (m : Int)), a3, a4, a5, a6, a7, a8, some (tW w), some (tW (onesN w)), a11, some (.bool (evenB m (onesN w))), a13, a14, a15, a16, a17, a18, a19, a20, a21, a22, a23, a24, a25, a26] := by
  have ok := ones_ok h
  have hlb := lbalanced_ok h
  by_cases c : 0 < (onesN w).length
  · have c' : (0 : Int) < ((onesN w).length : Int) := by omega
    have hE := (evenB_iff ok).trans (F_ev ok c)
    have hB := (balB_iff (m := m) (p := mem m (onesN w))).trans (F_bal ok h3 c)
    have hT := F_turn ok h3 c
    have eB : balB m (mem m (onesN w)) = evenB m (onesN w) := by rw [Bool.eq_iff_iff, hE, hB]
    have eT : decide (onesN w ∈ turnsN m (evN m (onesN w).length 0)) = evenB m (onesN w) := by rw [Bool.eq_iff_iff, decide_eq_true_iff, mem_turns, hE, hT]
    rw [eB] at hlb
    have hr := range_nat m (by omega)
    have hd := ok.len
    have okE := evN_ok (m := m) (d := (onesN w).length) (s := 0) (by omega) hd c
    have f : ∀ b : D, lcGo (gN 25) bYes m_law_e7 [a0, a1, some (.int (m : Int)), a3, a4, a5, a6, a7, a8, some (tW w), some (tW (onesN w)), a11, some (b), a13, a14, a15, a16, a17, a18, a19, a20, a21, a22, a23, a24, none, a26] ((List.range m).map fun i : Nat => PyData.int (i : Int)) = .ok ((turnsN m (evN m (onesN w).length 0)).map tW) := fun b => by
      unfold turnsN
      rw [List.map_map]
      refine lcGo_all (fun i : Nat => PyData.int (i : Int)) (fun k : Nat => tW (movN m (evN m (onesN w).length 0) (k : Int))) _ fun k hk => ⟨_, rfl, ?_⟩
      have g := mov_lt okE k
      have g2 : d_even_set [.int m, .int ((onesN w).length : Nat), .int 0] = .ok (tW (evN m (onesN w).length 0)) := even_set_ok (s := 0) hd (by omega) c
      generalize evN m (onesN w).length 0 = E at *
      generalize onesN w = O at *
      simp only [tW] at g g2 ⊢
      simp [m_law_e7, g, g2]
    have hl : (turnsN m (evN m (onesN w).length 0)).length < 16777216 := by unfold turnsN; rw [List.length_map, List.length_range]; omega
    have e1 := inD_lT (turnsN m (evN m (onesN w).length 0)) (onesN w)
    rw [eT] at e1
    have e2 := ne_b (evenB m (onesN w))
    have c0 : onesN w ≠ [] := fun e => by rw [e] at c; cases c
    generalize turnsN m (evN m (onesN w).length 0) = U at *
    generalize evenB m (onesN w) = b at *
    generalize onesN w = O at *
    simp only [tW] at hlb f e1 ⊢
    simp [m_law_s16, c, c', c0, hlb, hr, f, hl, e1, e2]
  · have c' : ¬ (0 : Int) < ((onesN w).length : Int) := by omega
    have c0 : onesN w = [] := List.length_eq_zero_iff.mp (by omega)
    generalize onesN w = O at *
    simp only [tW]
    simp [m_law_s16, c, c', c0]
theorem st17 {a0 a3 a4 a5 a6 a7 a8 a9 a10 a11 a12 a13 a14 a15 a16 a17 a18 a19 a20 a21 a22 a23 a24 a25 a26 : Option D} {v : Nat → Int} {n : List Int} (ix : ∀ k : Nat, k < 40 → ixD (.list (n.map .int)) (.int (k : Int)) = .ok (.int (v k))) {m t : Nat} (h1 : 1 ≤ m) (ht : v 20 % (m : Int) = (t : Int)) : m_law_s17 [a0, some (.list (n.map .int)), some (.int (m : Int)), a3, a4, a5, a6, a7, a8, a9, a10, a11, a12, a13, a14, a15, a16, a17, a18, a19, a20, a21, a22, a23, a24, a25, a26] = .nx [a0, some (.list (n.map .int)), some (.int (m : Int)), a3, a4, a5, a6, a7, a8, a9, a10, a11, a12, some (.int (t : Int)), a14, a15, a16, a17, a18, a19, a20, a21, a22, a23, a24, a25, a26] := by
  have i0 : ixD (.list (n.map .int)) (.int 20) = .ok (.int (v 20)) := ix 20 (by decide)
  have hp : (0 : Int) < m := by omega
  have hp0 : 0 < m := h1
  simp [m_law_s17, i0, hp, hp0, ht]
theorem st18 {a0 a1 a4 a5 a6 a7 a8 a9 a10 a11 a12 a14 a15 a16 a17 a18 a19 a20 a21 a22 a23 a24 a25 a26 : Option D} {m t z : Nat} (h1 : 1 ≤ z) (h2 : z ≤ m) (h3 : m ≤ 16) (ht : t < m) : m_law_s18 [a0, a1, some (.int (m : Int)), some (.int (z : Int)), a4, a5, a6, a7, a8, a9, a10, a11, a12, some (.int (t : Int)), a14, a15, a16, a17, a18, a19, a20, a21, a22, a23, a24, a25, a26] = .nx [a0, a1, some (.int (m : Int)), some (.int (z : Int)), a4, a5, a6, a7, a8, a9, a10, a11, a12, some (.int (t : Int)), some (.list ((plcN m t z).map .int)), a15, a16, a17, a18, a19, a20, a21, a22, a23, a24, a25, a26] := by
  have hr := range_nat z (by omega)
  have f : lcGo (gN 25) bYes m_law_e8 [a0, a1, some (.int (m : Int)), some (.int (z : Int)), a4, a5, a6, a7, a8, a9, a10, a11, a12, some (.int (t : Int)), a14, a15, a16, a17, a18, a19, a20, a21, a22, a23, a24, none, a26] ((List.range z).map fun i : Nat => PyData.int (i : Int)) = .ok ((plcN m t z).map .int) := by
    unfold plcN
    rw [List.map_map]
    refine lcGo_all (fun i : Nat => PyData.int (i : Int)) (fun k : Nat => PyData.int ((k * t % m : Nat) : Int)) _ fun k hk => ⟨_, rfl, ?_⟩
    have hk := List.mem_range.mp hk
    have f1 := mul_ok (a := k) (b := t) (by omega)
    have f3 := mod_nat (a := k * t) (b := m) (by omega)
    generalize k * t % m = y at *
    generalize k * t = x at *
    simp [m_law_e8, f1, f3, -o_mul, -o_mod]
  have hb : (plcN m t z).length < 16777216 := by rw [plc_len]; omega
  generalize plcN m t z = P at *
  simp [m_law_s18, hr, f, hb]
theorem cnt19 {a0 a1 a2 a3 a4 a5 a6 a7 a8 a9 a10 a11 a12 a13 a15 a16 a17 a18 a19 a21 a22 a23 a24 a25 a26 : Option D} {P : List Int} (hP : P.length ≤ 1000) : ∃ Q : List Int, lcGo (gN 20) (bBin gtX (eCnt (eName 14) (lCons (eName 20) lNil)) (eC (.int 1))) m_law_e9 [a0, a1, a2, a3, a4, a5, a6, a7, a8, a9, a10, a11, a12, a13, some (.list (P.map .int)), a15, a16, a17, a18, a19, none, a21, a22, a23, a24, a25, a26] (P.map PyData.int) = .ok (Q.map .int) ∧ Q.length < 16777216 ∧ (Q.length = 0 ↔ P.Nodup) := by
  refine ⟨P.filter fun x => decide ((1 : Int) < ((P.count x : Nat) : Int)), lcGo_map PyData.int _ PyData.int P fun x _ => ⟨_, rfl, by simp [cnt_int, -List.count_pos_iff], fun _ => by simp [m_law_e9]⟩, Nat.lt_of_le_of_lt (List.length_filter_le _ _) (by omega), count_nodup⟩
theorem st19 {a0 a1 a4 a5 a6 a7 a8 a9 a10 a11 a12 a15 a16 a17 a18 a19 a20 a21 a22 a23 a24 a25 a26 : Option D} {m t z : Nat} (h1 : 1 ≤ z) (h2 : z ≤ m) (h3 : m ≤ 16) (ht : t < m) (n : (plcN m t z).Nodup) : m_law_s19 [a0, a1, some (.int (m : Int)), some (.int (z : Int)), a4, a5, a6, a7, a8, a9, a10, a11, a12, some (.int (t : Int)), some (.list ((plcN m t z).map .int)), a15, a16, a17, a18, a19, a20, a21, a22, a23, a24, a25, a26] = .nx [a0, a1, some (.int (m : Int)), some (.int (z : Int)), a4, a5, a6, a7, a8, a9, a10, a11, a12, some (.int (t : Int)), some (.list ((plcN m t z).map .int)), a15, a16, a17, a18, a19, a20, a21, a22, a23, a24, a25, a26] := by
  obtain ⟨Q, f, hb, hq⟩ := cnt19 (a0 := a0) (a1 := a1) (a2 := some (.int (m : Int))) (a3 := some (.int (z : Int))) (a4 := a4) (a5 := a5) (a6 := a6) (a7 := a7) (a8 := a8) (a9 := a9) (a10 := a10) (a11 := a11) (a12 := a12) (a13 := some (.int (t : Int))) (a15 := a15) (a16 := a16) (a17 := a17) (a18 := a18) (a19 := a19) (a21 := a21) (a22 := a22) (a23 := a23) (a24 := a24) (a25 := a25) (a26 := a26) (P := plcN m t z) (by rw [plc_len]; omega)
  have hl := plc_len m t z
  have hq0 := hq.mpr n
  have hQ : Q = [] := List.length_eq_zero_iff.mp hq0
  subst hQ
  generalize plcN m t z = P at *
  simp [m_law_s19, f]
theorem st19r {a0 a1 a4 a5 a6 a7 a8 a9 a10 a11 a12 a15 a16 a17 a18 a19 a20 a21 a22 a23 a24 a25 a26 : Option D} {m t z : Nat} (h1 : 1 ≤ z) (h2 : z ≤ m) (h3 : m ≤ 16) (ht : t < m) (n : ¬ (plcN m t z).Nodup) : m_law_s19 [a0, a1, some (.int (m : Int)), some (.int (z : Int)), a4, a5, a6, a7, a8, a9, a10, a11, a12, some (.int (t : Int)), some (.list ((plcN m t z).map .int)), a15, a16, a17, a18, a19, a20, a21, a22, a23, a24, a25, a26] = .rt (.bool true) := by
  obtain ⟨Q, f, hb, hq⟩ := cnt19 (a0 := a0) (a1 := a1) (a2 := some (.int (m : Int))) (a3 := some (.int (z : Int))) (a4 := a4) (a5 := a5) (a6 := a6) (a7 := a7) (a8 := a8) (a9 := a9) (a10 := a10) (a11 := a11) (a12 := a12) (a13 := some (.int (t : Int))) (a15 := a15) (a16 := a16) (a17 := a17) (a18 := a18) (a19 := a19) (a21 := a21) (a22 := a22) (a23 := a23) (a24 := a24) (a25 := a25) (a26 := a26) (P := plcN m t z) (by rw [plc_len]; omega)
  have hs := scale_all h1 h2 (show m ≤ 24 by omega) ht
  rw [if_neg n] at hs
  have hq0 : Q ≠ [] := fun e => n (hq.mp (by rw [e]; rfl))
  have hq1 : 0 < Q.length := List.length_pos_iff.mpr hq0
  generalize plcN m t z = P at *
  simp [m_law_s19, f, hb, hq0, hq1, hs, catchD, tb_law_BadNumber, R.bind]
  rfl
theorem st20 {a0 a1 a4 a5 a6 a7 a8 a9 a10 a11 a12 a14 a15 a16 a17 a18 a19 a20 a21 a22 a23 a24 a25 a26 : Option D} {m t z : Nat} (h1 : 1 ≤ z) (h2 : z ≤ m) (h3 : m ≤ 16) (ht : t < m) (n : (plcN m t z).Nodup) : m_law_s20 [a0, a1, some (.int (m : Int)), some (.int (z : Int)), a4, a5, a6, a7, a8, a9, a10, a11, a12, some (.int (t : Int)), a14, a15, a16, a17, a18, a19, a20, a21, a22, a23, a24, a25, a26] = .nx [a0, a1, some (.int (m : Int)), some (.int (z : Int)), a4, a5, a6, a7, a8, a9, a10, a11, a12, some (.int (t : Int)), a14, some (tW (sclN m t z)), a16, a17, a18, a19, a20, a21, a22, a23, a24, a25, a26] := by
  have hs := scale_all h1 h2 (show m ≤ 24 by omega) ht
  rw [if_pos n] at hs
  simp only [tW] at hs ⊢
  simp [m_law_s20, hs]
theorem st21 {a0 a1 a4 a5 a6 a7 a8 a9 a10 a11 a12 a13 a14 a16 a17 a18 a19 a20 a21 a22 a23 a24 a25 a26 : Option D} {m z : Nat} {A : List Int} (h1 : 1 ≤ z) (h2 : z ≤ m) (h3 : m ≤ 16) (hl : A.length = z) : m_law_s21 [a0, a1, some (.int (m : Int)), some (.int (z : Int)), a4, a5, a6, a7, a8, a9, a10, a11, a12, a13, a14, some (tW A), a16, a17, a18, a19, a20, a21, a22, a23, a24, a25, a26] = .nx [a0, a1, some (.int (m : Int)), some (.int (z : Int)), a4, a5, a6, a7, a8, a9, a10, a11, a12, a13, a14, some (tW A), some (.list ((lstepN m A).map .int)), a17, a18, a19, a20, a21, a22, a23, a24, a25, a26] := by
  have hr := range_nat z (by omega)
  have hp : (0 : Int) < m := by omega
  have hp0 : m ≠ 0 := by omega
  have f : lcGo (gN 25) bYes m_law_e10 [a0, a1, some (.int (m : Int)), some (.int (z : Int)), a4, a5, a6, a7, a8, a9, a10, a11, a12, a13, a14, some (tW A), a16, a17, a18, a19, a20, a21, a22, a23, a24, none, a26] ((List.range z).map fun i : Nat => PyData.int (i : Int)) = .ok ((lstepN m A).map .int) := by
    unfold lstepN
    rw [List.map_map, hl]
    refine lcGo_all (fun i : Nat => PyData.int (i : Int)) (fun k : Nat => PyData.int ((A.getD ((k + 1) % z) 0 - A.getD k 0 - 1) % (m : Int) + 1)) _ fun k hk => ⟨_, rfl, ?_⟩
    have hk := List.mem_range.mp hk
    have i1 := ixW (w := A) (k := (k + 1) % z) (by rw [hl]; exact Nat.mod_lt _ (by omega))
    have i2 := ixW (w := A) (k := k) (by omega)
    have f2 : addD (.int (k : Int)) (.int 1) = .ok (.int ((k + 1 : Nat) : Int)) := add_nat (a := k) (b := 1)
    have f3 := mod_nat (a := k + 1) (b := z) (by omega)
    generalize A.getD ((k + 1) % z) 0 = v1 at *
    generalize A.getD k 0 = v2 at *
    generalize (k + 1) % z = y at *
    generalize k + 1 = x at *
    simp only [tW] at i1 i2 ⊢
    simp [m_law_e10, i1, i2, f2, f3, -o_mod]
    simp [hp, hp0]
  have hb : (lstepN m A).length < 16777216 := by unfold lstepN; rw [List.length_map, List.length_range]; omega
  generalize lstepN m A = P at *
  simp only [tW] at f ⊢
  simp [m_law_s21, hr, f, hb]
theorem st22 {a0 a1 a3 a4 a5 a6 a7 a8 a9 a10 a11 a12 a13 a14 a15 a17 a18 a19 a20 a21 a22 a23 a24 a25 a26 : Option D} {m : Nat} {A : List Int} (h : SOk m A) : m_law_s22 [a0, a1, some (.int (m : Int)), a3, a4, a5, a6, a7, a8, a9, a10, a11, a12, a13, a14, a15, some (.list ((lstepN m A).map .int)), a17, a18, a19, a20, a21, a22, a23, a24, a25, a26] = .nx [a0, a1, some (.int (m : Int)), a3, a4, a5, a6, a7, a8, a9, a10, a11, a12, a13, a14, a15, some (.list ((lstepN m A).map .int)), some (tW (gszN m A)), a18, a19, a20, a21, a22, a23, a24, a25, a26] := by
  have hm := h.m2
  have h1 := h.m1
  have hr : rngD [.int 1, .int ((m : Int) + 1)] = .ok ((List.range m).map fun i : Nat => PyData.int ((1 + i : Nat) : Int)) := by
    have := rng2' (a := 1) (b := m + 1) (by decide) (by omega)
    rw [Nat.add_sub_cancel] at this
    exact this
  have he : (((List.range m).filter fun i : Nat => decide (((1 + i : Nat) : Int) ∈ stepN m A)).map fun i : Nat => ((1 + i : Nat) : Int)) = gszN m A := by
    refine up_eq (fun x => ?_) ?_ (ixs_up _ _)
    · unfold gszN
      rw [mem_ixs, List.mem_map]
      constructor
      · rintro ⟨i, hi, rfl⟩
        obtain ⟨a, b⟩ := List.mem_filter.mp hi
        have := List.mem_range.mp a
        exact ⟨1 + i, by omega, b, rfl⟩
      · rintro ⟨k, hk, b, rfl⟩
        have hs := of_decide_eq_true b
        have hk1 : 1 ≤ k := by
          rw [← lstep_eq h] at hs
          unfold lstepN at hs
          obtain ⟨j, _, e⟩ := List.mem_map.mp hs
          have := Int.emod_nonneg (A.getD ((j + 1) % A.length) 0 - A.getD j 0 - 1) (show (m : Int) ≠ 0 by omega)
          omega
        refine ⟨k - 1, List.mem_filter.mpr ⟨List.mem_range.mpr (by omega), ?_⟩, by omega⟩
        have : 1 + (k - 1) = k := by omega
        rw [this]
        exact b
    · refine List.pairwise_map.mpr ((List.Pairwise.filter _ (List.pairwise_lt_range (n := m))).imp fun {a b} h => by omega)
  rw [lstep_eq h]
  have f : lcGo (gN 20) (bBin inX (eName 20) (eName 16)) m_law_e11 [a0, a1, some (.int (m : Int)), a3, a4, a5, a6, a7, a8, a9, a10, a11, a12, a13, a14, a15, some (.list ((stepN m A).map .int)), a17, a18, a19, none, a21, a22, a23, a24, a25, a26] ((List.range m).map fun i : Nat => PyData.int ((1 + i : Nat) : Int)) = .ok ((gszN m A).map .int) := by
    rw [← he, List.map_map]
    refine lcGo_map (fun i : Nat => PyData.int ((1 + i : Nat) : Int)) (fun i : Nat => decide (((1 + i : Nat) : Int) ∈ stepN m A)) (fun i : Nat => PyData.int ((1 + i : Nat) : Int)) _ fun k _ => ⟨_, rfl, ?_, fun _ => by simp [m_law_e11]⟩
    generalize 1 + k = x at *
    simp
  have hb : (gszN m A).length < 16777216 := by have : (gszN m A).length ≤ m + 1 := ixs_len _ _; omega
  generalize gszN m A = G at *
  generalize stepN m A = P at *
  simp only [tW]
  simp [m_law_s22, hr, f, hb, -Int.natCast_add]
theorem st23 {a0 a1 a4 a5 a6 a7 a8 a9 a10 a11 a12 a16 a18 a19 a20 a21 a22 a23 a24 a25 a26 : Option D} {m t z : Nat} (h1 : 1 ≤ z) (h2 : z ≤ m) (h3 : m ≤ 16) (ht : t < m) (n : (plcN m t z).Nodup) : m_law_s23 [a0, a1, some (.int (m : Int)), some (.int (z : Int)), a4, a5, a6, a7, a8, a9, a10, a11, a12, some (.int (t : Int)), some (.list ((plcN m t z).map .int)), some (tW (sclN m t z)), a16, some (tW (gszN m (sclN m t z))), a18, a19, a20, a21, a22, a23, a24, a25, a26] = .nx [a0, a1, some (.int (m : Int)), some (.int (z : Int)), a4, a5, a6, a7, a8, a9, a10, a11, a12, some (.int (t : Int)), some (.list ((plcN m t z).map .int)), some (tW (sclN m t z)), a16, some (tW (gszN m (sclN m t z))), a18, a19, a20, a21, a22, a23, a24, a25, a26] := by
  have h4 := gap_sizes_ok h1 h2 (show m ≤ 24 by omega) ht n
  have h5 := gaps_ok h1 h2 h3 ht n
  have hso : sortedD [.list ((plcN m t z).map .int)] = .ok (.list ((sclN m t z).map .int)) := sorted_lI (isrt_perm _) (isrt_pw _)
  generalize gszN m (sclN m t z) = G at *
  generalize sclN m t z = A at *
  generalize plcN m t z = P at *
  have e1 := neD_tW A A
  have e2 := neD_tW G G
  rw [decide_eq_true rfl] at e1 e2
  have c : ¬ ((3 : Int) < (G.length : Int)) := by omega
  have c2 : ¬ (3 < G.length) := by omega
  simp only [tW] at h4 e1 e2 ⊢
  simp [m_law_s23, hso, h4, e1, e2, c, c2]
  try omega
theorem st24 {a0 a1 a2 a4 a5 a6 a7 a8 a9 a10 a11 a12 a13 a16 a17 a18 a19 a20 a21 a22 a23 a24 a25 a26 : Option D} {m t z : Nat} (h1 : 1 ≤ z) (h2 : z ≤ m) (h3 : m ≤ 16) (ht : t < m) : m_law_s24 [a0, a1, a2, some (.int (z : Int)), a4, a5, a6, a7, a8, a9, a10, a11, a12, a13, some (.list ((plcN m t z).map .int)), some (tW (sclN m t z)), a16, a17, a18, a19, a20, a21, a22, a23, a24, a25, a26] = .nx [a0, a1, a2, some (.int (z : Int)), a4, a5, a6, a7, a8, a9, a10, a11, a12, a13, some (.list ((plcN m t z).map .int)), some (tW (sclN m t z)), a16, a17, some (.list ((overN z (plxN m t z)).map .int)), a19, a20, a21, a22, a23, a24, a25, a26] := by
  have hr := range_nat z (by omega)
  have hp : (0 : Int) < z := by omega
  have hp0 : z ≠ 0 := by omega
  have hpl := plc_len m t z
  have hin : ∀ j, j < z → (plcN m t z).getD j 0 ∈ sclN m t z := fun j hj => (isrt_perm _).mem_iff.mpr (getD_mem (by omega))
  have hx : ∀ j, j < z → (plxN m t z).getD j 0 = (((sclN m t z).idxOf ((plcN m t z).getD j 0) : Nat) : Int) := fun j hj => by
    unfold plxN
    rw [getD_lt (by rw [List.length_map]; omega), List.getElem_map, getD_lt (by omega)]
  have f : lcGo (gN 25) bYes m_law_e12 [a0, a1, a2, some (.int (z : Int)), a4, a5, a6, a7, a8, a9, a10, a11, a12, a13, some (.list ((plcN m t z).map .int)), some (tW (sclN m t z)), a16, a17, a18, a19, a20, a21, a22, a23, a24, none, a26] ((List.range z).map fun i : Nat => PyData.int (i : Int)) = .ok ((overN z (plxN m t z)).map .int) := by
    unfold overN
    rw [List.map_map]
    refine lcGo_all (fun i : Nat => PyData.int (i : Int)) (fun k : Nat => PyData.int (((plxN m t z).getD ((k + 1) % z) 0 - (plxN m t z).getD k 0) % (z : Int))) _ fun k hk => ⟨_, rfl, ?_⟩
    have hk := List.mem_range.mp hk
    have hy : (k + 1) % z < z := Nat.mod_lt _ (by omega)
    rw [hx _ hy, hx k hk]
    have i1 := ix_lI (xs := plcN m t z) (k := (k + 1) % z) (by omega)
    have i2 := ix_lI (xs := plcN m t z) (k := k) (by omega)
    have j1 := idx_int (hin _ hy)
    have j2 := idx_int (hin k hk)
    have f2 : addD (.int (k : Int)) (.int 1) = .ok (.int ((k + 1 : Nat) : Int)) := add_nat (a := k) (b := 1)
    have f3 := mod_nat (a := k + 1) (b := z) (by omega)
    generalize (plcN m t z).getD ((k + 1) % z) 0 = v1 at *
    generalize (plcN m t z).getD k 0 = v2 at *
    generalize (k + 1) % z = y at *
    generalize k + 1 = x at *
    generalize sclN m t z = A at *
    generalize plcN m t z = P at *
    simp only [tW]
    simp [m_law_e12, i1, i2, j1, j2, f2, f3, -o_mod]
    simp [hp, hp0]
  have hb : (overN z (plxN m t z)).length < 16777216 := by unfold overN; rw [List.length_map, List.length_range]; omega
  generalize overN z (plxN m t z) = V at *
  generalize sclN m t z = A at *
  generalize plcN m t z = P at *
  simp only [tW] at f ⊢
  simp [m_law_s24, hr, f, hb]
theorem st25 {a0 a1 a4 a5 a6 a7 a8 a9 a10 a11 a12 a14 a15 a16 a17 a19 a20 a21 a22 a23 a24 a25 a26 : Option D} {m t z : Nat} (h1 : 1 ≤ z) (h2 : z ≤ m) (h3 : m ≤ 16) (ht : t < m) (n : (plcN m t z).Nodup) : m_law_s25 [a0, a1, some (.int (m : Int)), some (.int (z : Int)), a4, a5, a6, a7, a8, a9, a10, a11, a12, some (.int (t : Int)), a14, a15, a16, a17, some (.list ((overN z (plxN m t z)).map .int)), a19, a20, a21, a22, a23, a24, a25, a26] = .nx [a0, a1, some (.int (m : Int)), some (.int (z : Int)), a4, a5, a6, a7, a8, a9, a10, a11, a12, some (.int (t : Int)), a14, a15, a16, a17, some (.list ((overN z (plxN m t z)).map .int)), a19, a20, a21, a22, a23, a24, a25, a26] := by
  have hw := well_ok h1 h2 (show m ≤ 24 by omega) ht n
  have hV : (overN z (plxN m t z)).length = z := by unfold overN; rw [List.length_map, List.length_range]
  generalize overN z (plxN m t z) = V at *
  have i0 : ixD (.list (V.map .int)) (.int 0) = .ok (.int (V.getD 0 0)) := ix_lI (xs := V) (k := 0) (by omega)
  generalize V.getD 0 0 = v0 at *
  have f : lcGo (gN 20) (bBin neD (eName 20) (eIx (eName 18) (eC (.int 0)))) m_law_e13 [a0, a1, some (.int (m : Int)), some (.int (z : Int)), a4, a5, a6, a7, a8, a9, a10, a11, a12, some (.int (t : Int)), a14, a15, a16, a17, some (.list (V.map .int)), a19, none, a21, a22, a23, a24, a25, a26] (V.map PyData.int) = .ok ((V.filter fun x => !decide (x = v0)).map .int) :=
    lcGo_map PyData.int _ PyData.int _ fun x _ => ⟨_, rfl, by simp [i0], fun _ => by simp [m_law_e13]⟩
  have hb : (V.filter fun x => !decide (x = v0)).length < 16777216 := Nat.lt_of_le_of_lt (List.length_filter_le _ _) (by omega)
  have he : (V.all fun x => decide (x = v0)) = decide ((V.filter fun x => !decide (x = v0)) = []) := by
    rw [Bool.eq_iff_iff, List.all_eq_true, decide_eq_true_iff, List.filter_eq_nil_iff]
    simp
  rw [he] at hw
  generalize (V.filter fun x => !decide (x = v0)) = Q at *
  have e3 := ne_b (decide (Q = []))
  simp [m_law_s25, hw, f, hb]
  rw [e3]
  rfl
theorem st26 {a0 a1 a3 a4 a5 a6 a7 a8 a9 a10 a11 a12 a14 a16 a17 a18 a19 a20 a21 a22 a23 a24 a25 a26 : Option D} {m t : Nat} {A : List Int} (h : SOk m A) (hin : (t : Int) ∈ genN m A) : m_law_s26 [a0, a1, some (.int (m : Int)), a3, a4, a5, a6, a7, a8, a9, a10, a11, a12, some (.int (t : Int)), a14, some (tW A), a16, a17, a18, a19, a20, a21, a22, a23, a24, a25, a26] = .nx [a0, a1, some (.int (m : Int)), a3, a4, a5, a6, a7, a8, a9, a10, a11, a12, some (.int (t : Int)), a14, some (tW A), a16, a17, a18, a19, a20, a21, a22, a23, a24, a25, a26] := by
  have hg := generators_ok h
  generalize genN m A = G at *
  simp only [tW] at hg ⊢
  simp [m_law_s26, hg, hin]
theorem st27 {a0 a1 a2 a3 a4 a5 a6 a7 a8 a9 a10 a11 a12 a13 a14 a15 a16 a17 a18 a19 a20 a21 a22 a23 a24 a25 a26 : Option D}  : m_law_s27 [a0, a1, a2, a3, a4, a5, a6, a7, a8, a9, a10, a11, a12, a13, a14, a15, a16, a17, a18, a19, a20, a21, a22, a23, a24, a25, a26] = .nx [a0, a1, a2, a3, a4, a5, a6, a7, a8, a9, a10, a11, a12, a13, a14, a15, a16, a17, a18, some (.list []), a20, a21, a22, a23, a24, a25, a26] := by
  simp [m_law_s27]
theorem st28 {a0 a1 a3 a4 a5 a6 a7 a8 a9 a11 a12 a13 a14 a15 a16 a17 a18 a20 a21 a22 a23 a24 a25 a26 : Option D} {m : Nat} {A : List Int} (h : SOk m A) : ∃ b20 b21 b22, m_law_s28 [a0, a1, some (.int (m : Int)), a3, a4, a5, a6, a7, a8, a9, some (tW A), a11, a12, a13, a14, a15, a16, a17, a18, some (.list []), a20, a21, a22, a23, a24, a25, a26] = .nx [a0, a1, some (.int (m : Int)), a3, a4, a5, a6, a7, a8, a9, some (tW A), a11, a12, a13, a14, a15, a16, a17, a18, some (.list ((genN m A).map .int)), b20, b21, b22, a23, a24, a25, a26] := by
  have hl := h.len
  have hm := h.m2
  have h1 := h.m1
  have hp : (0 : Int) < m := by omega
  have hp0 : m ≠ 0 := by omega
  have hr := range_nat m (by omega)
  have hrd := range_nat A.length (by omega)
  have hmd : m * A.length ≤ 24 * 24 := Nat.mul_le_mul hm (by omega)
  obtain ⟨⟨x20, x21, x22, S⟩, e, i⟩ := forD_st (g := gN 20) (B := m_law_L2) (fun i : Nat => PyData.int (i : Int)) (fun q : Option D × Option D × Option D × List Int => [a0, a1, some (.int (m : Int)), a3, a4, a5, a6, a7, a8, a9, some (tW A), a11, a12, a13, a14, a15, a16, a17, a18, some (.list (q.2.2.2.map .int)), q.1, q.2.1, q.2.2.1, a23, a24, a25, a26])
    (fun k q => q.2.2.2 = (List.range k).foldl (fun S s => A.foldl (inS m A s) S) []) (List.range m) (fun k a ⟨x20, x21, x22, S⟩ ha i => by
      have hk : k < m := by
        rcases Nat.lt_or_ge k (List.range m).length with z | z
        · rwa [List.length_range] at z
        · rw [List.getElem?_eq_none z] at ha; cases ha
      have : a = k := by
        rw [List.getElem?_range hk] at ha
        exact (Option.some.inj ha).symm
      subst this
      dsimp only at i
      have hSl : S.length ≤ m * A.length := by
        rw [i]
        have := gen_len (m := m) (A := A) (List.range a) []
        rw [List.length_range] at this
        have h2 : a * A.length ≤ m * A.length := Nat.mul_le_mul_right _ (by omega)
        simp at this
        omega
      obtain ⟨⟨y21, y22, S2⟩, e2, i2⟩ := forD_st (g := gN 21) (B := m_law_L1) PyData.int (fun q : Option D × Option D × List Int => [a0, a1, some (.int (m : Int)), a3, a4, a5, a6, a7, a8, a9, some (tW A), a11, a12, a13, a14, a15, a16, a17, a18, some (.list (q.2.2.map .int)), some (.int (a : Int)), q.1, q.2.1, a23, a24, a25, a26])
        (fun t q => q.2.2 = (A.take t).foldl (inS m A a) S) A (fun t x ⟨y21, y22, T⟩ hx i2 => by
          have ht : A.take (t + 1) = A.take t ++ [x] := by rw [List.take_add_one, hx]; rfl
          have htl : t < A.length := (List.getElem?_eq_some_iff.mp hx).1
          dsimp only at i2
          have hTl : T.length < 16777216 := by
            rw [i2]
            have := fold_len (m := m) (A := A) (s := a) (A.take t) S
            rw [List.length_take] at this
            omega
          refine ⟨_, (some (.int x), some (.list ((come m A a x).map .int)), inS m A a T x), rfl, .inl ?_, by dsimp only; rw [ht, List.foldl_append, ← i2]; rfl⟩
          dsimp only
          have f : lcGo (gN 25) bYes m_law_e14 [a0, a1, some (.int (m : Int)), a3, a4, a5, a6, a7, a8, a9, some (tW A), a11, a12, a13, a14, a15, a16, a17, a18, some (.list (T.map .int)), some (.int (a : Int)), some (.int x), y22, a23, a24, none, a26] ((List.range A.length).map fun i : Nat => PyData.int (i : Int)) = .ok ((come m A a x).map .int) := by
            unfold come
            rw [List.map_map]
            refine lcGo_all (fun i : Nat => PyData.int (i : Int)) (fun k : Nat => PyData.int ((x + ((k * a : Nat) : Int)) % (m : Int))) _ fun k hk => ⟨_, rfl, ?_⟩
            have hk := List.mem_range.mp hk
            have f1 := mul_ok (a := k) (b := a) (by omega)
            generalize k * a = u at *
            simp [m_law_e14, f1, hp, hp0, -o_mul]
          have hso : sortedD [.list ((come m A a x).map .int)] = .ok (.list ((isrt (come m A a x)).map .int)) := sorted_lI (isrt_perm _) (isrt_pw _)
          have hcl := come_len m A a x
          have hb : (come m A a x).length < 16777216 := by omega
          have e3 : eqD (.list ((isrt (come m A a x)).map .int)) (.list (A.map .int)) = .ok (.bool (goodB m A a x)) := by
            unfold eqD goodB
            rw [if_pos ⟨shp_lI _, shp_lI _⟩]
            unfold PyData.eqv
            rw [eqvAll_ints]
          unfold inS
          generalize goodB m A a x = gb at *
          generalize isrt (come m A a x) = I2 at *
          generalize come m A a x = C at *
          simp only [tW] at f ⊢
          cases gb with
          | true => by_cases c3 : (a : Int) ∈ T <;> simp [m_law_L1, hrd, f, hb, hso, e3, c3, hTl]
          | false => simp [m_law_L1, hrd, f, hb, hso, e3]) (x21, x22, S) rfl
      dsimp only at i2
      rw [List.take_length] at i2
      have e2 : forD (gN 21) m_law_L1 (A.map .int) [a0, a1, some (.int (m : Int)), a3, a4, a5, a6, a7, a8, a9, some (tW A), a11, a12, a13, a14, a15, a16, a17, a18, some (.list (S.map .int)), some (.int (a : Int)), x21, x22, a23, a24, a25, a26] = _ := e2
      refine ⟨_, (some (.int (a : Int)), y21, y22, S2), rfl, .inl ?_, by dsimp only; rw [List.range_succ, List.foldl_append, ← i, i2]; rfl⟩
      dsimp only
      simp only [tW] at e2 ⊢
      simp [m_law_L2, e2]) (a20, a21, a22, []) rfl
  dsimp only at i
  rw [List.length_range] at i
  have e : forD (gN 20) m_law_L2 ((List.range m).map fun i : Nat => PyData.int (i : Int)) [a0, a1, some (.int (m : Int)), a3, a4, a5, a6, a7, a8, a9, some (tW A), a11, a12, a13, a14, a15, a16, a17, a18, some (.list []), a20, a21, a22, a23, a24, a25, a26] = _ := e
  have hS : S = genN m A := i
  subst hS
  refine ⟨x20, x21, x22, ?_⟩
  unfold m_law_s28
  rw [q_fors]
  have hI : eRng (lCons (eName 2) lNil) [a0, a1, some (.int (m : Int)), a3, a4, a5, a6, a7, a8, a9, some (tW A), a11, a12, a13, a14, a15, a16, a17, a18, some (.list []), a20, a21, a22, a23, a24, a25, a26] = .ok ((List.range m).map fun i : Nat => PyData.int (i : Int)) := by simp [hr]
  rw [hI, RS.of_ok]
  exact e
theorem st29 {a0 a1 a3 a4 a5 a6 a7 a8 a9 a11 a12 a13 a14 a15 a16 a17 a18 a20 a21 a22 a23 a24 a25 a26 : Option D} {m : Nat} {A : List Int} (h : SOk m A) : m_law_s29 [a0, a1, some (.int (m : Int)), a3, a4, a5, a6, a7, a8, a9, some (tW A), a11, a12, a13, a14, a15, a16, a17, a18, some (.list ((genN m A).map .int)), a20, a21, a22, a23, a24, a25, a26] = .nx [a0, a1, some (.int (m : Int)), a3, a4, a5, a6, a7, a8, a9, some (tW A), a11, a12, a13, a14, a15, a16, a17, a18, some (.list ((genN m A).map .int)), a20, a21, a22, a23, a24, a25, a26] := by
  have hg := generators_ok h
  generalize genN m A = G at *
  have e1 := neD_tW G G
  rw [decide_eq_true rfl] at e1
  simp only [tW] at hg e1 ⊢
  simp [m_law_s29, hg, e1]
theorem st30 {a0 a2 a3 a4 a5 a6 a7 a8 a9 a10 a11 a12 a13 a14 a15 a16 a17 a18 a19 a20 a21 a22 a23 a24 a25 a26 : Option D} {v : Nat → Int} {n : List Int} (ix : ∀ k : Nat, k < 40 → ixD (.list (n.map .int)) (.int (k : Int)) = .ok (.int (v k))) {g : Nat} (hg : v 21 % 5 = (g : Int)) : m_law_s30 [a0, some (.list (n.map .int)), a2, a3, a4, a5, a6, a7, a8, a9, a10, a11, a12, a13, a14, a15, a16, a17, a18, a19, a20, a21, a22, a23, a24, a25, a26] = .nx [a0, some (.list (n.map .int)), a2, a3, a4, a5, a6, a7, a8, a9, a10, a11, a12, a13, a14, a15, a16, a17, a18, a19, a20, a21, a22, some (.int (g : Int)), a24, a25, a26] := by
  have i0 : ixD (.list (n.map .int)) (.int 21) = .ok (.int (v 21)) := ix 21 (by decide)
  simp [m_law_s30, i0, hg]
def nearN (m g : Nat) (A : List Int) : List Int := (((List.range A.length).filter fun k : Nat => decide ((A.getD ((k + 1) % A.length) 0 - A.getD k 0 - 1) % (m : Int) + 1 < (g : Int))).map fun _ => (1 : Int))
theorem st31 {a0 a1 a3 a4 a5 a6 a7 a8 a9 a11 a12 a13 a14 a15 a16 a17 a18 a19 a20 a21 a22 a24 a25 a26 : Option D} {m g : Nat} {A : List Int} (h : SOk m A) : m_law_s31 [a0, a1, some (.int (m : Int)), a3, a4, a5, a6, a7, a8, a9, some (tW A), a11, a12, a13, a14, a15, a16, a17, a18, a19, a20, a21, a22, some (.int (g : Int)), a24, a25, a26] = .nx [a0, a1, some (.int (m : Int)), a3, a4, a5, a6, a7, a8, a9, some (tW A), a11, a12, a13, a14, a15, a16, a17, a18, a19, a20, a21, a22, some (.int (g : Int)), some (.list ((nearN m g A).map .int)), a25, a26] ∧ (decide (nearN m g A = []) = (stepN m A).all fun x => decide ((g : Int) ≤ x)) := by
  have hl := h.len
  have hm := h.m2
  have h1 := h.m1
  have hp : (0 : Int) < m := by omega
  have hp0 : m ≠ 0 := by omega
  have hrd := range_nat A.length (by omega)
  have f : lcGo (gN 25) (bBin ltX (eBin addD (eBin modD (eBin subD (eBin subD (eIx (eName 10) (eBin modD (eBin addD (eName 25) (eC (.int 1))) (eFun lenX (lCons (eName 10) lNil)))) (eIx (eName 10) (eName 25))) (eC (.int 1))) (eName 2)) (eC (.int 1))) (eName 23)) m_law_e15 [a0, a1, some (.int (m : Int)), a3, a4, a5, a6, a7, a8, a9, some (tW A), a11, a12, a13, a14, a15, a16, a17, a18, a19, a20, a21, a22, some (.int (g : Int)), a24, none, a26] ((List.range A.length).map fun i : Nat => PyData.int (i : Int)) = .ok ((((List.range A.length).filter fun k : Nat => decide ((A.getD ((k + 1) % A.length) 0 - A.getD k 0 - 1) % (m : Int) + 1 < (g : Int))).map fun _ => (1 : Int)).map .int) := by
    rw [List.map_map]
    refine lcGo_map (fun i : Nat => PyData.int (i : Int)) _ (fun _ => PyData.int 1) _ fun k hk => ⟨_, rfl, ?_, fun _ => by simp [m_law_e15]⟩
    have hk := List.mem_range.mp hk
    obtain ⟨i1, i2⟩ := gap_val h1 (by omega) k 1 hk
    have f2 : addD (.int (k : Int)) (.int 1) = .ok (.int ((k + 1 : Nat) : Int)) := add_nat (a := k) (b := 1)
    have f3 := mod_nat (a := k + 1) (b := A.length) (by omega)
    generalize A.getD ((k + 1) % A.length) 0 = v1 at *
    generalize A.getD k 0 = v2 at *
    generalize (k + 1) % A.length = y at *
    generalize k + 1 = x at *
    generalize hAl : A.length = d at *
    simp only [tW] at i1 i2 ⊢
    simp [hAl, i1, i2, f2, f3, -o_mod]
    simp [hp, hp0]
  have hb : (((List.range A.length).filter fun k : Nat => decide ((A.getD ((k + 1) % A.length) 0 - A.getD k 0 - 1) % (m : Int) + 1 < (g : Int))).map fun _ => (1 : Int)).length < 16777216 := by
    rw [List.length_map]
    exact Nat.lt_of_le_of_lt (List.length_filter_le _ _) (by rw [List.length_range]; omega)
  have he : decide ((((List.range A.length).filter fun k : Nat => decide ((A.getD ((k + 1) % A.length) 0 - A.getD k 0 - 1) % (m : Int) + 1 < (g : Int))).map fun _ => (1 : Int)) = []) = (stepN m A).all fun x => decide ((g : Int) ≤ x) := by
    rw [← lstep_eq h]
    unfold lstepN
    rw [Bool.eq_iff_iff, decide_eq_true_iff, List.map_eq_nil_iff, List.filter_eq_nil_iff, List.all_map, List.all_eq_true]
    constructor
    · intro q k hk
      have := q k hk
      show decide _ = true
      refine decide_eq_true ?_
      simp at this
      simpa using this
    · intro q k hk z
      have a : (g : Int) ≤ (A.getD ((k + 1) % A.length) 0 - A.getD k 0 - 1) % (m : Int) + 1 := of_decide_eq_true (q k hk)
      have b : (A.getD ((k + 1) % A.length) 0 - A.getD k 0 - 1) % (m : Int) + 1 < (g : Int) := of_decide_eq_true z
      exact absurd b (Int.not_lt.mpr a)
  refine ⟨?_, he⟩
  unfold nearN
  generalize (((List.range A.length).filter fun k : Nat => decide ((A.getD ((k + 1) % A.length) 0 - A.getD k 0 - 1) % (m : Int) + 1 < (g : Int))).map fun _ => (1 : Int)) = Q at *
  simp only [tW] at f ⊢
  simp [m_law_s31, hrd, f, hb]
theorem st32 {a0 a1 a3 a4 a5 a6 a7 a8 a9 a11 a12 a13 a14 a15 a16 a17 a18 a19 a20 a21 a22 a25 a26 : Option D} {m g : Nat} {A Q : List Int} (h : SOk m A) (he : decide (Q = []) = (stepN m A).all fun x => decide ((g : Int) ≤ x)) : m_law_s32 [a0, a1, some (.int (m : Int)), a3, a4, a5, a6, a7, a8, a9, some (tW A), a11, a12, a13, a14, a15, a16, a17, a18, a19, a20, a21, a22, some (.int (g : Int)), some (.list (Q.map .int)), a25, a26] = .nx [a0, a1, some (.int (m : Int)), a3, a4, a5, a6, a7, a8, a9, some (tW A), a11, a12, a13, a14, a15, a16, a17, a18, a19, a20, a21, a22, some (.int (g : Int)), some (.list (Q.map .int)), a25, a26] := by
  have ho := onsets_ok (g := (g : Int)) h (by omega)
  rw [← he] at ho
  have e3 := ne_b (decide (Q = []))
  simp only [tW] at ho ⊢
  simp [m_law_s32, ho]
  rw [e3]
  rfl
theorem st33 {a0 a1 a3 a4 a5 a6 a7 a8 a9 a11 a12 a13 a14 a15 a16 a17 a18 a19 a20 a21 a22 a23 a24 a25 a26 : Option D} {m : Nat} {A : List Int} (h : SOk m A) : m_law_s33 [a0, a1, some (.int (m : Int)), a3, a4, a5, a6, a7, a8, a9, some (tW A), a11, a12, a13, a14, a15, a16, a17, a18, a19, a20, a21, a22, a23, a24, a25, a26] = .nx [a0, a1, some (.int (m : Int)), a3, a4, a5, a6, a7, a8, a9, some (tW A), a11, a12, a13, a14, a15, a16, a17, a18, a19, a20, a21, a22, a23, a24, a25, a26] := by
  have hl := h.len
  have hm := h.m2
  have h1 := h.m1
  have hp : (0 : Int) < m := by omega
  have hp0 : m ≠ 0 := by omega
  have hr := range_nat m (by omega)
  have hf := fits_ok h
  have f : lcGo (gN 25) (bBin eqD (eFun lenX (lCons (eLc (eIt (eName 10)) (gN 20) (bBin inX (eBin modD (eFun intD (lCons (eBin addD (eName 20) (eName 25)) lNil)) (eName 2)) (eName 10)) m_law_e16 [20]) lNil)) (eC (.int 0))) m_law_e17 [a0, a1, some (.int (m : Int)), a3, a4, a5, a6, a7, a8, a9, some (tW A), a11, a12, a13, a14, a15, a16, a17, a18, a19, a20, a21, a22, a23, a24, none, a26] ((List.range m).map fun i : Nat => PyData.int (i : Int)) = .ok ((fitsN m A).map .int) :=
    lc_ixs m _ fun k hk => by
      have f2 : lcGo (gN 20) (bBin inX (eBin modD (eFun intD (lCons (eBin addD (eName 20) (eName 25)) lNil)) (eName 2)) (eName 10)) m_law_e16 [a0, a1, some (.int (m : Int)), a3, a4, a5, a6, a7, a8, a9, some (tW A), a11, a12, a13, a14, a15, a16, a17, a18, a19, none, a21, a22, a23, a24, some (.int (k : Int)), a26] (A.map PyData.int) = .ok ((A.filter fun x => decide ((x + (k : Int)) % (m : Int) ∈ A)).map .int) :=
        lcGo_map PyData.int _ PyData.int A fun x _ => ⟨_, rfl, by simp [hp, hp0], fun _ => by simp [m_law_e16]⟩
      have hb : (A.filter fun x => decide ((x + (k : Int)) % (m : Int) ∈ A)).length < 16777216 := Nat.lt_of_le_of_lt (List.length_filter_le _ _) (by omega)
      have he : (!(A.any fun x => decide ((x + (k : Int)) % (m : Int) ∈ A))) = decide ((A.filter fun x => decide ((x + (k : Int)) % (m : Int) ∈ A)) = []) := by
        rw [Bool.eq_iff_iff, decide_eq_true_iff, List.filter_eq_nil_iff]
        simp
      refine ⟨_, rfl, ?_, fun _ => by simp [m_law_e17]⟩
      rw [he]
      generalize (A.filter fun x => decide ((x + (k : Int)) % (m : Int) ∈ A)) = Q at *
      simp only [tW] at f2 ⊢
      simp [f2, hb]
  have hb : (fitsN m A).length < 16777216 := by have : (fitsN m A).length ≤ m := ixs_len _ _; omega
  generalize fitsN m A = G at *
  have e1 := neD_tW G G
  rw [decide_eq_true rfl] at e1
  simp only [tW] at hf f e1 ⊢
  simp [m_law_s33, hf, hr, f, hb, e1]
def badR : Nat → D
  | 0 => .tuple []
  | 1 => .tuple [.int 2]
  | 2 => .list [.int 1]
  | 3 => .tuple [.bool true]
  | _ => .none
theorem badR_ok (j : Nat) (hj : j < 5) : d_set_of_pattern [badR j] = .exc "BadSet" := by
  match j, hj with
  | 0, _ => kernel_rfl
  | 1, _ => kernel_rfl
  | 2, _ => kernel_rfl
  | 3, _ => kernel_rfl
  | 4, _ => kernel_rfl
theorem st34 {a0 a2 a3 a4 a5 a6 a7 a8 a9 a10 a11 a12 a13 a14 a15 a16 a17 a18 a19 a20 a21 a22 a23 a24 a25 a26 : Option D} {v : Nat → Int} {n : List Int} (ix : ∀ k : Nat, k < 40 → ixD (.list (n.map .int)) (.int (k : Int)) = .ok (.int (v k))) {j : Nat} (hj : v 22 % 5 = (j : Int)) (j5 : j < 5) : m_law_s34 [a0, some (.list (n.map .int)), a2, a3, a4, a5, a6, a7, a8, a9, a10, a11, a12, a13, a14, a15, a16, a17, a18, a19, a20, a21, a22, a23, a24, a25, a26] = .rt (.bool true) := by
  have i0 : ixD (.list (n.map .int)) (.int 22) = .ok (.int (v 22)) := ix 22 (by decide)
  have hb := badR_ok j j5
  have k1 : ixD (.tuple [.tuple [], .tuple [.int 2], .list [.int 1], .tuple [.bool true], .none]) (.int (j : Int)) = .ok (badR j) := by
    rw [ixD_tup, atI_nat]
    match j, j5 with
    | 0, _ => rfl
    | 1, _ => rfl
    | 2, _ => rfl
    | 3, _ => rfl
    | 4, _ => rfl
  simp [m_law_s34, i0, hj, k1, hb, catchD, tb_law_BadSet, R.bind]
  rfl
end Pd.Law
namespace Pd.Law
open PySem PySem.Spec PyProof.Rows L2 Pd
open Pd (D Env)
theorem plain (ns : List Int) (d : D) (_ : ns.length ≤ 63) (hd : d = .list (ns.map .int) ∨ d = .dict [(.none, .tuple (ns.map .int))]) : d_law [d] = .ok (.bool true) := by
  obtain ⟨c, hc⟩ := cell_ok ns d hd
  obtain ⟨n, hn, hp, hdr⟩ := draws_ok c 40 (by decide)
  have ix : ∀ k : Nat, k < 40 → ixD (.list (n.map .int)) (.int (k : Int)) = .ok (.int (n.getD k 0)) := fun k hk => ix_lI (by omega)
  have v0 : ∀ k, 0 ≤ n.getD k 0 := fun k => by
    rcases Nat.lt_or_ge k n.length with z | z
    · rw [getD_lt z]; exact hp _ (List.getElem_mem z)
    · rw [List.getD_eq_getElem?_getD, List.getElem?_eq_none z]; exact Int.le_refl 0
  generalize hv : (fun k => n.getD k 0) = v at *
  have ix : ∀ k : Nat, k < 40 → ixD (.list (n.map .int)) (.int (k : Int)) = .ok (.int (v k)) := fun k hk => by rw [← hv]; exact ix k hk
  have v0 : ∀ k, 0 ≤ v k := fun k => by rw [← hv]; exact v0 k
  obtain ⟨m, hm⟩ : ∃ m : Nat, v 0 % 16 + 1 = (m : Int) := ⟨(v 0 % 16 + 1).toNat, by have := v0 0; omega⟩
  have m1 : 1 ≤ m := by have := v0 0; omega
  have m2 : m ≤ 16 := by have := v0 0; omega
  obtain ⟨z, hz⟩ : ∃ z : Nat, v 1 % (m : Int) + 1 = (z : Int) := ⟨(v 1 % (m : Int) + 1).toNat, by have := Int.emod_nonneg (v 1) (show (m : Int) ≠ 0 by omega); omega⟩
  have z1 : 1 ≤ z := by have := Int.emod_nonneg (v 1) (show (m : Int) ≠ 0 by omega); omega
  have z2 : z ≤ m := by have := Int.emod_lt_of_pos (v 1) (show (0 : Int) < m by omega); omega
  obtain ⟨s, hs⟩ : ∃ s : Nat, v 2 % (z : Int) = (s : Int) := ⟨(v 2 % (z : Int)).toNat, by have := Int.emod_nonneg (v 2) (show (z : Int) ≠ 0 by omega); omega⟩
  have s1 : s < z := by have := Int.emod_lt_of_pos (v 2) (show (0 : Int) < z by omega); omega
  obtain ⟨f, hf, okf, k, hk, hkf⟩ := folded_ok z1 z2 m2
  have okE := evN_ok (m := m) (d := z) (s := 0) (by omega) z2 (by omega)
  have okO := evN_ok (m := m) (d := z) (s := s) (by omega) z2 s1
  have FO : ∃ t, isF m (evN m z s) t := ⟨_, evN_F (by omega) z2 s1⟩
  have tO := (F_turn okO m2 (by rw [evN_len]; omega)).mp FO
  rw [evN_len] at tO
  have hA : evN m z s ∈ turnsN m (evN m z 0) := mem_turns.mpr tO
  have hB : onesN f ∈ turnsN m (evN m z 0) := mem_turns.mpr ⟨k, hk, hkf⟩
  have hlf : (onesN f).length = z := by rw [hkf, movN_len, evN_len]
  have hbf : balB m (mem m (onesN f)) = true := by
    have ok := ones_ok okf
    refine balB_iff.mpr ((F_bal ok m2 (by omega)).mpr ((F_turn ok m2 (by omega)).mpr ⟨k, hk, ?_⟩))
    rw [hlf]
    exact hkf
  obtain ⟨w, hw⟩ : ∃ w : List Int, w = (List.range m).map fun k : Nat => if v (3 + k) % 5 < 2 then 1 else 0 := ⟨_, rfl⟩
  have okw : POk m w := ⟨m1, by omega, by rw [hw, List.length_map, List.length_range], fun x hx => by
    rw [hw] at hx
    obtain ⟨k, _, rfl⟩ := List.mem_map.mp hx
    by_cases c : v (3 + k) % 5 < 2
    · rw [if_pos c]; exact .inr rfl
    · rw [if_neg c]; exact .inl rfl⟩
  have okA := ones_ok okw
  obtain ⟨t, ht⟩ : ∃ t : Nat, v 20 % (m : Int) = (t : Int) := ⟨(v 20 % (m : Int)).toNat, by have := Int.emod_nonneg (v 20) (show (m : Int) ≠ 0 by omega); omega⟩
  have t1 : t < m := by have := Int.emod_lt_of_pos (v 20) (show (0 : Int) < m by omega); omega
  obtain ⟨g, hg⟩ : ∃ g : Nat, v 21 % 5 = (g : Int) := ⟨(v 21 % 5).toNat, by omega⟩
  obtain ⟨j, hj⟩ : ∃ j : Nat, v 22 % 5 = (j : Int) := ⟨(v 22 % 5).toNat, by omega⟩
  have j5 : j < 5 := by omega
  show finD (m_law [some d, none, none, none, none, none, none, none, none, none, none, none, none, none, none, none, none, none, none, none, none, none, none, none, none, none, none]) = _
  unfold m_law
  rw [seq_nx (st0 hc hdr), seq_nx (st1 ix hm), seq_nx (st2 ix m1 hz), seq_nx (st3 ix z1 hs), seq_nx (st4 z1 z2 m2 s1), seq_nx (st5 z1 z2 m2 s1), seq_nx (st6 z1 z2 m2), seq_nx (st7 hf), seq_nx (st8 okE), seq_nx (st9 okf hA hB hbf), seq_nx (st10 ix m2 hw), seq_nx (st11 okw), seq_nx (st12 okw), seq_nx (st13 okA), seq_nx (st14 okA), seq_nx (st15 okA), seq_nx (st16 okw m2), seq_nx (st17 ix m1 ht), seq_nx (st18 z1 z2 m2 t1)]
  by_cases nd : (plcN m t z).Nodup
  · have okS := scl_ok (t := t) (z := z) m1 (show m ≤ 24 by omega) nd
    rw [seq_nx (st19 z1 z2 m2 t1 nd), seq_nx (st20 z1 z2 m2 t1 nd), seq_nx (st21 z1 z2 m2 (scl_len m t z)), seq_nx (st22 okS), seq_nx (st23 z1 z2 m2 t1 nd), seq_nx (st24 z1 z2 m2 t1), seq_nx (st25 z1 z2 m2 t1 nd), seq_nx (st26 okS (step_gen (by omega) z1 t1)), seq_nx st27, seq_nx (st28 okA).choose_spec.choose_spec.choose_spec]
    rw [seq_nx (st29 okA), seq_nx (st30 ix hg), seq_nx (st31 okA).1, seq_nx (st32 okA (st31 (a0 := none) (a1 := none) (a3 := none) (a4 := none) (a5 := none) (a6 := none) (a7 := none) (a8 := none) (a9 := none) (a11 := none) (a12 := none) (a13 := none) (a14 := none) (a15 := none) (a16 := none) (a17 := none) (a18 := none) (a19 := none) (a20 := none) (a21 := none) (a22 := none) (a24 := none) (a25 := none) (a26 := none) okA).2), seq_nx (st33 okA), st34 ix hj j5]
    rfl
  · have hr : ∀ (B : Env → RS) (ρ : Env), m_law_s19 ρ = .rt (.bool true) → seqD m_law_s19 B ρ = .rt (.bool true) := fun B ρ h => by rw [q_seq, h]; rfl
    rw [hr _ _ (st19r z1 z2 m2 t1 nd)]
    rfl
end Pd.Law
namespace Pd.Law
open PySem PySem.Spec PyProof.Rows L2 Pd
open Pd (D Env)
def fn : List He.DefD := [⟨("_law_draws", none), "_law_draws", "_law_draws", defArgs (top 30), defBody (top 30), defScope (top 30), [], []⟩, ⟨("is_number", none), "is_number", "is_number", defArgs (top 5), defBody (top 5), defScope (top 5), [], []⟩, ⟨("check_round", none), "check_round", "check_round", defArgs (top 8), defBody (top 8), defScope (top 8), [], []⟩, ⟨("check_parts", none), "check_parts", "check_parts", defArgs (top 12), defBody (top 12), defScope (top 12), [], []⟩, ⟨("even_set", none), "even_set", "even_set", defArgs (top 13), defBody (top 13), defScope (top 13), [], []⟩, ⟨("folded_pattern", none), "folded_pattern", "folded_pattern", defArgs (top 14), defBody (top 14), defScope (top 14), [], []⟩, ⟨("_law_spans", none), "_law_spans", "_law_spans", defArgs (top 32), defBody (top 32), defScope (top 32), [], []⟩, ⟨("scale_of", none), "scale_of", "scale_of", defArgs (top 20), defBody (top 20), defScope (top 20), [], []⟩, ⟨("_law_cell", none), "_law_cell", "_law_cell", defArgs (top 29), defBody (top 29), defScope (top 29), [], []⟩, ⟨("_law_moved", none), "_law_moved", "_law_moved", defArgs (top 31), defBody (top 31), defScope (top 31), [], []⟩, ⟨("closes", none), "closes", "closes", defArgs (top 24), defBody (top 24), defScope (top 24), [], []⟩, ⟨("is_well_formed", none), "is_well_formed", "is_well_formed", defArgs (top 23), defBody (top 23), defScope (top 23), [], []⟩, ⟨("check_set", none), "check_set", "check_set", defArgs (top 9), defBody (top 9), defScope (top 9), [], []⟩, ⟨("generators", none), "generators", "generators", defArgs (top 21), defBody (top 21), defScope (top 21), [], []⟩, ⟨("steps_round", none), "steps_round", "steps_round", defArgs (top 10), defBody (top 10), defScope (top 10), [], []⟩, ⟨("onsets_apart", none), "onsets_apart", "onsets_apart", defArgs (top 26), defBody (top 26), defScope (top 26), [], []⟩, ⟨("fits_twice", none), "fits_twice", "fits_twice", defArgs (top 27), defBody (top 27), defScope (top 27), [], []⟩, ⟨("set_of_pattern", none), "set_of_pattern", "set_of_pattern", defArgs (top 15), defBody (top 15), defScope (top 15), [], []⟩, ⟨("spans", none), "spans", "spans", defArgs (top 17), defBody (top 17), defScope (top 17), [], []⟩, ⟨("is_even", none), "is_even", "is_even", defArgs (top 18), defBody (top 18), defScope (top 18), [], []⟩, ⟨("is_balanced", none), "is_balanced", "is_balanced", defArgs (top 25), defBody (top 25), defScope (top 25), [], []⟩, ⟨("pattern_of", none), "pattern_of", "pattern_of", defArgs (top 16), defBody (top 16), defScope (top 16), [], []⟩, ⟨("_law_balanced", none), "_law_balanced", "_law_balanced", defArgs (top 33), defBody (top 33), defScope (top 33), [], []⟩, ⟨("has_two_spans", none), "has_two_spans", "has_two_spans", defArgs (top 19), defBody (top 19), defScope (top 19), [], []⟩, ⟨("gap_sizes", none), "gap_sizes", "gap_sizes", defArgs (top 22), defBody (top 22), defScope (top 22), [], []⟩, ⟨("law", none), "law", "law", defArgs (top 34), defBody (top 34), defScope (top 34), [], []⟩]
def fa0 : List He.Fa := [.glo "_law_draws", .glo "is_number", .glo "check_round", .glo "check_parts", .glo "even_set", .glo "folded_pattern", .glo "_law_spans", .glo "scale_of", .glo "_law_cell", .glo "_law_moved", .glo "closes", .glo "is_well_formed", .glo "check_set", .glo "generators", .glo "steps_round", .glo "onsets_apart", .glo "fits_twice", .glo "set_of_pattern", .glo "spans", .glo "is_even", .glo "is_balanced", .glo "pattern_of", .glo "_law_balanced", .glo "has_two_spans", .glo "gap_sizes", .glo "law", .glo "BadNumber", .exc "BadNumber", .glo "BadSet", .exc "BadSet", .int "MOST_ROUND" (24), .exm "BadNumber" "BadNumber" true, .exm "BadSet" "BadNumber" false, .exm "BadNumber" "BadSet" false, .exm "BadSet" "BadSet" true]
def fa : List He.Fa := fa0 ++ btNames.map He.Fa.free
def tf : List He.Defn := [("closes", none), ("check_set", none), ("generators", none), ("onsets_apart", none), ("fits_twice", none), ("set_of_pattern", none), ("is_even", none), ("has_two_spans", none)]
abbrev hk : PySem.W.Hook := He.hookX 4 fa fn [] tf (fun _ => true)
def ob (s : PySem.W.SharedT) : He.AlX := He.obsX 4 fa fn [] tf (fun _ => true) (HandSHeadRun.getT s)
theorem ob_eq (s : PySem.W.SharedT) : ob s = hk.obs s.abs := He.obsX_eq (HandSHeadRun.getT_eq s)
abbrev RR : PySem.W.OpenRow := PySem.W.OpenLaw.row PySem.Challenge.rw_tuneworks_k68_whole_even_patterns
def loose0 : List Str := ["CantusError", "BadSet", "BadNumber", "is_number", "MOST_ROUND", "check_round", "check_set", "steps_round", "check_parts", "even_set", "folded_pattern", "set_of_pattern", "pattern_of", "spans", "is_even", "has_two_spans", "scale_of", "generators", "gap_sizes", "is_well_formed", "closes", "is_balanced", "onsets_apart", "fits_twice", "_law_cell", "_law_draws", "_law_moved", "_law_spans", "_law_balanced"]
def loose : List Str := loose0
theorem run (w : World) : HandSHeadRun.RunEq RR (PySem.W.view RR.prog [34]) hk ob 4000 loose w := by
  intro os
  kernel_rfl
theorem facts {l : PySem.W.OpenLaw} {w : World} {K : PySem.W.Frag} {h : Heap} {mg : Str → Option Value} {f : Addr} (X : K.In h) (G : h.Ns mainGlobals mg) (hfa : mg ("law" : Str) = some (.ref f)) (c : He.SaysX fa fn [] tf (fun _ => true) w h K)
    (plain : ∀ (ns : List Int) (d : D), ns.length ≤ 63 → (d = .list (ns.map .int) ∨ d = .dict [(.none, .tuple (ns.map .int))]) → d_law [d] = .ok (.bool true)) : LamX.LawAtS l w K (L2.CX l.prog w) 8 63 "script" mg f h := by
  have cd := c.t.d
  obtain ⟨fd0, F0⟩ := cd.def_ 0 rfl
  obtain ⟨fd1, F1⟩ := cd.def_ 1 rfl
  obtain ⟨fd2, F2⟩ := cd.def_ 2 rfl
  obtain ⟨fd3, F3⟩ := cd.def_ 3 rfl
  obtain ⟨fd4, F4⟩ := cd.def_ 4 rfl
  obtain ⟨fd5, F5⟩ := cd.def_ 5 rfl
  obtain ⟨fd6, F6⟩ := cd.def_ 6 rfl
  obtain ⟨fd7, F7⟩ := cd.def_ 7 rfl
  obtain ⟨fd8, F8⟩ := cd.def_ 8 rfl
  obtain ⟨fd9, F9⟩ := cd.def_ 9 rfl
  obtain ⟨fd10, F10⟩ := cd.def_ 10 rfl
  obtain ⟨fd11, F11⟩ := cd.def_ 11 rfl
  obtain ⟨fd12, F12⟩ := cd.def_ 12 rfl
  obtain ⟨fd13, F13⟩ := cd.def_ 13 rfl
  obtain ⟨fd14, F14⟩ := cd.def_ 14 rfl
  obtain ⟨fd15, F15⟩ := cd.def_ 15 rfl
  obtain ⟨fd16, F16⟩ := cd.def_ 16 rfl
  obtain ⟨fd17, F17⟩ := cd.def_ 17 rfl
  obtain ⟨fd18, F18⟩ := cd.def_ 18 rfl
  obtain ⟨fd19, F19⟩ := cd.def_ 19 rfl
  obtain ⟨fd20, F20⟩ := cd.def_ 20 rfl
  obtain ⟨fd21, F21⟩ := cd.def_ 21 rfl
  obtain ⟨fd22, F22⟩ := cd.def_ 22 rfl
  obtain ⟨fd23, F23⟩ := cd.def_ 23 rfl
  obtain ⟨fd24, F24⟩ := cd.def_ 24 rfl
  obtain ⟨fd25, F25⟩ := cd.def_ 25 rfl
  have g0 := He.glo_ok X G (cd.fact 0 (f := .glo "_law_draws") rfl)
  have g1 := He.glo_ok X G (cd.fact 1 (f := .glo "is_number") rfl)
  have g2 := He.glo_ok X G (cd.fact 2 (f := .glo "check_round") rfl)
  have g3 := He.glo_ok X G (cd.fact 3 (f := .glo "check_parts") rfl)
  have g4 := He.glo_ok X G (cd.fact 4 (f := .glo "even_set") rfl)
  have g5 := He.glo_ok X G (cd.fact 5 (f := .glo "folded_pattern") rfl)
  have g6 := He.glo_ok X G (cd.fact 6 (f := .glo "_law_spans") rfl)
  have g7 := He.glo_ok X G (cd.fact 7 (f := .glo "scale_of") rfl)
  have g8 := He.glo_ok X G (cd.fact 8 (f := .glo "_law_cell") rfl)
  have g9 := He.glo_ok X G (cd.fact 9 (f := .glo "_law_moved") rfl)
  have g10 := He.glo_ok X G (cd.fact 10 (f := .glo "closes") rfl)
  have g11 := He.glo_ok X G (cd.fact 11 (f := .glo "is_well_formed") rfl)
  have g12 := He.glo_ok X G (cd.fact 12 (f := .glo "check_set") rfl)
  have g13 := He.glo_ok X G (cd.fact 13 (f := .glo "generators") rfl)
  have g14 := He.glo_ok X G (cd.fact 14 (f := .glo "steps_round") rfl)
  have g15 := He.glo_ok X G (cd.fact 15 (f := .glo "onsets_apart") rfl)
  have g16 := He.glo_ok X G (cd.fact 16 (f := .glo "fits_twice") rfl)
  have g17 := He.glo_ok X G (cd.fact 17 (f := .glo "set_of_pattern") rfl)
  have g18 := He.glo_ok X G (cd.fact 18 (f := .glo "spans") rfl)
  have g19 := He.glo_ok X G (cd.fact 19 (f := .glo "is_even") rfl)
  have g20 := He.glo_ok X G (cd.fact 20 (f := .glo "is_balanced") rfl)
  have g21 := He.glo_ok X G (cd.fact 21 (f := .glo "pattern_of") rfl)
  have g22 := He.glo_ok X G (cd.fact 22 (f := .glo "_law_balanced") rfl)
  have g23 := He.glo_ok X G (cd.fact 23 (f := .glo "has_two_spans") rfl)
  have g24 := He.glo_ok X G (cd.fact 24 (f := .glo "gap_sizes") rfl)
  have g25 := He.glo_ok X G (cd.fact 25 (f := .glo "law") rfl)
  have x_BadNumber : ExD K mg "BadNumber" := ⟨He.glo_ok X G (cd.fact 26 (f := .glo "BadNumber") rfl), (He.exc_ok (cd.fact 27 (f := .exc "BadNumber") rfl)).1, (He.exc_ok (cd.fact 27 (f := .exc "BadNumber") rfl)).2.1, (He.exc_ok (cd.fact 27 (f := .exc "BadNumber") rfl)).2.2.1, (He.exc_ok (cd.fact 27 (f := .exc "BadNumber") rfl)).2.2.2⟩
  have x_BadSet : ExD K mg "BadSet" := ⟨He.glo_ok X G (cd.fact 28 (f := .glo "BadSet") rfl), (He.exc_ok (cd.fact 29 (f := .exc "BadSet") rfl)).1, (He.exc_ok (cd.fact 29 (f := .exc "BadSet") rfl)).2.1, (He.exc_ok (cd.fact 29 (f := .exc "BadSet") rfl)).2.2.1, (He.exc_ok (cd.fact 29 (f := .exc "BadSet") rfl)).2.2.2⟩
  have y_law_BadNumber : Exm K "BadNumber" tb_law_BadNumber := by
    intro p hp
    unfold tb_law_BadNumber at hp
    simp only [List.mem_cons, List.not_mem_nil, or_false] at hp
    rcases hp with rfl | rfl
    · exact He.exm_ok (cd.fact 31 (f := .exm "BadNumber" "BadNumber" true) rfl)
    · exact He.exm_ok (cd.fact 32 (f := .exm "BadSet" "BadNumber" false) rfl)
  have y_law_BadSet : Exm K "BadSet" tb_law_BadSet := by
    intro p hp
    unfold tb_law_BadSet at hp
    simp only [List.mem_cons, List.not_mem_nil, or_false] at hp
    rcases hp with rfl | rfl
    · exact He.exm_ok (cd.fact 33 (f := .exm "BadNumber" "BadSet" false) rfl)
    · exact He.exm_ok (cd.fact 34 (f := .exm "BadSet" "BadSet" true) rfl)
  have k_MOST_ROUND : ∃ t, mg "MOST_ROUND" = some (.int (24) t) := He.int_ok X G (cd.fact 30 (f := .int "MOST_ROUND" (24)) rfl)
  have e := hfa.symm.trans g25
  cases e
  have B : Bt mg := bt_of fun x hx => He.free_ok X G (cd.facts (f := .free x) (List.mem_append_right _ (List.mem_map.mpr ⟨x, hx, rfl⟩)))
  have b := FunD.bindsA (ps := ["script"]) F25 fun _ _ _ _ _ _ us hl => match us, hl with | [_], _ => rfl
  refine lawAt (tf := tf) (F := d_law) X c.hd c.out c.empty (fun s v => b s [v] rfl) (fun base hK hg hT => ?_) plain
  have h__law_draws : FD l.prog w K mg base (tf.map fun p => (He.cT K p).2) 1 "_law_draws" 2 d__law_draws := ok__law_draws B F0 g0
  have h_is_number : FD l.prog w K mg base (tf.map fun p => (He.cT K p).2) 1 "is_number" 1 d_is_number := ok_is_number B F1 g1
  have h_check_round : FD l.prog w K mg base (tf.map fun p => (He.cT K p).2) 2 "check_round" 1 d_check_round := ok_check_round B F2 g2 x_BadSet k_MOST_ROUND h_is_number
  have h_check_parts : FD l.prog w K mg base (tf.map fun p => (He.cT K p).2) 3 "check_parts" 2 d_check_parts := ok_check_parts B F3 g3 x_BadNumber h_check_round h_is_number
  have h_even_set : FD l.prog w K mg base (tf.map fun p => (He.cT K p).2) 4 "even_set" 3 d_even_set := ok_even_set B F4 g4 x_BadNumber h_check_parts h_is_number
  have h_folded_pattern : FD l.prog w K mg base (tf.map fun p => (He.cT K p).2) 4 "folded_pattern" 2 d_folded_pattern := ok_folded_pattern B F5 g5 h_check_parts
  have h__law_spans : FD l.prog w K mg base (tf.map fun p => (He.cT K p).2) 1 "_law_spans" 2 d__law_spans := ok__law_spans B F6 g6
  have h_scale_of : FD l.prog w K mg base (tf.map fun p => (He.cT K p).2) 4 "scale_of" 3 d_scale_of := ok_scale_of B F7 g7 x_BadNumber h_check_parts h_is_number
  have h__law_cell : FD l.prog w K mg base (tf.map fun p => (He.cT K p).2) 1 "_law_cell" 2 d__law_cell := ok__law_cell B F8 g8
  have h__law_moved : FD l.prog w K mg base (tf.map fun p => (He.cT K p).2) 1 "_law_moved" 3 d__law_moved := ok__law_moved B F9 g9
  have h_closes : FD l.prog w K mg base (tf.map fun p => (He.cT K p).2) 4 "closes" 2 d_closes := ok_closes B F10 g10 (hT ("closes", none) List.mem_cons_self) (List.mem_map.mpr ⟨("closes", none), List.mem_cons_self, rfl⟩)
  have h_is_well_formed : FD l.prog w K mg base (tf.map fun p => (He.cT K p).2) 5 "is_well_formed" 3 d_is_well_formed := ok_is_well_formed B F11 g11 h_scale_of h_closes
  have h_check_set : FD l.prog w K mg base (tf.map fun p => (He.cT K p).2) 5 "check_set" 2 d_check_set := ok_check_set B F12 g12 x_BadSet h_check_round h_is_number (hT ("check_set", none) (List.mem_cons_of_mem _ List.mem_cons_self)) (List.mem_map.mpr ⟨("check_set", none), (List.mem_cons_of_mem _ List.mem_cons_self), rfl⟩)
  have h_generators : FD l.prog w K mg base (tf.map fun p => (He.cT K p).2) 6 "generators" 2 d_generators := ok_generators B F13 g13 h_check_set (hT ("generators", none) (List.mem_cons_of_mem _ (List.mem_cons_of_mem _ List.mem_cons_self))) (List.mem_map.mpr ⟨("generators", none), (List.mem_cons_of_mem _ (List.mem_cons_of_mem _ List.mem_cons_self)), rfl⟩)
  have h_steps_round : FD l.prog w K mg base (tf.map fun p => (He.cT K p).2) 6 "steps_round" 2 d_steps_round := ok_steps_round B F14 g14 h_check_set
  have h_onsets_apart : FD l.prog w K mg base (tf.map fun p => (He.cT K p).2) 7 "onsets_apart" 3 d_onsets_apart := ok_onsets_apart B F15 g15 x_BadNumber h_check_set h_is_number h_steps_round (hT ("onsets_apart", none) (List.mem_cons_of_mem _ (List.mem_cons_of_mem _ (List.mem_cons_of_mem _ List.mem_cons_self)))) (List.mem_map.mpr ⟨("onsets_apart", none), (List.mem_cons_of_mem _ (List.mem_cons_of_mem _ (List.mem_cons_of_mem _ List.mem_cons_self))), rfl⟩)
  have h_fits_twice : FD l.prog w K mg base (tf.map fun p => (He.cT K p).2) 6 "fits_twice" 2 d_fits_twice := ok_fits_twice B F16 g16 h_check_set (hT ("fits_twice", none) (List.mem_cons_of_mem _ (List.mem_cons_of_mem _ (List.mem_cons_of_mem _ (List.mem_cons_of_mem _ List.mem_cons_self))))) (List.mem_map.mpr ⟨("fits_twice", none), (List.mem_cons_of_mem _ (List.mem_cons_of_mem _ (List.mem_cons_of_mem _ (List.mem_cons_of_mem _ List.mem_cons_self)))), rfl⟩)
  have h_set_of_pattern : FD l.prog w K mg base (tf.map fun p => (He.cT K p).2) 5 "set_of_pattern" 1 d_set_of_pattern := ok_set_of_pattern B F17 g17 x_BadSet h_is_number h_check_round (hT ("set_of_pattern", none) (List.mem_cons_of_mem _ (List.mem_cons_of_mem _ (List.mem_cons_of_mem _ (List.mem_cons_of_mem _ (List.mem_cons_of_mem _ List.mem_cons_self)))))) (List.mem_map.mpr ⟨("set_of_pattern", none), (List.mem_cons_of_mem _ (List.mem_cons_of_mem _ (List.mem_cons_of_mem _ (List.mem_cons_of_mem _ (List.mem_cons_of_mem _ List.mem_cons_self))))), rfl⟩)
  have h_spans : FD l.prog w K mg base (tf.map fun p => (He.cT K p).2) 6 "spans" 2 d_spans := ok_spans B F18 g18 h_check_set
  have h_is_even : FD l.prog w K mg base (tf.map fun p => (He.cT K p).2) 7 "is_even" 2 d_is_even := ok_is_even B F19 g19 h_spans (hT ("is_even", none) (List.mem_cons_of_mem _ (List.mem_cons_of_mem _ (List.mem_cons_of_mem _ (List.mem_cons_of_mem _ (List.mem_cons_of_mem _ (List.mem_cons_of_mem _ List.mem_cons_self))))))) (List.mem_map.mpr ⟨("is_even", none), (List.mem_cons_of_mem _ (List.mem_cons_of_mem _ (List.mem_cons_of_mem _ (List.mem_cons_of_mem _ (List.mem_cons_of_mem _ (List.mem_cons_of_mem _ List.mem_cons_self)))))), rfl⟩)
  have h_is_balanced : FD l.prog w K mg base (tf.map fun p => (He.cT K p).2) 6 "is_balanced" 1 d_is_balanced := ok_is_balanced B F20 g20 h_set_of_pattern
  have h_pattern_of : FD l.prog w K mg base (tf.map fun p => (He.cT K p).2) 6 "pattern_of" 2 d_pattern_of := ok_pattern_of B F21 g21 h_check_set
  have h__law_balanced : FD l.prog w K mg base (tf.map fun p => (He.cT K p).2) 1 "_law_balanced" 1 d__law_balanced := ok__law_balanced B F22 g22
  have h_has_two_spans : FD l.prog w K mg base (tf.map fun p => (He.cT K p).2) 7 "has_two_spans" 2 d_has_two_spans := ok_has_two_spans B F23 g23 h_spans (hT ("has_two_spans", none) (List.mem_cons_of_mem _ (List.mem_cons_of_mem _ (List.mem_cons_of_mem _ (List.mem_cons_of_mem _ (List.mem_cons_of_mem _ (List.mem_cons_of_mem _ (List.mem_cons_of_mem _ List.mem_cons_self)))))))) (List.mem_map.mpr ⟨("has_two_spans", none), (List.mem_cons_of_mem _ (List.mem_cons_of_mem _ (List.mem_cons_of_mem _ (List.mem_cons_of_mem _ (List.mem_cons_of_mem _ (List.mem_cons_of_mem _ (List.mem_cons_of_mem _ List.mem_cons_self))))))), rfl⟩)
  have h_gap_sizes : FD l.prog w K mg base (tf.map fun p => (He.cT K p).2) 7 "gap_sizes" 3 d_gap_sizes := ok_gap_sizes B F24 g24 h_scale_of h_steps_round
  exact ok_law B F25 g25 x_BadNumber x_BadSet y_law_BadSet y_law_BadNumber h__law_cell h__law_draws h_even_set h_is_even h_folded_pattern h__law_moved h_set_of_pattern h_is_balanced h_pattern_of h__law_balanced h__law_spans h_spans h_has_two_spans h_scale_of h_gap_sizes h_is_well_formed h_generators h_onsets_apart h_fits_twice
end Pd.Law
open PySem PySem.W PySem.Calls PyProof.Rows
theorem Pd.Law.holds_of (plain : ∀ (ns : List Int) (d : Pd.D), ns.length ≤ 63 → (d = .list (ns.map .int) ∨ d = .dict [(.none, .tuple (ns.map .int))]) → Pd.Law.d_law [d] = .ok (.bool true)) : PySem.Challenge.rw_tuneworks_k68_whole_even_patterns.Holds := by
  w_on; o_law
  refine HandSHeadRun.head_any (r := Pd.Law.RR) (q := view Pd.Law.RR.prog [34]) (H := Pd.Law.hk) (ob := Pd.Law.ob) (M := 4000) (loose := Pd.Law.loose) (d := HandSHeadRun.topDef Pd.Law.RR.prog 34) (kwd := []) Pd.Law.ob_eq
    (by kernel_rfl) (fun s => by kernel_rfl) Pd.Law.run (by kernel_rfl) (by kernel_rfl) (by kernel_rfl) (by rfl) (by first | assumption | decide +kernel) (by decide +kernel) ⟨rfl, rfl, rfl, rfl, rfl, by decide +kernel⟩ ?hw ?hc
  case hw => w_witness2
  case hc =>
    refine LamX.walk_ofTsE (l := PySem.Challenge.rw_tuneworks_k68_whole_even_patterns) (n := 63) (k := 8) (x := "script") (CX := L2.CX RR.prog) rfl (by decide) (by kernel_rfl) ⟨rfl, by decide, by decide⟩ ?F (fun w H s e s' z => by
      obtain ⟨a, B, H', cls, d, _, _, _, _, _, _, _, h⟩ := z
      exact h)
    intro w mg f h Y G hmg0
    obtain ⟨K, KX, c⟩ := Y
    have hmg : mg ("law" : PySem.Str) = some (.ref f) := by
      have e : (HandSHeadRun.topDef Pd.Law.RR.prog 34).name = ("law" : PySem.Str) := by kernel_rfl
      rw [← e]
      exact hmg0
    exact ⟨K, KX, Pd.Law.facts KX G hmg c plain⟩
theorem PySem.Challenge.cw_tuneworks_k68_whole_even_patterns_holds : PySem.Challenge.rw_tuneworks_k68_whole_even_patterns.Holds :=
  Pd.Law.holds_of Pd.Law.plain
