import PyProof.Rows.All
import Wide.All
import OpenK.AllK
import Wide.FinOn
import HandS.TupAny
import HandS.TupMul
import PyProof.EqAt
import PyProof.EqKinds
import PyProof.TupleCall
import HandS.ForMost
import HandS.ForExc
import HandS.AnyAll
import HandS.Conv
import HandS.Rev
import HandS.IsInst
import HandS.Deep
import HandS.EndTab
import HandS.HeadWalk
import HandS.HeadHook4
import HandS.TryMany
import HandS.CallSlots
import HandS.Flow
import HandS.TupLe
import HandS.Style
import HandS.GenBody
import HandS.GenList
import HandS.RevTup
import KE.DataMinMax
import PySem.Challenge.RW_tuneworks_k85_answers_and_entries
import KE.KLam
import HandS.Head0
import HandS.Head1
import HandS.Head2
import HandS.HeadEnd
set_option Elab.async false
set_option linter.all false
set_option maxHeartbeats 4000000
set_option maxRecDepth 100000
namespace Pd
open PySem PySem.Spec PyProof.Rows L2 HT
/-! ### tuples whose object is known to have no dict -/
def NewT (o : Obj) : Prop := o.cls = .type "tuple" ∧ o.dict = none
def NT (K : PySem.W.Frag) (H : Hp) (a : Addr) (xs : List V) : Prop :=
  (∃ o, H a = some (.frz o (.tup xs)) ∧ NewT o) ∨
    ∃ (o : Obj) (its : Array Value) (n : Nat), K.lookup a = some o ∧ NewT o ∧ o.data = .seq its n ∧ its.size ≤ sizeLine ∧ Vals xs its.toList
theorem NT.sq {K : PySem.W.Frag} {H : Hp} {a : Addr} {xs : List V} (h : NT K H a xs) : SqT K H a xs := by
  rcases h with ⟨o, h, _⟩ | ⟨o, its, n, h1, h2, h3⟩
  · exact .inl (.inr ⟨o, h⟩)
  · exact .inr ⟨o, its, n, h1, h2.1, h3⟩
theorem NT.new {K : PySem.W.Frag} {H : Hp} {a : Addr} {xs : List V} {o : Obj} (h : NewT o) : NT K (upd H a (.frz o (.tup xs))) a xs := .inl ⟨o, upd_same, h⟩
section
variable {X : Cx}
theorem NT.obj {pins : List (Addr × Obj)} {σ : L2.St} {H : Hp} {s : Shared} {a : Addr} {xs : List V} (I : Inv X pins σ H s) (h : NT X.K H a xs) : ∃ o, s.heap.get? a = some o ∧ NewT o := by
  rcases h with ⟨o, h, n⟩ | ⟨o, its, n, h1, h2, h3⟩
  · obtain ⟨e, _⟩ := (show ObjOk X.prog X.w H s.heap a (.frz o (.tup xs)) from I.hok a _ h)
    exact ⟨o, e, n⟩
  · exact ⟨o, I.kIn a o h1, h2⟩
theorem laidT {pins : List (Addr × Obj)} {σ : L2.St} {H : Hp} {s : Shared} {xs : List V} {its : List Value} (I : Inv X pins σ H s) (r : Vals xs its) (hz : xs.length ≤ sizeLine) (t : Nat) :
    Inv X pins σ (upd H s.heap.objs.size (.frz { cls := .type "tuple", data := .seq its.toArray } (.tup xs))) { s with heap := s.heap.push { cls := .type "tuple", data := .seq its.toArray }, toks := t } :=
  I.laid (fun b o e => Heap.get?_push_of_some _ e) (Nat.le_refl _) ⟨Heap.get?_push_size _ rfl, hz, its, r, IsTup.new _ _⟩
/-- (e, ..) -/
def tTupF (t : TA) : TE := fun σ H Q => t σ H fun xs H1 => xs.length ≤ sizeLine ∧ ∀ p o, H1 p = none → NewT o → Q (.ref p) (upd H1 p (.frz o (.tup xs)))
theorem pe_tupF {es : List Expr} {x1} {pos : Pos} {t : TA} (h : PA X es t) : PE X (.Tuple es x1 pos) (tTupF t) := by
  refine ⟨fun pins s σ H Q I hq => ?_⟩
  refine wpAny_Tuple_spliced (thn (h.run pos pins s σ H _ I hq) fun us s1 ⟨xs, H1, I1, r, z, q⟩ => ⟨by rw [← r.length]; exact z, ?_⟩)
  exact ⟨.ref s1.heap.objs.size, _, laidT I1 r z s1.toks, rfl, q _ _ (I1.hok.fresh (Nat.le_refl _)) ⟨rfl, rfl⟩⟩
/-- t + u -/
def rCatF (K : PySem.W.Frag) : R2 := fun x y H Q => ∃ a b xs ys, x = .ref a ∧ y = .ref b ∧ SqT K H a xs ∧ SqT K H b ys ∧ xs.length + ys.length ≤ sizeLine ∧
  (xs = [] → Q (.ref b) H) ∧ (xs ≠ [] → ys = [] → Q (.ref a) H) ∧ (xs ≠ [] → ys ≠ [] → ∀ p o, H p = none → NewT o → Q (.ref p) (upd H p (.frz o (.tup (xs ++ ys)))))
theorem op_catF : OpR X (binaryOp .Add) (rCatF X.K) := by
  intro pins s σ H x y v u Q I rx ry h
  obtain ⟨a, b, xs, ys, rfl, rfl, ha, hb, hz, q0, q1, q2⟩ := h
  cases rx
  cases ry
  obtain ⟨its, r1, p1, _⟩ := I.tuple ha
  obtain ⟨its2, r2, p2, _⟩ := I.tuple hb
  by_cases hx : xs = []
  · subst hx
    cases r1
    exact cat_tup0 p1 p2 ⟨.ref b, H, I, rfl, q0 rfl⟩
  · refine HT.cat_tup p1 p2 (fun z => hx (r1.nil_iff.mp z)) (fun z => ⟨.ref a, H, I, rfl, q1 hx (r2.nil_iff.mp z)⟩) (fun z => ?_) (by rw [← r1.length, ← r2.length]; exact hz)
    exact ⟨.ref s.heap.objs.size, _, laidT I (r1.append r2) (by rw [List.length_append]; exact hz) s.toks, rfl, q2 hx (fun w => z (r2.nil_iff.mpr w)) _ _ (I.hok.fresh (Nat.le_refl _)) ⟨rfl, rfl⟩⟩
/-- t[lo:hi]: the whole of it is t itself -/
def rSlF (K : PySem.W.Frag) : V → Option Int → Option Int → Hp → VK → Prop := fun x lo hi H Q => ∃ a xs, x = .ref a ∧ SqT K H a xs ∧
  (HT.sIx xs.length 0 lo = 0 ∧ HT.sIx xs.length xs.length hi = xs.length → Q (.ref a) H) ∧ (¬ (HT.sIx xs.length 0 lo = 0 ∧ HT.sIx xs.length xs.length hi = xs.length) → ∀ p o, H p = none → NewT o → Q (.ref p) (upd H p (.frz o (.tup (cutV xs lo hi)))))
theorem sl_tupF : SlR X (rSlF X.K) := by
  intro pins s σ H x v vl vu lo hi sl Q I rx hs pl pu h
  obtain ⟨a, xs, rfl, hx, q1, q2⟩ := h
  cases rx
  obtain ⟨its, r, ht, hz⟩ := I.tuple hx
  have hlen : its.toArray.size = xs.length := by rw [List.size_toArray]; exact r.length.symm
  refine ⟨"tuple", _, PyProof.Rows.slot_tuple_getitem.lookup, ht.typeIs, ?_⟩
  by_cases hw : HT.sIx xs.length 0 lo = 0 ∧ HT.sIx xs.length xs.length hi = xs.length
  · exact getItem_tuple_whole ht hs pl pu (by rw [hlen]; exact hw) ⟨.ref a, H, I, rfl, q1 hw⟩
  · refine HT.getItem_tuple_cut ht hs pl pu (by rw [hlen]; exact hw) ?_ (by rw [hlen]; exact hz)
    rw [hlen]
    exact ⟨.ref s.heap.objs.size, _, laidT I ((r.drop (HT.sIx xs.length 0 lo)).take (HT.sIx xs.length xs.length hi - HT.sIx xs.length 0 lo)) (Nat.le_trans (cutV_length xs lo hi) hz) s.toks, rfl, q2 hw _ _ (I.hok.fresh (Nat.le_refl _)) ⟨rfl, rfl⟩⟩
/-- tuple(list), tuple(tuple) -/
theorem call_tupleF : CallR X (.type "tuple") (fun xs H Q => ∃ p ys, xs = [.ref p] ∧ ((SqL X.K H p ys ∧ ∀ l o, H l = none → NewT o → Q (.ref l) (upd H l (.frz o (.tup ys)))) ∨ (SqT X.K H p ys ∧ Q (.ref p) H))) := by
  intro pins s σ H xs us Q I r h
  obtain ⟨p, ys, rfl, h⟩ := h
  obtain rfl := Vals.ref1 r
  rcases h with ⟨hq, q⟩ | ⟨hq, q⟩
  · obtain ⟨its, r', pl, hz⟩ := I.list hq
    have hlen := r'.length
    have hsl := sizeLine_eq
    refine call_tuple_list pl.isList (fun h' kp => ?_) (by simp only [List.size_toArray] <;> omega)
    have I1 : Inv X pins σ H { s with heap := h' } := I.kept (t' := s.toks) kp
    exact ⟨.ref h'.objs.size, _, laidT I1 r' hz s.toks, rfl, q _ _ (I1.hok.fresh (Nat.le_refl _)) ⟨rfl, rfl⟩⟩
  · obtain ⟨its, r', pl, hz⟩ := I.tuple hq
    exact call_tuple_same pl ⟨.ref p, H, I, rfl, q⟩
end
end Pd
namespace Pd
open PySem PySem.Spec PyProof.Rows L2
abbrev D := PyData
/-! ### results -/
inductive R (α : Type) where
  | ok (a : α)
  | exc (c : Str)
  | stuck
def R.bind {α β : Type} (r : R α) (f : α → R β) : R β := match r with
  | .ok a => f a
  | .exc c => .exc c
  | .stuck => .stuck
instance : Monad R where
  pure := R.ok
  bind := R.bind
@[simp] theorem R.bind_ok {α β : Type} (a : α) (f : α → R β) : R.bind (.ok a) f = f a := rfl
@[simp] theorem R.bind_exc {α β : Type} (c : Str) (f : α → R β) : R.bind (.exc c) f = .exc c := rfl
@[simp] theorem R.bind_stuck {α β : Type} (f : α → R β) : R.bind .stuck f = .stuck := rfl
def Sat {α : Type} (r : R α) (P : α → Prop) (E : Str → Prop) : Prop := match r with
  | .ok a => P a
  | .exc c => E c
  | .stuck => False
theorem Sat.bind {α β : Type} {r : R α} {f : α → R β} {P : β → Prop} {E : Str → Prop} (h : Sat (r.bind f) P E) : Sat r (fun a => Sat (f a) P E) E := by
  cases r <;> exact h
theorem Sat.mono {α : Type} {r : R α} {P P' : α → Prop} {E E' : Str → Prop} (h : Sat r P E) (hP : ∀ a, P a → P' a) (hE : ∀ c, E c → E' c) : Sat r P' E' := by
  cases r with
  | ok a => exact hP _ h
  | exc c => exact hE _ h
  | stuck => exact h
/-- where no exception comes -/
def NoX {α : Type} (r : R α) : Prop := ∀ c, r ≠ .exc c
theorem Sat.nox {α : Type} {r : R α} {P : α → Prop} {E : Str → Prop} (h : Sat r P E) (n : NoX r) : Sat r P (fun _ => False) := by
  cases r with
  | ok a => exact h
  | exc c => exact (n c rfl).elim
  | stuck => exact h
/-! ### environments -/
abbrev Env := List (Option D)
def Env.get (ρ : Env) (i : Nat) : R D := match ρ[i]? with
  | some (some d) => .ok d
  | _ => .stuck
def Env.put (ρ : Env) (i : Nat) (d : D) : Env := List.set ρ i (some d)
def Env.del (ρ : Env) (i : Nat) : Env := List.set ρ i none
/-! ### what stands for a datum; its footprint: the lists and dicts that may be changed -/
def RoL (K : PySem.W.Frag) (H : Hp) (a : Addr) (xs : List V) : Prop :=
  (∃ o, H a = some (.frz o (.lst xs))) ∨
    ∃ (o : Obj) (its : Array Value) (n : Nat), K.lookup a = some o ∧ o.cls = .type "list" ∧ o.dict = none ∧ o.data = .seq its n ∧ its.size ≤ sizeLine ∧ Vals xs its.toList
theorem RoL.sq {K : PySem.W.Frag} {H : Hp} {a : Addr} {xs : List V} (h : RoL K H a xs) : SqL K H a xs := by
  rcases h with h | h
  · exact .inl (.inr h)
  · exact .inr h
def keyD : Key → D
  | .inl i => .int i
  | .inr x => .str x
mutual
inductive Rp (K : PySem.W.Frag) (H : Hp) : V → D → List Addr → Prop
  | non : Rp K H .non .none []
  | bl (b : Bool) : Rp K H (.bl b) (.bool b) []
  | int (i : Int) : Rp K H (.int i) (.int i) []
  | str (x : Str) : Rp K H (.str x) (.str x) []
  | tup {a : Addr} {xs : List V} {ds : List D} {F : List Addr} : NT K H a xs → RpL K H xs ds F → Rp K H (.ref a) (.tuple ds) F
  | lst {a : Addr} {xs : List V} {ds : List D} {F : List Addr} : H a = some (.lst xs) → RpL K H xs ds F → Rp K H (.ref a) (.list ds) (a :: F)
  | ro {a : Addr} {xs : List V} {ds : List D} : RoL K H a xs → RpL K H xs ds [] → Rp K H (.ref a) (.dict [(.none, .tuple ds)]) []
  | dK {a : Addr} {kvs : List (Key × V)} {ks vs : List D} {F : List Addr} : H a = some (.dK kvs) → ks = kvs.map (fun p => keyD p.1) → RpL K H (kvs.map (·.2)) vs F → Rp K H (.ref a) (.dict (ks.zip vs)) (a :: F)
  | dT {a : Addr} {kvs : List (List Key × V)} {ks vs : List D} {F : List Addr} : H a = some (.dT kvs) → ks = kvs.map (fun p => .tuple (p.1.map keyD)) → RpL K H (kvs.map (·.2)) vs F → Rp K H (.ref a) (.dict (ks.zip vs)) (a :: F)
inductive RpL (K : PySem.W.Frag) (H : Hp) : List V → List D → List Addr → Prop
  | nil : RpL K H [] [] []
  | cons {v : V} {vs : List V} {d : D} {ds : List D} {F G : List Addr} : Rp K H v d F → RpL K H vs ds G → RpL K H (v :: vs) (d :: ds) (F ++ G)
end
/-- H' is H, grown; the tables of code at T may have grown -/
structure Ex (T : List Addr) (H H' : Hp) : Prop where
  kept : ∀ a o, H a = some o → (∀ ps, o ≠ .tbl ps) → H' a = some o
  dom : ∀ a, H a ≠ none → H' a ≠ none
  tab : (∀ P ∈ T, GxR.TabG H P) → ∀ P ∈ T, GxR.TabG H' P
theorem Ex.refl {T : List Addr} {H : Hp} : Ex T H H := ⟨fun _ _ h _ => h, fun _ h => h, fun h => h⟩
theorem Ex.trans {T : List Addr} {H H1 H2 : Hp} (x : Ex T H H1) (y : Ex T H1 H2) : Ex T H H2 :=
  ⟨fun a o h n => y.kept a o (x.kept a o h n) n, fun a h => y.dom a (x.dom a h), fun h => y.tab (x.tab h)⟩
theorem Ex.free {T : List Addr} {H H' : Hp} (x : Ex T H H') {a : Addr} (h : H' a = none) : H a = none := by
  cases q : H a with
  | none => rfl
  | some o => exact absurd h (x.dom a (by rw [q]; simp))
theorem Ex.sqT {T : List Addr} {K : PySem.W.Frag} {H H' : Hp} (x : Ex T H H') {a : Addr} {xs : List V} (h : SqT K H a xs) : SqT K H' a xs := by
  rcases h with (h | ⟨o, h⟩) | h
  · exact .inl (.inl (x.kept _ _ h (fun _ z => by cases z)))
  · exact .inl (.inr ⟨o, x.kept _ _ h (fun _ z => by cases z)⟩)
  · exact .inr h
theorem Ex.nt {T : List Addr} {K : PySem.W.Frag} {H H' : Hp} (x : Ex T H H') {a : Addr} {xs : List V} (h : NT K H a xs) : NT K H' a xs := by
  rcases h with ⟨o, h, n⟩ | h
  · exact .inl ⟨o, x.kept _ _ h (fun _ z => by cases z), n⟩
  · exact .inr h
theorem Ex.roL {T : List Addr} {K : PySem.W.Frag} {H H' : Hp} (x : Ex T H H') {a : Addr} {xs : List V} (h : RoL K H a xs) : RoL K H' a xs := by
  rcases h with ⟨o, h⟩ | h
  · exact .inl ⟨o, x.kept _ _ h (fun _ z => by cases z)⟩
  · exact .inr h
/-- a new object, that is no table -/
theorem Ex.new {T : List Addr} {H : Hp} {p : Addr} {o : HO} (h : H p = none) : Ex T H (upd H p o) := by
  have key : ∀ a u, H a = some u → upd H p o a = some u := fun a u e => by rw [upd_ne (ne_of_none e h)]; exact e
  refine ⟨fun a u e _ => key a u e, fun a e => ?_, fun t P hP => ?_⟩
  · cases q : H a with
    | none => exact absurd q e
    | some u => rw [key a u q]; simp
  · obtain ⟨ps, h1, h2⟩ := t P hP
    exact ⟨ps, key _ _ h1, h2⟩
/-- kept: the tuples, the frozen things, the objects at S -/
structure Kp (H H' : Hp) (S : List Addr) : Prop where
  tup : ∀ a xs, H a = some (.tup xs) → H' a = some (.tup xs)
  frz : ∀ a o u, H a = some (.frz o u) → H' a = some (.frz o u)
  at_ : ∀ a ∈ S, H' a = H a
theorem Kp.sub {H H' : Hp} {S S' : List Addr} (k : Kp H H' S) (h : ∀ a ∈ S', a ∈ S) : Kp H H' S' := ⟨k.tup, k.frz, fun a ha => k.at_ a (h a ha)⟩
theorem Kp.sqT {K : PySem.W.Frag} {H H' : Hp} {S : List Addr} (x : Kp H H' S) {a : Addr} {xs : List V} (h : SqT K H a xs) : SqT K H' a xs := by
  rcases h with (h | ⟨o, h⟩) | h
  · exact .inl (.inl (x.tup _ _ h))
  · exact .inl (.inr ⟨o, x.frz _ _ _ h⟩)
  · exact .inr h
theorem Kp.nt {K : PySem.W.Frag} {H H' : Hp} {S : List Addr} (x : Kp H H' S) {a : Addr} {xs : List V} (h : NT K H a xs) : NT K H' a xs := by
  rcases h with ⟨o, h, n⟩ | h
  · exact .inl ⟨o, x.frz _ _ _ h, n⟩
  · exact .inr h
theorem Kp.roL {K : PySem.W.Frag} {H H' : Hp} {S : List Addr} (x : Kp H H' S) {a : Addr} {xs : List V} (h : RoL K H a xs) : RoL K H' a xs := by
  rcases h with ⟨o, h⟩ | h
  · exact .inl ⟨o, x.frz _ _ _ h⟩
  · exact .inr h
section
variable {K : PySem.W.Frag} {H H' : Hp} {T : List Addr}
mutual
theorem Rp.kp {v : V} {d : D} {F : List Addr} : Rp K H v d F → Kp H H' F → Rp K H' v d F
  | .non, _ => .non
  | .bl b, _ => .bl b
  | .int i, _ => .int i
  | .str x, _ => .str x
  | .tup h r, k => .tup (k.nt h) (RpL.kp r k)
  | .lst h r, k => .lst ((k.at_ _ List.mem_cons_self).trans h) (RpL.kp r (k.sub fun _ m => List.mem_cons_of_mem _ m))
  | .ro h r, k => .ro (k.roL h) (RpL.kp r k)
  | .dK h e r, k => .dK ((k.at_ _ List.mem_cons_self).trans h) e (RpL.kp r (k.sub fun _ m => List.mem_cons_of_mem _ m))
  | .dT h e r, k => .dT ((k.at_ _ List.mem_cons_self).trans h) e (RpL.kp r (k.sub fun _ m => List.mem_cons_of_mem _ m))
theorem RpL.kp {vs : List V} {ds : List D} {F : List Addr} : RpL K H vs ds F → Kp H H' F → RpL K H' vs ds F
  | .nil, _ => .nil
  | .cons r t, k => .cons (Rp.kp r (k.sub fun _ m => List.mem_append_left _ m)) (RpL.kp t (k.sub fun _ m => List.mem_append_right _ m))
end
mutual
theorem Rp.ex {v : V} {d : D} {F : List Addr} : Rp K H v d F → Ex T H H' → Rp K H' v d F
  | .non, _ => .non
  | .bl b, _ => .bl b
  | .int i, _ => .int i
  | .str x, _ => .str x
  | .tup h r, k => .tup (k.nt h) (RpL.ex r k)
  | .lst h r, k => .lst (k.kept _ _ h (fun _ z => by cases z)) (RpL.ex r k)
  | .ro h r, k => .ro (k.roL h) (RpL.ex r k)
  | .dK h e r, k => .dK (k.kept _ _ h (fun _ z => by cases z)) e (RpL.ex r k)
  | .dT h e r, k => .dT (k.kept _ _ h (fun _ z => by cases z)) e (RpL.ex r k)
theorem RpL.ex {vs : List V} {ds : List D} {F : List Addr} : RpL K H vs ds F → Ex T H H' → RpL K H' vs ds F
  | .nil, _ => .nil
  | .cons r t, k => .cons (Rp.ex r k) (RpL.ex t k)
end
mutual
theorem Rp.dom {v : V} {d : D} {F : List Addr} : Rp K H v d F → ∀ b ∈ F, ∃ o, H b = some o ∧ ∀ ps, o ≠ .tbl ps
  | .non, _, h => by cases h
  | .bl _, _, h => by cases h
  | .int _, _, h => by cases h
  | .str _, _, h => by cases h
  | .tup _ r, b, h => RpL.dom r b h
  | .lst e r, b, h => by
    rcases List.mem_cons.mp h with z | z
    · rw [z]; exact ⟨_, e, fun _ q => by cases q⟩
    · exact RpL.dom r b z
  | .ro _ _, _, h => by cases h
  | .dK e _ r, b, h => by
    rcases List.mem_cons.mp h with z | z
    · rw [z]; exact ⟨_, e, fun _ q => by cases q⟩
    · exact RpL.dom r b z
  | .dT e _ r, b, h => by
    rcases List.mem_cons.mp h with z | z
    · rw [z]; exact ⟨_, e, fun _ q => by cases q⟩
    · exact RpL.dom r b z
theorem RpL.dom {vs : List V} {ds : List D} {F : List Addr} : RpL K H vs ds F → ∀ b ∈ F, ∃ o, H b = some o ∧ ∀ ps, o ≠ .tbl ps
  | .nil, _, h => by cases h
  | .cons r t, b, h => by
    rcases List.mem_append.mp h with z | z
    · exact Rp.dom r b z
    · exact RpL.dom t b z
end
end
theorem RpL.append {K : PySem.W.Frag} {H : Hp} : ∀ {xs ys : List V} {ds es : List D} {F G : List Addr}, RpL K H xs ds F → RpL K H ys es G → RpL K H (xs ++ ys) (ds ++ es) (F ++ G)
  | _, _, _, _, _, _, .nil, s => s
  | _, _, _, _, _, _, .cons r t, s => by rw [List.append_assoc]; exact .cons r (RpL.append t s)
theorem RpL.get {K : PySem.W.Frag} {H : Hp} : ∀ {xs : List V} {ds : List D} {F : List Addr} {i : Nat} {d : D}, RpL K H xs ds F → ds[i]? = some d → ∃ v G, xs[i]? = some v ∧ Rp K H v d G ∧ List.Sublist G F
  | _, _, _, _, _, .nil, h => by simp at h
  | _, _, _, 0, _, .cons r t, h => by
    simp at h; subst h
    exact ⟨_, _, rfl, r, List.sublist_append_left _ _⟩
  | _, _, _, i + 1, _, .cons r t, h => by
    obtain ⟨v, G, e, r', s⟩ := RpL.get (i := i) t (by simpa using h)
    exact ⟨v, G, by simpa using e, r', s.trans (List.sublist_append_right _ _)⟩
theorem RpL.drop {K : PySem.W.Frag} {H : Hp} : ∀ (n : Nat) {xs : List V} {ds : List D} {F : List Addr}, RpL K H xs ds F → ∃ G, RpL K H (xs.drop n) (ds.drop n) G ∧ List.Sublist G F
  | 0, _, _, _, r => ⟨_, r, List.Sublist.refl _⟩
  | _ + 1, _, _, _, .nil => ⟨[], .nil, List.Sublist.refl _⟩
  | n + 1, _, _, _, .cons r t => by
    obtain ⟨G, r', s⟩ := RpL.drop n t
    exact ⟨G, r', s.trans (List.sublist_append_right _ _)⟩
theorem RpL.take {K : PySem.W.Frag} {H : Hp} : ∀ (n : Nat) {xs : List V} {ds : List D} {F : List Addr}, RpL K H xs ds F → ∃ G, RpL K H (xs.take n) (ds.take n) G ∧ List.Sublist G F
  | 0, _, _, _, _ => ⟨[], .nil, List.nil_sublist _⟩
  | _ + 1, _, _, _, .nil => ⟨[], .nil, List.Sublist.refl _⟩
  | n + 1, _, _, _, .cons r t => by
    obtain ⟨G, r', s⟩ := RpL.take n t
    exact ⟨_, .cons r r', List.Sublist.append (List.Sublist.refl _) s⟩
theorem RpL.length {K : PySem.W.Frag} {H : Hp} : ∀ {vs : List V} {ds : List D} {F : List Addr}, RpL K H vs ds F → vs.length = ds.length
  | _, _, _, .nil => rfl
  | _, _, _, .cons _ t => congrArg Nat.succ (RpL.length t)
/-! data without lists and dicts -/
mutual
def imm : D → Bool
  | .none | .bool _ | .int _ | .str _ => true
  | .tuple xs => immL xs
  | .list _ | .dict _ => false
def immL : List D → Bool
  | [] => true
  | x :: xs => imm x && immL xs
end
section
variable {K : PySem.W.Frag} {H : Hp}
mutual
theorem Rp.imm {v : V} {d : D} {F : List Addr} : Rp K H v d F → Pd.imm d = true → F = []
  | .non, _ => rfl
  | .bl _, _ => rfl
  | .int _, _ => rfl
  | .str _, _ => rfl
  | .tup _ r, h => RpL.imm r (by unfold Pd.imm at h; exact h)
  | .lst _ _, h => by unfold Pd.imm at h; cases h
  | .ro _ _, h => by unfold Pd.imm at h; cases h
  | .dK _ _ _, h => by unfold Pd.imm at h; cases h
  | .dT _ _ _, h => by unfold Pd.imm at h; cases h
theorem RpL.imm {vs : List V} {ds : List D} {F : List Addr} : RpL K H vs ds F → Pd.immL ds = true → F = []
  | .nil, _ => rfl
  | .cons r t, h => by
    unfold Pd.immL at h
    obtain ⟨h1, h2⟩ := Bool.and_eq_true_iff.mp h
    rw [Rp.imm r h1, RpL.imm t h2]; rfl
end
mutual
theorem Rp.dp {v : V} {d : D} {F : List Addr} : Rp K H v d F → d.canLay0 = true → Dp K H v d
  | .non, _ => .non
  | .bl b, _ => .bl b
  | .int i, _ => .int i
  | .str x, _ => .str x
  | .tup h r, z => .tup h.sq (RpL.dp r (by simpa [PyData.canLay0] using z))
  | .lst h r, z => .lst (.inl (.inl h)) (RpL.dp r (by simpa [PyData.canLay0] using z))
  | .ro _ _, z => by simp [PyData.canLay0] at z
  | .dK _ _ _, z => by simp [PyData.canLay0] at z
  | .dT _ _ _, z => by simp [PyData.canLay0] at z
theorem RpL.dp {vs : List V} {ds : List D} {F : List Addr} : RpL K H vs ds F → PyData.canLayAll0 ds = true → DpAll K H vs ds
  | .nil, _ => .nil
  | .cons r t, z => by
    rw [PyData.canLayAll0] at z
    obtain ⟨z1, z2⟩ := Bool.and_eq_true_iff.mp z
    exact .cons (Rp.dp r z1) (RpL.dp t z2)
end
end
end Pd
namespace Pd
open PySem PySem.Spec PyProof.Rows L2
/-! ### the state of a body -/
/-- a region that a loop walks: it stays as it is in HG; so: the owned slot that it belongs to -/
structure Lk where
  F : List Addr
  HG : Hp
  so : Option Nat
/-- what is fixed in a body: the tables of code, the heap at the entry, the regions that are walked -/
structure Cc where
  T : List Addr
  H0 : Hp
  lk : List Lk
  ls : List Nat
abbrev Own := List Nat
/-- a walked region stays -/
structure LkOk (ls : List Nat) (O : Own) (H : Hp) (Fs : Nat → List Addr) (l : Lk) : Prop where
  st : ∀ i, l.so = some i → i ∈ ls
  kp : Kp l.HG H l.F
  dom : ∀ b ∈ l.F, ∃ o, l.HG b = some o ∧ ∀ ps, o ≠ .tbl ps
  sep : ∀ i, i ∈ O → l.so ≠ some i → ∀ b ∈ Fs i, b ∉ l.F
structure ER (K : PySem.W.Frag) (C : Cc) (O : Own) (H : Hp) (σ : L2.St) (ρ : Env) (Fs : Nat → List Addr) : Prop where
  len : σ.length = ρ.length
  rep : ∀ i d, ρ[i]? = some (some d) → ∃ v, σ[i]? = some (some v) ∧ Rp K H v d (Fs i)
  emp : ∀ i, (∀ d, ρ[i]? ≠ some (some d)) → Fs i = []
  own : ∀ i, i ∈ O → (Fs i).Nodup ∧ (∀ b ∈ Fs i, C.H0 b = none) ∧ ∀ j, j ≠ i → ∀ b ∈ Fs i, b ∉ Fs j
  tab : ∀ P ∈ C.T, GxR.TabG H P
  ext : Ex C.T C.H0 H
  lks : ∀ l ∈ C.lk, LkOk C.ls O H Fs l
section
variable {K : PySem.W.Frag} {C : Cc} {O O' : Own} {H H' : Hp} {σ : L2.St} {ρ : Env} {Fs : Nat → List Addr}
theorem ER.dom (e : ER K C O H σ ρ Fs) (i : Nat) : ∀ b ∈ Fs i, ∃ o, H b = some o ∧ ∀ ps, o ≠ .tbl ps := fun b hb => by
  by_cases h : ∃ d, ρ[i]? = some (some d)
  · obtain ⟨d, h⟩ := h
    obtain ⟨v, _, r⟩ := e.rep i d h
    exact r.dom b hb
  · rw [e.emp i fun d z => h ⟨d, z⟩] at hb
    cases hb
theorem Ex.kp {T : List Addr} {H H' : Hp} {S : List Addr} (x : Ex T H H') (h : ∀ b ∈ S, ∃ o, H b = some o ∧ ∀ ps, o ≠ .tbl ps) : Kp H H' S :=
  ⟨fun a xs e => x.kept _ _ e (fun _ z => by cases z), fun a o u e => x.kept _ _ e (fun _ z => by cases z), fun a ha => by
    obtain ⟨o, e, n⟩ := h a ha
    rw [e]; exact x.kept _ _ e n⟩
theorem Kp.trans {H H1 H2 : Hp} {S : List Addr} (a : Kp H H1 S) (b : Kp H1 H2 S) : Kp H H2 S :=
  ⟨fun x xs e => b.tup _ _ (a.tup _ _ e), fun x o u e => b.frz _ _ _ (a.frz _ _ _ e), fun x hx => (b.at_ x hx).trans (a.at_ x hx)⟩
theorem ER.ex (e : ER K C O H σ ρ Fs) (x : Ex C.T H H') : ER K C O H' σ ρ Fs where
  len := e.len
  rep := fun i d h => by
    obtain ⟨v, h1, r⟩ := e.rep i d h
    exact ⟨v, h1, r.ex x⟩
  emp := e.emp
  own := e.own
  tab := x.tab e.tab
  ext := e.ext.trans x
  lks := fun l hm => by
    obtain ⟨st, k, d, s⟩ := e.lks l hm
    refine ⟨st, k.trans (x.kp fun b hb => ?_), d, s⟩
    obtain ⟨o, q, n⟩ := d b hb
    exact ⟨o, (k.at_ b hb).trans q, n⟩
theorem ER.less (e : ER K C O H σ ρ Fs) (h : ∀ i, i ∈ O' → i ∈ O) : ER K C O' H σ ρ Fs where
  len := e.len
  rep := e.rep
  emp := e.emp
  own := fun i hi => e.own i (h i hi)
  tab := e.tab
  ext := e.ext
  lks := fun l hm => ⟨(e.lks l hm).st, (e.lks l hm).kp, (e.lks l hm).dom, fun i hi => (e.lks l hm).sep i (h i hi)⟩
end
/-! ### kinds of values: 0 fresh, 1 not of owned slots, 2 any -/
structure KdOk (k : Nat) (O : Own) (H : Hp) (Fs : Nat → List Addr) (F : List Addr) : Prop where
  fr : k = 0 → F.Nodup ∧ ∀ b ∈ F, H b = none
  un : k = 1 → ∀ b ∈ F, H b = none ∨ ∃ j, j ∉ O ∧ b ∈ Fs j
section
variable {T : List Addr} {O : Own} {H H1 H2 : Hp} {Fs : Nat → List Addr} {F F1 F2 : List Addr} {k k1 k2 : Nat}
theorem KdOk.le1 (h : KdOk k O H Fs F) (hk : k ≤ 1) : ∀ b ∈ F, H b = none ∨ ∃ j, j ∉ O ∧ b ∈ Fs j := by
  rcases Nat.lt_or_eq_of_le hk with z | z
  · intro b hb
    exact .inl ((h.fr (by omega)).2 b hb)
  · exact h.un z
theorem KdOk.nil : KdOk k O H Fs [] := ⟨fun _ => ⟨List.nodup_nil, fun b h => (nomatch h)⟩, fun _ b h => (nomatch h)⟩
theorem KdOk.any (h : 2 ≤ k) : KdOk k O H Fs F := ⟨fun z => by omega, fun z => by omega⟩
/-- what F1 and F2 are put together to -/
structure Mix (H : Hp) (F1 F2 F : List Addr) : Prop where
  mem : ∀ b ∈ F, b ∈ F1 ∨ b ∈ F2 ∨ H b = none
  nd : (F1 ++ F2).Nodup → F.Nodup
theorem Mix.nil : Mix H F1 F2 [] := ⟨fun b h => (nomatch h), fun _ => List.nodup_nil⟩
theorem Mix.app : Mix H F1 F2 (F1 ++ F2) := ⟨fun b h => (List.mem_append.mp h).elim .inl fun z => .inr (.inl z), fun h => h⟩
theorem KdOk.mix {F' : List Addr} (h1 : KdOk k1 O H Fs F1) (h2 : KdOk k2 O H1 Fs F2) (x : Ex T H H1) (x2 : Ex T H1 H2) (d : ∀ b ∈ F1, H1 b ≠ none) (m : Mix H2 F1 F2 F') : KdOk (max k1 k2) O H Fs F' where
  fr := fun z => by
    obtain ⟨n1, f1⟩ := h1.fr (by omega)
    obtain ⟨n2, f2⟩ := h2.fr (by omega)
    refine ⟨m.nd (List.nodup_append.mpr ⟨n1, n2, fun a ha b hb e => ?_⟩), fun b hb => ?_⟩
    · subst e
      exact d a ha (f2 a hb)
    · rcases m.mem b hb with q | q | q
      · exact f1 b q
      · exact x.free (f2 b q)
      · exact x.free (x2.free q)
  un := fun z => by
    have g1 := h1.le1 (by omega)
    have g2 := h2.le1 (by omega)
    intro b hb
    rcases m.mem b hb with q | q | q
    · exact g1 b q
    · rcases g2 b q with w | w
      · exact .inl (x.free w)
      · exact .inr w
    · exact .inl (x.free (x2.free q))
theorem KdOk.back (h : KdOk k O H1 Fs F) (x : Ex T H H1) : KdOk k O H Fs F :=
  ⟨fun z => ⟨(h.fr z).1, fun b hb => x.free ((h.fr z).2 b hb)⟩, fun z b hb => (h.un z b hb).imp x.free id⟩
theorem KdOk.up (h : KdOk k O H Fs F) (hk : k ≤ k2) : KdOk k2 O H Fs F :=
  ⟨fun z => h.fr (by omega), fun z => h.le1 (by omega)⟩
/-- of one thing another is made -/
structure Mix1 (H : Hp) (F1 F : List Addr) : Prop where
  mem : ∀ b ∈ F, b ∈ F1 ∨ H b = none
  nd : F1.Nodup → F.Nodup
theorem Mix1.nil : Mix1 H F1 [] := ⟨fun b h => (nomatch h), fun _ => List.nodup_nil⟩
theorem Mix1.refl : Mix1 H F1 F1 := ⟨fun b h => .inl h, fun h => h⟩
theorem KdOk.mix1 {F' : List Addr} (h1 : KdOk k O H Fs F1) (x : Ex T H H1) (m : Mix1 H1 F1 F') : KdOk k O H Fs F' where
  fr := fun z => by
    obtain ⟨n1, f1⟩ := h1.fr z
    exact ⟨m.nd n1, fun b hb => (m.mem b hb).elim (f1 b) x.free⟩
  un := fun z b hb => (m.mem b hb).elim (h1.un z b) fun q => .inl (x.free q)
end
/-! ### readings -/
abbrev EF := Env → R D
section
variable (K : PySem.W.Frag) (C : Cc) (W : WX) (O : Own)
abbrev WOk (σ : L2.St) (H : Hp) (c : Str) : Prop := ∀ H', Ex C.T H H' → W (.ref (He.ga K c)) none σ H'
def tD (k : Nat) (F : EF) : TE := fun σ H Q => ∃ ρ Fs, ER K C O H σ ρ Fs ∧
  Sat (F ρ) (fun d => ∀ v H' F', Ex C.T H H' → Rp K H' v d F' → KdOk k O H Fs F' → Q v H') (WOk K C W σ H)
def tL (k : Nat) (F : Env → R (List D)) : TA := fun σ H Q => ∃ ρ Fs, ER K C O H σ ρ Fs ∧
  Sat (F ρ) (fun d => ∀ v H' F', Ex C.T H H' → RpL K H' v d F' → KdOk k O H Fs F' → Q v H') (WOk K C W σ H)
def tB (F : Env → R Bool) : TT := fun σ H Q => ∃ ρ Fs, ER K C O H σ ρ Fs ∧
  Sat (F ρ) (fun b => ∀ H', Ex C.T H H' → Q b H') (WOk K C W σ H)
end
abbrev EV (X : Cx) (C : Cc) (W : WX) (O : Own) (e : Expr) (k : Nat) (F : EF) : Prop := PE X e (tD X.K C W O k F)
abbrev AV (X : Cx) (C : Cc) (W : WX) (O : Own) (es : List Expr) (k : Nat) (F : Env → R (List D)) : Prop := PA X es (tL X.K C W O k F)
abbrev TV (X : Cx) (C : Cc) (W : WX) (O : Own) (e : Expr) (F : Env → R Bool) : Prop := PT X e (tB X.K C W O F)
theorem _root_.L2.PE.imp {X : Cx} {e : Expr} {t t' : TE} (h : PE X e t) (i : ∀ σ H Q, t' σ H Q → t σ H Q) : PE X e t' := ⟨fun pins s σ H Q I q => h.run pins s σ H Q I (i _ _ _ q)⟩
theorem _root_.L2.PA.imp {X : Cx} {e : List Expr} {t t' : TA} (h : PA X e t) (i : ∀ σ H Q, t' σ H Q → t σ H Q) : PA X e t' := ⟨fun pos pins s σ H Q I q => h.run pos pins s σ H Q I (i _ _ _ q)⟩
theorem _root_.L2.PT.imp {X : Cx} {e : Expr} {t t' : TT} (h : PT X e t) (i : ∀ σ H Q, t' σ H Q → t σ H Q) : PT X e t' := ⟨fun pins s σ H Q I q => h.run pins s σ H Q I (i _ _ _ q)⟩
theorem _root_.L2.PW.imp {X : Cx} {e : Expr} {t t' : TT} (h : PW X e t) (i : ∀ σ H Q, t' σ H Q → t σ H Q) : PW X e t' := ⟨fun wh pins s σ H Q I q => h.run wh pins s σ H Q I (i _ _ _ q)⟩
theorem _root_.L2.PS.imp {X : Cx} {e : Stmt} {t t' : TS} (h : PS X e t) (i : ∀ D σ H, t' D σ H → t D σ H) : PS X e t' := ⟨fun pins s σ H Q I q => h.run pins s σ H Q I (i _ _ _ q)⟩
theorem _root_.L2.PSs.imp {X : Cx} {e : List Stmt} {t t' : TS} (h : PSs X e t) (i : ∀ D σ H, t' D σ H → t D σ H) : PSs X e t' := ⟨fun pins s σ H Q I q => h.run pins s σ H Q I (i _ _ _ q)⟩
section
variable {K : PySem.W.Frag} {C : Cc} {W : WX} {O : Own} {σ : L2.St} {H H' : Hp}
theorem WOk.later {c : Str} (h : WOk K C W σ H c) (x : Ex C.T H H') : WOk K C W σ H' c := fun H2 x2 => h H2 (x.trans x2)
/-- a reading, then the rest -/
theorem tD.step {k : Nat} {F : EF} {ρ : Env} {Fs : Nat → List Addr} {Q : VK} {P : D → Prop} (er : ER K C O H σ ρ Fs) (h : Sat (F ρ) P (WOk K C W σ H))
    (hq : ∀ d v H' F', P d → ER K C O H' σ ρ Fs → Ex C.T H H' → Rp K H' v d F' → KdOk k O H Fs F' → Q v H') : tD K C W O k F σ H Q :=
  ⟨ρ, Fs, er, h.mono (fun d p v H' F' x r kd => hq d v H' F' p (er.ex x) x r kd) fun _ z => z⟩
theorem tL.step {k : Nat} {F : Env → R (List D)} {ρ : Env} {Fs : Nat → List Addr} {Q : List V → Hp → Prop} {P : List D → Prop} (er : ER K C O H σ ρ Fs) (h : Sat (F ρ) P (WOk K C W σ H))
    (hq : ∀ d v H' F', P d → ER K C O H' σ ρ Fs → Ex C.T H H' → RpL K H' v d F' → KdOk k O H Fs F' → Q v H') : tL K C W O k F σ H Q :=
  ⟨ρ, Fs, er, h.mono (fun d p v H' F' x r kd => hq d v H' F' p (er.ex x) x r kd) fun _ z => z⟩
theorem tB.step {F : Env → R Bool} {ρ : Env} {Fs : Nat → List Addr} {Q : Bool → Hp → Prop} {P : Bool → Prop} (er : ER K C O H σ ρ Fs) (h : Sat (F ρ) P (WOk K C W σ H))
    (hq : ∀ d H', P d → ER K C O H' σ ρ Fs → Ex C.T H H' → Q d H') : tB K C W O F σ H Q :=
  ⟨ρ, Fs, er, h.mono (fun d p H' x => hq d H' p (er.ex x) x) fun _ z => z⟩
theorem Sat.later {α : Type} {r : R α} {P : α → Prop} (h : Sat r P (WOk K C W σ H)) (x : Ex C.T H H') : Sat r P (WOk K C W σ H') := h.mono (fun _ p => p) fun _ z => z.later x
end
/-! ### names and constants -/
section
variable {X : Cx} {C : Cc} {W : WX} {O : Own} {pos : Pos}
def eName (i : Nat) : EF := fun ρ => ρ.get i
def eC (d : D) : EF := fun _ => .ok d
theorem get_sat {ρ : Env} {i : Nat} {P : D → Prop} {E : Str → Prop} (h : Sat (ρ.get i) P E) : ∃ d, ρ[i]? = some (some d) ∧ P d := by
  unfold Env.get at h
  split at h
  · rename_i d e
    exact ⟨d, e, h⟩
  · exact h.elim
theorem ev_name {e : Expr} (i : Nat) (h : PE X e (tVar i)) : EV X C W O e 2 (eName i) := h.imp fun σ H Q ⟨ρ, Fs, er, q⟩ => by
  obtain ⟨d, e, p⟩ := get_sat q
  obtain ⟨v, h1, r⟩ := er.rep i d e
  exact ⟨v, h1, p v H _ .refl r (.any (Nat.le_refl _))⟩
theorem ev_nameU {e : Expr} (i : Nat) (h : PE X e (tVar i)) (ho : i ∉ O := by decide) : EV X C W O e 1 (eName i) := h.imp fun σ H Q ⟨ρ, Fs, er, q⟩ => by
  obtain ⟨d, e, p⟩ := get_sat q
  obtain ⟨v, h1, r⟩ := er.rep i d e
  exact ⟨v, h1, p v H _ .refl r ⟨fun z => (by omega), fun _ b hb => .inr ⟨i, ho, hb⟩⟩⟩
theorem ev_c {e : Expr} {v : V} {d : D} (h : PE X e (tC v)) (r : ∀ H, Rp X.K H v d []) : EV X C W O e 0 (eC d) := h.imp fun σ H Q ⟨ρ, Fs, er, q⟩ => q v H [] .refl (r H) .nil
theorem ev_int {i : Int} {j : Nat} : EV X C W O (.Constant (.int i) j pos) 0 (eC (.int i)) := ev_c pe_int fun _ => .int i
theorem ev_bl {i : Bool} {j : Nat} : EV X C W O (.Constant (.bool i) j pos) 0 (eC (.bool i)) := ev_c pe_bl fun _ => .bl i
theorem ev_str {i : Str} {j : Nat} : EV X C W O (.Constant (.str i) j pos) 0 (eC (.str i)) := ev_c pe_str fun _ => .str i
theorem ev_non {j : Nat} : EV X C W O (.Constant .none j pos) 0 (eC .none) := ev_c pe_non fun _ => .non
/-- nothing of it is changeable -/
def eImm (F : EF) : EF := fun ρ => (F ρ).bind fun d => if imm d = true then .ok d else .stuck
theorem ev_imm {e : Expr} {k : Nat} {F : EF} (h : EV X C W O e k F) : EV X C W O e 0 (eImm F) := h.imp fun σ H Q ⟨ρ, Fs, er, q⟩ => by
  refine tD.step er (Sat.bind q) fun d v H' F' p er' x r kd => ?_
  by_cases hi : imm d = true
  · rw [if_pos hi] at p
    have e := r.imm hi
    subst e
    exact p v H' [] x r .nil
  · rw [if_neg hi] at p
    exact p.elim
theorem ev_up {e : Expr} {k k' : Nat} {F : EF} (h : EV X C W O e k F) (hk : k ≤ k') : EV X C W O e k' F := h.imp fun σ H Q ⟨ρ, Fs, er, q⟩ =>
  tD.step er q fun d v H' F' p er' x r kd => p v H' F' x r (kd.up hk)
end
/-! ### operators of two values -/
structure BinD (X : Cx) (T : List Addr) (f : Value → Value → Sem Value) (g : D → D → R D) : Prop where
  nox : ∀ x y, NoX (g x y)
  ex : ∃ r : R2, OpR X f r ∧ ∀ H x y dx dy Fx Fy Q, Rp X.K H x dx Fx → Rp X.K H y dy Fy →
    Sat (g dx dy) (fun d => ∀ v H' F', Ex T H H' → Rp X.K H' v d F' → Mix H Fx Fy F' → Q v H') (fun _ => False) → r x y H Q
def eBin (g : D → D → R D) (F G : EF) : EF := fun ρ => (F ρ).bind fun x => (G ρ).bind fun y => g x y
section
variable {X : Cx} {C : Cc} {W : WX} {O : Own} {pos : Pos} {a b : Expr} {F G : EF} {ka kb : Nat}
theorem bin_read {r : R2} {g : D → D → R D} (nox : ∀ x y, NoX (g x y)) (hr : ∀ H x y dx dy Fx Fy Q, Rp X.K H x dx Fx → Rp X.K H y dy Fy →
    Sat (g dx dy) (fun d => ∀ v H' F', Ex C.T H H' → Rp X.K H' v d F' → Mix H Fx Fy F' → Q v H') (fun _ => False) → r x y H Q) (σ : L2.St) (H : Hp) (Q : VK) (h : tD X.K C W O (max ka kb) (eBin g F G) σ H Q) :
    tOp r (tD X.K C W O ka F) (tD X.K C W O kb G) σ H Q := by
  obtain ⟨ρ, Fs, er, q⟩ := h
  refine tD.step er (Sat.bind q) fun d v H1 F1 p er1 x1 r1 kd1 => ?_
  refine tD.step er1 (Sat.later (Sat.bind p) x1) fun d2 v2 H2 F2 p2 er2 x2 r2 kd2 => ?_
  refine hr H2 v v2 d d2 F1 F2 Q (r1.ex x2) r2 ((p2.nox (nox _ _)).mono (fun d3 p3 v3 H3 F3 x3 r3 m => ?_) fun _ z => z)
  refine p3 v3 H3 F3 ((x1.trans x2).trans x3) r3 (kd1.mix kd2 x1 x2 (fun b hb => ?_) m)
  obtain ⟨o, e, _⟩ := r1.dom b hb
  rw [e]; simp
theorem ev_bin {op : Operator} {g : D → D → R D} {k : Nat} (B : BinD X C.T (binaryOp op) g) (ha : EV X C W O a ka F) (hb : EV X C W O b kb G) (hk : max ka kb = k := by rfl) : EV X C W O (.BinOp a op b pos) k (eBin g F G) := by
  subst hk
  obtain ⟨nox, r, ho, hr⟩ := B
  exact (pe_op ho ha hb).imp (bin_read nox hr)
theorem ev_cmp {op : CmpOp} {g : D → D → R D} (B : BinD X C.T (compareOp op) g) (ha : EV X C W O a ka F) (hb : EV X C W O b kb G) (hm : behindInMarks op b = false) {k : Nat} (hk : max ka kb = k := by rfl) : EV X C W O (.Compare a [op] [b] pos) k (eBin g F G) := by
  subst hk
  obtain ⟨nox, r, ho, hr⟩ := B
  exact (pe_cmpR ho ha hb hm).imp (bin_read nox hr)
/-- a value that is True or False, as a test -/
def bBin (g : D → D → R D) (F G : EF) : Env → R Bool := fun ρ => (F ρ).bind fun x => (G ρ).bind fun y => (g x y).bind fun z => match z with
  | .bool c => .ok c
  | _ => .stuck
theorem tv_cmp {op : CmpOp} {g : D → D → R D} (B : BinD X C.T (compareOp op) g) (ha : EV X C W O a ka F) (hb : EV X C W O b kb G) (hm : behindInMarks op b = false) : TV X C W O (.Compare a [op] [b] pos) (bBin g F G) := by
  obtain ⟨nox, r, ho, hr⟩ := B
  refine (pt_cmpR ho ha hb hm).imp fun σ H Q ⟨ρ, Fs, er, q⟩ => ?_
  refine tD.step er (Sat.bind q) fun d v H1 F1 p er1 x1 r1 kd1 => ?_
  refine tD.step er1 (Sat.later (Sat.bind p) x1) fun d2 v2 H2 F2 p2 er2 x2 r2 kd2 => ?_
  refine hr H2 v v2 d d2 F1 F2 _ (r1.ex x2) r2 (((Sat.bind p2).nox (nox _ _)).mono (fun d3 p3 v3 H3 F3 x3 r3 m => ?_) fun _ z => z)
  cases d3 with
  | bool c =>
    cases r3
    exact ⟨c, rfl, p3 H3 ((x1.trans x2).trans x3)⟩
  | _ => exact p3.elim
end
end Pd
namespace Pd
open PySem PySem.Spec PyProof.Rows L2
theorem noxS {α : Type} : NoX (R.stuck : R α) := fun c h => by cases h
theorem noxO {α : Type} {a : α} : NoX (R.ok a) := fun c h => by cases h
theorem noxI {α : Type} {c : Prop} [Decidable c] {a b : R α} (ha : NoX a) (hb : NoX b) : NoX (if c then a else b) := by
  by_cases h : c
  · rw [if_pos h]; exact ha
  · rw [if_neg h]; exact hb
theorem satI {α : Type} {c : Prop} [Decidable c] {a : R α} {P : α → Prop} {E : Str → Prop} (h : Sat (if c then a else .stuck) P E) : c ∧ Sat a P E := by
  by_cases hc : c
  · rw [if_pos hc] at h; exact ⟨hc, h⟩
  · rw [if_neg hc] at h; exact h.elim
theorem sz16 : (sizeLine : Nat) = 16777216 := sizeLine_eq
theorem RpL.nn {K : PySem.W.Frag} {H : Hp} {xs : List V} {ds : List D} {F : List Addr} (r : RpL K H xs ds F) : ∀ b ∈ F, H b ≠ none := fun b hb => by
  obtain ⟨o, e, _⟩ := r.dom b hb
  rw [e]; simp
theorem Rp.nn {K : PySem.W.Frag} {H : Hp} {xs : V} {ds : D} {F : List Addr} (r : Rp K H xs ds F) : ∀ b ∈ F, H b ≠ none := fun b hb => by
  obtain ⟨o, e, _⟩ := r.dom b hb
  rw [e]; simp
theorem mix_new {H : Hp} {p a b : Addr} {F G : List Addr} (hp : H p = none) (hF : ∀ c ∈ F, H c ≠ none) (hG : ∀ c ∈ G, H c ≠ none) : Mix H (a :: F) (b :: G) (p :: (F ++ G)) := by
  refine ⟨fun c hc => ?_, fun nd => ?_⟩
  · rcases List.mem_cons.mp hc with z | z
    · rw [z]; exact .inr (.inr hp)
    · rcases List.mem_append.mp z with z | z
      · exact .inl (List.mem_cons_of_mem _ z)
      · exact .inr (.inl (List.mem_cons_of_mem _ z))
  · refine List.nodup_cons.mpr ⟨fun z => ?_, ?_⟩
    · rcases List.mem_append.mp z with z | z
      · exact hF _ z hp
      · exact hG _ z hp
    · rw [List.cons_append] at nd
      exact ((List.nodup_cons.mp nd).2).sublist (List.Sublist.append (List.Sublist.refl _) (List.sublist_cons_self _ _))
/-- a new root over some of the parts -/
theorem mix1_new {H : Hp} {p : Addr} {F G : List Addr} (hp : H p = none) (hF : ∀ c ∈ F, H c ≠ none) (hs : List.Sublist G F) : Mix1 H F (p :: G) :=
  ⟨fun c hc => (List.mem_cons.mp hc).elim (fun z => .inr (by rw [z]; exact hp)) fun z => .inl (hs.mem z),
    fun nd => List.nodup_cons.mpr ⟨fun z => hF _ (hs.mem z) hp, nd.sublist hs⟩⟩
theorem mix1_sub {H : Hp} {F G : List Addr} (hs : List.Sublist G F) : Mix1 H F G := ⟨fun c hc => .inl (hs.mem hc), fun nd => nd.sublist hs⟩
/-! ### + - * // % ** -/
def addD : D → D → R D
  | .int a, .int b => .ok (.int (a + b))
  | .str a, .str b => if a.length + b.length ≤ 16777216 then .ok (.str (a ++ b)) else .stuck
  | .tuple a, .tuple b => if a.length + b.length ≤ 16777216 then .ok (.tuple (a ++ b)) else .stuck
  | .list a, .list b => if a.length + b.length ≤ 16777216 then .ok (.list (a ++ b)) else .stuck
  | _, _ => .stuck
section
variable {X : Cx} {T : List Addr}
theorem or_or {X : Cx} {f : Value → Value → Sem Value} {r1 r2 : R2} (h1 : OpR X f r1) (h2 : OpR X f r2) : OpR X f (fun x y H Q => r1 x y H Q ∨ r2 x y H Q) := h1.or h2
theorem b_add : BinD X T (binaryOp .Add) addD where
  nox := fun x y => by
    unfold addD
    split <;> first | exact noxO | exact noxI noxO noxS | exact noxS
  ex := by
    refine ⟨_, or_or op_add (or_or op_add_str (or_or op_catF op_cat)), ?_⟩
    intro H x y dx dy Fx Fy Q rx ry h
    cases dx <;> cases dy <;> first | exact False.elim h | skip
    · cases rx
      cases ry
      exact .inl ⟨_, _, rfl, rfl, h _ H [] .refl (.int _) .nil⟩
    · cases rx
      cases ry
      obtain ⟨hc, h⟩ := satI h
      exact .inr (.inl ⟨_, _, rfl, rfl, by rw [sz16]; exact hc, h _ H [] .refl (.str _) .nil⟩)
    · obtain ⟨hc, h⟩ := satI h
      cases rx with | @lst a xs _ F ea ra =>
      cases ry with | @lst b ys _ G eb rb =>
      refine .inr (.inr (.inr ⟨a, b, xs, ys, rfl, rfl, ea, eb, by rw [sz16, ra.length, rb.length]; exact hc, fun p hp => ?_⟩))
      have x : Ex T H (upd H p (.lst (xs ++ ys))) := .new hp
      exact h _ _ (p :: (F ++ G)) x (.lst upd_same ((ra.ex x).append (rb.ex x))) (mix_new hp (ra.nn) (rb.nn))
    · obtain ⟨hc, h⟩ := satI h
      cases rx with | @tup a xs _ _ sa ra =>
      cases ry with | @tup b ys _ _ sb rb =>
      refine .inr (.inr (.inl ⟨a, b, xs, ys, rfl, rfl, sa.sq, sb.sq, by rw [sz16, ra.length, rb.length]; exact hc, fun z => ?_, fun _ z => ?_, fun _ _ p o hp ho => ?_⟩))
      · subst z
        cases ra
        exact h _ H _ .refl (.tup sb rb) .app
      · subst z
        cases rb
        refine h _ H _ .refl (.tup sa ?_) .app
        rw [List.append_nil, List.append_nil]
        exact ra
      · have x : Ex T H (upd H p (.frz o (.tup (xs ++ ys)))) := .new hp
        exact h _ _ _ x (.tup (.new ho) ((ra.ex x).append (rb.ex x))) .app
end
theorem tuple_mul_same (l : Addr) (items : Array Value) (n : Nat) (dd : Option Addr) (sl : Array (Option Value)) (x : Int) (u : Tok) (c0 : (decide (x < -(2 ^ 63)) || decide (x ≥ 2 ^ 63)) = false) (c1 : (items.isEmpty || x == 1) = true) :
    Meets (Builtin.«tuple.__mul__» ⟨[.ref l, .int x u], []⟩) (fun _ R s => s.heap.get? l = some { cls := .type "tuple", dict := dd, data := .seq items n, slots := sl } ∧
      R (.ok (.ret (Value.ref l))) s) :=
  .of_wp fun prog w A R s h => by
    obtain ⟨hp, g, d, tk, os⟩ := s
    obtain ⟨hl, h⟩ := h
    have f1 := AutoSeq1.idx_int
    wp_walk using wpAny_loadPart' hl
    repeat (first
      | (refine wpAny_ite_false (decide_eq_false (by rw [c0]; exact Bool.false_ne_true)) ?_; wp_walk using wpAny_loadPart' hl)
      | (refine wpAny_ite_true (decide_eq_true (by rw [c1])) ?_; wp_walk using wpAny_loadPart' hl))
    exact ⟨_, rfl, h⟩
theorem tuple_mul_none (l : Addr) (items : Array Value) (n : Nat) (dd : Option Addr) (sl : Array (Option Value)) (x : Int) (u : Tok) (c0 : (decide (x < -(2 ^ 63)) || decide (x ≥ 2 ^ 63)) = false) (c1 : (items.isEmpty || x == 1) = false) (c2 : (decide (x ≤ 0) || items.isEmpty) = true) :
    Meets (Builtin.«tuple.__mul__» ⟨[.ref l, .int x u], []⟩) (fun _ R s => s.heap.get? l = some { cls := .type "tuple", dict := dd, data := .seq items n, slots := sl } ∧
      R (.ok (.ret (Value.ref s.heap.objs.size))) { s with heap := s.heap.push { cls := Value.type "tuple", data := Data.seq #[] } }) :=
  .of_wp fun prog w A R s h => by
    obtain ⟨hp, g, d, tk, os⟩ := s
    obtain ⟨hl, h⟩ := h
    have f1 := AutoSeq1.idx_int
    wp_walk using wpAny_loadPart' hl
    repeat (first
      | (refine wpAny_ite_false (decide_eq_false (by rw [c0]; exact Bool.false_ne_true)) ?_; wp_walk using wpAny_loadPart' hl)
      | (refine wpAny_ite_false (decide_eq_false (by rw [c1]; exact Bool.false_ne_true)) ?_; wp_walk using wpAny_loadPart' hl)
      | (refine wpAny_ite_true (decide_eq_true (by rw [c2])) ?_; wp_walk using wpAny_loadPart' hl))
    exact ⟨_, rfl, h⟩
/-- t * k, whatever k is -/
def rRepG (K : PySem.W.Frag) : R2 := fun x y H Q => ∃ l k xs, x = .ref l ∧ y = .int k ∧ SqT K H l xs ∧ -1000000 ≤ k ∧ k ≤ 1000 ∧ xs.length ≤ 1000 ∧
  ((xs = [] ∨ k = 1) → Q (.ref l) H) ∧ (xs ≠ [] → k ≤ 0 → ∀ p o, H p = none → NewT o → Q (.ref p) (upd H p (.frz o (.tup [])))) ∧
  (xs ≠ [] → 2 ≤ k → ∀ p o, H p = none → NewT o → Q (.ref p) (upd H p (.frz o (.tup (List.replicate k.toNat xs).flatten))))
open HT in
theorem op_repG {X : Cx} : OpR X (binaryOp .Mult) (rRepG X.K) := by
  intro pins s σ H x y v u Q I rx ry h
  obtain ⟨l, k, xs, rfl, rfl, hT, h1, h2, hz, q1, q2, q3⟩ := h
  by_cases c : xs = [] ∨ k = 1
  · cases rx
    obtain ⟨t, rfl⟩ := ry
    obtain ⟨its, r, ⟨⟨cls, dd, data, sl⟩, ho, hc, n, hd⟩, hs⟩ := I.tuple hT
    simp only at hc hd
    subst hc hd
    have c0 : (decide (k < -(2 ^ 63)) || decide (k ≥ 2 ^ 63)) = false := by
      rw [decide_eq_false (by omega), decide_eq_false (by omega)] <;> rfl
    have c1 : (its.toArray.isEmpty || k == 1) = true := by
      rcases c with c | c
      · subst c
        cases r
        rfl
      · subst c
        simp
    exact wpAny_binaryOp_repeat_ref (T := "tuple") (U := "int") (by decide) ⟨_, ho, rfl⟩ (fun s' => typeIs_int s' k t) noFill_tuple_mul F.fills_int_mul F.slot_int_rmul repeat_tuple F.slot_int_index.lookup
      (call_meets F.slot_int_rmul (typeIs_int s k t) F.entry_int_rmul (F.args_int_rmul_2 _ _) (int_rmul_tuple k t l its.toArray n dd sl)
        ⟨ho, rfl, ⟨_, ho, rfl⟩, call_meets F.slot_tuple_mul ⟨_, ho, rfl⟩ F.entry_tuple_mul (F.args_tuple_mul_2 _ _) (tuple_mul_same l its.toArray n dd sl k t c0 c1) ⟨ho, ⟨.ref l, H, I, rfl, q1 c⟩⟩⟩)
  · have cx : xs ≠ [] := fun z => c (.inl z)
    have ck : k ≠ 1 := fun z => c (.inr z)
    by_cases k0 : k ≤ 0
    · cases rx
      obtain ⟨t, rfl⟩ := ry
      obtain ⟨its, r, ⟨⟨cls, dd, data, sl⟩, ho, hc, n, hd⟩, hs⟩ := I.tuple hT
      simp only at hc hd
      subst hc hd
      have c0 : (decide (k < -(2 ^ 63)) || decide (k ≥ 2 ^ 63)) = false := by
        rw [decide_eq_false (by omega), decide_eq_false (by omega)] <;> rfl
      have hi : its.toArray.isEmpty = false := by
        cases its with
        | nil => cases r; exact absurd rfl cx
        | cons a b => rfl
      have c1 : (its.toArray.isEmpty || k == 1) = false := by
        rw [hi, Bool.false_or]
        exact beq_eq_false_iff_ne.mpr ck
      have c2 : (decide (k ≤ 0) || its.toArray.isEmpty) = true := by
        rw [decide_eq_true k0] <;> rfl
      refine wpAny_binaryOp_repeat_ref (T := "tuple") (U := "int") (by decide) ⟨_, ho, rfl⟩ (fun s' => typeIs_int s' k t) noFill_tuple_mul F.fills_int_mul F.slot_int_rmul repeat_tuple F.slot_int_index.lookup
        (call_meets F.slot_int_rmul (typeIs_int s k t) F.entry_int_rmul (F.args_int_rmul_2 _ _) (int_rmul_tuple k t l its.toArray n dd sl)
          ⟨ho, rfl, ⟨_, ho, rfl⟩, call_meets F.slot_tuple_mul ⟨_, ho, rfl⟩ F.entry_tuple_mul (F.args_tuple_mul_2 _ _) (tuple_mul_none l its.toArray n dd sl k t c0 c1 c2) ⟨ho, ?_⟩⟩)
      exact ⟨.ref s.heap.objs.size, _, laidT I (xs := []) (its := []) .nil (Nat.zero_le _) s.toks, rfl, q2 cx k0 _ _ (I.hok.fresh (Nat.le_refl _)) ⟨rfl, rfl⟩⟩
    · cases rx
      obtain ⟨t, rfl⟩ := ry
      obtain ⟨its, r, ⟨⟨cls, dd, data, sl⟩, ho, hc, n, hd⟩, hs⟩ := I.tuple hT
      simp only at hc hd
      subst hc hd
      have hle : its.length = xs.length := r.length.symm
      have hi : its.toArray.isEmpty = false := by
        cases its with
        | nil => cases r; exact absurd rfl cx
        | cons a b => rfl
      have hsz0 : its.toArray.size = xs.length := by rw [List.size_toArray, hle]
      have hm : ((its.toArray.size : Nat) : Int) * k ≤ 1000000 := by
        rw [hsz0]
        have a1 : ((xs.length : Nat) : Int) * k ≤ 1000 * k := Int.mul_le_mul_of_nonneg_right (by omega) (by omega)
        omega
      have fl : (List.replicate k.toNat its).flatten.length ≤ sizeLine := by
        rw [PyProof.Rows.lm_len_rep_flat, hle, sizeLine_eq]
        have a1 : k.toNat * xs.length ≤ 1000 * 1000 := Nat.mul_le_mul (by omega) hz
        omega
      have c0 : (decide (k < -(2 ^ 63)) || decide (k ≥ 2 ^ 63)) = false := by
        rw [decide_eq_false (by omega), decide_eq_false (by omega)] <;> rfl
      have c1 : (its.toArray.isEmpty || k == 1) = false := by
        rw [hi, Bool.false_or]
        exact beq_eq_false_iff_ne.mpr ck
      have c2 : (decide (k ≤ 0) || its.toArray.isEmpty) = false := by
        rw [hi, Bool.or_false]
        exact decide_eq_false k0
      have c4 : Builtin.Tuple.tupleTooMany (((its.toArray.size : Nat) : Int) * k) = false := by
        unfold Builtin.Tuple.tupleTooMany
        rw [sizeLine_eq]
        exact decide_eq_false (by omega)
      refine wpAny_binaryOp_repeat_ref (T := "tuple") (U := "int") (by decide) ⟨_, ho, rfl⟩ (fun s' => typeIs_int s' k t) noFill_tuple_mul F.fills_int_mul F.slot_int_rmul repeat_tuple F.slot_int_index.lookup
        (call_meets F.slot_int_rmul (typeIs_int s k t) F.entry_int_rmul (F.args_int_rmul_2 _ _) (int_rmul_tuple k t l its.toArray n dd sl)
          ⟨ho, rfl, ⟨_, ho, rfl⟩, call_meets F.slot_tuple_mul ⟨_, ho, rfl⟩ F.entry_tuple_mul (F.args_tuple_mul_2 _ _) (tuple_mulW l its.toArray n dd sl k t c0 c1 c2 (by omega) c4 (by rw [size_rep, List.size_toArray]; exact fl)) ⟨ho, ?_⟩⟩)
      rw [size_rep]
      exact ⟨.ref s.heap.objs.size, _, laidT I (r.rep k.toNat) (by rw [(r.rep k.toNat).length]; exact fl) s.toks, rfl, q3 cx (by omega) _ _ (I.hok.fresh (Nat.le_refl _)) ⟨rfl, rfl⟩⟩
def repD (a : List D) (k : Int) : List D := (List.replicate k.toNat a).flatten
theorem RpL.rep {K : PySem.W.Frag} {H : Hp} {xs : List V} {ds : List D} (r : RpL K H xs ds []) : ∀ n : Nat, RpL K H (List.replicate n xs).flatten (List.replicate n ds).flatten []
  | 0 => .nil
  | n + 1 => by
    rw [List.replicate_succ, List.replicate_succ, List.flatten_cons, List.flatten_cons]
    exact r.append (RpL.rep r n)
def mulD : D → D → R D
  | .int a, .int b => if (-(2 ^ 64) < a ∧ a < 2 ^ 64) ∨ (-(2 ^ 64) < b ∧ b < 2 ^ 64) then .ok (.int (a * b)) else .stuck
  | .tuple a, .int k => if immL a = true ∧ -1000000 ≤ k ∧ k ≤ 1000 ∧ a.length ≤ 1000 then .ok (.tuple (repD a k)) else .stuck
  | .list a, .int k => if immL a = true ∧ -1000000 ≤ k ∧ k ≤ 1000 ∧ a.length ≤ 1000 then .ok (.list (repD a k)) else .stuck
  | _, _ => .stuck
def subD : D → D → R D
  | .int a, .int b => .ok (.int (a - b))
  | _, _ => .stuck
def modD : D → D → R D
  | .int a, .int b => if 0 < b then .ok (.int (a % b)) else .stuck
  | _, _ => .stuck
def fdivD : D → D → R D
  | .int a, .int b => if 0 < b ∧ b < 1073741824 then .ok (.int (a / b)) else .stuck
  | _, _ => .stuck
def powD : D → D → R D
  | .int a, .int b => if 0 ≤ b ∧ b ≤ 1000000 ∧ a.natAbs < 2 ^ 64 then .ok (.int (a ^ b.toNat)) else .stuck
  | _, _ => .stuck
section
variable {X : Cx} {T : List Addr}
theorem b_mul : BinD X T (binaryOp .Mult) mulD where
  nox := fun x y => by
    unfold mulD
    split <;> first | exact noxI noxO noxS | exact noxS
  ex := by
    refine ⟨_, or_or op_mul (or_or op_repG op_rep), ?_⟩
    intro H x y dx dy Fx Fy Q rx ry h
    cases dx <;> cases dy <;> first | exact False.elim h | skip
    · obtain ⟨hc, h⟩ := satI h
      cases rx
      cases ry
      exact .inl ⟨_, _, rfl, rfl, hc, h _ H [] .refl (.int _) .nil⟩
    · rename_i ds0 k
      obtain ⟨⟨hi, k1, k2, hl⟩, h⟩ := satI h
      cases rx with | @lst a xs _ F ea ra =>
      cases ry
      obtain rfl := ra.imm hi
      have hl2 : xs.length ≤ 1000 := by rw [ra.length]; exact hl
      have hk : k.toNat ≤ 1000 := by omega
      refine .inr (.inr ⟨a, k, xs, rfl, rfl, ea, by omega, by omega, ?_, fun p hp => ?_⟩)
      · rw [sz16]
        exact Nat.le_trans (Nat.mul_le_mul hl2 hk) (by decide)
      · have x : Ex T H (upd H p (.lst (List.replicate k.toNat xs).flatten)) := .new hp
        refine h _ _ [p] x (.lst upd_same ((ra.ex x).rep _)) ⟨fun c hc => ?_, fun _ => ?_⟩
        · rcases List.mem_cons.mp hc with z | z
          · exact .inr (.inr (by rw [z]; exact hp))
          · cases z
        · exact List.nodup_cons.mpr ⟨fun z => (nomatch z), List.nodup_nil⟩
    · rename_i ds0 k
      obtain ⟨⟨hi, k1, k2, hl⟩, h⟩ := satI h
      cases rx with | @tup a xs _ _ ea ra =>
      cases ry
      obtain rfl := ra.imm hi
      have hl2 : xs.length ≤ 1000 := by rw [ra.length]; exact hl
      refine .inr (.inl ⟨a, k, xs, rfl, rfl, ea.sq, k1, k2, hl2, fun z => ?_, fun _ z p o hp ho => ?_, fun _ z p o hp ho => ?_⟩)
      · refine h _ H [] .refl (.tup ea ?_) .nil
        rcases z with z | z
        · subst z
          cases ra
          have e : repD [] k = [] := by unfold repD; simp
          rw [e]; exact .nil
        · subst z
          have e : ∀ l : List D, repD l 1 = l := fun l => by
            unfold repD
            show (List.replicate 1 l).flatten = l
            simp
          rw [e]; exact ra
      · have x : Ex T H (upd H p (.frz o (.tup []))) := .new hp
        have e : ∀ l : List D, repD l k = [] := fun l => by
          unfold repD
          have : k.toNat = 0 := by omega
          rw [this]; rfl
        refine h _ _ [] x (.tup (.new ho) ?_) .nil
        rw [e]; exact .nil
      · have x : Ex T H (upd H p (.frz o (.tup (List.replicate k.toNat xs).flatten))) := .new hp
        exact h _ _ [] x (.tup (.new ho) ((ra.ex x).rep _)) .nil
theorem b_int {f : Value → Value → Sem Value} {C : Int → Int → Prop} {gi : Int → Int → Int} {g : D → D → R D} (ho : OpR X f (rI C fun i j => .int (gi i j))) (nox : ∀ x y, NoX (g x y))
    (hg : ∀ dx dy (P : D → Prop), Sat (g dx dy) P (fun _ => False) → ∃ i j, dx = .int i ∧ dy = .int j ∧ C i j ∧ P (.int (gi i j))) : BinD X T f g := ⟨nox, _, ho, fun H x y dx dy Fx Fy Q rx ry h => by
  obtain ⟨i, j, rfl, rfl, hc, q⟩ := hg _ _ _ h
  cases rx
  cases ry
  exact ⟨i, j, rfl, rfl, hc, q _ H [] .refl (.int _) .nil⟩⟩
theorem opI0' {f : Value → Value → Sem Value} {gi : Int → Int → Int} (h : OpR X f (rI0 fun i j => .int (gi i j))) : OpR X f (rI (fun _ _ => True) fun i j => .int (gi i j)) := by
  intro pins s σ H x y v u Q I rx ry ⟨i, j, e1, e2, _, q⟩
  exact h pins s σ H x y v u Q I rx ry ⟨i, j, e1, e2, q⟩
theorem b_sub : BinD X T (binaryOp .Sub) subD := b_int (opI0' op_sub) (fun x y => by unfold subD; split <;> first | exact noxO | exact noxS) fun dx dy P h => by
  cases dx <;> cases dy <;> first | exact False.elim h | exact ⟨_, _, rfl, rfl, trivial, h⟩
theorem b_mod : BinD X T (binaryOp .Mod) modD := b_int op_mod (fun x y => by unfold modD; split <;> first | exact noxI noxO noxS | exact noxS) fun dx dy P h => by
  cases dx <;> cases dy <;> first | exact False.elim h | (obtain ⟨hc, h⟩ := satI h; exact ⟨_, _, rfl, rfl, hc, h⟩)
theorem b_fdiv : BinD X T (binaryOp .FloorDiv) fdivD := b_int op_fdiv (fun x y => by unfold fdivD; split <;> first | exact noxI noxO noxS | exact noxS) fun dx dy P h => by
  cases dx <;> cases dy <;> first | exact False.elim h | (obtain ⟨hc, h⟩ := satI h; exact ⟨_, _, rfl, rfl, hc, h⟩)
theorem b_pow : BinD X T (binaryOp .Pow) powD := b_int op_pow (fun x y => by unfold powD; split <;> first | exact noxI noxO noxS | exact noxS) fun dx dy P h => by
  cases dx <;> cases dy <;> first | exact False.elim h | (obtain ⟨hc, h⟩ := satI h; exact ⟨_, _, rfl, rfl, hc, h⟩)
end
end Pd
namespace Pd
open PySem PySem.Spec PyProof.Rows L2
/-! ### comparisons -/
def shp (d : D) : Bool := SeqAt.shaped d
def eqD (x y : D) : R D := if shp x = true ∧ shp y = true then .ok (.bool (PyData.eqv x y)) else .stuck
def neD (x y : D) : R D := if shp x = true ∧ shp y = true then .ok (.bool (!PyData.eqv x y)) else .stuck
theorem shp_lay {d : D} (h : shp d = true) : d.canLay0 = true := SeqAt.canLay_of_shaped h
def ltD : D → D → R D
  | .int a, .int b => .ok (.bool (decide (a < b)))
  | .str a, .str b => .ok (.bool (decide (a.cps.toList < b.cps.toList)))
  | _, _ => .stuck
def leD : D → D → R D
  | .int a, .int b => .ok (.bool (decide (a ≤ b)))
  | _, _ => .stuck
def gtD : D → D → R D
  | .int a, .int b => .ok (.bool (decide (b < a)))
  | _, _ => .stuck
def geD : D → D → R D
  | .int a, .int b => .ok (.bool (decide (b ≤ a)))
  | _, _ => .stuck
/-- is None, is True, is False -/
def isD : D → D → R D
  | .none, .none => .ok (.bool true)
  | _, .none => .ok (.bool false)
  | .bool a, .bool b => .ok (.bool (a == b))
  | _, .bool _ => .ok (.bool false)
  | _, _ => .stuck
def notD (r : R D) : R D := r.bind fun d => match d with
  | .bool b => .ok (.bool (!b))
  | _ => .stuck
def isNotD (x y : D) : R D := notD (isD x y)
def inD : D → D → R D
  | d, .tuple ds => if shp d = true ∧ shp (.tuple ds) = true then .ok (.bool (ds.any fun z => PyData.eqv z d)) else .stuck
  | d, .list ds => if shp d = true ∧ shp (.list ds) = true then .ok (.bool (ds.any fun z => PyData.eqv z d)) else .stuck
  | .str i, .str j => .ok (.bool (!(Builtin.Str.occurrences j i 0 j.length 1).isEmpty))
  | _, _ => .stuck
def notInD (x y : D) : R D := notD (inD x y)
theorem noxN {r : R D} (h : NoX r) : NoX (notD r) := by
  unfold notD
  cases r with
  | ok d => cases d <;> first | exact noxO | exact noxS
  | exc c => exact (h c rfl).elim
  | stuck => exact noxS
section
variable {X : Cx} {T : List Addr}
theorem b_eq (hu : X.A.units + 64 < cLine) : BinD X T (compareOp .Eq) eqD where
  nox := fun x y => noxI noxO noxS
  ex := ⟨_, op_eqD hu, fun H x y dx dy Fx Fy Q rx ry h => by
    obtain ⟨⟨h1, h2⟩, h⟩ := satI h
    exact ⟨dx, dy, rx.dp (shp_lay h1), ry.dp (shp_lay h2), h1, h2, h _ H [] .refl (.bl _) .nil⟩⟩
theorem b_ne (hu : X.A.units + 64 < cLine) : BinD X T (compareOp .NotEq) neD where
  nox := fun x y => noxI noxO noxS
  ex := ⟨_, op_neD hu, fun H x y dx dy Fx Fy Q rx ry h => by
    obtain ⟨⟨h1, h2⟩, h⟩ := satI h
    exact ⟨dx, dy, rx.dp (shp_lay h1), ry.dp (shp_lay h2), h1, h2, h _ H [] .refl (.bl _) .nil⟩⟩
theorem b_lt : BinD X T (compareOp .Lt) ltD where
  nox := fun x y => by
    unfold ltD
    split <;> first | exact noxO | exact noxS
  ex := ⟨_, or_or op_lt op_lt_str, fun H x y dx dy Fx Fy Q rx ry h => by
    cases dx <;> cases dy <;> first | exact False.elim h | skip
    · cases rx
      cases ry
      exact .inl ⟨_, _, rfl, rfl, h _ H [] .refl (.bl _) .nil⟩
    · cases rx
      cases ry
      exact .inr ⟨_, _, rfl, rfl, h _ H [] .refl (.bl _) .nil⟩⟩
theorem b_cmpI {op : CmpOp} {p : Int → Int → Bool} {g : D → D → R D} (ho : OpR X (compareOp op) (rI0 fun i j => .bl (p i j))) (nox : ∀ x y, NoX (g x y))
    (hg : ∀ dx dy (P : D → Prop), Sat (g dx dy) P (fun _ => False) → ∃ i j, dx = .int i ∧ dy = .int j ∧ P (.bool (p i j))) : BinD X T (compareOp op) g := ⟨nox, _, ho, fun H x y dx dy Fx Fy Q rx ry h => by
  obtain ⟨i, j, rfl, rfl, q⟩ := hg _ _ _ h
  cases rx
  cases ry
  exact ⟨i, j, rfl, rfl, q _ H [] .refl (.bl _) .nil⟩⟩
theorem b_le : BinD X T (compareOp .LtE) leD := b_cmpI op_le (fun x y => by unfold leD; split <;> first | exact noxO | exact noxS) fun dx dy P h => by
  cases dx <;> cases dy <;> first | exact False.elim h | exact ⟨_, _, rfl, rfl, h⟩
theorem b_gt : BinD X T (compareOp .Gt) gtD := b_cmpI op_gt (fun x y => by unfold gtD; split <;> first | exact noxO | exact noxS) fun dx dy P h => by
  cases dx <;> cases dy <;> first | exact False.elim h | exact ⟨_, _, rfl, rfl, h⟩
theorem b_ge : BinD X T (compareOp .GtE) geD := b_cmpI op_ge (fun x y => by unfold geD; split <;> first | exact noxO | exact noxS) fun dx dy P h => by
  cases dx <;> cases dy <;> first | exact False.elim h | exact ⟨_, _, rfl, rfl, h⟩
/-! is -/
theorem is_bool_gen {M : Model} {A : Around} {E : Value → Shared → Prop} {s : Shared} {Q : Value → Shared → Prop} {v : Value} {b : Bool} (n : ∀ i, v ≠ .builtin i) (h : Q (.bool (v == .bool b)) s) : wpAny M A (compareOp .Is v (.bool b)) Q E s := by
  cases v <;> first | exact (n _ rfl).elim | exact wpAny_pure h
theorem isnot_bool_gen {M : Model} {A : Around} {E : Value → Shared → Prop} {s : Shared} {Q : Value → Shared → Prop} {v : Value} {b : Bool} (n : ∀ i, v ≠ .builtin i) (h : Q (.bool (!(v == .bool b))) s) : wpAny M A (compareOp .IsNot v (.bool b)) Q E s := by
  cases v <;> first | exact (n _ rfl).elim | exact wpAny_pure h
theorem rel_nb {v : V} {u : Value} (r : RelV v u) : ∀ i, u ≠ .builtin i := fun i e => by
  subst e
  cases v <;> first | (obtain ⟨t, q⟩ := r; cases q; done) | (cases r; done)
theorem rel_bl {v : V} {u : Value} {b : Bool} (r : RelV v u) : (u == .bool b) = decide (v = .bl b) := by
  cases v <;> first | (obtain ⟨t, q⟩ := r; subst q; simp; done) | (cases r; simp; done) | (cases r; rw [Bool.eq_iff_iff]; simp; done)
theorem op_isBG : OpR X (compareOp .Is) (fun x y H Q => ∃ b, y = .bl b ∧ Q (.bl (decide (x = .bl b))) H) := by
  intro pins s σ H x y v u Q I rx ry h
  obtain ⟨b, rfl, q⟩ := h
  cases ry
  refine is_bool_gen (rel_nb rx) ⟨.bl _, H, I, ?_, q⟩
  rw [rel_bl rx]
  exact rfl
theorem op_isNotBG : OpR X (compareOp .IsNot) (fun x y H Q => ∃ b, y = .bl b ∧ Q (.bl (!decide (x = .bl b))) H) := by
  intro pins s σ H x y v u Q I rx ry h
  obtain ⟨b, rfl, q⟩ := h
  cases ry
  refine isnot_bool_gen (rel_nb rx) ⟨.bl _, H, I, ?_, q⟩
  rw [rel_bl rx]
  exact rfl
theorem isD_n {K : PySem.W.Frag} {H : Hp} {x : V} {d : D} {F : List Addr} (r : Rp K H x d F) : isD d .none = .ok (.bool (decide (x = .non))) := by
  cases r <;> simp [isD]
theorem isD_b {K : PySem.W.Frag} {H : Hp} {x : V} {d : D} {F : List Addr} {b : Bool} (r : Rp K H x d F) : isD d (.bool b) = .ok (.bool (decide (x = .bl b))) := by
  cases r <;> simp [isD]
  rename_i a
  cases a <;> cases b <;> rfl
theorem noxIs (x y : D) : NoX (isD x y) := by
  unfold isD
  split <;> first | exact noxO | exact noxS
theorem b_is : BinD X T (compareOp .Is) isD where
  nox := noxIs
  ex := ⟨_, or_or op_isN op_isBG, fun H x y dx dy Fx Fy Q rx ry h => by
    cases dy <;> first | (cases ry; rw [isD_n rx] at h; exact .inl ⟨rfl, h _ H [] .refl (.bl _) .nil⟩) | (cases ry; rw [isD_b rx] at h; exact .inr ⟨_, rfl, h _ H [] .refl (.bl _) .nil⟩) | (cases dx <;> exact False.elim h)⟩
theorem b_isNot : BinD X T (compareOp .IsNot) isNotD where
  nox := fun x y => noxN (noxIs x y)
  ex := ⟨_, or_or op_notN op_isNotBG, fun H x y dx dy Fx Fy Q rx ry h => by
    unfold isNotD at h
    cases dy <;> first | (cases ry; rw [isD_n rx] at h; exact .inl ⟨rfl, h _ H [] .refl (.bl _) .nil⟩) | (cases ry; rw [isD_b rx] at h; exact .inr ⟨_, rfl, h _ H [] .refl (.bl _) .nil⟩) | (cases dx <;> exact False.elim h)⟩
/-! in -/
theorem op_inTD (hu : X.A.units + 65 < cLine) : OpR X (compareOp .In) (fun x y H Q => ∃ d ds, Dp X.K H x d ∧ Dp X.K H y (.tuple ds) ∧ SeqAt.shaped d = true ∧ SeqAt.shaped (.tuple ds) = true ∧ Q (.bl (ds.any fun z => PyData.eqv z d)) H) := by
  intro pins s σ H x y v u Q I rx ry h
  obtain ⟨d, ds, hd, he, sd, se, q⟩ := h
  obtain ⟨as, r1⟩ := Dp.reads I d x v hd rx
  obtain ⟨bs, r2⟩ := Dp.reads I (.tuple ds) y u he ry
  exact SeqAt.in_tuple_reads r2 r1 (SeqAt.canLay_of_shaped se) (SeqAt.canLay_of_shaped sd) (room_in_shaped sd hu) ⟨.bl _, H, I, rfl, q⟩
theorem op_notInTD (hu : X.A.units + 65 < cLine) : OpR X (compareOp .NotIn) (fun x y H Q => ∃ d ds, Dp X.K H x d ∧ Dp X.K H y (.tuple ds) ∧ SeqAt.shaped d = true ∧ SeqAt.shaped (.tuple ds) = true ∧ Q (.bl (!ds.any fun z => PyData.eqv z d)) H) := by
  intro pins s σ H x y v u Q I rx ry h
  obtain ⟨d, ds, hd, he, sd, se, q⟩ := h
  obtain ⟨as, r1⟩ := Dp.reads I d x v hd rx
  obtain ⟨bs, r2⟩ := Dp.reads I (.tuple ds) y u he ry
  exact SeqAt.notIn_tuple_reads r2 r1 (SeqAt.canLay_of_shaped se) (SeqAt.canLay_of_shaped sd) (room_in_shaped sd hu) ⟨.bl _, H, I, rfl, q⟩
theorem noxIn (x y : D) : NoX (inD x y) := by
  unfold inD
  split <;> first | exact noxI noxO noxS | exact noxO | exact noxS
theorem inD_t (x : D) (ds : List D) : inD x (.tuple ds) = if shp x = true ∧ shp (.tuple ds) = true then .ok (.bool (ds.any fun z => PyData.eqv z x)) else .stuck := by cases x <;> rfl
theorem inD_l (x : D) (ds : List D) : inD x (.list ds) = if shp x = true ∧ shp (.list ds) = true then .ok (.bool (ds.any fun z => PyData.eqv z x)) else .stuck := by cases x <;> rfl
theorem b_in (hu : X.A.units + 65 < cLine) : BinD X T (compareOp .In) inD where
  nox := noxIn
  ex := ⟨_, or_or (op_inTD hu) (or_or (op_inD hu) op_in_str), fun H x y dx dy Fx Fy Q rx ry h => by
    cases dy with
    | tuple ds =>
      rw [inD_t] at h
      obtain ⟨⟨h1, h2⟩, h⟩ := satI h
      exact .inl ⟨dx, _, rx.dp (shp_lay h1), ry.dp (shp_lay h2), h1, h2, h _ H [] .refl (.bl _) .nil⟩
    | list ds =>
      rw [inD_l] at h
      obtain ⟨⟨h1, h2⟩, h⟩ := satI h
      exact .inr (.inl ⟨dx, _, rx.dp (shp_lay h1), ry.dp (shp_lay h2), h1, h2, h _ H [] .refl (.bl _) .nil⟩)
    | str j =>
      cases dx <;> first | exact False.elim h | (cases rx; cases ry; exact .inr (.inr ⟨_, _, rfl, rfl, h _ H [] .refl (.bl _) .nil⟩))
    | _ => cases dx <;> exact False.elim h⟩
theorem b_notIn (hu : X.A.units + 65 < cLine) : BinD X T (compareOp .NotIn) notInD where
  nox := fun x y => noxN (noxIn x y)
  ex := ⟨_, or_or (op_notInTD hu) (or_or (op_notInD hu) op_notin_str), fun H x y dx dy Fx Fy Q rx ry h => by
    unfold notInD at h
    cases dy with
    | tuple ds =>
      rw [inD_t] at h
      by_cases hc : shp dx = true ∧ shp (.tuple ds) = true
      · rw [if_pos hc] at h
        exact .inl ⟨dx, _, rx.dp (shp_lay hc.1), ry.dp (shp_lay hc.2), hc.1, hc.2, h _ H [] .refl (.bl _) .nil⟩
      · rw [if_neg hc] at h
        exact False.elim h
    | list ds =>
      rw [inD_l] at h
      by_cases hc : shp dx = true ∧ shp (.list ds) = true
      · rw [if_pos hc] at h
        exact .inr (.inl ⟨dx, _, rx.dp (shp_lay hc.1), ry.dp (shp_lay hc.2), hc.1, hc.2, h _ H [] .refl (.bl _) .nil⟩)
      · rw [if_neg hc] at h
        exact False.elim h
    | str j =>
      cases dx <;> first | exact False.elim h | (cases rx; cases ry; exact .inr (.inr ⟨_, _, rfl, rfl, h _ H [] .refl (.bl _) .nil⟩))
    | _ => cases dx <;> exact False.elim h⟩
end
end Pd
namespace Pd
open PySem PySem.Spec PyProof.Rows L2
/-! ### truth -/
def truthD : D → R Bool
  | .none => .ok false
  | .bool b => .ok b
  | .int i => .ok (i != 0)
  | .str y => if y.length ≤ 16777216 then .ok ((y.length : Int) != 0) else .stuck
  | .tuple xs => .ok (!xs.isEmpty)
  | .list xs => .ok (!xs.isEmpty)
  | .dict _ => .stuck
theorem truthD_nox (d : D) : NoX (truthD d) := by
  unfold truthD
  split <;> first | exact noxO | exact noxI noxO noxS | exact noxS
theorem RpL.isEmpty {K : PySem.W.Frag} {H : Hp} {xs : List V} {ds : List D} {F : List Addr} (r : RpL K H xs ds F) : xs.isEmpty = ds.isEmpty := by
  cases r <;> rfl
theorem truV {K : PySem.W.Frag} {H : Hp} {x : V} {d : D} {F : List Addr} {P : Bool → Prop} (r : Rp K H x d F) (h : Sat (truthD d) P (fun _ => False)) : ∃ k, TruV K x H k ∧ P k := by
  cases r with
  | non => exact ⟨_, rfl, h⟩
  | bl b => exact ⟨_, rfl, h⟩
  | int i => exact ⟨_, rfl, h⟩
  | str y =>
    obtain ⟨hc, h⟩ := satI h
    exact ⟨_, ⟨by rw [sz16]; exact hc, rfl⟩, h⟩
  | @tup a xs ds F s r => exact ⟨_, .inr (.inl ⟨xs, s.sq, rfl⟩), by rw [r.isEmpty]; exact h⟩
  | @lst a xs ds F s r => exact ⟨_, .inl ⟨xs, .inl (.inl s), rfl⟩, by rw [r.isEmpty]; exact h⟩
  | ro _ _ => exact False.elim h
  | dK _ _ _ => exact False.elim h
  | dT _ _ _ => exact False.elim h
def bTru (F : EF) : Env → R Bool := fun ρ => (F ρ).bind truthD
def bNot (F : Env → R Bool) : Env → R Bool := fun ρ => (F ρ).bind fun b => .ok (!b)
def bAnd (F G : Env → R Bool) : Env → R Bool := fun ρ => (F ρ).bind fun b => if b = true then G ρ else .ok false
def bOr (F G : Env → R Bool) : Env → R Bool := fun ρ => (F ρ).bind fun b => if b = true then .ok true else G ρ
def eAnd (F G : EF) : EF := fun ρ => (F ρ).bind fun x => (truthD x).bind fun b => if b = true then G ρ else .ok x
def eOr (F G : EF) : EF := fun ρ => (F ρ).bind fun x => (truthD x).bind fun b => if b = true then .ok x else G ρ
def eNot (F : EF) : EF := fun ρ => (F ρ).bind fun x => (truthD x).bind fun b => .ok (.bool (!b))
def eIf (C : Env → R Bool) (F G : EF) : EF := fun ρ => (C ρ).bind fun b => if b = true then F ρ else G ρ
section
variable {X : Cx} {C : Cc} {W : WX} {O : Own} {pos : Pos} {a b c : Expr} {F G J : EF} {ka kb k kc : Nat} {B B' : Env → R Bool} {rest : List Expr}
theorem tv_tru (h : EV X C W O a k F) (he : ∀ whole, isTrue a X.env whole = (do let v ← whole; standAt a.pos; holding [v] (truthy v)) := by intro _; rfl) : TV X C W O a (bTru F) := (pt_truth h he).imp fun σ H Q ⟨ρ, Fs, er, q⟩ => by
  refine tD.step er (Sat.bind q) fun d v H1 F1 p er1 x1 r1 kd1 => ?_
  obtain ⟨k, h1, h2⟩ := truV r1 (p.nox (truthD_nox d))
  exact ⟨k, h1, h2 H1 x1⟩
theorem tv_not (h : TV X C W O a B) : TV X C W O (.UnaryOp .Not a pos) (bNot B) := (pt_not h).imp fun σ H Q ⟨ρ, Fs, er, q⟩ =>
  tB.step er (Sat.bind q) fun d H1 p er1 x1 => p H1 x1
abbrev WV (X : Cx) (C : Cc) (W : WX) (O : Own) (e : Expr) (F : Env → R Bool) : Prop := PW X e (tB X.K C W O F)
theorem tv_pw (h : WV X C W O a B) : TV X C W O a B := PW.pt h
theorem wv_and1 (h : TV X C W O a B) : WV X C W O (.BoolOp .And [a] pos) B := pw_and1 h
theorem wv_or1 (h : TV X C W O a B) : WV X C W O (.BoolOp .Or [a] pos) B := pw_or1 h
theorem wv_and (h : TV X C W O a B) (h' : WV X C W O (.BoolOp .And (b :: rest) pos) B') : WV X C W O (.BoolOp .And (a :: b :: rest) pos) (bAnd B B') := (pw_and h h').imp fun σ H Q ⟨ρ, Fs, er, q⟩ => by
  refine tB.step er (Sat.bind q) fun d H1 p er1 x1 => ?_
  cases d with
  | true => exact ite_tt ⟨ρ, Fs, er1, (Sat.later p x1).mono (fun b hb H' x' => hb H' (x1.trans x')) fun _ z => z⟩
  | false => exact ite_ff (p H1 x1)
theorem wv_or (h : TV X C W O a B) (h' : WV X C W O (.BoolOp .Or (b :: rest) pos) B') : WV X C W O (.BoolOp .Or (a :: b :: rest) pos) (bOr B B') := (pw_or h h').imp fun σ H Q ⟨ρ, Fs, er, q⟩ => by
  refine tB.step er (Sat.bind q) fun d H1 p er1 x1 => ?_
  cases d with
  | false => exact ite_ff ⟨ρ, Fs, er1, (Sat.later p x1).mono (fun b hb H' x' => hb H' (x1.trans x')) fun _ z => z⟩
  | true => exact ite_tt (p H1 x1)
/-- the second reading, from a grown heap -/
theorem tD.again {σ : L2.St} {H H1 : Hp} {Q : VK} {ρ : Env} {Fs : Nat → List Addr} {k' : Nat} (er1 : ER X.K C O H1 σ ρ Fs) (x1 : Ex C.T H H1) (hk : k ≤ k')
    (p : Sat (F ρ) (fun d => ∀ v H' F', Ex C.T H H' → Rp X.K H' v d F' → KdOk k' O H Fs F' → Q v H') (WOk X.K C W σ H)) : tD X.K C W O k F σ H1 Q :=
  ⟨ρ, Fs, er1, (Sat.later p x1).mono (fun d q v H' F' x' r kd => q v H' F' (x1.trans x') r ((kd.back x1).up hk)) fun _ z => z⟩
theorem ev_one {op : BoolOp} (h : EV X C W O a k F) : EV X C W O (.BoolOp op [a] pos) k F := pe_one h
theorem ev_and {k : Nat} (h : EV X C W O a ka F) (h' : EV X C W O (.BoolOp .And (b :: rest) pos) kb G) (hk : max ka kb = k := by rfl) : EV X C W O (.BoolOp .And (a :: b :: rest) pos) k (eAnd F G) := (pe_andT h h').imp fun σ H Q ⟨ρ, Fs, er, q⟩ => by
  subst hk
  refine tD.step er (Sat.bind q) fun d v H1 F1 p er1 x1 r1 kd1 => ?_
  have p := Sat.bind p
  cases e : truthD d with
  | ok t =>
    rw [e] at p
    obtain ⟨t', h1, h2⟩ := truV (P := fun c => c = t) r1 (by rw [e]; exact rfl)
    subst h2
    refine ⟨t', h1, ?_⟩
    cases t' with
    | true => exact ite_tt (tD.again er1 x1 (Nat.le_max_right _ _) p)
    | false => exact ite_ff (p v H1 F1 x1 r1 (kd1.up (Nat.le_max_left _ _)))
  | exc c => exact (truthD_nox d c e).elim
  | stuck => rw [e] at p; exact p.elim
theorem ev_or {k : Nat} (h : EV X C W O a ka F) (h' : EV X C W O (.BoolOp .Or (b :: rest) pos) kb G) (hk : max ka kb = k := by rfl) : EV X C W O (.BoolOp .Or (a :: b :: rest) pos) k (eOr F G) := (pe_orT h h').imp fun σ H Q ⟨ρ, Fs, er, q⟩ => by
  subst hk
  refine tD.step er (Sat.bind q) fun d v H1 F1 p er1 x1 r1 kd1 => ?_
  have p := Sat.bind p
  cases e : truthD d with
  | ok t =>
    rw [e] at p
    obtain ⟨t', h1, h2⟩ := truV (P := fun c => c = t) r1 (by rw [e]; exact rfl)
    subst h2
    refine ⟨t', h1, ?_⟩
    cases t' with
    | false => exact ite_ff (tD.again er1 x1 (Nat.le_max_right _ _) p)
    | true => exact ite_tt (p v H1 F1 x1 r1 (kd1.up (Nat.le_max_left _ _)))
  | exc c => exact (truthD_nox d c e).elim
  | stuck => rw [e] at p; exact p.elim
theorem ev_not (h : EV X C W O a k F) : EV X C W O (.UnaryOp .Not a pos) 0 (eNot F) := (pe_notT h).imp fun σ H Q ⟨ρ, Fs, er, q⟩ => by
  refine tD.step er (Sat.bind q) fun d v H1 F1 p er1 x1 r1 kd1 => ?_
  obtain ⟨t, h1, h2⟩ := truV r1 ((Sat.bind p).nox (truthD_nox d))
  exact ⟨t, h1, h2 _ H1 [] x1 (.bl _) .nil⟩
theorem ev_if {k : Nat} (hc : TV X C W O c B) (h : EV X C W O a ka F) (h' : EV X C W O b kb G) (hk : max ka kb = k := by rfl) : EV X C W O (.IfExp c a b pos) k (eIf B F G) := (pe_ifExp hc h h').imp fun σ H Q ⟨ρ, Fs, er, q⟩ => by
  subst hk
  refine tB.step er (Sat.bind q) fun d H1 p er1 x1 => ?_
  cases d with
  | true => exact ite_tt (tD.again er1 x1 (Nat.le_max_left _ _) p)
  | false => exact ite_ff (tD.again er1 x1 (Nat.le_max_right _ _) p)
/-! ### chains of two comparisons -/
def eChain (g g' : D → D → R D) (F G J : EF) : EF := fun ρ => (F ρ).bind fun x => (G ρ).bind fun y => (g x y).bind fun z => match z with
  | .bool true => (J ρ).bind fun w => g' y w
  | .bool false => .ok (.bool false)
  | _ => .stuck
def bChain (g g' : D → D → R D) (F G J : EF) : Env → R Bool := fun ρ => (eChain g g' F G J ρ).bind fun z => match z with
  | .bool b => .ok b
  | _ => .stuck
theorem chain_read {r r' : R2} {g g' : D → D → R D} (nox : ∀ x y, NoX (g x y)) (nox' : ∀ x y, NoX (g' x y))
    (hr : ∀ H x y dx dy Fx Fy Q, Rp X.K H x dx Fx → Rp X.K H y dy Fy → Sat (g dx dy) (fun d => ∀ v H' F', Ex C.T H H' → Rp X.K H' v d F' → Mix H Fx Fy F' → Q v H') (fun _ => False) → r x y H Q)
    (hr' : ∀ H x y dx dy Fx Fy Q, Rp X.K H x dx Fx → Rp X.K H y dy Fy → Sat (g' dx dy) (fun d => ∀ v H' F', Ex C.T H H' → Rp X.K H' v d F' → Mix H Fx Fy F' → Q v H') (fun _ => False) → r' x y H Q)
    {σ : L2.St} {H : Hp} {Q : VK} {ρ : Env} {Fs : Nat → List Addr} (er : ER X.K C O H σ ρ Fs)
    (h : Sat (eChain g g' F G J ρ) (fun d => ∀ v H' F', Ex C.T H H' → Rp X.K H' v d F' → Q v H') (WOk X.K C W σ H)) : tChain r r' (tD X.K C W O ka F) (tD X.K C W O kb G) (tD X.K C W O kc J) σ H Q := by
  refine tD.step er (Sat.bind h) fun d v H1 F1 p er1 x1 r1 kd1 => ?_
  refine tD.step er1 (Sat.later (Sat.bind p) x1) fun d2 v2 H2 F2 p2 er2 x2 r2 kd2 => ?_
  have x12 := x1.trans x2
  have p2 := Sat.bind p2
  cases e : g d d2 with
  | ok z =>
    rw [e] at p2
    refine hr H2 v v2 d d2 F1 F2 _ (r1.ex x2) r2 ?_
    rw [e]
    intro v3 H3 F3 x3 r3 m
    have x123 := x12.trans x3
    cases z with
    | bool b =>
      cases r3
      cases b with
      | false => exact ⟨false, rfl, ite_ff (p2 _ H3 [] x123 (.bl _))⟩
      | true =>
        refine ⟨true, rfl, ite_tt ?_⟩
        have p2 : Sat ((J ρ).bind fun w => g' d2 w) _ _ := p2
        refine tD.step (er2.ex x3) (Sat.later (Sat.bind p2) x123) fun d4 v4 H4 F4 p4 er4 x4 r4 kd4 => ?_
        exact hr' H4 v2 v4 d2 d4 F2 F4 Q (r2.ex (x3.trans x4)) r4 ((p4.nox (nox' _ _)).mono (fun d5 p5 v5 H5 F5 x5 r5 m5 => p5 v5 H5 F5 ((x123.trans x4).trans x5) r5) fun _ z => z)
    | _ => exact p2.elim
  | exc c => exact (nox _ _ c e).elim
  | stuck => rw [e] at p2; exact p2.elim
theorem eChain_imm {g g' : D → D → R D} {ρ : Env} (h : ∀ x y z, g' x y = .ok z → imm z = true) {z : D} (e : eChain g g' F G J ρ = .ok z) : imm z = true := by
  unfold eChain at e
  cases e1 : F ρ with
  | ok x =>
    rw [e1, R.bind_ok] at e
    cases e2 : G ρ with
    | ok y =>
      rw [e2, R.bind_ok] at e
      cases e3 : g x y with
      | ok w =>
        rw [e3, R.bind_ok] at e
        cases w with
        | bool b =>
          cases b with
          | false => cases e; rfl
          | true =>
            cases e4 : J ρ with
            | ok q =>
              simp only [e4, R.bind_ok] at e
              exact h _ _ _ e
            | exc c => simp only [e4, R.bind_exc] at e; cases e
            | stuck => simp only [e4, R.bind_stuck] at e; cases e
        | _ => cases e
      | exc c => rw [e3] at e; cases e
      | stuck => rw [e3] at e; cases e
    | exc c => rw [e2] at e; cases e
    | stuck => rw [e2] at e; cases e
  | exc c => rw [e1] at e; cases e
  | stuck => rw [e1] at e; cases e
theorem ev_chain {op op' : CmpOp} {g g' : D → D → R D} (Bg : BinD X C.T (compareOp op) g) (Bg' : BinD X C.T (compareOp op') g') (ha : EV X C W O a ka F) (hb : EV X C W O b kb G) (hc : EV X C W O c kc J)
    (him : ∀ x y z, g' x y = .ok z → imm z = true) (hm : lastMarks [op, op'] [b, c] = false := by with_unfolding_all rfl) : EV X C W O (.Compare a [op, op'] [b, c] pos) 0 (eChain g g' F G J) := by
  obtain ⟨nox, r, ho, hr⟩ := Bg
  obtain ⟨nox', r', ho', hr'⟩ := Bg'
  refine (pe_chain ho ho' ha hb hc hm).imp fun σ H Q ⟨ρ, Fs, er, q⟩ => ?_
  refine chain_read (W := W) nox nox' hr hr' er ?_
  cases e : eChain g g' F G J ρ with
  | ok z =>
    rw [e] at q
    intro v H' F' x r
    have e1 := r.imm (eChain_imm him e)
    subst e1
    exact q v H' [] x r .nil
  | exc c => rw [e] at q; exact q
  | stuck => rw [e] at q; exact q
theorem tv_chain {op op' : CmpOp} {g g' : D → D → R D} (Bg : BinD X C.T (compareOp op) g) (Bg' : BinD X C.T (compareOp op') g') (ha : EV X C W O a ka F) (hb : EV X C W O b kb G) (hc : EV X C W O c kc J)
    (hm : lastMarks [op, op'] [b, c] = false := by with_unfolding_all rfl) : TV X C W O (.Compare a [op, op'] [b, c] pos) (bChain g g' F G J) := by
  obtain ⟨nox, r, ho, hr⟩ := Bg
  obtain ⟨nox', r', ho', hr'⟩ := Bg'
  refine (pt_chain ho ho' ha hb hc hm).imp fun σ H Q ⟨ρ, Fs, er, q⟩ => ?_
  refine chain_read (W := W) nox nox' hr hr' er ?_
  refine (Sat.bind q).mono (fun z p v H' F' x r => ?_) fun _ z => z
  cases z with
  | bool b => cases r; exact ⟨b, rfl, p H' x⟩
  | _ => exact p.elim
theorem imm_le {x y z : D} (h : leD x y = .ok z) : imm z = true := by
  cases x <;> cases y <;> first | (cases h; rfl) | cases h
theorem imm_lt {x y z : D} (h : ltD x y = .ok z) : imm z = true := by
  cases x <;> cases y <;> first | (cases h; rfl) | cases h
/-! ### displays -/
end
def lNil : Env → R (List D) := fun _ => .ok []
def lCons (F : EF) (L : Env → R (List D)) : Env → R (List D) := fun ρ => (F ρ).bind fun x => (L ρ).bind fun xs => .ok (x :: xs)
def eTup (L : Env → R (List D)) : EF := fun ρ => (L ρ).bind fun xs => .ok (.tuple xs)
def eLst (L : Env → R (List D)) : EF := fun ρ => (L ρ).bind fun xs => .ok (.list xs)
/-- an argument list; its length -/
structure AVn (X : Cx) (C : Cc) (W : WX) (O : Own) (es : List Expr) (k : Nat) (F : Env → R (List D)) : Prop where
  av : AV X C W O es k F
  n : ∀ ρ ds, F ρ = .ok ds → ds.length = es.length
section
variable {X : Cx} {C : Cc} {W : WX} {O : Own} {pos : Pos} {a : Expr} {es : List Expr} {F : EF} {L : Env → R (List D)} {ka kb k : Nat}
theorem av_nil : AVn X C W O [] 0 lNil := ⟨pa_nil.imp fun σ H Q ⟨ρ, Fs, er, q⟩ => q [] H [] .refl .nil .nil, fun ρ ds e => by cases e; rfl⟩
theorem av_cons (ha : EV X C W O a ka F) (hr : AVn X C W O es kb L) (hs : starEach (a :: es) X.env = (false, eval a X.env) :: starEach es X.env := by rfl) {k : Nat} (hk : max ka kb = k := by rfl) : AVn X C W O (a :: es) k (lCons F L) := by
  subst hk
  refine ⟨(pa_cons ha hr.av hs).imp fun σ H Q ⟨ρ, Fs, er, q⟩ => ?_, fun ρ ds e => ?_⟩
  · refine tD.step er (Sat.bind q) fun d v H1 F1 p er1 x1 r1 kd1 => ?_
    refine tL.step er1 (Sat.later (Sat.bind p) x1) fun d2 v2 H2 F2 p2 er2 x2 r2 kd2 => ?_
    exact p2 _ H2 _ (x1.trans x2) (.cons (r1.ex x2) r2) (kd1.mix kd2 x1 x2 r1.nn .app)
  · unfold lCons at e
    cases e1 : F ρ with
    | ok x =>
      rw [e1, R.bind_ok] at e
      cases e2 : L ρ with
      | ok xs =>
        rw [e2] at e
        cases e
        rw [List.length_cons, List.length_cons, hr.n ρ xs e2]
      | exc c => rw [e2] at e; cases e
      | stuck => rw [e2] at e; cases e
    | exc c => rw [e1] at e; cases e
    | stuck => rw [e1] at e; cases e
theorem av_up (h : AVn X C W O es k L) (hk : k ≤ kb) : AVn X C W O es kb L := ⟨h.av.imp fun σ H Q ⟨ρ, Fs, er, q⟩ =>
  tL.step er q fun d v H1 F1 p er1 x1 r1 kd1 => p v H1 F1 x1 r1 (kd1.up hk), h.n⟩
theorem sat_n {σ : L2.St} {H : Hp} {ρ : Env} {P : List D → Prop} {E : Str → Prop} (h : AVn X C W O es k L) (q : Sat (L ρ) P E) : Sat (L ρ) (fun ds => ds.length = es.length ∧ P ds) E := by
  cases e : L ρ with
  | ok ds => rw [e] at q; exact ⟨h.n ρ ds e, q⟩
  | exc c => rw [e] at q; exact q
  | stuck => rw [e] at q; exact q
theorem ev_tup {x1} (h : AVn X C W O es k L) (hn : es.length ≤ 1000 := by decide) : EV X C W O (.Tuple es x1 pos) k (eTup L) := (pe_tupF h.av).imp fun σ H Q ⟨ρ, Fs, er, q⟩ => by
  refine tL.step er (sat_n (σ := σ) (H := H) h (Sat.bind q)) fun d v H1 F1 ⟨hl, p⟩ er1 x1 r1 kd1 => ⟨by rw [sz16, r1.length, hl]; omega, fun a o ha ho => ?_⟩
  have x2 : Ex C.T H1 (upd H1 a (.frz o (.tup v))) := .new ha
  exact p _ _ F1 (x1.trans x2) (.tup (.new ho) (r1.ex x2)) (kd1.mix1 x1 .refl)
theorem ev_lst (h : AVn X C W O es k L) (hn : es.length ≤ 1000 := by decide) : EV X C W O (.List es pos) k (eLst L) := (pe_lst h.av).imp fun σ H Q ⟨ρ, Fs, er, q⟩ => by
  refine tL.step er (sat_n (σ := σ) (H := H) h (Sat.bind q)) fun d v H1 F1 ⟨hl, p⟩ er1 x1 r1 kd1 => ⟨by rw [sz16, r1.length, hl]; omega, fun a ha => ?_⟩
  have x2 : Ex C.T H1 (upd H1 a (.lst v)) := .new ha
  exact p _ _ (a :: F1) (x1.trans x2) (.lst upd_same (r1.ex x2)) (kd1.mix1 x1 (mix1_new ha r1.nn (List.Sublist.refl _)))
end
/-! ### subscripts -/
def ixD : D → D → R D
  | .tuple ds, .int i => match atI ds i with
    | some d => .ok d
    | none => .stuck
  | .list ds, .int i => match atI ds i with
    | some d => .ok d
    | none => .stuck
  | .dict [(.none, .tuple ds)], .int i => match atI ds i with
    | some d => .ok d
    | none => .stuck
  | .str z, .int i => if z.length ≤ 16777216 then (match atI z.cps.toList i with
    | some c => .ok (.str ⟨#[c]⟩)
    | none => .stuck) else .stuck
  | _, _ => .stuck
theorem atI_rp {K : PySem.W.Frag} {H : Hp} {xs : List V} {ds : List D} {F : List Addr} {i : Int} {d : D} (r : RpL K H xs ds F) (h : atI ds i = some d) : ∃ v G, atI xs i = some v ∧ Rp K H v d G ∧ List.Sublist G F := by
  unfold atI at h ⊢
  rw [r.length]
  cases e : ixN ds.length i with
  | none => rw [e] at h; cases h
  | some j =>
    rw [e] at h
    exact r.get h
def cut {α : Type} (xs : List α) (lo hi : Option Int) : List α := (xs.drop (HT.sIx xs.length 0 lo)).take (HT.sIx xs.length xs.length hi - HT.sIx xs.length 0 lo)
theorem cut_rp {K : PySem.W.Frag} {H : Hp} {xs : List V} {ds : List D} {F : List Addr} (lo hi : Option Int) (r : RpL K H xs ds F) : ∃ G, RpL K H (cutV xs lo hi) (cut ds lo hi) G ∧ List.Sublist G F := by
  unfold cutV cut
  rw [r.length]
  obtain ⟨G, r1, s1⟩ := r.drop (HT.sIx ds.length 0 lo)
  obtain ⟨G2, r2, s2⟩ := r1.take (HT.sIx ds.length ds.length hi - HT.sIx ds.length 0 lo)
  exact ⟨G2, r2, s2.trans s1⟩
def slD (x : D) (lo hi : Option Int) : R D := match x with
  | .tuple ds => .ok (.tuple (cut ds lo hi))
  | .list ds => .ok (.list (cut ds lo hi))
  | .str z => if z.length ≤ 16777216 then .ok (.str (cutS z lo hi)) else .stuck
  | _ => .stuck
/-- one thing in -/
structure Mk1 (K : PySem.W.Frag) (T : List Addr) (g : D → R D) (r : V → Hp → VK → Prop) : Prop where
  nox : ∀ x, NoX (g x)
  rd : ∀ H x dx Fx Q, Rp K H x dx Fx → Sat (g dx) (fun d => ∀ v H' F', Ex T H H' → Rp K H' v d F' → Mix1 H Fx F' → Q v H') (fun _ => False) → r x H Q
def partD : R D → R (Option Int)
  | .ok (.int i) => .ok (some i)
  | .ok _ => .stuck
  | .exc c => .exc c
  | .stuck => .stuck
def eIx (F G : EF) : EF := eBin ixD F G
def eSl (F : EF) (lo hi : Env → R (Option Int)) : EF := fun ρ => (F ρ).bind fun x => (lo ρ).bind fun l => (hi ρ).bind fun h => slD x l h
def pNone : Env → R (Option Int) := fun _ => .ok none
def pSome (F : EF) : Env → R (Option Int) := fun ρ => (F ρ).bind fun d => match d with
  | .int i => .ok (some i)
  | _ => .stuck
section
variable {X : Cx} {C : Cc} {W : WX} {O : Own} {pos p2 : Pos} {a b : Expr} {F G : EF} {ka kb k : Nat} {lo hi : Option Expr} {L U : Env → R (Option Int)}
theorem noxIx (x y : D) : NoX (ixD x y) := by
  unfold ixD
  split <;> first | exact noxS | (split <;> first | exact noxO | exact noxS | (split <;> first | exact noxO | exact noxS))
theorem ix_read (H : Hp) (x y : V) (dx dy : D) (Fx Fy : List Addr) (Q : VK) (rx : Rp X.K H x dx Fx) (ry : Rp X.K H y dy Fy)
    (h : Sat (ixD dx dy) (fun d => ∀ v H' F', Ex C.T H H' → Rp X.K H' v d F' → Mix1 H Fx F' → Q v H') (fun _ => False)) : rIx X.K x y H Q := by
  have key : ∀ {ds : List D} {i : Int} {P : D → Prop}, Sat (match atI ds i with | some d => .ok d | none => .stuck : R D) P (fun _ => False) → ∃ d, atI ds i = some d ∧ P d := fun {ds i P} h => by
    cases e : atI ds i with
    | some d => rw [e] at h; exact ⟨d, rfl, h⟩
    | none => rw [e] at h; exact h.elim
  cases rx with
  | @tup p xs ds F s r =>
    cases dy <;> first | exact False.elim h | skip
    cases ry
    obtain ⟨d, e, q⟩ := key h
    obtain ⟨v, G, e2, r2, sb⟩ := atI_rp r e
    exact .inr (.inl ⟨p, xs, _, v, rfl, rfl, s.sq, e2, q v H G .refl r2 (mix1_sub sb)⟩)
  | @lst p xs ds F s r =>
    cases dy <;> first | exact False.elim h | skip
    cases ry
    obtain ⟨d, e, q⟩ := key h
    obtain ⟨v, G, e2, r2, sb⟩ := atI_rp r e
    exact .inl ⟨p, xs, _, v, rfl, rfl, .inl (.inl s), e2, q v H G .refl r2 (mix1_sub (sb.trans (List.sublist_cons_self _ _)))⟩
  | @ro p xs ds s r =>
    cases dy <;> first | exact False.elim h | skip
    cases ry
    obtain ⟨d, e, q⟩ := key h
    obtain ⟨v, G, e2, r2, sb⟩ := atI_rp r e
    exact .inl ⟨p, xs, _, v, rfl, rfl, s.sq, e2, q v H G .refl r2 (mix1_sub sb)⟩
  | str z =>
    cases dy <;> first | exact False.elim h | skip
    rename_i i
    cases ry
    obtain ⟨hz, h⟩ := satI h
    cases e : atI z.cps.toList i with
    | some c =>
      rw [e] at h
      exact .inr (.inr ⟨z, i, c, rfl, rfl, by rw [sz16]; exact hz, e, h _ H [] .refl (.str _) .nil⟩)
    | none => rw [e] at h; exact h.elim
  | @dK p kvs ks vs F e1 e2 r =>
    exfalso
    cases kvs with
    | nil => subst e2; cases dy <;> exact h
    | cons kv kvs =>
      subst e2
      cases r with
      | cons r1 r2 =>
        obtain ⟨kk, vv⟩ := kv
        cases kk <;> cases dy <;> exact h
  | @dT p kvs ks vs F e1 e2 r =>
    exfalso
    cases kvs with
    | nil => subst e2; cases dy <;> exact h
    | cons kv kvs =>
      subst e2
      cases r with
      | cons r1 r2 => cases dy <;> exact h
  | _ => cases dy <;> exact False.elim h
theorem ev_ix (ha : EV X C W O a ka F) (hb : EV X C W O b kb G) (hs : PlainIx b := by exact fun _ _ => rfl) : EV X C W O (.Subscript a b pos) ka (eIx F G) := (pe_ix ix_seq ha hb hs).imp fun σ H Q ⟨ρ, Fs, er, q⟩ => by
  refine tD.step er (Sat.bind q) fun d v H1 F1 p er1 x1 r1 kd1 => ?_
  refine tD.step er1 (Sat.later (Sat.bind p) x1) fun d2 v2 H2 F2 p2 er2 x2 r2 kd2 => ?_
  refine ix_read (C := C) H2 v v2 d d2 F1 F2 Q (r1.ex x2) r2 ((p2.nox (noxIx _ _)).mono (fun d3 p3 v3 H3 F3 x3 r3 m => ?_) fun _ z => z)
  exact p3 v3 H3 F3 ((x1.trans x2).trans x3) r3 (kd1.mix1 (x1.trans x2) m)
/-- a part of a slice -/
structure PV (X : Cx) (C : Cc) (W : WX) (O : Own) (e : Option Expr) (L : Env → R (Option Int)) : Prop where
  ex : ∃ t, PO X e t ∧ ∀ σ H ρ Fs Q, ER X.K C O H σ ρ Fs → Sat (L ρ) (fun o => ∀ H', Ex C.T H H' → Q o H') (WOk X.K C W σ H) → t σ H Q
theorem pv_none : PV X C W O none pNone := ⟨_, po_none, fun σ H ρ Fs Q er h => h H .refl⟩
theorem pv_some (ha : EV X C W O a k F) : PV X C W O (some a) (pSome F) := ⟨_, po_some ha, fun σ H ρ Fs Q er h => by
  refine tD.step er (Sat.bind h) fun d v H1 F1 p er1 x1 r1 kd1 => ?_
  cases d with
  | int i => cases r1; exact ⟨i, rfl, p H1 x1⟩
  | _ => exact p.elim⟩
theorem ev_sl (ha : EV X C W O a k F) (hl : PV X C W O lo L) (hu : PV X C W O hi U) : EV X C W O (.Subscript a (.Slice lo hi none p2) pos) k (eSl F L U) := by
  obtain ⟨tl, hl, rl⟩ := hl
  obtain ⟨tu, hu, ru⟩ := hu
  refine (pe_slice (sl_tupF.or (sl_list.or sl_str)) ha hl hu).imp fun σ H Q ⟨ρ, Fs, er, q⟩ => ?_
  refine tD.step er (Sat.bind q) fun d v H1 F1 p er1 x1 r1 kd1 => ?_
  refine rl σ H1 ρ Fs _ er1 (Sat.mono (Sat.later (Sat.bind p) x1) (fun l p2 H2 x2 => ?_) fun _ z => z)
  have er2 := er1.ex x2
  have x12 := x1.trans x2
  refine ru σ H2 ρ Fs _ er2 (Sat.mono (Sat.later (Sat.bind p2) x12) (fun u p3 H3 x3 => ?_) fun _ z => z)
  have x := x12.trans x3
  have r := r1.ex (x2.trans x3)
  cases r with
  | @tup t xs ds F s r =>
    obtain ⟨G, r2, sb⟩ := cut_rp l u r
    refine .inl ⟨t, xs, rfl, s.sq, fun hw => ?_, fun _ a o ha ho => ?_⟩
    · refine p3 _ H3 F1 x (.tup s ?_) (kd1.mix1 x1 .refl)
      have e : cut ds l u = ds := by
        unfold cut
        rw [← r.length, hw.1, hw.2, Nat.sub_zero, List.drop_zero, r.length, List.take_length]
      rw [e]; exact r
    · have x4 : Ex C.T H3 (upd H3 a (.frz o (.tup (cutV xs l u)))) := .new ha
      exact p3 _ _ G (x.trans x4) (.tup (.new ho) (r2.ex x4)) (kd1.mix1 x (mix1_sub sb))
  | @lst t xs ds F s r =>
    obtain ⟨G, r2, sb⟩ := cut_rp l u r
    refine .inr (.inl ⟨t, xs, rfl, .inl (.inl s), fun a ha => ?_⟩)
    have x4 : Ex C.T H3 (upd H3 a (.lst (cutV xs l u))) := .new ha
    refine p3 _ _ (a :: G) (x.trans x4) (.lst upd_same (r2.ex x4)) (kd1.mix1 x ?_)
    have m : Mix1 H3 F (a :: G) := mix1_new ha r.nn sb
    exact ⟨fun c hc => (m.mem c hc).imp (List.mem_cons_of_mem _) id, fun nd => m.nd (List.nodup_cons.mp nd).2⟩
  | str z =>
    obtain ⟨hz, p3⟩ := satI p3
    exact .inr (.inr ⟨z, rfl, by rw [sz16]; exact hz, p3 _ H3 [] x (.str _) .nil⟩)
  | _ => exact p3.elim
end
end Pd
namespace Pd
open PySem PySem.Spec PyProof.Rows L2
/-! ### how a statement ends -/
inductive RS where
  | nx (ρ : Env)
  | rt (d : D)
  | bk (ρ : Env)
  | ct (ρ : Env)
  | exc (c : Str) (ρ : Env)
  | stuck
def Fin (K : PySem.W.Frag) (C : Cc) (W : WX) (Ob O' : Own) (De : Ends) : RS → Prop
  | .nx ρ => ∀ σ H Fs, ER K C O' H σ ρ Fs → De.nx σ H
  | .rt d => ∀ v H F, Ex C.T C.H0 H → (∀ P ∈ C.T, GxR.TabG H P) → Rp K H v d F → F.Nodup → (∀ b ∈ F, C.H0 b = none) → De.rt v H
  | .bk ρ => ∀ σ H Fs, ER K C Ob H σ ρ Fs → De.bk σ H
  | .ct ρ => ∀ σ H Fs, ER K C Ob H σ ρ Fs → De.ct σ H
  | .exc c ρ => ∀ σ H Fs, ER K C [] H σ ρ Fs → W (.ref (He.ga K c)) none σ H
  | .stuck => False
def sD (K : PySem.W.Frag) (C : Cc) (W : WX) (Ob O O' : Own) (F : Env → RS) : TS := fun D σ H => ∃ ρ Fs, ER K C O H σ ρ Fs ∧ Fin K C W Ob O' D (F ρ)
abbrev SV (X : Cx) (C : Cc) (W : WX) (Ob O O' : Own) (st : Stmt) (F : Env → RS) : Prop := PS X st (sD X.K C W Ob O O' F)
abbrev SVs (X : Cx) (C : Cc) (W : WX) (Ob O O' : Own) (st : List Stmt) (F : Env → RS) : Prop := PSs X st (sD X.K C W Ob O O' F)
def RS.of {α : Type} (r : R α) (ρ : Env) (f : α → RS) : RS := match r with
  | .ok a => f a
  | .exc c => .exc c ρ
  | .stuck => .stuck
@[simp] theorem RS.of_ok {α : Type} {a : α} {ρ : Env} {f : α → RS} : RS.of (.ok a) ρ f = f a := rfl
@[simp] theorem RS.of_exc {α : Type} {c : Str} {ρ : Env} {f : α → RS} : RS.of (.exc c) ρ f = .exc c ρ := rfl
@[simp] theorem RS.of_stuck {α : Type} {ρ : Env} {f : α → RS} : RS.of .stuck ρ f = .stuck := rfl
def seqD (F G : Env → RS) : Env → RS := fun ρ => match F ρ with
  | .nx ρ' => G ρ'
  | r => r
def ifD (c : Env → R Bool) (F G : Env → RS) : Env → RS := fun ρ => RS.of (c ρ) ρ fun b => if b = true then F ρ else G ρ
def nextD : Env → RS := .nx
def brkD : Env → RS := .bk
def contD : Env → RS := .ct
def dropD (F : EF) : Env → RS := fun ρ => RS.of (F ρ) ρ fun _ => .nx ρ
def retD (F : EF) : Env → RS := fun ρ => RS.of (F ρ) ρ .rt
def setD (i : Nat) (F : EF) : Env → RS := fun ρ => RS.of (F ρ) ρ fun d => .nx (ρ.put i d)
def moveD (i j : Nat) : Env → RS := fun ρ => RS.of (ρ.get j) ρ fun d => .nx ((ρ.del j).put i d)
def neverD : Env → RS := fun _ => .stuck
section
variable {K : PySem.W.Frag} {C : Cc} {W : WX} {Ob O O' : Own} {σ : L2.St} {H H' H1 : Hp} {ρ : Env} {Fs : Nat → List Addr} {De : Ends}
theorem fin_of {α : Type} {r : R α} {f : α → RS} (er : ER K C O H σ ρ Fs) (h : Fin K C W Ob O' De (RS.of r ρ f)) : Sat r (fun a => Fin K C W Ob O' De (f a)) (WOk K C W σ H) := by
  cases r with
  | ok a => exact h
  | exc c => exact fun H' x => h σ H' Fs ((er.ex x).less fun i hi => (nomatch hi))
  | stuck => exact h
theorem ER.lkdom (er : ER K C O H σ ρ Fs) {l : Lk} (hl : l ∈ C.lk) : ∀ b ∈ l.F, H b ≠ none := fun b hb => by
  obtain ⟨o, e, _⟩ := (er.lks l hl).dom b hb
  rw [(er.lks l hl).kp.at_ b hb, e]; simp
theorem ER.nn (er : ER K C O H σ ρ Fs) (i : Nat) : ∀ b ∈ Fs i, H b ≠ none := fun b hb => by
  obtain ⟨o, e, _⟩ := er.dom i b hb
  rw [e]; simp
theorem put_at {ρ : Env} {i j : Nat} {d d' : D} (h : (ρ.put i d)[j]? = some (some d')) : (j = i ∧ i < ρ.length ∧ d' = d) ∨ (j ≠ i ∧ ρ[j]? = some (some d')) := by
  unfold Env.put at h
  by_cases e : j = i
  · subst e
    by_cases hl : j < ρ.length
    · rw [List.getElem?_set_self hl] at h
      exact .inl ⟨rfl, hl, by cases h; rfl⟩
    · rw [List.getElem?_eq_none (by simpa using hl)] at h; cases h
  · rw [List.getElem?_set_ne (Ne.symm e)] at h
    exact .inr ⟨e, h⟩
theorem put_ne {ρ : Env} {i j : Nat} {d : D} (e : j ≠ i) : (ρ.put i d)[j]? = ρ[j]? := by
  unfold Env.put
  rw [List.getElem?_set_ne (Ne.symm e)]
/-- a slot is written -/
theorem ER.put {i k : Nat} {v : V} {d : D} {F : List Addr} (er : ER K C O H σ ρ Fs) (x : Ex C.T H H1) (r : Rp K H1 v d F) (kd : KdOk k O H Fs F) (hk : k ≤ 1) (hO : ∀ j ∈ O', (j = i ∧ k = 0) ∨ (j ≠ i ∧ j ∈ O)) :
    ∃ Fs', ER K C O' H1 (σ.set i (some v)) (ρ.put i d) Fs' := by
  have er1 := er.ex x
  by_cases hi : i < ρ.length
  · have hiσ : i < σ.length := by rw [er.len]; exact hi
    refine ⟨fun j => if j = i then F else Fs j, by simp [Env.put, er.len], fun j d' h => ?_, fun j h => ?_, fun j hj => ?_, er1.tab, er1.ext, fun l hl => ?_⟩
    · rcases put_at h with ⟨rfl, _, rfl⟩ | ⟨e, h⟩
      · exact ⟨v, by rw [List.getElem?_set_self hiσ], by rw [if_pos rfl]; exact r⟩
      · obtain ⟨v', h1, r'⟩ := er1.rep j d' h
        exact ⟨v', by rw [List.getElem?_set_ne (Ne.symm e)]; exact h1, by rw [if_neg e]; exact r'⟩
    · by_cases e : j = i
      · subst e
        exact absurd (show (ρ.put j d)[j]? = some (some d) by unfold Env.put; rw [List.getElem?_set_self hi]) (h d)
      · show (if j = i then F else Fs j) = []
        rw [if_neg e]
        exact er.emp j fun d' => by rw [← put_ne (d := d) e]; exact h d'
    · rcases hO j hj with ⟨e, k0⟩ | ⟨e, hj⟩
      · subst e
        obtain ⟨nd, fr⟩ := kd.fr k0
        refine ⟨by rw [if_pos rfl]; exact nd, by rw [if_pos rfl]; exact fun b hb => er.ext.free (fr b hb), fun j' e b hb => ?_⟩
        rw [if_pos rfl] at hb
        rw [if_neg e]
        exact fun z => er.nn j' b z (fr b hb)
      · obtain ⟨nd, fr, se⟩ := er.own j hj
        refine ⟨by rw [if_neg e]; exact nd, by rw [if_neg e]; exact fr, fun j' e' b hb => ?_⟩
        rw [if_neg e] at hb
        by_cases ei : j' = i
        · rw [if_pos ei]
          intro z
          rcases kd.le1 hk b z with w | ⟨j0, hj0, w⟩
          · exact er.nn j b hb w
          · exact se j0 (fun q => hj0 (q ▸ hj)) b hb w
        · rw [if_neg ei]
          exact se j' e' b hb
    · obtain ⟨st, kp, dom, sep⟩ := er1.lks l hl
      refine ⟨st, kp, dom, fun j hj hs b hb => ?_⟩
      rcases hO j hj with ⟨e, k0⟩ | ⟨e, hj⟩
      · rw [if_pos e] at hb
        exact fun z => er.lkdom hl b z ((kd.fr k0).2 b hb)
      · rw [if_neg e] at hb
        exact sep j hj hs b hb
  · have e1 : ρ.put i d = ρ := by
      unfold Env.put
      exact List.set_eq_of_length_le (by omega)
    have e2 : σ.set i (some v) = σ := List.set_eq_of_length_le (by rw [er.len]; omega)
    rw [e1, e2]
    have hn : ∀ d', ρ[i]? ≠ some (some d') := fun d' z => by
      rw [List.getElem?_eq_none (by omega)] at z; cases z
    have hF : Fs i = [] := er.emp i hn
    refine ⟨Fs, er1.len, er1.rep, er1.emp, fun j hj => ?_, er1.tab, er1.ext, fun l hl => ?_⟩
    · rcases hO j hj with ⟨e, k0⟩ | ⟨e, hj⟩
      · rw [e, hF]
        exact ⟨List.nodup_nil, fun b hb => (nomatch hb), fun _ _ b hb => (nomatch hb)⟩
      · exact er.own j hj
    · obtain ⟨st, kp, dom, sep⟩ := er1.lks l hl
      refine ⟨st, kp, dom, fun j hj hs b hb => ?_⟩
      rcases hO j hj with ⟨e, k0⟩ | ⟨e, hj⟩
      · rw [e, hF] at hb; cases hb
      · exact sep j hj hs b hb
/-- a slot is forgotten (of the mirror) -/
theorem ER.del {i : Nat} (er : ER K C O H σ ρ Fs) : ER K C O H σ (ρ.del i) (fun j => if j = i then [] else Fs j) where
  len := by simp [Env.del, er.len]
  rep := fun j d h => by
    unfold Env.del at h
    by_cases e : j = i
    · subst e
      by_cases hl : j < ρ.length
      · rw [List.getElem?_set_self hl] at h; cases h
      · rw [List.getElem?_eq_none (by simpa using hl)] at h; cases h
    · rw [List.getElem?_set_ne (Ne.symm e)] at h
      obtain ⟨v, h1, r⟩ := er.rep j d h
      exact ⟨v, h1, by rw [if_neg e]; exact r⟩
  emp := fun j h => by
    by_cases e : j = i
    · exact if_pos e
    · show (if j = i then [] else Fs j) = []
      rw [if_neg e]
      refine er.emp j fun d z => h d ?_
      unfold Env.del
      rw [List.getElem?_set_ne (Ne.symm e)]; exact z
  own := fun j hj => by
    by_cases e : j = i
    · rw [if_pos e]
      exact ⟨List.nodup_nil, fun b hb => (nomatch hb), fun _ _ b hb => (nomatch hb)⟩
    · rw [if_neg e]
      obtain ⟨a, b, c⟩ := er.own j hj
      refine ⟨a, b, fun j' e' b hb => ?_⟩
      by_cases ei : j' = i
      · rw [if_pos ei]; exact fun z => (nomatch z)
      · rw [if_neg ei]; exact c j' e' b hb
  tab := er.tab
  ext := er.ext
  lks := fun l hl => by
    obtain ⟨st, kp, dom, sep⟩ := er.lks l hl
    refine ⟨st, kp, dom, fun j hj hs b hb => ?_⟩
    by_cases e : j = i
    · rw [if_pos e] at hb; cases hb
    · rw [if_neg e] at hb
      exact sep j hj hs b hb
/-- what a slot holds comes out of it -/
theorem ER.out {i : Nat} {d : D} (er : ER K C O H σ ρ Fs) (h : ρ[i]? = some (some d)) (ho : i ∈ O) (hl : i ∉ C.ls) :
    ∃ v F, σ[i]? = some (some v) ∧ Rp K H v d F ∧ F.Nodup ∧ (∀ b ∈ F, C.H0 b = none) ∧ (∀ j b, b ∈ F → b ∉ (if j = i then [] else Fs j)) ∧ ∀ l ∈ C.lk, ∀ b ∈ F, b ∉ l.F := by
  obtain ⟨v, h1, r⟩ := er.rep i d h
  obtain ⟨a, b, c⟩ := er.own i ho
  refine ⟨v, Fs i, h1, r, a, b, fun j b hb => ?_, fun l hm b hb => (er.lks l hm).sep i ho (fun z => hl ((er.lks l hm).st i z)) b hb⟩
  by_cases e : j = i
  · rw [if_pos e]; exact fun z => (nomatch z)
  · rw [if_neg e]; exact c j e b hb
/-- a slot takes what is of no other -/
theorem ER.take {i : Nat} {v : V} {d : D} {F : List Addr} (er : ER K C O H σ ρ Fs) (r : Rp K H v d F) (nd : F.Nodup) (h0 : ∀ b ∈ F, C.H0 b = none) (se : ∀ j b, b ∈ F → b ∉ Fs j) (lk : ∀ l ∈ C.lk, ∀ b ∈ F, b ∉ l.F)
    (hO : ∀ j ∈ O', j = i ∨ (j ≠ i ∧ j ∈ O)) : ∃ Fs', ER K C O' H (σ.set i (some v)) (ρ.put i d) Fs' := by
  by_cases hi : i < ρ.length
  · have hiσ : i < σ.length := by rw [er.len]; exact hi
    refine ⟨fun j => if j = i then F else Fs j, by simp [Env.put, er.len], fun j d' h => ?_, fun j h => ?_, fun j hj => ?_, er.tab, er.ext, fun l hl => ?_⟩
    · rcases put_at h with ⟨rfl, _, rfl⟩ | ⟨e, h⟩
      · exact ⟨v, by rw [List.getElem?_set_self hiσ], by rw [if_pos rfl]; exact r⟩
      · obtain ⟨v', h1, r'⟩ := er.rep j d' h
        exact ⟨v', by rw [List.getElem?_set_ne (Ne.symm e)]; exact h1, by rw [if_neg e]; exact r'⟩
    · by_cases e : j = i
      · subst e
        exact absurd (show (ρ.put j d)[j]? = some (some d) by unfold Env.put; rw [List.getElem?_set_self hi]) (h d)
      · show (if j = i then F else Fs j) = []
        rw [if_neg e]
        exact er.emp j fun d' => by rw [← put_ne (d := d) e]; exact h d'
    · by_cases e : j = i
      · rw [if_pos e]
        exact ⟨nd, h0, fun j' e' b hb => by rw [if_neg (by omega)]; exact se j' b hb⟩
      · obtain ⟨a, b, c⟩ := er.own j (by rcases hO j hj with z | z; exact absurd z e; exact z.2)
        rw [if_neg e]
        refine ⟨a, b, fun j' e' b hb => ?_⟩
        by_cases ei : j' = i
        · rw [if_pos ei]; exact fun z => se j b z hb
        · rw [if_neg ei]; exact c j' e' b hb
    · obtain ⟨st, kp, dom, sep⟩ := er.lks l hl
      refine ⟨st, kp, dom, fun j hj hs b hb => ?_⟩
      by_cases e : j = i
      · rw [if_pos e] at hb; exact lk l hl b hb
      · rw [if_neg e] at hb
        exact sep j (by rcases hO j hj with z | z; exact absurd z e; exact z.2) hs b hb
  · have e1 : ρ.put i d = ρ := by
      unfold Env.put
      exact List.set_eq_of_length_le (by omega)
    have e2 : σ.set i (some v) = σ := List.set_eq_of_length_le (by rw [er.len]; omega)
    rw [e1, e2]
    have hn : ∀ d', ρ[i]? ≠ some (some d') := fun d' z => by
      rw [List.getElem?_eq_none (by omega)] at z; cases z
    have hF : Fs i = [] := er.emp i hn
    refine ⟨Fs, er.len, er.rep, er.emp, fun j hj => ?_, er.tab, er.ext, fun l hl => ?_⟩
    · rcases hO j hj with e | ⟨e, hj⟩
      · rw [e, hF]
        exact ⟨List.nodup_nil, fun b hb => (nomatch hb), fun _ _ b hb => (nomatch hb)⟩
      · exact er.own j hj
    · obtain ⟨st, kp, dom, sep⟩ := er.lks l hl
      refine ⟨st, kp, dom, fun j hj hs b hb => ?_⟩
      rcases hO j hj with e | ⟨e, hj⟩
      · rw [e, hF] at hb; cases hb
      · exact sep j hj hs b hb
end
/-! ### plain statements -/
section
variable {X : Cx} {C : Cc} {W : WX} {Ob O O1 O' : Own} {st : Stmt} {rest a b : List Stmt} {F G : Env → RS} {e : Expr} {E : EF} {k i j : Nat} {x : Str} {pos p2 : Pos} {B : Env → R Bool}
theorem sv_less {O2 : Own} (h : SV X C W Ob O O' st F) (hs : ∀ i ∈ O2, i ∈ O') : SV X C W Ob O O2 st F := h.imp fun D σ H ⟨ρ, Fs, er, q⟩ => by
  refine ⟨ρ, Fs, er, ?_⟩
  cases e : F ρ <;> rw [e] at q <;> first | exact q | skip
  exact fun σ' H' Fs' er' => q σ' H' Fs' (er'.less hs)
theorem svs_nil (hs : ∀ i ∈ O', i ∈ O := by decide) : SVs X C W Ob O O' [] nextD := pss_nil.imp fun D σ H ⟨ρ, Fs, er, q⟩ => q σ H Fs (er.less hs)
theorem svs_cons (h : SV X C W Ob O O1 st F) (h' : SVs X C W Ob O1 O' rest G) : SVs X C W Ob O O' (st :: rest) (seqD F G) := (pss_cons h h').imp fun D σ H ⟨ρ, Fs, er, q⟩ => by
  refine ⟨ρ, Fs, er, ?_⟩
  unfold seqD at q
  cases e : F ρ <;> rw [e] at q <;> first | exact q | skip
  exact fun σ' H' Fs' er' => ⟨_, Fs', er', q⟩
theorem svs_one (h : SV X C W Ob O O' st F) : SVs X C W Ob O O' [st] F := pss_one h
theorem sv_if (hc : TV X C W O e B) (ha : SVs X C W Ob O O' a F) (hb : SVs X C W Ob O O' b G) : SV X C W Ob O O' (.If e a b pos) (ifD B F G) := (ps_if hc ha hb).imp fun D σ H ⟨ρ, Fs, er, q⟩ => by
  refine tB.step er (fin_of er q) fun c H1 p er1 x1 => ?_
  cases c with
  | true => exact ite_tt ⟨ρ, Fs, er1, p⟩
  | false => exact ite_ff ⟨ρ, Fs, er1, p⟩
theorem sv_pass (hs : ∀ i ∈ O', i ∈ O := by decide) : SV X C W Ob O O' (.Pass pos) nextD := ps_pass.imp fun D σ H ⟨ρ, Fs, er, q⟩ => q σ H Fs (er.less hs)
theorem sv_brk (hs : ∀ i ∈ Ob, i ∈ O := by decide) : SV X C W Ob O O' (.Break pos) brkD := ps_break.imp fun D σ H ⟨ρ, Fs, er, q⟩ => q σ H Fs (er.less hs)
theorem sv_cont (hs : ∀ i ∈ Ob, i ∈ O := by decide) : SV X C W Ob O O' (.Continue pos) contD := ps_continue.imp fun D σ H ⟨ρ, Fs, er, q⟩ => q σ H Fs (er.less hs)
theorem sv_expr (he : EV X C W O e k E) (hs : ∀ i ∈ O', i ∈ O := by decide) (hw : swapsWith e none pos.line X.env = pure false := by rfl) : SV X C W Ob O O' (.Expr e pos) (dropD E) := (ps_expr he hw).imp fun D σ H ⟨ρ, Fs, er, q⟩ =>
  tD.step er (fin_of er q) fun d v H1 F1 p er1 x1 r1 kd1 => p σ H1 Fs (er1.less hs)
theorem sv_ret (he : EV X C W O e 0 E) : SV X C W Ob O O' (.Return (some e) pos) (retD E) := (ps_ret he).imp fun D σ H ⟨ρ, Fs, er, q⟩ =>
  tD.step er (fin_of er q) fun d v H1 F1 p er1 x1 r1 kd1 => p v H1 F1 er1.ext er1.tab r1 (kd1.fr rfl).1 fun b hb => er.ext.free ((kd1.fr rfl).2 b hb)
theorem sv_retO (he : PE X e (tVar i)) (ho : i ∈ O := by decide) : SV X C W Ob O O' (.Return (some e) pos) (retD (eName i)) := (ps_ret he).imp fun D σ H ⟨ρ, Fs, er, q⟩ => by
  obtain ⟨d, h1, h2⟩ := get_sat (fin_of er q)
  obtain ⟨v, h3, r⟩ := er.rep i d h1
  exact ⟨v, h3, h2 v H _ er.ext er.tab r (er.own i ho).1 (er.own i ho).2.1⟩
theorem sv_retN : SV X C W Ob O O' (.Return none pos) (retD (eC .none)) := ps_retN.imp fun D σ H ⟨ρ, Fs, er, q⟩ => q .non H [] er.ext er.tab .non List.nodup_nil fun b hb => (nomatch hb)
theorem sv_set (hN : X.N.Nodup) (hi : X.N[i]? = some x) (hx : Loc X.env.scope x) (he : EV X C W O e k E) (hk : k ≤ 1 := by decide) (hO : ∀ j ∈ O', (j = i ∧ k = 0) ∨ (j ≠ i ∧ j ∈ O) := by decide)
    (hs : swapsWith e (some (.Name x p2)) pos.line X.env = pure false := by rfl) (hf : X.fn x = true ∨ X.env.scope.names.lookup x = some .local := by first | exact .inl rfl | exact .inr rfl | assumption) :
    SV X C W Ob O O' (.Assign [.Name x p2] e pos) (setD i E) := (ps_set hN hi hx he hs hf).imp fun D σ H ⟨ρ, Fs, er, q⟩ => by
  refine tD.step er (fin_of er q) fun d v H1 F1 p er1 x1 r1 kd1 => ?_
  obtain ⟨Fs', er'⟩ := er.put (O' := O') x1 r1 kd1 hk hO
  exact p _ _ Fs' er'
theorem sv_move (hN : X.N.Nodup) (hi : X.N[i]? = some x) (hx : Loc X.env.scope x) (he : PE X e (tVar j)) (ho : j ∈ O := by decide) (hl : decide (j ∈ C.ls) = false := by rfl) (hO : ∀ m ∈ O', m = i ∨ (m ≠ i ∧ m ∈ O) := by decide)
    (hs : swapsWith e (some (.Name x p2)) pos.line X.env = pure false := by rfl) (hf : X.fn x = true ∨ X.env.scope.names.lookup x = some .local := by first | exact .inl rfl | exact .inr rfl | assumption) :
    SV X C W Ob O O' (.Assign [.Name x p2] e pos) (moveD i j) := (ps_set hN hi hx he hs hf).imp fun D σ H ⟨ρ, Fs, er, q⟩ => by
  obtain ⟨d, h1, h2⟩ := get_sat (fin_of er q)
  obtain ⟨v, F, h3, r, nd, h0, se, lk⟩ := er.out h1 ho (of_decide_eq_false hl)
  obtain ⟨Fs', er'⟩ := (er.del (i := j)).take (O' := O') r nd h0 se lk hO
  exact ⟨v, h3, h2 _ _ Fs' er'⟩
end
end Pd
namespace Pd
open PySem PySem.Spec PyProof.Rows L2
section
variable {K : PySem.W.Frag} {C : Cc} {W : WX} {Ob O O' : Own} {σ : L2.St} {H H' H1 : Hp} {ρ : Env} {Fs : Nat → List Addr} {De : Ends}
/-- a slot is written, in general -/
theorem ER.store {i : Nat} {v : V} {d : D} {F : List Addr} (er : ER K C O H σ ρ Fs) (r : Rp K H v d F)
    (hO : ∀ j ∈ O', (j = i ∧ F.Nodup ∧ (∀ b ∈ F, C.H0 b = none) ∧ (∀ j' b, j' ≠ i → b ∈ F → b ∉ Fs j') ∧ ∀ l ∈ C.lk, ∀ b ∈ F, b ∉ l.F) ∨ (j ≠ i ∧ j ∈ O))
    (hd : ∀ j ∈ O', j ≠ i → ∀ b ∈ Fs j, b ∉ F) : ∃ Fs', ER K C O' H (σ.set i (some v)) (ρ.put i d) Fs' ∧ (∀ j, j ≠ i → Fs' j = Fs j) ∧ (Fs' i = F ∨ Fs' i = []) := by
  by_cases hi : i < ρ.length
  · have hiσ : i < σ.length := by rw [er.len]; exact hi
    refine ⟨fun j => if j = i then F else Fs j, ⟨by simp [Env.put, er.len], fun j d' h => ?_, fun j h => ?_, fun j hj => ?_, er.tab, er.ext, fun l hl => ?_⟩, fun j e => if_neg e, .inl (if_pos rfl)⟩
    · rcases put_at h with ⟨rfl, _, rfl⟩ | ⟨e, h⟩
      · exact ⟨v, by rw [List.getElem?_set_self hiσ], by rw [if_pos rfl]; exact r⟩
      · obtain ⟨v', h1, r'⟩ := er.rep j d' h
        exact ⟨v', by rw [List.getElem?_set_ne (Ne.symm e)]; exact h1, by rw [if_neg e]; exact r'⟩
    · by_cases e : j = i
      · subst e
        exact absurd (show (ρ.put j d)[j]? = some (some d) by unfold Env.put; rw [List.getElem?_set_self hi]) (h d)
      · show (if j = i then F else Fs j) = []
        rw [if_neg e]
        exact er.emp j fun d' => by rw [← put_ne (d := d) e]; exact h d'
    · rcases hO j hj with ⟨e, nd, h0, se, _⟩ | ⟨e, hjO⟩
      · subst e
        rw [if_pos rfl]
        exact ⟨nd, h0, fun j' e' b hb => by rw [if_neg e']; exact se j' b e' hb⟩
      · obtain ⟨a, b, c⟩ := er.own j hjO
        rw [if_neg e]
        refine ⟨a, b, fun j' e' b hb => ?_⟩
        by_cases ei : j' = i
        · rw [if_pos ei]; exact hd j hj e b hb
        · rw [if_neg ei]; exact c j' e' b hb
    · obtain ⟨st, kp, dom, sep⟩ := er.lks l hl
      refine ⟨st, kp, dom, fun j hj hs b hb => ?_⟩
      rcases hO j hj with ⟨e, _, _, _, lk⟩ | ⟨e, hjO⟩
      · rw [if_pos e] at hb; exact lk l hl b hb
      · rw [if_neg e] at hb; exact sep j hjO hs b hb
  · have e1 : ρ.put i d = ρ := by
      unfold Env.put
      exact List.set_eq_of_length_le (by omega)
    have e2 : σ.set i (some v) = σ := List.set_eq_of_length_le (by rw [er.len]; omega)
    rw [e1, e2]
    have hn : ∀ d', ρ[i]? ≠ some (some d') := fun d' z => by
      rw [List.getElem?_eq_none (by omega)] at z; cases z
    have hF : Fs i = [] := er.emp i hn
    refine ⟨Fs, ⟨er.len, er.rep, er.emp, fun j hj => ?_, er.tab, er.ext, fun l hl => ?_⟩, fun _ _ => rfl, .inr hF⟩
    · rcases hO j hj with ⟨e, _⟩ | ⟨e, hj⟩
      · rw [e, hF]
        exact ⟨List.nodup_nil, fun b hb => (nomatch hb), fun _ _ b hb => (nomatch hb)⟩
      · exact er.own j hj
    · obtain ⟨st, kp, dom, sep⟩ := er.lks l hl
      refine ⟨st, kp, dom, fun j hj hs b hb => ?_⟩
      rcases hO j hj with ⟨e, _⟩ | ⟨e, hj⟩
      · rw [e, hF] at hb; cases hb
      · exact sep j hj hs b hb
def setsV : List Nat → List V → L2.St → L2.St
  | i :: is, v :: vs, σ => setsV is vs (σ.set i (some v))
  | _, _, σ => σ
def putsD : List Nat → List D → Env → Env
  | i :: is, d :: ds, ρ => putsD is ds (ρ.put i d)
  | _, _, ρ => ρ
/-- several slots are written, from the left; fr: they take what they own -/
theorem ER.stores (fr : Bool) : ∀ {is : List Nat} {vs : List V} {ds : List D} {F : List Addr} {O O' : Own} {σ : L2.St} {ρ : Env} {Fs : Nat → List Addr}, ER K C O H σ ρ Fs → RpL K H vs ds F → is.Nodup → is.length = ds.length →
    (fr = true → F.Nodup ∧ (∀ b ∈ F, C.H0 b = none) ∧ (∀ j b, j ∉ is → b ∈ F → b ∉ Fs j) ∧ ∀ l ∈ C.lk, ∀ b ∈ F, b ∉ l.F) → (∀ j ∈ O, j ∉ is → ∀ b ∈ Fs j, b ∉ F) → (fr = true → ∀ j ∈ is, ∀ b ∈ F, b ∉ Fs j) →
    (∀ m ∈ O', (m ∈ is ∧ fr = true) ∨ (m ∉ is ∧ m ∈ O)) → ∃ Fs', ER K C O' H (setsV is vs σ) (putsD is ds ρ) Fs' ∧ ∀ j, j ∉ is → Fs' j = Fs j := by
  intro is
  induction is with
  | nil =>
    intro vs ds F O O' σ ρ Fs er r _ _ _ _ _ hO
    refine ⟨Fs, ?_, fun _ _ => rfl⟩
    cases r <;> exact er.less fun m hm => ((hO m hm).elim (fun z => (nomatch z.1)) fun z => z.2)
  | cons i is ih =>
    intro vs ds F O O' σ ρ Fs er r nd hl hf hd hi hO
    cases r with
    | nil => cases hl
    | @cons v vs d ds F G rv rs =>
      obtain ⟨ni, nd'⟩ := List.nodup_cons.mp nd
      have hl' : is.length = ds.length := Nat.succ.inj hl
      refine Exists.elim (er.store (O' := (if fr = true then [i] else []) ++ O.filter (fun m => decide (m ≠ i ∧ m ∉ is))) (i := i) rv (fun j hj => ?_) fun j hj hji b hb => ?_) fun Fs1 ⟨er1, k1, k2⟩ => ?_
      · rcases List.mem_append.mp hj with z | z
        · by_cases q : fr = true
          · rw [if_pos q] at z
            have e : j = i := by simpa using z
            obtain ⟨a, b, c, d'⟩ := hf q
            obtain ⟨a1, a2, a3⟩ := List.nodup_append.mp a
            refine .inl ⟨e, a1, fun b' hb => b b' (List.mem_append_left _ hb), fun j' b' hj' hb => ?_, fun l hl b' hb => d' l hl b' (List.mem_append_left _ hb)⟩
            by_cases w : j' ∈ is
            · exact hi q j' (List.mem_cons_of_mem _ w) b' (List.mem_append_left _ hb)
            · exact c j' b' (fun y => (List.mem_cons.mp y).elim hj' w) (List.mem_append_left _ hb)
          · rw [if_neg q] at z; cases z
        · have z := List.mem_filter.mp z
          exact .inr ⟨(of_decide_eq_true z.2).1, z.1⟩
      · rcases List.mem_append.mp hj with z | z
        · by_cases q : fr = true
          · rw [if_pos q] at z
            exact absurd (show j = i by simpa using z) hji
          · rw [if_neg q] at z; cases z
        · have z := List.mem_filter.mp z
          have z2 := of_decide_eq_true z.2
          exact fun w => hd j z.1 (fun w => (List.mem_cons.mp w).elim z2.1 z2.2) b hb (List.mem_append_left _ w)
      · have k2' : ∀ b ∈ Fs1 i, b ∈ F := fun b hb => by
          rcases k2 with z | z
          · rw [z] at hb; exact hb
          · rw [z] at hb; cases hb
        refine Exists.elim (ih (O' := O') er1 rs nd' hl' (fun q => ?_) (fun j hj hji b hb => ?_) (fun q j hj b hb => ?_) fun m hm => ?_) fun Fs2 ⟨er2, k3⟩ => ?_
        · obtain ⟨a, b, c, d'⟩ := hf q
          obtain ⟨a1, a2, a3⟩ := List.nodup_append.mp a
          refine ⟨a2, fun b' hb => b b' (List.mem_append_right _ hb), fun j b' hj hb z => ?_, fun l hl b' hb => d' l hl b' (List.mem_append_right _ hb)⟩
          by_cases e : j = i
          · subst e
            exact a3 _ (k2' _ z) _ hb rfl
          · rw [k1 j e] at z
            exact c j b' (fun w => (List.mem_cons.mp w).elim e hj) (List.mem_append_right _ hb) z
        · rcases List.mem_append.mp hj with z | z
          · by_cases q : fr = true
            · rw [if_pos q] at z
              have e : j = i := by simpa using z
              subst e
              obtain ⟨a1, a2, a3⟩ := List.nodup_append.mp (hf q).1
              exact fun w => a3 _ (k2' _ hb) _ w rfl
            · rw [if_neg q] at z; cases z
          · have z := List.mem_filter.mp z
            have z2 := of_decide_eq_true z.2
            rw [k1 j z2.1] at hb
            exact fun w => hd j z.1 (fun w => (List.mem_cons.mp w).elim z2.1 z2.2) b hb (List.mem_append_right _ w)
        · rw [k1 j fun z => ni (z ▸ hj)]
          exact hi q j (List.mem_cons_of_mem _ hj) b (List.mem_append_right _ hb)
        · rcases hO m hm with ⟨z, q⟩ | ⟨z, q⟩
          · by_cases e : m ∈ is
            · exact .inl ⟨e, q⟩
            · have e' : m = i := (List.mem_cons.mp z).elim id fun w => absurd w e
              exact .inr ⟨e, List.mem_append_left _ (by rw [if_pos q, e']; exact List.mem_cons_self)⟩
          · exact .inr ⟨fun w => z (List.mem_cons_of_mem _ w), List.mem_append_right _ (List.mem_filter.mpr ⟨q, decide_eq_true ⟨fun w => z (w ▸ List.mem_cons_self), fun w => z (List.mem_cons_of_mem _ w)⟩⟩)⟩
        · exact ⟨Fs2, er2, fun j hj => (k3 j fun z => hj (List.mem_cons_of_mem _ z)).trans (k1 j fun z => hj (z ▸ List.mem_cons_self))⟩
/-- an owned list is changed -/
theorem ER.upd {i : Nat} {a : Addr} {ds' : List D} {xs xs' : List V} {F F2 : List Addr} (er : ER K C O H σ ρ Fs) (ho : i ∈ O) (hl : i ∉ C.ls) (hs : σ[i]? = some (some (.ref a))) (hF : Fs i = a :: F) (hH : H a = some (.lst xs))
    (r : RpL K H xs' ds' F2) (nd : (a :: F2).Nodup) (sub : ∀ b ∈ F2, b ∈ F ∨ (C.H0 b = none ∧ (∀ j, b ∉ Fs j) ∧ ∀ l ∈ C.lk, b ∉ l.F)) (hO : ∀ j ∈ O', j ∈ O) :
    ∃ Fs', ER K C O' (L2.upd H a (.lst xs')) σ (ρ.put i (.list ds')) Fs' := by
  obtain ⟨nd0, fr0, se0⟩ := er.own i ho
  have ha0 : C.H0 a = none := fr0 a (by rw [hF]; exact List.mem_cons_self)
  have nt : ∀ b xs, H b = some (.tup xs) → b ≠ a := fun b ys e z => by rw [z, hH] at e; cases e
  have nf : ∀ b o u, H b = some (.frz o u) → b ≠ a := fun b o u e z => by rw [z, hH] at e; cases e
  have kp : ∀ S : List Addr, a ∉ S → Kp H (L2.upd H a (.lst xs')) S := fun S h => ⟨fun b ys e => by rw [upd_ne (nt _ _ e)]; exact e, fun b o u e => by rw [upd_ne (nf _ _ _ e)]; exact e, fun b hb => upd_ne fun z => h (z ▸ hb)⟩
  have hi : i < σ.length := (List.getElem?_eq_some_iff.mp hs).1
  have hlr : i < ρ.length := by rw [← er.len]; exact hi
  obtain ⟨na, nd2⟩ := List.nodup_cons.mp nd
  have so : ∀ l ∈ C.lk, l.so ≠ some i := fun l hm z => hl ((er.lks l hm).st i z)
  refine ⟨fun j => if j = i then a :: F2 else Fs j, by simp [Env.put, er.len], fun j d h => ?_, fun j h => ?_, fun j hj => ?_, fun P hP => ?_, ⟨fun b o e n => ?_, fun b e => ?_, fun t P hP => ?_⟩, fun l hm => ?_⟩
  · rcases put_at h with ⟨rfl, _, rfl⟩ | ⟨e, h⟩
    · exact ⟨_, hs, by rw [if_pos rfl]; exact .lst upd_same (r.kp (kp _ na))⟩
    · obtain ⟨v, h1, r'⟩ := er.rep j d h
      refine ⟨v, h1, ?_⟩
      rw [if_neg e]
      exact r'.kp (kp _ fun z => se0 j e a (by rw [hF]; exact List.mem_cons_self) z)
  · by_cases e : j = i
    · subst e
      exact absurd (show (ρ.put j (.list ds'))[j]? = some (some (.list ds')) by unfold Env.put; rw [List.getElem?_set_self hlr]) (h _)
    · show (if j = i then a :: F2 else Fs j) = []
      rw [if_neg e]
      exact er.emp j fun d' => by rw [← put_ne (d := .list ds') e]; exact h d'
  · by_cases e : j = i
    · subst e
      rw [if_pos rfl]
      refine ⟨nd, fun b hb => ?_, fun j' e' b hb => ?_⟩
      · rcases List.mem_cons.mp hb with z | z
        · rw [z]; exact ha0
        · rcases sub b z with w | w
          · exact fr0 b (by rw [hF]; exact List.mem_cons_of_mem _ w)
          · exact w.1
      · rw [if_neg e']
        rcases List.mem_cons.mp hb with z | z
        · rw [z]; exact se0 j' e' a (by rw [hF]; exact List.mem_cons_self)
        · rcases sub b z with w | w
          · exact se0 j' e' b (by rw [hF]; exact List.mem_cons_of_mem _ w)
          · exact w.2.1 j'
    · obtain ⟨p, q, s⟩ := er.own j (hO j hj)
      rw [if_neg e]
      refine ⟨p, q, fun j' e' b hb => ?_⟩
      by_cases ei : j' = i
      · rw [if_pos ei]
        intro z
        rcases List.mem_cons.mp z with z | z
        · subst z
          exact se0 j e b (by rw [hF]; exact List.mem_cons_self) hb
        · rcases sub b z with w | w
          · exact se0 j e b (by rw [hF]; exact List.mem_cons_of_mem _ w) hb
          · exact w.2.1 j hb
      · rw [if_neg ei]; exact s j' e' b hb
  · obtain ⟨ps, h1, h2⟩ := er.tab P hP
    exact ⟨ps, by rw [upd_ne fun z => by rw [z, hH] at h1; cases h1]; exact h1, h2⟩
  · have e1 := er.ext.kept b o e n
    rw [upd_ne fun z => by rw [z, ha0] at e; cases e]; exact e1
  · rw [upd_ne fun z => by rw [z, ha0] at e; exact e rfl]
    exact er.ext.dom b e
  · obtain ⟨ps, h1, h2⟩ := er.tab P hP
    exact ⟨ps, by rw [upd_ne fun z => by rw [z, hH] at h1; cases h1]; exact h1, h2⟩
  · obtain ⟨st, k, dom, sep⟩ := er.lks l hm
    refine ⟨st, k.trans (kp _ fun z => sep i ho (so l hm) a (by rw [hF]; exact List.mem_cons_self) z), dom, fun j hj hs' b hb => ?_⟩
    by_cases e : j = i
    · subst e
      rw [if_pos rfl] at hb
      rcases List.mem_cons.mp hb with z | z
      · rw [z]; exact sep j ho hs' a (by rw [hF]; exact List.mem_cons_self)
      · rcases sub b z with w | w
        · exact sep j ho hs' b (by rw [hF]; exact List.mem_cons_of_mem _ w)
        · exact w.2.2 l hm
    · rw [if_neg e] at hb
      exact sep j (hO j hj) hs' b hb
/-- the list at a slot -/
theorem ER.at_lst {i : Nat} {ds : List D} (er : ER K C O H σ ρ Fs) (h : ρ[i]? = some (some (.list ds))) : ∃ a xs F, σ[i]? = some (some (.ref a)) ∧ Fs i = a :: F ∧ H a = some (.lst xs) ∧ RpL K H xs ds F := by
  obtain ⟨v, h1, r⟩ := er.rep i _ h
  generalize hF : Fs i = G at r
  cases r with
  | @lst a xs _ F s r => exact ⟨a, xs, F, h1, rfl, s, r⟩
end
/-! ### targets -/
/-- σ' is σ but for the slots is -/
def SameO (is : List Nat) (σ σ' : L2.St) : Prop := σ'.length = σ.length ∧ ∀ j, j ∉ is → σ'[j]? = σ[j]?
def tG (K : PySem.W.Frag) (O : Own) (is : List Nat) (g : Env → D → R Env) : TG := fun v σ H Q => ∃ C ρ Fs d F, ER K C O H σ ρ Fs ∧ Rp K H v d F ∧ (∀ j ∈ O, ∀ b ∈ Fs j, b ∉ F) ∧
  Sat (g ρ d) (fun ρ' => ∀ σ' Fs', ER K C O H σ' ρ' Fs' → (∀ j ∈ O, Fs' j = Fs j) → SameO is σ σ' → Q σ' H) (fun _ => False)
def tGs (K : PySem.W.Frag) (O : Own) (is : List Nat) (g : Env → List D → R Env) : TGs := fun v σ H Q => ∃ C ρ Fs d F, ER K C O H σ ρ Fs ∧ RpL K H v d F ∧ (∀ j ∈ O, ∀ b ∈ Fs j, b ∉ F) ∧
  Sat (g ρ d) (fun ρ' => ∀ σ' Fs', ER K C O H σ' ρ' Fs' → (∀ j ∈ O, Fs' j = Fs j) → SameO is σ σ' → Q σ' H) (fun _ => False)
structure GV (X : Cx) (O : Own) (tg : Expr) (is : List Nat) (g : Env → D → R Env) : Prop where
  nox : ∀ ρ d, NoX (g ρ d)
  pg : PG X tg (tG X.K O is g)
structure GVs (X : Cx) (O : Own) (tg : List Expr) (is : List Nat) (g : Env → List D → R Env) : Prop where
  nox : ∀ ρ d, NoX (g ρ d)
  len : ∀ ρ ds ρ', g ρ ds = .ok ρ' → ds.length = tg.length
  pg : PGs X tg (tGs X.K O is g)
theorem _root_.L2.PG.imp {X : Cx} {e : Expr} {t t' : TG} (h : PG X e t) (i : ∀ v σ H Q, t' v σ H Q → t v σ H Q) : PG X e t' := ⟨fun pins s σ H v u Q I r q => h.run pins s σ H v u Q I r (i _ _ _ _ q)⟩
theorem _root_.L2.PGs.imp {X : Cx} {e : List Expr} {t t' : TGs} (h : PGs X e t) (i : ∀ v σ H Q, t' v σ H Q → t v σ H Q) : PGs X e t' := ⟨fun pins s σ H v u Q I r q => h.run pins s σ H v u Q I r (i _ _ _ _ q)⟩
theorem SameO.refl {is : List Nat} {σ : L2.St} : SameO is σ σ := ⟨rfl, fun _ _ => rfl⟩
theorem SameO.trans {is is' : List Nat} {σ σ1 σ2 : L2.St} (x : SameO is σ σ1) (y : SameO is' σ1 σ2) : SameO (is ++ is') σ σ2 := ⟨y.1.trans x.1, fun j hj => (y.2 j fun z => hj (List.mem_append_right _ z)).trans (x.2 j fun z => hj (List.mem_append_left _ z))⟩
def gN (i : Nat) : Env → D → R Env := fun ρ d => .ok (ρ.put i d)
def gNilD : Env → List D → R Env := fun ρ ds => match ds with
  | [] => .ok ρ
  | _ => .stuck
def gConsD (g : Env → D → R Env) (h : Env → List D → R Env) : Env → List D → R Env := fun ρ ds => match ds with
  | d :: ds => (g ρ d).bind fun ρ1 => h ρ1 ds
  | [] => .stuck
def gTupD (g : Env → List D → R Env) : Env → D → R Env := fun ρ d => match d with
  | .tuple ds => g ρ ds
  | _ => .stuck
theorem bind_nox {α β : Type} {r : R α} {f : α → R β} (h : NoX r) (h' : ∀ a, NoX (f a)) : NoX (r.bind f) := by
  intro c e
  cases r with
  | ok a => exact h' a c e
  | exc c' => exact h c' rfl
  | stuck => cases e
section
variable {X : Cx} {C : Cc} {W : WX} {Ob O O1 O' : Own} {st : Stmt} {rest a b : List Stmt} {F G : Env → RS} {e : Expr} {E : EF} {k i j : Nat} {x y : Str} {pos p2 : Pos} {B : Env → R Bool} {tg : Expr} {es : List Expr} {g : Env → D → R Env} {h : Env → List D → R Env}
theorem gv_name (hN : X.N.Nodup) (hi : X.N[i]? = some x) (hx : Loc X.env.scope x) (ho : i ∉ O := by decide) (hf : X.fn x = true ∨ X.env.scope.names.lookup x = some .local := by first | exact .inl rfl | exact .inr rfl | assumption) : GV X O (.Name x pos) [i] (gN i) := by
  refine ⟨fun _ _ => noxO, (pg_name hN hi hx hf).imp fun v σ H Q ⟨C, ρ, Fs, d, F, er, r, hd, q⟩ => ?_⟩
  obtain ⟨Fs', er', k1, _⟩ := er.store (O' := O) (i := i) r (fun j hj => .inr ⟨fun z => ho (z ▸ hj), hj⟩) fun j hj _ => hd j hj
  exact q _ Fs' er' (fun j hj => k1 j fun z => ho (z ▸ hj)) ⟨by simp, fun j hj => List.getElem?_set_ne fun z => hj (by rw [z]; exact List.mem_cons_self)⟩
theorem gvs_nil : GVs X O [] [] gNilD := by
  refine ⟨fun ρ d => ?_, fun ρ ds ρ' e => ?_, pgs_nil.imp fun v σ H Q ⟨C, ρ, Fs, d, F, er, r, hd, q⟩ => ?_⟩
  · unfold gNilD; split <;> first | exact noxO | exact noxS
  · cases ds with
    | nil => rfl
    | cons => cases e
  · cases r with
    | nil => exact ⟨rfl, q σ Fs er (fun _ _ => rfl) .refl⟩
    | cons => exact q.elim
theorem gvs_cons {is is' : List Nat} (h1 : GV X O e is g) (h2 : GVs X O es is' h) (hs : (assignEach (e :: es) X.env).map (·.2) = assign e X.env :: (assignEach es X.env).map (·.2) := by rfl) : GVs X O (e :: es) (is ++ is') (gConsD g h) := by
  obtain ⟨n1, p1⟩ := h1
  obtain ⟨n2, l2, p2⟩ := h2
  refine ⟨fun ρ d => ?_, fun ρ ds ρ' e => ?_, (pgs_cons p1 p2 hs).imp fun v σ H Q ⟨C, ρ, Fs, d, F, er, r, hd, q⟩ => ?_⟩
  · unfold gConsD; split
    · exact bind_nox (n1 _ _) fun _ => n2 _ _
    · exact noxS
  · cases ds with
    | nil => cases e
    | cons d ds =>
      unfold gConsD at e
      cases e1 : g ρ d with
      | ok ρ1 => simp only [e1, R.bind_ok] at e; rw [List.length_cons, List.length_cons, l2 _ _ _ e]
      | exc c => simp only [e1, R.bind_exc] at e; cases e
      | stuck => simp only [e1, R.bind_stuck] at e; cases e
  · cases r with
    | nil => exact q.elim
    | @cons v vs d ds F G rv rs =>
      refine ⟨v, vs, rfl, C, ρ, Fs, d, F, er, rv, (fun j hj b hb z => hd j hj b hb (List.mem_append_left _ z)), (Sat.bind q).mono (fun ρ1 p σ1 Fs1 er1 k1 s1 => ?_) fun _ z => z⟩
      exact ⟨C, ρ1, Fs1, ds, G, er1, rs, (fun j hj b hb z => hd j hj b (by rw [← k1 j hj]; exact hb) (List.mem_append_right _ z)), p.mono (fun ρ2 p2 σ2 Fs2 er2 k2 s2 => p2 σ2 Fs2 er2 (fun j hj => (k2 j hj).trans (k1 j hj)) (s1.trans s2)) fun _ z => z⟩
theorem gv_tup {n : Nat} {is : List Nat} (hc : X.calm = true) (h1 : GVs X O es is h) (hn : (assignEach es X.env).length = es.length := by rfl) (hst : (assignEach es X.env).findIdx? (·.1) = none := by rfl) : GV X O (.Tuple es n pos) is (gTupD h) := by
  obtain ⟨n1, l1, p1⟩ := h1
  refine ⟨fun ρ d => ?_, (pg_tup hc p1 hn hst).imp fun v σ H Q ⟨C, ρ, Fs, d, F, er, r, hd, q⟩ => ?_⟩
  · unfold gTupD; split
    · exact n1 _ _
    · exact noxS
  · cases r with
    | @tup t xs ds F s r =>
      have hl : xs.length = es.length := by
        rw [r.length]
        have q : Sat (h ρ ds) _ _ := q
        cases e : h ρ ds with
        | ok ρ' => exact l1 _ _ _ e
        | exc c => exact (n1 _ _ _ e).elim
        | stuck => rw [e] at q; exact q.elim
      exact ⟨t, xs, rfl, s.sq, hl, C, ρ, Fs, ds, F, er, r, hd, q⟩
    | _ => exact q.elim
def setG (g : Env → D → R Env) (F : EF) : Env → RS := fun ρ => RS.of (F ρ) ρ fun d => RS.of (g ρ d) ρ .nx
theorem KdOk.sep {O : Own} {H : Hp} {Fs : Nat → List Addr} {F : List Addr} {K : PySem.W.Frag} {C : Cc} {σ : L2.St} {ρ : Env} (kd : KdOk k O H Fs F) (hk : k ≤ 1) (er : ER K C O H σ ρ Fs) : ∀ j ∈ O, ∀ b ∈ Fs j, b ∉ F := fun j hj b hb z => by
  rcases kd.le1 hk b z with w | ⟨j0, hj0, w⟩
  · exact er.nn j b hb w
  · exact (er.own j hj).2.2 j0 (fun q => hj0 (q ▸ hj)) b hb w
theorem sv_asg {is : List Nat} (hg : GV X O' tg is g) (he : EV X C W O e k E) (hk : k ≤ 1 := by decide) (hO : ∀ j ∈ O', j ∈ O := by decide) (hs : swapsWithSole [tg] e pos.line X.env = pure false := by rfl) (hw : swappedStores [tg] e X.env = pure none := by rfl)
    (h1 : (assignEach [tg] X.env).map (·.2) = [assign tg X.env] := by rfl) : SV X C W Ob O O' (.Assign [tg] e pos) (setG g E) := by
  obtain ⟨n1, p1⟩ := hg
  refine (ps_asg he p1 hs hw h1).imp fun De σ H ⟨ρ, Fs, er, q⟩ => ?_
  refine tD.step er (fin_of er q) fun d v H1 F1 p er1 x1 rr kd1 => ?_
  exact ⟨C, ρ, Fs, d, F1, er1.less hO, rr, (fun j hj => kd1.sep hk er j (hO j hj)), ((fin_of er1 p).nox (n1 _ _)).mono (fun ρ1 p1 σ1 Fs1 er2 _ _ => p1 σ1 H1 Fs1 er2) fun _ z => z⟩
/-- a, b = x, y -/
def parD (is : List Nat) (L : Env → R (List D)) : Env → RS := fun ρ => RS.of (L ρ) ρ fun ds => .nx (putsD is ds ρ)
theorem par_read {is : List Nat} {L : Env → R (List D)} (h : AVn X C W O es k L) (hl : es.length = is.length) (nd : is.Nodup) (hk : k ≤ 1) (hO : ∀ m ∈ O', (m ∈ is ∧ decide (k = 0) = true) ∨ (m ∉ is ∧ m ∈ O)) {De : Ends} {σ : L2.St} {H : Hp}
    (q : sD X.K C W Ob O O' (parD is L) De σ H) : tL X.K C W O k L σ H fun vs H1 => vs.length = is.length ∧ De.nx (setsV is vs σ) H1 := by
  obtain ⟨ρ, Fs, er, q⟩ := q
  refine tL.step er (sat_n (σ := σ) (H := H) h (fin_of er q)) fun ds vs H1 F1 ⟨hds, p⟩ er1 x1 rr kd1 => ?_
  refine ⟨by rw [rr.length, hds, hl], ?_⟩
  refine Exists.elim (ER.stores (decide (k = 0)) (O' := O') er1 rr nd (by rw [hds, hl]) (fun z => ?_) (fun j hj _ => kd1.sep hk er j hj) (fun z j hj b hb w => er.nn j b w ((kd1.fr (of_decide_eq_true z)).2 b hb)) hO) fun Fs' ⟨er', _⟩ => p _ H1 Fs' er'
  obtain ⟨a, b⟩ := kd1.fr (of_decide_eq_true z)
  exact ⟨a, fun c hc => er.ext.free (b c hc), fun j c _ hc w => er.nn j c w (b c hc), fun l hl c hc w => er.lkdom hl c w (b c hc)⟩
theorem par_two {L : Env → R (List D)} {σ : L2.St} {H : Hp} {De : Ends} {i j : Nat} (h : tL X.K C W O k L σ H fun vs H1 => vs.length = 2 ∧ De.nx (setsV [i, j] vs σ) H1) : tL X.K C W O k L σ H fun vs H1 => ∃ v w, vs = [v, w] ∧ De.nx ((σ.set i (some v)).set j (some w)) H1 := by
  obtain ⟨ρ, Fs, er, q⟩ := h
  refine ⟨ρ, Fs, er, q.mono (fun d p v H' F' x r kd => ?_) fun _ z => z⟩
  obtain ⟨hl, p⟩ := p v H' F' x r kd
  match v, hl with
  | [v, w], _ => exact ⟨v, w, rfl, p⟩
theorem par_three {L : Env → R (List D)} {σ : L2.St} {H : Hp} {De : Ends} {i j l : Nat} (h : tL X.K C W O k L σ H fun vs H1 => vs.length = 3 ∧ De.nx (setsV [i, j, l] vs σ) H1) : tL X.K C W O k L σ H fun vs H1 => ∃ v w u, vs = [v, w, u] ∧ De.nx (((σ.set i (some v)).set j (some w)).set l (some u)) H1 := by
  obtain ⟨ρ, Fs, er, q⟩ := h
  refine ⟨ρ, Fs, er, q.mono (fun d p v H' F' x r kd => ?_) fun _ z => z⟩
  obtain ⟨hl, p⟩ := p v H' F' x r kd
  match v, hl with
  | [v, w, u], _ => exact ⟨v, w, u, rfl, p⟩
theorem sv_par {L : Env → R (List D)} {a b : Expr} {px py pt : Pos} {kt k2 pt2} (hc : X.calm = true) (hN : X.N.Nodup) (hi : X.N[i]? = some x) (hj : X.N[j]? = some y)
    (hx : X.env.scope.names.lookup x = some .local) (hy : X.env.scope.names.lookup y = some .local) (ha : AVn X C W O [a, b] k L) (hij : i ≠ j := by decide) (hk : k ≤ 1 := by decide) (hO : ∀ m ∈ O', (m ∈ [i, j] ∧ decide (k = 0) = true) ∨ (m ∉ [i, j] ∧ m ∈ O) := by decide)
    (hw : swappedStores [.Tuple [.Name x px, .Name y py] kt pt] (.Tuple [a, b] k2 pt2) X.env = pure (some [x, y]) := by rfl)
    (hs : swapsWithSole [.Tuple [.Name x px, .Name y py] kt pt] (.Tuple [a, b] k2 pt2) pos.line X.env = pure false := by rfl) :
    SV X C W Ob O O' (.Assign [.Tuple [.Name x px, .Name y py] kt pt] (.Tuple [a, b] k2 pt2) pos) (parD [i, j] L) := (ps_par hc hN hi hj hij hx hy ha.av hw hs).imp fun De σ H q => by
  exact par_two (par_read ha rfl (by simp [hij]) hk hO q)
theorem sv_par3 {l : Nat} {z : Str} {L : Env → R (List D)} {a b c : Expr} {px py pz pt : Pos} {kt k2 pt2} (hc : X.calm = true) (hN : X.N.Nodup) (hi : X.N[i]? = some x) (hj : X.N[j]? = some y) (hl : X.N[l]? = some z)
    (hx : X.env.scope.names.lookup x = some .local) (hy : X.env.scope.names.lookup y = some .local) (hz : X.env.scope.names.lookup z = some .local) (ha : AVn X C W O [a, b, c] k L) (hij : i ≠ j := by decide) (hil : i ≠ l := by decide) (hjl : j ≠ l := by decide)
    (hk : k ≤ 1 := by decide) (hO : ∀ m ∈ O', (m ∈ [i, j, l] ∧ decide (k = 0) = true) ∨ (m ∉ [i, j, l] ∧ m ∈ O) := by decide)
    (hw : swappedStores [.Tuple [.Name x px, .Name y py, .Name z pz] kt pt] (.Tuple [a, b, c] k2 pt2) X.env = pure (some [x, y, z]) := by rfl)
    (hs : swapsWithSole [.Tuple [.Name x px, .Name y py, .Name z pz] kt pt] (.Tuple [a, b, c] k2 pt2) pos.line X.env = pure false := by rfl) :
    SV X C W Ob O O' (.Assign [.Tuple [.Name x px, .Name y py, .Name z pz] kt pt] (.Tuple [a, b, c] k2 pt2) pos) (parD [i, j, l] L) := (ps_par3 hc hN hi hj hl hij hil hjl hx hy hz ha.av hw hs).imp fun De σ H q => by
  exact par_three (par_read ha rfl (by simp [hij, hil, hjl]) hk hO q)
end
end Pd
namespace Pd
open PySem PySem.Spec PyProof.Rows L2
/-! ### what a loop walks -/
structure ItOk (K : PySem.W.Frag) (T : List Addr) (l : Lk) (ds : List D) (J : It) : Prop where
  go : ∀ i H, Kp l.HG H l.F → i < ds.length → J.go i H
  yld : ∀ i H x H' d, Kp l.HG H l.F → ds[i]? = some d → J.yld i H x H' → Ex T H H' ∧ ∃ G, Rp K H' x d G ∧ ∀ b ∈ G, (l.so = none ∧ b ∈ l.F) ∨ H b = none
  stop : ∀ i H, Kp l.HG H l.F → ds.length ≤ i → J.stop i H
structure LkNew (O : Own) (Fs : Nat → List Addr) (H : Hp) (so : Option Nat) (l : Lk) : Prop where
  hg : l.HG = H
  hs : l.so = so
  dom : ∀ b ∈ l.F, ∃ o, H b = some o ∧ ∀ ps, o ≠ .tbl ps
  sep : ∀ j, j ∈ O → so ≠ some j → ∀ b ∈ Fs j, b ∉ l.F
def tI (K : PySem.W.Frag) (C : Cc) (W : WX) (O : Own) (so : Option Nat) (I : Env → R (List D)) : TI := fun σ H R => ∃ ρ Fs, ER K C O H σ ρ Fs ∧
  Sat (I ρ) (fun ds => ∀ J H1 l, Ex C.T H H1 → ItOk K C.T l ds J → LkNew O Fs H1 so l → R J H1) (WOk K C W σ H)
abbrev IV (X : Cx) (C : Cc) (W : WX) (O : Own) (tg iter : Expr) (so : Option Nat) (I : Env → R (List D)) : Prop := PI X tg iter (tI X.K C W O so I)
theorem _root_.L2.PI.imp {X : Cx} {tg e : Expr} {t t' : TI} (h : PI X tg e t) (i : ∀ σ H Q, t' σ H Q → t σ H Q) : PI X tg e t' := ⟨fun pins s σ H Q I q => h.run pins s σ H Q I (i _ _ _ q)⟩
def Cc.lock (C : Cc) (l : Lk) (so : Option Nat) : Cc := ⟨C.T, C.H0, l :: C.lk, so.toList ++ C.ls⟩
section
variable {K : PySem.W.Frag} {C : Cc} {W : WX} {Ob O O' : Own} {σ : L2.St} {H H' H1 : Hp} {ρ : Env} {Fs : Nat → List Addr} {De : Ends} {l : Lk} {so : Option Nat}
theorem ER.lock (er : ER K C O H σ ρ Fs) (n : LkNew O Fs H so l) : ER K (C.lock l so) O H σ ρ Fs where
  len := er.len
  rep := er.rep
  emp := er.emp
  own := er.own
  tab := er.tab
  ext := er.ext
  lks := fun m hm => by
    rcases List.mem_cons.mp hm with z | z
    · subst z
      obtain ⟨hg, hs, dom, sep⟩ := n
      subst hg hs
      exact ⟨fun i hi => List.mem_append_left _ (by rw [hi]; exact List.mem_cons_self), ⟨fun _ _ e => e, fun _ _ _ e => e, fun _ _ => rfl⟩, dom, sep⟩
    · obtain ⟨st, k, d, s⟩ := er.lks m z
      exact ⟨fun i hi => List.mem_append_right _ (st i hi), k, d, s⟩
theorem ER.unlock (er : ER K (C.lock l so) O H σ ρ Fs) (h : ∀ m ∈ C.lk, ∀ i, m.so = some i → i ∈ C.ls) : ER K C O H σ ρ Fs where
  len := er.len
  rep := er.rep
  emp := er.emp
  own := er.own
  tab := er.tab
  ext := er.ext
  lks := fun m hm => by
    obtain ⟨st, k, d, s⟩ := er.lks m (List.mem_cons_of_mem _ hm)
    exact ⟨h m hm, k, d, s⟩
end
def forD (g : Env → D → R Env) (B : Env → RS) : List D → Env → RS
  | [], ρ => .nx ρ
  | d :: ds, ρ => RS.of (g ρ d) ρ fun ρ1 => match B ρ1 with
    | .nx ρ2 => forD g B ds ρ2
    | .ct ρ2 => forD g B ds ρ2
    | .bk ρ2 => .nx ρ2
    | r => r
def forS (I : Env → R (List D)) (g : Env → D → R Env) (B : Env → RS) : Env → RS := fun ρ => RS.of (I ρ) ρ fun ds => forD g B ds ρ
def whD (c : Env → R Bool) (B : Env → RS) : Nat → Env → RS
  | 0, _ => .stuck
  | n + 1, ρ => RS.of (c ρ) ρ fun b => if b = true then (match B ρ with
    | .nx ρ2 => whD c B n ρ2
    | .ct ρ2 => whD c B n ρ2
    | .bk ρ2 => .nx ρ2
    | r => r) else .nx ρ
section
variable {X : Cx} {C : Cc} {W : WX} {Ob O O1 O' : Own} {st : Stmt} {body : List Stmt} {F G B : Env → RS} {e tg iter : Expr} {E : EF} {k i j n : Nat} {x y : Str} {pos p2 : Pos} {c : Env → R Bool} {g : Env → D → R Env} {I : Env → R (List D)} {so : Option Nat}
theorem sv_for (hp : PassesOwn (model X.prog X.w) X.A X.env X.xe) (hc : X.calm = true) (hi : IV X C W O tg iter so I) {is : List Nat} (hg : GV X O tg is g) (hb : ∀ l, SVs X (C.lock l so) W O O O body B)
    (hO : ∀ i ∈ O', i ∈ O := by decide) (hs : ∀ x, foldedSetIterable iter X.env x = pure x := by intro _; rfl) : SV X C W Ob O O' (.For tg iter body [] pos) (forS I g B) := by
  obtain ⟨ng, pg⟩ := hg
  have hb' : PSs X body (fun De σ H => ∃ l, sD X.K (C.lock l so) W O O O B De σ H) := ⟨fun pins s σ H De I ⟨l, h⟩ => (hb l).run pins s σ H De I h⟩
  refine (ps_for hp hc hi pg hb' hs).imp fun De σ H ⟨ρ, Fs, er, q⟩ => ?_
  have hls : ∀ m ∈ C.lk, ∀ i, m.so = some i → i ∈ C.ls := fun m hm => (er.lks m hm).st
  refine ⟨ρ, Fs, er, (fin_of er q).mono (fun ds p J H1 l x1 it nw => ?_) fun _ z => z⟩
  refine ⟨fun i m σ H => m + i = ds.length ∧ ∃ ρ Fs, ER X.K (C.lock l so) O H σ ρ Fs ∧ Fin X.K C W Ob O' De (forD g B (ds.drop i) ρ), ⟨ds.length, by omega, ρ, Fs, (er.ex x1).lock nw, p⟩, ?_⟩
  rintro i m σ1 H2 ⟨hm, ρ1, Fs1, er1, p1⟩
  have kp : Kp l.HG H2 l.F := (er1.lks l List.mem_cons_self).kp
  by_cases hlt : i < ds.length
  · have e1 : ds.drop i = ds[i] :: ds.drop (i + 1) := List.drop_eq_getElem_cons hlt
    rw [e1] at p1
    refine .inr ⟨it.go i H2 kp hlt, fun σ H => ∃ ρ Fs, ER X.K (C.lock l so) O H σ ρ Fs ∧ Fin X.K C W Ob O' De (forD g B (ds.drop (i + 1)) ρ), fun σ' H' h => ⟨m - 1, by omega, by omega, h⟩, fun v H3 y => ?_⟩
    obtain ⟨x3, G, r3, g3⟩ := it.yld i H2 v H3 ds[i] kp (List.getElem?_eq_getElem hlt) y
    have er3 := er1.ex x3
    refine ⟨C.lock l so, ρ1, Fs1, ds[i], G, er3, r3, (fun j hj b hb z => ?_), ((fin_of (er3.unlock hls) p1).nox (ng _ _)).mono (fun ρ4 p4 σ4 Fs4 er4 _ _ => ?_) fun _ z => z⟩
    · rcases g3 b z with ⟨h0, h1⟩ | h1
      · exact (er1.lks l List.mem_cons_self).sep j hj (by rw [h0]; intro q; cases q) b hb h1
      · exact er1.nn j b hb h1
    · refine ⟨l, ρ4, Fs4, er4, ?_⟩
      generalize B ρ4 = r4 at p4
      cases r4 with
      | nx ρ5 => exact fun σ5 H5 Fs5 er5 => ⟨ρ5, Fs5, er5, p4⟩
      | ct ρ5 => exact fun σ5 H5 Fs5 er5 => ⟨ρ5, Fs5, er5, p4⟩
      | bk ρ5 => exact fun σ5 H5 Fs5 er5 => p4 σ5 H5 Fs5 ((er5.unlock hls).less hO)
      | rt d => exact p4
      | exc c ρ5 => exact fun σ5 H5 Fs5 er5 => p4 σ5 H5 Fs5 (er5.unlock hls)
      | stuck => exact p4
  · have e1 : ds.drop i = [] := List.drop_eq_nil_of_le (by omega)
    rw [e1] at p1
    exact .inl ⟨it.stop i H2 kp (by omega), p1 σ1 H2 Fs1 ((er1.unlock hls).less hO)⟩
theorem sv_while {e : Expr} (N : Nat) (hp : PassesOwn (model X.prog X.w) X.A X.env X.xe) (hc : TV X C W O e c) (hb : SVs X C W O O O body B) (hO : ∀ i ∈ O', i ∈ O := by decide) : SV X C W Ob O O' (.While e body [] pos) (whD c B N) := by
  refine (ps_while hp hc hb).imp fun De σ H ⟨ρ, Fs, er, q⟩ => ?_
  refine ⟨fun m σ H => ∃ ρ Fs, ER X.K C O H σ ρ Fs ∧ Fin X.K C W Ob O' De (whD c B m ρ), ⟨N, ρ, Fs, er, q⟩, ?_⟩
  rintro m σ1 H1 ⟨ρ1, Fs1, er1, p1⟩
  cases m with
  | zero => exact p1.elim
  | succ m =>
    refine tB.step er1 (fin_of er1 p1) fun b H2 p2 er2 x2 => ?_
    cases b with
    | false => exact ite_ff (p2 σ1 H2 Fs1 (er2.less hO))
    | true =>
      refine ite_tt ⟨fun σ H => ∃ ρ Fs, ER X.K C O H σ ρ Fs ∧ Fin X.K C W Ob O' De (whD c B m ρ), fun σ' H' h => ⟨m, Nat.lt_succ_self m, h⟩, ρ1, Fs1, er2, ?_⟩
      rw [if_pos rfl] at p2
      generalize B ρ1 = r4 at p2
      cases r4 with
      | nx ρ5 => exact fun σ5 H5 Fs5 er5 => ⟨ρ5, Fs5, er5, p2⟩
      | ct ρ5 => exact fun σ5 H5 Fs5 er5 => ⟨ρ5, Fs5, er5, p2⟩
      | bk ρ5 => exact fun σ5 H5 Fs5 er5 => p2 σ5 H5 Fs5 (er5.less hO)
      | rt d => exact p2
      | exc c ρ5 => exact p2
      | stuck => exact p2
end
/-! ### the things walked -/
/-- what is walked of a datum -/
def itD : D → R (List D)
  | .tuple ds => .ok ds
  | .list ds => .ok ds
  | .dict [(.none, .tuple ds)] => .ok ds
  | _ => .stuck
def eIt (F : EF) : Env → R (List D) := fun ρ => (F ρ).bind itD
def eItI (F : EF) : Env → R (List D) := fun ρ => (F ρ).bind fun d => (itD d).bind fun ds => if immL ds = true then .ok ds else .stuck
theorem noxIt (d : D) : NoX (itD d) := by
  unfold itD
  split <;> first | exact noxO | exact noxS
/-- a list or a tuple, walked -/
def iSeqW (K : PySem.W.Frag) (tl : TE) : TI := fun σ H R => tl σ H fun x H1 => ∃ a, x = .ref a ∧ (((∃ xs, SqL K H1 a xs) ∧ R (Itl K a) H1) ∨ ((∃ xs, SqT K H1 a xs) ∧ R (Itt K a) H1))
theorem pi_seqW {X : Cx} {tg l : Expr} {tl : TE} (hl : PE X l tl) : PI X tg l (iSeqW X.K tl) := by
  refine ⟨fun pins s σ H R I h => ?_⟩
  refine thn (hl.run pins s σ H _ I h) fun v s1 ⟨x, H1, I1, r1, q1⟩ => ?_
  obtain ⟨a, e, q⟩ := q1
  subst e
  cases r1
  have fp : ∀ b ∈ [s1.heap.objs.size], FpOk X pins H1 b := fun b hb => by
    have e : b = s1.heap.objs.size := by simpa using hb
    subst e
    exact I1.fpOk (Nat.le_refl _) (I1.hok.fresh (Nat.le_refl _))
  rcases q with ⟨⟨xs, hq⟩, q⟩ | ⟨⟨xs, hq⟩, q⟩
  · obtain ⟨its, rv, p, hz⟩ := I1.list hq
    refine wpAny_pyIter_list p.isList ?_
    exact ⟨s1.heap.objs.size, [s1.heap.objs.size], _, _, H1, rfl, I1.kept (t' := s1.toks) fun b o e => Heap.get?_push_of_some _ e, turn_list a _, ⟨_, Heap.get?_push_size _ rfl, rfl, rfl⟩, fp, q⟩
  · obtain ⟨its, rv, p, hz⟩ := I1.tuple hq
    refine wpAny_pyIter_tuple (show s1.heap.IsTuple a its.toArray from p) ?_
    exact ⟨s1.heap.objs.size, [s1.heap.objs.size], _, _, H1, rfl, I1.kept (t' := s1.toks) fun b o e => Heap.get?_push_of_some _ e, turn_tuple a _, ⟨_, Heap.get?_push_size _ rfl, rfl, rfl⟩, fp, q⟩
theorem Kp.refl {H : Hp} {S : List Addr} : Kp H H S := ⟨fun _ _ e => e, fun _ _ _ e => e, fun _ _ => rfl⟩
section
variable {K : PySem.W.Frag} {T : List Addr} {l : Lk} {ds : List D} {xs : List V} {a : Addr} {H1 : Hp} {F : List Addr}
theorem itok_seq {J : It} {S : Hp → List V → Prop} (hJ : J = ⟨fun i H => ∃ xs x, S H xs ∧ xs[i]? = some x, fun i H x H' => H' = H ∧ ∀ xs, S H xs → xs[i]? = some x, fun i H => ∃ xs, S H xs ∧ xs.length ≤ i⟩)
    (hS : ∀ H, Kp l.HG H l.F → S H xs) (r : RpL K l.HG xs ds F) (hF : ∀ b ∈ F, b ∈ l.F) (so : l.so = none ∨ F = []) : ItOk K T l ds J := by
  subst hJ
  refine ⟨fun i H k hi => ?_, fun i H x H' d k hd y => ?_, fun i H k hi => ⟨xs, hS H k, by rw [r.length]; exact hi⟩⟩
  · obtain ⟨v, G, e, _⟩ := r.get (List.getElem?_eq_getElem hi)
    exact ⟨xs, v, hS H k, e⟩
  · obtain ⟨e, y⟩ := y
    subst e
    obtain ⟨v, G, e, r', sb⟩ := r.get hd
    have e2 := y xs (hS _ k)
    rw [e] at e2
    cases e2
    refine ⟨.refl, G, r'.kp (k.sub fun b hb => hF b (sb.mem hb)), fun b hb => ?_⟩
    rcases so with z | z
    · exact .inl ⟨z, hF b (sb.mem hb)⟩
    · rw [z] at sb
      exact (nomatch sb.mem hb)
end
section
variable {X : Cx} {C : Cc} {W : WX} {O : Own} {e tg : Expr} {es : List Expr} {E : EF} {k i j n : Nat} {x y : Str} {pos p2 : Pos} {L : Env → R (List D)}
theorem seq_read {σ : L2.St} {H1 : Hp} {ρ : Env} {Fs : Nat → List Addr} {v : V} {d : D} {F : List Addr} {so : Option Nat} {R : It → Hp → Prop} (er1 : ER X.K C O H1 σ ρ Fs) (r : Rp X.K H1 v d F) (sep : ∀ j, j ∈ O → so ≠ some j → ∀ b ∈ Fs j, b ∉ F)
    (q : Sat (itD d) (fun ds => (so = none ∨ immL ds = true) ∧ ∀ J l, ItOk X.K C.T l ds J → LkNew O Fs H1 so l → R J H1) (fun _ => False)) :
    ∃ a, v = .ref a ∧ (((∃ xs, SqL X.K H1 a xs) ∧ R (Itl X.K a) H1) ∨ ((∃ xs, SqT X.K H1 a xs) ∧ R (Itt X.K a) H1)) := by
  have nw : LkNew O Fs H1 so ⟨F, H1, so⟩ := ⟨rfl, rfl, r.dom, sep⟩
  have im : ∀ {xs : List V} {ds : List D} {G : List Addr}, RpL X.K H1 xs ds G → so = none ∨ immL ds = true → so = none ∨ G = [] := fun r z => z.imp id fun w => r.imm w
  cases r with
  | @tup a xs ds F s r =>
    obtain ⟨i, q⟩ : (so = none ∨ immL ds = true) ∧ ∀ J l, ItOk X.K C.T l ds J → LkNew O Fs H1 so l → R J H1 := q
    exact ⟨a, rfl, .inr ⟨⟨xs, s.sq⟩, q _ _ (itok_seq (S := fun H xs => SqT X.K H a xs) rfl (fun H k => (k.nt s).sq) r (fun _ h => h) (im r i)) nw⟩⟩
  | @lst a xs ds F s r =>
    obtain ⟨i, q⟩ : (so = none ∨ immL ds = true) ∧ ∀ J l, ItOk X.K C.T l ds J → LkNew O Fs H1 so l → R J H1 := q
    exact ⟨a, rfl, .inl ⟨⟨xs, .inl (.inl s)⟩, q _ _ (itok_seq (S := fun H xs => SqL X.K H a xs) rfl (fun H k => .inl (.inl ((k.at_ a List.mem_cons_self).trans s))) r (fun b h => List.mem_cons_of_mem _ h) (im r i)) nw⟩⟩
  | @ro a xs ds s r =>
    obtain ⟨i, q⟩ : (so = none ∨ immL ds = true) ∧ ∀ J l, ItOk X.K C.T l ds J → LkNew O Fs H1 so l → R J H1 := q
    exact ⟨a, rfl, .inl ⟨⟨xs, s.sq⟩, q _ _ (itok_seq (S := fun H xs => SqL X.K H a xs) rfl (fun H k => (k.roL s).sq) r (fun b h => h) (.inr rfl)) nw⟩⟩
  | @dK p kvs ks vs F e1 e2 r =>
    exfalso
    cases kvs with
    | nil => subst e2; exact q
    | cons kv kvs =>
      subst e2
      cases r with
      | cons r1 r2 =>
        obtain ⟨kk, vv⟩ := kv
        cases kk <;> exact q
  | @dT p kvs ks vs F e1 e2 r =>
    exfalso
    cases kvs with
    | nil => subst e2; exact q
    | cons kv kvs =>
      subst e2
      cases r with
      | cons r1 r2 => exact q
  | _ => exact q.elim
theorem iv_seq (he : EV X C W O e k E) (hk : k ≤ 1 := by decide) : IV X C W O tg e none (eIt E) := by
  refine (pi_seqW he).imp fun σ H R ⟨ρ, Fs, er, q⟩ => ?_
  refine tD.step er (Sat.bind q) fun d v H1 F1 p er1 x1 r1 kd1 => ?_
  exact seq_read (so := none) er1 r1 (fun j hj _ => kd1.sep hk er j hj) ((p.nox (noxIt _)).mono (fun ds w => ⟨.inl rfl, fun J l it nw => w J H1 l x1 it nw⟩) fun _ z => z)
theorem iv_own (he : PE X e (tVar j)) (hj : j ∈ O := by decide) : IV X C W O tg e (some j) (eItI (eName j)) := by
  refine (pi_seqW he).imp fun σ H R ⟨ρ, Fs, er, q⟩ => ?_
  obtain ⟨d, h1, h2⟩ := get_sat (Sat.bind q)
  obtain ⟨v, h3, r⟩ := er.rep j d h1
  refine ⟨v, h3, seq_read (so := some j) er r (fun m hm hs b hb => (er.own m hm).2.2 j (fun z => hs (by rw [z])) b hb) ?_⟩
  refine ((Sat.bind h2).nox ?_).mono (fun ds w => ?_) fun _ z => z
  · exact noxIt _
  · by_cases hi : immL ds = true
    · rw [if_pos hi] at w
      exact ⟨.inr hi, fun J l it nw => w J H l .refl it nw⟩
    · rw [if_neg hi] at w; exact w.elim
/-- lo, lo + 1, .. -/
def rangeL (lo : Int) (n : Nat) : List D := (List.range n).map fun i => .int (lo + (i : Nat))
def rngD : List D → R (List D)
  | [.int b] => if -4611686018427387904 ≤ b ∧ b < 4611686018427387904 then .ok (rangeL 0 b.toNat) else .stuck
  | [.int a, .int b] => if -4611686018427387904 ≤ a ∧ a < 4611686018427387904 ∧ -4611686018427387904 ≤ b ∧ b < 4611686018427387904 then .ok (rangeL a (b - a).toNat) else .stuck
  | _ => .stuck
def eRng (L : Env → R (List D)) : Env → R (List D) := fun ρ => (L ρ).bind rngD
theorem rangeL_len {lo : Int} {n : Nat} : (rangeL lo n).length = n := by simp [rangeL]
theorem itok_rng {K : PySem.W.Frag} {T : List Addr} {H : Hp} {lo : Int} {n : Nat} : ItOk K T ⟨[], H, none⟩ (rangeL lo n) (Itr lo n) := by
  refine ⟨fun i H' k hi => by rw [rangeL_len] at hi; exact hi, fun i H' x H2 d k hd y => ?_, fun i H' k hi => by rw [rangeL_len] at hi; exact hi⟩
  obtain ⟨e, y⟩ := y
  subst e
  refine ⟨.refl, [], ?_, fun b hb => (nomatch hb)⟩
  subst y
  have hi : i < n := by
    have := (List.getElem?_eq_some_iff.mp hd).1
    rw [rangeL_len] at this; exact this
  have e2 : (rangeL lo n)[i]? = some (.int (lo + (i : Nat))) := by simp [rangeL, hi]
  rw [e2] at hd
  cases hd
  exact .int _
theorem noxRng (ds : List D) : NoX (rngD ds) := by
  unfold rngD
  split <;> first | exact noxI noxO noxS | exact noxS
theorem lk_none {O : Own} {Fs : Nat → List Addr} {H : Hp} : LkNew O Fs H none ⟨[], H, none⟩ := ⟨rfl, rfl, fun b hb => (nomatch hb), fun j _ _ b _ h => (nomatch h)⟩
theorem iv_range1 {a : Expr} {p : Pos} (hg : Gl X "range") (hm : X.mg "range" = none) (ha : AVn X C W O [a] k L) (hs : starEach [a] X.env = [(false, eval a X.env)] := by rfl) : IV X C W O tg (.Call (.Name "range" p) [a] [] pos) none (eRng L) := by
  refine (pi_range1 hg hm ha.av hs).imp fun σ H R ⟨ρ, Fs, er, q⟩ => ?_
  refine tL.step er (sat_n (σ := σ) (H := H) ha (Sat.bind q)) fun d v H1 F1 ⟨hl, p⟩ er1 x1 r1 kd1 => ?_
  match d, hl, r1, p with
  | [d], _, .cons r .nil, p =>
    cases r with
    | int j =>
      obtain ⟨⟨c1, c2⟩, p⟩ := satI p
      exact ⟨j, rfl, by omega, by omega, p (Itr 0 j.toNat) H1 _ x1 itok_rng lk_none⟩
    | _ => exact p.elim
theorem iv_range2 {a b : Expr} {p : Pos} (hg : Gl X "range") (hm : X.mg "range" = none) (ha : AVn X C W O [a, b] k L) (hs : starEach [a, b] X.env = [(false, eval a X.env), (false, eval b X.env)] := by rfl) (hs2 : starEach [b] X.env = [(false, eval b X.env)] := by rfl) :
    IV X C W O tg (.Call (.Name "range" p) [a, b] [] pos) none (eRng L) := by
  refine (pi_range2 hg hm ha.av hs hs2).imp fun σ H R ⟨ρ, Fs, er, q⟩ => ?_
  refine tL.step er (sat_n (σ := σ) (H := H) ha (Sat.bind q)) fun d v H1 F1 ⟨hl, p⟩ er1 x1 r1 kd1 => ?_
  match d, hl, r1, p with
  | [d, d'], _, .cons r (.cons r' .nil), p =>
    cases r with
    | int j =>
      cases r' with
      | int j' =>
        obtain ⟨⟨c1, c2, c3, c4⟩, p⟩ := satI p
        exact ⟨j, j', rfl, ⟨by omega, by omega, by omega, by omega⟩, p (Itr j (j' - j).toNat) H1 _ x1 itok_rng lk_none⟩
      | _ => exact p.elim
    | _ => exact p.elim
end
end Pd
namespace Pd
open PySem PySem.Spec PyProof.Rows L2
/-! ### changes of lists -/
def appD (i : Nat) (L : Env → R (List D)) : Env → RS := fun ρ => RS.of (ρ.get i) ρ fun x => match x with
  | .list ds => RS.of (L ρ) ρ fun ys => match ys with
    | [d] => if ds.length < 16777216 then .nx (ρ.put i (.list (ds ++ [d]))) else .stuck
    | _ => .stuck
  | _ => .stuck
def appMD (i j : Nat) : Env → RS := fun ρ => RS.of (ρ.get i) ρ fun x => match x with
  | .list ds => RS.of (ρ.get j) ρ fun d => if ds.length < 16777216 then .nx ((ρ.del j).put i (.list (ds ++ [d]))) else .stuck
  | _ => .stuck
def setIxD (i : Nat) (I F : EF) : Env → RS := fun ρ => RS.of (F ρ) ρ fun d => RS.of (ρ.get i) ρ fun x => match x with
  | .list ds => RS.of (I ρ) ρ fun n => match n with
    | .int k => match ixN ds.length k with
      | some j => .nx (ρ.put i (.list (ds.set j d)))
      | none => .stuck
    | _ => .stuck
  | _ => .stuck
def augIxD (g : D → D → R D) (i : Nat) (I F : EF) : Env → RS := fun ρ => RS.of (ρ.get i) ρ fun x => match x with
  | .list ds => RS.of (I ρ) ρ fun n => match n with
    | .int k => match ixN ds.length k with
      | some j => match ds[j]? with
        | some o => RS.of (F ρ) ρ fun d => RS.of (g o d) ρ fun z => if imm z = true then .nx (ρ.put i (.list (ds.set j z))) else .stuck
        | none => .stuck
      | none => .stuck
    | _ => .stuck
  | _ => .stuck
def augD (g : D → D → R D) (i : Nat) (F : EF) : Env → RS := fun ρ => RS.of (ρ.get i) ρ fun x => RS.of (F ρ) ρ fun d => RS.of (g x d) ρ fun z => if imm z = true then .nx (ρ.put i z) else .stuck
theorem RpL.set {K : PySem.W.Frag} {H : Hp} {v : V} {d : D} {G : List Addr} (rv : Rp K H v d G) : ∀ {xs : List V} {ds : List D} {F : List Addr} (j : Nat), RpL K H xs ds F → ∃ F2, RpL K H (xs.set j v) (ds.set j d) F2 ∧ (∀ b ∈ F2, b ∈ F ∨ b ∈ G) ∧ ((F ++ G).Nodup → F2.Nodup)
  | _, _, _, _, .nil => ⟨[], .nil, fun _ h => (nomatch h), fun _ => List.nodup_nil⟩
  | _, _, _, 0, @RpL.cons _ _ _ _ _ _ A B r t => ⟨G ++ B, .cons rv t, fun b hb => (List.mem_append.mp hb).elim .inr fun z => .inl (List.mem_append_right _ z), fun nd => by
      obtain ⟨n1, n2, n3⟩ := List.nodup_append.mp nd
      obtain ⟨m1, m2, m3⟩ := List.nodup_append.mp n1
      exact List.nodup_append.mpr ⟨n2, m2, fun a ha b hb e => n3 b (List.mem_append_right _ hb) a ha e.symm⟩⟩
  | _, _, _, j + 1, @RpL.cons _ _ _ _ _ _ A B r t => by
    obtain ⟨F2, r2, m, nd⟩ := RpL.set rv j t
    refine ⟨A ++ F2, .cons r r2, fun b hb => ?_, fun h => ?_⟩
    · rcases List.mem_append.mp hb with z | z
      · exact .inl (List.mem_append_left _ z)
      · exact (m b z).imp (List.mem_append_right _) id
    · obtain ⟨n1, n2, n3⟩ := List.nodup_append.mp h
      obtain ⟨m1, m2, m3⟩ := List.nodup_append.mp n1
      refine List.nodup_append.mpr ⟨m1, nd (List.nodup_append.mpr ⟨m2, n2, fun a ha b hb e => n3 a (List.mem_append_right _ ha) b hb e⟩), fun a ha b hb e => ?_⟩
      rcases m b hb with z | z
      · exact m3 a ha b z e
      · exact n3 a (List.mem_append_left _ ha) b z e
/-- the item of a list, by values -/
theorem get_list {X : Cx} : PGet X (fun o i H Q => ∃ p xs k v, o = .ref p ∧ i = .int k ∧ SqL X.K H p xs ∧ atI xs k = some v ∧ Q v H) := by
  intro pins s σ H o i ov iv Q I ro ri h
  obtain ⟨p, xs, k, z, rfl, rfl, hq, he, q⟩ := h
  cases ro
  obtain ⟨t, rfl⟩ := ri
  obtain ⟨its, r, pl, hz⟩ := I.list hq
  obtain ⟨j, h1, h2, h3, h4, h5⟩ := atI_get he
  obtain ⟨w, ew, rw'⟩ := r.get h2
  have hl := r.length
  have hn := line63
  have fin : EP X pins σ Q w s := ⟨z, H, I, rw', q⟩
  by_cases h0 : 0 ≤ k
  · have hj : k.toNat = j := by
      rw [seqIndex_of h0 h5] at h1
      exact Option.some.inj h1
    exact wpAny_getItem_list pl.isList h0 (by omega) (by rw [hj]; simpa using ew) fin
  · have hj : (k + (its.toArray.size : Int)).toNat = j := by
      rw [seqIndex_neg (by omega) h4] at h1
      rw [List.size_toArray, ← hl]
      exact Option.some.inj h1
    exact wpAny_getItem_list_neg pl.isList (by omega) (by rw [List.size_toArray] <;> omega) (by omega) (by rw [hj]; simpa using ew) fin
section
variable {X : Cx} {C : Cc} {W : WX} {Ob O O1 O' : Own} {e o ix : Expr} {E I F : EF} {k k' i j : Nat} {x : Str} {pos p2 apos : Pos} {L : Env → R (List D)}
theorem len_ok {n : Nat} (h : n < 16777216) : n < sizeLine := by rw [sz16]; exact h
theorem sv_app (ho : PE X o (tVar i)) (ha : AVn X C W O [e] 0 L) (hi : i ∈ O := by decide) (hl : decide (i ∈ C.ls) = false := by rfl) (hO : ∀ m ∈ O', m ∈ O := by decide)
    (hbase : attributeBase o "append" X.env (eval o X.env) = eval o X.env := by rfl)
    (hfew : ((backTo p2 (starEach [e] X.env)).all (fun x => !x.1) && (backToKw p2 (keywordEach [] X.env)).all (fun x => x.1.isSome)
      && decide ([e].length + ([] : List Keyword).length + (if ([] : List Keyword).isEmpty then 0 else 1) < 30)) = true := by rfl)
    (hline : (apos.endLine == p2.line) = true := by rfl) (hs : starEach [e] X.env = (false, eval e X.env) :: starEach [] X.env := by rfl) (hplain : (backTo p2 (starEach [] X.env)).any (·.1) = false := by rfl)
    (hw : swapsWith (.Call (.Attribute o "append" apos) [e] [] p2) none pos.line X.env = pure false := by rfl) :
    SV X C W Ob O O' (.Expr (.Call (.Attribute o "append" apos) [e] [] p2) pos) (appD i L) := by
  refine (ps_expr (pe_bm PySem.F.plainAttrs_list PySem.F.slot_list_append PySem.F.type_list_append (mt_append : MtR X "list.append" rAppend) ho ha.av hbase hfew hline hs hplain) hw).imp fun De σ H ⟨ρ, Fs, er, q⟩ => ?_
  obtain ⟨d, h1, h2⟩ := get_sat (fin_of er q)
  cases d with
  | list ds =>
    obtain ⟨a, xs, Fx, hs1, hF, hH, r⟩ := er.at_lst h1
    refine ⟨.ref a, hs1, .inl ⟨rfl, xs, .inl (.inl hH)⟩, ?_⟩
    refine tL.step er (fin_of er h2) fun ys vs H1 F1 p er1 x1 r1 kd1 => ?_
    match ys, vs, r1, p with
    | [d], [v], r1, p =>
      dsimp only at p
      by_cases hlen : ds.length < 16777216
      · rw [if_pos hlen] at p
        obtain ⟨a', xs', Fx', hs1', hF', hH', r'⟩ := er1.at_lst h1
        rw [hs1] at hs1'
        cases hs1'
        rw [hF] at hF'
        cases hF'
        refine ⟨a, xs', v, rfl, rfl, hH', len_ok (by rw [r'.length]; exact hlen), ?_⟩
        obtain ⟨nd1, fr1⟩ := kd1.fr rfl
        refine Exists.elim (er1.upd (O' := O') (ds' := ds ++ [d]) hi (of_decide_eq_false hl) hs1 hF hH' (r'.append r1) ?_ ?_ hO) fun Fs' er' => p _ _ Fs' er'
        · have nd0 := (er.own i hi).1
          rw [hF] at nd0
          obtain ⟨n1, n2⟩ := List.nodup_cons.mp nd0
          refine List.nodup_cons.mpr ⟨fun z => ?_, List.nodup_append.mpr ⟨n2, nd1, fun b hb c hc e => ?_⟩⟩
          · rcases List.mem_append.mp z with w | w
            · exact n1 w
            · exact er.nn i a (by rw [hF]; exact List.mem_cons_self) (fr1 a w)
          · subst e
            exact er.nn i b (by rw [hF]; exact List.mem_cons_of_mem _ hb) (fr1 b hc)
        · intro b hb
          rcases List.mem_append.mp hb with w | w
          · exact .inl w
          · exact .inr ⟨er.ext.free (fr1 b w), fun j z => er.nn j b z (fr1 b w), fun l hl z => er.lkdom hl b z (fr1 b w)⟩
      · rw [if_neg hlen] at p; exact p.elim
    | [], _, r1, p => exact p.elim
    | _ :: _ :: _, _, r1, p => exact p.elim
    | [d], [], r1, p => cases r1
    | [d], _ :: _ :: _, r1, p => cases r1; rename_i z; cases z
  | _ => exact h2.elim
theorem sv_appM {oj : Expr} (ho : PE X o (tVar i)) (hj : PE X oj (tVar j)) (hi : i ∈ O := by decide) (hjO : j ∈ O := by decide) (hij : i ≠ j := by decide) (hl : decide (i ∈ C.ls) = false := by rfl) (hlj : decide (j ∈ C.ls) = false := by rfl) (hO : ∀ m ∈ O', m ∈ O := by decide)
    (hbase : attributeBase o "append" X.env (eval o X.env) = eval o X.env := by rfl)
    (hfew : ((backTo p2 (starEach [oj] X.env)).all (fun x => !x.1) && (backToKw p2 (keywordEach [] X.env)).all (fun x => x.1.isSome)
      && decide ([oj].length + ([] : List Keyword).length + (if ([] : List Keyword).isEmpty then 0 else 1) < 30)) = true := by rfl)
    (hline : (apos.endLine == p2.line) = true := by rfl) (hs : starEach [oj] X.env = (false, eval oj X.env) :: starEach [] X.env := by rfl) (hplain : (backTo p2 (starEach [] X.env)).any (·.1) = false := by rfl)
    (hw : swapsWith (.Call (.Attribute o "append" apos) [oj] [] p2) none pos.line X.env = pure false := by rfl) :
    SV X C W Ob O O' (.Expr (.Call (.Attribute o "append" apos) [oj] [] p2) pos) (appMD i j) := by
  refine (ps_expr (pe_bm PySem.F.plainAttrs_list PySem.F.slot_list_append PySem.F.type_list_append (mt_append : MtR X "list.append" rAppend) ho (pa_cons hj pa_nil hs) hbase hfew hline hs hplain) hw).imp fun De σ H ⟨ρ, Fs, er, q⟩ => ?_
  obtain ⟨d, h1, h2⟩ := get_sat (fin_of er q)
  cases d with
  | list ds =>
    obtain ⟨a, xs, Fx, hs1, hF, hH, r⟩ := er.at_lst h1
    refine ⟨.ref a, hs1, .inl ⟨rfl, xs, .inl (.inl hH)⟩, ?_⟩
    obtain ⟨d, g1, p⟩ := get_sat (fin_of er h2)
    obtain ⟨v, G, g2, rj, ndj, fr0, sej, lkj⟩ := er.out g1 hjO (of_decide_eq_false hlj)
    have erd := er.del (i := j)
    refine ⟨v, g2, a, xs, v, rfl, rfl, hH, ?_⟩
    by_cases hlen : ds.length < 16777216
    · rw [if_pos hlen] at p
      have hF' : (if i = j then [] else Fs i) = a :: Fx := by rw [if_neg hij]; exact hF
      refine ⟨len_ok (by rw [r.length]; exact hlen), Exists.elim (erd.upd (O' := O') (ds' := ds ++ [d]) hi (of_decide_eq_false hl) hs1 hF' hH (r.append (.cons rj .nil)) ?_ ?_ hO) fun Fs' er' => p _ _ Fs' er'⟩
      · have nd0 := (er.own i hi).1
        rw [hF] at nd0
        obtain ⟨n1, n2⟩ := List.nodup_cons.mp nd0
        rw [List.append_nil]
        have se : ∀ b ∈ G, b ∉ Fs i := fun b hb => by
          have := sej i b hb
          rw [if_neg hij] at this; exact this
        refine List.nodup_cons.mpr ⟨fun z => ?_, List.nodup_append.mpr ⟨n2, ndj, fun b hb c hc e => ?_⟩⟩
        · rcases List.mem_append.mp z with w | w
          · exact n1 w
          · exact se a w (by rw [hF]; exact List.mem_cons_self)
        · subst e
          exact se b hc (by rw [hF]; exact List.mem_cons_of_mem _ hb)
      · intro b hb
        rw [List.append_nil] at hb
        rcases List.mem_append.mp hb with w | w
        · exact .inl w
        · exact .inr ⟨fr0 b w, fun m z => sej m b w z, fun l hl z => lkj l hl b w z⟩
    · rw [if_neg hlen] at p; exact p.elim
  | _ => exact h2.elim
/-- a fresh thing at a place of an owned list -/
theorem ER.setAt {H H1 : Hp} {σ : L2.St} {ρ : Env} {Fs : Nat → List Addr} {K : PySem.W.Frag} {ds : List D} {a : Addr} {xs : List V} {Fx F1 : List Addr} {v : V} {d : D} {m : Nat} (er : ER K C O H σ ρ Fs) (er1 : ER K C O H1 σ ρ Fs) (hi : i ∈ O) (hl : i ∉ C.ls) (hO : ∀ m ∈ O', m ∈ O)
    (hs : σ[i]? = some (some (.ref a))) (hF : Fs i = a :: Fx) (hH : H1 a = some (.lst xs)) (r : RpL K H1 xs ds Fx) (rv : Rp K H1 v d F1) (nd1 : F1.Nodup) (fr1 : ∀ b ∈ F1, H b = none) :
    ∃ Fs', ER K C O' (L2.upd H1 a (.lst (xs.set m v))) σ (ρ.put i (.list (ds.set m d))) Fs' := by
  obtain ⟨F2, r2, m2, nd2⟩ := r.set rv m
  have nd0 := (er.own i hi).1
  rw [hF] at nd0
  obtain ⟨n1, n2⟩ := List.nodup_cons.mp nd0
  refine er1.upd hi hl hs hF hH r2 ?_ ?_ hO
  · refine List.nodup_cons.mpr ⟨fun z => ?_, nd2 (List.nodup_append.mpr ⟨n2, nd1, fun b hb c hc e => ?_⟩)⟩
    · rcases m2 a z with w | w
      · exact n1 w
      · exact er.nn i a (by rw [hF]; exact List.mem_cons_self) (fr1 a w)
    · subst e
      exact er.nn i b (by rw [hF]; exact List.mem_cons_of_mem _ hb) (fr1 b hc)
  · intro b hb
    rcases m2 b hb with w | w
    · exact .inl w
    · exact .inr ⟨er.ext.free (fr1 b w), fun j z => er.nn j b z (fr1 b w), fun l hl z => er.lkdom hl b z (fr1 b w)⟩
theorem sv_setIx (ho : PE X o (tVar i)) (hx : EV X C W O ix k' I) (he : EV X C W O e 0 F) (hi : i ∈ O := by decide) (hl : decide (i ∈ C.ls) = false := by rfl) (hO : ∀ m ∈ O', m ∈ O := by decide)
    (hs : swapsWithSole [.Subscript o ix p2] e pos.line X.env = pure false := by rfl) (hw : swappedStores [.Subscript o ix p2] e X.env = pure none := by rfl)
    (h1 : (assignEach [.Subscript o ix p2] X.env).map (·.2) = [assign (.Subscript o ix p2) X.env] := by rfl)
    (ha : ∀ v, assign (.Subscript o ix p2) X.env v = (do
      let ov ← holding [v] (eval o X.env)
      let iv ← holding [v, ov] (eval ix X.env)
      standAt p2
      holding [v, ov, iv] (setItem ov iv v)
      release [v, ov, iv] []) := by intro _; rfl) : SV X C W Ob O O' (.Assign [.Subscript o ix p2] e pos) (setIxD i I F) := by
  refine (ps_asg he (pg_sub ho hx set_list ha) hs hw h1).imp fun De σ H ⟨ρ, Fs, er, q⟩ => ?_
  refine tD.step er (fin_of er q) fun d v H1 F1 p er1 x1 r1 kd1 => ?_
  obtain ⟨d0, g1, p⟩ := get_sat (fin_of er1 p)
  cases d0 with
  | list ds =>
    obtain ⟨a, xs, Fx, hs1, hF, hH, r⟩ := er1.at_lst g1
    refine ⟨.ref a, hs1, ?_⟩
    refine tD.step er1 (fin_of er1 p) fun d2 v2 H2 F2 p2 er2 x2 r2 kd2 => ?_
    cases d2 with
    | int n =>
      cases r2
      have p2 : Fin X.K C W Ob O' De (match ixN ds.length n with
        | some j => .nx (ρ.put i (.list (ds.set j d)))
        | none => .stuck) := p2
      cases hj : ixN ds.length n with
      | none => rw [hj] at p2; exact p2.elim
      | some m =>
        rw [hj] at p2
        obtain ⟨a', xs', Fx', hs1', hF', hH', r'⟩ := er2.at_lst g1
        rw [hs1] at hs1'
        cases hs1'
        rw [hF] at hF'
        cases hF'
        obtain ⟨nd1, fr1⟩ := kd1.fr rfl
        obtain ⟨Fs', er'⟩ := ER.setAt (O' := O') (m := m) er er2 hi (of_decide_eq_false hl) hO hs1 hF hH' r' (r1.ex x2) nd1 fr1
        exact ⟨a, xs', n, m, rfl, rfl, hH', by rw [r'.length]; exact hj, p2 _ _ Fs' er'⟩
    | _ => exact p2.elim
  | _ => exact p.elim
/-- an operator in place, of immutable things -/
theorem sv_augIx {op : Operator} {g : D → D → R D} (ho : PE X o (tVar i)) (hx : EV X C W O ix k' I) (B : BinD X C.T (inplaceOp op) g) (he : EV X C W O e k F) (hi : i ∈ O := by decide) (hl : decide (i ∈ C.ls) = false := by rfl) (hO : ∀ m ∈ O', m ∈ O := by decide)
    (ha : ∀ ov iv new, augStore ix ov iv new = (do holding [new, ov, iv] (setItem ov iv new); release [new, ov, iv] []; pure .next) := by intros; rfl) :
    SV X C W Ob O O' (.AugAssign (.Subscript o ix p2) op e pos) (augIxD g i I F) := by
  obtain ⟨nox, rr, hop, hr⟩ := B
  refine (ps_augS ho hx get_list he hop set_list ha).imp fun De σ H ⟨ρ, Fs, er, q⟩ => ?_
  obtain ⟨d0, g1, p⟩ := get_sat (fin_of er q)
  cases d0 with
  | list ds =>
    obtain ⟨a, xs, Fx, hs1, hF, hH, r⟩ := er.at_lst g1
    refine ⟨.ref a, hs1, ?_⟩
    refine tD.step er (fin_of er p) fun d2 v2 H2 F2 p2 er2 x2 r2 kd2 => ?_
    cases d2 with
    | int n =>
      cases r2
      have p2 : Fin X.K C W Ob O' De (match ixN ds.length n with
        | some j => (match ds[j]? with
          | some o => RS.of (F ρ) ρ fun d => RS.of (g o d) ρ fun z => if imm z = true then .nx (ρ.put i (.list (ds.set j z))) else .stuck
          | none => .stuck)
        | none => .stuck) := p2
      cases hj : ixN ds.length n with
      | none => rw [hj] at p2; exact p2.elim
      | some m =>
        rw [hj] at p2
        dsimp only at p2
        cases hd : ds[m]? with
        | none => rw [hd] at p2; exact p2.elim
        | some d0 =>
          rw [hd] at p2
          have r := r.ex x2
          obtain ⟨v0, G0, e0, rv0, sb0⟩ := r.get hd
          have hH2 : H2 a = some (.lst xs) := x2.kept _ _ hH (fun _ z => by cases z)
          refine ⟨a, xs, n, v0, rfl, rfl, .inl (.inl hH2), by unfold atI; rw [r.length, hj]; exact e0, ?_⟩
          refine tD.step er2 (fin_of er2 p2) fun d3 v3 H3 F3 p3 er3 x3 r3 kd3 => ?_
          refine hr H3 v0 v3 d0 d3 G0 F3 _ (rv0.ex x3) r3 (((fin_of er3 p3).nox (nox _ _)).mono (fun z p4 v4 H4 F4 x4 r4 m4 => ?_) fun _ z => z)
          by_cases hz : imm z = true
          · rw [if_pos hz] at p4
            have eF := r4.imm hz
            subst eF
            have er4 := er3.ex x4
            obtain ⟨a', xs', Fx', hs1', hF', hH', r'⟩ := er4.at_lst g1
            rw [hs1] at hs1'
            cases hs1'
            rw [hF] at hF'
            cases hF'
            obtain ⟨Fs', er'⟩ := ER.setAt (O' := O') (m := m) er4 er4 hi (of_decide_eq_false hl) hO hs1 hF hH' r' r4 List.nodup_nil fun b hb => (nomatch hb)
            exact ⟨a, xs', n, m, rfl, rfl, hH', by rw [r'.length]; exact hj, p4 _ _ Fs' er'⟩
          · rw [if_neg hz] at p4; exact p4.elim
    | _ => exact p2.elim
  | _ => exact p.elim
theorem sv_aug {op : Operator} {g : D → D → R D} (hN : X.N.Nodup) (hi : X.N[i]? = some x) (hx : Loc X.env.scope x) (B : BinD X C.T (inplaceOp op) g) (he : EV X C W O e k F) (hO : ∀ m ∈ O', m ≠ i ∧ m ∈ O := by decide)
    (hf : X.fn x = true ∨ X.env.scope.names.lookup x = some .local := by first | exact .inl rfl | exact .inr rfl | assumption) : SV X C W Ob O O' (.AugAssign (.Name x p2) op e pos) (augD g i F) := by
  obtain ⟨nox, rr, hop, hr⟩ := B
  refine (ps_aug hN hi hx he hop hf).imp fun De σ H ⟨ρ, Fs, er, q⟩ => ?_
  obtain ⟨d0, g1, p⟩ := get_sat (fin_of er q)
  obtain ⟨v0, h0, r0⟩ := er.rep i d0 g1
  refine ⟨v0, h0, ?_⟩
  refine tD.step er (fin_of er p) fun d3 v3 H3 F3 p3 er3 x3 r3 kd3 => ?_
  refine hr H3 v0 v3 d0 d3 _ F3 _ (r0.ex x3) r3 (((fin_of er3 p3).nox (nox _ _)).mono (fun z p4 v4 H4 F4 x4 r4 m4 => ?_) fun _ z => z)
  by_cases hz : imm z = true
  · rw [if_pos hz] at p4
    have eF := r4.imm hz
    subst eF
    obtain ⟨Fs', er'⟩ := er3.put (O' := O') (k := 1) x4 r4 KdOk.nil (Nat.le_refl 1) fun j hj => .inr (hO j hj)
    exact p4 _ _ Fs' er'
  · rw [if_neg hz] at p4; exact p4.elim
def iaddD : D → D → R D
  | .int a, .int b => .ok (.int (a + b))
  | _, _ => .stuck
def isubD : D → D → R D
  | .int a, .int b => .ok (.int (a - b))
  | _, _ => .stuck
theorem bi_add {T : List Addr} : BinD X T (inplaceOp .Add) iaddD := b_int (opI0' iop_add) (fun x y => by unfold iaddD; split <;> first | exact noxO | exact noxS) fun dx dy P h => by
  cases dx <;> cases dy <;> first | exact False.elim h | exact ⟨_, _, rfl, rfl, trivial, h⟩
theorem bi_sub {T : List Addr} : BinD X T (inplaceOp .Sub) isubD := b_int (opI0' iop_sub) (fun x y => by unfold isubD; split <;> first | exact noxO | exact noxS) fun dx dy P h => by
  cases dx <;> cases dy <;> first | exact False.elim h | exact ⟨_, _, rfl, rfl, trivial, h⟩
end
end Pd
namespace Pd
open PySem PySem.Spec PyProof.Rows L2
/-! ### raise, try -/
/-- an exception class of the program, below ValueError -/
structure ExD (K : PySem.W.Frag) (mg : Str → Option Value) (x : Str) : Prop where
  gC : mg x = some (.ref (He.ga K x))
  q : PySem.W.excIn K (He.ga K x) He.veBase "ValueError.__new__" = true
  kC : PySem.W.keepIn K (.ref (He.ga K x)) = true
  s : PySem.W.subIn K (.ref (He.ga K x)) (.type "BaseException") = some true
  t : PySem.W.typeIn K (.ref (He.ga K x)) = some (.type "type")
def raiseD (x : Str) : Env → RS := .exc x
def quietD : RS → RS
  | .exc _ _ => .stuck
  | r => r
theorem fin_quiet {K : PySem.W.Frag} {C : Cc} {W : WX} {Ob O' : Own} {De : Ends} {r : RS} (h : Fin K C W Ob O' De (quietD r)) : Fin K C (fun _ _ _ _ => False) Ob O' De r := by
  cases r <;> first | exact h | exact False.elim h
/-- what a clause does with what the body ends in; tbl: which classes it takes -/
def catchD (tbl : List (Str × Bool)) (G : Env → RS) (r : RS) : RS := match r with
  | .exc c ρ => match tbl.lookup c with
    | some true => quietD (G ρ)
    | some false => .exc c ρ
    | none => .stuck
  | r => r
def tryD (B : Env → RS) (tbl : List (Str × Bool)) (G : Env → RS) : Env → RS := fun ρ => catchD tbl G (B ρ)
def catch2D (t1 : List (Str × Bool)) (G1 : Env → RS) (t2 : List (Str × Bool)) (G2 : Env → RS) (r : RS) : RS := match r with
  | .exc c ρ => match t1.lookup c with
    | some true => quietD (G1 ρ)
    | some false => (match t2.lookup c with
      | some true => quietD (G2 ρ)
      | some false => .exc c ρ
      | none => .stuck)
    | none => .stuck
  | r => r
def try2D (B : Env → RS) (t1 : List (Str × Bool)) (G1 : Env → RS) (t2 : List (Str × Bool)) (G2 : Env → RS) : Env → RS := fun ρ => catch2D t1 G1 t2 G2 (B ρ)
abbrev W0 : WX := fun _ _ _ _ => False
def Exm (K : PySem.W.Frag) (x : Str) (tbl : List (Str × Bool)) : Prop := ∀ p ∈ tbl, PySem.W.exmOne K (.ref (He.ga K p.1)) (.ref (He.ga K x)) = some p.2
theorem lookup_mem' {c : Str} {b : Bool} : ∀ {l : List (Str × Bool)}, l.lookup c = some b → (c, b) ∈ l
  | [], h => by cases h
  | (a, u) :: r, h => by
    have h2 : (match c == a with | true => some u | false => r.lookup c) = some b := h
    cases q : (c == a) with
    | true =>
      rw [q] at h2
      have e : u = b := Option.some.inj h2
      rw [beq_iff_eq.mp q, e]
      exact List.mem_cons_self
    | false =>
      rw [q] at h2
      exact List.mem_cons_of_mem _ (lookup_mem' h2)
section
variable {X : Cx} {C : Cc} {W : WX} {Ob O O1 O' : Own} {x x2 m : Str} {j : Nat} {p p2 pos pos' np np2 pos2 : Pos} {B G G2 : Env → RS} {body suite suite2 : List Stmt} {b₀ b₂ : Stmt} {tbl tbl2 : List (Str × Bool)}
theorem sv_raise (hc : X.calm = true) (tk : Takes X W) (E : ExD X.K X.mg x) (hg : Gl X x) (hdb : (x == ("__debug__" : Str)) = false := by decide) : SV X C W Ob O O' (.Raise (some (.Call (.Name x p) [.Constant (.str m) j p2] [] pos)) none pos') (raiseD x) :=
  (ps_raise hc tk (pmk_own PySem.F.excBase_ValueError E.q E.gC E.kC (raises_own E.s E.t) hg hdb)).imp fun De σ H ⟨ρ, Fs, er, q⟩ => q σ H Fs (er.less fun i hi => (nomatch hi))
theorem sv_try (hs : X.stack = X.env :: X.outer) (hf : X.env.frame = some X.env.locals) (hc : Names X x (.ref (He.ga X.K x))) (tk : Takes X W) (ht : Exm X.K x tbl)
    (hb : ∀ (W : WX) (pn : List (Addr × Obj)) (xe : Value → Shared → Prop), Takes (X.tr pn xe) W → PassesOwn (model X.prog X.w) X.A X.env xe → SVs (X.tr pn xe) C W Ob O O1 body B)
    (hsu : ∀ (a : Addr) (pn : List (Addr × Obj)), SVs (X.suite a pn) C W0 Ob [] O' (b₀ :: suite) G) (hO : ∀ i ∈ O', i ∈ O1 := by decide) :
    SV X C W Ob O O' (.Try body [.ExceptHandler (some (.Name x np)) none (b₀ :: suite) pos'] [] [] pos) (tryD B tbl G) :=
  (ps_try_only (tb := fun W => sD X.K C W Ob O O1 B) (ts := fun _ _ _ => sD X.K C W0 Ob [] O' G) hs hf hc tk hb fun a oe cls d pn _ _ => hsu a ((a, oe) :: pn)).imp fun De σ H ⟨ρ, Fs, er, q⟩ => by
    refine ⟨ρ, Fs, er, ?_⟩
    unfold tryD at q
    generalize B ρ = r at q
    cases r with
    | nx ρ' => exact fun σ' H' Fs' er' => q σ' H' Fs' (er'.less hO)
    | exc c ρ' =>
      intro σ' H' Fs' er'
      unfold catchD at q
      dsimp only at q
      cases e : tbl.lookup c with
      | none => rw [e] at q; exact q.elim
      | some b =>
        rw [e] at q
        refine ⟨b, ht _ (lookup_mem' e), fun hb a _ => ?_, fun hb => ?_⟩
        · subst hb
          exact ⟨ρ', Fs', er', fin_quiet q⟩
        · subst hb
          exact q σ' H' Fs' er'
    | _ => exact q
theorem sv_try2 (hs : X.stack = X.env :: X.outer) (hf : X.env.frame = some X.env.locals) (hc : Names X x (.ref (He.ga X.K x))) (hc2 : Names X x2 (.ref (He.ga X.K x2))) (tk : Takes X W) (ht : Exm X.K x tbl) (ht2 : Exm X.K x2 tbl2)
    (hb : ∀ (W : WX) (pn : List (Addr × Obj)) (xe : Value → Shared → Prop), Takes (X.tr pn xe) W → PassesOwn (model X.prog X.w) X.A X.env xe → SVs (X.tr pn xe) C W Ob O O1 body B)
    (hsu : ∀ (a : Addr) (pn : List (Addr × Obj)), SVs (X.suite a pn) C W0 Ob [] O' (b₀ :: suite) G) (hsu2 : ∀ (a : Addr) (pn : List (Addr × Obj)), SVs (X.suite a pn) C W0 Ob [] O' (b₂ :: suite2) G2) (hO : ∀ i ∈ O', i ∈ O1 := by decide) :
    SV X C W Ob O O' (.Try body [.ExceptHandler (some (.Name x np)) none (b₀ :: suite) pos', .ExceptHandler (some (.Name x2 np2)) none (b₂ :: suite2) pos2] [] [] pos) (try2D B tbl G tbl2 G2) :=
  (ps_try_many (tb := fun W => sD X.K C W Ob O O1 B) hs hf tk hb (.cons (ts := fun _ _ _ => sD X.K C W0 Ob [] O' G) hc (fun a oe cls d pn _ _ => hsu a ((a, oe) :: pn)) (.cons (ts := fun _ _ _ => sD X.K C W0 Ob [] O' G2) hc2 (fun a oe cls d pn _ _ => hsu2 a ((a, oe) :: pn)) .nil))).imp fun De σ H ⟨ρ, Fs, er, q⟩ => by
    refine ⟨ρ, Fs, er, ?_⟩
    unfold try2D at q
    generalize B ρ = r at q
    cases r with
    | nx ρ' => exact fun σ' H' Fs' er' => q σ' H' Fs' (er'.less hO)
    | exc c ρ' =>
      intro σ' H' Fs' er'
      unfold catch2D at q
      dsimp only at q
      cases e : tbl.lookup c with
      | none => rw [e] at q; exact q.elim
      | some b =>
        rw [e] at q
        refine ⟨b, ht _ (lookup_mem' e), fun hb a _ => ?_, fun hb => ?_⟩
        · subst hb
          exact ⟨ρ', Fs', er', fin_quiet q⟩
        · subst hb
          dsimp only at q
          cases e2 : tbl2.lookup c with
          | none => rw [e2] at q; exact q.elim
          | some b =>
            rw [e2] at q
            refine ⟨b, ht2 _ (lookup_mem' e2), fun hb a _ => ?_, fun hb => ?_⟩
            · subst hb
              exact ⟨ρ', Fs', er', fin_quiet q⟩
            · subst hb
              exact q σ' H' Fs' er'
    | _ => exact q
end
/-! ### calls of the program's own defs -/
def spD (K : PySem.W.Frag) (T : List Addr) (n : Nat) (F : List D → R D) : Sp := fun vs H Q E => vs.length = n ∧ ∃ ds FA, RpL K H vs ds FA ∧ (∀ P ∈ T, GxR.TabG H P) ∧
  Sat (F ds) (fun d => ∀ v H' F', Ex T H H' → Rp K H' v d F' → F'.Nodup → (∀ b ∈ F', H b = none) → Q v H') (fun c => ∀ H', Ex T H H' → E (.ref (He.ga K c)) none H')
/-- the def x does F -/
structure FD (P : Program) (w : World) (K : PySem.W.Frag) (mg : Str → Option Value) (base : Heap) (T : List Addr) (k : Nat) (x : Str) (n : Nat) (F : List D → R D) : Prop where
  ex : ∃ f fd ps, FnOk P w K mg base (L2.CX P w) k f fd ps (spD K T n F) ∧ mg x = some (.ref f) ∧ PySem.W.keepIn K (.ref f) = true ∧ Binds K fd ps []
def eCall (F : List D → R D) (L : Env → R (List D)) : EF := fun ρ => (L ρ).bind F
section
variable {X : Cx} {C : Cc} {W : WX} {O : Own} {x : Str} {e : Expr} {es : List Expr} {k kk : Nat} {L : Env → R (List D)} {F : List D → R D} {p pos : Pos}
theorem ev_call (h : FD X.prog X.w X.K X.mg X.base C.T k x (e :: es).length F) (hr : Room k X.A) (hg : Gl X x) (tk : Takes X W) (ha : AVn X C W O (e :: es) kk L)
    (hdb : (x == ("__debug__" : Str)) = false := by decide) (he : starEach (e :: es) X.env = (false, eval e X.env) :: starEach es X.env := by rfl) (hpl : (backTo pos (starEach es X.env)).any (·.1) = false := by rfl) :
    EV X C W O (.Call (.Name x p) (e :: es) [] pos) 0 (eCall F L) := by
  obtain ⟨f, fd, ps, Fk, hm, hk, hb⟩ := h
  refine (pe_callS (E := WE W) Fk hr hg hm hk hb (passAt tk) ha.av hdb he hpl).imp fun σ H Q ⟨ρ, Fs, er, q⟩ => ?_
  refine tL.step er (sat_n (σ := σ) (H := H) ha (Sat.bind q)) fun ds vs H1 F1 ⟨hl, p⟩ er1 x1 r1 kd1 => ?_
  exact ⟨by rw [r1.length, hl], ds, F1, r1, er1.tab, p.mono (fun d p v H' F' x r nd fr => p v H' F' (x1.trans x) r ⟨fun _ => ⟨nd, fun b hb => x1.free (fr b hb)⟩, fun z => by omega⟩) fun c w H' x => w H' (x1.trans x)⟩
end
/-- the end of a def's body -/
def finD : RS → R D
  | .nx _ => .ok .none
  | .rt d => .ok d
  | .exc c _ => .exc c
  | _ => .stuck
def callD (n : Nat) (B : Env → RS) : List D → R D := fun ds => finD (B (ds.map some ++ List.replicate (n - ds.length) none))
theorem start_er {K : PySem.W.Frag} {H : Hp} : ∀ {vs : List V} {ds : List D} {F : List Addr}, RpL K H vs ds F → ∃ Fs : Nat → List Addr, (∀ i d, ds[i]? = some d → ∃ v, vs[i]? = some v ∧ Rp K H v d (Fs i)) ∧ ∀ i, ds[i]? = none → Fs i = []
  | _, _, _, .nil => ⟨fun _ => [], fun i d h => by simp at h, fun _ _ => rfl⟩
  | _, _, _, @RpL.cons _ _ v vs d ds F G r t => by
    obtain ⟨Fs, h1, h2⟩ := start_er t
    refine ⟨fun i => match i with
      | 0 => F
      | i + 1 => Fs i, fun i d' h => ?_, fun i h => ?_⟩
    · cases i with
      | zero => simp at h; subst h; exact ⟨v, rfl, r⟩
      | succ i => exact h1 i d' (by simpa using h)
    · cases i with
      | zero => simp at h
      | succ i => exact h2 i (by simpa using h)
theorem er_start {K : PySem.W.Frag} {T : List Addr} {H : Hp} {N : List Str} {vs : List V} {ds : List D} {FA : List Addr} (r : RpL K H vs ds FA) (t : ∀ P ∈ T, GxR.TabG H P) : ∃ Fs, ER K ⟨T, H, [], []⟩ [] H (L2.start N vs) (ds.map some ++ List.replicate (N.length - ds.length) none) Fs := by
  obtain ⟨Fs, h1, h2⟩ := start_er r
  have hl := r.length
  have key : ∀ i d, (ds.map some ++ List.replicate (N.length - ds.length) none)[i]? = some (some d) → ds[i]? = some d := fun i d h => by
    by_cases hi : i < ds.length
    · rw [List.getElem?_append_left (by simpa using hi), List.getElem?_map, List.getElem?_eq_getElem hi] at h
      rw [List.getElem?_eq_getElem hi]
      simpa using h
    · rw [List.getElem?_append_right (by simp; omega), List.getElem?_replicate] at h
      split at h <;> cases h
  refine ⟨Fs, by simp [L2.start, hl], fun i d h => ?_, fun i h => ?_, fun i hi => (nomatch hi), t, .refl, fun l hm => (nomatch hm)⟩
  · obtain ⟨v, e, r'⟩ := h1 i d (key i d h)
    refine ⟨v, ?_, r'⟩
    have hi := (List.getElem?_eq_some_iff.mp e).1
    unfold L2.start
    rw [List.getElem?_append_left (by simpa using hi), List.getElem?_map, e]
    rfl
  · cases e : ds[i]? with
    | none => exact h2 i e
    | some d =>
      have hi := (List.getElem?_eq_some_iff.mp e).1
      exact absurd (show (ds.map some ++ List.replicate (N.length - ds.length) none)[i]? = some (some d) by rw [List.getElem?_append_left (by simpa using hi), List.getElem?_map, e]; rfl) (h d)
/-- a def of the program: its body does B -/
theorem fd_fn {P : Program} {w : World} {K : PySem.W.Frag} {mg : Str → Option Value} {base : Heap} {T : List Addr} {k : Nat} {x qual : Str} {params : Arguments} {body : List Stmt} {scope : Scope} {dvs : List V} {kws : List (Str × V)} {at_ : Str × Option Str} {fd : FuncData} {N ps : List Str} {B : Env → RS}
    (F : FunD K x qual params body scope dvs kws (He.fAd K at_) fd) (S : FnScope N ps scope)
    (hbody : ∀ (A : Around) (outer : List PySem.Env) (s : Shared) (H : Hp) (E : XK), Room k (A.deeper (envOfC qual scope s.heap.objs.size (He.fAd K at_) (.ref (He.codeOf K at_)))) →
      SVs (cxOf (L2.CX P w) P w K mg base N qual scope (He.fAd K at_) (.ref (He.codeOf K at_)) A outer s H E) ⟨T, H, [], []⟩ (fun cls d _ H' => E cls d H') [] [] [] body B) : FnOk P w K mg base (L2.CX P w) (k + 1) (He.fAd K at_) fd ps (spD K T ps.length (callD N.length B)) := by
  obtain ⟨oc, od, dV, kV, doc, pm, an, cdv, ct, osl, rfl, lk, hcd, _, _⟩ := F.ex
  obtain ⟨c, rfl⟩ := He.codeIn_ref hcd
  have hc : He.codeOf K at_ = c := He.codeOf_eq lk rfl
  refine fn_of lk hcd S (fun vs H Q E h => h.1) fun A outer s H vs Q E hr h => ?_
  obtain ⟨hl, ds, FA, r, t, q⟩ := h
  rw [← hc] at hr ⊢
  refine ⟨_, hbody A outer s H E hr, ?_⟩
  obtain ⟨Fs, er⟩ := er_start (N := N) r t
  refine ⟨_, Fs, er, ?_⟩
  unfold callD at q
  generalize B _ = rs at q
  cases rs with
  | nx ρ' => exact fun σ' H' Fs' er' => q .non H' [] er'.ext .non List.nodup_nil fun b hb => (nomatch hb)
  | rt d => exact fun v H' F' x _ r nd fr => q v H' F' x r nd fr
  | exc c ρ' => exact fun σ' H' Fs' er' => q H' er'.ext
  | _ => exact q.elim
theorem fd_of {P : Program} {w : World} {K : PySem.W.Frag} {mg : Str → Option Value} {base : Heap} {T : List Addr} {k : Nat} {x qual : Str} {params : Arguments} {body : List Stmt} {scope : Scope} {at_ : Str × Option Str} {fd : FuncData} {N ps : List Str} {B : Env → RS}
    (F : FunD K x qual params body scope [] [] (He.fAd K at_) fd) (S : FnScope N ps scope) (gm : mg x = some (.ref (He.fAd K at_))) (hb : ∀ (kV doc pm : Value) (an : Option Addr) (cdv ct : Value) (us : List Value), us.length = ps.length → bindArgs (PySem.W.fnOf x qual params body scope .none kV doc pm an cdv ct) ⟨us, []⟩ = pure (ps.zip us))
    (hbody : ∀ (A : Around) (outer : List PySem.Env) (s : Shared) (H : Hp) (E : XK), Room k (A.deeper (envOfC qual scope s.heap.objs.size (He.fAd K at_) (.ref (He.codeOf K at_)))) →
      SVs (cxOf (L2.CX P w) P w K mg base N qual scope (He.fAd K at_) (.ref (He.codeOf K at_)) A outer s H E) ⟨T, H, [], []⟩ (fun cls d _ H' => E cls d H') [] [] [] body B) : FD P w K mg base T (k + 1) x ps.length (callD N.length B) :=
  ⟨_, fd, ps, fd_fn F S hbody, gm, F.kp, F.bindsN hb⟩
theorem FD.mono {P : Program} {w : World} {K : PySem.W.Frag} {mg : Str → Option Value} {base : Heap} {T : List Addr} {k k' n : Nat} {x : Str} {F : List D → R D} (h : FD P w K mg base T k x n F) (hk : k ≤ k') : FD P w K mg base T k' x n F := by
  obtain ⟨f, fd, ps, h1, h2⟩ := h
  exact ⟨f, fd, ps, h1.mono hk, h2⟩
end Pd
namespace Pd
open PySem PySem.Spec PyProof.Rows L2
/-! ### list comprehensions -/
def wipeD (ρ : Env) : List Nat → Env
  | [] => ρ
  | v :: vs => (wipeD ρ vs).del v
/-- no exception comes out of a comprehension here -/
def still {α : Type} : R α → R α
  | .ok a => .ok a
  | _ => .stuck
def lcGo (g : Env → D → R Env) (tt : Env → R Bool) (te : EF) (ρ : Env) : List D → R (List D)
  | [] => .ok []
  | d :: ds => (still ((g ρ d).bind fun ρ1 => (tt ρ1).bind fun b => if b = true then (te ρ1).bind fun y => .ok (some y) else .ok none)).bind fun o => (lcGo g tt te ρ ds).bind fun ys => .ok (o.toList ++ ys)
def eLc (I : Env → R (List D)) (g : Env → D → R Env) (tt : Env → R Bool) (te : EF) (vs : List Nat) : EF := fun ρ => (I ρ).bind fun ds => (lcGo g tt te (wipeD ρ vs) ds).bind fun ys => if ys.length < 16777216 then .ok (.list ys) else .stuck
def bYes : Env → R Bool := fun _ => .ok true
theorem still_sat {α : Type} {r : R α} {P : α → Prop} {E : Str → Prop} (h : Sat (still r) P E) : Sat r P (fun _ => False) := by
  cases r <;> exact h
theorem lcGo_nox {g : Env → D → R Env} {tt : Env → R Bool} {te : EF} {ρ : Env} : ∀ ds, NoX (lcGo g tt te ρ ds)
  | [] => noxO
  | d :: ds => by
    unfold lcGo
    refine bind_nox (fun c e => ?_) fun o => bind_nox (lcGo_nox ds) fun ys => noxO
    unfold still at e
    split at e <;> cases e
section
variable {K : PySem.W.Frag} {C : Cc} {O : Own} {H H' : Hp} {σ : L2.St} {ρ : Env} {Fs : Nat → List Addr}
/-- the slots vs forgotten -/
theorem ER.wipe (er : ER K C O H σ ρ Fs) : ∀ vs : List Nat, ∃ Fs', ER K C O H (L2.wipe σ vs) (wipeD ρ vs) Fs' ∧ ∀ j, j ∉ vs → Fs' j = Fs j
  | [] => ⟨Fs, er, fun _ _ => rfl⟩
  | v :: vs => by
    obtain ⟨Fs1, er1, k1⟩ := ER.wipe er vs
    have er2 := er1.del (i := v)
    refine ⟨_, ⟨?_, fun i d h => ?_, er2.emp, er2.own, er2.tab, er2.ext, er2.lks⟩, fun j hj => ?_⟩
    · show (List.set (L2.wipe σ vs) v none).length = _
      rw [List.length_set]; exact er2.len
    · obtain ⟨u, h1, r⟩ := er2.rep i d h
      refine ⟨u, ?_, r⟩
      show (List.set (L2.wipe σ vs) v none)[i]? = _
      by_cases e : i = v
      · subst e
        exfalso
        unfold wipeD Env.del at h
        by_cases hl : i < (wipeD ρ vs).length
        · rw [List.getElem?_set_self hl] at h; cases h
        · rw [List.getElem?_eq_none (by simpa using hl)] at h; cases h
      · rw [List.getElem?_set_ne (Ne.symm e)]; exact h1
    · have hj1 : j ≠ v := fun z => hj (z ▸ List.mem_cons_self)
      show (if j = v then [] else Fs1 j) = _
      rw [if_neg hj1]
      exact k1 j fun z => hj (List.mem_cons_of_mem _ z)
theorem wipe_same {is vs : List Nat} {σ σ' : L2.St} (h : ∀ i ∈ is, i ∈ vs) (s : SameO is (L2.wipe σ vs) σ') : L2.wipe σ' vs = L2.wipe σ vs := by
  have key : ∀ (vs : List Nat) (σ : L2.St) (j : Nat), (L2.wipe σ vs)[j]? = if j ∈ vs ∧ j < σ.length then some none else σ[j]? := by
    intro vs
    induction vs with
    | nil => intro σ j; simp [L2.wipe]
    | cons v vs ih =>
      intro σ j
      show (List.set (L2.wipe σ vs) v none)[j]? = _
      by_cases e : j = v
      · subst e
        by_cases hl : j < σ.length
        · rw [List.getElem?_set_self (by rw [wipe_length]; exact hl), if_pos ⟨List.mem_cons_self, hl⟩]
        · rw [List.getElem?_eq_none (by rw [List.length_set, wipe_length]; omega), if_neg (fun z => hl z.2), List.getElem?_eq_none (by omega)]
      · rw [List.getElem?_set_ne (Ne.symm e), ih]
        simp [e]
  apply List.ext_getElem?
  intro j
  rw [key vs σ' j]
  by_cases hj : j ∈ vs
  · by_cases hl : j < σ.length
    · have hl' : j < σ'.length := by rw [s.1, wipe_length]; exact hl
      rw [if_pos ⟨hj, hl'⟩, key, if_pos ⟨hj, hl⟩]
    · have hl' : ¬ j < σ'.length := by rw [s.1, wipe_length]; exact hl
      rw [if_neg (fun z => hl' z.2), key, if_neg (fun z => hl z.2), List.getElem?_eq_none (by omega), List.getElem?_eq_none (by omega)]
  · rw [if_neg (fun z => hj z.1)]
    exact s.2 j fun z => hj (h j z)
/-- a list of no slot is written -/
theorem ER.free_upd {p : Addr} {xs : List V} (er : ER K C O H σ ρ Fs) (h0 : C.H0 p = none) (hn : ∀ j, p ∉ Fs j) (hl : ∀ l ∈ C.lk, p ∉ l.F) (hH : H p = none ∨ ∃ ys, H p = some (.lst ys)) : ER K C O (L2.upd H p (.lst xs)) σ ρ Fs := by
  have nt : ∀ b zs, H b = some (.tup zs) → b ≠ p := fun b zs e z => by
    subst z
    rcases hH with w | ⟨ys, w⟩ <;> rw [e] at w <;> cases w
  have nf : ∀ b o u, H b = some (.frz o u) → b ≠ p := fun b o u e z => by
    subst z
    rcases hH with w | ⟨ys, w⟩ <;> rw [e] at w <;> cases w
  have nb : ∀ b ps, H b = some (.tbl ps) → b ≠ p := fun b ps e z => by
    subst z
    rcases hH with w | ⟨ys, w⟩ <;> rw [e] at w <;> cases w
  have kp : ∀ S : List Addr, p ∉ S → Kp H (L2.upd H p (.lst xs)) S := fun S h => ⟨fun b ys e => by rw [upd_ne (nt _ _ e)]; exact e, fun b o u e => by rw [upd_ne (nf _ _ _ e)]; exact e, fun b hb => upd_ne fun z => h (z ▸ hb)⟩
  refine ⟨er.len, fun i d h => ?_, er.emp, er.own, fun P hP => ?_, ⟨fun b o e n => ?_, fun b e => ?_, fun t P hP => ?_⟩, fun l hm => ?_⟩
  · obtain ⟨v, h1, r⟩ := er.rep i d h
    exact ⟨v, h1, r.kp (kp _ (hn i))⟩
  · obtain ⟨ps, h1, h2⟩ := er.tab P hP
    exact ⟨ps, by rw [upd_ne (nb _ _ h1)]; exact h1, h2⟩
  · rw [upd_ne fun z => by rw [z, h0] at e; cases e]
    exact er.ext.kept b o e n
  · rw [upd_ne fun z => by rw [z, h0] at e; exact e rfl]
    exact er.ext.dom b e
  · obtain ⟨ps, h1, h2⟩ := er.tab P hP
    exact ⟨ps, by rw [upd_ne (nb _ _ h1)]; exact h1, h2⟩
  · obtain ⟨st, k, dom, sep⟩ := er.lks l hm
    exact ⟨st, k.trans (kp _ (hl l hm)), dom, sep⟩
/-- .. from H1 on, which had nothing there -/
theorem Ex.free_upd {T : List Addr} {H1 H : Hp} {p : Addr} {xs : List V} (x : Ex T H1 H) (h1 : H1 p = none) (hH : H p = none ∨ ∃ ys, H p = some (.lst ys)) : Ex T H1 (L2.upd H p (.lst xs)) := by
  refine ⟨fun b o e n => ?_, fun b e => ?_, fun t P hP => ?_⟩
  · rw [upd_ne fun z => by rw [z, h1] at e; cases e]
    exact x.kept b o e n
  · rw [upd_ne fun z => by rw [z, h1] at e; exact e rfl]
    exact x.dom b e
  · obtain ⟨ps, e1, e2⟩ := x.tab t P hP
    refine ⟨ps, ?_, e2⟩
    rw [upd_ne fun z => by
      subst z
      rcases hH with w | ⟨ys, w⟩ <;> rw [e1] at w <;> cases w]
    exact e1
end
/-- a comprehension's tests -/
abbrev TTs (X : Cx) (C : Cc) (W : WX) (O : Own) (ifs : List Expr) (F : Env → R Bool) : Prop := PTs X ifs (Pd.tB X.K C W O F)
theorem tts_nil {X : Cx} {C : Cc} {W : WX} {O : Own} : TTs X C W O [] bYes := ⟨fun pins s σ H Q I ⟨ρ, Fs, er, q⟩ => (pts_nil (X := X)).run pins s σ H Q I (q H .refl)⟩
theorem tts_one {X : Cx} {C : Cc} {W : WX} {O : Own} {c : Expr} {F : Env → R Bool} (h : TV X C W O c F) : TTs X C W O [c] F := pts_one h
section
variable {X : Cx} {C : Cc} {W : WX} {O : Own} {elt tg iter : Expr} {ifs : List Expr} {scope : Scope} {own : List (Str × Nat)} {pos : Pos} {I : Env → R (List D)} {g : Env → D → R Env} {tt : Env → R Bool} {te : EF} {is : List Nat} {so : Option Nat}
/-- the reading of a comprehension's turns -/
theorem lc_read (ng : ∀ ρ d, NoX (g ρ d)) (his : ∀ i ∈ is, i ∈ own.map (·.2)) (σ : L2.St) (H : Hp) (Q : VK) (h : tD X.K C W O 0 (eLc I g tt te (own.map (·.2))) σ H Q) :
    tLc (tI X.K C W O so I) (tG X.K O is g) (fun σ H Q => ∃ l, Pd.tB X.K (C.lock l so) W0 O tt σ H Q) (fun σ H Q => ∃ l, tD X.K (C.lock l so) W0 O 0 te σ H Q) (own.map (·.2)) σ H Q := by
  obtain ⟨ρ, Fs, er, q⟩ := h
  refine ⟨ρ, Fs, er, (Sat.bind q).mono (fun ds q J H1 l x1 it nw => ?_) fun _ z => z⟩
  intro p hp
  have er1 := (er.ex x1).lock nw
  have hls : ∀ m ∈ C.lk, ∀ i, m.so = some i → i ∈ C.ls := fun m hm => (er.lks m hm).st
  have h0p : C.H0 p = none := er1.ext.free hp
  have hFp : ∀ j, p ∉ Fs j := fun j z => er1.nn j p z hp
  have hlp : ∀ m ∈ (C.lock l so).lk, p ∉ m.F := fun m hm z => er1.lkdom hm p z hp
  have q := (Sat.bind q).nox (lcGo_nox _)
  refine ⟨fun i m H2 => m + i = ds.length ∧ ∃ acc es F, H2 p = some (.lst acc) ∧ RpL X.K H2 acc es F ∧ F.Nodup ∧ (∀ b ∈ F, H1 b = none) ∧ p ∉ F ∧ ER X.K (C.lock l so) O H2 σ ρ Fs ∧ Ex C.T H1 H2 ∧
      Sat (lcGo g tt te (wipeD ρ (own.map (·.2))) (ds.drop i)) (fun ys => (es ++ ys).length < 16777216 ∧ ∀ v H' F', Ex C.T H H' → Rp X.K H' v (.list (es ++ ys)) F' → KdOk 0 O H Fs F' → Q v H') (fun _ => False),
    ⟨ds.length, rfl, [], [], [], upd_same, .nil, List.nodup_nil, (fun b hb => (nomatch hb)), (fun hb => (nomatch hb)), er1.free_upd h0p hFp hlp (.inl hp), Ex.new hp, q.mono (fun ys w => ?_) fun _ z => z⟩, ?_⟩
  · by_cases hl : ys.length < 16777216
    · rw [if_pos hl] at w
      exact ⟨hl, w⟩
    · rw [if_neg hl] at w; exact w.elim
  · rintro i m H2 ⟨hm, acc, es, F, hA, ra, nd, fr, pF, er2, x2, q2⟩
    have kp : Kp l.HG H2 l.F := (er2.lks l List.mem_cons_self).kp
    by_cases hlt : i < ds.length
    · have e1 : ds.drop i = ds[i] :: ds.drop (i + 1) := List.drop_eq_getElem_cons hlt
      rw [e1] at q2
      have q2 := still_sat (Sat.bind q2)
      refine .inr ⟨it.go i H2 kp hlt, fun H3 => ∃ acc es F, H3 p = some (.lst acc) ∧ RpL X.K H3 acc es F ∧ F.Nodup ∧ (∀ b ∈ F, H1 b = none) ∧ p ∉ F ∧ ER X.K (C.lock l so) O H3 σ ρ Fs ∧ Ex C.T H1 H3 ∧
        Sat (lcGo g tt te (wipeD ρ (own.map (·.2))) (ds.drop (i + 1))) (fun ys => (es ++ ys).length < 16777216 ∧ ∀ v H' F', Ex C.T H H' → Rp X.K H' v (.list (es ++ ys)) F' → KdOk 0 O H Fs F' → Q v H') (fun _ => False), fun H' h => ⟨m - 1, by omega, by omega, h⟩, fun v H3 y => ?_⟩
      obtain ⟨x3, G, r3, g3⟩ := it.yld i H2 v H3 ds[i] kp (List.getElem?_eq_getElem hlt) y
      have er3 := er2.ex x3
      obtain ⟨Fw, erw, kw⟩ := er3.wipe (own.map (·.2))
      have owns : ∀ j ∈ O, ∀ b ∈ Fw j, b ∈ Fs j := fun j hj b hb => by
        by_cases hv : j ∈ own.map (·.2)
        · exfalso
          have e : Fw j = [] := by
            refine erw.emp j fun d hd => ?_
            obtain ⟨u, h1, _⟩ := erw.rep j d hd
            obtain ⟨_, h2⟩ := wipe_some h1
            exact h2 hv
          rw [e] at hb; cases hb
        · rw [kw j hv] at hb; exact hb
      refine ⟨C.lock l so, _, Fw, ds[i], G, erw, r3, fun j hj b hb z => ?_, (Sat.bind q2).mono (fun ρ4 p4 σ4 Fs4 er4 k4 s4 => ?_) fun _ z => z⟩
      · have hb := owns j hj b hb
        rcases g3 b z with ⟨h0, h1⟩ | h1
        · exact (er2.lks l List.mem_cons_self).sep j hj (by rw [h0]; intro q; cases q) b hb h1
        · exact er2.nn j b hb h1
      · refine ⟨wipe_same his s4, l, ρ4, Fs4, er4, (Sat.bind p4).mono (fun b p5 H5 x5 => ?_) fun _ z => z.elim⟩
        have x25 := x3.trans x5
        have hA5 : H5 p = some (.lst acc) := x25.kept _ _ hA (fun _ z => by cases z)
        have er5 := er2.ex x25
        cases b with
        | false =>
          exact ite_ff ⟨acc, es, F, hA5, ra.ex x25, nd, fr, pF, er5, x2.trans x25, (Sat.bind p5).mono (fun ys w => w) fun _ z => z⟩
        | true =>
          rw [if_pos rfl] at p5
          refine ite_tt ⟨l, ρ4, Fs4, er4.ex x5, (Sat.bind p5).mono (fun y p6 v6 H6 F6 x6 r6 kd6 => ?_) fun _ z => z.elim⟩
          have x26 := x25.trans x6
          have hA6 : H6 p = some (.lst acc) := x26.kept _ _ hA (fun _ z => by cases z)
          have er6 := er2.ex x26
          have ra6 := ra.ex x26
          obtain ⟨nd6, fr6⟩ := kd6.fr rfl
          have nF : ∀ b ∈ F6, b ∉ F := fun b hb z => by
            obtain ⟨o, e, _⟩ := (ra.ex x25).dom b z
            have := fr6 b hb
            rw [e] at this; cases this
          have np : p ∉ F6 := fun z => by
            have := fr6 p z
            rw [hA5] at this; cases this
          have p6 : Sat (lcGo g tt te (wipeD ρ (own.map (·.2))) (ds.drop (i + 1))) _ _ := Sat.bind p6
          have hlen : acc.length < sizeLine := by
            rw [ra.length]
            cases e : lcGo g tt te (wipeD ρ (own.map (·.2))) (ds.drop (i + 1)) with
            | ok ys =>
              rw [e] at p6
              have := p6.1
              simp only [List.length_append, Option.toList, List.length_cons] at this
              exact len_ok (by omega)
            | exc c => rw [e] at p6; exact p6.elim
            | stuck => rw [e] at p6; exact p6.elim
          have kp6 : Kp H6 (L2.upd H6 p (.lst (acc ++ [v6]))) (F ++ (F6 ++ [])) := by
            refine ⟨fun b ys e => ?_, fun b o u e => ?_, fun b hb => upd_ne fun z => ?_⟩
            · rw [upd_ne fun z => by rw [z, hA6] at e; cases e]; exact e
            · rw [upd_ne fun z => by rw [z, hA6] at e; cases e]; exact e
            · subst z
              rcases List.mem_append.mp hb with w | w
              · exact pF w
              · exact np (by simpa using w)
          refine ⟨acc, hA6, hlen, acc ++ [v6], es ++ [y], F ++ (F6 ++ []), upd_same, (ra6.append (.cons r6 .nil)).kp kp6, ?_, fun b hb => ?_, fun z => ?_, er6.free_upd h0p hFp hlp (.inr ⟨_, hA6⟩), (x2.trans x26).free_upd hp (.inr ⟨_, hA6⟩), ?_⟩
          · rw [List.append_nil]
            exact List.nodup_append.mpr ⟨nd, nd6, fun b hb c hc e => nF c hc (e ▸ hb)⟩
          · rw [List.append_nil] at hb
            rcases List.mem_append.mp hb with w | w
            · exact fr b w
            · exact (x2.trans x25).free (fr6 b w)
          · rw [List.append_nil] at z
            rcases List.mem_append.mp z with w | w
            · exact pF w
            · exact np w
          · refine p6.mono (fun ys w => ?_) fun _ z => z
            have e : es ++ [y] ++ ys = es ++ (Option.toList (some y) ++ ys) := by simp
            rw [e]; exact w
    · have e1 : ds.drop i = [] := List.drop_eq_nil_of_le (by omega)
      rw [e1] at q2
      refine .inl ⟨it.stop i H2 kp (by omega), ?_⟩
      have q2 : (es ++ []).length < 16777216 ∧ ∀ v H' F', Ex C.T H H' → Rp X.K H' v (.list (es ++ [])) F' → KdOk 0 O H Fs F' → Q v H' := q2
      rw [List.append_nil] at q2
      refine q2.2 _ H2 (p :: F) (x1.trans x2) (.lst hA ra) ⟨fun _ => ⟨List.nodup_cons.mpr ⟨pF, nd⟩, fun b hb => ?_⟩, fun z => by omega⟩
      rcases List.mem_cons.mp hb with z | z
      · rw [z]; exact x1.free hp
      · exact x1.free (fr b z)
theorem ev_lc (hc : X.calm = true) (hN : X.N.Nodup) (hi : IV X C W O tg iter so I) (ok : BlkOk X.N X.env.scope scope own)
    (hg : ∀ (s : Shared) (H : Hp) (c : Addr) (cl : List (Str × Addr)) (fp : List Addr), GV (X.blk s H scope (compEnvC scope cl c X.env) fp) O tg is g)
    (ht : ∀ (s : Shared) (H : Hp) (c : Addr) (cl : List (Str × Addr)) (fp : List Addr) (l : Lk), TTs (X.blk s H scope (compEnvC scope cl c X.env) fp) (C.lock l so) W0 O ifs tt)
    (he : ∀ (s : Shared) (H : Hp) (c : Addr) (cl : List (Str × Addr)) (fp : List Addr) (l : Lk), EV (X.blk s H scope (compEnvC scope cl c X.env) fp) (C.lock l so) W0 O elt 0 te)
    (his : ∀ i ∈ is, i ∈ own.map (·.2) := by decide) (hs : ∀ x, foldedSetIterable iter X.env x = pure x := by intro _; rfl) {sl : List Nat} (hsl : own.map (·.2) = sl := by rfl) : EV X C W O (.ListComp elt [⟨tg, iter, ifs, 0⟩] scope pos) 0 (eLc I g tt te sl) := by
  subst hsl
  exact (pe_lc hc hN hi ok (fun s H c cl fp => (hg s H c cl fp).pg) (fun s H c cl fp => ⟨fun pins s' σ H' Q I' ⟨l, h⟩ => (ht s H c cl fp l).run pins s' σ H' Q I' h⟩) (fun s H c cl fp => ⟨fun pins s' σ H' Q I' ⟨l, h⟩ => (he s H c cl fp l).run pins s' σ H' Q I' h⟩) hs).imp
    (lc_read (hg X.s_0 X.H_0 0 [] []).nox his)
theorem sv_setLc {i : Nat} {y : Str} {py spos : Pos} {Ob O' : Own} (hc : X.calm = true) (hN : X.N.Nodup) (hy : X.N[i]? = some y) (hyl : X.env.scope.names.lookup y = some .local) (hi : IV X C W O tg iter so I) (ok : BlkOk X.N X.env.scope scope own)
    (hg : ∀ (s : Shared) (H : Hp) (c : Addr) (cl : List (Str × Addr)) (fp : List Addr), GV (X.blk s H scope (compEnvC scope cl c X.env) fp) O tg is g)
    (ht : ∀ (s : Shared) (H : Hp) (c : Addr) (cl : List (Str × Addr)) (fp : List Addr) (l : Lk), TTs (X.blk s H scope (compEnvC scope cl c X.env) fp) (C.lock l so) W0 O ifs tt)
    (he : ∀ (s : Shared) (H : Hp) (c : Addr) (cl : List (Str × Addr)) (fp : List Addr) (l : Lk), EV (X.blk s H scope (compEnvC scope cl c X.env) fp) (C.lock l so) W0 O elt 0 te)
    (hO : ∀ j ∈ O', j = i ∨ (j ≠ i ∧ j ∈ O) := by decide) (his : ∀ i ∈ is, i ∈ own.map (·.2) := by decide) (hs : ∀ x, foldedSetIterable iter X.env x = pure x := by intro _; rfl)
    (hsw : swapsWith (.ListComp elt [⟨tg, iter, ifs, 0⟩] scope pos) (some (.Name y py)) spos.line X.env = pure true := by rfl) {sl : List Nat} (hsl : own.map (·.2) = sl := by rfl) :
    SV X C W Ob O O' (.Assign [.Name y py] (.ListComp elt [⟨tg, iter, ifs, 0⟩] scope pos) spos) (setD i (eLc I g tt te sl)) := by
  subst hsl
  exact (ps_setLc (tt := fun σ H Q => ∃ l, Pd.tB X.K (C.lock l so) W0 O tt σ H Q) (te := fun σ H Q => ∃ l, tD X.K (C.lock l so) W0 O 0 te σ H Q) hc hN hy hyl hsw hi ok (fun s H c cl fp => (hg s H c cl fp).pg) (fun s H c cl fp => ⟨fun pins s' σ H' Q I' ⟨l, h⟩ => (ht s H c cl fp l).run pins s' σ H' Q I' h⟩) (fun s H c cl fp => ⟨fun pins s' σ H' Q I' ⟨l, h⟩ => (he s H c cl fp l).run pins s' σ H' Q I' h⟩) hs).imp fun De σ H ⟨ρ, Fs, er, q⟩ => by
    refine lc_read (hg X.s_0 X.H_0 0 [] []).nox his σ H _ ?_
    refine tD.step er (fin_of er q) fun d v H1 F1 p er1 x1 r1 kd1 => ?_
    obtain ⟨Fs', er'⟩ := er.put (O' := O') (i := i) x1 r1 kd1 (Nat.zero_le 1) fun j hj => (hO j hj).imp (fun z => ⟨z, rfl⟩) id
    exact p _ _ Fs' er'
end
end Pd
namespace Pd
open PySem PySem.Spec PyProof.Rows L2
/-! ### generator expressions -/
/-- the context of a generator expression's block -/
abbrev _root_.L2.Cx.gx (X : Cx) (A' : Around) (s : Shared) (H : Hp) (cenv : PySem.Env) (fp : List Addr) : Cx :=
  { X with A := A', s_0 := s, H_0 := H, env := cenv, outer := X.stack, stack := cenv :: X.stack, ex := fp, fn := fun _ => false, pn := [], xe := fun _ _ => False }
theorem inv_same {X : Cx} {pins : List (Addr × Obj)} {σ : L2.St} {H : Hp} {s s' : Shared} (I : Inv X pins σ H s) (h : s'.heap = s.heap) (os : s'.os = s.os) (bare : AllBare s'.gens) : Inv X pins σ H s' := by
  obtain ⟨hp, g, d, t, o⟩ := s'
  have h : hp = s.heap := h
  have os : o = s.os := os
  subst h os
  exact ⟨I.ok, I.os, bare, I.base, I.loc, I.cell, I.free, I.freeC, I.pin, I.hok, I.len⟩
/-- the scope of such a block -/
structure GenOk (scope : Scope) : Prop where
  co : scope.isCoroutine = false
  cell : ∀ y ∈ scope.names, y.2 ≠ .cell
  dot : scope.names.lookup (".0" : Str) = some NameKind.local
section
variable {X : Cx} {pins : List (Addr × Obj)} {σ : L2.St} {H : Hp} {s s' : Shared} {scope : Scope} {own : List (Str × Nat)} {fp : List Addr} {code : Value} {A' : Around}
theorem gen_start {m : Str → Option Value} (I : Inv X pins σ H s) (ok : BlkOk X.N X.env.scope scope own) (gk : GenOk scope) (hN : X.N.Nodup) (hfp : ∀ b ∈ fp, FpOk X pins H b ∧ b < s.heap.objs.size)
    (hA : X.calm = true → A'.handled = none) (hfr : A'.frames = some (genEnv scope (cloFrom X.env.cells scope.names []) s.heap.objs.size code builtinsNs X.env :: X.stack))
    (os : s'.os = s.os) (bare : AllBare s'.gens) (kp : ∀ b o, s.heap.get? b = some o → s'.heap.get? b = some o) (hns : s'.heap.Ns s.heap.objs.size m) :
    Inv (X.gx A' s H (genEnv scope (cloFrom X.env.cells scope.names []) s.heap.objs.size code builtinsNs X.env) fp) [] (wipe σ (own.map (·.2))) H s' := by
  have hfree : ∀ y ∈ scope.names, y.2 = .free → ∃ c, X.env.cells.lookup y.1 = some c := fun y hy e => by
    rcases ok.free y hy e with k | k
    · exact I.ok.has _ (.inl k)
    · exact I.ok.has _ (.inr k)
  generalize hcenv : genEnv scope (cloFrom X.env.cells scope.names []) s.heap.objs.size code builtinsNs X.env = cenv at hfr ⊢
  have hL : cenv.locals = s.heap.objs.size := by rw [← hcenv]; rfl
  have hcl : cenv.cells = cloFrom X.env.cells scope.names [] := by rw [← hcenv]; rfl
  have hsc : cenv.scope = scope := by rw [← hcenv]; rfl
  have cm : ∀ {y c}, (y, c) ∈ cloFrom X.env.cells scope.names [] → X.env.cells.lookup y = some c ∧ c < s.heap.objs.size := fun {y c} hm => by
    rcases cloFrom_mem hm with hm | ⟨h1, rfl⟩
    · cases hm
    · obtain ⟨c, hc⟩ := hfree _ h1 rfl
      rw [hc]
      obtain ⟨w, z⟩ := I.cell _ _ hc
      exact ⟨rfl, z.lt⟩
  have mem : ∀ {y c}, cenv.cells.lookup y = some c → X.env.cells.lookup y = some c ∧ c < s.heap.objs.size := fun {y c} e => by
    rw [hcl] at e
    exact cm (PySem.mem_of_lookup e)
  have look : ∀ {y}, scope.names.lookup y = some .free → ∃ c, cenv.cells.lookup y = some c ∧ X.env.cells.lookup y = some c := fun {y} hl => by
    have hy : (y, NameKind.free) ∈ scope.names := PySem.mem_of_lookup hl
    obtain ⟨c', e'⟩ := mem_lookup (cloFrom_has (cells := X.env.cells) (acc := []) hy)
    rw [← hcl] at e'
    exact ⟨c', e', (mem e').1⟩
  have okB : (X.gx A' s H cenv fp).Ok := by
    refine ⟨I.ok.mod, by show cenv.scope.kind = _; rw [hsc]; exact ok.kind, by show cenv.globals = _; rw [← hcenv]; exact I.ok.glob, by show cenv.builtins = _; rw [← hcenv]; rfl, by show s.heap.objs.size ≤ cenv.locals; rw [hL]; exact Nat.le_refl _,
      fun y z c e1 e2 => I.ok.inj y z c (mem e1).1 (mem e2).1, fun y hy => ?_, fun y c z e => (by cases z), hA, hfr, .inr ⟨rfl, by show cenv.frame = some cenv.locals; rw [← hcenv]; rfl⟩, fun b hb => ⟨?_, fun y c e z => ?_⟩, I.bs, Nat.le_trans I.ok.bsz I.sz, fun b o e hb => ?_, fun b hb z => ?_, I.stack, I.stkFree⟩
    · show ∃ c, cenv.cells.lookup y = some c
      have key : ∀ k, cenv.scope.names.lookup y = some k → (k = .cell ∨ k = .free) → ∃ c, cenv.cells.lookup y = some c := fun k hk hk' => by
        rw [hsc] at hk
        rcases hk' with rfl | rfl
        · exact absurd rfl (gk.cell _ (PySem.mem_of_lookup hk))
        · obtain ⟨c, h1, _⟩ := look hk
          exact ⟨c, h1⟩
      rcases hy with hy | hy
      · exact key _ hy (.inl rfl)
      · exact key _ hy (.inr rfl)
    · show b ≠ cenv.locals
      rw [hL]; exact Nat.ne_of_lt (hfp b hb).2
    · exact (hfp b hb).1.2.2.2.2.1 y c (mem e).1 z
    · rcases (hfp b hb).1.2.2.2.1 with z | z
      · exact I.ok.noex b o e z
      · exact absurd (Nat.lt_of_lt_of_le (Heap.lt_size e) (Nat.le_trans I.ok.bsz z)) (Nat.lt_irrefl _)
    · rcases List.mem_cons.mp (I.stkSub b z) with z | z
      · exact (hfp b hb).1.2.1 z
      · exact (hfp b hb).1.2.2.1 z
  refine ⟨okB, os, bare, Un.kept kp, ⟨m, by show Heap.Ns _ cenv.locals _; rw [hL]; exact hns, fun i y av e1 e2 e3 => ?_⟩, fun y c e => ?_, ?_, fun y c e => ?_, fun p hp => ?_, I.hok.kept kp, by rw [wipe_length]; exact I.len⟩
  · obtain ⟨e2, hne⟩ := wipe_some e2
    have hfr : scope.names.lookup y = some .free ∧ cenv.kindOf y = some .free := by
      have key : ∀ k, cenv.scope.names.lookup y = some k → k = .local ∨ k = .cell ∨ k = .free → scope.names.lookup y = some .free ∧ cenv.kindOf y = some .free := fun k hk hk' => by
        have hk0 := hk
        rw [hsc] at hk
        have no : ¬ (k = .local ∨ k = .cell) := fun hh => by
          rcases ok.own _ (PySem.mem_of_lookup hk) hh with e' | e'
          · obtain ⟨p, hp, hpy⟩ := List.mem_map.mp e'
            have e3 := ok.ix p hp
            have : p.1 = y := hpy
            rw [this] at e3
            exact hne (List.mem_map.mpr ⟨p, hp, nodup_ix hN e3 e1⟩)
          · exact e' (List.mem_of_getElem? e1)
        rcases hk' with rfl | rfl | rfl
        · exact absurd (.inl rfl) no
        · exact absurd (.inr rfl) no
        · exact ⟨hk, hk0⟩
      have e3 : Vis cenv.scope y := e3
      rcases e3 with e3 | e3 | e3
      · exact key _ e3 (.inl rfl)
      · exact key _ e3 (.inr (.inl rfl))
      · exact key _ e3 (.inr (.inr rfl))
    obtain ⟨m', hn, hl⟩ := I.loc
    have hvis : Vis X.env.scope y := (ok.free _ (PySem.mem_of_lookup hfr.1) rfl).elim (fun k => .inr (.inl k)) (fun k => .inr (.inr k))
    obtain ⟨w, r, q⟩ := hl i y av e1 e2 hvis
    refine ⟨w, r, .inr ⟨.inr hfr.2, ?_⟩⟩
    obtain ⟨c, h1, h2⟩ := look hfr.1
    rcases q with ⟨k, _⟩ | ⟨_, c', e', z⟩
    · have k : X.env.scope.names.lookup y = some .local := k
      rcases ok.free _ (PySem.mem_of_lookup hfr.1) rfl with k' | k' <;> rw [show X.env.scope.names.lookup y = _ from k'] at k <;> cases k
    · rw [h2] at e'; cases e'
      exact ⟨c, h1, z.keeps kp⟩
  · obtain ⟨w, z⟩ := I.cell y c (mem e).1
    exact ⟨w, z.keeps kp⟩
  · show H cenv.locals = none
    rw [hL]; exact I.hok.fresh (Nat.le_refl _)
  · exact I.freeC y c (mem e).1
  · exact absurd (show p ∈ ([] : List (Addr × Obj)) ++ [] from hp) (by simp)
end
/-! the walk of the block -/
section
variable {X : Cx} {vs : List Nat} {σ : L2.St} {ga : Addr} {gob : Obj} {fp : List Addr} {it : Addr} {tn : Nat → Heap → Prop} {J : It} {elt tg iter : Expr} {ifs : List Expr} {scope : Scope} {pos : Pos} {g : TG} {tt : TT} {te : TE} {nb : Nat} {W : Nat → Hp → Prop} {Y : Nat → V → Hp → Prop} {Qe : Hp → Prop}
abbrev genX (elt tg iter : Expr) (ifs : List Expr) (scope : Scope) (pos : Pos) : Expr := .GeneratorExp elt [⟨tg, iter, ifs, 0⟩] scope pos
/-- between the turns -/
def GLI (X : Cx) (vs : List Nat) (σ : L2.St) (ga : Addr) (gob : Obj) (fp : List Addr) (tn : Nat → Heap → Prop) (i : Nat) (H : Hp) (s : Shared) : Prop :=
  Inv X [(ga, gob)] (wipe σ vs) H s ∧ tn i s.heap ∧ ∀ b ∈ fp, H b = none
theorem GLI.same {i : Nat} {H : Hp} {s s' : Shared} (h : GLI X vs σ ga gob fp tn i H s) (e : s'.heap = s.heap) (os : s'.os = s.os) (bare : AllBare s'.gens) : GLI X vs σ ga gob fp tn i H s' :=
  ⟨inv_same h.1 e os bare, by rw [e]; exact h.2.1, h.2.2⟩
def GYp (X : Cx) (vs : List Nat) (σ : L2.St) (ga : Addr) (gob : Obj) (fp : List Addr) (tn : Nat → Heap → Prop) (W : Nat → Hp → Prop) (Y : Nat → V → Hp → Prop) : Protocol := fun m s₀ v s kap =>
  ∃ i y H, RelV y v ∧ GLI X vs σ ga gob fp tn (i + 1) H s ∧ Y i y H ∧ ∀ s'', s''.heap = s.heap → s''.os = s.os → AllBare s''.gens → W (i + 1) H → kap (.send .none) s''
def GEp (X : Cx) (vs : List Nat) (σ : L2.St) (ga : Addr) (gob : Obj) (Qe : Hp → Prop) (_ : Nat) (_ s : Shared) : Prop := ∃ H, Inv X [(ga, gob)] (wipe σ vs) H s ∧ Qe H
/-- one turn's reading -/
def GTurn (J : It) (vs : List Nat) (σ : L2.St) (g : TG) (tt : TT) (te : TE) (nb : Nat) (W : Nat → Hp → Prop) (Y : Nat → V → Hp → Prop) (Qe : Hp → Prop) : Prop := ∀ i H, W i H →
  (J.stop i H ∧ Qe H) ∨ (i < nb ∧ J.go i H ∧ ∀ x H', J.yld i H x H' → g x (wipe σ vs) H' fun σ2 H2 => wipe σ2 vs = wipe σ vs ∧ tt σ2 H2 fun b H3 => if b = true then te σ2 H3 (Y i) else W (i + 1) H3)
theorem seg_gl {A : Around} (hfpe : X.ex = fp) (hcalm : X.calm = true) (hxe : X.xe = fun _ _ => False) (hpn : X.pn = []) (hA : A.over (.compLoop (genX elt tg iter ifs scope pos) 0 (.ref it) .none X.env) [] = X.A) (hco : X.env.scope.isCoroutine = false)
    (T : Turn X.prog X.w X.K tg J fp it tn) (pg : PG X tg g) (pt : PTs X ifs tt) (pe : PE X elt te) (turn : GTurn J vs σ g tt te nb W Y Qe) (gne : ga ∉ fp) :
    ∀ (k i n : Nat) (s₀ s : Shared) (H : Hp), nb - i = k → k ≤ n → GLI X vs σ ga gob fp tn i H s → W i H →
      Seg (model X.prog X.w) A (fun n s₀ r s₁ => r = .ok .next ∧ GEp X vs σ ga gob Qe n s₀ s₁) (GYp X vs σ ga gob fp tn W Y) n s₀ (.compLoop (genX elt tg iter ifs scope pos) 0 (.ref it) .none X.env)
        ((model X.prog X.w).den (.compLoop (genX elt tg iter ifs scope pos) 0 (.ref it) .none X.env)) [] s := by
  have stat : ∀ {σ' : L2.St} {H' : Hp} {s' : Shared} {pins : List (Addr × Obj)}, (∀ p ∈ pins, p.1 ∉ fp) → Inv X pins σ' H' s' → (∀ b ∈ fp, H' b = none) → ∀ b ∈ fp, FpOk X pins H' b := fun {σ' H' s' pins} hp I' hn b hb =>
    ⟨hn b hb, (I'.ok.exf b (by rw [hfpe]; exact hb)).1, I'.ok.exfs b (by rw [hfpe]; exact hb), .inl (by rw [hfpe]; exact hb), fun x c e => (I'.ok.exf b (by rw [hfpe]; exact hb)).2 x c e, fun p hp' z => by
      rw [hpn, List.nil_append] at hp'
      exact hp p hp' (z ▸ hb)⟩
  have hgp : ∀ p ∈ [(ga, gob)], p.1 ∉ fp := fun p hp => by
    have e : p = (ga, gob) := by simpa using hp
    rw [e]; exact gne
  intro k
  induction k with
  | zero =>
    intro i n s₀ s H hk hkn L w
    rcases turn i H w with ⟨stop, qe⟩ | ⟨hlt, _⟩
    · show Seg _ A _ _ _ s₀ _ ((compTurn (genX elt tg iter ifs scope pos) 0 (.ref it) .none X.env).onRaise (leaving X.env)) [] s
      rw [compTurn_gen, Sem.onRaise_eq_wrap]
      refine seg_bind_wrap (wpAny_standAt ?_)
      have td := T.done X rfl rfl rfl hcalm i [(ga, gob)] s _ H (fun _ _ => False) L.1 (stat hgp L.1 L.2.2) L.2.1 stop
      rw [← hA] at td
      refine seg_bind_wrap (wpAny_mono td (fun r s1 h1 => ?_) fun _ _ z => z.elim)
      obtain ⟨hr, I1⟩ := h1
      subst hr
      exact seg_end (.ok .next) ⟨rfl, H, I1, qe⟩
    · omega
  | succ k ih =>
    intro i n s₀ s H hk hkn L w
    show Seg _ A _ _ _ s₀ _ ((compTurn (genX elt tg iter ifs scope pos) 0 (.ref it) .none X.env).onRaise (leaving X.env)) [] s
    rw [compTurn_gen, Sem.onRaise_eq_wrap]
    refine seg_bind_wrap (wpAny_standAt ?_)
    rcases turn i H w with ⟨stop, qe⟩ | ⟨hlt, go, step⟩
    · have td := T.done X rfl rfl rfl hcalm i [(ga, gob)] s _ H (fun _ _ => False) L.1 (stat hgp L.1 L.2.2) L.2.1 stop
      rw [← hA] at td
      refine seg_bind_wrap (wpAny_mono td (fun r s1 h1 => ?_) fun _ _ z => z.elim)
      obtain ⟨hr, I1⟩ := h1
      subst hr
      exact seg_end (.ok .next) ⟨rfl, H, I1, qe⟩
    · have ti := T.item X rfl rfl rfl hcalm i [(ga, gob)] s _ H (fun _ _ => False) L.1 (stat hgp L.1 L.2.2) L.2.1 go
      rw [← hA] at ti
      refine seg_bind_wrap (wpAny_mono ti (fun r s1 h1 => ?_) fun _ _ z => z.elim)
      obtain ⟨u, hr, h1⟩ := h1
      subst hr
      refine seg_bind_wrap (wpAny_mono h1 (fun _ s7 h7 => ?_) fun _ _ z => z.elim)
      obtain ⟨x, H7, I7, r7, y7, st7, n7⟩ := h7
      have I7' := I7.pinned (stat hgp I7 n7) (T.obj _ _ st7)
      have pr := pg.run _ s7 _ H7 x u _ I7' r7 (step x H7 y7)
      rw [← hA, hxe] at pr
      refine seg_bind_wrap (wpAny_mono pr (fun _ s8 h8 => ?_) fun _ _ z => z.elim)
      obtain ⟨σ8, H8, I8, hw8, q8⟩ := h8
      have tr := pt.run _ s8 σ8 H8 _ I8 q8
      rw [← hA, hxe] at tr
      refine seg_bind_wrap (wpAny_mono tr (fun b s9 h9 => ?_) fun _ _ z => z.elim)
      obtain ⟨H9, I9, q9⟩ := h9
      -- the turn's end
      have fin : ∀ {s' : Shared} {H' : Hp}, Inv X ([(ga, gob)] ++ pinsAt fp s7.heap) σ8 H' s' → GLI X vs σ ga gob fp tn (i + 1) H' s' := fun {s' H'} I' => by
        have pin' : ∀ b ∈ fp, ∀ o, s7.heap.get? b = some o → s'.heap.get? b = some o ∧ H' b = none := fun b hb o e =>
          let z := I'.pin (b, o) (List.mem_append_right _ (List.mem_append_right _ (mem_pinsAt hb e)))
          ⟨z.1, z.2.1⟩
        have hl : (wipe σ vs).length = σ8.length := by rw [← hw8, wipe_length]
        refine ⟨(I'.unpinned (pins := [(ga, gob)])).weak hl (fun j v e => ?_), T.keep _ _ _ st7 fun b hb o e => (pin' b hb o e).1, fun b hb => ?_⟩
        · rw [← hw8] at e
          exact (wipe_some e).1
        · obtain ⟨o, e, _⟩ := T.obj _ _ st7 b hb
          exact (pin' b hb o e).2
      cases b with
      | false =>
        simp only [Bool.false_eq_true, if_false] at q9 ⊢
        exact seg_again rfl (ih (i + 1) n s₀ s9 H9 (by omega) (by omega) (fin I9) q9)
      | true =>
        simp only [if_true] at q9 ⊢
        have hy : ∀ v, yieldOut X.env v = yieldValue v := fun v => by simp only [yieldOut, hco, Bool.false_eq_true, if_false]
        simp only [hy]
        rw [Sem.bind_eq_wrap', Sem.bind_eq_wrap', Sem.wrap_wrap, Sem.wrap_wrap]
        have er := pe.run _ s9 σ8 H9 _ I9 q9
        rw [← hA, hxe] at er
        refine seg_wrap (wpAny_mono er (fun z s10 h10 => ?_) fun _ _ z => z.elim)
        obtain ⟨yv, H10, I10, r10, yq⟩ := h10
        cases n with
        | zero => omega
        | succ n =>
          refine seg_at (seg_yield rfl rfl rfl ⟨i, yv, H10, r10, fin I10, yq, fun s'' e1 e2 e3 w1 => ?_⟩)
          exact seg_again rfl (ih (i + 1) n s'' s'' H10 (by omega) (by omega) ((fin I10).same e1 e2 e3) w1)
end
end Pd
namespace Pd
open PySem PySem.Spec PyProof.Rows L2 GxR GenW
section
variable {X : Cx} {vs : List Nat} {σ : L2.St} {ga gi : Nat} {gob : Obj} {fp : List Addr} {it : Addr} {tn : Nat → Heap → Prop} {J : It} {elt tg iter : Expr} {ifs : List Expr} {scope : Scope} {pos : Pos} {g : TG} {tt : TT} {te : TE} {nb : Nat} {W : Nat → Hp → Prop} {Y : Nat → V → Hp → Prop} {Qe : Hp → Prop}
theorem seg_gs {A : Around} (hfpe : X.ex = fp) (hcalm : X.calm = true) (hxe : X.xe = fun _ _ => False) (hpn : X.pn = []) (hA : A.over (.compLoop (genX elt tg iter ifs scope pos) 0 (.ref it) .none X.env) [] = X.A) (hco : X.env.scope.isCoroutine = false)
    (T : Turn X.prog X.w X.K tg J fp it tn) (pg : PG X tg g) (pt : PTs X ifs tt) (pe : PE X elt te) (turn : GTurn J vs σ g tt te nb W Y Qe) (gne : ga ∉ fp) {s₀ s : Shared} {H : Hp} (L : GLI X vs σ ga gob fp tn 0 H s) (w : W 0 H) :
    Seg (model X.prog X.w) A (fun n s₀ r s₁ => r = .ok .next ∧ GEp X vs σ ga gob Qe n s₀ s₁) (GYp X vs σ ga gob fp tn W Y) nb s₀ (.compStart (genX elt tg iter ifs scope pos) 0 (.ref it) .none X.env)
      ((model X.prog X.w).den (.compStart (genX elt tg iter ifs scope pos) 0 (.ref it) .none X.env)) [] s := by
  have loop := seg_gl (gob := gob) (A := A) hfpe hcalm hxe hpn hA hco T pg pt pe turn gne nb 0 nb s₀ s H (Nat.sub_zero _) (Nat.le_refl _) L w
  show Seg _ A _ _ _ s₀ _ ((compStart (genX elt tg iter ifs scope pos) 0 (.ref it) .none X.env).onRaise (leaving X.env)) [] s
  unfold compStart
  rw [Sem.onRaise_eq_wrap]
  show Seg _ A _ _ _ s₀ _ ((ask >>= _).wrap _ _ _ _) [] s
  refine seg_bind_wrap (wpAny_askSetting ?_)
  split
  · exact seg_again rfl loop
  · first
      | exact seg_bind_wrap (wpAny_rule (seg_bind_wrap (wpAny_standAt (seg_bind_wrap (T.self _ 0 s _ _ L.2.1 (seg_again rfl loop))))))
      | (refine seg_bind_wrap (wpAny_rule ?_); show Seg _ A _ _ _ s₀ _ ((standAt iter.pos >>= _).wrap _ _ _ _) [] s; exact seg_bind_wrap (wpAny_standAt (seg_bind_wrap (T.self _ 0 s _ _ L.2.1 (seg_again rfl loop)))))
/-- the generator asleep -/
def GSt (X : Cx) (A : Around) (vs : List Nat) (σ : L2.St) (ga gi : Nat) (gob : Obj) (fp : List Addr) (tn : Nat → Heap → Prop) (W : Nat → Hp → Prop) (Y : Nat → V → Hp → Prop) (Qe : Hp → Prop) (n : Nat) (s : Shared) : Prop :=
  ∃ gs i H, s.gens[gi]? = some gs ∧ gs.bare = true ∧ GLI X vs σ ga gob fp tn i H s ∧ W i H ∧ ∀ s'', s''.heap = s.heap → s''.os = s.os → AllBare s''.gens →
    gs.Goes (model X.prog X.w) A (fun n s₀ r s₁ => r = .ok .next ∧ GEp X vs σ ga gob Qe n s₀ s₁) (GYp X vs σ ga gob fp tn W Y) n (.send .none) s''
theorem gnext {A0 : Around} (hh : A0.handled = none) (hroom : A0.depth < recursionLimit) (hgen : ∀ h : Heap, h.get? ga = some gob → h.IsGen ga gi) {n : Nat} {s : Shared} (G : GSt X A0.in1 vs σ ga gi gob fp tn W Y Qe n s) {Q : Option Value → Shared → Prop} {E : Value → Shared → Prop}
    (hY : ∀ y v i H s', RelV y v → Y i y H → Inv X [(ga, gob)] (wipe σ vs) H s' → (W (i + 1) H → ∃ m, m < n ∧ GSt X A0.in1 vs σ ga gi gob fp tn W Y Qe m s') → Q (some v) s')
    (hE : ∀ H s', Inv X [(ga, gob)] (wipe σ vs) H s' → Qe H → Q none s') : wpAny (model X.prog X.w) A0 (pyNext (.ref ga)) Q E s := by
  obtain ⟨gs, i, H, hgs, hb, L, w, hgo⟩ := G
  have hg : s.heap.IsGen ga gi := hgen _ (L.1.pin (ga, gob) (List.mem_append_right _ List.mem_cons_self)).1
  have hlt : gi < s.gens.size := by
    rcases Nat.lt_or_ge gi s.gens.size with h' | h'
    · exact h'
    · rw [Array.getElem?_eq_none h'] at hgs; cases hgs
  refine wpAny_gsz (n := s.gens.size) (Nat.le_refl _) ?_
  refine wpAny_pyNext_genexpQ (P := GEp X vs σ ga gob Qe) hh L.1.nolimit hroom hg hgs (hgo _ rfl rfl (allBare_setGen L.1.bare rfl)) (fun v s₁ gs' hb' hy hsz => ?_) (fun s₁ hp h' hk hsz => ?_)
  · obtain ⟨i', y, H', r, L', yq, kap⟩ := hy
    have hsz' : gi < s₁.gens.size := by
      rw [setGen_size] at hsz; omega
    have hbare : AllBare (s₁.setGen gi gs').gens := allBare_setGen L'.1.bare hb'
    refine hY y v i' H' _ r yq (inv_same L'.1 rfl rfl hbare) fun w1 => ?_
    cases n with
    | zero => exact (kap s₁ rfl rfl L'.1.bare w1).elim
    | succ m => exact ⟨m, Nat.lt_succ_self m, gs', i' + 1, H', setGen_at hsz', hb', L'.same rfl rfl hbare, w1, fun s'' e1 e2 e3 => kap s'' e1 e2 e3 w1⟩
  · obtain ⟨H', I', qe⟩ := hp
    have hbare : AllBare (s₁.setGen gi .finished).gens := allBare_setGen I'.bare rfl
    have I2 : Inv X [(ga, gob)] (wipe σ vs) H' (s₁.setGen gi .finished) := inv_same I' rfl rfl hbare
    exact hE H' _ (I2.kept (t' := (s₁.setGen gi .finished).toks) hk) qe
/-- the loops of all, any: sv, what they stop at -/
def GQ (sv : Bool) (W : Nat → Hp → Prop) (Y : Nat → V → Hp → Prop) (Qe : Hp → Prop) (Qf : Bool → Hp → Prop) : Prop := (∀ i y H, Y i y H → ∃ b, y = .bl b ∧ (b = sv → Qf sv H) ∧ (b = !sv → W (i + 1) H)) ∧ ∀ H, Qe H → Qf (!sv) H
def GEnd' (X : Cx) (vs : List Nat) (σ : L2.St) (ga : Nat) (gob : Obj) (Qf : Bool → Hp → Prop) (r : Result) (s' : Shared) : Prop := ∃ b H, r = .ok (.ret (.bool b)) ∧ Inv X [(ga, gob)] (wipe σ vs) H s' ∧ Qf b H
theorem all_loopG {A : Around} {Qf : Bool → Hp → Prop} (hh : A.handled = none) (hroom : A.in1.depth < recursionLimit) (hgen : ∀ h : Heap, h.get? ga = some gob → h.IsGen ga gi) (hq : GQ false W Y Qe Qf) :
    ∀ (n : Nat) (s : Shared), GSt X A.in1.in1 vs σ ga gi gob fp tn W Y Qe n s → codeAny (model X.prog X.w) A (.builtin "all.loop" ⟨[.ref ga], []⟩) (GEnd' X vs σ ga gob Qf) s := by
  intro n
  induction n using Nat.strongRecOn with
  | ind n ih =>
    intro s G
    refine codeAny_builtin F.entry_all_loop ?_
    rw [Around.under_plainId F.plain_all_loop _]
    show wpAny _ A.in1 (pyNext (.ref ga) >>= _) _ _ s
    refine wpAny_bind (gnext (A0 := A.in1) hh hroom hgen G (fun y v i H s' r yq I' more => ?_) fun H s' I' qe => ?_)
    · obtain ⟨b, rfl, h1, h2⟩ := hq.1 i y H yq
      obtain rfl : v = Value.bool b := r
      refine wpAny_bind (wpAny_holding (wpAny_truthy_bool ?_))
      refine wpAny_bind (wpAny_letGo ?_)
      cases b with
      | true =>
        simp only [if_true]
        obtain ⟨m, hm, G'⟩ := more (h2 rfl)
        exact wpAny_pure ⟨plainId_quiet F.plain_all_loop _, ih m hm s' G'⟩
      | false =>
        simp only [Bool.false_eq_true, if_false]
        exact wpAny_bind (wpAny_rule (wpAny_pure ⟨false, H, rfl, I', h1 rfl⟩))
    · exact wpAny_bind (wpAny_rule (wpAny_pure ⟨true, H, rfl, I', hq.2 H qe⟩))
theorem any_loopG {A : Around} {Qf : Bool → Hp → Prop} (hh : A.handled = none) (hroom : A.in1.depth < recursionLimit) (hgen : ∀ h : Heap, h.get? ga = some gob → h.IsGen ga gi) (hq : GQ true W Y Qe Qf) :
    ∀ (n : Nat) (s : Shared), GSt X A.in1.in1 vs σ ga gi gob fp tn W Y Qe n s → codeAny (model X.prog X.w) A (.builtin "any.loop" ⟨[.ref ga], []⟩) (GEnd' X vs σ ga gob Qf) s := by
  intro n
  induction n using Nat.strongRecOn with
  | ind n ih =>
    intro s G
    refine codeAny_builtin F.entry_any_loop ?_
    rw [Around.under_plainId F.plain_any_loop _]
    show wpAny _ A.in1 (pyNext (.ref ga) >>= _) _ _ s
    refine wpAny_bind (gnext (A0 := A.in1) hh hroom hgen G (fun y v i H s' r yq I' more => ?_) fun H s' I' qe => ?_)
    · obtain ⟨b, rfl, h1, h2⟩ := hq.1 i y H yq
      obtain rfl : v = Value.bool b := r
      refine wpAny_bind (wpAny_holding (wpAny_truthy_bool ?_))
      refine wpAny_bind (wpAny_letGo ?_)
      cases b with
      | false =>
        simp only [Bool.false_eq_true, if_false]
        obtain ⟨m, hm, G'⟩ := more (h2 rfl)
        exact wpAny_pure ⟨plainId_quiet F.plain_any_loop _, ih m hm s' G'⟩
      | true =>
        simp only [if_true]
        exact wpAny_bind (wpAny_rule (wpAny_pure ⟨true, H, rfl, I', h1 rfl⟩))
    · exact wpAny_bind (wpAny_rule (wpAny_pure ⟨false, H, rfl, I', hq.2 H qe⟩))
end
/-! the whole -/
/-- all, any of a generator expression; behind it the def's table of code objects may have grown -/
def tGx (P : Addr) (sv : Bool) (wi : TI) (g : TG) (tt : TT) (te : TE) (vs : List Nat) : TE := fun σ H Q => wi σ H fun J H1 => TabG H1 P ∧ ∀ H2, Tabbed P H1 H2 →
  ∃ (nb : Nat) (W : Nat → Hp → Prop) (Y : Nat → V → Hp → Prop) (Qe : Hp → Prop), W 0 H2 ∧ GTurn J vs σ g tt te nb W Y Qe ∧ GQ sv W Y Qe (fun b H => Q (.bl b) H)
section
variable {X : Cx} {c P : Addr} {elt tg iter : Expr} {ifs : List Expr} {scope : Scope} {own : List (Str × Nat)} {p pos gpos : Pos} {wi : TI} {g : TG} {tt : TT} {te : TE} {k : Nat}
/-- the environment of the block -/
abbrev gEnv (X : Cx) (scope : Scope) (C : Addr) (code : Value) : PySem.Env := genEnv scope (cloFrom X.env.cells scope.names []) C code builtinsNs X.env
theorem gx_core {pins : List (Addr × Obj)} {s : Shared} {σ : L2.St} {H : Hp} {Q' : Value → Shared → Prop} {sv : Bool} {Q : VK} (hr : Room (k + 3) X.A) (hc : X.calm = true) (hN : X.N.Nodup) (TB : TabB X.base X.mg c P) (hcode : X.env.code = .ref c) (ok : BlkOk X.N X.env.scope scope own) (gk : GenOk scope) (hi : PI X tg iter wi)
    (hg : ∀ (A' : Around) (s : Shared) (H : Hp) (C : Addr) (code : Value) (fp : List Addr), Room k A' → PG (X.gx A' s H (gEnv X scope C code) fp) tg g)
    (ht : ∀ (A' : Around) (s : Shared) (H : Hp) (C : Addr) (code : Value) (fp : List Addr), Room k A' → PTs (X.gx A' s H (gEnv X scope C code) fp) ifs tt)
    (he : ∀ (A' : Around) (s : Shared) (H : Hp) (C : Addr) (code : Value) (fp : List Addr), Room k A' → PE (X.gx A' s H (gEnv X scope C code) fp) elt te)
    (hs : ∀ v, genFold iter X.env v = pure v) (I : Inv X pins σ H s) (h : tGx P sv wi g tt te (own.map (·.2)) σ H Q)
    (hQ : ∀ (Xg : Cx) (ga gi : Nat) (gob : Obj) (fp : List Addr) (tn : Nat → Heap → Prop) (nb : Nat) (W : Nat → Hp → Prop) (Y : Nat → V → Hp → Prop) (Qe : Hp → Prop) (s5 : Shared), (Xg.prog = X.prog ∧ Xg.w = X.w) → (∀ h : Heap, h.get? ga = some gob → h.IsGen ga gi) → s5.heap.get? ga = some gob → GQ sv W Y Qe (fun b H => Q (.bl b) H) → GSt Xg X.A.in1.in1 (own.map (·.2)) σ ga gi gob fp tn W Y Qe nb s5 →
      (∀ b H' s', Inv Xg [(ga, gob)] (wipe σ (own.map (·.2))) H' s' → Q (.bl b) H' → EP X pins σ Q (.bool b) s') → Q' (.ref ga) s5) :
    wpAny (model X.prog X.w) X.A (eval (.GeneratorExp elt [⟨tg, iter, ifs, 0⟩] scope gpos) X.env) Q' X.xe s := by
  have hfree : ∀ y ∈ scope.names, y.2 = .free → ∃ c, X.env.cells.lookup y.1 = some c := fun y hy e => by
    rcases ok.free y hy e with k | k
    · exact I.ok.has _ (.inl k)
    · exact I.ok.has _ (.inr k)
  refine wpAny_GeneratorExp_make gk.co (closure_ok hfree) gk.cell gk.dot ok.kind hr.depth ?_ hs
  refine thn (hi.run pins s σ H _ I h) fun xv s1 h1 => thn h1 fun itv s2 h2 => ?_
  obtain ⟨it, fp, tn, J, H2, e, I2, T, st2, f2, ⟨ps, hP, ht3⟩, q⟩ := h2
  subst e
  refine ⟨I2.nolimit, ?_⟩
  have hPs : s2.heap.get? P = some { cls := .none, data := .fields ps } := I2.hok P _ hP
  have cd : PySem.W.CodeHd s2.heap c P := TB.code.keeps fun b u e => I2.bk b u e
  have cont : ∀ (code : Value) (h3 : Heap) (tk : Nat) (ps' : Array Value), Heap.ExtBut P s2.heap h3 → s2.heap.objs.size ≤ h3.objs.size → h3.get? P = some { cls := .none, data := .fields ps' } → (∃ more, ps' = ps ++ more) → TriplesOk ps'.toList →
      wpAny (model X.prog X.w) X.A (builtinsFor X.env.globals X.env.builtins) (fun bi s₄ =>
        ∀ h', h'.Ns s₄.heap.objs.size (fun y => if y = ".0" then some (.ref it) else none) → Heap.SameBut s₄.heap.objs.size (s₄.heap.push { cls := .type "frame", data := .dict #[] }) h' →
          Q' (.ref h'.objs.size) { s₄ with
            gens := s₄.gens.push (.fresh (.compStart (.GeneratorExp elt [⟨tg, iter, ifs, 0⟩] scope gpos) 0 (.ref it) .none (genEnv scope (cloFrom X.env.cells scope.names []) s₄.heap.objs.size code bi X.env))),
            toks := s₄.toks + 1 + 1 + 1,
            heap := h'.push { cls := .type "generator", data := .fields #[.int s₄.gens.size 0, .str "<genexpr>" (s₄.toks + 1), .str (X.env.qual ++ "<genexpr>") (s₄.toks + 1 + 1)] } }) X.xe { s2 with heap := h3, toks := tk } := by
    intro code h3 tk ps' hx hsz hP3 hmore ht3
    obtain ⟨bm, ob, e1, e2, e3, e4, e5, e6, e7, e8⟩ := TB.bm
    have keep3 : ∀ b u, b ≠ P → s2.heap.get? b = some u → h3.get? b = some u := fun b u hb e => hx b u hb e
    refine wpAny_builtinsFor (m := X.mg) (by rw [I2.ok.glob]; exact (I2.mod.glob.keeps I2.bk).extBut hx TB.gP) e1 e2 (keep3 _ _ e4 (I2.bk _ _ e5)) e6 e7 e8 ?_
    intro h' hns hsb
    obtain ⟨more, em⟩ := hmore
    have I3 : Inv X pins σ (upd H2 P (.tbl (ps ++ more))) { s2 with heap := h3, toks := tk } := by
      have J := inv_tab (more := more) (h' := h3) (g' := s2.gens) (d' := s2.drawn) (t' := tk) I2 hP keep3 (by rw [← em]; exact hP3) I2.bare
      exact J
    have hT : Tabbed P H2 (upd H2 P (.tbl (ps ++ more))) := ⟨⟨ps ++ more, upd_same, by rw [← em]; exact ht3⟩, fun b hb => upd_ne hb⟩
    obtain ⟨nb, W, Y, Qe, w0, turn, gq⟩ := q _ hT
    generalize hH3 : upd H2 P (.tbl (ps ++ more)) = H3 at I3 hT w0 turn
    generalize hs3 : ({ s2 with heap := h3, toks := tk } : Shared) = s3 at I3 hns hsb ⊢
    have hs3h : s3.heap = h3 := by rw [← hs3]
    have Pfp : P ∉ fp := fun z => by
      have := (f2 P z).1
      rw [hP] at this; cases this
    have szfp : ∀ b ∈ fp, b < s3.heap.objs.size := fun b hb => by
      obtain ⟨o, e, _⟩ := T.obj _ _ st2 b hb
      rw [hs3h]
      exact Nat.lt_of_lt_of_le (Heap.lt_size e) hsz
    have nfp : ∀ b ∈ fp, H3 b = none := fun b hb => by
      rw [hT.2 b fun z => Pfp (z ▸ hb)]
      exact (f2 b hb).1
    have f3 : ∀ b ∈ fp, FpOk X pins H3 b ∧ b < s3.heap.objs.size := fun b hb => ⟨⟨nfp b hb, (f2 b hb).2⟩, szfp b hb⟩
    -- the new state
    have szh : h'.objs.size = s3.heap.objs.size + 1 := by rw [hsb.1, Heap.size_push]
    have keep' : ∀ b o, s3.heap.get? b = some o → h'.get? b = some o := fun b o e => hsb.extBut b o (Nat.ne_of_lt (Heap.lt_size e)) (Heap.get?_push_of_some _ e)
    generalize hgo : ({ cls := .type "generator", data := .fields #[.int s3.gens.size 0, .str "<genexpr>" (s3.toks + 1), .str (X.env.qual ++ "<genexpr>") (s3.toks + 1 + 1)] } : Obj) = gob
    generalize hs5 : ({ s3 with
            gens := s3.gens.push (.fresh (.compStart (.GeneratorExp elt [⟨tg, iter, ifs, 0⟩] scope gpos) 0 (.ref it) .none (genEnv scope (cloFrom X.env.cells scope.names []) s3.heap.objs.size code builtinsNs X.env))),
            toks := s3.toks + 1 + 1 + 1,
            heap := h'.push gob } : Shared) = s5
    have h5 : s5.heap = h'.push gob := by rw [← hs5]
    have keep5 : ∀ b o, s3.heap.get? b = some o → s5.heap.get? b = some o := fun b o e => by rw [h5]; exact Heap.get?_push_of_some _ (keep' b o e)
    have bare5 : AllBare s5.gens := by
      rw [← hs5]
      exact I3.bare.push rfl
    have hgen : ∀ h : Heap, h.get? h'.objs.size = some gob → h.IsGen h'.objs.size s3.gens.size := fun h e => ⟨gob, _, _, e, by rw [← hgo], by rw [← hgo], by rw [← hgo]⟩
    have hA1 : X.A.in1.in1.frames = some X.stack := I.ok.frames
    generalize hce : genEnv scope (cloFrom X.env.cells scope.names []) s3.heap.objs.size code builtinsNs X.env = ce at hs5
    generalize hA' : X.A.in1.in1.over (.compLoop (genX elt tg iter ifs scope gpos) 0 (.ref it) .none ce) [] = A'
    have fr' : A'.frames = some (ce :: X.stack) := by
      rw [← hA']
      show pushEnvs (Code.envs (.compLoop (genX elt tg iter ifs scope gpos) 0 (.ref it) .none ce)) (pushEnvs (envsOf (([] : List Frame).map Frame.where_)) X.A.in1.in1.frames) = _
      rw [hA1]; rfl
    have room' : Room k A' := by
      have h1 := hr.dp
      have h2 := hr.un
      rw [← hA']
      refine ⟨hr.hd, ?_, ?_⟩
      · show X.A.depth + 0 + 1 + 3 * k + 5 < _
        omega
      · show X.A.units + 1 + 1 + 0 + 3 + 16 * k + 200 < _
        omega
    have Ig0 : Inv (X.gx A' s3 H3 ce fp) [] (wipe σ (own.map (·.2))) H3 s5 := by
      have := gen_start (code := code) (A' := A') (s' := s5) (m := fun y => if y = ".0" then some (.ref it) else none) I3 ok gk hN f3 (fun z => room'.hd) (by rw [hce]; exact fr') (by rw [← hs5]) bare5 keep5 (by rw [h5]; exact hns.push _)
      rw [hce] at this
      exact this
    have gN : H3 h'.objs.size = none := I3.hok.fresh (by rw [szh]; omega)
    have gL : ce.locals = s3.heap.objs.size := by rw [← hce]; rfl
    have e5 : s5.heap.get? h'.objs.size = some gob := by rw [h5]; exact Heap.get?_push_size _ (by rw [← hgo]; rfl)
    have gfs : h'.objs.size ∉ (X.gx A' s3 H3 ce fp).fs := fun z => by
      obtain ⟨_, o, ho, _⟩ := I3.stack.mem z
      have h9 : (h'.objs.size : Nat) < s3.heap.objs.size := Heap.lt_size ho
      rw [szh] at h9; omega
    have Ig : Inv (X.gx A' s3 H3 ce fp) [(h'.objs.size, gob)] (wipe σ (own.map (·.2))) H3 s5 := Ig0.pins_of fun p hp => by
      have e : p = (h'.objs.size, gob) := by simpa using hp
      subst e
      refine ⟨e5, gN, ?_, gfs, fun v z => by rw [← hgo] at z; cases z⟩
      show h'.objs.size ≠ ce.locals
      rw [gL, szh]; omega
    have st5 : tn 0 s5.heap := T.keep _ _ _ st2 fun b hb o e => keep5 b o (by rw [hs3h]; exact keep3 b o (fun z => Pfp (z ▸ hb)) e)
    have gne : h'.objs.size ∉ fp := fun z => by
      have h9 : (h'.objs.size : Nat) < s3.heap.objs.size := szfp _ z
      rw [szh] at h9; omega
    have L5 : GLI (X.gx A' s3 H3 ce fp) (own.map (·.2)) σ h'.objs.size gob fp tn 0 H3 s5 := ⟨Ig, st5, nfp⟩
    refine hQ (X.gx A' s3 H3 ce fp) h'.objs.size s3.gens.size gob fp tn nb W Y Qe s5 ⟨rfl, rfl⟩ hgen e5 gq ⟨.fresh (.compStart (.GeneratorExp elt [⟨tg, iter, ifs, 0⟩] scope gpos) 0 (.ref it) .none ce), 0, H3, by rw [← hs5]; exact Array.getElem?_push_size .., rfl, L5, w0, fun s'' e1 e2 e3 => ?_⟩ fun b H' s' I' qq => ?_
    · refine ⟨rfl, ?_⟩
      have hg' : PG (X.gx A' s3 H3 ce fp) tg g := by rw [← hce]; exact hg A' s3 H3 s3.heap.objs.size code fp room'
      have ht' : PTs (X.gx A' s3 H3 ce fp) ifs tt := by rw [← hce]; exact ht A' s3 H3 s3.heap.objs.size code fp room'
      have he' : PE (X.gx A' s3 H3 ce fp) elt te := by rw [← hce]; exact he A' s3 H3 s3.heap.objs.size code fp room'
      exact seg_gs (X := X.gx A' s3 H3 ce fp) (gob := gob) (A := X.A.in1.in1) rfl hc rfl rfl hA' (by show ce.scope.isCoroutine = false; rw [← hce]; exact gk.co) T hg' ht' he' turn gne (L5.same e1 e2 e3) w0
    · exact ⟨.bl b, H', I3.call' (ch := fp) I'.os I'.base I'.hok I'.bare fun b hb => ⟨(f3 b hb).1.2.2.2.1, (f3 b hb).1.2.1, (f3 b hb).1.2.2.2.2.1, (f3 b hb).1.2.2.2.2.2⟩, rfl, qq⟩
  cases hf : codeAmong gpos ps.toList with
  | none =>
    refine wpAny_genexprCodeX hcode (cd.code hPs ht3) (cd.tab hPs) hf fun c' h' tk hx hge hlt hco' _ htab' _ => ?_
    obtain ⟨o1, vs, f1, tf, fl, tg, inF, tx, tt, op, _, _, _, _, _, _, _, _, _, htr, _⟩ := hco'
    exact cont _ h' tk _ hx (Nat.le_trans hge (Nat.le_of_lt hlt)) htab'.2 ⟨_, rfl⟩ htr
  | some cv =>
    refine wpAny_genexprCode_hit hcode (cd.code hPs ht3) hf ?_
    exact cont cv s2.heap s2.toks ps (Heap.ExtBut.refl _ _) (Nat.le_refl _) hPs ⟨#[], by simp⟩ ht3
theorem pe_allG (hr : Room (k + 3) X.A) (hc : X.calm = true) (hN : X.N.Nodup) (hgl : Gl X "all") (hm : X.mg "all" = none) (TB : TabB X.base X.mg c P) (hcode : X.env.code = .ref c) (ok : BlkOk X.N X.env.scope scope own) (gk : GenOk scope) (hi : PI X tg iter wi)
    (hg : ∀ (A' : Around) (s : Shared) (H : Hp) (C : Addr) (code : Value) (fp : List Addr), Room k A' → PG (X.gx A' s H (gEnv X scope C code) fp) tg g)
    (ht : ∀ (A' : Around) (s : Shared) (H : Hp) (C : Addr) (code : Value) (fp : List Addr), Room k A' → PTs (X.gx A' s H (gEnv X scope C code) fp) ifs tt)
    (he : ∀ (A' : Around) (s : Shared) (H : Hp) (C : Addr) (code : Value) (fp : List Addr), Room k A' → PE (X.gx A' s H (gEnv X scope C code) fp) elt te)
    (hs : ∀ v, genFold iter X.env v = pure v := by intro _; rfl)
    (hse : starEach [.GeneratorExp elt [⟨tg, iter, ifs, 0⟩] scope gpos] X.env = (false, eval (.GeneratorExp elt [⟨tg, iter, ifs, 0⟩] scope gpos) X.env) :: starEach [] X.env := by rfl) :
    PE X (.Call (.Name "all" p) [.GeneratorExp elt [⟨tg, iter, ifs, 0⟩] scope gpos] [] pos) (tGx P false wi g tt te (own.map (·.2))) := by
  refine ⟨fun pins s σ H Q I h => ?_⟩
  refine wpAny_Call_Name_kw (ld_blt I hgl hm PyProof.Rows.boot_all ?_)
  refine PyProof.Rows.callWith_builtin1 ?_ hse (by rfl)
  rw [hse]
  show wpAny _ _ (spliced ((false, eval (.GeneratorExp elt [⟨tg, iter, ifs, 0⟩] scope gpos) X.env) :: backTo pos (starEach [] X.env))) _ _ s
  refine Calls.spliced_cons (gx_core hr hc hN TB hcode ok gk hi hg ht he hs I h fun Xg ga gi gob fp tn nb W Y Qe s5 ⟨hp, hw⟩ hgen e5 gq G fin => ?_)
  refine Calls.spliced_nil ?_
  refine call_function_tree F.kind_all F.plain_all F.entry_all (F.args_all1 _) ?_
  unfold Builtin.«all»
  refine wpAny_bind (m := oneArg "all" _) (wpAny_pure ?_)
  refine wpAny_bind (wpAny_pyIter_gen (hgen _ e5) ?_)
  refine wpAny_pure ⟨plainId_quiet F.plain_all_loop _, ?_⟩
  have lp := all_loopG (A := X.A) hr.hd hr.depth hgen gq nb s5 G
  rw [hp, hw] at lp
  refine codeAny_mono lp fun r s' ⟨b, H', e, I', qf⟩ => ?_
  subst e
  exact fin b H' s' I' qf
theorem pe_anyG (hr : Room (k + 3) X.A) (hc : X.calm = true) (hN : X.N.Nodup) (hgl : Gl X "any") (hm : X.mg "any" = none) (TB : TabB X.base X.mg c P) (hcode : X.env.code = .ref c) (ok : BlkOk X.N X.env.scope scope own) (gk : GenOk scope) (hi : PI X tg iter wi)
    (hg : ∀ (A' : Around) (s : Shared) (H : Hp) (C : Addr) (code : Value) (fp : List Addr), Room k A' → PG (X.gx A' s H (gEnv X scope C code) fp) tg g)
    (ht : ∀ (A' : Around) (s : Shared) (H : Hp) (C : Addr) (code : Value) (fp : List Addr), Room k A' → PTs (X.gx A' s H (gEnv X scope C code) fp) ifs tt)
    (he : ∀ (A' : Around) (s : Shared) (H : Hp) (C : Addr) (code : Value) (fp : List Addr), Room k A' → PE (X.gx A' s H (gEnv X scope C code) fp) elt te)
    (hs : ∀ v, genFold iter X.env v = pure v := by intro _; rfl)
    (hse : starEach [.GeneratorExp elt [⟨tg, iter, ifs, 0⟩] scope gpos] X.env = (false, eval (.GeneratorExp elt [⟨tg, iter, ifs, 0⟩] scope gpos) X.env) :: starEach [] X.env := by rfl) :
    PE X (.Call (.Name "any" p) [.GeneratorExp elt [⟨tg, iter, ifs, 0⟩] scope gpos] [] pos) (tGx P true wi g tt te (own.map (·.2))) := by
  refine ⟨fun pins s σ H Q I h => ?_⟩
  refine wpAny_Call_Name_kw (ld_blt I hgl hm PyProof.Rows.boot_any ?_)
  refine PyProof.Rows.callWith_builtin1 ?_ hse (by rfl)
  rw [hse]
  show wpAny _ _ (spliced ((false, eval (.GeneratorExp elt [⟨tg, iter, ifs, 0⟩] scope gpos) X.env) :: backTo pos (starEach [] X.env))) _ _ s
  refine Calls.spliced_cons (gx_core hr hc hN TB hcode ok gk hi hg ht he hs I h fun Xg ga gi gob fp tn nb W Y Qe s5 ⟨hp, hw⟩ hgen e5 gq G fin => ?_)
  refine Calls.spliced_nil ?_
  refine call_function_tree F.kind_any F.plain_any F.entry_any (F.args_any1 _) ?_
  unfold Builtin.«any»
  refine wpAny_bind (m := oneArg "any" _) (wpAny_pure ?_)
  refine wpAny_bind (wpAny_pyIter_gen (hgen _ e5) ?_)
  refine wpAny_pure ⟨plainId_quiet F.plain_any_loop _, ?_⟩
  have lp := any_loopG (A := X.A) hr.hd hr.depth hgen gq nb s5 G
  rw [hp, hw] at lp
  refine codeAny_mono lp fun r s' ⟨b, H', e, I', qf⟩ => ?_
  subst e
  exact fin b H' s' I' qf
end
end Pd
namespace Pd
open PySem PySem.Spec PyProof.Rows L2 GxR
def gxGo (sv : Bool) (g : Env → D → R Env) (tt : Env → R Bool) (te : EF) (ρ : Env) : List D → R Bool
  | [] => .ok (!sv)
  | d :: ds => (still ((g ρ d).bind fun ρ1 => (tt ρ1).bind fun b => if b = true then (te ρ1).bind fun y => (match y with
      | .bool c => .ok (some c)
      | _ => .stuck) else .ok none)).bind fun o => if o = some sv then .ok sv else gxGo sv g tt te ρ ds
def eGx (sv : Bool) (I : Env → R (List D)) (g : Env → D → R Env) (tt : Env → R Bool) (te : EF) (vs : List Nat) : EF := fun ρ => (I ρ).bind fun ds => (gxGo sv g tt te (wipeD ρ vs) ds).bind fun b => .ok (.bool b)
theorem gxGo_nox {sv : Bool} {g : Env → D → R Env} {tt : Env → R Bool} {te : EF} {ρ : Env} : ∀ ds, NoX (gxGo sv g tt te ρ ds)
  | [] => noxO
  | d :: ds => by
    unfold gxGo
    refine bind_nox (fun c e => ?_) fun o => noxI noxO (gxGo_nox ds)
    unfold still at e
    split at e <;> cases e
section
variable {X : Cx} {C : Cc} {W : WX} {O : Own} {c P : Addr} {elt tg iter : Expr} {ifs : List Expr} {scope : Scope} {own : List (Str × Nat)} {p pos gpos : Pos} {I : Env → R (List D)} {g : Env → D → R Env} {tt : Env → R Bool} {te : EF} {is : List Nat} {so : Option Nat} {k kk : Nat}
theorem gx_read {sv : Bool} (ng : ∀ ρ d, NoX (g ρ d)) (his : ∀ i ∈ is, i ∈ own.map (·.2)) (hP : P ∈ C.T) (σ : L2.St) (H : Hp) (Q : VK) (h : tD X.K C W O 0 (eGx sv I g tt te (own.map (·.2))) σ H Q) :
    tGx P sv (tI X.K C W O so I) (tG X.K O is g) (fun σ H Q => ∃ l, Pd.tB X.K (C.lock l so) W0 O tt σ H Q) (fun σ H Q => ∃ l, tD X.K (C.lock l so) W0 O kk te σ H Q) (own.map (·.2)) σ H Q := by
  obtain ⟨ρ, Fs, er, q⟩ := h
  refine ⟨ρ, Fs, er, (Sat.bind q).mono (fun ds q J H1 l x1 it nw => ?_) fun _ z => z⟩
  have er1 := (er.ex x1).lock nw
  have tP := er1.tab P hP
  refine ⟨tP, fun H2 hT => ?_⟩
  have x2 : Ex C.T H1 H2 := by
    obtain ⟨ps, e1, _⟩ := tP
    obtain ⟨tG, kp⟩ := hT
    refine ⟨fun b o e n => ?_, fun b e => ?_, fun t Q hQ => ?_⟩
    · rw [kp b fun z => by rw [z, e1] at e; cases e; exact n ps rfl]; exact e
    · by_cases z : b = P
      · obtain ⟨qs, e2, _⟩ := tG
        rw [z, e2]; simp
      · rw [kp b z]; exact e
    · by_cases z : Q = P
      · rw [z]; exact tG
      · obtain ⟨qs, e2, t2⟩ := t Q hQ
        exact ⟨qs, by rw [kp Q z]; exact e2, t2⟩
  have er2 := er1.ex x2
  have x12 := x1.trans x2
  have q := (Sat.bind q).nox (gxGo_nox _)
  refine ⟨ds.length, fun i H3 => ER X.K (C.lock l so) O H3 σ ρ Fs ∧ Ex C.T H H3 ∧ Sat (gxGo sv g tt te (wipeD ρ (own.map (·.2))) (ds.drop i)) (fun b => ∀ H', Ex C.T H H' → Q (.bl b) H') (fun _ => False),
    fun i y H3 => ∃ b, y = .bl b ∧ (b = sv → Q (.bl sv) H3) ∧ (b = !sv → ER X.K (C.lock l so) O H3 σ ρ Fs ∧ Ex C.T H H3 ∧ Sat (gxGo sv g tt te (wipeD ρ (own.map (·.2))) (ds.drop (i + 1))) (fun b => ∀ H', Ex C.T H H' → Q (.bl b) H') (fun _ => False)),
    fun H3 => Q (.bl (!sv)) H3, ⟨er2, x12, q.mono (fun b w H' x => w (.bl b) H' [] x (.bl b) .nil) fun _ z => z⟩, ?_, ⟨fun i y H3 h => h, fun H3 h => h⟩⟩
  rintro i H3 ⟨er3, x3, q3⟩
  have kp : Kp l.HG H3 l.F := (er3.lks l List.mem_cons_self).kp
  by_cases hlt : i < ds.length
  · have e1 : ds.drop i = ds[i] :: ds.drop (i + 1) := List.drop_eq_getElem_cons hlt
    rw [e1] at q3
    have q3 := still_sat (Sat.bind q3)
    refine .inr ⟨hlt, it.go i H3 kp hlt, fun v H4 y => ?_⟩
    obtain ⟨x4, G, r4, g4⟩ := it.yld i H3 v H4 ds[i] kp (List.getElem?_eq_getElem hlt) y
    have er4 := er3.ex x4
    obtain ⟨Fw, erw, kw⟩ := er4.wipe (own.map (·.2))
    have owns : ∀ j ∈ O, ∀ b ∈ Fw j, b ∈ Fs j := fun j hj b hb => by
      by_cases hv : j ∈ own.map (·.2)
      · exfalso
        have e : Fw j = [] := by
          refine erw.emp j fun d hd => ?_
          obtain ⟨u, h1, _⟩ := erw.rep j d hd
          obtain ⟨_, h2⟩ := wipe_some h1
          exact h2 hv
        rw [e] at hb; cases hb
      · rw [kw j hv] at hb; exact hb
    refine ⟨C.lock l so, _, Fw, ds[i], G, erw, r4, fun j hj b hb z => ?_, (Sat.bind q3).mono (fun ρ5 p5 σ5 Fs5 er5 k5 s5 => ?_) fun _ z => z⟩
    · have hb := owns j hj b hb
      rcases g4 b z with ⟨h0, h1⟩ | h1
      · exact (er3.lks l List.mem_cons_self).sep j hj (by rw [h0]; intro q; cases q) b hb h1
      · exact er3.nn j b hb h1
    · refine ⟨wipe_same his s5, l, ρ5, Fs5, er5, (Sat.bind p5).mono (fun b p6 H6 x6 => ?_) fun _ z => z.elim⟩
      have x36 := x4.trans x6
      have er6 := er3.ex x36
      cases b with
      | false =>
        refine ite_ff ⟨er6, x3.trans x36, ?_⟩
        have p6 : Sat (if (none : Option Bool) = some sv then R.ok sv else gxGo sv g tt te (wipeD ρ (own.map (·.2))) (ds.drop (i + 1))) _ _ := p6
        rw [if_neg (by intro z; cases z)] at p6
        exact p6
      | true =>
        rw [if_pos rfl] at p6
        refine ite_tt ⟨l, ρ5, Fs5, er5.ex x6, (Sat.bind p6).mono (fun y p7 v7 H7 F7 x7 r7 kd7 => ?_) fun _ z => z.elim⟩
        cases y with
        | bool b =>
          cases r7
          have x37 := x36.trans x7
          have p7 : Sat (if some b = some sv then R.ok sv else gxGo sv g tt te (wipeD ρ (own.map (·.2))) (ds.drop (i + 1))) _ _ := p7
          refine ⟨b, rfl, fun e => ?_, fun e => ⟨er3.ex x37, x3.trans x37, ?_⟩⟩
          · rw [if_pos (by rw [e])] at p7
            exact p7 H7 (x3.trans x37)
          · rw [if_neg (by rw [e]; cases sv <;> decide)] at p7
            exact p7
        | _ => exact p7.elim
  · have e1 : ds.drop i = [] := List.drop_eq_nil_of_le (by omega)
    rw [e1] at q3
    exact .inl ⟨it.stop i H3 kp (by omega), q3 H3 x3⟩
theorem ev_all (hr : Room (k + 3) X.A) (hc : X.calm = true) (hN : X.N.Nodup) (hgl : Gl X "all") (hm : X.mg "all" = none) (TB : TabB X.base X.mg c P) (hP : P ∈ C.T) (hcode : X.env.code = .ref c) (ok : BlkOk X.N X.env.scope scope own) (gk : GenOk scope) (hi : IV X C W O tg iter so I) (ng : ∀ ρ d, NoX (g ρ d))
    (hg : ∀ (A' : Around) (s : Shared) (H : Hp) (C : Addr) (code : Value) (fp : List Addr), Room k A' → GV (X.gx A' s H (gEnv X scope C code) fp) O tg is g)
    (ht : ∀ (A' : Around) (s : Shared) (H : Hp) (c : Addr) (code : Value) (fp : List Addr) (l : Lk), Room k A' → TTs (X.gx A' s H (gEnv X scope c code) fp) (C.lock l so) W0 O ifs tt)
    (he : ∀ (A' : Around) (s : Shared) (H : Hp) (c : Addr) (code : Value) (fp : List Addr) (l : Lk), Room k A' → EV (X.gx A' s H (gEnv X scope c code) fp) (C.lock l so) W0 O elt kk te)
    (his : ∀ i ∈ is, i ∈ own.map (·.2) := by decide) (hs : ∀ v, genFold iter X.env v = pure v := by intro _; rfl)
    (hse : starEach [.GeneratorExp elt [⟨tg, iter, ifs, 0⟩] scope gpos] X.env = (false, eval (.GeneratorExp elt [⟨tg, iter, ifs, 0⟩] scope gpos) X.env) :: starEach [] X.env := by rfl) {sl : List Nat} (hsl : own.map (·.2) = sl := by rfl) :
    EV X C W O (.Call (.Name "all" p) [.GeneratorExp elt [⟨tg, iter, ifs, 0⟩] scope gpos] [] pos) 0 (eGx false I g tt te sl) := by
  subst hsl
  exact (pe_allG hr hc hN hgl hm TB hcode ok gk hi (fun A' s H c code fp r => (hg A' s H c code fp r).pg) (fun A' s H c code fp r => ⟨fun pins s' σ H' Q I' ⟨l, h⟩ => (ht A' s H c code fp l r).run pins s' σ H' Q I' h⟩)
    (fun A' s H c code fp r => ⟨fun pins s' σ H' Q I' ⟨l, h⟩ => (he A' s H c code fp l r).run pins s' σ H' Q I' h⟩) hs hse).imp (gx_read ng his hP)
theorem ev_any (hr : Room (k + 3) X.A) (hc : X.calm = true) (hN : X.N.Nodup) (hgl : Gl X "any") (hm : X.mg "any" = none) (TB : TabB X.base X.mg c P) (hP : P ∈ C.T) (hcode : X.env.code = .ref c) (ok : BlkOk X.N X.env.scope scope own) (gk : GenOk scope) (hi : IV X C W O tg iter so I) (ng : ∀ ρ d, NoX (g ρ d))
    (hg : ∀ (A' : Around) (s : Shared) (H : Hp) (C : Addr) (code : Value) (fp : List Addr), Room k A' → GV (X.gx A' s H (gEnv X scope C code) fp) O tg is g)
    (ht : ∀ (A' : Around) (s : Shared) (H : Hp) (c : Addr) (code : Value) (fp : List Addr) (l : Lk), Room k A' → TTs (X.gx A' s H (gEnv X scope c code) fp) (C.lock l so) W0 O ifs tt)
    (he : ∀ (A' : Around) (s : Shared) (H : Hp) (c : Addr) (code : Value) (fp : List Addr) (l : Lk), Room k A' → EV (X.gx A' s H (gEnv X scope c code) fp) (C.lock l so) W0 O elt kk te)
    (his : ∀ i ∈ is, i ∈ own.map (·.2) := by decide) (hs : ∀ v, genFold iter X.env v = pure v := by intro _; rfl)
    (hse : starEach [.GeneratorExp elt [⟨tg, iter, ifs, 0⟩] scope gpos] X.env = (false, eval (.GeneratorExp elt [⟨tg, iter, ifs, 0⟩] scope gpos) X.env) :: starEach [] X.env := by rfl) {sl : List Nat} (hsl : own.map (·.2) = sl := by rfl) :
    EV X C W O (.Call (.Name "any" p) [.GeneratorExp elt [⟨tg, iter, ifs, 0⟩] scope gpos] [] pos) 0 (eGx true I g tt te sl) := by
  subst hsl
  exact (pe_anyG hr hc hN hgl hm TB hcode ok gk hi (fun A' s H c code fp r => (hg A' s H c code fp r).pg) (fun A' s H c code fp r => ⟨fun pins s' σ H' Q I' ⟨l, h⟩ => (ht A' s H c code fp l r).run pins s' σ H' Q I' h⟩)
    (fun A' s H c code fp r => ⟨fun pins s' σ H' Q I' ⟨l, h⟩ => (he A' s H c code fp l r).run pins s' σ H' Q I' h⟩) hs hse).imp (gx_read ng his hP)
end
/-! ### built-in functions -/
structure CallD (X : Cx) (T : List Addr) (f : Value) (g : List D → R D) : Prop where
  nox : ∀ ds, NoX (g ds)
  ex : ∃ r : List V → Hp → VK → Prop, CallR X f r ∧ ∀ H vs ds F Q, RpL X.K H vs ds F →
    Sat (g ds) (fun d => ∀ v H' F', Ex T H H' → Rp X.K H' v d F' → Mix1 H F F' → Q v H') (fun _ => False) → r vs H Q
def eFun (g : List D → R D) (L : Env → R (List D)) : EF := fun ρ => (L ρ).bind g
section
variable {X : Cx} {C : Cc} {W : WX} {O : Own} {x : Str} {id T : String} {e : Expr} {es : List Expr} {k : Nat} {L : Env → R (List D)} {g : List D → R D} {p pos apos : Pos} {f : Value} {o : Expr} {F : EF} {ko : Nat}
theorem fun_read {r : List V → Hp → VK → Prop} (nox : ∀ ds, NoX (g ds)) (hr : ∀ H vs ds F Q, RpL X.K H vs ds F → Sat (g ds) (fun d => ∀ v H' F', Ex C.T H H' → Rp X.K H' v d F' → Mix1 H F F' → Q v H') (fun _ => False) → r vs H Q)
    (σ : L2.St) (H : Hp) (Q : VK) (h : tD X.K C W O k (eFun g L) σ H Q) : tCB r (tL X.K C W O k L) σ H Q := by
  obtain ⟨ρ, Fs, er, q⟩ := h
  refine tL.step er (Sat.bind q) fun ds vs H1 F1 p er1 x1 r1 kd1 => ?_
  exact hr H1 vs ds F1 Q r1 ((p.nox (nox _)).mono (fun d p v H' F' x r m => p v H' F' (x1.trans x) r (kd1.mix1 x1 m)) fun _ z => z)
theorem ev_fn (B : CallD X C.T (.builtin id) g) (hg : Gl X x) (hm : X.mg x = none) (hv : bootBuiltins x = some (.builtin id)) (ha : AVn X C W O (e :: es) k L) (hn : x ≠ "__name__" := by decide) (hdb : (x == ("__debug__" : Str)) = false := by decide)
    (he : starEach (e :: es) X.env = (false, eval e X.env) :: starEach es X.env := by rfl) (hpl : (backTo pos (starEach es X.env)).any (·.1) = false := by rfl) : EV X C W O (.Call (.Name x p) (e :: es) [] pos) k (eFun g L) := by
  obtain ⟨nox, r, hc, hr⟩ := B
  exact (pe_callB hc hg hm hv ha.av hn hdb he hpl).imp (fun_read nox hr)
theorem ev_ty (B : CallD X C.T (.type T) g) (hg : Gl X x) (hm : X.mg x = none) (hv : bootBuiltins x = some (.type T)) (ha : AVn X C W O (e :: es) k L) (hn : x ≠ "__name__" := by decide) (hdb : (x == ("__debug__" : Str)) = false := by decide)
    (he : starEach (e :: es) X.env = (false, eval e X.env) :: starEach es X.env := by rfl) (hpl : (backTo pos (starEach es X.env)).any (·.1) = false := by rfl) : EV X C W O (.Call (.Name x p) (e :: es) [] pos) k (eFun g L) := by
  obtain ⟨nox, r, hc, hr⟩ := B
  exact (pe_callTy hc hg hm hv ha.av hn hdb he hpl).imp (fun_read nox hr)
/-- what is always without lists and dicts is fresh -/
theorem ev_fresh {k : Nat} (h : EV X C W O e k F) (im : ∀ ρ d, F ρ = .ok d → imm d = true) : EV X C W O e 0 F := h.imp fun σ H Q ⟨ρ, Fs, er, q⟩ => by
  refine ⟨ρ, Fs, er, ?_⟩
  cases e : F ρ with
  | ok d =>
    rw [e] at q
    intro v H' F' x r kd
    have e1 := r.imm (im ρ d e)
    subst e1
    exact q v H' [] x r .nil
  | exc c => rw [e] at q; exact q
  | stuck => rw [e] at q; exact q
end
def lenD : List D → R D
  | [.tuple ds] => .ok (.int ds.length)
  | [.list ds] => .ok (.int ds.length)
  | [.str y] => if y.length ≤ 16777216 then .ok (.int y.length) else .stuck
  | [.dict [(.none, .tuple ds)]] => .ok (.int ds.length)
  | _ => .stuck
def absD : List D → R D
  | [.int i] => .ok (.int (if i < 0 then -i else i))
  | _ => .stuck
def max2D : List D → R D
  | [.int i, .int j] => .ok (.int (if j > i then j else i))
  | _ => .stuck
def min2D : List D → R D
  | [.int i, .int j] => .ok (.int (if j < i then j else i))
  | _ => .stuck
def intD : List D → R D
  | [.int i] => .ok (.int i)
  | [.bool b] => .ok (.int (if b then 1 else 0))
  | _ => .stuck
def tupleD : List D → R D
  | [.tuple ds] => .ok (.tuple ds)
  | [.list ds] => .ok (.tuple ds)
  | [.dict [(.none, .tuple ds)]] => .ok (.tuple ds)
  | _ => .stuck
def listD : List D → R D
  | [.tuple ds] => .ok (.list ds)
  | [.list ds] => .ok (.list ds)
  | [.dict [(.none, .tuple ds)]] => .ok (.list ds)
  | _ => .stuck
theorem callr_or {X : Cx} {f : Value} {r r' : List V → Hp → VK → Prop} (h : CallR X f r) (h' : CallR X f r') : CallR X f (fun xs H Q => r xs H Q ∨ r' xs H Q) := by
  intro pins s σ H xs us Q I rr q
  rcases q with q | q
  · exact h pins s σ H xs us Q I rr q
  · exact h' pins s σ H xs us Q I rr q
section
variable {X : Cx} {T : List Addr}
theorem dK_no {K : PySem.W.Frag} {H : Hp} {v : V} {kvs : List (D × D)} {F : List Addr} (r : Rp K H v (.dict kvs) F) : (∃ a xs ds, v = .ref a ∧ kvs = [(.none, .tuple ds)] ∧ F = [] ∧ RoL K H a xs ∧ RpL K H xs ds []) ∨ ∀ ds, kvs ≠ [(.none, .tuple ds)] := by
  cases r with
  | ro s r => exact .inl ⟨_, _, _, rfl, rfl, rfl, s, r⟩
  | @dK p kvs ks vs F e1 e2 r =>
    refine .inr fun ds e => ?_
    cases kvs with
    | nil => subst e2; cases e
    | cons kv kvs =>
      subst e2
      cases r with
      | cons r1 r2 =>
        obtain ⟨kk, vv⟩ := kv
        cases kk <;> cases e
  | @dT p kvs ks vs F e1 e2 r =>
    refine .inr fun ds e => ?_
    cases kvs with
    | nil => subst e2; cases e
    | cons kv kvs =>
      subst e2
      cases r with
      | cons r1 r2 => cases e
/-- things that stand in a row -/
theorem seq_cases {K : PySem.W.Frag} {H : Hp} {v : V} {d : D} {F : List Addr} {ds : List D} (r : Rp K H v d F) (h : itD d = .ok ds) : ∃ a xs G, v = .ref a ∧ RpL K H xs ds G ∧ List.Sublist G F ∧ ((SqL K H a xs ∧ ∀ es, d ≠ .tuple es) ∨ (NT K H a xs ∧ d = .tuple ds ∧ G = F)) := by
  cases r with
  | tup s r => cases h; exact ⟨_, _, _, rfl, r, List.Sublist.refl _, .inr ⟨s, rfl, rfl⟩⟩
  | lst s r => cases h; exact ⟨_, _, _, rfl, r, List.sublist_cons_self _ _, .inl ⟨.inl (.inl s), fun es z => by cases z⟩⟩
  | ro s r => cases h; exact ⟨_, _, _, rfl, r, List.Sublist.refl _, .inl ⟨s.sq, fun es z => by cases z⟩⟩
  | dK s e r =>
    rename_i kvs ks vs F
    rcases dK_no (.dK s e r) with ⟨a, xs, ds', _, e2, _, _, _⟩ | no
    · rename_i p
      exfalso
      cases kvs with
      | nil => subst e; cases e2
      | cons kv kvs =>
        subst e
        cases r with
        | cons r1 r2 =>
          obtain ⟨kk, vv⟩ := kv
          cases kk <;> cases e2
    · unfold itD at h
      split at h <;> first | cases h | skip
      all_goals (rename_i heq; first | (cases heq; done) | (injection heq with heq; exact absurd heq (no _)))
  | dT s e r =>
    rename_i kvs ks vs F
    rcases dK_no (.dT s e r) with ⟨a, xs, ds', _, e2, _, _, _⟩ | no
    · exfalso
      cases kvs with
      | nil => subst e; cases e2
      | cons kv kvs =>
        subst e
        cases r with
        | cons r1 r2 => cases e2
    · unfold itD at h
      split at h <;> first | cases h | skip
      all_goals (rename_i heq; first | (cases heq; done) | (injection heq with heq; exact absurd heq (no _)))
  | _ => cases h
end
end Pd
namespace Pd
open PySem PySem.Spec PyProof.Rows L2
section
variable {X : Cx} {T : List Addr}
theorem noxTac1 : True := trivial
theorem c_len : CallD X T (.builtin "len") lenD where
  nox := fun ds => by
    unfold lenD
    split <;> first | exact noxO | exact noxI noxO noxS | exact noxS
  ex := by
    refine ⟨_, callr_or call_len_seq call_len_str, fun H vs ds F Q r h => ?_⟩
    cases r with
    | nil => exact h.elim
    | cons r1 rs =>
      cases rs with
      | cons r2 rs =>
        exfalso
        unfold lenD at h
        split at h <;> first | exact h | (rename_i heq; cases heq)
      | nil =>
        cases r1 with
        | tup s r => exact .inl ⟨_, _, rfl, .inr s.sq, by rw [r.length]; exact h _ H [] .refl (.int _) Mix1.nil⟩
        | lst s r => exact .inl ⟨_, _, rfl, .inl (.inl (.inl s)), by rw [r.length]; exact h _ H [] .refl (.int _) Mix1.nil⟩
        | ro s r => exact .inl ⟨_, _, rfl, .inl s.sq, by rw [r.length]; exact h _ H [] .refl (.int _) Mix1.nil⟩
        | str y =>
          obtain ⟨hy, h⟩ := satI h
          exact .inr ⟨y, rfl, by rw [sz16]; exact hy, h _ H [] .refl (.int _) Mix1.nil⟩
        | dK s e r =>
          exfalso
          rename_i p kvs ks vs F
          cases kvs with
          | nil => subst e; exact h
          | cons kv kvs =>
            subst e
            cases r with
            | cons r1 r2 =>
              obtain ⟨kk, vv⟩ := kv
              cases kk <;> exact h
        | dT s e r =>
          exfalso
          rename_i p kvs ks vs F
          cases kvs with
          | nil => subst e; exact h
          | cons kv kvs =>
            subst e
            cases r with
            | cons r1 r2 => exact h
        | _ => exact False.elim h
theorem c_abs : CallD X T (.builtin "abs") absD where
  nox := fun ds => by
    unfold absD
    split <;> first | exact noxO | exact noxS
  ex := by
    refine ⟨_, call_abs, fun H vs ds F Q r h => ?_⟩
    cases r with
    | nil => exact h.elim
    | cons r1 rs =>
      cases rs with
      | cons r2 rs => cases r1 <;> exact False.elim h
      | nil => cases r1 <;> first | exact False.elim h | exact ⟨_, rfl, h _ H [] .refl (.int _) Mix1.nil⟩
theorem c_int2 {f : Value} {gi : Int → Int → Int} {g : List D → R D} (hc : CallR X f (fun xs H Q => ∃ i j, xs = [.int i, .int j] ∧ Q (.int (gi i j)) H)) (nox : ∀ ds, NoX (g ds))
    (hg : ∀ ds (P : D → Prop), Sat (g ds) P (fun _ => False) → ∃ i j, ds = [.int i, .int j] ∧ P (.int (gi i j))) : CallD X T f g := ⟨nox, _, hc, fun H vs ds F Q r h => by
  obtain ⟨i, j, rfl, p⟩ := hg _ _ h
  match vs, r with
  | [_, _], .cons r1 (.cons r2 .nil) =>
    cases r1
    cases r2
    exact ⟨i, j, rfl, p _ H [] .refl (.int _) Mix1.nil⟩⟩
theorem c_max2 (hc : X.calm = true) : CallD X T (.builtin "max") max2D := c_int2 (call_max2 hc) (fun ds => by unfold max2D; split <;> first | exact noxO | exact noxS) fun ds P h => by
  unfold max2D at h
  split at h
  · exact ⟨_, _, rfl, h⟩
  · exact h.elim
theorem c_min2 (hc : X.calm = true) : CallD X T (.builtin "min") min2D := c_int2 (call_min2 hc) (fun ds => by unfold min2D; split <;> first | exact noxO | exact noxS) fun ds P h => by
  unfold min2D at h
  split at h
  · exact ⟨_, _, rfl, h⟩
  · exact h.elim
theorem c_int : CallD X T (.type "int") intD where
  nox := fun ds => by
    unfold intD
    split <;> first | exact noxO | exact noxS
  ex := by
    refine ⟨_, call_int1, fun H vs ds F Q r h => ?_⟩
    cases r with
    | nil => exact h.elim
    | cons r1 rs =>
      cases rs with
      | cons r2 rs => cases r1 <;> exact False.elim h
      | nil => cases r1 <;> first | exact False.elim h | exact .inl ⟨_, rfl, h _ H [] .refl (.int _) Mix1.nil⟩ | exact .inr ⟨_, rfl, h _ H [] .refl (.int _) Mix1.nil⟩
theorem itD_tuple {d : D} : tupleD [d] = (itD d).bind fun ds => .ok (.tuple ds) := by
  unfold tupleD itD
  split <;> first | rfl | (split <;> first | rfl | (rename_i h1 h2; simp_all))
theorem itD_list {d : D} : listD [d] = (itD d).bind fun ds => .ok (.list ds) := by
  unfold listD itD
  split <;> first | rfl | (split <;> first | rfl | (rename_i h1 h2; simp_all))
theorem itD_sat {α : Type} {d : D} {f : List D → R α} {P : α → Prop} {E : Str → Prop} (h : Sat ((itD d).bind f) P E) : ∃ ds, itD d = .ok ds ∧ Sat (f ds) P E := by
  cases e : itD d with
  | ok ds => rw [e] at h; exact ⟨ds, rfl, h⟩
  | exc c => exact (noxIt d c e).elim
  | stuck => rw [e] at h; exact h.elim
theorem c_tuple : CallD X T (.type "tuple") tupleD where
  nox := fun ds => by
    unfold tupleD
    split <;> first | exact noxO | exact noxS
  ex := by
    refine ⟨_, call_tupleF, fun H vs ds F Q r h => ?_⟩
    cases r with
    | nil => exact h.elim
    | @cons v vs d ds F1 F2 r1 rs =>
      cases rs with
      | cons r2 rs =>
        exfalso
        unfold tupleD at h
        split at h <;> first | exact h | (rename_i heq; cases heq)
      | nil =>
        rw [itD_tuple] at h
        obtain ⟨es, e, h⟩ := itD_sat h
        obtain ⟨a, xs, G, rfl, r', sb, w⟩ := seq_cases r1 e
        refine ⟨a, xs, rfl, ?_⟩
        rcases w with ⟨s, _⟩ | ⟨s, rfl, rfl⟩
        · refine .inl ⟨s, fun l o hl ho => ?_⟩
          have x : Ex T H (upd H l (.frz o (.tup xs))) := .new hl
          exact h _ _ G x (.tup (.new ho) (r'.ex x)) (mix1_sub (sb.trans (List.sublist_append_left _ _)))
        · exact .inr ⟨s.sq, h _ H G .refl (.tup s r') (mix1_sub (List.sublist_append_left _ _))⟩
theorem c_list : CallD X T (.type "list") listD where
  nox := fun ds => by
    unfold listD
    split <;> first | exact noxO | exact noxS
  ex := by
    refine ⟨_, call_list_of, fun H vs ds F Q r h => ?_⟩
    cases r with
    | nil => exact h.elim
    | @cons v vs d ds F1 F2 r1 rs =>
      cases rs with
      | cons r2 rs =>
        exfalso
        unfold listD at h
        split at h <;> first | exact h | (rename_i heq; cases heq)
      | nil =>
        rw [itD_list] at h
        obtain ⟨es, e, h⟩ := itD_sat h
        obtain ⟨a, xs, G, rfl, r', sb, w⟩ := seq_cases r1 e
        refine ⟨a, xs, rfl, ?_⟩
        have fin : ∀ l, H l = none → Q (.ref l) (upd H l (.lst xs)) := fun l hl => by
          have x : Ex T H (upd H l (.lst xs)) := .new hl
          exact h _ _ (l :: G) x (.lst upd_same (r'.ex x)) (mix1_new hl (fun c hc => by
            rcases List.mem_append.mp hc with z | z
            · exact r1.nn c z
            · cases z) (sb.trans (List.sublist_append_left _ _)))
        rcases w with ⟨s, _⟩ | ⟨s, _, _⟩
        · exact ⟨.inl s, fin⟩
        · exact ⟨.inr s.sq, fin⟩
/-- max, min of a list or a tuple: the first of the greatest, the least -/
def okCmp (ds : List D) : Bool := shp (.list ds) && (ds.all fun x => ds.all fun y => PySem.W.alike x y) && ds.all fun x => match x with
  | .none => false
  | _ => true
def bestD (g : D → List D → D) : List D → R D
  | [d] => (itD d).bind fun ds => match ds with
    | [] => .stuck
    | x :: xs => if okCmp (x :: xs) = true then .ok (g x xs) else .stuck
  | _ => .stuck
def maxLD : List D → R D := bestD PySem.W.maxD
def minLD : List D → R D := bestD PySem.W.minD
theorem okCmp_alike {ds : List D} (h : okCmp ds = true) : PySem.W.AlikeAll ds ∧ PyData.depthAll ds ≤ 63 ∧ PyData.canLayAll0 ds = true := by
  unfold okCmp at h
  rw [Bool.and_eq_true, Bool.and_eq_true] at h
  obtain ⟨⟨h1, h2⟩, h3⟩ := h
  have hd := SeqAt.depth_of_shaped h1
  have hl := SeqAt.canLay_of_shaped h1
  refine ⟨⟨fun x hx y hy => List.all_eq_true.mp (List.all_eq_true.mp h2 x hx) y hy, fun x hx e => ?_⟩, ?_, by simpa [PyData.canLay0] using hl⟩
  · have := List.all_eq_true.mp h3 x hx
    rw [e] at this; cases this
  · have e : PyData.depth (.list ds) = PyData.depthAll ds + 1 := by simp [PyData.depth]
    rw [e] at hd
    omega
/-- the rule, by data -/
theorem call_bestT {M : Bool} (hc : X.calm = true) (hu : X.A.units + 65 < cLine) : CallR X (.builtin (if M = true then "max" else "min")) (fun xs H Q => ∃ (a : Addr) (ys : List V) (x : D) (ds : List D), xs = [.ref a] ∧ (SqL X.K H a ys ∨ SqT X.K H a ys) ∧ DpAll X.K H ys (x :: ds) ∧ okCmp (x :: ds) = true ∧
    ∀ (i : Nat) (y : V), ys[i]? = some y → (x :: ds)[i]? = some (if M = true then PySem.W.maxD x ds else PySem.W.minD x ds) → Q y H) := by
  intro pins s σ H xs us Q I r h
  obtain ⟨a, ys, x, ds, rfl, hs, hd, hk, q⟩ := h
  obtain rfl := Vals.ref1 r
  obtain ⟨hal, hdep, hlay⟩ := okCmp_alike hk
  have hu1 : X.A.units + 1 + PyData.depthAll (x :: ds) < cLine := by omega
  have hh := I.ok.hd hc
  have fin : ∀ (its : List Value), Vals ys its → (∃ as, ReadsAll s.heap its (x :: ds) as) → ∀ (i : Nat) v h' tk bs, its.toArray[i]? = some v → Reads h' v (if M = true then PySem.W.maxD x ds else PySem.W.minD x ds) bs → (∀ b o, s.heap.get? b = some o → h'.get? b = some o) →
      EP X pins σ Q v { s with heap := h', toks := tk } := fun its rv hr i v h' tk bs hi rd kp => by
    have hi' : its[i]? = some v := by simpa using hi
    obtain ⟨as, hra⟩ := hr
    obtain ⟨bs2, r2, hlt, hmem, _⟩ := PySem.W.readsAll_at hra i v hi'
    have hyl : i < ys.length := by
      have h1 := (List.getElem?_eq_some_iff.mp hi').1
      have h2 := rv.length
      omega
    obtain ⟨u, hu', ru⟩ := rv.get (List.getElem?_eq_getElem hyl)
    rw [hi'] at hu'
    cases hu'
    have r2' : Reads h' v ((x :: ds).getD i .none) bs2 := PyProof.Rows.Reads.keeps kp r2
    have e : (x :: ds).getD i .none = (if M = true then PySem.W.maxD x ds else PySem.W.minD x ds) := (Reads.unique r2' _ _ rd).1
    refine ⟨ys[i], H, I.kept (t' := tk) kp, ru, q i _ (List.getElem?_eq_getElem hyl) ?_⟩
    rw [← e, List.getD_eq_getElem?_getD, List.getElem?_eq_getElem hlt]
    rfl
  rcases hs with hs | hs
  · obtain ⟨its, rv, p, hz⟩ := I.list hs
    obtain ⟨as, hr⟩ := Dp.readsAll I _ _ _ hd rv
    have hr' : ReadsAll s.heap its.toArray.toList (x :: ds) as := by simpa using hr
    cases M with
    | true => exact PySem.W.max_list_data hh p.isList hr' hal hu1 fun i v h' tk bs e1 e2 e3 => fin its rv ⟨as, hr⟩ i v h' tk bs e1 e2 e3
    | false => exact PySem.W.min_list_data hh p.isList hr' hal hu1 fun i v h' tk bs e1 e2 e3 => fin its rv ⟨as, hr⟩ i v h' tk bs e1 e2 e3
  · obtain ⟨its, rv, p, hz⟩ := I.tuple hs
    obtain ⟨as, hr⟩ := Dp.readsAll I _ _ _ hd rv
    have hr' : ReadsAll s.heap its.toArray.toList (x :: ds) as := by simpa using hr
    have p' : s.heap.IsTuple a its.toArray := p
    cases M with
    | true => exact PySem.W.max_tuple_data hh p' hr' hal hu1 fun i v h' tk bs e1 e2 e3 => fin its rv ⟨as, hr⟩ i v h' tk bs e1 e2 e3
    | false => exact PySem.W.min_tuple_data hh p' hr' hal hu1 fun i v h' tk bs e1 e2 e3 => fin its rv ⟨as, hr⟩ i v h' tk bs e1 e2 e3
theorem c_best {M : Bool} (hc : X.calm = true) (hu : X.A.units + 65 < cLine) : CallD X T (.builtin (if M = true then "max" else "min")) (bestD fun x ds => if M = true then PySem.W.maxD x ds else PySem.W.minD x ds) where
  nox := fun ds => by
    unfold bestD
    split
    · exact bind_nox (noxIt _) fun es => by split <;> first | exact noxS | exact noxI noxO noxS
    · exact noxS
  ex := by
    refine ⟨_, call_bestT hc hu, fun H vs ds F Q r h => ?_⟩
    cases r with
    | nil => exact h.elim
    | @cons v vs d ds F1 F2 r1 rs =>
      cases rs with
      | cons r2 rs => exact h.elim
      | nil =>
        obtain ⟨es, e, h⟩ := itD_sat h
        obtain ⟨a, xs, G, rfl, r', sb, w⟩ := seq_cases r1 e
        cases es with
        | nil => exact h.elim
        | cons x es =>
          obtain ⟨hk, h⟩ := satI h
          refine ⟨a, xs, x, es, rfl, w.elim (fun z => .inl z.1) (fun z => .inr z.1.sq), r'.dp (okCmp_alike hk).2.2, hk, fun i y hi hd => ?_⟩
          obtain ⟨y', G', e1, r3, sb3⟩ := r'.get hd
          rw [hi] at e1
          cases e1
          exact h _ H G' .refl r3 (mix1_sub ((sb3.trans sb).trans (List.sublist_append_left _ _)))
theorem c_maxL (hc : X.calm = true) (hu : X.A.units + 65 < cLine) : CallD X T (.builtin "max") maxLD := c_best (M := true) hc hu
theorem c_minL (hc : X.calm = true) (hu : X.A.units + 65 < cLine) : CallD X T (.builtin "min") minLD := c_best (M := false) hc hu
/-! isinstance(x, T) -/
def tyD : D → String
  | .none => "NoneType"
  | .bool _ => "bool"
  | .int _ => "int"
  | .str _ => "str"
  | .tuple _ => "tuple"
  | .list _ => "list"
  | .dict [(.none, .tuple _)] => "list"
  | .dict _ => "dict"
def isiD (T : String) (x : D) : Bool := tyD x == T || (tyD x == "bool" && T == "int")
theorem rp_ty {K : PySem.W.Frag} {H : Hp} {v : V} {d : D} {F : List Addr} (r : Rp K H v d F) : TyX K H v (.type (tyD d)) := by
  cases r with
  | non => exact .base .non
  | bl b => exact .base (.bl b)
  | int i => exact .base (.int i)
  | str x => exact .base (.str x)
  | tup s r =>
    rcases s with ⟨o, s, _⟩ | ⟨o, its, n, e, c, _⟩
    · exact .fTuple s
    · exact .kTuple e c.1
  | lst s r => exact .base (.lst s)
  | ro s r =>
    rcases s with ⟨o, s⟩ | ⟨o, its, n, e, c, _⟩
    · exact .base (.frz s)
    · exact .kList e c
  | @dK p kvs ks vs F e1 e2 r =>
    have e : tyD (.dict (ks.zip vs)) = "dict" := by
      unfold tyD
      split
      all_goals first | rfl | (rename_i heq; cases heq; done) | skip
      rename_i heq
      cases kvs with
      | nil => subst e2; cases heq
      | cons kv kvs =>
        subst e2
        cases r with
        | cons r1 r2 =>
          obtain ⟨kk, vv⟩ := kv
          cases kk <;> cases heq
    rw [e]
    exact .base (.dK e1)
  | @dT p kvs ks vs F e1 e2 r =>
    have e : tyD (.dict (ks.zip vs)) = "dict" := by
      unfold tyD
      split
      all_goals first | rfl | (rename_i heq; cases heq; done) | skip
      rename_i heq
      cases kvs with
      | nil => subst e2; cases heq
      | cons kv kvs =>
        subst e2
        cases r with
        | cons r1 r2 => cases heq
    rw [e]
    exact .base (.dT e1)
def isiB (T : String) : Bool := decide (∀ t ∈ ["NoneType", "bool", "int", "str", "tuple", "list", "dict"], kitB t T = some (t == T || (t == "bool" && T == "int")))
theorem tyD_mem (d : D) : tyD d ∈ ["NoneType", "bool", "int", "str", "tuple", "list", "dict"] := by
  unfold tyD
  split <;> decide
def eIsi (T : String) (F : EF) : EF := fun ρ => (F ρ).bind fun d => .ok (.bool (isiD T d))
theorem isi_int : isiB "int" = true := by decide +kernel
theorem isi_tuple : isiB "tuple" = true := by decide +kernel
theorem isi_str : isiB "str" = true := by decide +kernel
theorem isi_list : isiB "list" = true := by decide +kernel
theorem isi_bool : isiB "bool" = true := by decide +kernel
theorem isi_dict : isiB "dict" = true := by decide +kernel
end
theorem bt_len : bootBuiltins "len" = some (.builtin "len") := by decide +kernel
theorem bt_abs : bootBuiltins "abs" = some (.builtin "abs") := by decide +kernel
theorem bt_max : bootBuiltins "max" = some (.builtin "max") := by decide +kernel
theorem bt_min : bootBuiltins "min" = some (.builtin "min") := by decide +kernel
theorem bt_sum : bootBuiltins "sum" = some (.builtin "sum") := by decide +kernel
theorem bt_sorted : bootBuiltins "sorted" = some (.builtin "sorted") := by decide +kernel
theorem bt_isinstance : bootBuiltins "isinstance" = some (.builtin "isinstance") := by decide +kernel
theorem bt_int : bootBuiltins "int" = some (.type "int") := by decide +kernel
theorem bt_str : bootBuiltins "str" = some (.type "str") := by decide +kernel
theorem bt_tuple : bootBuiltins "tuple" = some (.type "tuple") := by decide +kernel
theorem bt_list : bootBuiltins "list" = some (.type "list") := by decide +kernel
theorem bt_dict : bootBuiltins "dict" = some (.type "dict") := by decide +kernel
theorem bt_bool : bootBuiltins "bool" = some (.type "bool") := by decide +kernel
theorem bt_reversed : bootBuiltins "reversed" = some (.type "reversed") := by decide +kernel
section
variable {X : Cx} {C : Cc} {W : WX} {O : Own} {e o : Expr} {k : Nat} {F : EF} {p p2 pos apos : Pos} {T : String} {x : Str} {L : Env → R (List D)} {ko : Nat} {G : EF}
theorem ev_isi (hg : Gl X "isinstance") (hm : X.mg "isinstance" = none) (hgx : Gl X x) (hmx : X.mg x = none) (hv : bootBuiltins x = some (.type T)) (hT : isiB T = true) (he : EV X C W O e k F) (hn : x ≠ "__name__" := by decide) (hdb : (x == ("__debug__" : Str)) = false := by decide)
    (hs : starEach [e, .Name x p2] X.env = (false, eval e X.env) :: starEach [.Name x p2] X.env := by rfl) (hs2 : starEach [.Name x p2] X.env = (false, eval (.Name x p2) X.env) :: starEach [] X.env := by rfl) (hpl : (backTo pos (starEach [.Name x p2] X.env)).any (·.1) = false := by rfl) :
    EV X C W O (.Call (.Name "isinstance" p) [e, .Name x p2] [] pos) 0 (eIsi T F) := by
  refine (pe_callB call_isi hg hm bt_isinstance (pa_cons he (pa_cons (pe_bltn hgx hmx hv (v := .ty T) rfl hn hdb) pa_nil hs2) hs) (by decide) (by decide) hs hpl).imp fun σ H Q ⟨ρ, Fs, er, q⟩ => ?_
  refine tD.step er (Sat.bind q) fun d v H1 F1 p er1 x1 r1 kd1 => ?_
  refine ⟨v, .ty T, .type (tyD d), .type T, isiD T d, rfl, .ty T, rp_ty r1, ?_, p (.bl _) H1 [] x1 (.bl _) .nil⟩
  exact kit_ty (of_decide_eq_true hT _ (tyD_mem d))
/-! methods -/
structure MethD (X : Cx) (T : List Addr) (id : String) (ty : D → Prop) (g : D → List D → R D) : Prop where
  nox : ∀ x ds, NoX (g x ds)
  ex : ∃ r : V → List V → Hp → VK → Prop, MtR X id r ∧ ∀ H v d Fd vs ds F Q, Rp X.K H v d Fd → RpL X.K H vs ds F →
    Sat (g d ds) (fun z => ∀ w H' F', Ex T H H' → Rp X.K H' w z F' → Mix1 H Fd F' → Q w H') (fun _ => False) → r v vs H Q
  ok : ∀ x ds z, g x ds = .ok z → ty x
def eMeth (g : D → List D → R D) (F : EF) (L : Env → R (List D)) : EF := fun ρ => (F ρ).bind fun x => (L ρ).bind fun ds => g x ds
/-- the type of what a method is called of -/
def isTy (T : String) (d : D) : Prop := match d with
  | .list _ => T = "list"
  | .str _ => T = "str"
  | .int _ => T = "int"
  | .dict [(.none, .tuple _)] => T = "list"
  | _ => False
end
end Pd
namespace Pd
open PySem PySem.Spec PyProof.Rows L2
/-! ### count, index of lists and tuples -/
theorem room_in' {A : Around} {ds : List D} {d : D} (sd : SeqAt.shaped d = true) (hu : A.units + 65 < cLine) : A.units + 1 + min (PyData.depthAll ds) d.depth < cLine := by
  have := SeqAt.depth_of_shaped sd
  have := Nat.min_le_right (PyData.depthAll ds) d.depth
  omega
section
variable {X : Cx}
def rCntD (K : PySem.W.Frag) (tup : Bool) : V → List V → Hp → VK → Prop := fun x xs H Q => ∃ (a : Addr) (ys : List V) (y : V) (d : D) (ds : List D), x = .ref a ∧ xs = [y] ∧ (if tup = true then SqT K H a ys else SqL K H a ys) ∧ DpAll K H ys ds ∧ Dp K H y d ∧
  SeqAt.shaped (.list ds) = true ∧ SeqAt.shaped d = true ∧ Q (.int ((ds.countP fun z => PyData.eqv z d : Nat))) H
theorem mt_countT (hu : X.A.units + 65 < cLine) : MtR X "tuple.count" (rCntD X.K true) := by
  intro pins s σ H x xs v us Q I rx rxs h
  obtain ⟨a, ys, y, d, ds, rfl, rfl, hs, ha, hy, sl, sd, q⟩ := h
  cases rx
  obtain ⟨uy, rfl, ry⟩ := rxs.one
  obtain ⟨bs, r1⟩ := Dp.reads I d y uy hy ry
  have hxs : PyData.canLayAll0 ds = true := SeqAt.canLay_of_shaped sl
  have hroom : X.A.units + 1 + min (PyData.depthAll ds) d.depth < cLine := room_in' sd hu
  obtain ⟨its, rv, ⟨⟨cls, dd, data, sls⟩, ho, hc, n, hdt⟩, hlen⟩ := I.tuple (show SqT X.K H a ys from hs)
  simp only at hc hdt
  subst hc hdt
  obtain ⟨as, h4⟩ := Dp.readsAll I ds _ its ha rv
  have hmap : its.map (SeqAt.readOf s.heap) = ds := SeqAt.readsAll_map ds its as hxs h4
  refine call_meets PySem.F.slot_tuple_count ⟨_, ho, rfl⟩ PySem.F.entry_tuple_count (PySem.F.args_tuple_count_2 _ _)
    (SeqAt.tuple_countAt a its.toArray n dd sls uy (fun u => PyData.eqv (SeqAt.readOf s.heap u) d)) ⟨ho, SeqAt.items_eqAt (vs := its.toArray) (show ReadsAll s.heap its.toArray.toList ds as from h4) r1 hxs (SeqAt.canLay_of_shaped sd) hroom, ?_⟩
  refine ⟨.int ((ds.countP fun z => PyData.eqv z d : Nat)), H, I.tok _, ⟨s.toks, ?_⟩, q⟩
  rw [← hmap, List.countP_map]
  rfl
theorem mt_countL (hu : X.A.units + 65 < cLine) : MtR X "list.count" (rCntD X.K false) := by
  intro pins s σ H x xs v us Q I rx rxs h
  obtain ⟨a, ys, y, d, ds, rfl, rfl, hs, ha, hy, sl, sd, q⟩ := h
  cases rx
  obtain ⟨uy, rfl, ry⟩ := rxs.one
  obtain ⟨bs, r1⟩ := Dp.reads I d y uy hy ry
  have hxs : PyData.canLayAll0 ds = true := SeqAt.canLay_of_shaped sl
  have hroom : X.A.units + 1 + min (PyData.depthAll ds) d.depth < cLine := room_in' sd hu
  obtain ⟨its, rv, ⟨⟨cls, dd, data, sls⟩, n, ho, hc, hdn, hdt⟩, hlen⟩ := I.list (show SqL X.K H a ys from by simpa using hs)
  simp only at hc hdt
  subst hc hdt
  obtain ⟨as, h4⟩ := Dp.readsAll I ds _ its ha rv
  have hmap : its.map (SeqAt.readOf s.heap) = ds := SeqAt.readsAll_map ds its as hxs h4
  refine call_meets PySem.F.slot_list_count ⟨_, ho, rfl⟩ PySem.F.entry_list_count (PySem.F.args_list_count_2 _ _)
    (SeqAt.list_countAt a its.toArray n dd sls uy (fun u => PyData.eqv (SeqAt.readOf s.heap u) d)) ⟨ho, SeqAt.items_eqAt (vs := its.toArray) (show ReadsAll s.heap its.toArray.toList ds as from h4) r1 hxs (SeqAt.canLay_of_shaped sd) hroom, ?_⟩
  refine ⟨.int ((ds.countP fun z => PyData.eqv z d : Nat)), H, I.tok _, ⟨s.toks, ?_⟩, q⟩
  rw [← hmap, List.countP_map]
  rfl
/-- a method of a list or a tuple -/
def tSM (K : PySem.W.Frag) (rT rL : V → List V → Hp → VK → Prop) (to : TE) (t : TA) : TE := fun σ H Q => to σ H fun x H1 => ∃ a, x = .ref a ∧ (((∃ xs, NT K H1 a xs) ∧ t σ H1 fun vs H2 => rT x vs H2 Q) ∨ ((∃ xs, SqL K H1 a xs) ∧ t σ H1 fun vs H2 => rL x vs H2 Q))
theorem pe_sm {o e : Expr} {es : List Expr} {to : TE} {t : TA} {name : Str} {apos cpos : Pos} {idT idL : String} {rT rL : V → List V → Hp → VK → Prop} (slT : Slot "tuple" name idT) (slL : Slot "list" name idL) (htT : typeOf (.builtin idT) = pure (.type "method_descriptor")) (htL : typeOf (.builtin idL) = pure (.type "method_descriptor"))
    (hmT : MtR X idT rT) (hmL : MtR X idL rL) (ho : PE X o to) (ha : PA X (e :: es) t)
    (hbase : attributeBase o name X.env (eval o X.env) = eval o X.env := by rfl)
    (hfew : ((backTo cpos (starEach (e :: es) X.env)).all (fun x => !x.1) && (backToKw cpos (keywordEach [] X.env)).all (fun x => x.1.isSome)
      && decide ((e :: es).length + ([] : List Keyword).length + (if ([] : List Keyword).isEmpty then 0 else 1) < 30)) = true := by rfl)
    (hline : (apos.endLine == cpos.line) = true := by rfl) (hs : starEach (e :: es) X.env = (false, eval e X.env) :: starEach es X.env := by rfl) (hplain : (backTo cpos (starEach es X.env)).any (·.1) = false := by rfl) :
    PE X (.Call (.Attribute o name apos) (e :: es) [] cpos) (tSM X.K rT rL to t) := by
  refine ⟨fun pins s σ H Q I h => ?_⟩
  refine wpAny_Call_method_late hbase hfew hline rfl (thn (ho.run pins s σ H _ I h) fun v s1 ⟨x, H1, I1, r1, a, ex, q1⟩ => ?_)
  subst ex
  cases r1
  rcases q1 with ⟨⟨xs, hn⟩, q1⟩ | ⟨⟨xs, hl⟩, q1⟩
  · obtain ⟨ob, e1, e2, e3⟩ := hn.obj I1
    refine ⟨"tuple", idT, PySem.F.plainAttrs_tuple, slT, htT, ⟨ob, e1, e2⟩, fun b hb => ⟨ob, by cases hb; exact e1, e3⟩, ?_⟩
    have hA := ha.run cpos pins s1 σ H1 _ I1 q1
    rw [hs] at hA ⊢
    refine Calls.callWith_builtin (by show (false || (backTo cpos (starEach es X.env)).any (·.1)) = false; rw [hplain] <;> rfl) (Calls.evalArgs_plain ?_)
    exact thn hA fun us s2 ⟨vs, H2, I2, r2, q2⟩ => hmT pins s2 σ H2 (.ref a) vs _ us Q I2 rfl r2 q2
  · obtain ⟨its, rv, ⟨ob, n, e1, e2, e3, e4⟩, hz⟩ := I1.list hl
    refine ⟨"list", idL, PySem.F.plainAttrs_list, slL, htL, ⟨ob, e1, e2⟩, fun b hb => ⟨ob, by cases hb; exact e1, e3⟩, ?_⟩
    have hA := ha.run cpos pins s1 σ H1 _ I1 q1
    rw [hs] at hA ⊢
    refine Calls.callWith_builtin (by show (false || (backTo cpos (starEach es X.env)).any (·.1)) = false; rw [hplain] <;> rfl) (Calls.evalArgs_plain ?_)
    exact thn hA fun us s2 ⟨vs, H2, I2, r2, q2⟩ => hmL pins s2 σ H2 (.ref a) vs _ us Q I2 rfl r2 q2
end
def cntD (ds : List D) (d : D) : R D := if shp (.list ds) = true ∧ shp d = true then .ok (.int ((ds.countP fun z => PyData.eqv z d : Nat))) else .stuck
def eCnt (F : EF) (L : Env → R (List D)) : EF := fun ρ => (F ρ).bind fun x => (itD x).bind fun ds => (L ρ).bind fun ys => match ys with
  | [d] => cntD ds d
  | _ => .stuck
section
variable {X : Cx} {C : Cc} {W : WX} {O : Own} {e o : Expr} {k ko : Nat} {F : EF} {apos p2 : Pos} {L : Env → R (List D)}
theorem ev_count (hu : X.A.units + 65 < cLine) (ho : EV X C W O o ko F) (ha : AVn X C W O [e] k L)
    (hbase : attributeBase o "count" X.env (eval o X.env) = eval o X.env := by rfl)
    (hfew : ((backTo p2 (starEach [e] X.env)).all (fun x => !x.1) && (backToKw p2 (keywordEach [] X.env)).all (fun x => x.1.isSome)
      && decide ([e].length + ([] : List Keyword).length + (if ([] : List Keyword).isEmpty then 0 else 1) < 30)) = true := by rfl)
    (hline : (apos.endLine == p2.line) = true := by rfl) (hs : starEach [e] X.env = (false, eval e X.env) :: starEach [] X.env := by rfl) (hplain : (backTo p2 (starEach [] X.env)).any (·.1) = false := by rfl) :
    EV X C W O (.Call (.Attribute o "count" apos) [e] [] p2) 0 (eCnt F L) := by
  refine (pe_sm PySem.F.slot_tuple_count PySem.F.slot_list_count PySem.F.type_tuple_count PySem.F.type_list_count (mt_countT hu) (mt_countL hu) ho ha.av hbase hfew hline hs hplain).imp fun σ H Q ⟨ρ, Fs, er, q⟩ => ?_
  refine tD.step er (Sat.bind q) fun x v H1 F1 p er1 x1 r1 kd1 => ?_
  obtain ⟨ds, hds, p⟩ := itD_sat p
  obtain ⟨a, xs, G, rfl, r', sb, w⟩ := seq_cases r1 hds
  have key : ∀ (b : Bool), (∀ H2, Ex C.T H1 H2 → if b = true then SqT X.K H2 a xs else SqL X.K H2 a xs) → tL X.K C W O k L σ H1 fun vs H2 => rCntD X.K b (.ref a) vs H2 Q := fun b hb => by
    refine tL.step er1 (Sat.later (Sat.bind p) x1) fun ys vs H2 F2 p2 er2 x2 r2 kd2 => ?_
    match ys, vs, r2, p2 with
    | [d], [y], .cons ry .nil, p2 =>
      obtain ⟨⟨h1, h2⟩, p2⟩ := satI (show Sat (cntD ds d) _ _ from p2)
      exact ⟨a, xs, y, d, ds, rfl, rfl, hb H2 x2, RpL.dp (r'.ex x2) (SeqAt.canLay_of_shaped h1), ry.dp (shp_lay h2), h1, h2, p2 _ H2 [] (x1.trans x2) (.int _) .nil⟩
    | [], _, _, p2 => exact p2.elim
    | _ :: _ :: _, _, _, p2 => exact p2.elim
  refine ⟨a, rfl, ?_⟩
  rcases w with ⟨s, ht⟩ | ⟨s, _, _⟩
  · refine .inr ⟨⟨xs, s⟩, key false fun H2 x2 => ?_⟩
    show SqL X.K H2 a xs
    rcases s with (s | ⟨o, s⟩) | s
    · exact .inl (.inl (x2.kept _ _ s (fun _ z => by cases z)))
    · exact .inl (.inr ⟨o, x2.kept _ _ s (fun _ z => by cases z)⟩)
    · exact .inr s
  · exact .inl ⟨⟨xs, s⟩, key true fun H2 x2 => (x2.nt s).sq⟩
end
end Pd
namespace PySem
open Sem (wp)
open RT
section
variable {prog : Program} {w : World} {A : Around} {E : Value → Shared → Prop} {s : Shared}
theorem pd_nolen_rt : typeLookup (.type "reversed") "__len__" = pure none := by rw [typeLookup_type, builtinLookup_eq_fast]; kernel_rfl
theorem pd_hint_rt : typeLookup (.type "reversed") "__length_hint__" = pure (some (.builtin "reversed.__length_hint__")) := by rw [typeLookup_type, builtinLookup_eq_fast]; kernel_rfl
/-- a reversed tuple, walked -/
theorem pd_walks_rt (hh : A.handled = none) (I t : Addr) (hne : t ≠ I) (items : Array Value) (hsz : items.size ≤ sizeLine) :
    Walks prog w A I [I, t] [I] items.size (fun i v => items[items.size - 1 - i]? = some v) (fun i h => i ≤ items.size ∧ IsRt h I t ((items.size : Int) - 1 - (i : Int)) ∧ PyProof.Rows.IsTup h t items) where
  sub := fun b hb => by simp at hb; simp [hb]
  frame := fun _ _ _ x hk => ⟨x.1, x.2.1.at fun o e => hk I (by simp) o e, let ⟨o, ho, r⟩ := x.2.2; ⟨o, hk t (by simp) o ho, r⟩⟩
  item := fun i s Q E hi x hQ => by
    have e : (items.size : Int) - 1 - (i : Int) = ((items.size - 1 - i : Nat) : Int) := by omega
    have hit := x.2.1
    rw [e] at hit
    have hx : items[items.size - 1 - i]? = some (items[items.size - 1 - i]'(by omega)) := Array.getElem?_eq_getElem (by omega)
    refine next_rt_item hit x.2.2 hx hsz fun h' hit' hs' => ?_
    have e2 : ((items.size - 1 - i : Nat) : Int) - 1 = (items.size : Int) - 1 - ((i + 1 : Nat) : Int) := by omega
    rw [e2] at hit'
    exact hQ _ h' _ hx ⟨hi, hit', let ⟨o, ho, r⟩ := x.2.2; ⟨o, (hs'.2 t hne).trans ho, r⟩⟩ fun b o hb eo => hs'.extBut b o (fun h => hb (by simp [h])) eo
  done := fun s Q E x hQ => by
    have e : (items.size : Int) - 1 - (items.size : Int) = -1 := by omega
    have hit := x.2.1
    rw [e] at hit
    exact next_rt_end hh hit fun h' he' => hQ h' s.toks fun b o hb eo => he' b o (fun h => hb (by simp [h])) eo
  self := fun _ _ _ _ x hQ => iter_rt x.2.1 hQ
theorem pd_slot_hint : Slot "reversed" "__length_hint__" "reversed.__length_hint__" :=
  .of (owner := "reversed") (n := "__length_hint__") (by rw [typeLookup_type, builtinLookup_eq_fast]; kernel_rfl) (by decide +kernel) (by decide +kernel) (by decide +kernel)
    (by first | exact .inl (by decide +kernel) | exact .inr (by decide +kernel)) (by rw [isSubtype_type]; kernel_rfl)
theorem pd_entry_hint : entryFor table "reversed.__length_hint__" = some Builtin.«reversed.__length_hint__» := entryFor_of_tree (by kernel_rfl)
theorem pd_args_hint (a : Value) : argsOk "reversed.__length_hint__" ⟨[a], []⟩ := by
  unfold argsOk; rw [signature?_of (id := "reversed.__length_hint__") (n := ['_', '_', 't', 'n', 'i', 'h', '_', 'h', 't', 'g', 'n', 'e', 'l', '_', '_']) (o := ['d', 'e', 's', 'r', 'e', 'v', 'e', 'r']) (by kernel_rfl) owner_rt]; kernel_rfl
theorem pd_hint_call {it t : Addr} {items : Array Value} {Q : Value → Shared → Prop} (hit : IsRt s.heap it t ((items.size : Int) - 1)) (ht : PyProof.Rows.IsTup s.heap t items) (hsz : (items.size : Int) < 2 ^ 62)
    (hQ : ∀ tk u, Q (.int (items.size : Int) u) { s with toks := tk }) : wpAny (model prog w) A (call (.builtin "reversed.__length_hint__") [.ref it]) Q E s := by
  obtain ⟨o, ho, hc, hd⟩ := id hit
  refine wpAny_call_entry pd_slot_hint hit.typeIs pd_entry_hint ?_ (pd_args_hint _)
  unfold Builtin.«reversed.__length_hint__»
  refine wpAny_bind (wpAny_of_eq (a := Value.ref it) rfl ?_)
  refine wpAny_bind (wpAny_field ho hd (x := .ref t) rfl ?_)
  rw [if_neg (show ¬ ((Value.ref t == Value.none) = true) from by simp)]
  refine wpAny_bind (PyProof.Rows.len_tuple ht (by omega) ?_)
  refine wpAny_bind (wpAny_of_eq (a := some ((items.size : Nat) : Int)) rfl ?_)
  try dsimp only
  refine wpAny_bind (wpAny_field (s := { s with toks := s.toks + 1 + 1 }) ho hd (x := rawInt ((items.size : Int) - 1)) rfl ?_)
  show wpAny _ _ (if ((items.size : Nat) : Int) < ((items.size : Int) - 1) + 1 then _ else _) _ _ _
  rw [if_neg (by omega)]
  have e : ((items.size : Int) - 1) + 1 = (items.size : Int) := by omega
  rw [e]
  unfold retInt
  refine wpAny_bind (wpAny_mkInt (wpAny_pure ⟨_, rfl, hQ _ _⟩))
theorem pd_hint_rtQ {it t : Addr} {items : Array Value} {Q : Bool → Shared → Prop} (hit : IsRt s.heap it t ((items.size : Int) - 1)) (ht : PyProof.Rows.IsTup s.heap t items) (hsz : items.size ≤ 2 ^ 24)
    (hQ : ∀ tk, Q ((items.size : Int) != 0) { s with toks := tk }) : wpAny (model prog w) A (Builtin.List.listLengthHint (.ref it)) Q E s := by
  have hT2 := hit.typeIs
  unfold Builtin.List.listLengthHint
  refine wpAny_bind (wpAny_specialOf hT2 pd_nolen_rt ?_)
  show wpAny _ _ (specialOf (Value.ref it) (Str.ofString "__length_hint__") >>= _) _ _ _
  refine wpAny_bind (wpAny_specialOf hT2 pd_hint_rt ?_)
  generalize hid : ("reversed.__length_hint__" : String) = id0
  wp_delta
  rw [show splitId id0 = some ("reversed", "__length_hint__") from by subst hid; decide +kernel]
  subst hid
  refine wpAny_bind (wpAny_isInstance (b := true) hT2 (by rw [isSubtype_type]; kernel_rfl) ?_)
  refine wpAny_ite_split (fun hab => absurd hab (by decide)) (fun _ => ?_)
  refine wpAny_ite_split (fun hab => absurd hab (by decide +kernel)) (fun _ => ?_)
  refine wpAny_bind (wpAny_rule ?_)
  simp only [pd_slot_hint.bind]
  refine wpAny_bind (wpAny_pure ?_)
  try dsimp only
  refine wpAny_bind (wpAny_attempt (pd_hint_call hit ht (by omega) fun tk u => ?_))
  dsimp only
  have hai : asInt? (Value.int ((items.size : Nat) : Int) u) = pure (some ((items.size : Nat) : Int)) := rfl
  rw [hai, pure_bind]
  dsimp only
  have h1 : (!Builtin.List.listFitsIndex ((items.size : Nat) : Int)) = false := by
    unfold Builtin.List.listFitsIndex
    simp
    omega
  have h2 : Builtin.List.listTooLong (((items.size : Nat) : Int).toNat) = false := by
    unfold Builtin.List.listTooLong
    rw [sizeLine_eq]
    exact decide_eq_false (by omega)
  rw [if_neg (by rw [h1]; decide), if_neg (by omega), if_neg (by rw [h2]; decide)]
  exact wpAny_pure (hQ tk)
/-- list(reversed(t)), the reversed object made -/
theorem pd_list_rt {it t : Addr} {items : Array Value} {Q : Value → Shared → Prop} (hh : A.handled = none) (hit : IsRt s.heap it t ((items.size : Int) - 1)) (ht : PyProof.Rows.IsTup s.heap t items) (hne : t ≠ it) (hn : items.size ≤ sizeLine)
    (hQ : ∀ h' tk acc' c', (∀ b o, b ≠ it → s.heap.get? b = some o → h'.get? b = some o) →
      h'.get? s.heap.objs.size = some { cls := .type "list", dict := none, data := .seq acc' c', slots := #[] } → ItemsOf (fun i v => items[items.size - 1 - i]? = some v) acc' items.size → Q (.ref s.heap.objs.size) { s with heap := h', toks := tk }) :
    wpAny (model prog w) A (call (.type "list") [.ref it]) Q E s := by
  refine callType_codes (Q₁ := fun obj s₁ => obj = .ref s.heap.objs.size ∧ s₁ = { s with heap := s.heap.push { cls := .type "list", data := .seq #[] } }) F.called_list (F.typeCall_list_1 _) F.entry_list_init
    (code_list_new _ ⟨rfl, rfl⟩) fun obj s₁ h₁ => ?_
  obtain ⟨rfl, rfl⟩ := h₁
  have hS : (s.heap.push { cls := .type "list", data := .seq #[] }).get? s.heap.objs.size = some { cls := .type "list", data := .seq #[] } := Heap.get?_push_size _ rfl
  obtain ⟨oi, hoi, hci, hdi⟩ := id hit
  obtain ⟨ot, hot, hct, hdt⟩ := id ht
  have hSi : s.heap.objs.size ≠ it := Nat.ne_of_gt (Heap.lt_size hoi)
  have hSt : s.heap.objs.size ≠ t := Nat.ne_of_gt (Heap.lt_size hot)
  have hSf : s.heap.objs.size ∉ [it, t] := by simp only [List.mem_cons, List.not_mem_nil, or_false, not_or]; exact ⟨hSi, hSt⟩
  have W := (pd_walks_rt (prog := prog) (w := w) (A := A.in1.in1) hh it t hne items hn).toS
  refine ⟨⟨_, hS, rfl⟩, F.args_list_init_2 _ _, ?_⟩
  show wpAny _ _ (do let old ← Builtin.List.listItems (.ref s.heap.objs.size); Builtin.List.listUpdate (.ref s.heap.objs.size) (fun _ => #[]); letGo old.toList.reverse; Builtin.List.listExtendWith (.ref s.heap.objs.size) (.ref it) .none) _ _ _
  refine wpAny_bind ?_
  unfold Builtin.List.listItems
  refine wpAny_bind (wpAny_seqItems hS rfl (wpAny_pure ?_))
  show wpAny _ _ (updateSeq s.heap.objs.size (fun _ => #[]) >>= fun _ => letGo (#[] : Array Value).toList.reverse >>= fun _ => Builtin.List.listExtendWith (.ref s.heap.objs.size) (.ref it) .none) _ _ _
  refine wpAny_bind (wpAny_updateSeq hS rfl ?_)
  have hS₂ := Heap.get?_update_self (Obj.mapSeq (fun _ => (#[] : Array Value))) hS rfl
  have oth : ∀ b o, s.heap.get? b = some o → ((s.heap.push { cls := .type "list", data := .seq #[] }).update s.heap.objs.size (Obj.mapSeq (fun _ => (#[] : Array Value)))).get? b = some o :=
    fun b o e => (Heap.get?_update_other _ _ (Nat.ne_of_gt (Heap.lt_size e))).trans (Heap.get?_push_of_some _ e)
  refine wpAny_bind (wpAny_letGo ?_)
  generalize hs2 : ({ s with heap := (s.heap.push { cls := .type "list", data := .seq #[] }).update s.heap.objs.size (Obj.mapSeq (fun _ => (#[] : Array Value))) } : Shared) = s2
  have h2 : s2.heap = (s.heap.push { cls := .type "list", data := .seq #[] }).update s.heap.objs.size (Obj.mapSeq (fun _ => (#[] : Array Value))) := by rw [← hs2]
  have hit2 : IsRt s2.heap it t ((items.size : Int) - 1) := hit.at fun o e => by rw [h2]; exact oth _ o e
  have ht2 : PyProof.Rows.IsTup s2.heap t items := ⟨ot, by rw [h2]; exact oth _ _ hot, hct, hdt⟩
  have hT2 : s2.TypeIs (.ref it) "reversed" := hit2.typeIs
  have h1 : Builtin.List.listSameRef (.ref s.heap.objs.size) (.ref it) = false := by simp [Builtin.List.listSameRef, hSi]
  unfold Builtin.List.listExtendWith
  refine wpAny_bind (wpAny_typeOf hT2 ?_)
  rw [if_neg (by rw [h1]; decide)]
  refine wpAny_bind (iter_rt hit2 ?_)
  refine wpAny_bind (wpAny_holding ?_)
  refine pd_hint_rtQ hit2 ht2 (by rw [sizeLine_eq] at hn; exact hn) fun tk => ?_
  have key : ∀ (h : Heap) (c₁ tk : Nat), IsRt h it t ((items.size : Int) - 1 - ((0 : Nat) : Int)) → PyProof.Rows.IsTup h t items → (∀ b o, b ≠ s.heap.objs.size → s2.heap.get? b = some o → h.get? b = some o) →
      h.get? s.heap.objs.size = some { cls := .type "list", data := .seq #[] c₁ } → codeAny (model prog w) A.in1 (.builtin "list.extend.loop" ⟨[.ref s.heap.objs.size, .ref it, .none], []⟩) (wants (fun r s' => r = Value.none ∧ Q (.ref s.heap.objs.size) s') E) { s2 with heap := h, toks := tk } := by
    intro h c₁ tk hi1 ht1 hk hS₁
    refine codeAny_extend_loopS W hn _ hSf _ items.size 0 _ #[] c₁ rfl (Nat.zero_le _) ⟨Nat.zero_le _, hi1, ht1⟩ hS₁ (ItemsOf.nil _) fun s' acc' c' hm hS' hacc => ?_
    rw [Moved.eq_with hm]
    refine ⟨rfl, ?_⟩
    have z := hQ s'.heap s'.toks acc' c' (fun b o hb e => hm.heap b o (fun hmem => ?_) (hk b o (Nat.ne_of_lt (Heap.lt_size e)) (by rw [h2]; exact oth b o e))) hS' hacc
    · rw [← hs2]
      exact z
    · rcases List.mem_cons.mp hmem with e' | hmem
      · exact absurd (Heap.lt_size e) (by rw [e']; exact Nat.lt_irrefl _)
      · exact hb (List.mem_singleton.mp hmem)
  have e0 : ((items.size : Nat) : Int) - 1 - ((0 : Nat) : Int) = (items.size : Int) - 1 := by omega
  have hS3 : s2.heap.get? s.heap.objs.size = some { cls := .type "list", data := .seq #[] 0 } := by rw [h2]; exact hS₂
  refine wpAny_ite_split (fun _ => ?_) (fun _ => wpAny_pure ⟨plainId_quiet F.plain_extend_loop _, key s2.heap _ tk (by rw [e0]; exact hit2) ht2 (fun b o _ e => e) hS3⟩)
  refine wpAny_bind (wpAny_rule ?_)
  refine wpAny_bind ?_
  show wpAny _ _ (updateSeq s.heap.objs.size (·.push .none) >>= fun _ => updateSeq s.heap.objs.size (·.pop)) _ _ _
  refine wpAny_bind (wpAny_updateSeq (s := { s2 with toks := tk }) hS3 rfl ?_)
  have hS4 := Heap.get?_update_self (Obj.mapSeq (·.push Value.none)) hS3 rfl
  refine wpAny_updateSeq (hz := by seq_fits) hS4 rfl ?_
  have hS5 := Heap.get?_update_self (Obj.mapSeq (·.pop)) hS4 rfl
  have kk : ∀ b o, b ≠ s.heap.objs.size → s2.heap.get? b = some o → ((s2.heap.update s.heap.objs.size (Obj.mapSeq (·.push Value.none))).update s.heap.objs.size (Obj.mapSeq (·.pop))).get? b = some o :=
    fun b o hb e => (Heap.get?_update_other _ _ (Ne.symm hb)).trans ((Heap.get?_update_other _ _ (Ne.symm hb)).trans e)
  exact wpAny_pure ⟨plainId_quiet F.plain_extend_loop _, key _ _ tk (by rw [e0]; exact hit2.at fun o e => kk _ o (Ne.symm hSi) e) (let ⟨o, ho, r⟩ := ht2; ⟨o, kk _ _ (Ne.symm hSt) ho, r⟩) kk hS5⟩
end
end PySem
namespace Pd
open PySem PySem.Spec PyProof.Rows L2 RT
section
variable {X : Cx}
/-- list(reversed(t)), t a tuple -/
def tListRevT (K : PySem.W.Frag) (te : TE) : TE := fun σ H Q => te σ H fun v H1 => ∃ (a : Addr) (xs : List V), v = .ref a ∧ SqT K H1 a xs ∧ ∀ q, H1 q = none → Q (.ref q) (upd H1 q (.lst xs.reverse))
theorem pe_listRevT {e : Expr} {te : TE} {p p2 pos pos2 : Pos} (hc : X.calm = true) (hg : Gl X "list") (hm : X.mg "list" = none) (hg2 : Gl X "reversed") (hm2 : X.mg "reversed" = none) (he : PE X e te)
    (hs : starEach [e] X.env = (false, eval e X.env) :: starEach [] X.env := by rfl)
    (hs2 : starEach [.Call (.Name "reversed" p2) [e] [] pos2] X.env = (false, eval (.Call (.Name "reversed" p2) [e] [] pos2) X.env) :: starEach [] X.env := by rfl) :
    PE X (.Call (.Name "list" p) [.Call (.Name "reversed" p2) [e] [] pos2] [] pos) (tListRevT X.K te) := by
  refine ⟨fun pins s σ H Q I h => ?_⟩
  refine Call_ (ld_blt I hg hm bt_list (PyProof.Rows.callWith_type1 (args_cons (Call_ (ld_blt I hg2 hm2 PyProof.Rows.boot_reversed (PyProof.Rows.callWith_type1 (args_cons (thn (he.run pins s σ H _ I h) fun u s1 ⟨v, H1, I1, r1, q1⟩ => args_nil ?_) hs) hs rfl))) hs2) hs2 rfl))
  obtain ⟨a, xs, ev, hq, q⟩ := q1
  subst ev
  obtain rfl : u = Value.ref a := r1
  obtain ⟨its, rv, p', hz⟩ := I1.tuple hq
  have hl := rv.length
  have hn := line63
  have hsl := sizeLine_eq
  have hsz : its.toArray.size ≤ sizeLine := by rw [List.size_toArray, ← hl]; exact hz
  refine call_reversed_tup p' (fun A E Q k => PyProof.Rows.len_tuple p' (by simp only [List.size_toArray] <;> omega) k) (args_nil ?_)
  generalize hs3 : ({ s1 with heap := s1.heap.push (rtObj a ((its.toArray.size : Int) - 1)), toks := s1.toks + 1 + 1 } : Shared) = s3
  have h3 : s3.heap = s1.heap.push (rtObj a ((its.toArray.size : Int) - 1)) := by rw [← hs3]
  have k0 : ∀ b o, s1.heap.get? b = some o → s3.heap.get? b = some o := fun b o e => by rw [h3]; exact Heap.get?_push_of_some _ e
  have I2 : Inv X pins σ H1 s3 := by
    rw [← hs3]
    exact I1.kept (t' := s1.toks + 1 + 1) fun b o e => Heap.get?_push_of_some _ e
  obtain ⟨f0, f1, f2, f3, f4, f5⟩ := I1.fpOk (H' := H1) (b := s1.heap.objs.size) (Nat.le_refl _) (I1.hok.fresh (Nat.le_refl _))
  obtain ⟨o, ho, hc', hd⟩ := id p'
  have hne : a ≠ s1.heap.objs.size := Nat.ne_of_lt (Heap.lt_size ho)
  have sz3 : s3.heap.objs.size = s1.heap.objs.size + 1 := by rw [h3, Heap.size_push]
  have hpush : s3.heap.get? s1.heap.objs.size = some (rtObj a ((its.toArray.size : Int) - 1)) := by rw [h3]; exact Heap.get?_push_size _ rfl
  refine pd_list_rt (I1.ok.hd hc) ⟨_, hpush, rfl, rfl⟩ ⟨o, k0 _ _ ho, hc', hd⟩ hne hsz fun h' tk acc c' hk hS hi => ?_
  have I3 : Inv X pins σ H1 { s3 with heap := h', toks := tk } := I2.turned (t' := tk) (fun b o hb e => hk b o hb e) f0 f1 f3 f4 f5
  have rr := vals_rev rv hi
  have hf : H1 s3.heap.objs.size = none := I2.hok.fresh (Nat.le_refl _)
  -- the new list is tracked
  refine ⟨.ref s3.heap.objs.size, upd H1 s3.heap.objs.size (.lst xs.reverse), ?_, rfl, q _ hf⟩
  have new : ObjOk X.prog X.w (upd H1 s3.heap.objs.size (.lst xs.reverse)) h' s3.heap.objs.size (.lst xs.reverse) := ⟨by rw [List.length_reverse]; exact hz, acc.toList, c', rr, by rw [Array.toArray_toList]; exact hS⟩
  have nS : s3.heap.objs.size ≠ s1.heap.objs.size := by rw [sz3]; exact Nat.succ_ne_self _
  have neS : ∀ b o, s3.heap.get? b = some o → b ≠ s3.heap.objs.size := fun b o e => Nat.ne_of_lt (Heap.lt_size e)
  refine I2.step (g' := s3.gens) (d' := s3.drawn) (t' := tk) (ch := [s1.heap.objs.size]) (fun b hb => ?_) (fun b o _ _ hc e _ => hk b o (fun z => hc (by simp [z])) e) (fun b o _ _ hc e _ => ⟨o.slots, hk b o (fun z => hc (by simp [z])) e⟩)
    (fun b o hc e n => by rw [upd_ne (neS b o e)]; exact n) (fun b o hc e => ⟨o, hk b o (fun z => hc (by simp [z])) e⟩) (fun b xs e => by rw [upd_ne (ne_of_none e hf)]; exact e) (fun b o u e => by rw [upd_ne (ne_of_none e hf)]; exact e) (fun b ps e => ⟨#[], by rw [upd_ne (ne_of_none e hf), e]; simp⟩) (fun m hm => ?_) (fun b u e => ?_) I2.bare
  · have e : b = s1.heap.objs.size := by simpa using hb
    subst e
    exact ⟨f3, f1, f4, f5⟩
  · obtain ⟨ob, es, ep, ho, r⟩ := hm
    exact ⟨ob, es, ep, hk _ ob (Ne.symm f1) ho, r⟩
  · by_cases hb : b = s3.heap.objs.size
    · subst hb
      rw [upd_same] at e
      cases e
      exact new
    · rw [upd_ne hb] at e
      have I3k := I3.hok b u e
      exact I3k.stay (fun c v _ q => q) (fun c q => by rw [upd_ne (ne_of_none q hf)]; exact q) fun c xs q => by rw [upd_ne (ne_of_none q hf)]; exact q
end
def eListRev (F : EF) : EF := fun ρ => (F ρ).bind fun d => match d with
  | .tuple ds => .ok (.list ds.reverse)
  | _ => .stuck
theorem RpL.reverse {K : PySem.W.Frag} {H : Hp} : ∀ {xs : List V} {ds : List D} {F : List Addr}, RpL K H xs ds F → ∃ G, RpL K H xs.reverse ds.reverse G ∧ (∀ b ∈ G, b ∈ F) ∧ (F.Nodup → G.Nodup)
  | _, _, _, .nil => ⟨[], .nil, fun _ h => h, fun h => h⟩
  | _, _, _, @RpL.cons _ _ v vs d ds F G r t => by
    obtain ⟨G', r', m, nd⟩ := RpL.reverse t
    rw [List.reverse_cons, List.reverse_cons]
    refine ⟨G' ++ (F ++ []), r'.append (.cons r .nil), fun b hb => ?_, fun h => ?_⟩
    · rw [List.append_nil] at hb
      rcases List.mem_append.mp hb with z | z
      · exact List.mem_append_right _ (m b z)
      · exact List.mem_append_left _ z
    · obtain ⟨n1, n2, n3⟩ := List.nodup_append.mp h
      rw [List.append_nil]
      exact List.nodup_append.mpr ⟨nd n2, n1, fun a ha b hb e => n3 b hb a (m a ha) e.symm⟩
section
variable {X : Cx} {C : Cc} {W : WX} {O : Own} {e : Expr} {k : Nat} {F : EF} {p p2 pos pos2 : Pos}
theorem ev_listRev (hc : X.calm = true) (hg : Gl X "list") (hm : X.mg "list" = none) (hg2 : Gl X "reversed") (hm2 : X.mg "reversed" = none) (he : EV X C W O e k F)
    (hs : starEach [e] X.env = (false, eval e X.env) :: starEach [] X.env := by rfl)
    (hs2 : starEach [.Call (.Name "reversed" p2) [e] [] pos2] X.env = (false, eval (.Call (.Name "reversed" p2) [e] [] pos2) X.env) :: starEach [] X.env := by rfl) :
    EV X C W O (.Call (.Name "list" p) [.Call (.Name "reversed" p2) [e] [] pos2] [] pos) k (eListRev F) := (pe_listRevT hc hg hm hg2 hm2 he hs hs2).imp fun σ H Q ⟨ρ, Fs, er, q⟩ => by
  refine tD.step er (Sat.bind q) fun d v H1 F1 p er1 x1 r1 kd1 => ?_
  cases r1 with
  | @tup a xs ds _ s r =>
    refine ⟨a, xs, rfl, s.sq, fun l hl => ?_⟩
    obtain ⟨G, r', m, nd⟩ := r.reverse
    have x2 : Ex C.T H1 (upd H1 l (.lst xs.reverse)) := .new hl
    refine p _ _ (l :: G) (x1.trans x2) (.lst upd_same (r'.ex x2)) (kd1.mix1 x1 ⟨fun b hb => ?_, fun h => ?_⟩)
    · rcases List.mem_cons.mp hb with z | z
      · exact .inr (by rw [z]; exact hl)
      · exact .inl (m b z)
    · exact List.nodup_cons.mpr ⟨fun z => r.nn l (m l z) hl, nd h⟩
  | _ => exact p.elim
end
end Pd
namespace Pd
open PySem PySem.Spec PyProof.Rows L2 GxR
/-! ### small help for the derivations -/
theorem u64 {k : Nat} {A : Around} (r : Room k A) : A.units + 64 < cLine := r.units
theorem u65 {k : Nat} {A : Around} (r : Room k A) : A.units + 65 < cLine := by have := r.un; omega
/-- the built-in names, not bound by the program -/
structure Bt (mg : Str → Option Value) : Prop where
  len : mg "len" = none
  abs : mg "abs" = none
  all : mg "all" = none
  any : mg "any" = none
  max : mg "max" = none
  min : mg "min" = none
  sum : mg "sum" = none
  sorted : mg "sorted" = none
  isinstance : mg "isinstance" = none
  int : mg "int" = none
  str : mg "str" = none
  bool : mg "bool" = none
  tuple : mg "tuple" = none
  list : mg "list" = none
  dict : mg "dict" = none
  range : mg "range" = none
  reversed : mg "reversed" = none
  enumerate : mg "enumerate" = none
def btNames : List Str := ["len", "abs", "all", "any", "max", "min", "sum", "sorted", "isinstance", "int", "str", "bool", "tuple", "list", "dict", "range", "reversed", "enumerate"]
theorem bt_of {mg : Str → Option Value} (h : ∀ x ∈ btNames, mg x = none) : Bt mg :=
  ⟨h _ (by decide +kernel), h _ (by decide +kernel), h _ (by decide +kernel), h _ (by decide +kernel), h _ (by decide +kernel), h _ (by decide +kernel), h _ (by decide +kernel), h _ (by decide +kernel), h _ (by decide +kernel),
    h _ (by decide +kernel), h _ (by decide +kernel), h _ (by decide +kernel), h _ (by decide +kernel), h _ (by decide +kernel), h _ (by decide +kernel), h _ (by decide +kernel), h _ (by decide +kernel), h _ (by decide +kernel)⟩
/-- the names of a block -/
def blkB (N : List Str) (sc scope : Scope) (own : List (Str × Nat)) : Bool :=
  decide (scope.kind = .function) && scope.names.all (fun y => decide (scope.names.lookup y.1 = some y.2)) && own.all (fun p => decide (N[p.2]? = some p.1)) &&
    scope.names.all (fun y => !decide (y.2 = .free) || (decide (sc.names.lookup y.1 = some .cell) || decide (sc.names.lookup y.1 = some .free))) &&
    scope.names.all (fun y => !(decide (y.2 = .local) || decide (y.2 = .cell)) || ((own.map (·.1)).contains y.1 || !N.contains y.1))
theorem blk {N : List Str} {sc scope : Scope} {own : List (Str × Nat)} (h : blkB N sc scope own = true) : BlkOk N sc scope own := by
  unfold blkB at h
  simp only [Bool.and_eq_true] at h
  obtain ⟨⟨⟨⟨h1, h2⟩, h3⟩, h4⟩, h5⟩ := h
  refine ⟨of_decide_eq_true h1, fun y hy => of_decide_eq_true (List.all_eq_true.mp h2 y hy), fun p hp => of_decide_eq_true (List.all_eq_true.mp h3 p hp), fun y hy e => ?_, fun y hy e => ?_⟩
  · have := List.all_eq_true.mp h4 y hy
    rw [decide_eq_true e] at this
    simp only [Bool.not_true, Bool.false_or, Bool.or_eq_true, decide_eq_true_eq] at this
    exact this
  · have := List.all_eq_true.mp h5 y hy
    have e2 : (decide (y.2 = .local) || decide (y.2 = .cell)) = true := by
      rcases e with e | e <;> simp [e]
    rw [e2] at this
    simp only [Bool.not_true, Bool.false_or, Bool.or_eq_true, Bool.not_eq_true'] at this
    rcases this with z | z
    · exact .inl (by simpa using z)
    · exact .inr (by simpa using z)
def genB (scope : Scope) : Bool := !scope.isCoroutine && scope.names.all (fun y => !decide (y.2 = .cell)) && decide (scope.names.lookup (".0" : Str) = some NameKind.local)
theorem genk {scope : Scope} (h : genB scope = true) : GenOk scope := by
  unfold genB at h
  simp only [Bool.and_eq_true, Bool.not_eq_true'] at h
  obtain ⟨⟨h1, h2⟩, h3⟩ := h
  refine ⟨h1, fun y hy e => ?_, of_decide_eq_true h3⟩
  have := List.all_eq_true.mp h2 y hy
  rw [decide_eq_true e] at this
  cases this
theorem nxN {i : Nat} : ∀ ρ d, NoX (gN i ρ d) := fun _ _ => noxO
theorem nxNil : ∀ ρ d, NoX (gNilD ρ d) := fun ρ d => by unfold gNilD; split <;> first | exact noxO | exact noxS
theorem nxCons {g : Env → D → R Env} {h : Env → List D → R Env} (a : ∀ ρ d, NoX (g ρ d)) (b : ∀ ρ d, NoX (h ρ d)) : ∀ ρ d, NoX (gConsD g h ρ d) := fun ρ d => by
  unfold gConsD; split
  · exact bind_nox (a _ _) fun _ => b _ _
  · exact noxS
theorem nxTup {h : Env → List D → R Env} (b : ∀ ρ d, NoX (h ρ d)) : ∀ ρ d, NoX (gTupD h ρ d) := fun ρ d => by
  unfold gTupD; split
  · exact b _ _
  · exact noxS
/-! what is always without lists and dicts -/
theorem im_fun {g : List D → R D} (h : ∀ ds d, g ds = .ok d → imm d = true) {L : Env → R (List D)} : ∀ ρ d, eFun g L ρ = .ok d → imm d = true := fun ρ d e => by
  unfold eFun at e
  cases e1 : L ρ with
  | ok ds => rw [e1] at e; exact h ds d e
  | exc c => rw [e1] at e; cases e
  | stuck => rw [e1] at e; cases e
theorem im_bin {g : D → D → R D} (h : ∀ x y d, g x y = .ok d → imm d = true) {F G : EF} : ∀ ρ d, eBin g F G ρ = .ok d → imm d = true := fun ρ d e => by
  unfold eBin at e
  cases e1 : F ρ with
  | ok x =>
    rw [e1, R.bind_ok] at e
    cases e2 : G ρ with
    | ok y => rw [e2] at e; exact h x y d e
    | exc c => rw [e2] at e; cases e
    | stuck => rw [e2] at e; cases e
  | exc c => rw [e1] at e; cases e
  | stuck => rw [e1] at e; cases e
theorem im_len : ∀ ds d, lenD ds = .ok d → imm d = true := fun ds d e => by
  unfold lenD at e
  split at e <;> first | (cases e; rfl) | (split at e <;> first | (cases e; rfl) | cases e) | cases e
theorem im_abs : ∀ ds d, absD ds = .ok d → imm d = true := fun ds d e => by
  unfold absD at e
  split at e <;> first | (cases e; rfl) | cases e
theorem im_max2 : ∀ ds d, max2D ds = .ok d → imm d = true := fun ds d e => by
  unfold max2D at e
  split at e <;> first | (cases e; rfl) | cases e
theorem im_min2 : ∀ ds d, min2D ds = .ok d → imm d = true := fun ds d e => by
  unfold min2D at e
  split at e <;> first | (cases e; rfl) | cases e
theorem im_int : ∀ ds d, intD ds = .ok d → imm d = true := fun ds d e => by
  unfold intD at e
  split at e <;> first | (cases e; rfl) | cases e
theorem im_sub : ∀ x y d, subD x y = .ok d → imm d = true := fun x y d e => by
  unfold subD at e
  split at e <;> first | (cases e; rfl) | cases e
theorem im_mod : ∀ x y d, modD x y = .ok d → imm d = true := fun x y d e => by
  unfold modD at e
  split at e <;> first | (split at e <;> first | (cases e; rfl) | cases e) | cases e
theorem im_fdiv : ∀ x y d, fdivD x y = .ok d → imm d = true := fun x y d e => by
  unfold fdivD at e
  split at e <;> first | (split at e <;> first | (cases e; rfl) | cases e) | cases e
theorem im_pow : ∀ x y d, powD x y = .ok d → imm d = true := fun x y d e => by
  unfold powD at e
  split at e <;> first | (split at e <;> first | (cases e; rfl) | cases e) | cases e
theorem im_eq : ∀ x y d, eqD x y = .ok d → imm d = true := fun x y d e => by
  unfold eqD at e
  split at e <;> first | (cases e; rfl) | cases e
theorem im_ne : ∀ x y d, neD x y = .ok d → imm d = true := fun x y d e => by
  unfold neD at e
  split at e <;> first | (cases e; rfl) | cases e
theorem im_lt : ∀ x y d, ltD x y = .ok d → imm d = true := fun x y d e => imm_lt e
theorem im_le : ∀ x y d, leD x y = .ok d → imm d = true := fun x y d e => imm_le e
theorem im_gt : ∀ x y d, gtD x y = .ok d → imm d = true := fun x y d e => by
  unfold gtD at e
  split at e <;> first | (cases e; rfl) | cases e
theorem im_ge : ∀ x y d, geD x y = .ok d → imm d = true := fun x y d e => by
  unfold geD at e
  split at e <;> first | (cases e; rfl) | cases e
theorem im_notD {r : R D} {d : D} (e : notD r = .ok d) : imm d = true := by
  unfold notD at e
  cases r with
  | ok z => cases z <;> first | (cases e; rfl) | cases e
  | exc c => cases e
  | stuck => cases e
theorem im_is : ∀ x y d, isD x y = .ok d → imm d = true := fun x y d e => by
  unfold isD at e
  split at e <;> first | (cases e; rfl) | cases e
theorem im_isNot : ∀ x y d, isNotD x y = .ok d → imm d = true := fun x y d e => im_notD e
theorem im_in : ∀ x y d, inD x y = .ok d → imm d = true := fun x y d e => by
  unfold inD at e
  split at e <;> first | (cases e; rfl) | (split at e <;> first | (cases e; rfl) | cases e) | cases e
theorem im_notIn : ∀ x y d, notInD x y = .ok d → imm d = true := fun x y d e => im_notD e
def eNeg (F : EF) : EF := fun ρ => (F ρ).bind fun d => match d with
  | .int i => .ok (.int (-i))
  | _ => .stuck
section
variable {X : Cx} {C : Cc} {W : WX} {Ob O O1 O' : Own} {e : Expr} {k : Nat} {F : EF} {pos : Pos} {st : Stmt} {G : Env → RS}
theorem ev_neg (h : EV X C W O e k F) : EV X C W O (.UnaryOp .USub e pos) 0 (eNeg F) := (pe_un un_neg h).imp fun σ H Q ⟨ρ, Fs, er, q⟩ => by
  refine tD.step er (Sat.bind q) fun d v H1 F1 p er1 x1 r1 kd1 => ?_
  cases d with
  | int i => cases r1; exact ⟨i, rfl, p _ H1 [] x1 (.int _) .nil⟩
  | _ => exact p.elim
theorem sv_preless (h : SV X C W Ob O1 O' st G) (hs : ∀ i ∈ O1, i ∈ O := by decide) : SV X C W Ob O O' st G := h.imp fun D σ H ⟨ρ, Fs, er, q⟩ => ⟨ρ, Fs, er.less hs, q⟩
end
/-! ### the end -/
theorem lawAt {l : PySem.W.OpenLaw} {w : World} {K : PySem.W.Frag} {mg : Str → Option Value} {h : Heap} {k n : Nat} {tf : List He.Defn} {F : List D → R D} {fd : FuncData} {fa : Addr} (KX : K.In h)
    (hd : ∀ p ∈ tf, PySem.W.codeHdIn K (He.cT K p).1 (He.cT K p).2 = true) (out : ∀ p ∈ tf, K.lookup (He.cT K p).2 = none) (em : ∀ p ∈ tf, h.get? (He.cT K p).2 = some { cls := .none, data := .fields #[] })
    (hb : ∀ (s : Shared) (u : Value), BindsTo s fd ⟨[u], []⟩ [("script", u)])
    (hF : ∀ base : Heap, K.In base → base.Ns mainGlobals mg → (∀ p ∈ tf, TabB base mg (He.cT K p).1 (He.cT K p).2) → FnOk l.prog w K mg base (L2.CX l.prog w) k fa fd ["script"] (spD K (tf.map fun p => (He.cT K p).2) 1 F))
    (plain : ∀ (ns : List Int) (d : D), ns.length ≤ n → (d = .list (ns.map .int) ∨ d = .dict [(.none, .tuple (ns.map .int))]) → F [d] = .ok (.bool true)) : LamX.LawAtS l w K (L2.CX l.prog w) k n "script" mg fa h := by
  have mem : ∀ q ∈ tf.map (He.cT K), ∃ p ∈ tf, He.cT K p = q := fun q hq => by
    obtain ⟨p, hp, e⟩ := List.mem_map.mp hq
    exact ⟨p, hp, e⟩
  refine ⟨fd, tf.map (He.cT K), spD K (tf.map fun p => (He.cT K p).2) 1 F, fun q hq => ?_, fun q hq => ?_, fun q hq => ?_, hb, fun H a ns hn hbits ht hS => ?_, fun base hK hg hT => hF base hK hg fun p hp => let t := hT _ (List.mem_map.mpr ⟨p, hp, rfl⟩); ⟨t.code, t.bm, t.gP⟩⟩
  · obtain ⟨p, hp, rfl⟩ := mem q hq; exact em p hp
  · obtain ⟨p, hp, rfl⟩ := mem q hq; exact out p hp
  · obtain ⟨p, hp, rfl⟩ := mem q hq
    exact PySem.W.codeHd_of_K KX (hd p hp)
  · have hin : RpL K H (ns.map V.int) (ns.map PyData.int) [] := by
      clear hn hS hbits
      induction ns with
      | nil => exact .nil
      | cons i ns ih => exact .cons (F := []) (G := []) (.int i) ih
    have key : ∀ (d : D) (FA : List Addr), Rp K H (.ref a) d FA → (d = .list (ns.map .int) ∨ d = .dict [(.none, .tuple (ns.map .int))]) → spD K (tf.map fun p => (He.cT K p).2) 1 F [.ref a] H (fun v _ => v = .bl true) fun _ _ _ => False := fun d FA r hd => by
      refine ⟨rfl, [d], FA ++ [], .cons r .nil, fun P hP => ?_, ?_⟩
      · obtain ⟨p, hp, rfl⟩ := List.mem_map.mp hP
        exact ⟨#[], ht _ (List.mem_map.mpr ⟨p, hp, rfl⟩), trivial⟩
      · rw [plain ns d hn hd]
        intro v H' F' x r _ _
        cases r
        rfl
    rcases hS with (hS | ⟨o, hS⟩) | hS
    · exact key _ _ (.lst hS hin) (.inl rfl)
    · exact key _ _ (.ro (.inl ⟨o, hS⟩) hin) (.inr rfl)
    · exact key _ _ (.ro (.inr hS) hin) (.inr rfl)
end Pd
namespace Pd
open PySem PySem.Spec PyProof.Rows L2
open Pd (D Env)
/-! ### data of a bounded depth -/
def Sh (n : Nat) (d : D) : Prop := d.canLay0 = true ∧ d.depth ≤ n
theorem Sh.shp {n : Nat} {d : D} (h : Sh n d) (hn : n ≤ 64 := by decide) : shp d = true := by
  unfold Pd.shp SeqAt.shaped
  rw [h.1, decide_eq_true (Nat.le_trans h.2 hn)] <;> rfl
theorem Sh.le {n m : Nat} {d : D} (h : Sh n d) (hn : n ≤ m := by decide) : Sh m d := ⟨h.1, Nat.le_trans h.2 hn⟩
theorem sh_int {n : Nat} {i : Int} : Sh n (.int i) := ⟨by unfold PyData.canLay0; rfl, by unfold PyData.depth; exact Nat.zero_le _⟩
theorem sh_none {n : Nat} : Sh n .none := ⟨by unfold PyData.canLay0; rfl, by unfold PyData.depth; exact Nat.zero_le _⟩
theorem sh_bool {n : Nat} {b : Bool} : Sh n (.bool b) := ⟨by unfold PyData.canLay0; rfl, by unfold PyData.depth; exact Nat.zero_le _⟩
theorem sh_all {n : Nat} : ∀ {xs : List D}, (∀ x ∈ xs, Sh n x) → PyData.canLayAll0 xs = true ∧ PyData.depthAll xs ≤ n
  | [], _ => ⟨by unfold PyData.canLayAll0; rfl, by unfold PyData.depthAll; exact Nat.zero_le _⟩
  | x :: xs, h => by
    obtain ⟨a, b⟩ := sh_all (xs := xs) fun y hy => h y (List.mem_cons_of_mem _ hy)
    obtain ⟨c, d⟩ := h x List.mem_cons_self
    unfold PyData.canLayAll0 PyData.depthAll
    exact ⟨by rw [a, c] <;> rfl, Nat.max_le.mpr ⟨d, b⟩⟩
theorem sh_tup {n : Nat} {xs : List D} (h : ∀ x ∈ xs, Sh n x) : Sh (n + 1) (.tuple xs) := by
  obtain ⟨a, b⟩ := sh_all h
  exact ⟨by unfold PyData.canLay0; exact a, by unfold PyData.depth; exact Nat.succ_le_succ b⟩
theorem sh_list {n : Nat} {xs : List D} (h : ∀ x ∈ xs, Sh n x) : Sh (n + 1) (.list xs) := by
  obtain ⟨a, b⟩ := sh_all h
  exact ⟨by unfold PyData.canLay0; exact a, by unfold PyData.depth; exact Nat.succ_le_succ b⟩
theorem sh_ints {L : List Int} : ∀ x ∈ L.map PyData.int, Sh 0 x := fun x hx => by
  obtain ⟨i, _, rfl⟩ := List.mem_map.mp hx
  exact sh_int
theorem sh_tI {L : List Int} : Sh 1 (.tuple (L.map .int)) := sh_tup sh_ints
theorem sh_lI {L : List Int} : Sh 1 (.list (L.map .int)) := sh_list sh_ints
/-! ### equality -/
mutual
theorem eqv_refl : ∀ d : D, d.canLay0 = true → PyData.eqv d d = true
  | .none, _ => by unfold PyData.eqv; rfl
  | .bool b, _ => by unfold PyData.eqv; exact beq_self_eq_true b
  | .int i, _ => by unfold PyData.eqv; exact beq_self_eq_true i
  | .str x, _ => by unfold PyData.eqv; exact beq_self_eq_true x
  | .list xs, h => by unfold PyData.eqv; exact eqvAll_refl xs (by unfold PyData.canLay0 at h; exact h)
  | .tuple xs, h => by unfold PyData.eqv; exact eqvAll_refl xs (by unfold PyData.canLay0 at h; exact h)
  | .dict _, h => by unfold PyData.canLay0 at h; cases h
theorem eqvAll_refl : ∀ xs : List D, PyData.canLayAll0 xs = true → PyData.eqvAll xs xs = true
  | [], _ => by unfold PyData.eqvAll; rfl
  | x :: xs, h => by
    unfold PyData.canLayAll0 at h
    obtain ⟨a, b⟩ := Bool.and_eq_true_iff.mp h
    unfold PyData.eqvAll
    rw [eqv_refl x a, eqvAll_refl xs b] <;> rfl
end
@[simp] theorem eqv_int (i j : Int) : PyData.eqv (.int i) (.int j) = decide (i = j) := by
  unfold PyData.eqv
  by_cases h : i = j <;> simp [h]
theorem eqvAll_ints : ∀ L M : List Int, PyData.eqvAll (L.map .int) (M.map .int) = decide (L = M)
  | [], [] => by simp [PyData.eqvAll]
  | [], _ :: _ => by simp [PyData.eqvAll]
  | _ :: _, [] => by simp [PyData.eqvAll]
  | x :: xs, y :: ys => by
    simp only [List.map_cons, PyData.eqvAll, eqv_int, eqvAll_ints xs ys, List.cons.injEq]
    by_cases h : x = y <;> by_cases g : xs = ys <;> simp [h, g]
theorem eqD_same {n : Nat} {d : D} (h : Sh n d) (hn : n ≤ 64 := by decide) : eqD d d = .ok (.bool true) := by
  unfold eqD
  rw [if_pos ⟨h.shp hn, h.shp hn⟩, eqv_refl d h.1]
theorem neD_same {n : Nat} {d : D} (h : Sh n d) (hn : n ≤ 64 := by decide) : neD d d = .ok (.bool false) := by
  unfold neD
  rw [if_pos ⟨h.shp hn, h.shp hn⟩, eqv_refl d h.1]
  rfl
@[simp] theorem shp_int (i : Int) : shp (.int i) = true := (sh_int (n := 0)).shp
@[simp] theorem shp_none : shp .none = true := (sh_none (n := 0)).shp
@[simp] theorem shp_bool (b : Bool) : shp (.bool b) = true := (sh_bool (n := 0)).shp
@[simp] theorem shp_tI (L : List Int) : shp (.tuple (L.map .int)) = true := sh_tI.shp
@[simp] theorem shp_lI (L : List Int) : shp (.list (L.map .int)) = true := sh_lI.shp
@[simp] theorem eqD_int (i j : Int) : eqD (.int i) (.int j) = .ok (.bool (decide (i = j))) := by
  unfold eqD
  rw [if_pos ⟨shp_int i, shp_int j⟩, eqv_int]
@[simp] theorem neD_int (i j : Int) : neD (.int i) (.int j) = .ok (.bool (!decide (i = j))) := by
  unfold neD
  rw [if_pos ⟨shp_int i, shp_int j⟩, eqv_int]
theorem any_int (L : List Int) (i : Int) : ((L.map PyData.int).any fun z => PyData.eqv z (.int i)) = decide (i ∈ L) := by
  induction L with
  | nil => simp
  | cons x xs ih =>
    rw [List.map_cons, List.any_cons, ih, eqv_int]
    by_cases h : x = i <;> by_cases g : i ∈ xs <;> simp [h, g, eq_comm]
    exact fun e => h e.symm
@[simp] theorem inD_tI (L : List Int) (i : Int) : inD (.int i) (.tuple (L.map .int)) = .ok (.bool (decide (i ∈ L))) := by
  show (if shp (.int i) = true ∧ shp (.tuple (L.map .int)) = true then R.ok (PyData.bool ((L.map PyData.int).any fun z => PyData.eqv z (.int i))) else .stuck) = _
  rw [if_pos ⟨shp_int i, shp_tI L⟩, any_int]
@[simp] theorem inD_lI (L : List Int) (i : Int) : inD (.int i) (.list (L.map .int)) = .ok (.bool (decide (i ∈ L))) := by
  show (if shp (.int i) = true ∧ shp (.list (L.map .int)) = true then R.ok (PyData.bool ((L.map PyData.int).any fun z => PyData.eqv z (.int i))) else .stuck) = _
  rw [if_pos ⟨shp_int i, shp_lI L⟩, any_int]
/-! ### places -/
theorem atI_nat {α : Type} (xs : List α) (k : Nat) : atI xs (k : Int) = xs[k]? := by
  unfold atI ixN
  rw [if_pos (Int.natCast_nonneg k)]
  by_cases h : k < xs.length
  · rw [if_pos (by omega)]
    simp
  · rw [if_neg (by omega)]
    simp [List.getElem?_eq_none (Nat.le_of_not_lt h)]
theorem atI_lt {xs : List Int} {k : Nat} (h : k < xs.length) : atI (xs.map PyData.int) (k : Int) = some (.int (xs.getD k 0)) := by
  rw [atI_nat, List.getElem?_map, List.getElem?_eq_getElem h]
  simp [List.getD, h]
theorem ixD_tup (ds : List D) (i : Int) : ixD (.tuple ds) (.int i) = match atI ds i with
  | some d => .ok d
  | none => .stuck := rfl
theorem ixD_lst (ds : List D) (i : Int) : ixD (.list ds) (.int i) = match atI ds i with
  | some d => .ok d
  | none => .stuck := rfl
theorem ix_tI {xs : List Int} {k : Nat} (h : k < xs.length) : ixD (.tuple (xs.map .int)) (.int k) = .ok (.int (xs.getD k 0)) := by
  rw [ixD_tup, atI_lt h]
theorem ix_lI {xs : List Int} {k : Nat} (h : k < xs.length) : ixD (.list (xs.map .int)) (.int k) = .ok (.int (xs.getD k 0)) := by
  rw [ixD_lst, atI_lt h]
/-! ### loops -/
theorem forD_inv {g : Env → D → R Env} {B : Env → RS} {ds : List D} {ρ : Env} (Inv : Nat → Env → Prop) (h0 : Inv 0 ρ)
    (step : ∀ i d ρ, ds[i]? = some d → Inv i ρ → ∃ ρ1 ρ2, g ρ d = .ok ρ1 ∧ (B ρ1 = .nx ρ2 ∨ B ρ1 = .ct ρ2) ∧ Inv (i + 1) ρ2) : ∃ ρ', forD g B ds ρ = .nx ρ' ∧ Inv ds.length ρ' := by
  have key : ∀ (ds2 : List D) (k : Nat) (ρ : Env), ds.drop k = ds2 → k ≤ ds.length → Inv k ρ → ∃ ρ', forD g B ds2 ρ = .nx ρ' ∧ Inv ds.length ρ' := by
    intro ds2
    induction ds2 with
    | nil =>
      intro k ρ e hk i
      have : ds.length ≤ k := List.drop_eq_nil_iff.mp e
      have : k = ds.length := by omega
      subst this
      exact ⟨ρ, rfl, i⟩
    | cons d r ih =>
      intro k ρ e hk i
      have hd : ds[k]? = some d := by
        have := congrArg (fun l => l[0]?) e
        simpa using this
      obtain ⟨ρ1, ρ2, e1, e2, i2⟩ := step k d ρ hd i
      have lt : k < ds.length := by
        rcases Nat.lt_or_ge k ds.length with z | z
        · exact z
        · rw [List.getElem?_eq_none z] at hd; cases hd
      have er : ds.drop (k + 1) = r := by
        have := congrArg List.tail e
        simpa [List.tail_drop] using this
      obtain ⟨ρ3, e3, i3⟩ := ih (k + 1) ρ2 er lt i2
      refine ⟨ρ3, ?_, i3⟩
      unfold forD
      rw [e1]
      rcases e2 with e2 | e2
      · simp only [RS.of_ok, e2, e3]
      · simp only [RS.of_ok, e2, e3]
  exact key ds 0 ρ rfl (Nat.zero_le _) h0
/-- a comprehension, all turns alike -/
theorem lcGo_map {g : Env → D → R Env} {tt : Env → R Bool} {te : EF} {ρ : Env} {α : Type} (f : α → D) (p : α → Bool) (y : α → D) : ∀ (L : List α),
    (∀ a ∈ L, ∃ ρ1, g ρ (f a) = .ok ρ1 ∧ tt ρ1 = .ok (p a) ∧ (p a = true → te ρ1 = .ok (y a))) → lcGo g tt te ρ (L.map f) = .ok ((L.filter p).map y)
  | [], _ => by unfold lcGo; rfl
  | a :: L, h => by
    obtain ⟨ρ1, e1, e2, e3⟩ := h a List.mem_cons_self
    have ih := lcGo_map f p y L fun b hb => h b (List.mem_cons_of_mem _ hb)
    rw [List.map_cons]
    unfold lcGo
    rw [e1, R.bind_ok, e2, R.bind_ok, ih]
    cases hp : p a with
    | true =>
      rw [if_pos rfl, e3 hp, List.filter_cons_of_pos hp]
      rfl
    | false =>
      rw [if_neg (by decide), List.filter_cons_of_neg (by simp [hp])]
      rfl
theorem lcGo_all {g : Env → D → R Env} {te : EF} {ρ : Env} {α : Type} (f : α → D) (y : α → D) (L : List α)
    (h : ∀ a ∈ L, ∃ ρ1, g ρ (f a) = .ok ρ1 ∧ te ρ1 = .ok (y a)) : lcGo g bYes te ρ (L.map f) = .ok (L.map y) := by
  have := lcGo_map (g := g) (tt := bYes) (te := te) (ρ := ρ) f (fun _ => true) y L fun a ha => by
    obtain ⟨ρ1, a1, a2⟩ := h a ha
    exact ⟨ρ1, a1, rfl, fun _ => a2⟩
  rw [this, List.filter_eq_self.mpr fun a _ => rfl]
theorem gx_all {g : Env → D → R Env} {te : EF} {ρ : Env} {α : Type} (f : α → D) (p : α → Bool) : ∀ (L : List α),
    (∀ a ∈ L, ∃ ρ1, g ρ (f a) = .ok ρ1 ∧ te ρ1 = .ok (.bool (p a))) → gxGo false g bYes te ρ (L.map f) = .ok (L.all p)
  | [], _ => by unfold gxGo; rfl
  | a :: L, h => by
    obtain ⟨ρ1, e1, e2⟩ := h a List.mem_cons_self
    have ih := gx_all f p L fun b hb => h b (List.mem_cons_of_mem _ hb)
    rw [List.map_cons]
    unfold gxGo
    rw [e1, R.bind_ok, show bYes ρ1 = .ok true from rfl, R.bind_ok, if_pos rfl, e2]
    cases hp : p a with
    | true => simpa [still, hp] using ih
    | false => simp [still, hp]
theorem gx_any {g : Env → D → R Env} {te : EF} {ρ : Env} {α : Type} (f : α → D) (p : α → Bool) : ∀ (L : List α),
    (∀ a ∈ L, ∃ ρ1, g ρ (f a) = .ok ρ1 ∧ te ρ1 = .ok (.bool (p a))) → gxGo true g bYes te ρ (L.map f) = .ok (L.any p)
  | [], _ => by unfold gxGo; rfl
  | a :: L, h => by
    obtain ⟨ρ1, e1, e2⟩ := h a List.mem_cons_self
    have ih := gx_any f p L fun b hb => h b (List.mem_cons_of_mem _ hb)
    rw [List.map_cons]
    unfold gxGo
    rw [e1, R.bind_ok, show bYes ρ1 = .ok true from rfl, R.bind_ok, if_pos rfl, e2]
    cases hp : p a with
    | true => simp [still, hp]
    | false => simpa [still, hp] using ih
end Pd
namespace Pd
open PySem PySem.Spec PyProof.Rows L2
open Pd (D Env)
def mag (x : Int) : Int := if x < 0 then -x else x
section
variable {ρ : Env} {F G J : EF} {L : Env → R (List D)} {f g : D → D → R D} {A B : Env → RS} {c b1 b2 : Env → R Bool} {i j : Nat} {h : List D → R D}
/-! ### what the combinators do, step by step -/
@[simp high] theorem z_ok {α β : Type} (a : α) (f : α → R β) : R.bind (.ok a) f = f a := id rfl
@[simp high] theorem z_exc {α β : Type} (c : Str) (f : α → R β) : R.bind (.exc c) f = .exc c := id rfl
@[simp high] theorem z_st {α β : Type} (f : α → R β) : R.bind .stuck f = .stuck := id rfl
@[simp high] theorem z_of_ok {α : Type} {a : α} {ρ : Env} {f : α → RS} : RS.of (.ok a) ρ f = f a := id rfl
@[simp high] theorem z_of_exc {α : Type} {c : Str} {ρ : Env} {f : α → RS} : RS.of (.exc c) ρ f = .exc c ρ := id rfl
@[simp high] theorem z_of_st {α : Type} {ρ : Env} {f : α → RS} : RS.of .stuck ρ f = .stuck := id rfl
def RS.seq (r : RS) (B : Env → RS) : RS := match r with
  | .nx ρ' => B ρ'
  | r => r
@[simp] theorem q_seq : seqD A B ρ = RS.seq (A ρ) B := id rfl
@[simp] theorem q_seq_nx : RS.seq (.nx ρ) B = B ρ := id rfl
@[simp] theorem q_seq_rt {d : D} : RS.seq (.rt d) B = .rt d := id rfl
@[simp] theorem q_seq_bk : RS.seq (.bk ρ) B = .bk ρ := id rfl
@[simp] theorem q_seq_ct : RS.seq (.ct ρ) B = .ct ρ := id rfl
@[simp] theorem q_seq_exc {x : Str} : RS.seq (.exc x ρ) B = .exc x ρ := id rfl
@[simp] theorem q_seq_st : RS.seq .stuck B = .stuck := id rfl
@[simp] theorem q_seq_ite {p : Prop} [Decidable p] {r s : RS} : RS.seq (if p then r else s) B = if p then RS.seq r B else RS.seq s B := apply_ite (fun z => RS.seq z B) _ _ _
@[simp] theorem q_fin_ite {p : Prop} [Decidable p] {r s : RS} : finD (if p then r else s) = if p then finD r else finD s := apply_ite finD _ _ _
@[simp] theorem q_of_ite {α : Type} {p : Prop} [Decidable p] {r s : R α} {f : α → RS} : RS.of (if p then r else s) ρ f = if p then RS.of r ρ f else RS.of s ρ f := apply_ite (fun z => RS.of z ρ f) _ _ _
@[simp] theorem q_bind_ite {α β : Type} {p : Prop} [Decidable p] {r s : R α} {f : α → R β} : R.bind (if p then r else s) f = if p then R.bind r f else R.bind s f := apply_ite (fun z => R.bind z f) _ _ _
@[simp] theorem q_if : ifD c A B ρ = RS.of (c ρ) ρ fun b => if b = true then A ρ else B ρ := id rfl
@[simp] theorem q_next : nextD ρ = .nx ρ := id rfl
@[simp] theorem q_brk : brkD ρ = .bk ρ := id rfl
@[simp] theorem q_cont : contD ρ = .ct ρ := id rfl
@[simp] theorem q_drop : dropD F ρ = RS.of (F ρ) ρ fun _ => .nx ρ := id rfl
@[simp] theorem q_ret : retD F ρ = RS.of (F ρ) ρ .rt := id rfl
@[simp] theorem q_set : setD i F ρ = RS.of (F ρ) ρ fun d => .nx (ρ.put i d) := id rfl
@[simp] theorem q_move : moveD i j ρ = RS.of (ρ.get j) ρ fun d => .nx ((ρ.del j).put i d) := id rfl
@[simp] theorem q_par {is : List Nat} : parD is L ρ = RS.of (L ρ) ρ fun ds => .nx (putsD is ds ρ) := id rfl
@[simp] theorem q_raise {x : Str} : raiseD x ρ = .exc x ρ := id rfl
@[simp] theorem q_name : eName i ρ = ρ.get i := id rfl
@[simp] theorem q_c {d : D} : eC d ρ = .ok d := id rfl
@[simp] theorem q_imm : eImm F ρ = (F ρ).bind fun d => if imm d = true then .ok d else .stuck := id rfl
@[simp] theorem q_bin : eBin f F G ρ = (F ρ).bind fun x => (G ρ).bind fun y => f x y := id rfl
@[simp] theorem q_bbin : bBin f F G ρ = (F ρ).bind fun x => (G ρ).bind fun y => (f x y).bind fun z => match z with
  | .bool b => .ok b
  | _ => .stuck := id rfl
@[simp] theorem q_tru : bTru F ρ = (F ρ).bind truthD := id rfl
@[simp] theorem q_bnot : bNot c ρ = (c ρ).bind fun b => .ok (!b) := id rfl
@[simp] theorem q_band : bAnd b1 b2 ρ = (b1 ρ).bind fun b => if b = true then b2 ρ else .ok false := id rfl
@[simp] theorem q_bor : bOr b1 b2 ρ = (b1 ρ).bind fun b => if b = true then .ok true else b2 ρ := id rfl
@[simp] theorem q_and : eAnd F G ρ = (F ρ).bind fun x => (truthD x).bind fun b => if b = true then G ρ else .ok x := id rfl
@[simp] theorem q_or : eOr F G ρ = (F ρ).bind fun x => (truthD x).bind fun b => if b = true then .ok x else G ρ := id rfl
@[simp] theorem q_not : eNot F ρ = (F ρ).bind fun x => (truthD x).bind fun b => .ok (.bool (!b)) := id rfl
@[simp] theorem q_ife : eIf c F G ρ = (c ρ).bind fun b => if b = true then F ρ else G ρ := id rfl
@[simp] theorem q_nil : lNil ρ = .ok [] := id rfl
@[simp] theorem q_cons : lCons F L ρ = (F ρ).bind fun x => (L ρ).bind fun xs => .ok (x :: xs) := id rfl
@[simp] theorem q_tup : eTup L ρ = (L ρ).bind fun xs => .ok (.tuple xs) := id rfl
@[simp] theorem q_lst : eLst L ρ = (L ρ).bind fun xs => .ok (.list xs) := id rfl
@[simp] theorem q_ix : eIx F G ρ = (F ρ).bind fun x => (G ρ).bind fun y => ixD x y := id rfl
@[simp] theorem q_sl {lo hi : Env → R (Option Int)} : eSl F lo hi ρ = (F ρ).bind fun x => (lo ρ).bind fun l => (hi ρ).bind fun h => slD x l h := id rfl
@[simp] theorem q_pn : pNone ρ = .ok none := id rfl
@[simp] theorem q_ps : pSome F ρ = (F ρ).bind fun d => match d with
  | .int i => .ok (some i)
  | _ => .stuck := id rfl
@[simp] theorem q_fun : eFun h L ρ = (L ρ).bind h := id rfl
@[simp] theorem q_call : eCall h L ρ = (L ρ).bind h := id rfl
@[simp] theorem q_it : eIt F ρ = (F ρ).bind itD := id rfl
@[simp] theorem q_rng : eRng L ρ = (L ρ).bind rngD := id rfl
@[simp] theorem q_isi {T : String} : eIsi T F ρ = (F ρ).bind fun d => .ok (.bool (isiD T d)) := id rfl
@[simp] theorem q_yes : bYes ρ = .ok true := id rfl
@[simp] theorem q_gn {d : D} : gN i ρ d = .ok (ρ.put i d) := id rfl
@[simp] theorem q_fors {I : Env → R (List D)} {gg : Env → D → R Env} : forS I gg A ρ = RS.of (I ρ) ρ fun ds => forD gg A ds ρ := id rfl
@[simp] theorem q_lc {I : Env → R (List D)} {gg : Env → D → R Env} {vs : List Nat} : eLc I gg c F vs ρ = (I ρ).bind fun ds => (lcGo gg c F (wipeD ρ vs) ds).bind fun ys => if ys.length < 16777216 then .ok (.list ys) else .stuck := id rfl
@[simp] theorem q_gx {sv : Bool} {I : Env → R (List D)} {gg : Env → D → R Env} {vs : List Nat} : eGx sv I gg c F vs ρ = (I ρ).bind fun ds => (gxGo sv gg c F (wipeD ρ vs) ds).bind fun b => .ok (.bool b) := id rfl
@[simp] theorem q_app : appD i L ρ = RS.of (ρ.get i) ρ fun x => match x with
  | .list ds => RS.of (L ρ) ρ fun ys => match ys with
    | [d] => if ds.length < 16777216 then .nx (ρ.put i (.list (ds ++ [d]))) else .stuck
    | _ => .stuck
  | _ => .stuck := id rfl
@[simp] theorem q_try {tbl : List (Str × Bool)} : tryD A tbl B ρ = catchD tbl B (A ρ) := id rfl
@[simp] theorem q_try2 {t1 t2 : List (Str × Bool)} {C : Env → RS} : try2D A t1 B t2 C ρ = catch2D t1 B t2 C (A ρ) := id rfl
@[simp] theorem q_catch_rt {tbl : List (Str × Bool)} {d : D} : catchD tbl B (.rt d) = .rt d := id rfl
@[simp] theorem q_catch_nx {tbl : List (Str × Bool)} : catchD tbl B (.nx ρ) = .nx ρ := id rfl
@[simp] theorem q_catch2_rt {t1 t2 : List (Str × Bool)} {C : Env → RS} {d : D} : catch2D t1 B t2 C (.rt d) = .rt d := id rfl
@[simp] theorem q_catch2_nx {t1 t2 : List (Str × Bool)} {C : Env → RS} : catch2D t1 B t2 C (.nx ρ) = .nx ρ := id rfl
@[simp] theorem q_w0 : wipeD ρ [] = ρ := id rfl
@[simp] theorem q_w1 {vs : List Nat} : wipeD ρ (i :: vs) = (wipeD ρ vs).del i := id rfl
@[simp] theorem q_puts0 {ds : List D} : putsD [] ds ρ = ρ := id rfl
@[simp] theorem q_puts1 {d : D} {ds : List D} {is : List Nat} : putsD (i :: is) (d :: ds) ρ = putsD is ds (ρ.put i d) := id rfl
def chainB (z : D) (r : R D) : R D := match z with
  | .bool p => if p = true then r else .ok (.bool false)
  | _ => .stuck
@[simp] theorem q_chainB {p : Bool} {r : R D} : chainB (.bool p) r = if p = true then r else .ok (.bool false) := id rfl
@[simp] theorem q_chain : eChain f g F G J ρ = (F ρ).bind fun x => (G ρ).bind fun y => (f x y).bind fun z => chainB z ((J ρ).bind fun w => g y w) := by
  unfold eChain
  congr 1; funext x; congr 1; funext y; congr 1; funext z
  cases z with
  | bool p => cases p <;> rfl
  | _ => rfl
def toB (z : D) : R Bool := match z with
  | .bool b => .ok b
  | _ => .stuck
@[simp] theorem q_toB {p : Bool} : toB (.bool p) = .ok p := id rfl
@[simp] theorem q_bchain : bChain f g F G J ρ = (eChain f g F G J ρ).bind toB := id rfl
@[simp] theorem q_cnt : eCnt F L ρ = (F ρ).bind fun x => (itD x).bind fun ds => (L ρ).bind fun ys => match ys with
  | [d] => cntD ds d
  | _ => .stuck := id rfl
theorem cnt_int {L : List Int} {x : Int} : cntD (L.map .int) (.int x) = .ok (.int (L.count x : Nat)) := by
  unfold cntD
  rw [if_pos ⟨shp_lI L, shp_int x⟩]
  congr 3
  rw [List.countP_map]
  unfold List.count
  congr 1
@[simp] theorem q_lrev {xs : List D} (h : F ρ = .ok (.tuple xs)) : eListRev F ρ = .ok (.list xs.reverse) := by
  unfold eListRev
  rw [h] <;> rfl
@[simp] theorem q_neg {a : Int} (h : F ρ = .ok (.int a)) : eNeg F ρ = .ok (.int (-a)) := by
  unfold eNeg
  rw [h] <;> rfl
/-! ### slots -/
@[simp] theorem q_get0 {d : D} {ρ : Env} : Env.get (some d :: ρ) 0 = .ok d := id rfl
@[simp] theorem q_getS {x : Option D} {ρ : Env} : Env.get (x :: ρ) (i + 1) = Env.get ρ i := id rfl
@[simp] theorem q_put0 {x : Option D} {d : D} {ρ : Env} : Env.put (x :: ρ) 0 d = some d :: ρ := id rfl
@[simp] theorem q_putS {x : Option D} {d : D} {ρ : Env} : Env.put (x :: ρ) (i + 1) d = x :: Env.put ρ i d := id rfl
@[simp] theorem q_del0 {x : Option D} {ρ : Env} : Env.del (x :: ρ) 0 = none :: ρ := id rfl
@[simp] theorem q_delS {x : Option D} {ρ : Env} : Env.del (x :: ρ) (i + 1) = x :: Env.del ρ i := id rfl
/-! ### operations -/
variable {a b : Int} {xs ys : List D} {s t : Str}
@[simp] theorem o_add : addD (.int a) (.int b) = .ok (.int (a + b)) := id rfl
@[simp] theorem o_addT : addD (.tuple xs) (.tuple ys) = if xs.length + ys.length ≤ 16777216 then .ok (.tuple (xs ++ ys)) else .stuck := id rfl
@[simp] theorem o_addL : addD (.list xs) (.list ys) = if xs.length + ys.length ≤ 16777216 then .ok (.list (xs ++ ys)) else .stuck := id rfl
@[simp] theorem o_sub : subD (.int a) (.int b) = .ok (.int (a - b)) := id rfl
@[simp] theorem o_mul : mulD (.int a) (.int b) = if (-(2 ^ 64) < a ∧ a < 2 ^ 64) ∨ (-(2 ^ 64) < b ∧ b < 2 ^ 64) then .ok (.int (a * b)) else .stuck := id rfl
@[simp] theorem o_mulT : mulD (.tuple xs) (.int b) = if immL xs = true ∧ -1000000 ≤ b ∧ b ≤ 1000 ∧ xs.length ≤ 1000 then .ok (.tuple (repD xs b)) else .stuck := id rfl
@[simp] theorem o_mulL : mulD (.list xs) (.int b) = if immL xs = true ∧ -1000000 ≤ b ∧ b ≤ 1000 ∧ xs.length ≤ 1000 then .ok (.list (repD xs b)) else .stuck := id rfl
@[simp] theorem o_mod : modD (.int a) (.int b) = if 0 < b then .ok (.int (a % b)) else .stuck := id rfl
@[simp] theorem o_div : fdivD (.int a) (.int b) = if 0 < b ∧ b < 1073741824 then .ok (.int (a / b)) else .stuck := id rfl
@[simp] theorem o_pow : powD (.int a) (.int b) = if 0 ≤ b ∧ b ≤ 1000000 ∧ a.natAbs < 2 ^ 64 then .ok (.int (a ^ b.toNat)) else .stuck := id rfl
@[simp] theorem o_lt : ltD (.int a) (.int b) = .ok (.bool (decide (a < b))) := id rfl
@[simp] theorem o_le : leD (.int a) (.int b) = .ok (.bool (decide (a ≤ b))) := id rfl
@[simp] theorem o_gt : gtD (.int a) (.int b) = .ok (.bool (decide (b < a))) := id rfl
@[simp] theorem o_ge : geD (.int a) (.int b) = .ok (.bool (decide (b ≤ a))) := id rfl
@[simp] theorem o_isNN : isD .none .none = .ok (.bool true) := id rfl
@[simp] theorem o_isIN : isD (.int a) .none = .ok (.bool false) := id rfl
@[simp] theorem o_isTN : isD (.tuple xs) .none = .ok (.bool false) := id rfl
@[simp] theorem o_isLN : isD (.list xs) .none = .ok (.bool false) := id rfl
@[simp] theorem o_isSN : isD (.str s) .none = .ok (.bool false) := id rfl
@[simp] theorem o_isBN {p : Bool} : isD (.bool p) .none = .ok (.bool false) := by cases p <;> rfl
@[simp] theorem o_isNB {q : Bool} : isD .none (.bool q) = .ok (.bool false) := id rfl
@[simp] theorem o_isBB {p q : Bool} : isD (.bool p) (.bool q) = .ok (.bool (p == q)) := id rfl
@[simp] theorem o_isIB {q : Bool} : isD (.int a) (.bool q) = .ok (.bool false) := id rfl
@[simp] theorem o_isTB {q : Bool} : isD (.tuple xs) (.bool q) = .ok (.bool false) := id rfl
@[simp] theorem o_isLB {q : Bool} : isD (.list xs) (.bool q) = .ok (.bool false) := id rfl
@[simp] theorem o_isSB {q : Bool} : isD (.str s) (.bool q) = .ok (.bool false) := id rfl
@[simp] theorem o_isNot {x y : D} : isNotD x y = notD (isD x y) := id rfl
@[simp] theorem o_notIn {x y : D} : notInD x y = notD (inD x y) := id rfl
@[simp] theorem o_not {p : Bool} : notD (.ok (.bool p)) = .ok (.bool (!p)) := id rfl
@[simp] theorem o_truN : truthD .none = .ok false := id rfl
@[simp] theorem o_truB {p : Bool} : truthD (.bool p) = .ok p := id rfl
@[simp] theorem o_truI : truthD (.int a) = .ok (a != 0) := id rfl
@[simp] theorem o_truT : truthD (.tuple xs) = .ok (!xs.isEmpty) := id rfl
@[simp] theorem o_truL : truthD (.list xs) = .ok (!xs.isEmpty) := id rfl
@[simp] theorem o_lenT : lenD [.tuple xs] = .ok (.int xs.length) := id rfl
@[simp] theorem o_lenL : lenD [.list xs] = .ok (.int xs.length) := id rfl
@[simp] theorem o_lenR : lenD [.dict [(.none, .tuple xs)]] = .ok (.int xs.length) := id rfl
@[simp] theorem o_abs : absD [.int a] = .ok (.int (mag a)) := id rfl
@[simp] theorem o_max : max2D [.int a, .int b] = .ok (.int (if b > a then b else a)) := id rfl
@[simp] theorem o_min : min2D [.int a, .int b] = .ok (.int (if b < a then b else a)) := id rfl
@[simp] theorem o_int : intD [.int a] = .ok (.int a) := id rfl
@[simp] theorem o_tupT : tupleD [.tuple xs] = .ok (.tuple xs) := id rfl
@[simp] theorem o_tupL : tupleD [.list xs] = .ok (.tuple xs) := id rfl
@[simp] theorem o_lstT : listD [.tuple xs] = .ok (.list xs) := id rfl
@[simp] theorem o_lstL : listD [.list xs] = .ok (.list xs) := id rfl
@[simp] theorem o_itT : itD (.tuple xs) = .ok xs := id rfl
@[simp] theorem o_itL : itD (.list xs) = .ok xs := id rfl
@[simp] theorem o_tyN : isiD "int" .none = false := id rfl
@[simp] theorem o_tyI : isiD "int" (.int a) = true := by simp [isiD, tyD]
@[simp] theorem o_tyB {p : Bool} : isiD "int" (.bool p) = true := by simp [isiD, tyD]
@[simp] theorem o_tyS : isiD "int" (.str s) = false := by simp [isiD, tyD]
@[simp] theorem o_tyT : isiD "int" (.tuple xs) = false := by simp [isiD, tyD]
@[simp] theorem o_tyL : isiD "int" (.list xs) = false := by simp [isiD, tyD]
@[simp] theorem o_ttN : isiD "tuple" .none = false := id rfl
@[simp] theorem o_ttI : isiD "tuple" (.int a) = false := by simp [isiD, tyD]
@[simp] theorem o_ttB {p : Bool} : isiD "tuple" (.bool p) = false := by simp [isiD, tyD]
@[simp] theorem o_ttS : isiD "tuple" (.str s) = false := by simp [isiD, tyD]
@[simp] theorem o_ttT : isiD "tuple" (.tuple xs) = true := by simp [isiD, tyD]
@[simp] theorem o_ttL : isiD "tuple" (.list xs) = false := by simp [isiD, tyD]
@[simp] theorem o_imI : imm (.int a) = true := id rfl
@[simp] theorem o_imN : imm .none = true := id rfl
@[simp] theorem o_imB {p : Bool} : imm (.bool p) = true := id rfl
@[simp] theorem o_imS : imm (.str s) = true := id rfl
@[simp] theorem o_imT : imm (.tuple xs) = immL xs := id rfl
@[simp] theorem o_imL0 : immL [] = true := id rfl
@[simp] theorem o_imL1 {x : D} : immL (x :: xs) = (imm x && immL xs) := id rfl
@[simp] theorem o_imInts {L : List Int} : immL (L.map PyData.int) = true := by
  induction L with
  | nil => rfl
  | cons x xs ih => rw [List.map_cons, o_imL1, ih] <;> rfl
@[simp] theorem o_fin {d : D} : finD (.rt d) = .ok d := id rfl
@[simp] theorem o_finN : finD (.nx ρ) = .ok .none := id rfl
@[simp] theorem o_finX {x : Str} : finD (.exc x ρ) = .exc x := id rfl
end
/-! ### ranges -/
theorem rangeL_get {lo : Int} {n i : Nat} {d : D} (h : (rangeL lo n)[i]? = some d) : i < n ∧ d = .int (lo + (i : Nat)) := by
  unfold rangeL at h
  rw [List.getElem?_map] at h
  rcases Nat.lt_or_ge i n with z | z
  · rw [List.getElem?_range z] at h
    exact ⟨z, (Option.some.inj h).symm⟩
  · rw [List.getElem?_eq_none (by simpa using z)] at h
    cases h
theorem rng1 {b : Nat} (h : b < 4611686018427387904) : rngD [.int (b : Int)] = .ok (rangeL 0 b) := by
  refine (if_pos (by omega) : (if -4611686018427387904 ≤ (b : Int) ∧ (b : Int) < 4611686018427387904 then R.ok (rangeL 0 (b : Int).toNat) else .stuck) = _).trans ?_
  simp
theorem rng2 {a b : Nat} (ha : a < 4611686018427387904) (h : b < 4611686018427387904) : rngD [.int (a : Int), .int (b : Int)] = .ok (rangeL a (b - a)) := by
  refine (if_pos (by omega) : (if -4611686018427387904 ≤ (a : Int) ∧ (a : Int) < 4611686018427387904 ∧ -4611686018427387904 ≤ (b : Int) ∧ (b : Int) < 4611686018427387904 then R.ok (rangeL a ((b : Int) - a).toNat) else .stuck) = _).trans ?_
  have : ((b : Int) - (a : Int)).toNat = b - a := by omega
  rw [this]
theorem rangeL0 (n : Nat) : rangeL 0 n = (List.range n).map fun i => PyData.int (i : Nat) := by
  unfold rangeL
  apply List.map_congr_left
  intro i _
  rw [Int.zero_add]
theorem getD_lt {L : List Int} {k : Nat} (h : k < L.length) : L.getD k 0 = L[k] := by simp [List.getD, h]
end Pd
namespace Pd.Law
open PySem PySem.Spec PyProof.Rows L2 Pd
open Pd (D Env)
def top (i : Nat) : Stmt := PySem.Challenge.pw_tuneworks_k85_answers_and_entries.main.body.getD i (.Pass ⟨0, 0, 0, 0⟩)
abbrev N__law_draws : List Str := ["cell", "count", "result", "rest", "k", "mixed"]
abbrev sc__law_draws : Scope := defScope (top 23)
theorem S__law_draws : FnScope N__law_draws ["cell", "count"] sc__law_draws := ⟨rfl, rfl, rfl, by decide +kernel, rfl, by decide +kernel, by decide +kernel⟩
def m__law_draws_L1 : Env → RS := (seqD (setD 5 (eBin modD (eFun intD (lCons (eBin addD (eBin addD (eBin mulD (eName 0) (eC (.int 48271))) (eBin mulD (eName 4) (eC (.int 69621)))) (eC (.int 1))) lNil)) (eC (.int 2147483647)))) (ifD (bBin geD (eName 0) (eBin powD (eC (.int 10)) (eC (.int 18)))) (seqD (appD 2 (lCons (eBin modD (eName 3) (eC (.int 1009))) lNil)) (setD 3 (eBin fdivD (eName 3) (eC (.int 1009))))) (appD 2 (lCons (eBin fdivD (eBin modD (eFun intD (lCons (eBin addD (eBin mulD (eName 5) (eName 5)) (eBin mulD (eName 5) (eC (.int 40692)))) lNil)) (eC (.int 2147483399))) (eC (.int 7))) lNil))))
def m__law_draws : Env → RS := (seqD (setD 2 (eLst lNil)) (seqD (setD 3 (eFun intD (lCons (eName 0) lNil))) (seqD (forS (eRng (lCons (eName 1) lNil)) (gN 4) m__law_draws_L1) (retD (eName 2)))))
def d__law_draws : List D → R D := callD N__law_draws.length m__law_draws
abbrev N__law_cell : List Str := ["script", "k"]
abbrev sc__law_cell : Scope := defScope (top 22)
theorem S__law_cell : FnScope N__law_cell ["script", "k"] sc__law_cell := ⟨rfl, rfl, rfl, by decide +kernel, rfl, by decide +kernel, by decide +kernel⟩
def m__law_cell : Env → RS := (seqD (ifD (bBin ltD (eName 1) (eFun lenD (lCons (eName 0) lNil))) (retD (eImm (eIx (eName 0) (eName 1)))) nextD) (retD (eC (.int 0))))
def d__law_cell : List D → R D := callD N__law_cell.length m__law_cell
abbrev N_is_number : List Str := ["value"]
abbrev sc_is_number : Scope := defScope (top 5)
theorem S_is_number : FnScope N_is_number ["value"] sc_is_number := ⟨rfl, rfl, rfl, by decide +kernel, rfl, by decide +kernel, by decide +kernel⟩
def m_is_number : Env → RS := (retD (eAnd (eIsi "int" (eName 0)) (eAnd (eBin isNotD (eName 0) (eC (.bool true))) (eBin isNotD (eName 0) (eC (.bool false))))))
def d_is_number : List D → R D := callD N_is_number.length m_is_number
abbrev N_check_notes : List Str := ["line", "note"]
abbrev sc_check_notes : Scope := defScope (top 6)
theorem S_check_notes : FnScope N_check_notes ["line"] sc_check_notes := ⟨rfl, rfl, rfl, by decide +kernel, rfl, by decide +kernel, by decide +kernel⟩
def m_check_notes_e1 : EF := (eAnd (eCall d_is_number (lCons (eName 1) lNil)) (eBin leD (eFun absD (lCons (eName 1) lNil)) (eC (.int 199))))
def m_check_notes : Env → RS := (ifD (bOr (bNot (bTru (eIsi "tuple" (eName 0)))) (bOr (bBin eqD (eFun lenD (lCons (eName 0) lNil)) (eC (.int 0))) (bNot (bTru (eGx false (eIt (eName 0)) (gN 1) bYes m_check_notes_e1 [1]))))) (raiseD "BadLine") nextD)
def d_check_notes : List D → R D := callD N_check_notes.length m_check_notes
abbrev N_check_steps : List Str := ["value"]
abbrev sc_check_steps : Scope := defScope (top 8)
theorem S_check_steps : FnScope N_check_steps ["value"] sc_check_steps := ⟨rfl, rfl, rfl, by decide +kernel, rfl, by decide +kernel, by decide +kernel⟩
def m_check_steps : Env → RS := (ifD (bOr (bNot (bTru (eCall d_is_number (lCons (eName 0) lNil)))) (bBin gtD (eFun absD (lCons (eName 0) lNil)) (eC (.int 99)))) (raiseD "BadTask") nextD)
def d_check_steps : List D → R D := callD N_check_steps.length m_check_steps
abbrev N_real_answer : List Str := ["subject", "steps", "moved", "note"]
abbrev sc_real_answer : Scope := defScope (top 9)
theorem S_real_answer : FnScope N_real_answer ["subject", "steps"] sc_real_answer := ⟨rfl, rfl, rfl, by decide +kernel, rfl, by decide +kernel, by decide +kernel⟩
def m_real_answer_e1 : EF := (eImm (eBin addD (eName 3) (eName 1)))
def m_real_answer : Env → RS := (seqD (dropD (eCall d_check_notes (lCons (eName 0) lNil))) (seqD (dropD (eCall d_check_steps (lCons (eName 1) lNil))) (seqD (setD 2 (eFun tupleD (lCons (eLc (eIt (eName 0)) (gN 3) bYes m_real_answer_e1 [3]) lNil))) (seqD (dropD (eCall d_check_notes (lCons (eName 2) lNil))) (retD (eImm (eName 2)))))))
def d_real_answer : List D → R D := callD N_real_answer.length m_real_answer
abbrev N_tonal_answer : List Str := ["subject", "ground", "head", "moved", "at", "fifth"]
abbrev sc_tonal_answer : Scope := defScope (top 10)
theorem S_tonal_answer : FnScope N_tonal_answer ["subject", "ground", "head"] sc_tonal_answer := ⟨rfl, rfl, rfl, by decide +kernel, rfl, by decide +kernel, by decide +kernel⟩
def m_tonal_answer_L1 : Env → RS := (seqD (setD 5 (eBin eqD (eBin modD (eBin subD (eIx (eName 0) (eName 4)) (eName 1)) (eC (.int 7))) (eC (.int 4)))) (appD 3 (lCons (eImm (eBin addD (eIx (eName 0) (eName 4)) (eIf (bAnd (bBin ltD (eName 4) (eName 2)) (bTru (eName 5))) (eC (.int 3)) (eC (.int 4))))) lNil)))
def m_tonal_answer : Env → RS := (seqD (dropD (eCall d_check_notes (lCons (eName 0) lNil))) (seqD (dropD (eCall d_check_steps (lCons (eName 1) lNil))) (seqD (ifD (bOr (bNot (bTru (eCall d_is_number (lCons (eName 2) lNil)))) (bNot (bChain leD leD (eC (.int 0)) (eName 2) (eFun lenD (lCons (eName 0) lNil))))) (raiseD "BadTask") nextD) (seqD (setD 3 (eLst lNil)) (seqD (forS (eRng (lCons (eFun lenD (lCons (eName 0) lNil)) lNil)) (gN 4) m_tonal_answer_L1) (seqD (setD 3 (eImm (eFun tupleD (lCons (eName 3) lNil)))) (seqD (dropD (eCall d_check_notes (lCons (eName 3) lNil))) (retD (eName 3)))))))))
def d_tonal_answer : List D → R D := callD N_tonal_answer.length m_tonal_answer
abbrev N_entries : List Str := ["subject", "answer", "gap", "voices", "found", "k", "own", "at"]
abbrev sc_entries : Scope := defScope (top 11)
theorem S_entries : FnScope N_entries ["subject", "answer", "gap", "voices"] sc_entries := ⟨rfl, rfl, rfl, by decide +kernel, rfl, by decide +kernel, by decide +kernel⟩
def m_entries_e1 : EF := (eC .none)
def m_entries_L1 : Env → RS := (seqD (setD 6 (eIf (bBin eqD (eBin modD (eName 5) (eC (.int 2))) (eC (.int 0))) (eName 0) (eName 1))) (appD 4 (lCons (eImm (eBin addD (eFun tupleD (lCons (eLc (eRng (lCons (eBin mulD (eName 5) (eName 2)) lNil)) (gN 7) bYes m_entries_e1 [7]) lNil)) (eName 6))) lNil)))
def m_entries : Env → RS := (seqD (dropD (eCall d_check_notes (lCons (eName 0) lNil))) (seqD (dropD (eCall d_check_notes (lCons (eName 1) lNil))) (seqD (ifD (bOr (bNot (bTru (eCall d_is_number (lCons (eName 2) lNil)))) (bOr (bNot (bChain leD leD (eC (.int 1)) (eName 2) (eC (.int 60)))) (bOr (bNot (bTru (eCall d_is_number (lCons (eName 3) lNil)))) (bNot (bChain leD leD (eC (.int 1)) (eName 3) (eC (.int 6))))))) (raiseD "BadTask") nextD) (seqD (setD 4 (eLst lNil)) (seqD (forS (eRng (lCons (eName 3) lNil)) (gN 5) m_entries_L1) (retD (eImm (eFun tupleD (lCons (eName 4) lNil)))))))))
def d_entries : List D → R D := callD N_entries.length m_entries
abbrev N_chords_in : List Str := ["voices", "total", "found", "at", "own", "voice"]
abbrev sc_chords_in : Scope := defScope (top 12)
theorem S_chords_in : FnScope N_chords_in ["voices"] sc_chords_in := ⟨rfl, rfl, rfl, by decide +kernel, rfl, by decide +kernel, by decide +kernel⟩
def m_chords_in_e1 : EF := (eIsi "tuple" (eName 5))
def m_chords_in_e2 : EF := (eFun lenD (lCons (eName 5) lNil))
def m_chords_in_e3 : EF := (eImm (eIx (eName 5) (eName 3)))
def m_chords_in_L1 : Env → RS := (seqD (setD 4 (eLc (eIt (eName 0)) (gN 5) (bAnd (bBin ltD (eName 3) (eFun lenD (lCons (eName 5) lNil))) (bBin isNotD (eIx (eName 5) (eName 3)) (eC .none))) m_chords_in_e3 [5])) (appD 2 (lCons (eImm (eFun tupleD (lCons (eName 4) lNil))) lNil)))
def m_chords_in : Env → RS := (seqD (ifD (bOr (bNot (bTru (eIsi "tuple" (eName 0)))) (bOr (bBin eqD (eFun lenD (lCons (eName 0) lNil)) (eC (.int 0))) (bNot (bTru (eGx false (eIt (eName 0)) (gN 5) bYes m_chords_in_e1 [5]))))) (raiseD "BadLine") nextD) (seqD (setD 1 (eFun maxLD (lCons (eLc (eIt (eName 0)) (gN 5) bYes m_chords_in_e2 [5]) lNil))) (seqD (setD 2 (eLst lNil)) (seqD (forS (eRng (lCons (eName 1) lNil)) (gN 3) m_chords_in_L1) (retD (eImm (eFun tupleD (lCons (eName 2) lNil))))))))
def d_chords_in : List D → R D := callD N_chords_in.length m_chords_in
abbrev N_check_good : List Str := ["good", "one"]
abbrev sc_check_good : Scope := defScope (top 16)
theorem S_check_good : FnScope N_check_good ["good"] sc_check_good := ⟨rfl, rfl, rfl, by decide +kernel, rfl, by decide +kernel, by decide +kernel⟩
def m_check_good_e1 : EF := (eAnd (eCall d_is_number (lCons (eName 1) lNil)) (eChain leD leD (eC (.int 0)) (eName 1) (eC (.int 6))))
def m_check_good_e2 : EF := (eBin gtD (eCnt (eName 0) (lCons (eName 1) lNil)) (eC (.int 1)))
def m_check_good : Env → RS := (seqD (ifD (bOr (bNot (bTru (eIsi "tuple" (eName 0)))) (bNot (bTru (eGx false (eIt (eName 0)) (gN 1) bYes m_check_good_e1 [1])))) (raiseD "BadTask") nextD) (ifD (bTru (eGx true (eIt (eName 0)) (gN 1) bYes m_check_good_e2 [1])) (raiseD "BadTask") nextD))
def d_check_good : List D → R D := callD N_check_good.length m_check_good
abbrev N_gaps_between : List Str := ["upper", "lower", "at"]
abbrev sc_gaps_between : Scope := defScope (top 13)
theorem S_gaps_between : FnScope N_gaps_between ["upper", "lower"] sc_gaps_between := ⟨rfl, rfl, rfl, by decide +kernel, rfl, by decide +kernel, by decide +kernel⟩
def m_gaps_between_e1 : EF := (eBin modD (eBin subD (eIx (eName 0) (eName 2)) (eIx (eName 1) (eName 2))) (eC (.int 7)))
def m_gaps_between : Env → RS := (retD (eFun tupleD (lCons (eLc (eRng (lCons (eFun min2D (lCons (eFun lenD (lCons (eName 0) lNil)) (lCons (eFun lenD (lCons (eName 1) lNil)) lNil))) lNil)) (gN 2) bYes m_gaps_between_e1 [2]) lNil)))
def d_gaps_between : List D → R D := callD N_gaps_between.length m_gaps_between
abbrev N_fits_over : List Str := ["first", "second", "good", "gap"]
abbrev sc_fits_over : Scope := defScope (top 14)
theorem S_fits_over : FnScope N_fits_over ["first", "second", "good"] sc_fits_over := ⟨rfl, rfl, rfl, by decide +kernel, rfl, by decide +kernel, by decide +kernel⟩
def m_fits_over_e1 : EF := (eBin inD (eName 3) (eName 2))
def m_fits_over : Env → RS := (retD (eGx false (eIt (eCall d_gaps_between (lCons (eName 1) (lCons (eName 0) lNil)))) (gN 3) bYes m_fits_over_e1 [3]))
def d_fits_over : List D → R D := callD N_fits_over.length m_fits_over
abbrev N_turnable : List Str := ["first", "second", "steps", "good", "moved", "note"]
abbrev sc_turnable : Scope := defScope (top 15)
theorem S_turnable : FnScope N_turnable ["first", "second", "steps", "good"] sc_turnable := ⟨rfl, rfl, rfl, by decide +kernel, rfl, by decide +kernel, by decide +kernel⟩
def m_turnable_e1 : EF := (eImm (eBin addD (eName 5) (eName 2)))
def m_turnable : Env → RS := (seqD (dropD (eCall d_check_notes (lCons (eName 0) lNil))) (seqD (dropD (eCall d_check_notes (lCons (eName 1) lNil))) (seqD (dropD (eCall d_check_steps (lCons (eName 2) lNil))) (seqD (dropD (eCall d_check_good (lCons (eName 3) lNil))) (seqD (setD 4 (eFun tupleD (lCons (eLc (eIt (eName 0)) (gN 5) bYes m_turnable_e1 [5]) lNil))) (retD (eAnd (eCall d_fits_over (lCons (eName 0) (lCons (eName 1) (lCons (eName 3) lNil)))) (eCall d_fits_over (lCons (eName 1) (lCons (eName 4) (lCons (eName 3) lNil)))))))))))
def d_turnable : List D → R D := callD N_turnable.length m_turnable
abbrev N_stretti : List Str := ["subject", "good", "found", "delay", "steps", "ahead", "behind", "note", "at"]
abbrev sc_stretti : Scope := defScope (top 18)
theorem S_stretti : FnScope N_stretti ["subject", "good"] sc_stretti := ⟨rfl, rfl, rfl, by decide +kernel, rfl, by decide +kernel, by decide +kernel⟩
def m_stretti_e1 : EF := (eImm (eBin addD (eName 7) (eName 4)))
def m_stretti_e2 : EF := (eBin inD (eBin modD (eBin subD (eIx (eName 6) (eName 8)) (eIx (eName 5) (eName 8))) (eC (.int 7))) (eName 1))
def m_stretti_L1 : Env → RS := (seqD (setD 5 (eSl (eName 0) (pSome (eName 3)) pNone)) (seqD (setD 6 (eLc (eIt (eSl (eName 0) pNone (pSome (eBin subD (eFun lenD (lCons (eName 0) lNil)) (eName 3))))) (gN 7) bYes m_stretti_e1 [7])) (ifD (bTru (eGx false (eRng (lCons (eFun lenD (lCons (eName 5) lNil)) lNil)) (gN 8) bYes m_stretti_e2 [8])) (appD 2 (lCons (eImm (eTup (lCons (eName 3) (lCons (eName 4) lNil)))) lNil)) nextD)))
def m_stretti_L2 : Env → RS := (forS (eRng (lCons (eC (.int 7)) lNil)) (gN 4) m_stretti_L1)
def m_stretti : Env → RS := (seqD (dropD (eCall d_check_notes (lCons (eName 0) lNil))) (seqD (dropD (eCall d_check_good (lCons (eName 1) lNil))) (seqD (setD 2 (eLst lNil)) (seqD (forS (eRng (lCons (eC (.int 1)) (lCons (eFun lenD (lCons (eName 0) lNil)) lNil))) (gN 3) m_stretti_L2) (retD (eImm (eFun tupleD (lCons (eName 2) lNil))))))))
def d_stretti : List D → R D := callD N_stretti.length m_stretti
abbrev N_turned_line : List Str := ["line", "centre", "moved", "note"]
abbrev sc_turned_line : Scope := defScope (top 20)
theorem S_turned_line : FnScope N_turned_line ["line", "centre"] sc_turned_line := ⟨rfl, rfl, rfl, by decide +kernel, rfl, by decide +kernel, by decide +kernel⟩
def m_turned_line_e1 : EF := (eBin subD (eBin mulD (eC (.int 2)) (eName 1)) (eName 3))
def m_turned_line : Env → RS := (seqD (dropD (eCall d_check_notes (lCons (eName 0) lNil))) (seqD (dropD (eCall d_check_steps (lCons (eName 1) lNil))) (seqD (setD 2 (eFun tupleD (lCons (eLc (eIt (eName 0)) (gN 3) bYes m_turned_line_e1 [3]) lNil))) (seqD (dropD (eCall d_check_notes (lCons (eName 2) lNil))) (retD (eImm (eName 2)))))))
def d_turned_line : List D → R D := callD N_turned_line.length m_turned_line
abbrev N_turned_good : List Str := ["good", "steps", "one"]
abbrev sc_turned_good : Scope := defScope (top 17)
theorem S_turned_good : FnScope N_turned_good ["good", "steps"] sc_turned_good := ⟨rfl, rfl, rfl, by decide +kernel, rfl, by decide +kernel, by decide +kernel⟩
def m_turned_good_e1 : EF := (eImm (eName 2))
def m_turned_good : Env → RS := (seqD (dropD (eCall d_check_good (lCons (eName 0) lNil))) (seqD (dropD (eCall d_check_steps (lCons (eName 1) lNil))) (retD (eFun tupleD (lCons (eLc (eIt (eName 0)) (gN 2) (bBin inD (eBin modD (eBin subD (eName 1) (eName 2)) (eC (.int 7))) (eName 0)) m_turned_good_e1 [2]) lNil)))))
def d_turned_good : List D → R D := callD N_turned_good.length m_turned_good
abbrev N_slowed : List Str := ["line", "times", "result", "note"]
abbrev sc_slowed : Scope := defScope (top 19)
theorem S_slowed : FnScope N_slowed ["line", "times"] sc_slowed := ⟨rfl, rfl, rfl, by decide +kernel, rfl, by decide +kernel, by decide +kernel⟩
def m_slowed_L1 : Env → RS := (setD 2 (eBin addD (eName 2) (eBin mulD (eTup (lCons (eName 3) lNil)) (eName 1))))
def m_slowed : Env → RS := (seqD (dropD (eCall d_check_notes (lCons (eName 0) lNil))) (seqD (ifD (bOr (bNot (bTru (eCall d_is_number (lCons (eName 1) lNil)))) (bNot (bChain leD leD (eC (.int 1)) (eName 1) (eC (.int 8))))) (raiseD "BadTask") nextD) (seqD (setD 2 (eTup lNil)) (seqD (forS (eIt (eName 0)) (gN 3) m_slowed_L1) (retD (eImm (eName 2)))))))
def d_slowed : List D → R D := callD N_slowed.length m_slowed
abbrev N__law_refusal : List Str := ["call", "line", "value"]
abbrev sc__law_refusal : Scope := defScope (top 24)
theorem S__law_refusal : FnScope N__law_refusal ["call", "line", "value"] sc__law_refusal := ⟨rfl, rfl, rfl, by decide +kernel, rfl, by decide +kernel, by decide +kernel⟩
def tb__law_refusal_BadLine : List (Str × Bool) := [("BadLine", true), ("BadTask", false)]
def tb__law_refusal_BadTask : List (Str × Bool) := [("BadLine", false), ("BadTask", true)]
def m__law_refusal : Env → RS := (seqD (try2D (ifD (bBin eqD (eName 0) (eC (.int 0))) (dropD (eCall d_real_answer (lCons (eName 1) (lCons (eName 2) lNil)))) (ifD (bBin eqD (eName 0) (eC (.int 1))) (dropD (eCall d_slowed (lCons (eName 1) (lCons (eName 2) lNil)))) (ifD (bBin eqD (eName 0) (eC (.int 2))) (dropD (eCall d_stretti (lCons (eName 1) (lCons (eName 2) lNil)))) (dropD (eCall d_tonal_answer (lCons (eName 1) (lCons (eC (.int 0)) (lCons (eName 2) lNil)))))))) tb__law_refusal_BadLine (retD (eC (.str "line"))) tb__law_refusal_BadTask (retD (eC (.str "task")))) (retD (eC (.str "none"))))
def d__law_refusal : List D → R D := callD N__law_refusal.length m__law_refusal
abbrev N_law : List Str := ["script", "n", "first", "second", "steps", "ground", "head", "due", "at", "fifth", "gap", "voices", "rows", "total", "good", "many", "apart", "turned", "fits", "both", "found", "delay", "way", "times", "centre", "call", "wrong", "right", "k", "note", "row", "one"]
abbrev sc_law : Scope := defScope (top 25)
theorem S_law : FnScope N_law ["script"] sc_law := ⟨rfl, rfl, rfl, by decide +kernel, rfl, by decide +kernel, by decide +kernel⟩
def m_law_e1 : EF := (eBin subD (eBin modD (eIx (eName 1) (eBin addD (eC (.int 1)) (eName 28))) (eC (.int 12))) (eC (.int 3)))
def m_law_e2 : EF := (eBin addD (eBin modD (eIx (eName 1) (eBin addD (eC (.int 9)) (eName 28))) (eC (.int 12))) (eC (.int 1)))
def m_law_e3 : EF := (eImm (eBin addD (eName 29) (eName 4)))
def m_law_L1 : Env → RS := (seqD (setD 9 (eAnd (eBin eqD (eBin modD (eBin addD (eBin subD (eIx (eName 2) (eName 8)) (eName 5)) (eC (.int 70))) (eC (.int 7))) (eC (.int 4))) (eBin ltD (eName 8) (eName 6)))) (appD 7 (lCons (eImm (eBin addD (eIx (eName 2) (eName 8)) (eIf (bTru (eName 9)) (eC (.int 3)) (eC (.int 4))))) lNil)))
def m_law_e4 : EF := (eImm (eBin addD (eBin mulD (eTup (lCons (eC .none) lNil)) (eBin mulD (eName 28) (eName 10))) (eIf (bBin eqD (eBin modD (eName 28) (eC (.int 2))) (eC (.int 0))) (eName 2) (eName 3))))
def m_law_e5 : EF := (eFun lenD (lCons (eName 30) lNil))
def m_law_e6 : EF := (eImm (eIx (eName 30) (eName 8)))
def m_law_e7 : EF := (eFun tupleD (lCons (eLc (eIt (eName 12)) (gN 30) (bAnd (bBin ltD (eName 8) (eFun lenD (lCons (eName 30) lNil))) (bBin isNotD (eIx (eName 30) (eName 8)) (eC .none))) m_law_e6 [30]) lNil))
def m_law_e8 : EF := (eImm (eName 28))
def m_law_e9 : EF := (eBin modD (eBin addD (eBin subD (eIx (eName 3) (eName 8)) (eIx (eName 2) (eName 8))) (eC (.int 70))) (eC (.int 7)))
def m_law_e10 : EF := (eBin modD (eBin addD (eBin subD (eBin addD (eIx (eName 2) (eName 8)) (eName 4)) (eIx (eName 3) (eName 8))) (eC (.int 70))) (eC (.int 7)))
def m_law_e11 : EF := (eImm (eName 31))
def m_law_e12 : EF := (eImm (eName 31))
def m_law_e13 : EF := (eImm (eName 31))
def m_law_e14 : EF := (eImm (eName 8))
def m_law_L2 : Env → RS := (ifD (bBin eqD (eFun lenD (lCons (eLc (eRng (lCons (eName 21) (lCons (eFun lenD (lCons (eName 2) lNil)) lNil))) (gN 8) (bBin notInD (eBin modD (eBin addD (eBin subD (eBin addD (eIx (eName 2) (eBin subD (eName 8) (eName 21))) (eName 22)) (eIx (eName 2) (eName 8))) (eC (.int 70))) (eC (.int 7))) (eName 14)) m_law_e14 [8]) lNil)) (eC (.int 0))) (appD 20 (lCons (eImm (eTup (lCons (eName 21) (lCons (eName 22) lNil)))) lNil)) nextD)
def m_law_L3 : Env → RS := (forS (eRng (lCons (eC (.int 7)) lNil)) (gN 22) m_law_L2)
def m_law_e15 : EF := (eImm (eIx (eName 2) (eBin fdivD (eName 28) (eName 23))))
def m_law_e16 : EF := (eBin subD (eBin mulD (eC (.int 2)) (eName 24)) (eName 29))
def m_law : Env → RS := (seqD (setD 1 (eCall d__law_draws (lCons (eCall d__law_cell (lCons (eName 0) (lCons (eC (.int 0)) lNil))) (lCons (eC (.int 50)) lNil)))) (seqD (setD 2 (eFun tupleD (lCons (eLc (eRng (lCons (eBin addD (eBin modD (eIx (eName 1) (eC (.int 0))) (eC (.int 7))) (eC (.int 1))) lNil)) (gN 28) bYes m_law_e1 [28]) lNil))) (seqD (setD 3 (eFun tupleD (lCons (eLc (eRng (lCons (eBin addD (eBin modD (eIx (eName 1) (eC (.int 8))) (eC (.int 7))) (eC (.int 1))) lNil)) (gN 28) bYes m_law_e2 [28]) lNil))) (seqD (setG (gTupD (gConsD (gN 4) (gConsD (gN 5) (gConsD (gN 6) gNilD)))) (eTup (lCons (eBin subD (eBin modD (eIx (eName 1) (eC (.int 16))) (eC (.int 21))) (eC (.int 10))) (lCons (eBin subD (eBin modD (eIx (eName 1) (eC (.int 17))) (eC (.int 15))) (eC (.int 7))) (lCons (eBin modD (eIx (eName 1) (eC (.int 18))) (eBin addD (eFun lenD (lCons (eName 2) lNil)) (eC (.int 1)))) lNil))))) (seqD (ifD (bBin neD (eCall d_real_answer (lCons (eName 2) (lCons (eName 4) lNil))) (eFun tupleD (lCons (eLc (eIt (eName 2)) (gN 29) bYes m_law_e3 [29]) lNil))) (retD (eC (.bool false))) nextD) (seqD (setD 7 (eLst lNil)) (seqD (forS (eRng (lCons (eFun lenD (lCons (eName 2) lNil)) lNil)) (gN 8) m_law_L1) (seqD (ifD (bBin neD (eCall d_tonal_answer (lCons (eName 2) (lCons (eName 5) (lCons (eName 6) lNil)))) (eFun tupleD (lCons (eName 7) lNil))) (retD (eC (.bool false))) nextD) (seqD (setG (gTupD (gConsD (gN 10) (gConsD (gN 11) gNilD))) (eTup (lCons (eBin addD (eBin modD (eIx (eName 1) (eC (.int 19))) (eC (.int 5))) (eC (.int 1))) (lCons (eBin addD (eBin modD (eIx (eName 1) (eC (.int 20))) (eC (.int 4))) (eC (.int 1))) lNil)))) (seqD (setD 12 (eLc (eRng (lCons (eName 11) lNil)) (gN 28) bYes m_law_e4 [28])) (seqD (ifD (bBin neD (eCall d_entries (lCons (eName 2) (lCons (eName 3) (lCons (eName 10) (lCons (eName 11) lNil))))) (eFun tupleD (lCons (eName 12) lNil))) (retD (eC (.bool false))) nextD) (seqD (setD 13 (eFun maxLD (lCons (eLc (eIt (eName 12)) (gN 30) bYes m_law_e5 [30]) lNil))) (seqD (ifD (bBin neD (eCall d_chords_in (lCons (eFun tupleD (lCons (eName 12) lNil)) lNil)) (eFun tupleD (lCons (eLc (eRng (lCons (eName 13) lNil)) (gN 8) bYes m_law_e7 [8]) lNil))) (retD (eC (.bool false))) nextD) (seqD (setD 14 (eFun tupleD (lCons (eLc (eRng (lCons (eC (.int 7)) lNil)) (gN 28) (bBin eqD (eBin modD (eIx (eName 1) (eBin addD (eC (.int 21)) (eName 28))) (eC (.int 2))) (eC (.int 0))) m_law_e8 [28]) lNil))) (seqD (ifD (bBin eqD (eBin modD (eIx (eName 1) (eC (.int 28))) (eC (.int 2))) (eC (.int 0))) (setD 14 (eFun tupleD (lCons (eListRev (eName 14)) lNil))) nextD) (seqD (setD 15 (eFun min2D (lCons (eFun lenD (lCons (eName 2) lNil)) (lCons (eFun lenD (lCons (eName 3) lNil)) lNil)))) (seqD (setD 16 (eLc (eRng (lCons (eName 15) lNil)) (gN 8) bYes m_law_e9 [8])) (seqD (setD 17 (eLc (eRng (lCons (eName 15) lNil)) (gN 8) bYes m_law_e10 [8])) (seqD (setD 18 (eBin eqD (eFun lenD (lCons (eLc (eIt (eBin addD (eName 16) (eName 17))) (gN 31) (bBin notInD (eName 31) (eName 14)) m_law_e11 [31]) lNil)) (eC (.int 0)))) (seqD (ifD (bBin neD (eCall d_turnable (lCons (eName 2) (lCons (eName 3) (lCons (eName 4) (lCons (eName 14) lNil))))) (eName 18)) (retD (eC (.bool false))) nextD) (seqD (setD 19 (eFun tupleD (lCons (eLc (eIt (eName 14)) (gN 31) (bBin inD (eBin modD (eBin addD (eBin subD (eName 4) (eName 31)) (eC (.int 70))) (eC (.int 7))) (eName 14)) m_law_e12 [31]) lNil))) (seqD (ifD (bOr (bBin neD (eCall d_turned_good (lCons (eName 14) (lCons (eName 4) lNil))) (eName 19)) (bBin neD (eName 18) (eBin eqD (eFun lenD (lCons (eLc (eIt (eName 16)) (gN 31) (bBin notInD (eName 31) (eName 19)) m_law_e13 [31]) lNil)) (eC (.int 0))))) (retD (eC (.bool false))) nextD) (seqD (setD 20 (eLst lNil)) (seqD (forS (eRng (lCons (eC (.int 1)) (lCons (eFun lenD (lCons (eName 2) lNil)) lNil))) (gN 21) m_law_L3) (seqD (ifD (bBin neD (eCall d_stretti (lCons (eName 2) (lCons (eName 14) lNil))) (eFun tupleD (lCons (eName 20) lNil))) (retD (eC (.bool false))) nextD) (seqD (setG (gTupD (gConsD (gN 23) (gConsD (gN 24) gNilD))) (eTup (lCons (eBin addD (eBin modD (eIx (eName 1) (eC (.int 29))) (eC (.int 4))) (eC (.int 1))) (lCons (eBin subD (eBin modD (eIx (eName 1) (eC (.int 30))) (eC (.int 19))) (eC (.int 9))) lNil)))) (seqD (ifD (bOr (bBin neD (eCall d_slowed (lCons (eName 2) (lCons (eName 23) lNil))) (eFun tupleD (lCons (eLc (eRng (lCons (eBin mulD (eName 23) (eFun lenD (lCons (eName 2) lNil))) lNil)) (gN 28) bYes m_law_e15 [28]) lNil))) (bBin neD (eCall d_turned_line (lCons (eName 2) (lCons (eName 24) lNil))) (eFun tupleD (lCons (eLc (eIt (eName 2)) (gN 29) bYes m_law_e16 [29]) lNil)))) (retD (eC (.bool false))) nextD) (seqD (ifD (bBin neD (eCall d_turned_line (lCons (eCall d_turned_line (lCons (eName 2) (lCons (eName 24) lNil))) (lCons (eName 24) lNil))) (eName 2)) (retD (eC (.bool false))) nextD) (seqD (setD 25 (eBin modD (eIx (eName 1) (eC (.int 31))) (eC (.int 4)))) (seqD (setD 26 (eIx (eIx (eTup (lCons (eTup (lCons (eC (.int 100)) (lCons (eC .none) (lCons (eC (.bool true)) lNil)))) (lCons (eTup (lCons (eC (.int 0)) (lCons (eC (.int 9)) (lCons (eC .none) lNil)))) (lCons (eTup (lCons (eLst (lCons (eC (.int 0)) lNil)) (lCons (eTup (lCons (eC (.int 7)) lNil)) (lCons (eTup (lCons (eC (.int 1)) (lCons (eC (.int 1)) lNil))) lNil)))) (lCons (eTup (lCons (eBin addD (eFun lenD (lCons (eName 2) lNil)) (eC (.int 1))) (lCons (eNeg (eC (.int 1))) (lCons (eC .none) lNil)))) lNil))))) (eName 25)) (eBin modD (eIx (eName 1) (eC (.int 32))) (eC (.int 3))))) (seqD (setD 27 (eIx (eTup (lCons (eC (.int 0)) (lCons (eC (.int 1)) (lCons (eTup (lCons (eC (.int 0)) lNil)) (lCons (eC (.int 0)) lNil))))) (eName 25))) (retD (eAnd (eBin eqD (eCall d__law_refusal (lCons (eName 25) (lCons (eName 2) (lCons (eName 26) lNil)))) (eC (.str "task"))) (eBin eqD (eCall d__law_refusal (lCons (eName 25) (lCons (eIx (eTup (lCons (eTup lNil) (lCons (eLst (lCons (eC (.int 0)) lNil)) (lCons (eTup (lCons (eC (.int 200)) lNil)) (lCons (eC .none) lNil))))) (eBin modD (eIx (eName 1) (eC (.int 33))) (eC (.int 4)))) (lCons (eName 27) lNil)))) (eC (.str "line"))))))))))))))))))))))))))))))))))))
def d_law : List D → R D := callD N_law.length m_law
end Pd.Law
namespace Pd.Law
open PySem PySem.Spec PyProof.Rows L2 Pd
open Pd (D Env)
theorem ok__law_draws {P : Program} {w : World} {K : PySem.W.Frag} {mg : Str → Option Value} {base : Heap} {T : List Addr} {fd : FuncData} (B : Bt mg) (F : FunD K "_law_draws" "_law_draws" (defArgs (top 23)) (defBody (top 23)) (defScope (top 23)) [] [] (He.fAd K ("_law_draws", none)) fd) (gm : mg "_law_draws" = some (.ref (He.fAd K ("_law_draws", none)))) :
    FD P w K mg base T 1 "_law_draws" 2 d__law_draws :=
  fd_of (k := 0) (N := N__law_draws) (ps := ["cell", "count"]) (B := m__law_draws) F S__law_draws gm (fun _ _ _ _ _ _ us hl => match us, hl with | [_, _], _ => rfl) fun A outer s H E hr =>
    (svs_cons (O1 := [2]) (sv_set (O' := [2]) (S__law_draws).nd rfl (.inl rfl) (ev_lst av_nil)) (svs_cons (O1 := [2]) (sv_set (O' := [2]) (S__law_draws).nd rfl (.inl rfl) (ev_fresh (ev_ty c_int (by rfl) B.int bt_int (av_cons (ev_nameU 0 (pe_var rfl (.inl rfl))) av_nil)) (im_fun im_int))) (svs_cons (O1 := [2]) (sv_for (passes_of rfl) rfl (iv_range1 (by rfl) B.range (av_cons (ev_nameU 1 (pe_var rfl (.inl rfl))) av_nil)) (gv_name (S__law_draws).nd rfl (.inl rfl)) (fun _ => (svs_cons (O1 := [2]) (sv_set (O' := [2]) (S__law_draws).nd rfl (.inl rfl) (ev_bin b_mod (ev_fresh (ev_ty c_int (by rfl) B.int bt_int (av_cons (ev_bin b_add (ev_bin b_add (ev_bin b_mul (ev_nameU 0 (pe_var rfl (.inl rfl))) ev_int) (ev_bin b_mul (ev_nameU 4 (pe_var rfl (.inl rfl))) ev_int)) ev_int) av_nil)) (im_fun im_int)) ev_int)) (svs_one (sv_if (tv_cmp b_ge (ev_nameU 0 (pe_var rfl (.inl rfl))) (ev_bin b_pow ev_int ev_int) (nobehind _ (by decide) (by decide))) (svs_cons (O1 := [2]) (sv_app (pe_var rfl (.inl rfl)) (av_cons (ev_fresh (ev_bin b_mod (ev_nameU 3 (pe_var rfl (.inl rfl))) ev_int) (im_bin im_mod)) av_nil)) (svs_one (sv_set (O' := [2]) (S__law_draws).nd rfl (.inl rfl) (ev_fresh (ev_bin b_fdiv (ev_nameU 3 (pe_var rfl (.inl rfl))) ev_int) (im_bin im_fdiv))))) (svs_one (sv_app (pe_var rfl (.inl rfl)) (av_cons (ev_bin b_fdiv (ev_bin b_mod (ev_fresh (ev_ty c_int (by rfl) B.int bt_int (av_cons (ev_bin b_add (ev_bin b_mul (ev_nameU 5 (pe_var rfl (.inl rfl))) (ev_nameU 5 (pe_var rfl (.inl rfl)))) (ev_bin b_mul (ev_nameU 5 (pe_var rfl (.inl rfl))) ev_int)) av_nil)) (im_fun im_int)) ev_int) ev_int) av_nil)))))))) (svs_one (sv_retO (pe_var rfl (.inl rfl)))))))
end Pd.Law
namespace Pd.Law
open PySem PySem.Spec PyProof.Rows L2 Pd
open Pd (D Env)
theorem ok__law_cell {P : Program} {w : World} {K : PySem.W.Frag} {mg : Str → Option Value} {base : Heap} {T : List Addr} {fd : FuncData} (B : Bt mg) (F : FunD K "_law_cell" "_law_cell" (defArgs (top 22)) (defBody (top 22)) (defScope (top 22)) [] [] (He.fAd K ("_law_cell", none)) fd) (gm : mg "_law_cell" = some (.ref (He.fAd K ("_law_cell", none)))) :
    FD P w K mg base T 1 "_law_cell" 2 d__law_cell :=
  fd_of (k := 0) (N := N__law_cell) (ps := ["script", "k"]) (B := m__law_cell) F S__law_cell gm (fun _ _ _ _ _ _ us hl => match us, hl with | [_, _], _ => rfl) fun A outer s H E hr =>
    (svs_cons (O1 := []) (sv_if (tv_cmp b_lt (ev_nameU 1 (pe_var rfl (.inl rfl))) (ev_fresh (ev_fn c_len (by rfl) B.len bt_len (av_cons (ev_nameU 0 (pe_var rfl (.inl rfl))) av_nil)) (im_fun im_len)) (nobehind _ (by decide) (by decide))) (svs_one (sv_ret (ev_imm (ev_ix (ev_nameU 0 (pe_var rfl (.inl rfl))) (ev_nameU 1 (pe_var rfl (.inl rfl))))))) (svs_nil)) (svs_one (sv_ret ev_int)))
end Pd.Law
namespace Pd.Law
open PySem PySem.Spec PyProof.Rows L2 Pd
open Pd (D Env)
theorem ok_is_number {P : Program} {w : World} {K : PySem.W.Frag} {mg : Str → Option Value} {base : Heap} {T : List Addr} {fd : FuncData} (B : Bt mg) (F : FunD K "is_number" "is_number" (defArgs (top 5)) (defBody (top 5)) (defScope (top 5)) [] [] (He.fAd K ("is_number", none)) fd) (gm : mg "is_number" = some (.ref (He.fAd K ("is_number", none)))) :
    FD P w K mg base T 1 "is_number" 1 d_is_number :=
  fd_of (k := 0) (N := N_is_number) (ps := ["value"]) (B := m_is_number) F S_is_number gm (fun _ _ _ _ _ _ us hl => match us, hl with | [_], _ => rfl) fun A outer s H E hr =>
    (svs_one (sv_ret (ev_and (ev_isi (by rfl) B.isinstance (by rfl) B.int bt_int isi_int (ev_nameU 0 (pe_var rfl (.inl rfl)))) (ev_and (ev_fresh (ev_cmp b_isNot (ev_nameU 0 (pe_var rfl (.inl rfl))) ev_bl (nobehind _ (by decide) (by decide))) (im_bin im_isNot)) (ev_one (ev_fresh (ev_cmp b_isNot (ev_nameU 0 (pe_var rfl (.inl rfl))) ev_bl (nobehind _ (by decide) (by decide))) (im_bin im_isNot)))))))
end Pd.Law
namespace Pd.Law
open PySem PySem.Spec PyProof.Rows L2 Pd
open Pd (D Env)
theorem ok_check_notes {P : Program} {w : World} {K : PySem.W.Frag} {mg : Str → Option Value} {base : Heap} {T : List Addr} {fd : FuncData} (B : Bt mg) (F : FunD K "check_notes" "check_notes" (defArgs (top 6)) (defBody (top 6)) (defScope (top 6)) [] [] (He.fAd K ("check_notes", none)) fd) (gm : mg "check_notes" = some (.ref (He.fAd K ("check_notes", none)))) (x_BadLine : ExD K mg "BadLine") (h_is_number : FD P w K mg base T 1 "is_number" 1 d_is_number) (TB : GxR.TabB base mg (He.cT K ("check_notes", none)).1 (He.cT K ("check_notes", none)).2) (hP : (He.cT K ("check_notes", none)).2 ∈ T) :
    FD P w K mg base T 5 "check_notes" 1 d_check_notes :=
  fd_of (k := 4) (N := N_check_notes) (ps := ["line"]) (B := m_check_notes) F S_check_notes gm (fun _ _ _ _ _ _ us hl => match us, hl with | [_], _ => rfl) fun A outer s H E hr =>
    (svs_one (sv_if (tv_pw (wv_or (tv_not (tv_tru (ev_isi (by rfl) B.isinstance (by rfl) B.tuple bt_tuple isi_tuple (ev_nameU 0 (pe_var rfl (.inl rfl)))))) (wv_or (tv_cmp (b_eq (u64 hr)) (ev_fresh (ev_fn c_len (by rfl) B.len bt_len (av_cons (ev_nameU 0 (pe_var rfl (.inl rfl))) av_nil)) (im_fun im_len)) ev_int (nobehind _ (by decide) (by decide))) (wv_or1 (tv_not (tv_tru (ev_all (k := 1) (hr.mono (by decide)) rfl (S_check_notes).nd (by rfl) B.all TB hP rfl (blk (N := N_check_notes) (sc := sc_check_notes) (own := [("note", 1)]) (by decide +kernel)) (genk (by decide +kernel)) (iv_seq (ev_nameU 0 (pe_var rfl (.inl rfl)))) nxN (fun _ _ _ _ _ _ _ => (gv_name (S_check_notes).nd rfl (.inl rfl))) (fun _ _ _ _ _ _ _ r => tts_nil) (fun _ _ _ _ _ _ _ r => (ev_and (ev_call (h_is_number.mono (by decide)) r (by rfl) takes0 (av_cons (ev_nameU 1 (pe_var rfl (.inl rfl))) av_nil)) (ev_one (ev_cmp b_le (ev_fresh (ev_fn c_abs (by rfl) B.abs bt_abs (av_cons (ev_nameU 1 (pe_var rfl (.inl rfl))) av_nil)) (im_fun im_abs)) ev_int (nobehind _ (by decide) (by decide))))))))))))) (svs_one (sv_raise rfl (takes_of rfl rfl rfl rfl) x_BadLine rfl)) (svs_nil)))
end Pd.Law
namespace Pd.Law
open PySem PySem.Spec PyProof.Rows L2 Pd
open Pd (D Env)
theorem ok_check_steps {P : Program} {w : World} {K : PySem.W.Frag} {mg : Str → Option Value} {base : Heap} {T : List Addr} {fd : FuncData} (B : Bt mg) (F : FunD K "check_steps" "check_steps" (defArgs (top 8)) (defBody (top 8)) (defScope (top 8)) [] [] (He.fAd K ("check_steps", none)) fd) (gm : mg "check_steps" = some (.ref (He.fAd K ("check_steps", none)))) (x_BadTask : ExD K mg "BadTask") (h_is_number : FD P w K mg base T 1 "is_number" 1 d_is_number) :
    FD P w K mg base T 2 "check_steps" 1 d_check_steps :=
  fd_of (k := 1) (N := N_check_steps) (ps := ["value"]) (B := m_check_steps) F S_check_steps gm (fun _ _ _ _ _ _ us hl => match us, hl with | [_], _ => rfl) fun A outer s H E hr =>
    (svs_one (sv_if (tv_pw (wv_or (tv_not (tv_tru (ev_call (h_is_number.mono (by decide)) hr (by rfl) (takes_of rfl rfl rfl rfl) (av_cons (ev_nameU 0 (pe_var rfl (.inl rfl))) av_nil)))) (wv_or1 (tv_cmp b_gt (ev_fresh (ev_fn c_abs (by rfl) B.abs bt_abs (av_cons (ev_nameU 0 (pe_var rfl (.inl rfl))) av_nil)) (im_fun im_abs)) ev_int (nobehind _ (by decide) (by decide)))))) (svs_one (sv_raise rfl (takes_of rfl rfl rfl rfl) x_BadTask rfl)) (svs_nil)))
end Pd.Law
namespace Pd.Law
open PySem PySem.Spec PyProof.Rows L2 Pd
open Pd (D Env)
theorem ok_real_answer {P : Program} {w : World} {K : PySem.W.Frag} {mg : Str → Option Value} {base : Heap} {T : List Addr} {fd : FuncData} (B : Bt mg) (F : FunD K "real_answer" "real_answer" (defArgs (top 9)) (defBody (top 9)) (defScope (top 9)) [] [] (He.fAd K ("real_answer", none)) fd) (gm : mg "real_answer" = some (.ref (He.fAd K ("real_answer", none)))) (h_check_notes : FD P w K mg base T 5 "check_notes" 1 d_check_notes) (h_check_steps : FD P w K mg base T 2 "check_steps" 1 d_check_steps) :
    FD P w K mg base T 6 "real_answer" 2 d_real_answer :=
  fd_of (k := 5) (N := N_real_answer) (ps := ["subject", "steps"]) (B := m_real_answer) F S_real_answer gm (fun _ _ _ _ _ _ us hl => match us, hl with | [_, _], _ => rfl) fun A outer s H E hr =>
    (svs_cons (O1 := []) (sv_expr (ev_call (h_check_notes.mono (by decide)) hr (by rfl) (takes_of rfl rfl rfl rfl) (av_cons (ev_nameU 0 (pe_var rfl (.inl rfl))) av_nil))) (svs_cons (O1 := []) (sv_expr (ev_call (h_check_steps.mono (by decide)) hr (by rfl) (takes_of rfl rfl rfl rfl) (av_cons (ev_nameU 1 (pe_var rfl (.inr (.inl rfl)))) av_nil))) (svs_cons (O1 := []) (sv_set (O' := []) (S_real_answer).nd rfl (.inl rfl) (ev_ty c_tuple (by rfl) B.tuple bt_tuple (av_cons (ev_lc rfl (S_real_answer).nd (iv_seq (ev_nameU 0 (pe_var rfl (.inl rfl)))) (blk (N := N_real_answer) (sc := sc_real_answer) (own := [("note", 3)]) (by decide +kernel)) (fun _ _ _ _ _ => (gv_name (S_real_answer).nd rfl (.inl rfl))) (fun _ _ _ _ _ _ => tts_nil) (fun _ _ _ _ _ _ => (ev_imm (ev_bin b_add (ev_nameU 3 (pe_var rfl (.inl rfl))) (ev_nameU 1 (pe_var rfl (.inr (.inl rfl)))))))) av_nil))) (svs_cons (O1 := []) (sv_expr (ev_call (h_check_notes.mono (by decide)) hr (by rfl) (takes_of rfl rfl rfl rfl) (av_cons (ev_nameU 2 (pe_var rfl (.inl rfl))) av_nil))) (svs_one (sv_ret (ev_imm (ev_nameU 2 (pe_var rfl (.inl rfl))))))))))
end Pd.Law
namespace Pd.Law
open PySem PySem.Spec PyProof.Rows L2 Pd
open Pd (D Env)
theorem ok_tonal_answer {P : Program} {w : World} {K : PySem.W.Frag} {mg : Str → Option Value} {base : Heap} {T : List Addr} {fd : FuncData} (B : Bt mg) (F : FunD K "tonal_answer" "tonal_answer" (defArgs (top 10)) (defBody (top 10)) (defScope (top 10)) [] [] (He.fAd K ("tonal_answer", none)) fd) (gm : mg "tonal_answer" = some (.ref (He.fAd K ("tonal_answer", none)))) (x_BadTask : ExD K mg "BadTask") (h_check_notes : FD P w K mg base T 5 "check_notes" 1 d_check_notes) (h_check_steps : FD P w K mg base T 2 "check_steps" 1 d_check_steps) (h_is_number : FD P w K mg base T 1 "is_number" 1 d_is_number) :
    FD P w K mg base T 6 "tonal_answer" 3 d_tonal_answer :=
  fd_of (k := 5) (N := N_tonal_answer) (ps := ["subject", "ground", "head"]) (B := m_tonal_answer) F S_tonal_answer gm (fun _ _ _ _ _ _ us hl => match us, hl with | [_, _, _], _ => rfl) fun A outer s H E hr =>
    (svs_cons (O1 := []) (sv_expr (ev_call (h_check_notes.mono (by decide)) hr (by rfl) (takes_of rfl rfl rfl rfl) (av_cons (ev_nameU 0 (pe_var rfl (.inl rfl))) av_nil))) (svs_cons (O1 := []) (sv_expr (ev_call (h_check_steps.mono (by decide)) hr (by rfl) (takes_of rfl rfl rfl rfl) (av_cons (ev_nameU 1 (pe_var rfl (.inl rfl))) av_nil))) (svs_cons (O1 := []) (sv_if (tv_pw (wv_or (tv_not (tv_tru (ev_call (h_is_number.mono (by decide)) hr (by rfl) (takes_of rfl rfl rfl rfl) (av_cons (ev_nameU 2 (pe_var rfl (.inl rfl))) av_nil)))) (wv_or1 (tv_not (tv_chain b_le b_le ev_int (ev_nameU 2 (pe_var rfl (.inl rfl))) (ev_fresh (ev_fn c_len (by rfl) B.len bt_len (av_cons (ev_nameU 0 (pe_var rfl (.inl rfl))) av_nil)) (im_fun im_len))))))) (svs_one (sv_raise rfl (takes_of rfl rfl rfl rfl) x_BadTask rfl)) (svs_nil)) (svs_cons (O1 := [3]) (sv_set (O' := [3]) (S_tonal_answer).nd rfl (.inl rfl) (ev_lst av_nil)) (svs_cons (O1 := [3]) (sv_for (passes_of rfl) rfl (iv_range1 (by rfl) B.range (av_cons (ev_fresh (ev_fn c_len (by rfl) B.len bt_len (av_cons (ev_nameU 0 (pe_var rfl (.inl rfl))) av_nil)) (im_fun im_len)) av_nil)) (gv_name (S_tonal_answer).nd rfl (.inl rfl)) (fun _ => (svs_cons (O1 := [3]) (sv_set (O' := [3]) (S_tonal_answer).nd rfl (.inl rfl) (ev_cmp (b_eq (u64 hr)) (ev_bin b_mod (ev_fresh (ev_bin b_sub (ev_ix (ev_nameU 0 (pe_var rfl (.inl rfl))) (ev_nameU 4 (pe_var rfl (.inl rfl)))) (ev_nameU 1 (pe_var rfl (.inl rfl)))) (im_bin im_sub)) ev_int) ev_int (nobehind _ (by decide) (by decide)))) (svs_one (sv_app (pe_var rfl (.inl rfl)) (av_cons (ev_imm (ev_bin b_add (ev_ix (ev_nameU 0 (pe_var rfl (.inl rfl))) (ev_nameU 4 (pe_var rfl (.inl rfl)))) (ev_if (tv_pw (wv_and (tv_cmp b_lt (ev_nameU 4 (pe_var rfl (.inl rfl))) (ev_nameU 2 (pe_var rfl (.inl rfl))) (nobehind _ (by decide) (by decide))) (wv_and1 (tv_tru (ev_nameU 5 (pe_var rfl (.inl rfl))))))) ev_int ev_int))) av_nil)))))) (svs_cons (O1 := [3]) (sv_set (O' := [3]) (S_tonal_answer).nd rfl (.inl rfl) (ev_imm (ev_ty c_tuple (by rfl) B.tuple bt_tuple (av_cons (ev_name 3 (pe_var rfl (.inl rfl))) av_nil)))) (svs_cons (O1 := [3]) (sv_expr (ev_call (h_check_notes.mono (by decide)) hr (by rfl) (takes_of rfl rfl rfl rfl) (av_cons (ev_name 3 (pe_var rfl (.inl rfl))) av_nil))) (svs_one (sv_retO (pe_var rfl (.inl rfl)))))))))))
end Pd.Law
namespace Pd.Law
open PySem PySem.Spec PyProof.Rows L2 Pd
open Pd (D Env)
theorem ok_entries {P : Program} {w : World} {K : PySem.W.Frag} {mg : Str → Option Value} {base : Heap} {T : List Addr} {fd : FuncData} (B : Bt mg) (F : FunD K "entries" "entries" (defArgs (top 11)) (defBody (top 11)) (defScope (top 11)) [] [] (He.fAd K ("entries", none)) fd) (gm : mg "entries" = some (.ref (He.fAd K ("entries", none)))) (x_BadTask : ExD K mg "BadTask") (h_check_notes : FD P w K mg base T 5 "check_notes" 1 d_check_notes) (h_is_number : FD P w K mg base T 1 "is_number" 1 d_is_number) :
    FD P w K mg base T 6 "entries" 4 d_entries :=
  fd_of (k := 5) (N := N_entries) (ps := ["subject", "answer", "gap", "voices"]) (B := m_entries) F S_entries gm (fun _ _ _ _ _ _ us hl => match us, hl with | [_, _, _, _], _ => rfl) fun A outer s H E hr =>
    (svs_cons (O1 := []) (sv_expr (ev_call (h_check_notes.mono (by decide)) hr (by rfl) (takes_of rfl rfl rfl rfl) (av_cons (ev_nameU 0 (pe_var rfl (.inl rfl))) av_nil))) (svs_cons (O1 := []) (sv_expr (ev_call (h_check_notes.mono (by decide)) hr (by rfl) (takes_of rfl rfl rfl rfl) (av_cons (ev_nameU 1 (pe_var rfl (.inl rfl))) av_nil))) (svs_cons (O1 := []) (sv_if (tv_pw (wv_or (tv_not (tv_tru (ev_call (h_is_number.mono (by decide)) hr (by rfl) (takes_of rfl rfl rfl rfl) (av_cons (ev_nameU 2 (pe_var rfl (.inl rfl))) av_nil)))) (wv_or (tv_not (tv_chain b_le b_le ev_int (ev_nameU 2 (pe_var rfl (.inl rfl))) ev_int)) (wv_or (tv_not (tv_tru (ev_call (h_is_number.mono (by decide)) hr (by rfl) (takes_of rfl rfl rfl rfl) (av_cons (ev_nameU 3 (pe_var rfl (.inl rfl))) av_nil)))) (wv_or1 (tv_not (tv_chain b_le b_le ev_int (ev_nameU 3 (pe_var rfl (.inl rfl))) ev_int))))))) (svs_one (sv_raise rfl (takes_of rfl rfl rfl rfl) x_BadTask rfl)) (svs_nil)) (svs_cons (O1 := [4]) (sv_set (O' := [4]) (S_entries).nd rfl (.inl rfl) (ev_lst av_nil)) (svs_cons (O1 := [4]) (sv_for (passes_of rfl) rfl (iv_range1 (by rfl) B.range (av_cons (ev_nameU 3 (pe_var rfl (.inl rfl))) av_nil)) (gv_name (S_entries).nd rfl (.inl rfl)) (fun _ => (svs_cons (O1 := [4]) (sv_set (O' := [4]) (S_entries).nd rfl (.inl rfl) (ev_if (tv_cmp (b_eq (u64 hr)) (ev_fresh (ev_bin b_mod (ev_nameU 5 (pe_var rfl (.inl rfl))) ev_int) (im_bin im_mod)) ev_int (nobehind _ (by decide) (by decide))) (ev_nameU 0 (pe_var rfl (.inl rfl))) (ev_nameU 1 (pe_var rfl (.inl rfl))))) (svs_one (sv_app (pe_var rfl (.inl rfl)) (av_cons (ev_imm (ev_bin b_add (ev_ty c_tuple (by rfl) B.tuple bt_tuple (av_cons (ev_lc rfl (S_entries).nd (iv_range1 (by rfl) B.range (av_cons (ev_bin b_mul (ev_nameU 5 (pe_var rfl (.inl rfl))) (ev_nameU 2 (pe_var rfl (.inl rfl)))) av_nil)) (blk (N := N_entries) (sc := sc_entries) (own := [("at", 7)]) (by decide +kernel)) (fun _ _ _ _ _ => (gv_name (S_entries).nd rfl (.inl rfl))) (fun _ _ _ _ _ _ => tts_nil) (fun _ _ _ _ _ _ => ev_non)) av_nil)) (ev_nameU 6 (pe_var rfl (.inl rfl))))) av_nil)))))) (svs_one (sv_ret (ev_imm (ev_ty c_tuple (by rfl) B.tuple bt_tuple (av_cons (ev_name 4 (pe_var rfl (.inl rfl))) av_nil))))))))))
end Pd.Law
namespace Pd.Law
open PySem PySem.Spec PyProof.Rows L2 Pd
open Pd (D Env)
theorem ok_chords_in {P : Program} {w : World} {K : PySem.W.Frag} {mg : Str → Option Value} {base : Heap} {T : List Addr} {fd : FuncData} (B : Bt mg) (F : FunD K "chords_in" "chords_in" (defArgs (top 12)) (defBody (top 12)) (defScope (top 12)) [] [] (He.fAd K ("chords_in", none)) fd) (gm : mg "chords_in" = some (.ref (He.fAd K ("chords_in", none)))) (x_BadLine : ExD K mg "BadLine") (TB : GxR.TabB base mg (He.cT K ("chords_in", none)).1 (He.cT K ("chords_in", none)).2) (hP : (He.cT K ("chords_in", none)).2 ∈ T) :
    FD P w K mg base T 4 "chords_in" 1 d_chords_in :=
  fd_of (k := 3) (N := N_chords_in) (ps := ["voices"]) (B := m_chords_in) F S_chords_in gm (fun _ _ _ _ _ _ us hl => match us, hl with | [_], _ => rfl) fun A outer s H E hr =>
    (svs_cons (O1 := []) (sv_if (tv_pw (wv_or (tv_not (tv_tru (ev_isi (by rfl) B.isinstance (by rfl) B.tuple bt_tuple isi_tuple (ev_nameU 0 (pe_var rfl (.inl rfl)))))) (wv_or (tv_cmp (b_eq (u64 hr)) (ev_fresh (ev_fn c_len (by rfl) B.len bt_len (av_cons (ev_nameU 0 (pe_var rfl (.inl rfl))) av_nil)) (im_fun im_len)) ev_int (nobehind _ (by decide) (by decide))) (wv_or1 (tv_not (tv_tru (ev_all (k := 0) (hr.mono (by decide)) rfl (S_chords_in).nd (by rfl) B.all TB hP rfl (blk (N := N_chords_in) (sc := sc_chords_in) (own := [("voice", 5)]) (by decide +kernel)) (genk (by decide +kernel)) (iv_seq (ev_nameU 0 (pe_var rfl (.inl rfl)))) nxN (fun _ _ _ _ _ _ _ => (gv_name (S_chords_in).nd rfl (.inl rfl))) (fun _ _ _ _ _ _ _ r => tts_nil) (fun _ _ _ _ _ _ _ r => (ev_isi (by rfl) B.isinstance (by rfl) B.tuple bt_tuple isi_tuple (ev_nameU 5 (pe_var rfl (.inl rfl)))))))))))) (svs_one (sv_raise rfl (takes_of rfl rfl rfl rfl) x_BadLine rfl)) (svs_nil)) (svs_cons (O1 := []) (sv_set (O' := []) (S_chords_in).nd rfl (.inl rfl) (ev_fn (c_maxL rfl (u65 hr)) (by rfl) B.max bt_max (av_cons (ev_lc rfl (S_chords_in).nd (iv_seq (ev_nameU 0 (pe_var rfl (.inl rfl)))) (blk (N := N_chords_in) (sc := sc_chords_in) (own := [("voice", 5)]) (by decide +kernel)) (fun _ _ _ _ _ => (gv_name (S_chords_in).nd rfl (.inl rfl))) (fun _ _ _ _ _ _ => tts_nil) (fun _ _ _ _ _ _ => (ev_fresh (ev_fn c_len (by rfl) B.len bt_len (av_cons (ev_nameU 5 (pe_var rfl (.inl rfl))) av_nil)) (im_fun im_len)))) av_nil))) (svs_cons (O1 := [2]) (sv_set (O' := [2]) (S_chords_in).nd rfl (.inl rfl) (ev_lst av_nil)) (svs_cons (O1 := [2]) (sv_for (passes_of rfl) rfl (iv_range1 (by rfl) B.range (av_cons (ev_nameU 1 (pe_var rfl (.inl rfl))) av_nil)) (gv_name (S_chords_in).nd rfl (.inr rfl)) (fun _ => (svs_cons (O1 := [2]) (sv_setLc (O' := [2]) rfl (S_chords_in).nd rfl rfl (iv_seq (ev_nameU 0 (pe_var rfl (.inl rfl)))) (blk (N := N_chords_in) (sc := sc_chords_in) (own := [("voice", 5)]) (by decide +kernel)) (fun _ _ _ _ _ => (gv_name (S_chords_in).nd rfl (.inl rfl))) (fun _ _ _ _ _ _ => (tts_one (tv_pw (wv_and (tv_cmp b_lt (ev_nameU 3 (pe_var rfl (.inr (.inl rfl)))) (ev_fresh (ev_fn c_len (by rfl) B.len bt_len (av_cons (ev_nameU 5 (pe_var rfl (.inl rfl))) av_nil)) (im_fun im_len)) (nobehind _ (by decide) (by decide))) (wv_and1 (tv_cmp b_isNot (ev_ix (ev_nameU 5 (pe_var rfl (.inl rfl))) (ev_nameU 3 (pe_var rfl (.inr (.inl rfl))))) ev_non (nobehind _ (by decide) (by decide)))))))) (fun _ _ _ _ _ _ => (ev_imm (ev_ix (ev_nameU 5 (pe_var rfl (.inl rfl))) (ev_nameU 3 (pe_var rfl (.inr (.inl rfl)))))))) (svs_one (sv_app (pe_var rfl (.inl rfl)) (av_cons (ev_imm (ev_ty c_tuple (by rfl) B.tuple bt_tuple (av_cons (ev_nameU 4 (pe_var rfl (.inl rfl))) av_nil))) av_nil)))))) (svs_one (sv_ret (ev_imm (ev_ty c_tuple (by rfl) B.tuple bt_tuple (av_cons (ev_name 2 (pe_var rfl (.inl rfl))) av_nil)))))))))
end Pd.Law
namespace Pd.Law
open PySem PySem.Spec PyProof.Rows L2 Pd
open Pd (D Env)
theorem ok_check_good {P : Program} {w : World} {K : PySem.W.Frag} {mg : Str → Option Value} {base : Heap} {T : List Addr} {fd : FuncData} (B : Bt mg) (F : FunD K "check_good" "check_good" (defArgs (top 16)) (defBody (top 16)) (defScope (top 16)) [] [] (He.fAd K ("check_good", none)) fd) (gm : mg "check_good" = some (.ref (He.fAd K ("check_good", none)))) (x_BadTask : ExD K mg "BadTask") (h_is_number : FD P w K mg base T 1 "is_number" 1 d_is_number) (TB : GxR.TabB base mg (He.cT K ("check_good", none)).1 (He.cT K ("check_good", none)).2) (hP : (He.cT K ("check_good", none)).2 ∈ T) :
    FD P w K mg base T 5 "check_good" 1 d_check_good :=
  fd_of (k := 4) (N := N_check_good) (ps := ["good"]) (B := m_check_good) F S_check_good gm (fun _ _ _ _ _ _ us hl => match us, hl with | [_], _ => rfl) fun A outer s H E hr =>
    (svs_cons (O1 := []) (sv_if (tv_pw (wv_or (tv_not (tv_tru (ev_isi (by rfl) B.isinstance (by rfl) B.tuple bt_tuple isi_tuple (ev_nameU 0 (pe_var rfl (.inr (.inl rfl))))))) (wv_or1 (tv_not (tv_tru (ev_all (k := 1) (hr.mono (by decide)) rfl (S_check_good).nd (by rfl) B.all TB hP rfl (blk (N := N_check_good) (sc := sc_check_good) (own := [("one", 1)]) (by decide +kernel)) (genk (by decide +kernel)) (iv_seq (ev_nameU 0 (pe_var rfl (.inr (.inl rfl))))) nxN (fun _ _ _ _ _ _ _ => (gv_name (S_check_good).nd rfl (.inl rfl))) (fun _ _ _ _ _ _ _ r => tts_nil) (fun _ _ _ _ _ _ _ r => (ev_and (ev_call (h_is_number.mono (by decide)) r (by rfl) takes0 (av_cons (ev_nameU 1 (pe_var rfl (.inl rfl))) av_nil)) (ev_one (ev_chain b_le b_le ev_int (ev_nameU 1 (pe_var rfl (.inl rfl))) ev_int (fun _ _ _ e => imm_le e))))))))))) (svs_one (sv_raise rfl (takes_of rfl rfl rfl rfl) x_BadTask rfl)) (svs_nil)) (svs_one (sv_if (tv_tru (ev_any (k := 0) (hr.mono (by decide)) rfl (S_check_good).nd (by rfl) B.any TB hP rfl (blk (N := N_check_good) (sc := sc_check_good) (own := [("one", 1)]) (by decide +kernel)) (genk (by decide +kernel)) (iv_seq (ev_nameU 0 (pe_var rfl (.inr (.inl rfl))))) nxN (fun _ _ _ _ _ _ _ => (gv_name (S_check_good).nd rfl (.inl rfl))) (fun _ _ _ _ _ _ _ r => tts_nil) (fun _ _ _ _ _ _ _ r => (ev_cmp b_gt (ev_count (u65 r) (ev_nameU 0 (pe_var rfl (.inr (.inr rfl)))) (av_cons (ev_nameU 1 (pe_var rfl (.inl rfl))) av_nil)) ev_int (nobehind _ (by decide) (by decide)))))) (svs_one (sv_raise rfl (takes_of rfl rfl rfl rfl) x_BadTask rfl)) (svs_nil))))
end Pd.Law
namespace Pd.Law
open PySem PySem.Spec PyProof.Rows L2 Pd
open Pd (D Env)
theorem ok_gaps_between {P : Program} {w : World} {K : PySem.W.Frag} {mg : Str → Option Value} {base : Heap} {T : List Addr} {fd : FuncData} (B : Bt mg) (F : FunD K "gaps_between" "gaps_between" (defArgs (top 13)) (defBody (top 13)) (defScope (top 13)) [] [] (He.fAd K ("gaps_between", none)) fd) (gm : mg "gaps_between" = some (.ref (He.fAd K ("gaps_between", none)))) :
    FD P w K mg base T 1 "gaps_between" 2 d_gaps_between :=
  fd_of (k := 0) (N := N_gaps_between) (ps := ["upper", "lower"]) (B := m_gaps_between) F S_gaps_between gm (fun _ _ _ _ _ _ us hl => match us, hl with | [_, _], _ => rfl) fun A outer s H E hr =>
    (svs_one (sv_ret (ev_ty c_tuple (by rfl) B.tuple bt_tuple (av_cons (ev_lc rfl (S_gaps_between).nd (iv_range1 (by rfl) B.range (av_cons (ev_fn (c_min2 rfl) (by rfl) B.min bt_min (av_cons (ev_fresh (ev_fn c_len (by rfl) B.len bt_len (av_cons (ev_nameU 0 (pe_var rfl (.inr (.inl rfl)))) av_nil)) (im_fun im_len)) (av_cons (ev_fresh (ev_fn c_len (by rfl) B.len bt_len (av_cons (ev_nameU 1 (pe_var rfl (.inr (.inl rfl)))) av_nil)) (im_fun im_len)) av_nil))) av_nil)) (blk (N := N_gaps_between) (sc := sc_gaps_between) (own := [("at", 2)]) (by decide +kernel)) (fun _ _ _ _ _ => (gv_name (S_gaps_between).nd rfl (.inl rfl))) (fun _ _ _ _ _ _ => tts_nil) (fun _ _ _ _ _ _ => (ev_bin b_mod (ev_fresh (ev_bin b_sub (ev_ix (ev_nameU 0 (pe_var rfl (.inr (.inl rfl)))) (ev_nameU 2 (pe_var rfl (.inl rfl)))) (ev_ix (ev_nameU 1 (pe_var rfl (.inr (.inl rfl)))) (ev_nameU 2 (pe_var rfl (.inl rfl))))) (im_bin im_sub)) ev_int))) av_nil))))
end Pd.Law
namespace Pd.Law
open PySem PySem.Spec PyProof.Rows L2 Pd
open Pd (D Env)
theorem ok_fits_over {P : Program} {w : World} {K : PySem.W.Frag} {mg : Str → Option Value} {base : Heap} {T : List Addr} {fd : FuncData} (B : Bt mg) (F : FunD K "fits_over" "fits_over" (defArgs (top 14)) (defBody (top 14)) (defScope (top 14)) [] [] (He.fAd K ("fits_over", none)) fd) (gm : mg "fits_over" = some (.ref (He.fAd K ("fits_over", none)))) (h_gaps_between : FD P w K mg base T 1 "gaps_between" 2 d_gaps_between) (TB : GxR.TabB base mg (He.cT K ("fits_over", none)).1 (He.cT K ("fits_over", none)).2) (hP : (He.cT K ("fits_over", none)).2 ∈ T) :
    FD P w K mg base T 4 "fits_over" 3 d_fits_over :=
  fd_of (k := 3) (N := N_fits_over) (ps := ["first", "second", "good"]) (B := m_fits_over) F S_fits_over gm (fun _ _ _ _ _ _ us hl => match us, hl with | [_, _, _], _ => rfl) fun A outer s H E hr =>
    (svs_one (sv_ret (ev_all (k := 0) (hr.mono (by decide)) rfl (S_fits_over).nd (by rfl) B.all TB hP rfl (blk (N := N_fits_over) (sc := sc_fits_over) (own := [("gap", 3)]) (by decide +kernel)) (genk (by decide +kernel)) (iv_seq (ev_call (h_gaps_between.mono (by decide)) hr (by rfl) (takes_of rfl rfl rfl rfl) (av_cons (ev_nameU 1 (pe_var rfl (.inl rfl))) (av_cons (ev_nameU 0 (pe_var rfl (.inl rfl))) av_nil)))) nxN (fun _ _ _ _ _ _ _ => (gv_name (S_fits_over).nd rfl (.inl rfl))) (fun _ _ _ _ _ _ _ r => tts_nil) (fun _ _ _ _ _ _ _ r => (ev_fresh (ev_cmp (b_in (u65 r)) (ev_nameU 3 (pe_var rfl (.inl rfl))) (ev_nameU 2 (pe_var rfl (.inr (.inr rfl)))) rfl) (im_bin im_in))))))
end Pd.Law
namespace Pd.Law
open PySem PySem.Spec PyProof.Rows L2 Pd
open Pd (D Env)
theorem ok_turnable {P : Program} {w : World} {K : PySem.W.Frag} {mg : Str → Option Value} {base : Heap} {T : List Addr} {fd : FuncData} (B : Bt mg) (F : FunD K "turnable" "turnable" (defArgs (top 15)) (defBody (top 15)) (defScope (top 15)) [] [] (He.fAd K ("turnable", none)) fd) (gm : mg "turnable" = some (.ref (He.fAd K ("turnable", none)))) (h_check_notes : FD P w K mg base T 5 "check_notes" 1 d_check_notes) (h_check_steps : FD P w K mg base T 2 "check_steps" 1 d_check_steps) (h_check_good : FD P w K mg base T 5 "check_good" 1 d_check_good) (h_fits_over : FD P w K mg base T 4 "fits_over" 3 d_fits_over) :
    FD P w K mg base T 6 "turnable" 4 d_turnable :=
  fd_of (k := 5) (N := N_turnable) (ps := ["first", "second", "steps", "good"]) (B := m_turnable) F S_turnable gm (fun _ _ _ _ _ _ us hl => match us, hl with | [_, _, _, _], _ => rfl) fun A outer s H E hr =>
    (svs_cons (O1 := []) (sv_expr (ev_call (h_check_notes.mono (by decide)) hr (by rfl) (takes_of rfl rfl rfl rfl) (av_cons (ev_nameU 0 (pe_var rfl (.inl rfl))) av_nil))) (svs_cons (O1 := []) (sv_expr (ev_call (h_check_notes.mono (by decide)) hr (by rfl) (takes_of rfl rfl rfl rfl) (av_cons (ev_nameU 1 (pe_var rfl (.inl rfl))) av_nil))) (svs_cons (O1 := []) (sv_expr (ev_call (h_check_steps.mono (by decide)) hr (by rfl) (takes_of rfl rfl rfl rfl) (av_cons (ev_nameU 2 (pe_var rfl (.inr (.inl rfl)))) av_nil))) (svs_cons (O1 := []) (sv_expr (ev_call (h_check_good.mono (by decide)) hr (by rfl) (takes_of rfl rfl rfl rfl) (av_cons (ev_nameU 3 (pe_var rfl (.inl rfl))) av_nil))) (svs_cons (O1 := []) (sv_set (O' := []) (S_turnable).nd rfl (.inl rfl) (ev_ty c_tuple (by rfl) B.tuple bt_tuple (av_cons (ev_lc rfl (S_turnable).nd (iv_seq (ev_nameU 0 (pe_var rfl (.inl rfl)))) (blk (N := N_turnable) (sc := sc_turnable) (own := [("note", 5)]) (by decide +kernel)) (fun _ _ _ _ _ => (gv_name (S_turnable).nd rfl (.inl rfl))) (fun _ _ _ _ _ _ => tts_nil) (fun _ _ _ _ _ _ => (ev_imm (ev_bin b_add (ev_nameU 5 (pe_var rfl (.inl rfl))) (ev_nameU 2 (pe_var rfl (.inr (.inl rfl)))))))) av_nil))) (svs_one (sv_ret (ev_and (ev_call (h_fits_over.mono (by decide)) hr (by rfl) (takes_of rfl rfl rfl rfl) (av_cons (ev_nameU 0 (pe_var rfl (.inl rfl))) (av_cons (ev_nameU 1 (pe_var rfl (.inl rfl))) (av_cons (ev_nameU 3 (pe_var rfl (.inl rfl))) av_nil)))) (ev_one (ev_call (h_fits_over.mono (by decide)) hr (by rfl) (takes_of rfl rfl rfl rfl) (av_cons (ev_nameU 1 (pe_var rfl (.inl rfl))) (av_cons (ev_nameU 4 (pe_var rfl (.inl rfl))) (av_cons (ev_nameU 3 (pe_var rfl (.inl rfl))) av_nil)))))))))))))
end Pd.Law
namespace Pd.Law
open PySem PySem.Spec PyProof.Rows L2 Pd
open Pd (D Env)
theorem ok_stretti {P : Program} {w : World} {K : PySem.W.Frag} {mg : Str → Option Value} {base : Heap} {T : List Addr} {fd : FuncData} (B : Bt mg) (F : FunD K "stretti" "stretti" (defArgs (top 18)) (defBody (top 18)) (defScope (top 18)) [] [] (He.fAd K ("stretti", none)) fd) (gm : mg "stretti" = some (.ref (He.fAd K ("stretti", none)))) (h_check_notes : FD P w K mg base T 5 "check_notes" 1 d_check_notes) (h_check_good : FD P w K mg base T 5 "check_good" 1 d_check_good) (TB : GxR.TabB base mg (He.cT K ("stretti", none)).1 (He.cT K ("stretti", none)).2) (hP : (He.cT K ("stretti", none)).2 ∈ T) :
    FD P w K mg base T 6 "stretti" 2 d_stretti :=
  fd_of (k := 5) (N := N_stretti) (ps := ["subject", "good"]) (B := m_stretti) F S_stretti gm (fun _ _ _ _ _ _ us hl => match us, hl with | [_, _], _ => rfl) fun A outer s H E hr =>
    (svs_cons (O1 := []) (sv_expr (ev_call (h_check_notes.mono (by decide)) hr (by rfl) (takes_of rfl rfl rfl rfl) (av_cons (ev_nameU 0 (pe_var rfl (.inl rfl))) av_nil))) (svs_cons (O1 := []) (sv_expr (ev_call (h_check_good.mono (by decide)) hr (by rfl) (takes_of rfl rfl rfl rfl) (av_cons (ev_nameU 1 (pe_var rfl (.inr (.inl rfl)))) av_nil))) (svs_cons (O1 := [2]) (sv_set (O' := [2]) (S_stretti).nd rfl (.inl rfl) (ev_lst av_nil)) (svs_cons (O1 := [2]) (sv_for (passes_of rfl) rfl (iv_range2 (by rfl) B.range (av_cons ev_int (av_cons (ev_fresh (ev_fn c_len (by rfl) B.len bt_len (av_cons (ev_nameU 0 (pe_var rfl (.inl rfl))) av_nil)) (im_fun im_len)) av_nil))) (gv_name (S_stretti).nd rfl (.inl rfl)) (fun _ => (svs_one (sv_for (passes_of rfl) rfl (iv_range1 (by rfl) B.range (av_cons ev_int av_nil)) (gv_name (S_stretti).nd rfl (.inr rfl)) (fun _ => (svs_cons (O1 := [2]) (sv_set (O' := [2]) (S_stretti).nd rfl (.inr rfl) (ev_sl (ev_nameU 0 (pe_var rfl (.inl rfl))) (pv_some (ev_nameU 3 (pe_var rfl (.inl rfl)))) pv_none)) (svs_cons (O1 := [2]) (sv_set (O' := [2]) (S_stretti).nd rfl (.inr rfl) (ev_lc rfl (S_stretti).nd (iv_seq (ev_sl (ev_nameU 0 (pe_var rfl (.inl rfl))) pv_none (pv_some (ev_fresh (ev_bin b_sub (ev_fresh (ev_fn c_len (by rfl) B.len bt_len (av_cons (ev_nameU 0 (pe_var rfl (.inl rfl))) av_nil)) (im_fun im_len)) (ev_nameU 3 (pe_var rfl (.inl rfl)))) (im_bin im_sub))))) (blk (N := N_stretti) (sc := sc_stretti) (own := [("note", 7)]) (by decide +kernel)) (fun _ _ _ _ _ => (gv_name (S_stretti).nd rfl (.inl rfl))) (fun _ _ _ _ _ _ => tts_nil) (fun _ _ _ _ _ _ => (ev_imm (ev_bin b_add (ev_nameU 7 (pe_var rfl (.inl rfl))) (ev_nameU 4 (pe_var rfl (.inr (.inl rfl))))))))) (svs_one (sv_if (tv_tru (ev_all (k := 0) (hr.mono (by decide)) rfl (S_stretti).nd (by rfl) B.all TB hP rfl (blk (N := N_stretti) (sc := sc_stretti) (own := [("at", 8)]) (by decide +kernel)) (genk (by decide +kernel)) (iv_range1 (by rfl) B.range (av_cons (ev_fresh (ev_fn c_len (by rfl) B.len bt_len (av_cons (ev_nameU 5 (pe_var rfl (.inr (.inl rfl)))) av_nil)) (im_fun im_len)) av_nil)) nxN (fun _ _ _ _ _ _ _ => (gv_name (S_stretti).nd rfl (.inl rfl))) (fun _ _ _ _ _ _ _ r => tts_nil) (fun _ _ _ _ _ _ _ r => (ev_fresh (ev_cmp (b_in (u65 r)) (ev_bin b_mod (ev_fresh (ev_bin b_sub (ev_ix (ev_nameU 6 (pe_var rfl (.inr (.inr rfl)))) (ev_nameU 8 (pe_var rfl (.inl rfl)))) (ev_ix (ev_nameU 5 (pe_var rfl (.inr (.inr rfl)))) (ev_nameU 8 (pe_var rfl (.inl rfl))))) (im_bin im_sub)) ev_int) (ev_nameU 1 (pe_var rfl (.inr (.inr rfl)))) rfl) (im_bin im_in))))) (svs_one (sv_app (pe_var rfl (.inl rfl)) (av_cons (ev_imm (ev_tup (av_cons (ev_nameU 3 (pe_var rfl (.inl rfl))) (av_cons (ev_nameU 4 (pe_var rfl (.inr (.inl rfl)))) av_nil)))) av_nil))) (svs_nil)))))))))) (svs_one (sv_ret (ev_imm (ev_ty c_tuple (by rfl) B.tuple bt_tuple (av_cons (ev_name 2 (pe_var rfl (.inl rfl))) av_nil)))))))))
end Pd.Law
namespace Pd.Law
open PySem PySem.Spec PyProof.Rows L2 Pd
open Pd (D Env)
theorem ok_turned_line {P : Program} {w : World} {K : PySem.W.Frag} {mg : Str → Option Value} {base : Heap} {T : List Addr} {fd : FuncData} (B : Bt mg) (F : FunD K "turned_line" "turned_line" (defArgs (top 20)) (defBody (top 20)) (defScope (top 20)) [] [] (He.fAd K ("turned_line", none)) fd) (gm : mg "turned_line" = some (.ref (He.fAd K ("turned_line", none)))) (h_check_notes : FD P w K mg base T 5 "check_notes" 1 d_check_notes) (h_check_steps : FD P w K mg base T 2 "check_steps" 1 d_check_steps) :
    FD P w K mg base T 6 "turned_line" 2 d_turned_line :=
  fd_of (k := 5) (N := N_turned_line) (ps := ["line", "centre"]) (B := m_turned_line) F S_turned_line gm (fun _ _ _ _ _ _ us hl => match us, hl with | [_, _], _ => rfl) fun A outer s H E hr =>
    (svs_cons (O1 := []) (sv_expr (ev_call (h_check_notes.mono (by decide)) hr (by rfl) (takes_of rfl rfl rfl rfl) (av_cons (ev_nameU 0 (pe_var rfl (.inl rfl))) av_nil))) (svs_cons (O1 := []) (sv_expr (ev_call (h_check_steps.mono (by decide)) hr (by rfl) (takes_of rfl rfl rfl rfl) (av_cons (ev_nameU 1 (pe_var rfl (.inr (.inl rfl)))) av_nil))) (svs_cons (O1 := []) (sv_set (O' := []) (S_turned_line).nd rfl (.inl rfl) (ev_ty c_tuple (by rfl) B.tuple bt_tuple (av_cons (ev_lc rfl (S_turned_line).nd (iv_seq (ev_nameU 0 (pe_var rfl (.inl rfl)))) (blk (N := N_turned_line) (sc := sc_turned_line) (own := [("note", 3)]) (by decide +kernel)) (fun _ _ _ _ _ => (gv_name (S_turned_line).nd rfl (.inl rfl))) (fun _ _ _ _ _ _ => tts_nil) (fun _ _ _ _ _ _ => (ev_fresh (ev_bin b_sub (ev_bin b_mul ev_int (ev_nameU 1 (pe_var rfl (.inr (.inl rfl))))) (ev_nameU 3 (pe_var rfl (.inl rfl)))) (im_bin im_sub)))) av_nil))) (svs_cons (O1 := []) (sv_expr (ev_call (h_check_notes.mono (by decide)) hr (by rfl) (takes_of rfl rfl rfl rfl) (av_cons (ev_nameU 2 (pe_var rfl (.inl rfl))) av_nil))) (svs_one (sv_ret (ev_imm (ev_nameU 2 (pe_var rfl (.inl rfl))))))))))
end Pd.Law
namespace Pd.Law
open PySem PySem.Spec PyProof.Rows L2 Pd
open Pd (D Env)
theorem ok_turned_good {P : Program} {w : World} {K : PySem.W.Frag} {mg : Str → Option Value} {base : Heap} {T : List Addr} {fd : FuncData} (B : Bt mg) (F : FunD K "turned_good" "turned_good" (defArgs (top 17)) (defBody (top 17)) (defScope (top 17)) [] [] (He.fAd K ("turned_good", none)) fd) (gm : mg "turned_good" = some (.ref (He.fAd K ("turned_good", none)))) (h_check_good : FD P w K mg base T 5 "check_good" 1 d_check_good) (h_check_steps : FD P w K mg base T 2 "check_steps" 1 d_check_steps) :
    FD P w K mg base T 6 "turned_good" 2 d_turned_good :=
  fd_of (k := 5) (N := N_turned_good) (ps := ["good", "steps"]) (B := m_turned_good) F S_turned_good gm (fun _ _ _ _ _ _ us hl => match us, hl with | [_, _], _ => rfl) fun A outer s H E hr =>
    (svs_cons (O1 := []) (sv_expr (ev_call (h_check_good.mono (by decide)) hr (by rfl) (takes_of rfl rfl rfl rfl) (av_cons (ev_nameU 0 (pe_var rfl (.inr (.inl rfl)))) av_nil))) (svs_cons (O1 := []) (sv_expr (ev_call (h_check_steps.mono (by decide)) hr (by rfl) (takes_of rfl rfl rfl rfl) (av_cons (ev_nameU 1 (pe_var rfl (.inr (.inl rfl)))) av_nil))) (svs_one (sv_ret (ev_ty c_tuple (by rfl) B.tuple bt_tuple (av_cons (ev_lc rfl (S_turned_good).nd (iv_seq (ev_nameU 0 (pe_var rfl (.inr (.inl rfl))))) (blk (N := N_turned_good) (sc := sc_turned_good) (own := [("one", 2)]) (by decide +kernel)) (fun _ _ _ _ _ => (gv_name (S_turned_good).nd rfl (.inl rfl))) (fun _ _ _ _ _ _ => (tts_one (tv_cmp (b_in (u65 hr)) (ev_bin b_mod (ev_fresh (ev_bin b_sub (ev_nameU 1 (pe_var rfl (.inr (.inl rfl)))) (ev_nameU 2 (pe_var rfl (.inl rfl)))) (im_bin im_sub)) ev_int) (ev_nameU 0 (pe_var rfl (.inr (.inl rfl)))) rfl))) (fun _ _ _ _ _ _ => (ev_imm (ev_nameU 2 (pe_var rfl (.inl rfl)))))) av_nil))))))
end Pd.Law
namespace Pd.Law
open PySem PySem.Spec PyProof.Rows L2 Pd
open Pd (D Env)
theorem ok_slowed {P : Program} {w : World} {K : PySem.W.Frag} {mg : Str → Option Value} {base : Heap} {T : List Addr} {fd : FuncData} (B : Bt mg) (F : FunD K "slowed" "slowed" (defArgs (top 19)) (defBody (top 19)) (defScope (top 19)) [] [] (He.fAd K ("slowed", none)) fd) (gm : mg "slowed" = some (.ref (He.fAd K ("slowed", none)))) (x_BadTask : ExD K mg "BadTask") (h_check_notes : FD P w K mg base T 5 "check_notes" 1 d_check_notes) (h_is_number : FD P w K mg base T 1 "is_number" 1 d_is_number) :
    FD P w K mg base T 6 "slowed" 2 d_slowed :=
  fd_of (k := 5) (N := N_slowed) (ps := ["line", "times"]) (B := m_slowed) F S_slowed gm (fun _ _ _ _ _ _ us hl => match us, hl with | [_, _], _ => rfl) fun A outer s H E hr =>
    (svs_cons (O1 := []) (sv_expr (ev_call (h_check_notes.mono (by decide)) hr (by rfl) (takes_of rfl rfl rfl rfl) (av_cons (ev_nameU 0 (pe_var rfl (.inl rfl))) av_nil))) (svs_cons (O1 := []) (sv_if (tv_pw (wv_or (tv_not (tv_tru (ev_call (h_is_number.mono (by decide)) hr (by rfl) (takes_of rfl rfl rfl rfl) (av_cons (ev_nameU 1 (pe_var rfl (.inl rfl))) av_nil)))) (wv_or1 (tv_not (tv_chain b_le b_le ev_int (ev_nameU 1 (pe_var rfl (.inl rfl))) ev_int))))) (svs_one (sv_raise rfl (takes_of rfl rfl rfl rfl) x_BadTask rfl)) (svs_nil)) (svs_cons (O1 := []) (sv_set (O' := []) (S_slowed).nd rfl (.inl rfl) (ev_tup av_nil)) (svs_cons (O1 := []) (sv_for (passes_of rfl) rfl (iv_seq (ev_nameU 0 (pe_var rfl (.inl rfl)))) (gv_name (S_slowed).nd rfl (.inl rfl)) (fun _ => (svs_one (sv_set (O' := []) (S_slowed).nd rfl (.inl rfl) (ev_bin b_add (ev_nameU 2 (pe_var rfl (.inl rfl))) (ev_bin b_mul (ev_tup (av_cons (ev_nameU 3 (pe_var rfl (.inl rfl))) av_nil)) (ev_nameU 1 (pe_var rfl (.inl rfl))))))))) (svs_one (sv_ret (ev_imm (ev_nameU 2 (pe_var rfl (.inl rfl))))))))))
end Pd.Law
namespace Pd.Law
open PySem PySem.Spec PyProof.Rows L2 Pd
open Pd (D Env)
theorem ok__law_refusal {P : Program} {w : World} {K : PySem.W.Frag} {mg : Str → Option Value} {base : Heap} {T : List Addr} {fd : FuncData} (B : Bt mg) (F : FunD K "_law_refusal" "_law_refusal" (defArgs (top 24)) (defBody (top 24)) (defScope (top 24)) [] [] (He.fAd K ("_law_refusal", none)) fd) (gm : mg "_law_refusal" = some (.ref (He.fAd K ("_law_refusal", none)))) (x_BadLine : ExD K mg "BadLine") (x_BadTask : ExD K mg "BadTask") (y__law_refusal_BadLine : Exm K "BadLine" tb__law_refusal_BadLine) (y__law_refusal_BadTask : Exm K "BadTask" tb__law_refusal_BadTask) (h_real_answer : FD P w K mg base T 6 "real_answer" 2 d_real_answer) (h_slowed : FD P w K mg base T 6 "slowed" 2 d_slowed) (h_stretti : FD P w K mg base T 6 "stretti" 2 d_stretti) (h_tonal_answer : FD P w K mg base T 6 "tonal_answer" 3 d_tonal_answer) :
    FD P w K mg base T 7 "_law_refusal" 3 d__law_refusal :=
  fd_of (k := 6) (N := N__law_refusal) (ps := ["call", "line", "value"]) (B := m__law_refusal) F S__law_refusal gm (fun _ _ _ _ _ _ us hl => match us, hl with | [_, _, _], _ => rfl) fun A outer s H E hr =>
    (svs_cons (O1 := []) (sv_try2 (O1 := []) (tbl := tb__law_refusal_BadLine) (tbl2 := tb__law_refusal_BadTask) rfl rfl ⟨rfl, by decide, .inl x_BadLine.gC⟩ ⟨rfl, by decide, .inl x_BadTask.gC⟩ (takes_of rfl rfl rfl rfl) y__law_refusal_BadLine y__law_refusal_BadTask (fun W pn xe tk hp => (svs_one (sv_if (tv_cmp (b_eq (u64 hr)) (ev_nameU 0 (pe_var rfl (.inl rfl))) ev_int (nobehind _ (by decide) (by decide))) (svs_one (sv_expr (ev_call (h_real_answer.mono (by decide)) hr (by rfl) tk (av_cons (ev_nameU 1 (pe_var rfl (.inl rfl))) (av_cons (ev_nameU 2 (pe_var rfl (.inl rfl))) av_nil))))) (svs_one (sv_if (tv_cmp (b_eq (u64 hr)) (ev_nameU 0 (pe_var rfl (.inl rfl))) ev_int (nobehind _ (by decide) (by decide))) (svs_one (sv_expr (ev_call (h_slowed.mono (by decide)) hr (by rfl) tk (av_cons (ev_nameU 1 (pe_var rfl (.inl rfl))) (av_cons (ev_nameU 2 (pe_var rfl (.inl rfl))) av_nil))))) (svs_one (sv_if (tv_cmp (b_eq (u64 hr)) (ev_nameU 0 (pe_var rfl (.inl rfl))) ev_int (nobehind _ (by decide) (by decide))) (svs_one (sv_expr (ev_call (h_stretti.mono (by decide)) hr (by rfl) tk (av_cons (ev_nameU 1 (pe_var rfl (.inl rfl))) (av_cons (ev_nameU 2 (pe_var rfl (.inl rfl))) av_nil))))) (svs_one (sv_expr (ev_call (h_tonal_answer.mono (by decide)) hr (by rfl) tk (av_cons (ev_nameU 1 (pe_var rfl (.inl rfl))) (av_cons ev_int (av_cons (ev_nameU 2 (pe_var rfl (.inl rfl))) av_nil))))))))))))) (fun _ _ => (svs_one (sv_ret ev_str))) (fun _ _ => (svs_one (sv_ret ev_str)))) (svs_one (sv_ret ev_str)))
end Pd.Law
namespace Pd.Law
open PySem PySem.Spec PyProof.Rows L2 Pd
open Pd (D Env)
theorem ok_law {P : Program} {w : World} {K : PySem.W.Frag} {mg : Str → Option Value} {base : Heap} {T : List Addr} {fd : FuncData} (B : Bt mg) (F : FunD K "law" "law" (defArgs (top 25)) (defBody (top 25)) (defScope (top 25)) [] [] (He.fAd K ("law", none)) fd) (gm : mg "law" = some (.ref (He.fAd K ("law", none)))) (h__law_cell : FD P w K mg base T 1 "_law_cell" 2 d__law_cell) (h__law_draws : FD P w K mg base T 1 "_law_draws" 2 d__law_draws) (h_real_answer : FD P w K mg base T 6 "real_answer" 2 d_real_answer) (h_tonal_answer : FD P w K mg base T 6 "tonal_answer" 3 d_tonal_answer) (h_entries : FD P w K mg base T 6 "entries" 4 d_entries) (h_chords_in : FD P w K mg base T 4 "chords_in" 1 d_chords_in) (h_turnable : FD P w K mg base T 6 "turnable" 4 d_turnable) (h_turned_good : FD P w K mg base T 6 "turned_good" 2 d_turned_good) (h_stretti : FD P w K mg base T 6 "stretti" 2 d_stretti) (h_slowed : FD P w K mg base T 6 "slowed" 2 d_slowed) (h_turned_line : FD P w K mg base T 6 "turned_line" 2 d_turned_line) (h__law_refusal : FD P w K mg base T 7 "_law_refusal" 3 d__law_refusal) :
    FnOk P w K mg base (L2.CX P w) 8 (He.fAd K ("law", none)) fd ["script"] (spD K T 1 d_law) :=
  fd_fn (k := 7) (N := N_law) (ps := ["script"]) (B := m_law) F S_law fun A outer s H E hr =>
    (svs_cons (O1 := []) (sv_set (O' := []) (S_law).nd rfl (.inr rfl) (ev_call (h__law_draws.mono (by decide)) hr (by rfl) (takes_of rfl rfl rfl rfl) (av_cons (ev_call (h__law_cell.mono (by decide)) hr (by rfl) (takes_of rfl rfl rfl rfl) (av_cons (ev_nameU 0 (pe_var rfl (.inl rfl))) (av_cons ev_int av_nil))) (av_cons ev_int av_nil)))) (svs_cons (O1 := []) (sv_set (O' := []) (S_law).nd rfl (.inr rfl) (ev_ty c_tuple (by rfl) B.tuple bt_tuple (av_cons (ev_lc rfl (S_law).nd (iv_range1 (by rfl) B.range (av_cons (ev_bin b_add (ev_fresh (ev_bin b_mod (ev_ix (ev_nameU 1 (pe_var rfl (.inr (.inl rfl)))) ev_int) ev_int) (im_bin im_mod)) ev_int) av_nil)) (blk (N := N_law) (sc := sc_law) (own := [("k", 28)]) (by decide +kernel)) (fun _ _ _ _ _ => (gv_name (S_law).nd rfl (.inl rfl))) (fun _ _ _ _ _ _ => tts_nil) (fun _ _ _ _ _ _ => (ev_bin b_sub (ev_fresh (ev_bin b_mod (ev_ix (ev_nameU 1 (pe_var rfl (.inr (.inl rfl)))) (ev_bin b_add ev_int (ev_nameU 28 (pe_var rfl (.inl rfl))))) ev_int) (im_bin im_mod)) ev_int))) av_nil))) (svs_cons (O1 := []) (sv_set (O' := []) (S_law).nd rfl (.inr rfl) (ev_ty c_tuple (by rfl) B.tuple bt_tuple (av_cons (ev_lc rfl (S_law).nd (iv_range1 (by rfl) B.range (av_cons (ev_bin b_add (ev_fresh (ev_bin b_mod (ev_ix (ev_nameU 1 (pe_var rfl (.inr (.inl rfl)))) ev_int) ev_int) (im_bin im_mod)) ev_int) av_nil)) (blk (N := N_law) (sc := sc_law) (own := [("k", 28)]) (by decide +kernel)) (fun _ _ _ _ _ => (gv_name (S_law).nd rfl (.inl rfl))) (fun _ _ _ _ _ _ => tts_nil) (fun _ _ _ _ _ _ => (ev_bin b_add (ev_fresh (ev_bin b_mod (ev_ix (ev_nameU 1 (pe_var rfl (.inr (.inl rfl)))) (ev_bin b_add ev_int (ev_nameU 28 (pe_var rfl (.inl rfl))))) ev_int) (im_bin im_mod)) ev_int))) av_nil))) (svs_cons (O1 := []) (sv_asg (O' := []) (gv_tup rfl (gvs_cons (gv_name (S_law).nd rfl (.inr rfl)) (gvs_cons (gv_name (S_law).nd rfl (.inl rfl)) (gvs_cons (gv_name (S_law).nd rfl (.inl rfl)) gvs_nil)))) (ev_tup (av_cons (ev_bin b_sub (ev_fresh (ev_bin b_mod (ev_ix (ev_nameU 1 (pe_var rfl (.inr (.inl rfl)))) ev_int) ev_int) (im_bin im_mod)) ev_int) (av_cons (ev_bin b_sub (ev_fresh (ev_bin b_mod (ev_ix (ev_nameU 1 (pe_var rfl (.inr (.inl rfl)))) ev_int) ev_int) (im_bin im_mod)) ev_int) (av_cons (ev_fresh (ev_bin b_mod (ev_ix (ev_nameU 1 (pe_var rfl (.inr (.inl rfl)))) ev_int) (ev_bin b_add (ev_fresh (ev_fn c_len (by rfl) B.len bt_len (av_cons (ev_nameU 2 (pe_var rfl (.inr (.inl rfl)))) av_nil)) (im_fun im_len)) ev_int)) (im_bin im_mod)) av_nil))))) (svs_cons (O1 := []) (sv_if (tv_cmp (b_ne (u64 hr)) (ev_call (h_real_answer.mono (by decide)) hr (by rfl) (takes_of rfl rfl rfl rfl) (av_cons (ev_nameU 2 (pe_var rfl (.inr (.inl rfl)))) (av_cons (ev_nameU 4 (pe_var rfl (.inr (.inl rfl)))) av_nil))) (ev_ty c_tuple (by rfl) B.tuple bt_tuple (av_cons (ev_lc rfl (S_law).nd (iv_seq (ev_nameU 2 (pe_var rfl (.inr (.inl rfl))))) (blk (N := N_law) (sc := sc_law) (own := [("note", 29)]) (by decide +kernel)) (fun _ _ _ _ _ => (gv_name (S_law).nd rfl (.inl rfl))) (fun _ _ _ _ _ _ => tts_nil) (fun _ _ _ _ _ _ => (ev_imm (ev_bin b_add (ev_nameU 29 (pe_var rfl (.inl rfl))) (ev_nameU 4 (pe_var rfl (.inr (.inl rfl)))))))) av_nil)) (nobehind _ (by decide) (by decide))) (svs_one (sv_ret ev_bl)) (svs_nil)) (svs_cons (O1 := [7]) (sv_set (O' := [7]) (S_law).nd rfl (.inl rfl) (ev_lst av_nil)) (svs_cons (O1 := [7]) (sv_for (passes_of rfl) rfl (iv_range1 (by rfl) B.range (av_cons (ev_fresh (ev_fn c_len (by rfl) B.len bt_len (av_cons (ev_nameU 2 (pe_var rfl (.inr (.inl rfl)))) av_nil)) (im_fun im_len)) av_nil)) (gv_name (S_law).nd rfl (.inl rfl)) (fun _ => (svs_cons (O1 := [7]) (sv_set (O' := [7]) (S_law).nd rfl (.inl rfl) (ev_and (ev_cmp (b_eq (u64 hr)) (ev_bin b_mod (ev_bin b_add (ev_fresh (ev_bin b_sub (ev_ix (ev_nameU 2 (pe_var rfl (.inr (.inl rfl)))) (ev_nameU 8 (pe_var rfl (.inl rfl)))) (ev_nameU 5 (pe_var rfl (.inl rfl)))) (im_bin im_sub)) ev_int) ev_int) ev_int (nobehind _ (by decide) (by decide))) (ev_one (ev_fresh (ev_cmp b_lt (ev_nameU 8 (pe_var rfl (.inl rfl))) (ev_nameU 6 (pe_var rfl (.inl rfl))) (nobehind _ (by decide) (by decide))) (im_bin im_lt))))) (svs_one (sv_app (pe_var rfl (.inl rfl)) (av_cons (ev_imm (ev_bin b_add (ev_ix (ev_nameU 2 (pe_var rfl (.inr (.inl rfl)))) (ev_nameU 8 (pe_var rfl (.inl rfl)))) (ev_if (tv_tru (ev_nameU 9 (pe_var rfl (.inl rfl)))) ev_int ev_int))) av_nil)))))) (svs_cons (O1 := [7]) (sv_if (tv_cmp (b_ne (u64 hr)) (ev_call (h_tonal_answer.mono (by decide)) hr (by rfl) (takes_of rfl rfl rfl rfl) (av_cons (ev_nameU 2 (pe_var rfl (.inr (.inl rfl)))) (av_cons (ev_nameU 5 (pe_var rfl (.inl rfl))) (av_cons (ev_nameU 6 (pe_var rfl (.inl rfl))) av_nil)))) (ev_ty c_tuple (by rfl) B.tuple bt_tuple (av_cons (ev_name 7 (pe_var rfl (.inl rfl))) av_nil)) (nobehind _ (by decide) (by decide))) (svs_one (sv_ret ev_bl)) (svs_nil)) (svs_cons (O1 := [7]) (sv_asg (O' := [7]) (gv_tup rfl (gvs_cons (gv_name (S_law).nd rfl (.inr rfl)) (gvs_cons (gv_name (S_law).nd rfl (.inl rfl)) gvs_nil))) (ev_tup (av_cons (ev_bin b_add (ev_fresh (ev_bin b_mod (ev_ix (ev_nameU 1 (pe_var rfl (.inr (.inl rfl)))) ev_int) ev_int) (im_bin im_mod)) ev_int) (av_cons (ev_bin b_add (ev_fresh (ev_bin b_mod (ev_ix (ev_nameU 1 (pe_var rfl (.inr (.inl rfl)))) ev_int) ev_int) (im_bin im_mod)) ev_int) av_nil)))) (svs_cons (O1 := [7]) (sv_set (O' := [7]) (S_law).nd rfl (.inr rfl) (ev_lc rfl (S_law).nd (iv_range1 (by rfl) B.range (av_cons (ev_nameU 11 (pe_var rfl (.inl rfl))) av_nil)) (blk (N := N_law) (sc := sc_law) (own := [("k", 28)]) (by decide +kernel)) (fun _ _ _ _ _ => (gv_name (S_law).nd rfl (.inl rfl))) (fun _ _ _ _ _ _ => tts_nil) (fun _ _ _ _ _ _ => (ev_imm (ev_bin b_add (ev_bin b_mul (ev_tup (av_cons ev_non av_nil)) (ev_bin b_mul (ev_nameU 28 (pe_var rfl (.inl rfl))) (ev_nameU 10 (pe_var rfl (.inr (.inl rfl)))))) (ev_if (tv_cmp (b_eq (u64 hr)) (ev_fresh (ev_bin b_mod (ev_nameU 28 (pe_var rfl (.inl rfl))) ev_int) (im_bin im_mod)) ev_int (nobehind _ (by decide) (by decide))) (ev_nameU 2 (pe_var rfl (.inr (.inl rfl)))) (ev_nameU 3 (pe_var rfl (.inr (.inl rfl)))))))))) (svs_cons (O1 := [7]) (sv_if (tv_cmp (b_ne (u64 hr)) (ev_call (h_entries.mono (by decide)) hr (by rfl) (takes_of rfl rfl rfl rfl) (av_cons (ev_nameU 2 (pe_var rfl (.inr (.inl rfl)))) (av_cons (ev_nameU 3 (pe_var rfl (.inr (.inl rfl)))) (av_cons (ev_nameU 10 (pe_var rfl (.inr (.inl rfl)))) (av_cons (ev_nameU 11 (pe_var rfl (.inl rfl))) av_nil))))) (ev_ty c_tuple (by rfl) B.tuple bt_tuple (av_cons (ev_nameU 12 (pe_var rfl (.inr (.inl rfl)))) av_nil)) (nobehind _ (by decide) (by decide))) (svs_one (sv_ret ev_bl)) (svs_nil)) (svs_cons (O1 := [7]) (sv_set (O' := [7]) (S_law).nd rfl (.inl rfl) (ev_fn (c_maxL rfl (u65 hr)) (by rfl) B.max bt_max (av_cons (ev_lc rfl (S_law).nd (iv_seq (ev_nameU 12 (pe_var rfl (.inr (.inl rfl))))) (blk (N := N_law) (sc := sc_law) (own := [("row", 30)]) (by decide +kernel)) (fun _ _ _ _ _ => (gv_name (S_law).nd rfl (.inl rfl))) (fun _ _ _ _ _ _ => tts_nil) (fun _ _ _ _ _ _ => (ev_fresh (ev_fn c_len (by rfl) B.len bt_len (av_cons (ev_nameU 30 (pe_var rfl (.inl rfl))) av_nil)) (im_fun im_len)))) av_nil))) (svs_cons (O1 := [7]) (sv_if (tv_cmp (b_ne (u64 hr)) (ev_call (h_chords_in.mono (by decide)) hr (by rfl) (takes_of rfl rfl rfl rfl) (av_cons (ev_ty c_tuple (by rfl) B.tuple bt_tuple (av_cons (ev_nameU 12 (pe_var rfl (.inr (.inl rfl)))) av_nil)) av_nil)) (ev_ty c_tuple (by rfl) B.tuple bt_tuple (av_cons (ev_lc rfl (S_law).nd (iv_range1 (by rfl) B.range (av_cons (ev_nameU 13 (pe_var rfl (.inl rfl))) av_nil)) (blk (N := N_law) (sc := sc_law) (own := [("at", 8)]) (by decide +kernel)) (fun _ _ _ _ _ => (gv_name (S_law).nd rfl (.inr rfl))) (fun _ _ _ _ _ _ => tts_nil) (fun _ _ _ _ _ _ => (ev_ty c_tuple (by rfl) B.tuple bt_tuple (av_cons (ev_lc rfl (S_law).nd (iv_seq (ev_nameU 12 (pe_var rfl (.inr (.inl rfl))))) (blk (N := N_law) (sc := _) (own := [("row", 30)]) (by kernel_rfl)) (fun _ _ _ _ _ => (gv_name (S_law).nd rfl (.inl rfl))) (fun _ _ _ _ _ _ => (tts_one (tv_pw (wv_and (tv_cmp b_lt (ev_nameU 8 (pe_var rfl (.inr (.inl rfl)))) (ev_fresh (ev_fn c_len (by rfl) B.len bt_len (av_cons (ev_nameU 30 (pe_var rfl (.inl rfl))) av_nil)) (im_fun im_len)) (nobehind _ (by decide) (by decide))) (wv_and1 (tv_cmp b_isNot (ev_ix (ev_nameU 30 (pe_var rfl (.inl rfl))) (ev_nameU 8 (pe_var rfl (.inr (.inl rfl))))) ev_non (nobehind _ (by decide) (by decide)))))))) (fun _ _ _ _ _ _ => (ev_imm (ev_ix (ev_nameU 30 (pe_var rfl (.inl rfl))) (ev_nameU 8 (pe_var rfl (.inr (.inl rfl)))))))) av_nil)))) av_nil)) (nobehind _ (by decide) (by decide))) (svs_one (sv_ret ev_bl)) (svs_nil)) (svs_cons (O1 := [7]) (sv_set (O' := [7]) (S_law).nd rfl (.inr rfl) (ev_ty c_tuple (by rfl) B.tuple bt_tuple (av_cons (ev_lc rfl (S_law).nd (iv_range1 (by rfl) B.range (av_cons ev_int av_nil)) (blk (N := N_law) (sc := sc_law) (own := [("k", 28)]) (by decide +kernel)) (fun _ _ _ _ _ => (gv_name (S_law).nd rfl (.inl rfl))) (fun _ _ _ _ _ _ => (tts_one (tv_cmp (b_eq (u64 hr)) (ev_fresh (ev_bin b_mod (ev_ix (ev_nameU 1 (pe_var rfl (.inr (.inl rfl)))) (ev_bin b_add ev_int (ev_nameU 28 (pe_var rfl (.inl rfl))))) ev_int) (im_bin im_mod)) ev_int (nobehind _ (by decide) (by decide))))) (fun _ _ _ _ _ _ => (ev_imm (ev_nameU 28 (pe_var rfl (.inl rfl)))))) av_nil))) (svs_cons (O1 := [7]) (sv_if (tv_cmp (b_eq (u64 hr)) (ev_fresh (ev_bin b_mod (ev_ix (ev_nameU 1 (pe_var rfl (.inr (.inl rfl)))) ev_int) ev_int) (im_bin im_mod)) ev_int (nobehind _ (by decide) (by decide))) (svs_one (sv_set (O' := [7]) (S_law).nd rfl (.inr rfl) (ev_ty c_tuple (by rfl) B.tuple bt_tuple (av_cons (ev_listRev rfl (by rfl) B.list (by rfl) B.reversed (ev_nameU 14 (pe_var rfl (.inr (.inl rfl))))) av_nil)))) (svs_nil)) (svs_cons (O1 := [7]) (sv_set (O' := [7]) (S_law).nd rfl (.inl rfl) (ev_fn (c_min2 rfl) (by rfl) B.min bt_min (av_cons (ev_fresh (ev_fn c_len (by rfl) B.len bt_len (av_cons (ev_nameU 2 (pe_var rfl (.inr (.inl rfl)))) av_nil)) (im_fun im_len)) (av_cons (ev_fresh (ev_fn c_len (by rfl) B.len bt_len (av_cons (ev_nameU 3 (pe_var rfl (.inr (.inl rfl)))) av_nil)) (im_fun im_len)) av_nil)))) (svs_cons (O1 := [7]) (sv_setLc (O' := [7]) rfl (S_law).nd rfl rfl (iv_range1 (by rfl) B.range (av_cons (ev_nameU 15 (pe_var rfl (.inl rfl))) av_nil)) (blk (N := N_law) (sc := sc_law) (own := [("at", 8)]) (by decide +kernel)) (fun _ _ _ _ _ => (gv_name (S_law).nd rfl (.inl rfl))) (fun _ _ _ _ _ _ => tts_nil) (fun _ _ _ _ _ _ => (ev_bin b_mod (ev_bin b_add (ev_fresh (ev_bin b_sub (ev_ix (ev_nameU 3 (pe_var rfl (.inr (.inl rfl)))) (ev_nameU 8 (pe_var rfl (.inl rfl)))) (ev_ix (ev_nameU 2 (pe_var rfl (.inr (.inl rfl)))) (ev_nameU 8 (pe_var rfl (.inl rfl))))) (im_bin im_sub)) ev_int) ev_int))) (svs_cons (O1 := [7]) (sv_setLc (O' := [7]) rfl (S_law).nd rfl rfl (iv_range1 (by rfl) B.range (av_cons (ev_nameU 15 (pe_var rfl (.inl rfl))) av_nil)) (blk (N := N_law) (sc := sc_law) (own := [("at", 8)]) (by decide +kernel)) (fun _ _ _ _ _ => (gv_name (S_law).nd rfl (.inl rfl))) (fun _ _ _ _ _ _ => tts_nil) (fun _ _ _ _ _ _ => (ev_bin b_mod (ev_bin b_add (ev_fresh (ev_bin b_sub (ev_bin b_add (ev_ix (ev_nameU 2 (pe_var rfl (.inr (.inl rfl)))) (ev_nameU 8 (pe_var rfl (.inl rfl)))) (ev_nameU 4 (pe_var rfl (.inr (.inl rfl))))) (ev_ix (ev_nameU 3 (pe_var rfl (.inr (.inl rfl)))) (ev_nameU 8 (pe_var rfl (.inl rfl))))) (im_bin im_sub)) ev_int) ev_int))) (svs_cons (O1 := [7]) (sv_set (O' := [7]) (S_law).nd rfl (.inl rfl) (ev_cmp (b_eq (u64 hr)) (ev_fn c_len (by rfl) B.len bt_len (av_cons (ev_lc rfl (S_law).nd (iv_seq (ev_bin b_add (ev_nameU 16 (pe_var rfl (.inl rfl))) (ev_nameU 17 (pe_var rfl (.inl rfl))))) (blk (N := N_law) (sc := sc_law) (own := [("one", 31)]) (by decide +kernel)) (fun _ _ _ _ _ => (gv_name (S_law).nd rfl (.inl rfl))) (fun _ _ _ _ _ _ => (tts_one (tv_cmp (b_notIn (u65 hr)) (ev_nameU 31 (pe_var rfl (.inl rfl))) (ev_nameU 14 (pe_var rfl (.inr (.inl rfl)))) rfl))) (fun _ _ _ _ _ _ => (ev_imm (ev_nameU 31 (pe_var rfl (.inl rfl)))))) av_nil)) ev_int (nobehind _ (by decide) (by decide)))) (svs_cons (O1 := [7]) (sv_if (tv_cmp (b_ne (u64 hr)) (ev_call (h_turnable.mono (by decide)) hr (by rfl) (takes_of rfl rfl rfl rfl) (av_cons (ev_nameU 2 (pe_var rfl (.inr (.inl rfl)))) (av_cons (ev_nameU 3 (pe_var rfl (.inr (.inl rfl)))) (av_cons (ev_nameU 4 (pe_var rfl (.inr (.inl rfl)))) (av_cons (ev_nameU 14 (pe_var rfl (.inr (.inl rfl)))) av_nil))))) (ev_nameU 18 (pe_var rfl (.inl rfl))) (nobehind _ (by decide) (by decide))) (svs_one (sv_ret ev_bl)) (svs_nil)) (svs_cons (O1 := [7]) (sv_set (O' := [7]) (S_law).nd rfl (.inr rfl) (ev_ty c_tuple (by rfl) B.tuple bt_tuple (av_cons (ev_lc rfl (S_law).nd (iv_seq (ev_nameU 14 (pe_var rfl (.inr (.inl rfl))))) (blk (N := N_law) (sc := sc_law) (own := [("one", 31)]) (by decide +kernel)) (fun _ _ _ _ _ => (gv_name (S_law).nd rfl (.inl rfl))) (fun _ _ _ _ _ _ => (tts_one (tv_cmp (b_in (u65 hr)) (ev_bin b_mod (ev_bin b_add (ev_fresh (ev_bin b_sub (ev_nameU 4 (pe_var rfl (.inr (.inl rfl)))) (ev_nameU 31 (pe_var rfl (.inl rfl)))) (im_bin im_sub)) ev_int) ev_int) (ev_nameU 14 (pe_var rfl (.inr (.inl rfl)))) rfl))) (fun _ _ _ _ _ _ => (ev_imm (ev_nameU 31 (pe_var rfl (.inl rfl)))))) av_nil))) (svs_cons (O1 := [7]) (sv_if (tv_pw (wv_or (tv_cmp (b_ne (u64 hr)) (ev_call (h_turned_good.mono (by decide)) hr (by rfl) (takes_of rfl rfl rfl rfl) (av_cons (ev_nameU 14 (pe_var rfl (.inr (.inl rfl)))) (av_cons (ev_nameU 4 (pe_var rfl (.inr (.inl rfl)))) av_nil))) (ev_nameU 19 (pe_var rfl (.inr (.inl rfl)))) (nobehind _ (by decide) (by decide))) (wv_or1 (tv_cmp (b_ne (u64 hr)) (ev_nameU 18 (pe_var rfl (.inl rfl))) (ev_cmp (b_eq (u64 hr)) (ev_fn c_len (by rfl) B.len bt_len (av_cons (ev_lc rfl (S_law).nd (iv_seq (ev_nameU 16 (pe_var rfl (.inl rfl)))) (blk (N := N_law) (sc := sc_law) (own := [("one", 31)]) (by decide +kernel)) (fun _ _ _ _ _ => (gv_name (S_law).nd rfl (.inl rfl))) (fun _ _ _ _ _ _ => (tts_one (tv_cmp (b_notIn (u65 hr)) (ev_nameU 31 (pe_var rfl (.inl rfl))) (ev_nameU 19 (pe_var rfl (.inr (.inl rfl)))) rfl))) (fun _ _ _ _ _ _ => (ev_imm (ev_nameU 31 (pe_var rfl (.inl rfl)))))) av_nil)) ev_int (nobehind _ (by decide) (by decide))) (nobehind _ (by decide) (by decide)))))) (svs_one (sv_ret ev_bl)) (svs_nil)) (svs_cons (O1 := [7, 20]) (sv_set (O' := [7, 20]) (S_law).nd rfl (.inl rfl) (ev_lst av_nil)) (svs_cons (O1 := [7, 20]) (sv_for (passes_of rfl) rfl (iv_range2 (by rfl) B.range (av_cons ev_int (av_cons (ev_fresh (ev_fn c_len (by rfl) B.len bt_len (av_cons (ev_nameU 2 (pe_var rfl (.inr (.inl rfl)))) av_nil)) (im_fun im_len)) av_nil))) (gv_name (S_law).nd rfl (.inr rfl)) (fun _ => (svs_one (sv_for (passes_of rfl) rfl (iv_range1 (by rfl) B.range (av_cons ev_int av_nil)) (gv_name (S_law).nd rfl (.inr rfl)) (fun _ => (svs_one (sv_if (tv_cmp (b_eq (u64 hr)) (ev_fn c_len (by rfl) B.len bt_len (av_cons (ev_lc rfl (S_law).nd (iv_range2 (by rfl) B.range (av_cons (ev_nameU 21 (pe_var rfl (.inr (.inl rfl)))) (av_cons (ev_fresh (ev_fn c_len (by rfl) B.len bt_len (av_cons (ev_nameU 2 (pe_var rfl (.inr (.inl rfl)))) av_nil)) (im_fun im_len)) av_nil))) (blk (N := N_law) (sc := sc_law) (own := [("at", 8)]) (by decide +kernel)) (fun _ _ _ _ _ => (gv_name (S_law).nd rfl (.inl rfl))) (fun _ _ _ _ _ _ => (tts_one (tv_cmp (b_notIn (u65 hr)) (ev_bin b_mod (ev_bin b_add (ev_fresh (ev_bin b_sub (ev_bin b_add (ev_ix (ev_nameU 2 (pe_var rfl (.inr (.inl rfl)))) (ev_fresh (ev_bin b_sub (ev_nameU 8 (pe_var rfl (.inl rfl))) (ev_nameU 21 (pe_var rfl (.inr (.inl rfl))))) (im_bin im_sub))) (ev_nameU 22 (pe_var rfl (.inr (.inl rfl))))) (ev_ix (ev_nameU 2 (pe_var rfl (.inr (.inl rfl)))) (ev_nameU 8 (pe_var rfl (.inl rfl))))) (im_bin im_sub)) ev_int) ev_int) (ev_nameU 14 (pe_var rfl (.inr (.inl rfl)))) rfl))) (fun _ _ _ _ _ _ => (ev_imm (ev_nameU 8 (pe_var rfl (.inl rfl)))))) av_nil)) ev_int (nobehind _ (by decide) (by decide))) (svs_one (sv_app (pe_var rfl (.inl rfl)) (av_cons (ev_imm (ev_tup (av_cons (ev_nameU 21 (pe_var rfl (.inr (.inl rfl)))) (av_cons (ev_nameU 22 (pe_var rfl (.inr (.inl rfl)))) av_nil)))) av_nil))) (svs_nil)))))))) (svs_cons (O1 := [7, 20]) (sv_if (tv_cmp (b_ne (u64 hr)) (ev_call (h_stretti.mono (by decide)) hr (by rfl) (takes_of rfl rfl rfl rfl) (av_cons (ev_nameU 2 (pe_var rfl (.inr (.inl rfl)))) (av_cons (ev_nameU 14 (pe_var rfl (.inr (.inl rfl)))) av_nil))) (ev_ty c_tuple (by rfl) B.tuple bt_tuple (av_cons (ev_name 20 (pe_var rfl (.inl rfl))) av_nil)) (nobehind _ (by decide) (by decide))) (svs_one (sv_ret ev_bl)) (svs_nil)) (svs_cons (O1 := [7, 20]) (sv_asg (O' := [7, 20]) (gv_tup rfl (gvs_cons (gv_name (S_law).nd rfl (.inr rfl)) (gvs_cons (gv_name (S_law).nd rfl (.inr rfl)) gvs_nil))) (ev_tup (av_cons (ev_bin b_add (ev_fresh (ev_bin b_mod (ev_ix (ev_nameU 1 (pe_var rfl (.inr (.inl rfl)))) ev_int) ev_int) (im_bin im_mod)) ev_int) (av_cons (ev_bin b_sub (ev_fresh (ev_bin b_mod (ev_ix (ev_nameU 1 (pe_var rfl (.inr (.inl rfl)))) ev_int) ev_int) (im_bin im_mod)) ev_int) av_nil)))) (svs_cons (O1 := [7, 20]) (sv_if (tv_pw (wv_or (tv_cmp (b_ne (u64 hr)) (ev_call (h_slowed.mono (by decide)) hr (by rfl) (takes_of rfl rfl rfl rfl) (av_cons (ev_nameU 2 (pe_var rfl (.inr (.inl rfl)))) (av_cons (ev_nameU 23 (pe_var rfl (.inr (.inl rfl)))) av_nil))) (ev_ty c_tuple (by rfl) B.tuple bt_tuple (av_cons (ev_lc rfl (S_law).nd (iv_range1 (by rfl) B.range (av_cons (ev_bin b_mul (ev_nameU 23 (pe_var rfl (.inr (.inl rfl)))) (ev_fresh (ev_fn c_len (by rfl) B.len bt_len (av_cons (ev_nameU 2 (pe_var rfl (.inr (.inl rfl)))) av_nil)) (im_fun im_len))) av_nil)) (blk (N := N_law) (sc := sc_law) (own := [("k", 28)]) (by decide +kernel)) (fun _ _ _ _ _ => (gv_name (S_law).nd rfl (.inl rfl))) (fun _ _ _ _ _ _ => tts_nil) (fun _ _ _ _ _ _ => (ev_imm (ev_ix (ev_nameU 2 (pe_var rfl (.inr (.inl rfl)))) (ev_fresh (ev_bin b_fdiv (ev_nameU 28 (pe_var rfl (.inl rfl))) (ev_nameU 23 (pe_var rfl (.inr (.inl rfl))))) (im_bin im_fdiv)))))) av_nil)) (nobehind _ (by decide) (by decide))) (wv_or1 (tv_cmp (b_ne (u64 hr)) (ev_call (h_turned_line.mono (by decide)) hr (by rfl) (takes_of rfl rfl rfl rfl) (av_cons (ev_nameU 2 (pe_var rfl (.inr (.inl rfl)))) (av_cons (ev_nameU 24 (pe_var rfl (.inr (.inl rfl)))) av_nil))) (ev_ty c_tuple (by rfl) B.tuple bt_tuple (av_cons (ev_lc rfl (S_law).nd (iv_seq (ev_nameU 2 (pe_var rfl (.inr (.inl rfl))))) (blk (N := N_law) (sc := sc_law) (own := [("note", 29)]) (by decide +kernel)) (fun _ _ _ _ _ => (gv_name (S_law).nd rfl (.inl rfl))) (fun _ _ _ _ _ _ => tts_nil) (fun _ _ _ _ _ _ => (ev_fresh (ev_bin b_sub (ev_bin b_mul ev_int (ev_nameU 24 (pe_var rfl (.inr (.inl rfl))))) (ev_nameU 29 (pe_var rfl (.inl rfl)))) (im_bin im_sub)))) av_nil)) (nobehind _ (by decide) (by decide)))))) (svs_one (sv_ret ev_bl)) (svs_nil)) (svs_cons (O1 := [7, 20]) (sv_if (tv_cmp (b_ne (u64 hr)) (ev_call (h_turned_line.mono (by decide)) hr (by rfl) (takes_of rfl rfl rfl rfl) (av_cons (ev_call (h_turned_line.mono (by decide)) hr (by rfl) (takes_of rfl rfl rfl rfl) (av_cons (ev_nameU 2 (pe_var rfl (.inr (.inl rfl)))) (av_cons (ev_nameU 24 (pe_var rfl (.inr (.inl rfl)))) av_nil))) (av_cons (ev_nameU 24 (pe_var rfl (.inr (.inl rfl)))) av_nil))) (ev_nameU 2 (pe_var rfl (.inr (.inl rfl)))) (nobehind _ (by decide) (by decide))) (svs_one (sv_ret ev_bl)) (svs_nil)) (svs_cons (O1 := [7, 20]) (sv_set (O' := [7, 20]) (S_law).nd rfl (.inl rfl) (ev_fresh (ev_bin b_mod (ev_ix (ev_nameU 1 (pe_var rfl (.inr (.inl rfl)))) ev_int) ev_int) (im_bin im_mod))) (svs_cons (O1 := [7, 20]) (sv_set (O' := [7, 20]) (S_law).nd rfl (.inl rfl) (ev_ix (ev_ix (ev_tup (av_cons (ev_tup (av_cons ev_int (av_cons ev_non (av_cons ev_bl av_nil)))) (av_cons (ev_tup (av_cons ev_int (av_cons ev_int (av_cons ev_non av_nil)))) (av_cons (ev_tup (av_cons (ev_lst (av_cons ev_int av_nil)) (av_cons (ev_tup (av_cons ev_int av_nil)) (av_cons (ev_tup (av_cons ev_int (av_cons ev_int av_nil))) av_nil)))) (av_cons (ev_tup (av_cons (ev_bin b_add (ev_fresh (ev_fn c_len (by rfl) B.len bt_len (av_cons (ev_nameU 2 (pe_var rfl (.inr (.inl rfl)))) av_nil)) (im_fun im_len)) ev_int) (av_cons (ev_neg ev_int) (av_cons ev_non av_nil)))) av_nil))))) (ev_nameU 25 (pe_var rfl (.inl rfl)))) (ev_fresh (ev_bin b_mod (ev_ix (ev_nameU 1 (pe_var rfl (.inr (.inl rfl)))) ev_int) ev_int) (im_bin im_mod)))) (svs_cons (O1 := [7, 20]) (sv_set (O' := [7, 20]) (S_law).nd rfl (.inl rfl) (ev_ix (ev_tup (av_cons ev_int (av_cons ev_int (av_cons (ev_tup (av_cons ev_int av_nil)) (av_cons ev_int av_nil))))) (ev_nameU 25 (pe_var rfl (.inl rfl))))) (svs_one (sv_ret (ev_and (ev_cmp (b_eq (u64 hr)) (ev_call (h__law_refusal.mono (by decide)) hr (by rfl) (takes_of rfl rfl rfl rfl) (av_cons (ev_nameU 25 (pe_var rfl (.inl rfl))) (av_cons (ev_nameU 2 (pe_var rfl (.inr (.inl rfl)))) (av_cons (ev_nameU 26 (pe_var rfl (.inl rfl))) av_nil)))) ev_str (nobehind _ (by decide) (by decide))) (ev_one (ev_cmp (b_eq (u64 hr)) (ev_call (h__law_refusal.mono (by decide)) hr (by rfl) (takes_of rfl rfl rfl rfl) (av_cons (ev_nameU 25 (pe_var rfl (.inl rfl))) (av_cons (ev_ix (ev_tup (av_cons (ev_tup av_nil) (av_cons (ev_lst (av_cons ev_int av_nil)) (av_cons (ev_tup (av_cons ev_int av_nil)) (av_cons ev_non av_nil))))) (ev_fresh (ev_bin b_mod (ev_ix (ev_nameU 1 (pe_var rfl (.inr (.inl rfl)))) ev_int) ev_int) (im_bin im_mod))) (av_cons (ev_nameU 27 (pe_var rfl (.inl rfl))) av_nil)))) ev_str (nobehind _ (by decide) (by decide))))))))))))))))))))))))))))))))))))))
end Pd.Law
namespace Pd.Law
open PySem PySem.Spec PyProof.Rows L2 Pd
open Pd (D Env)
theorem number_int (i : Int) : d_is_number [.int i] = .ok (.bool true) := by
  simp [d_is_number, callD, m_is_number]
theorem number_none : d_is_number [.none] = .ok (.bool false) := by
  simp [d_is_number, callD, m_is_number]
theorem number_bool (b : Bool) : d_is_number [.bool b] = .ok (.bool false) := by
  cases b <;> simp [d_is_number, callD, m_is_number]
def okL (L : List Int) : Bool := !L.isEmpty && L.all fun x => decide (mag x ≤ 199)
theorem notes_ok (L : List Int) : d_check_notes [.tuple (L.map .int)] = if okL L = true then .ok .none else .exc "BadLine" := by
  have e : gxGo false (gN 1) bYes m_check_notes_e1 [some (.tuple (L.map .int)), none] (L.map PyData.int) = .ok (L.all fun x => decide (mag x ≤ 199)) :=
    gx_all PyData.int _ L fun a _ => ⟨_, rfl, by simp [m_check_notes_e1, number_int]⟩
  unfold okL
  revert e
  generalize (L.all fun x => decide (mag x ≤ 199)) = b
  intro e
  by_cases h : L = []
  · subst h
    cases b <;> simp [d_check_notes, callD, m_check_notes]
  · cases b <;> simp [d_check_notes, callD, m_check_notes, e, h]
theorem steps_ok (i : Int) : d_check_steps [.int i] = if mag i ≤ 99 then .ok .none else .exc "BadTask" := by
  simp [d_check_steps, callD, m_check_steps, number_int]
  by_cases h : mag i ≤ 99
  · simp [h]
  · simp [h]
theorem real_ok (L : List Int) (s : Int) (h : okL L = true) (hs : mag s ≤ 99) (hl : L.length < 16777216) (hm : okL (L.map (· + s)) = true) : d_real_answer [.tuple (L.map .int), .int s] = .ok (.tuple ((L.map (· + s)).map .int)) := by
  have hc := notes_ok L
  have hc2 := notes_ok (L.map (· + s))
  have e : lcGo (gN 3) bYes m_real_answer_e1 [some (.tuple (L.map .int)), some (.int s), none, none] (L.map PyData.int) = .ok ((L.map (· + s)).map PyData.int) := by
    rw [lcGo_all PyData.int (fun a => .int (a + s)) L fun a _ => ⟨_, rfl, by simp [m_real_answer_e1]⟩, List.map_map]
    rfl
  simp [-List.map_map, d_real_answer, callD, m_real_answer, hc, hc2, h, hm, steps_ok, hs, e, hl]
def tonT (L : List Int) (g h : Int) (k : Nat) : Int := L.getD k 0 + (if (k : Int) < h ∧ (L.getD k 0 - g) % 7 = 4 then 3 else 4)
def tonal (L : List Int) (g h : Int) : List Int := (List.range L.length).map (tonT L g h)
theorem tonal_ok (L : List Int) (g : Int) (h : Int) (hL : okL L = true) (hg : mag g ≤ 99) (h0 : 0 ≤ h) (h1 : h ≤ L.length) (hl : L.length < 16777216) (hm : okL (tonal L g h) = true) :
    d_tonal_answer [.tuple (L.map .int), .int g, .int h] = .ok (.tuple ((tonal L g h).map .int)) := by
  have hc := notes_ok L
  have hc2 := notes_ok (tonal L g h)
  obtain ⟨ρ', e, x, y, rfl⟩ := forD_inv (g := gN 4) (B := m_tonal_answer_L1) (ds := rangeL 0 L.length) (ρ := [some (.tuple (L.map .int)), some (.int g), some (.int h), some (.list []), none, none])
    (fun k ρ => ∃ x y, ρ = [some (.tuple (L.map .int)), some (.int g), some (.int h), some (.list (((List.range k).map (tonT L g h)).map .int)), x, y]) ⟨none, none, rfl⟩ (fun k d ρ hd i => by
      obtain ⟨x, y, rfl⟩ := i
      obtain ⟨hk, rfl⟩ := rangeL_get hd
      refine ⟨_, _, rfl, .inl ?_, some (.int k), some (.bool (decide ((L.getD k 0 - g) % 7 = 4))), rfl⟩
      have hb : k < 16777216 := by omega
      by_cases h1 : (k : Int) < h <;> by_cases h2 : (L[k]?.getD 0 - g) % 7 = 4 <;> simp [-List.map_map, m_tonal_answer_L1, ix_tI hk, List.range_succ, hb, tonT, h1, h2])
  rw [rangeL_len] at e
  have e : forD (gN 4) m_tonal_answer_L1 (rangeL 0 L.length) [some (.tuple (L.map .int)), some (.int g), some (.int h), some (.list []), none, none] = .nx [some (.tuple (L.map .int)), some (.int g), some (.int h), some (.list ((tonal L g h).map .int)), x, y] := e
  simp [-List.map_map, d_tonal_answer, callD, m_tonal_answer, hc, hc2, hL, hm, steps_ok, hg, rng1 (b := L.length) (by omega), number_int, h0, h1, e]
def gaps (L M : List Int) : List Int := (List.range (min L.length M.length)).map fun k => (L.getD k 0 - M.getD k 0) % 7
theorem min_cast (a b : Nat) : (if b < a then (b : Int) else (a : Int)) = ((min a b : Nat) : Int) := by
  split <;> omega
theorem gaps_ok (L M : List Int) (hl : L.length < 16777216) : d_gaps_between [.tuple (L.map .int), .tuple (M.map .int)] = .ok (.tuple ((gaps L M).map .int)) := by
  have e : lcGo (gN 2) bYes m_gaps_between_e1 [some (.tuple (L.map .int)), some (.tuple (M.map .int)), none] (rangeL 0 (min L.length M.length)) = .ok ((gaps L M).map .int) := by
    rw [rangeL0, lcGo_all (fun i : Nat => PyData.int i) (fun k => .int ((L.getD k 0 - M.getD k 0) % 7)) _ fun k hk => ⟨_, rfl, ?_⟩]
    · unfold gaps
      rw [List.map_map] <;> rfl
    · have hk := List.mem_range.mp hk
      have h1 : k < L.length := by omega
      have h2 : k < M.length := by omega
      simp [m_gaps_between_e1, ix_tI h1, ix_tI h2]
  have hb : min L.length M.length < 16777216 := by omega
  have hlen : (gaps L M).length < 16777216 := by unfold gaps; simpa using hb
  simp [-List.map_map, d_gaps_between, callD, m_gaps_between, min_cast, rng1 (b := min L.length M.length) (by omega), e, hlen]
def fits (L M G : List Int) : Bool := (gaps M L).all fun x => decide (x ∈ G)
theorem fits_ok (L M G : List Int) (hl : M.length < 16777216) : d_fits_over [.tuple (L.map .int), .tuple (M.map .int), .tuple (G.map .int)] = .ok (.bool (fits L M G)) := by
  have e : gxGo false (gN 3) bYes m_fits_over_e1 [some (.tuple (L.map .int)), some (.tuple (M.map .int)), some (.tuple (G.map .int)), none] ((gaps M L).map .int) = .ok (fits L M G) :=
    gx_all PyData.int _ _ fun a _ => ⟨_, rfl, by simp [m_fits_over_e1]⟩
  simp [-List.map_map, d_fits_over, callD, m_fits_over, gaps_ok M L hl, e]
def okG (G : List Int) : Bool := (G.all fun x => decide (0 ≤ x) && decide (x ≤ 6)) && !(G.any fun x => decide (1 < G.count x))
theorem good_ok (G : List Int) : d_check_good [.tuple (G.map .int)] = if okG G = true then .ok .none else .exc "BadTask" := by
  have e1 : gxGo false (gN 1) bYes m_check_good_e1 [some (.tuple (G.map .int)), none] (G.map .int) = .ok (G.all fun x => decide (0 ≤ x) && decide (x ≤ 6)) :=
    gx_all PyData.int _ _ fun a _ => ⟨_, rfl, by by_cases h : 0 ≤ a <;> simp [m_check_good_e1, number_int, h]⟩
  have e2 : gxGo true (gN 1) bYes m_check_good_e2 [some (.tuple (G.map .int)), none] (G.map .int) = .ok (G.any fun x => decide (1 < G.count x)) :=
    gx_any PyData.int _ _ fun a _ => ⟨_, rfl, by simp [m_check_good_e2, cnt_int]; omega⟩
  unfold okG
  revert e1 e2
  generalize (G.all fun x => decide (0 ≤ x) && decide (x ≤ 6)) = p
  generalize (G.any fun x => decide (1 < G.count x)) = q
  intro e1 e2
  cases p <;> cases q <;> simp [d_check_good, callD, m_check_good, e1, e2]
theorem turnable_ok (L M G : List Int) (s : Int) (hL : okL L = true) (hM : okL M = true) (hs : mag s ≤ 99) (hG : okG G = true) (hl : L.length < 16777216) (hm : M.length < 16777216) :
    d_turnable [.tuple (L.map .int), .tuple (M.map .int), .int s, .tuple (G.map .int)] = .ok (.bool (fits L M G && fits M (L.map (· + s)) G)) := by
  have e : lcGo (gN 5) bYes m_turnable_e1 [some (.tuple (L.map .int)), some (.tuple (M.map .int)), some (.int s), some (.tuple (G.map .int)), none, none] (L.map PyData.int) = .ok ((L.map (· + s)).map PyData.int) := by
    rw [lcGo_all PyData.int (fun a => .int (a + s)) L fun a _ => ⟨_, rfl, by simp [m_turnable_e1]⟩, List.map_map]
    rfl
  have f2 := fits_ok M (L.map (· + s)) G (by simpa using hl)
  cases hf : fits L M G <;> simp [-List.map_map, d_turnable, callD, m_turnable, notes_ok, steps_ok, good_ok, hL, hM, hs, hG, e, hl, hm, fits_ok, f2, hf]
theorem turned_good_ok (G : List Int) (s : Int) (hG : okG G = true) (hs : mag s ≤ 99) (hl : G.length < 16777216) : d_turned_good [.tuple (G.map .int), .int s] = .ok (.tuple ((G.filter fun x => decide ((s - x) % 7 ∈ G)).map .int)) := by
  have e : lcGo (gN 2) (bBin inD (eBin modD (eBin subD (eName 1) (eName 2)) (eC (.int 7))) (eName 0)) m_turned_good_e1 [some (.tuple (G.map .int)), some (.int s), none] (G.map PyData.int) = .ok ((G.filter fun x => decide ((s - x) % 7 ∈ G)).map .int) :=
    lcGo_map PyData.int _ PyData.int G fun a _ => ⟨_, rfl, by simp, fun _ => by simp [m_turned_good_e1]⟩
  have hb : (G.filter fun x => decide ((s - x) % 7 ∈ G)).length < 16777216 := Nat.lt_of_le_of_lt (List.length_filter_le _ _) hl
  simp [d_turned_good, callD, m_turned_good, good_ok, hG, steps_ok, hs, e, hb]
theorem turned_line_ok (L : List Int) (c : Int) (h : okL L = true) (hs : mag c ≤ 99) (hl : L.length < 16777216) (hm : okL (L.map fun x => 2 * c - x) = true) : d_turned_line [.tuple (L.map .int), .int c] = .ok (.tuple ((L.map fun x => 2 * c - x).map .int)) := by
  have hc := notes_ok L
  have hc2 := notes_ok (L.map fun x => 2 * c - x)
  have e : lcGo (gN 3) bYes m_turned_line_e1 [some (.tuple (L.map .int)), some (.int c), none, none] (L.map PyData.int) = .ok ((L.map fun x => 2 * c - x).map PyData.int) := by
    rw [lcGo_all PyData.int (fun a => .int (2 * c - a)) L fun a _ => ⟨_, rfl, by simp [m_turned_line_e1]⟩, List.map_map]
    rfl
  simp [-List.map_map, d_turned_line, callD, m_turned_line, hc, hc2, h, hm, steps_ok, hs, e, hl]
def slowT (L : List Int) (t : Nat) : List Int := L.flatMap fun x => List.replicate t x
theorem rep_one (d : D) (t : Nat) : repD [d] (t : Int) = List.replicate t d := by
  unfold repD
  simp
theorem slow_len (t : Nat) : ∀ L : List Int, (slowT L t).length = L.length * t
  | [] => by simp [slowT]
  | x :: xs => by
    have ih := slow_len t xs
    unfold slowT at ih ⊢
    rw [List.flatMap_cons, List.length_append, ih, List.length_replicate, List.length_cons, Nat.succ_mul, Nat.add_comm]
theorem slowed_ok (L : List Int) (t : Nat) (h : okL L = true) (h1 : 1 ≤ t) (h8 : t ≤ 8) (hl : L.length ≤ 1000) : d_slowed [.tuple (L.map .int), .int t] = .ok (.tuple ((slowT L t).map .int)) := by
  obtain ⟨ρ', e, x, rfl⟩ := forD_inv (g := gN 3) (B := m_slowed_L1) (ds := L.map PyData.int) (ρ := [some (.tuple (L.map .int)), some (.int t), some (.tuple []), none])
    (fun k ρ => ∃ x, ρ = [some (.tuple (L.map .int)), some (.int t), some (.tuple ((slowT (L.take k) t).map .int)), x]) ⟨none, rfl⟩ (fun k d ρ hd i => by
      obtain ⟨x, rfl⟩ := i
      rw [List.getElem?_map] at hd
      obtain ⟨a, ha, rfl⟩ := Option.map_eq_some_iff.mp hd
      refine ⟨_, _, rfl, .inl ?_, some (.int a), rfl⟩
      obtain ⟨hk, hx⟩ := List.getElem?_eq_some_iff.mp ha
      have e1 : L.take (k + 1) = L.take k ++ [a] := by rw [List.take_succ, ha]; rfl
      have e2 : (slowT (L.take k) t).length ≤ 8000 := by
        rw [slow_len, List.length_take]
        have : min k L.length * t ≤ 1000 * 8 := Nat.mul_le_mul (by omega) h8
        omega
      have e3 : slowT (L.take (k + 1)) t = slowT (L.take k) t ++ List.replicate t a := by
        rw [e1]
        unfold slowT
        simp
      rw [e3]
      have hb : (slowT (L.take k) t).length + t ≤ 16777216 := by omega
      have t0 : (-1000000 : Int) ≤ t := by omega
      have t1 : (t : Int) ≤ 1000 := by omega
      simp [m_slowed_L1, rep_one, hb, t0, t1])
  rw [List.length_map, List.take_length] at e
  have ht1 : (1 : Int) ≤ t := by omega
  have ht8 : (t : Int) ≤ 8 := by omega
  simp [d_slowed, callD, m_slowed, notes_ok, h, number_int, ht1, ht8, e]
/-! ### the rows -/
def oD : Option Int → D
  | none => .none
  | some i => .int i
def rowD (r : List (Option Int)) : D := .tuple (r.map oD)
def rowK (A B : List Int) (gap k : Nat) : List (Option Int) := List.replicate (k * gap) none ++ (if k % 2 = 0 then A else B).map some
def rowsK (A B : List Int) (gap n : Nat) : List (List (Option Int)) := (List.range n).map (rowK A B gap)
theorem oD_some (A : List Int) : (A.map some).map oD = A.map .int := by
  rw [List.map_map] <;> rfl
theorem rowD_eq (A B : List Int) (gap k : Nat) : rowD (rowK A B gap k) = .tuple (List.replicate (k * gap) .none ++ (if k % 2 = 0 then A else B).map .int) := by
  unfold rowD rowK
  rw [List.map_append, oD_some, List.map_replicate]
  rfl
theorem none_lc (ρ : Env) (n : Nat) : lcGo (gN 7) bYes m_entries_e1 ρ (rangeL 0 n) = .ok (List.replicate n .none) := by
  rw [rangeL0, lcGo_all (fun i : Nat => PyData.int i) (fun _ => .none) _ fun k hk => ⟨_, rfl, rfl⟩]
  rw [List.map_const', List.length_range]
theorem imm_row (r : List (Option Int)) : immL (r.map oD) = true := by
  induction r with
  | nil => rfl
  | cons x xs ih => cases x <;> rw [List.map_cons, o_imL1, ih] <;> rfl
theorem imm_rows (r : List (List (Option Int))) : immL (r.map rowD) = true := by
  induction r with
  | nil => rfl
  | cons x xs ih => rw [List.map_cons, o_imL1, ih]; unfold rowD; rw [o_imT, imm_row] <;> rfl
theorem entries_ok (A B : List Int) (gap n : Nat) (hA : okL A = true) (hB : okL B = true) (h1 : 1 ≤ gap) (h6 : gap ≤ 60) (n1 : 1 ≤ n) (n6 : n ≤ 6) (lA : A.length ≤ 1000) (lB : B.length ≤ 1000) :
    d_entries [.tuple (A.map .int), .tuple (B.map .int), .int gap, .int n] = .ok (.tuple ((rowsK A B gap n).map rowD)) := by
  obtain ⟨ρ', e, x, y, rfl⟩ := forD_inv (g := gN 5) (B := m_entries_L1) (ds := rangeL 0 n) (ρ := [some (.tuple (A.map .int)), some (.tuple (B.map .int)), some (.int gap), some (.int n), some (.list []), none, none, none])
    (fun k ρ => ∃ x y, ρ = [some (.tuple (A.map .int)), some (.tuple (B.map .int)), some (.int gap), some (.int n), some (.list ((rowsK A B gap k).map rowD)), x, y, none]) ⟨none, none, rfl⟩ (fun k d ρ hd i => by
      obtain ⟨x, y, rfl⟩ := i
      obtain ⟨hk, rfl⟩ := rangeL_get hd
      refine ⟨_, _, rfl, .inl ?_, some (.int k), some (.tuple ((if k % 2 = 0 then A else B).map .int)), rfl⟩
      have hb : k < 16777216 := by omega
      have hm : k * gap ≤ 6 * 60 := Nat.mul_le_mul (by omega) h6
      have hr : rngD [.int ((k : Int) * gap)] = .ok (rangeL 0 (k * gap)) := by
        have := rng1 (b := k * gap) (by omega)
        rw [Int.natCast_mul] at this
        exact this
      have hz : (gap : Int) < 18446744073709551616 := by omega
      have hz0 : (-18446744073709551616 : Int) < gap := by omega
      have hq : k * gap < 16777216 := by omega
      have hw : ((k : Int) % 2 = 0) ↔ k % 2 = 0 := by omega
      have hla : k * gap + A.length ≤ 16777216 := by omega
      have hlb : k * gap + B.length ≤ 16777216 := by omega
      have hrow : rowsK A B gap (k + 1) = rowsK A B gap k ++ [rowK A B gap k] := by
        unfold rowsK
        rw [List.range_succ, List.map_append] <;> rfl
      rw [hrow, List.map_append, List.map_cons, List.map_nil, rowD_eq]
      have hlen : (rowsK A B gap k).length < 16777216 := by
        unfold rowsK
        simpa using hb
      have him : ∀ M : List Int, immL (List.replicate (k * gap) PyData.none ++ M.map .int) = true := by
        intro M
        have := imm_row (List.replicate (k * gap) none ++ M.map some)
        rw [List.map_append, oD_some, List.map_replicate] at this
        exact this
      by_cases h2 : k % 2 = 0 <;> simp [m_entries_L1, hr, hz, hz0, none_lc, hq, hw, h2, hla, hlb, hlen, him])
  rw [rangeL_len] at e
  have g1 : (1 : Int) ≤ gap := by omega
  have g6 : (gap : Int) ≤ 60 := by omega
  have m1 : (1 : Int) ≤ n := by omega
  have m6 : (n : Int) ≤ 6 := by omega
  simp [d_entries, callD, m_entries, notes_ok, hA, hB, number_int, g1, g6, m1, m6, rng1 (b := n) (by omega), e, imm_rows]
end Pd.Law
namespace Pd.Law
open PySem PySem.Spec PyProof.Rows L2 Pd
open Pd (D Env)
/-! ### chords -/
def colK (rows : List (List (Option Int))) (k : Nat) : List D := (rows.filter fun r => decide (k < r.length) && (r.getD k none).isSome).map fun r => oD (r.getD k none)
theorem ix_row {r : List (Option Int)} {k : Nat} (h : k < r.length) : ixD (rowD r) (.int k) = .ok (oD (r.getD k none)) := by
  unfold rowD
  rw [ixD_tup, atI_nat, List.getElem?_map, List.getElem?_eq_getElem h]
  simp [List.getD, h]
theorem len_row {r : List (Option Int)} : lenD [rowD r] = .ok (.int r.length) := by
  unfold rowD
  rw [o_lenT, List.length_map]
theorem is_oD (x : Option Int) : isD (oD x) .none = .ok (.bool (!x.isSome)) := by
  cases x <;> rfl
theorem imm_oD (x : Option Int) : imm (oD x) = true := by
  cases x <;> rfl
theorem col_imm (rows : List (List (Option Int))) (k : Nat) : immL (colK rows k) = true := by
  unfold colK
  generalize (rows.filter fun r => decide (k < r.length) && (r.getD k none).isSome) = l
  induction l with
  | nil => rfl
  | cons x xs ih => rw [List.map_cons, o_imL1, ih, imm_oD] <;> rfl
theorem max_ints (x : Int) (xs : List Int) : maxLD [.list ((x :: xs).map .int)] = .ok (.int (xs.foldl max x)) := by
  have hall : ∀ L : List Int, (L.map PyData.int).all (fun z => match z with | .none => false | _ => true) = true := fun L => by
    rw [List.all_eq_true]
    intro z hz
    obtain ⟨i, _, rfl⟩ := List.mem_map.mp hz
    rfl
  have hal : ∀ L M : List Int, (L.map PyData.int).all (fun a => (M.map PyData.int).all fun b => PySem.W.alike a b) = true := fun L M => by
    rw [List.all_eq_true]
    intro z hz
    rw [List.all_eq_true]
    intro y hy
    obtain ⟨i, _, rfl⟩ := List.mem_map.mp hz
    obtain ⟨j, _, rfl⟩ := List.mem_map.mp hy
    unfold PySem.W.alike
    rfl
  have ok : okCmp ((x :: xs).map PyData.int) = true := by
    unfold okCmp
    rw [shp_lI, hal]
    exact hall (x :: xs)
  refine (show maxLD [.list ((x :: xs).map .int)] = (if okCmp ((x :: xs).map PyData.int) = true then R.ok (PySem.W.maxD (.int x) (xs.map .int)) else .stuck) from rfl).trans ?_
  rw [if_pos ok, PySem.W.maxD_ints]
def totN (rows : List (List (Option Int))) : Nat := (rows.map List.length).foldl max 0
theorem fold_cast (L : List Nat) : ∀ x : Nat, (L.map fun n : Nat => (n : Int)).foldl max (x : Int) = ((L.foldl max x : Nat) : Int) := by
  induction L with
  | nil => intro x; rfl
  | cons a r ih =>
    intro x
    rw [List.map_cons, List.foldl_cons, List.foldl_cons, ← ih]
    congr 1
    omega
theorem fold_le (L : List Nat) (b : Nat) : ∀ x : Nat, x ≤ b → (∀ a ∈ L, a ≤ b) → L.foldl max x ≤ b := by
  induction L with
  | nil => intro x h _; exact h
  | cons a r ih =>
    intro x h g
    rw [List.foldl_cons]
    exact ih _ (Nat.max_le.mpr ⟨h, g a List.mem_cons_self⟩) fun c hc => g c (List.mem_cons_of_mem _ hc)
theorem tot_max {rows : List (List (Option Int))} (h : rows ≠ []) : maxLD [.list (rows.map fun r => PyData.int r.length)] = .ok (.int (totN rows : Nat)) := by
  cases rows with
  | nil => exact (h rfl).elim
  | cons r rs =>
    have := max_ints (r.length : Int) ((rs.map List.length).map fun n : Nat => (n : Int))
    rw [fold_cast] at this
    unfold totN
    show _ = R.ok (PyData.int (((r.length :: rs.map List.length).foldl max 0 : Nat)))
    rw [List.foldl_cons, Nat.zero_max]
    rw [List.map_cons, List.map_map, List.map_map] at this
    exact this
theorem tot_le {rows : List (List (Option Int))} {b : Nat} (h : ∀ r ∈ rows, r.length ≤ b) : totN rows ≤ b := fold_le _ _ _ (Nat.zero_le _) fun a ha => by
  obtain ⟨r, hr, rfl⟩ := List.mem_map.mp ha
  exact h r hr
theorem chords_ok (rows : List (List (Option Int))) (h0 : rows ≠ []) (hn : rows.length < 16777216) (hl : ∀ r ∈ rows, r.length ≤ 100000) :
    d_chords_in [.tuple (rows.map rowD)] = .ok (.tuple ((List.range (totN rows)).map fun k => .tuple (colK rows k))) := by
  have ht := tot_le hl
  have e1 : gxGo false (gN 5) bYes m_chords_in_e1 [some (.tuple (rows.map rowD)), none, none, none, none, none] (rows.map rowD) = .ok true := by
    rw [gx_all rowD (fun _ => true) rows fun r _ => ⟨_, rfl, by simp [m_chords_in_e1, rowD]⟩]
    simp
  have e2 : lcGo (gN 5) bYes m_chords_in_e2 [some (.tuple (rows.map rowD)), none, none, none, none, none] (rows.map rowD) = .ok (rows.map fun r => PyData.int r.length) :=
    lcGo_all rowD _ rows fun r _ => ⟨_, rfl, by simp [m_chords_in_e2, len_row]⟩
  obtain ⟨ρ', e, x, y, rfl⟩ := forD_inv (g := gN 3) (B := m_chords_in_L1) (ds := rangeL 0 (totN rows)) (ρ := [some (.tuple (rows.map rowD)), some (.int (totN rows : Nat)), some (.list []), none, none, none])
    (fun k ρ => ∃ x y, ρ = [some (.tuple (rows.map rowD)), some (.int (totN rows : Nat)), some (.list ((List.range k).map fun k => .tuple (colK rows k))), x, y, none]) ⟨none, none, rfl⟩ (fun k d ρ hd i => by
      obtain ⟨x, y, rfl⟩ := i
      obtain ⟨hk, rfl⟩ := rangeL_get hd
      refine ⟨_, _, rfl, .inl ?_, some (.int k), some (.list (colK rows k)), rfl⟩
      have hb : k < 16777216 := by omega
      have el : ∀ y : Option D, lcGo (gN 5) (bAnd (bBin ltD (eName 3) (eFun lenD (lCons (eName 5) lNil))) (bBin isNotD (eIx (eName 5) (eName 3)) (eC .none))) m_chords_in_e3
          [some (.tuple (rows.map rowD)), some (.int (totN rows : Nat)), some (.list ((List.range k).map fun k => .tuple (colK rows k))), some (.int k), y, none] (rows.map rowD) = .ok (colK rows k) := fun y =>
        lcGo_map rowD (fun r => decide (k < r.length) && (r.getD k none).isSome) (fun r => oD (r.getD k none)) rows fun r _ => ⟨_, rfl, by
          by_cases h : k < r.length
          · simp [len_row, h, ix_row h, is_oD]
          · simp [len_row, h], fun hp => by
          have h : k < r.length := by
            rw [Bool.and_eq_true] at hp
            exact of_decide_eq_true hp.1
          simp [m_chords_in_e3, ix_row h, imm_oD]⟩
      have hc : (colK rows k).length < 16777216 := by
        unfold colK
        rw [List.length_map]
        exact Nat.lt_of_le_of_lt (List.length_filter_le _ _) hn
      simp [m_chords_in_L1, el, hc, col_imm, hb, List.range_succ])
  rw [rangeL_len] at e
  have him : ∀ L : List Nat, immL (L.map fun k => PyData.tuple (colK rows k)) = true := fun L => by
    induction L with
    | nil => rfl
    | cons x xs ih => rw [List.map_cons, o_imL1, ih, o_imT, col_imm] <;> rfl
  simp [d_chords_in, callD, m_chords_in, h0, e1, e2, hn, tot_max h0, rng1 (b := totN rows) (by omega), e, him]
/-! ### stretti -/
def strOk (L G : List Int) (d s : Nat) : Bool := (List.range (L.length - d)).all fun k => decide ((L.getD k 0 + s - L.getD (d + k) 0) % 7 ∈ G)
def strIn (L G : List Int) (d n : Nat) : List D := ((List.range n).filter fun s => strOk L G d s).map fun s : Nat => .tuple [.int d, .int s]
def strOut (L G : List Int) (n : Nat) : List D := (List.range n).flatMap fun i => strIn L G (1 + i) 7
theorem strIn_len (L G : List Int) (d n : Nat) : (strIn L G d n).length ≤ n := by
  unfold strIn
  rw [List.length_map]
  exact Nat.le_trans (List.length_filter_le _ _) (by simp)
theorem strOut_len (L G : List Int) : ∀ n : Nat, (strOut L G n).length ≤ 7 * n
  | 0 => by simp [strOut]
  | n + 1 => by
    have ih := strOut_len L G n
    have h7 := strIn_len L G (1 + n) 7
    unfold strOut at ih ⊢
    rw [List.range_succ, List.flatMap_append, List.length_append]
    simp only [List.flatMap_cons, List.flatMap_nil, List.append_nil]
    omega
theorem strIn_succ (L G : List Int) (d n : Nat) : strIn L G d (n + 1) = strIn L G d n ++ if strOk L G d n = true then [.tuple [.int d, .int n]] else [] := by
  unfold strIn
  rw [List.range_succ, List.filter_append, List.map_append]
  by_cases h : strOk L G d n = true <;> simp [h]
theorem strOut_succ (L G : List Int) (n : Nat) : strOut L G (n + 1) = strOut L G n ++ strIn L G (1 + n) 7 := by
  unfold strOut
  rw [List.range_succ, List.flatMap_append]
  simp
theorem cut_from (L : List Int) (d : Nat) (h : d ≤ L.length) : cut (L.map PyData.int) (some (d : Int)) none = (L.drop d).map .int := by
  unfold cut
  rw [HT.sIx_nat, HT.sIx_none, List.length_map, Nat.min_eq_left h, ← List.map_drop, ← List.map_take]
  congr 1
  rw [List.take_of_length_le]
  rw [List.length_drop]
  exact Nat.le_refl _
theorem cut_to (L : List Int) (d : Nat) (h : d ≤ L.length) : cut (L.map PyData.int) none (some (d : Int)) = (L.take d).map .int := by
  unfold cut
  rw [HT.sIx_nat, HT.sIx_none, List.length_map, Nat.min_eq_left h, List.drop_zero, Nat.sub_zero, ← List.map_take]
theorem sl_tup (xs : List D) (lo hi : Option Int) : slD (.tuple xs) lo hi = .ok (.tuple (cut xs lo hi)) := rfl
theorem strL1_ok (L G : List Int) (d s : Nat) (F : List D) (a b : Option D) (h1 : 1 ≤ d) (hd : d < L.length) (hF : F.length < 16777216) (hl : L.length ≤ 1000) :
    m_stretti_L1 [some (.tuple (L.map .int)), some (.tuple (G.map .int)), some (.list F), some (.int d), some (.int s), a, b, none, none] =
      .nx [some (.tuple (L.map .int)), some (.tuple (G.map .int)), some (.list (F ++ if strOk L G d s = true then [.tuple [.int d, .int s]] else [])), some (.int d), some (.int s), some (.tuple ((L.drop d).map .int)), some (.list (((L.take (L.length - d)).map (· + (s : Int))).map .int)), none, none] := by
  have c1 := cut_from L d (by omega)
  have c2 := cut_to L (L.length - d) (by omega)
  rw [show ((L.length - d : Nat) : Int) = (L.length : Int) - d by omega] at c2
  have el : lcGo (gN 7) bYes m_stretti_e1 [some (.tuple (L.map .int)), some (.tuple (G.map .int)), some (.list F), some (.int d), some (.int s), some (.tuple ((L.drop d).map .int)), b, none, none] ((L.take (L.length - d)).map .int) = .ok (((L.take (L.length - d)).map (· + (s : Int))).map .int) := by
    rw [lcGo_all PyData.int (fun a => .int (a + s)) _ fun a _ => ⟨_, rfl, by simp [m_stretti_e1]⟩, List.map_map]
    rfl
  have eg : gxGo false (gN 8) bYes m_stretti_e2 [some (.tuple (L.map .int)), some (.tuple (G.map .int)), some (.list F), some (.int d), some (.int s), some (.tuple ((L.drop d).map .int)), some (.list (((L.take (L.length - d)).map (· + (s : Int))).map .int)), none, none] (rangeL 0 (L.length - d)) = .ok (strOk L G d s) := by
    rw [rangeL0]
    refine gx_all (fun i : Nat => PyData.int i) _ _ fun k hk => ⟨_, rfl, ?_⟩
    have hk := List.mem_range.mp hk
    have i1 := ix_lI (xs := (L.take (L.length - d)).map (· + (s : Int))) (k := k) (by simp; omega)
    have i2 := ix_tI (xs := L.drop d) (k := k) (by simp; omega)
    have v1 : ((L.take (L.length - d)).map (· + (s : Int))).getD k 0 = L.getD k 0 + s := by
      simp [List.getD, hk, show k < L.length by omega]
    have v2 : (L.drop d).getD k 0 = L.getD (d + k) 0 := by
      simp [List.getD]
    rw [v1] at i1
    rw [v2] at i2
    simp only [m_stretti_e2, q_bin, q_ix, q_name, q_get0, q_getS, q_c, z_ok, q_put0, q_putS, i1, i2, o_sub, o_mod]
    simp
  have hr : rngD [.int ((L.length : Int) - d)] = .ok (rangeL 0 (L.length - d)) := by
    have := rng1 (b := L.length - d) (by omega)
    rw [show ((L.length - d : Nat) : Int) = (L.length : Int) - d by omega] at this
    exact this
  have hx : L.length - d < 16777216 := by omega
  have hcast : ((L.length - d : Nat) : Int) = (L.length : Int) - d := by omega
  cases hs : strOk L G d s <;> simp [-List.map_map, -List.map_take, -List.map_drop, m_stretti_L1, sl_tup, c1, c2, el, eg, hs, hcast, hr, hx, hF]
theorem strL2_ok (L G : List Int) (d : Nat) (F : List D) (a b c : Option D) (h1 : 1 ≤ d) (hd : d < L.length) (hF : F.length + 7 < 16777216) (hl : L.length ≤ 1000) :
    ∃ x y z, m_stretti_L2 [some (.tuple (L.map .int)), some (.tuple (G.map .int)), some (.list F), some (.int d), a, b, c, none, none] =
      .nx [some (.tuple (L.map .int)), some (.tuple (G.map .int)), some (.list (F ++ strIn L G d 7)), some (.int d), x, y, z, none, none] := by
  obtain ⟨ρ', e, x, y, z, rfl⟩ := forD_inv (g := gN 4) (B := m_stretti_L1) (ds := rangeL 0 7) (ρ := [some (.tuple (L.map .int)), some (.tuple (G.map .int)), some (.list F), some (.int d), a, b, c, none, none])
    (fun k ρ => ∃ x y z, ρ = [some (.tuple (L.map .int)), some (.tuple (G.map .int)), some (.list (F ++ strIn L G d k)), some (.int d), x, y, z, none, none]) ⟨a, b, c, by simp [strIn]⟩ (fun k dd ρ hk i => by
      obtain ⟨x, y, z, rfl⟩ := i
      obtain ⟨hk, rfl⟩ := rangeL_get hk
      have hlen := strIn_len L G d k
      have st := strL1_ok L G d k (F ++ strIn L G d k) y z h1 hd (by rw [List.length_append]; omega) hl
      rw [List.append_assoc, ← strIn_succ] at st
      exact ⟨_, _, rfl, .inl (Eq.trans (by simp) st), _, _, _, rfl⟩)
  refine ⟨x, y, z, ?_⟩
  rw [rangeL_len] at e
  have h7 : rngD [.int 7] = .ok (rangeL 0 7) := rng1 (b := 7) (by omega)
  simp [m_stretti_L2, h7, e]
theorem strOut_imm (L G : List Int) (n : Nat) : immL (strOut L G n) = true := by
  have h : ∀ xs : List D, (∀ x ∈ xs, imm x = true) → immL xs = true := fun xs => by
    induction xs with
    | nil => intro _; rfl
    | cons x r ih => intro q; rw [o_imL1, q x List.mem_cons_self, ih fun y hy => q y (List.mem_cons_of_mem _ hy)] <;> rfl
  refine h _ fun x hx => ?_
  unfold strOut at hx
  obtain ⟨i, _, hx⟩ := List.mem_flatMap.mp hx
  unfold strIn at hx
  obtain ⟨s, _, rfl⟩ := List.mem_map.mp hx
  rfl
theorem stretti_ok (L G : List Int) (hL : okL L = true) (hG : okG G = true) (hl : L.length ≤ 1000) : d_stretti [.tuple (L.map .int), .tuple (G.map .int)] = .ok (.tuple (strOut L G (L.length - 1))) := by
  obtain ⟨ρ', e, w, x, y, z, rfl⟩ := forD_inv (g := gN 3) (B := m_stretti_L2) (ds := rangeL 1 (L.length - 1)) (ρ := [some (.tuple (L.map .int)), some (.tuple (G.map .int)), some (.list []), none, none, none, none, none, none])
    (fun k ρ => ∃ w x y z, ρ = [some (.tuple (L.map .int)), some (.tuple (G.map .int)), some (.list (strOut L G k)), w, x, y, z, none, none]) ⟨none, none, none, none, rfl⟩ (fun k dd ρ hk i => by
      obtain ⟨w, x, y, z, rfl⟩ := i
      obtain ⟨hk, rfl⟩ := rangeL_get hk
      have hlen := strOut_len L G k
      obtain ⟨x1, y1, z1, st⟩ := strL2_ok L G (1 + k) (strOut L G k) x y z (by omega) (by omega) (by omega) hl
      refine ⟨_, _, rfl, .inl ?_, some (.int ((1 + k : Nat) : Int)), x1, y1, z1, rfl⟩
      rw [strOut_succ]
      rw [show (1 : Int) + (k : Int) = ((1 + k : Nat) : Int) by omega]
      exact st)
  rw [rangeL_len] at e
  have hr : rngD [.int 1, .int (L.length : Int)] = .ok (rangeL 1 (L.length - 1)) := rng2 (a := 1) (b := L.length) (by omega) (by omega)
  simp [d_stretti, callD, m_stretti, notes_ok, hL, good_ok, hG, hr, e, strOut_imm]
end Pd.Law
namespace Pd.Law
open PySem PySem.Spec PyProof.Rows L2 Pd
open Pd (D Env)
/-! ### refusals -/
theorem catch_line {ρ : Env} : catch2D tb__law_refusal_BadLine (retD (eC (.str "line"))) tb__law_refusal_BadTask (retD (eC (.str "task"))) (.exc "BadLine" ρ) = .rt (.str "line") := by
  rfl
theorem catch_task {ρ : Env} : catch2D tb__law_refusal_BadLine (retD (eC (.str "line"))) tb__law_refusal_BadTask (retD (eC (.str "task"))) (.exc "BadTask" ρ) = .rt (.str "task") := by
  rfl
theorem ref0 {l v : D} {c : Str} (h : d_real_answer [l, v] = .exc c) : d__law_refusal [.int 0, l, v] = finD (RS.seq (catch2D tb__law_refusal_BadLine (retD (eC (.str "line"))) tb__law_refusal_BadTask (retD (eC (.str "task"))) (.exc c [some (.int 0), some l, some v])) (retD (eC (.str "none")))) := by
  simp [d__law_refusal, callD, m__law_refusal, h]
theorem ref1 {l v : D} {c : Str} (h : d_slowed [l, v] = .exc c) : d__law_refusal [.int 1, l, v] = finD (RS.seq (catch2D tb__law_refusal_BadLine (retD (eC (.str "line"))) tb__law_refusal_BadTask (retD (eC (.str "task"))) (.exc c [some (.int 1), some l, some v])) (retD (eC (.str "none")))) := by
  simp [d__law_refusal, callD, m__law_refusal, h]
theorem ref2 {l v : D} {c : Str} (h : d_stretti [l, v] = .exc c) : d__law_refusal [.int 2, l, v] = finD (RS.seq (catch2D tb__law_refusal_BadLine (retD (eC (.str "line"))) tb__law_refusal_BadTask (retD (eC (.str "task"))) (.exc c [some (.int 2), some l, some v])) (retD (eC (.str "none")))) := by
  simp [d__law_refusal, callD, m__law_refusal, h]
theorem ref3 {l v : D} {c : Str} (h : d_tonal_answer [l, .int 0, v] = .exc c) : d__law_refusal [.int 3, l, v] = finD (RS.seq (catch2D tb__law_refusal_BadLine (retD (eC (.str "line"))) tb__law_refusal_BadTask (retD (eC (.str "task"))) (.exc c [some (.int 3), some l, some v])) (retD (eC (.str "none")))) := by
  simp [d__law_refusal, callD, m__law_refusal, h]
theorem fin_line {ρ : Env} : finD (RS.seq (catch2D tb__law_refusal_BadLine (retD (eC (.str "line"))) tb__law_refusal_BadTask (retD (eC (.str "task"))) (.exc "BadLine" ρ)) (retD (eC (.str "none")))) = .ok (.str "line") := by
  rw [catch_line] <;> rfl
theorem fin_task {ρ : Env} : finD (RS.seq (catch2D tb__law_refusal_BadLine (retD (eC (.str "line"))) tb__law_refusal_BadTask (retD (eC (.str "task"))) (.exc "BadTask" ρ)) (retD (eC (.str "none")))) = .ok (.str "task") := by
  rw [catch_task] <;> rfl
/-- the four lines that are none -/
def badLine : Nat → D
  | 0 => .tuple []
  | 1 => .list [.int 0]
  | 2 => .tuple [.int 200]
  | _ => .none
theorem bad_notes (j : Nat) : d_check_notes [badLine j] = .exc "BadLine" := by
  match j with
  | 0 => exact (notes_ok []).trans (if_neg (by decide))
  | 1 => simp [badLine, d_check_notes, callD, m_check_notes]
  | 2 => exact (notes_ok [200]).trans (if_neg (by decide))
  | j + 3 => simp [badLine, d_check_notes, callD, m_check_notes]
def rightV (c : Nat) : D := match c with
  | 0 => .int 0
  | 1 => .int 1
  | 2 => .tuple [.int 0]
  | _ => .int 0
theorem refuse_line (c j : Nat) (hc : c < 4) : d__law_refusal [.int c, badLine j, rightV c] = .ok (.str "line") := by
  have hb := bad_notes j
  match c, hc with
  | 0, _ => exact (ref0 (c := "BadLine") (by simp [d_real_answer, callD, m_real_answer, hb])).trans fin_line
  | 1, _ => exact (ref1 (c := "BadLine") (by simp [d_slowed, callD, m_slowed, hb])).trans fin_line
  | 2, _ => exact (ref2 (c := "BadLine") (by simp [d_stretti, callD, m_stretti, hb])).trans fin_line
  | 3, _ => exact (ref3 (c := "BadLine") (by simp [d_tonal_answer, callD, m_tonal_answer, hb])).trans fin_line
def wrongV (n : Nat) (c j : Nat) : D := match c, j with
  | 0, 0 => .int 100
  | 0, 1 => .none
  | 0, _ => .bool true
  | 1, 0 => .int 0
  | 1, 1 => .int 9
  | 1, _ => .none
  | 2, 0 => .list [.int 0]
  | 2, 1 => .tuple [.int 7]
  | 2, _ => .tuple [.int 1, .int 1]
  | _, 0 => .int ((n : Int) + 1)
  | _, 1 => .int (-1)
  | _, _ => .none
theorem steps_none : d_check_steps [.none] = .exc "BadTask" := by
  simp [d_check_steps, callD, m_check_steps, number_none]
theorem steps_bool (b : Bool) : d_check_steps [.bool b] = .exc "BadTask" := by
  simp [d_check_steps, callD, m_check_steps, number_bool]
theorem good_list : d_check_good [.list [.int 0]] = .exc "BadTask" := by
  simp [d_check_good, callD, m_check_good]
theorem refuse_task (L : List Int) (h : okL L = true) (c j : Nat) (hc : c < 4) (hj : j < 3) : d__law_refusal [.int c, .tuple (L.map .int), wrongV L.length c j] = .ok (.str "task") := by
  have hn := notes_ok L
  rw [if_pos h] at hn
  have s0 : d_check_steps [.int 0] = .ok .none := (steps_ok 0).trans (if_pos (by decide))
  have s100 : d_check_steps [.int 100] = .exc "BadTask" := (steps_ok 100).trans (if_neg (by decide))
  have g7 : d_check_good [.tuple [.int 7]] = .exc "BadTask" := (good_ok [7]).trans (if_neg (by decide))
  have g11 : d_check_good [.tuple [.int 1, .int 1]] = .exc "BadTask" := (good_ok [1, 1]).trans (if_neg (by decide))
  match c, hc, j, hj with
  | 0, _, 0, _ => exact (ref0 (c := "BadTask") (by simp [wrongV, d_real_answer, callD, m_real_answer, hn, s100])).trans fin_task
  | 0, _, 1, _ => exact (ref0 (c := "BadTask") (by simp [wrongV, d_real_answer, callD, m_real_answer, hn, steps_none])).trans fin_task
  | 0, _, 2, _ => exact (ref0 (c := "BadTask") (by simp [wrongV, d_real_answer, callD, m_real_answer, hn, steps_bool])).trans fin_task
  | 1, _, 0, _ => exact (ref1 (c := "BadTask") (by simp [wrongV, d_slowed, callD, m_slowed, hn, number_int])).trans fin_task
  | 1, _, 1, _ => exact (ref1 (c := "BadTask") (by simp [wrongV, d_slowed, callD, m_slowed, hn, number_int])).trans fin_task
  | 1, _, 2, _ => exact (ref1 (c := "BadTask") (by simp [wrongV, d_slowed, callD, m_slowed, hn, number_none])).trans fin_task
  | 2, _, 0, _ => exact (ref2 (c := "BadTask") (by simp [wrongV, d_stretti, callD, m_stretti, hn, good_list])).trans fin_task
  | 2, _, 1, _ => exact (ref2 (c := "BadTask") (by simp [wrongV, d_stretti, callD, m_stretti, hn, g7])).trans fin_task
  | 2, _, 2, _ => exact (ref2 (c := "BadTask") (by simp [wrongV, d_stretti, callD, m_stretti, hn, g11])).trans fin_task
  | 3, _, 0, _ =>
    have hx : ¬ (L.length : Int) + 1 ≤ L.length := by omega
    exact (ref3 (c := "BadTask") (by simp [wrongV, d_tonal_answer, callD, m_tonal_answer, hn, s0, number_int, hx])).trans fin_task
  | 3, _, 1, _ => exact (ref3 (c := "BadTask") (by simp [wrongV, d_tonal_answer, callD, m_tonal_answer, hn, s0, number_int])).trans fin_task
  | 3, _, 2, _ => exact (ref3 (c := "BadTask") (by simp [wrongV, d_tonal_answer, callD, m_tonal_answer, hn, s0, number_none])).trans fin_task
/-! ### the draws -/
theorem cell_ok (ns : List Int) (d : D) (h : d = .list (ns.map .int) ∨ d = .dict [(.none, .tuple (ns.map .int))]) : ∃ c : Int, d__law_cell [d, .int 0] = .ok (.int c) := by
  rcases h with rfl | rfl
  · cases ns with
    | nil => exact ⟨0, by simp [d__law_cell, callD, m__law_cell]⟩
    | cons x xs =>
      have i0 : ixD (.list ((x :: xs).map .int)) (.int 0) = .ok (.int x) := by
        have := ix_lI (xs := x :: xs) (k := 0) (by simp)
        simpa using this
      have hp : (0 : Int) < ((x :: xs).map PyData.int).length := by simp
      refine ⟨x, ?_⟩
      simp only [List.map_cons] at i0 hp ⊢
      simp [d__law_cell, callD, m__law_cell, i0]
  · cases ns with
    | nil => exact ⟨0, by simp [d__law_cell, callD, m__law_cell]⟩
    | cons x xs =>
      have i0 : ixD (.list ((x :: xs).map .int)) (.int 0) = .ok (.int x) := by
        have := ix_lI (xs := x :: xs) (k := 0) (by simp)
        simpa using this
      have i0 : ixD (.dict [(.none, .tuple ((x :: xs).map .int))]) (.int 0) = .ok (.int x) := (show ixD (.dict [(.none, .tuple ((x :: xs).map .int))]) (.int 0) = ixD (.list ((x :: xs).map .int)) (.int 0) from rfl).trans i0
      refine ⟨x, ?_⟩
      simp only [List.map_cons] at i0 ⊢
      simp [d__law_cell, callD, m__law_cell, i0]
theorem draws_ok (c : Int) : ∃ n : List Int, n.length = 50 ∧ d__law_draws [.int c, .int 50] = .ok (.list (n.map .int)) := by
  obtain ⟨ρ', e, n, r, x, y, hn, rfl⟩ := forD_inv (g := gN 4) (B := m__law_draws_L1) (ds := rangeL 0 50) (ρ := [some (.int c), some (.int 50), some (.list []), some (.int c), none, none])
    (fun k ρ => ∃ (n : List Int) (r : Int) (x y : Option D), n.length = k ∧ ρ = [some (.int c), some (.int 50), some (.list (n.map .int)), some (.int r), x, y]) ⟨[], c, none, none, rfl, rfl⟩ (fun k d ρ hd i => by
      obtain ⟨n, r, x, y, hn, rfl⟩ := i
      obtain ⟨hk, rfl⟩ := rangeL_get hd
      have hb : n.length < 16777216 := by omega
      generalize hm : (c * 48271 + (k : Int) * 69621 + 1) % 2147483647 = m
      have m0 : (-18446744073709551616 : Int) < m := by omega
      have m1 : m < 18446744073709551616 := by omega
      by_cases h : (10 : Int) ^ 18 ≤ c
      · refine ⟨_, _, rfl, .inl ?_, n ++ [r % 1009], r / 1009, some (.int k), some (.int m), by simp [hn], rfl⟩
        have h' : (1000000000000000000 : Int) ≤ c := h
        simp [m__law_draws_L1, hm, h', hb]
      · refine ⟨_, _, rfl, .inl ?_, n ++ [(m * m + m * 40692) % 2147483399 / 7], r, some (.int k), some (.int m), by simp [hn], rfl⟩
        have h' : ¬ (1000000000000000000 : Int) ≤ c := h
        simp [m__law_draws_L1, hm, h', hb, m0, m1])
  rw [rangeL_len] at hn
  have hr : rngD [.int 50] = .ok (rangeL 0 50) := rng1 (b := 50) (by omega)
  exact ⟨n, hn, by simp [d__law_draws, callD, m__law_draws, hr, e]⟩
end Pd.Law
namespace Pd.Law
open PySem PySem.Spec PyProof.Rows L2 Pd
open Pd (D Env)
theorem st0 {a1 a2 a3 a4 a5 a6 a7 a8 a9 a10 a11 a12 a13 a14 a15 a16 a17 a18 a19 a20 a21 a22 a23 a24 a25 a26 a27 a28 a29 a30 a31 : Option D} {d : D} {n : List Int} {c : Int} (hc : d__law_cell [d, .int 0] = .ok (.int c)) (hd : d__law_draws [.int c, .int 50] = .ok (.list (n.map .int))) : (setD 1 (eCall d__law_draws (lCons (eCall d__law_cell (lCons (eName 0) (lCons (eC (.int 0)) lNil))) (lCons (eC (.int 50)) lNil)))) [some (d), a1, a2, a3, a4, a5, a6, a7, a8, a9, a10, a11, a12, a13, a14, a15, a16, a17, a18, a19, a20, a21, a22, a23, a24, a25, a26, a27, a28, a29, a30, a31] = .nx [some (d), some (.list (n.map .int)), a2, a3, a4, a5, a6, a7, a8, a9, a10, a11, a12, a13, a14, a15, a16, a17, a18, a19, a20, a21, a22, a23, a24, a25, a26, a27, a28, a29, a30, a31] := by
  simp [hc, hd]
theorem st1 {a0 a2 a3 a4 a5 a6 a7 a8 a9 a10 a11 a12 a13 a14 a15 a16 a17 a18 a19 a20 a21 a22 a23 a24 a25 a26 a27 a28 a29 a30 a31 : Option D} {v : Nat → Int} {n : List Int} (ix : ∀ k : Nat, k < 50 → ixD (.list (n.map .int)) (.int (k : Int)) = .ok (.int (v k))) {a : Nat} (ha : v 0 % 7 + 1 = (a : Int)) (h7 : a ≤ 7) : (setD 2 (eFun tupleD (lCons (eLc (eRng (lCons (eBin addD (eBin modD (eIx (eName 1) (eC (.int 0))) (eC (.int 7))) (eC (.int 1))) lNil)) (gN 28) bYes m_law_e1 [28]) lNil))) [a0, some (.list (n.map .int)), a2, a3, a4, a5, a6, a7, a8, a9, a10, a11, a12, a13, a14, a15, a16, a17, a18, a19, a20, a21, a22, a23, a24, a25, a26, a27, a28, a29, a30, a31] = .nx [a0, some (.list (n.map .int)), some (.tuple (((List.range a).map fun k => v (1 + k) % 12 - 3).map .int)), a3, a4, a5, a6, a7, a8, a9, a10, a11, a12, a13, a14, a15, a16, a17, a18, a19, a20, a21, a22, a23, a24, a25, a26, a27, a28, a29, a30, a31] := by
  have hr : rngD [.int (v 0 % 7 + 1)] = .ok (rangeL 0 a) := by rw [ha]; exact rng1 (by omega)
  have i0 : ixD (.list (n.map .int)) (.int 0) = .ok (.int (v 0)) := ix 0 (by decide)
  have e : lcGo (gN 28) bYes m_law_e1 [a0, some (.list (n.map .int)), a2, a3, a4, a5, a6, a7, a8, a9, a10, a11, a12, a13, a14, a15, a16, a17, a18, a19, a20, a21, a22, a23, a24, a25, a26, a27, none, a29, a30, a31] (rangeL 0 a) = .ok (((List.range a).map fun k => v (1 + k) % 12 - 3).map .int) := by
    rw [rangeL0, lcGo_all (fun i : Nat => PyData.int i) (fun k => .int (v (1 + k) % 12 - 3)) _ fun k hk => ⟨_, rfl, ?_⟩, List.map_map]
    · rfl
    · have hk := List.mem_range.mp hk
      have ik : ixD (.list (n.map .int)) (.int (1 + (k : Int))) = .ok (.int (v (1 + k))) := ix (1 + k) (by omega)
      simp [m_law_e1, ik]
  have hb : a < 16777216 := by omega
  simp [-List.map_map, i0, hr, e, hb]
theorem st2 {a0 a2 a3 a4 a5 a6 a7 a8 a9 a10 a11 a12 a13 a14 a15 a16 a17 a18 a19 a20 a21 a22 a23 a24 a25 a26 a27 a28 a29 a30 a31 : Option D} {v : Nat → Int} {n : List Int} (ix : ∀ k : Nat, k < 50 → ixD (.list (n.map .int)) (.int (k : Int)) = .ok (.int (v k))) {a : Nat} (ha : v 8 % 7 + 1 = (a : Int)) (h7 : a ≤ 7) : (setD 3 (eFun tupleD (lCons (eLc (eRng (lCons (eBin addD (eBin modD (eIx (eName 1) (eC (.int 8))) (eC (.int 7))) (eC (.int 1))) lNil)) (gN 28) bYes m_law_e2 [28]) lNil))) [a0, some (.list (n.map .int)), a2, a3, a4, a5, a6, a7, a8, a9, a10, a11, a12, a13, a14, a15, a16, a17, a18, a19, a20, a21, a22, a23, a24, a25, a26, a27, a28, a29, a30, a31] = .nx [a0, some (.list (n.map .int)), a2, some (.tuple (((List.range a).map fun k => v (9 + k) % 12 + 1).map .int)), a4, a5, a6, a7, a8, a9, a10, a11, a12, a13, a14, a15, a16, a17, a18, a19, a20, a21, a22, a23, a24, a25, a26, a27, a28, a29, a30, a31] := by
  have hr : rngD [.int (v 8 % 7 + 1)] = .ok (rangeL 0 a) := by rw [ha]; exact rng1 (by omega)
  have i0 : ixD (.list (n.map .int)) (.int 8) = .ok (.int (v 8)) := ix 8 (by decide)
  have e : lcGo (gN 28) bYes m_law_e2 [a0, some (.list (n.map .int)), a2, a3, a4, a5, a6, a7, a8, a9, a10, a11, a12, a13, a14, a15, a16, a17, a18, a19, a20, a21, a22, a23, a24, a25, a26, a27, none, a29, a30, a31] (rangeL 0 a) = .ok (((List.range a).map fun k => v (9 + k) % 12 + 1).map .int) := by
    rw [rangeL0, lcGo_all (fun i : Nat => PyData.int i) (fun k => .int (v (9 + k) % 12 + 1)) _ fun k hk => ⟨_, rfl, ?_⟩, List.map_map]
    · rfl
    · have hk := List.mem_range.mp hk
      have ik : ixD (.list (n.map .int)) (.int (9 + (k : Int))) = .ok (.int (v (9 + k))) := ix (9 + k) (by omega)
      simp [m_law_e2, ik]
  have hb : a < 16777216 := by omega
  simp [-List.map_map, i0, hr, e, hb]
theorem st3 {a0 a3 a4 a5 a6 a7 a8 a9 a10 a11 a12 a13 a14 a15 a16 a17 a18 a19 a20 a21 a22 a23 a24 a25 a26 a27 a28 a29 a30 a31 : Option D} {v : Nat → Int} {n : List Int} (ix : ∀ k : Nat, k < 50 → ixD (.list (n.map .int)) (.int (k : Int)) = .ok (.int (v k))) {L : List Int} : (setG (gTupD (gConsD (gN 4) (gConsD (gN 5) (gConsD (gN 6) gNilD)))) (eTup (lCons (eBin subD (eBin modD (eIx (eName 1) (eC (.int 16))) (eC (.int 21))) (eC (.int 10))) (lCons (eBin subD (eBin modD (eIx (eName 1) (eC (.int 17))) (eC (.int 15))) (eC (.int 7))) (lCons (eBin modD (eIx (eName 1) (eC (.int 18))) (eBin addD (eFun lenD (lCons (eName 2) lNil)) (eC (.int 1)))) lNil))))) [a0, some (.list (n.map .int)), some (.tuple (L.map .int)), a3, a4, a5, a6, a7, a8, a9, a10, a11, a12, a13, a14, a15, a16, a17, a18, a19, a20, a21, a22, a23, a24, a25, a26, a27, a28, a29, a30, a31] = .nx [a0, some (.list (n.map .int)), some (.tuple (L.map .int)), a3, some (.int (v 16 % 21 - 10)), some (.int (v 17 % 15 - 7)), some (.int (v 18 % ((L.length : Int) + 1))), a7, a8, a9, a10, a11, a12, a13, a14, a15, a16, a17, a18, a19, a20, a21, a22, a23, a24, a25, a26, a27, a28, a29, a30, a31] := by
  have i16 : ixD (.list (n.map .int)) (.int 16) = .ok (.int (v 16)) := ix 16 (by decide)
  have i17 : ixD (.list (n.map .int)) (.int 17) = .ok (.int (v 17)) := ix 17 (by decide)
  have i18 : ixD (.list (n.map .int)) (.int 18) = .ok (.int (v 18)) := ix 18 (by decide)
  have hp : (0 : Int) < (L.length : Int) + 1 := by omega
  simp [setG, gTupD, gConsD, gNilD, i16, i17, i18, hp]
theorem st4 {a0 a1 a3 a5 a6 a7 a8 a9 a10 a11 a12 a13 a14 a15 a16 a17 a18 a19 a20 a21 a22 a23 a24 a25 a26 a27 a28 a29 a30 a31 : Option D} {L : List Int} {s : Int} (h : okL L = true) (hs : mag s ≤ 99) (hl : L.length ≤ 1000) (hm : okL (L.map (· + s)) = true) : (ifD (bBin neD (eCall d_real_answer (lCons (eName 2) (lCons (eName 4) lNil))) (eFun tupleD (lCons (eLc (eIt (eName 2)) (gN 29) bYes m_law_e3 [29]) lNil))) (retD (eC (.bool false))) nextD) [a0, a1, some (.tuple (L.map .int)), a3, some (.int s), a5, a6, a7, a8, a9, a10, a11, a12, a13, a14, a15, a16, a17, a18, a19, a20, a21, a22, a23, a24, a25, a26, a27, a28, a29, a30, a31] = .nx [a0, a1, some (.tuple (L.map .int)), a3, some (.int s), a5, a6, a7, a8, a9, a10, a11, a12, a13, a14, a15, a16, a17, a18, a19, a20, a21, a22, a23, a24, a25, a26, a27, a28, a29, a30, a31] := by
  have e : lcGo (gN 29) bYes m_law_e3 [a0, a1, some (.tuple (L.map .int)), a3, some (.int s), a5, a6, a7, a8, a9, a10, a11, a12, a13, a14, a15, a16, a17, a18, a19, a20, a21, a22, a23, a24, a25, a26, a27, a28, none, a30, a31] (L.map PyData.int) = .ok ((L.map (· + s)).map PyData.int) := by
    rw [lcGo_all PyData.int (fun a => .int (a + s)) L fun a _ => ⟨_, rfl, by simp [m_law_e3]⟩, List.map_map]
    rfl
  have hb : L.length < 16777216 := by omega
  have ne := neD_same (sh_tI (L := L.map (· + s)))
  simp [-List.map_map, real_ok L s h hs hb hm, e, hb, ne]
theorem st5 {a0 a1 a2 a3 a4 a5 a6 a7 a8 a9 a10 a11 a12 a13 a14 a15 a16 a17 a18 a19 a20 a21 a22 a23 a24 a25 a26 a27 a28 a29 a30 a31 : Option D}  : (setD 7 (eLst lNil)) [a0, a1, a2, a3, a4, a5, a6, a7, a8, a9, a10, a11, a12, a13, a14, a15, a16, a17, a18, a19, a20, a21, a22, a23, a24, a25, a26, a27, a28, a29, a30, a31] = .nx [a0, a1, a2, a3, a4, a5, a6, some (.list []), a8, a9, a10, a11, a12, a13, a14, a15, a16, a17, a18, a19, a20, a21, a22, a23, a24, a25, a26, a27, a28, a29, a30, a31] := by
  simp
theorem st6 {a0 a1 a3 a4 a8 a9 a10 a11 a12 a13 a14 a15 a16 a17 a18 a19 a20 a21 a22 a23 a24 a25 a26 a27 a28 a29 a30 a31 : Option D} {L : List Int} {g h : Int} (hl : L.length ≤ 1000) : ∃ x y, (forS (eRng (lCons (eFun lenD (lCons (eName 2) lNil)) lNil)) (gN 8) m_law_L1) [a0, a1, some (.tuple (L.map .int)), a3, a4, some (.int g), some (.int h), some (.list []), a8, a9, a10, a11, a12, a13, a14, a15, a16, a17, a18, a19, a20, a21, a22, a23, a24, a25, a26, a27, a28, a29, a30, a31] = .nx [a0, a1, some (.tuple (L.map .int)), a3, a4, some (.int g), some (.int h), some (.list ((tonal L g h).map .int)), x, y, a10, a11, a12, a13, a14, a15, a16, a17, a18, a19, a20, a21, a22, a23, a24, a25, a26, a27, a28, a29, a30, a31] := by
  obtain ⟨ρ', e, x, y, rfl⟩ := forD_inv (g := gN 8) (B := m_law_L1) (ds := rangeL 0 L.length) (ρ := [a0, a1, some (.tuple (L.map .int)), a3, a4, some (.int g), some (.int h), some (.list []), a8, a9, a10, a11, a12, a13, a14, a15, a16, a17, a18, a19, a20, a21, a22, a23, a24, a25, a26, a27, a28, a29, a30, a31])
    (fun k ρ => ∃ x y, ρ = [a0, a1, some (.tuple (L.map .int)), a3, a4, some (.int g), some (.int h), some (.list (((List.range k).map (tonT L g h)).map .int)), x, y, a10, a11, a12, a13, a14, a15, a16, a17, a18, a19, a20, a21, a22, a23, a24, a25, a26, a27, a28, a29, a30, a31]) ⟨a8, a9, rfl⟩ (fun k d ρ hd i => by
      obtain ⟨x, y, rfl⟩ := i
      obtain ⟨hk, rfl⟩ := rangeL_get hd
      have hb : k < 16777216 := by omega
      have h70 : ((L.getD k 0 - g + 70) % 7 = 4) ↔ ((L.getD k 0 - g) % 7 = 4) := by omega
      by_cases h2 : (L.getD k 0 - g) % 7 = 4
      · refine ⟨_, _, rfl, .inl ?_, some (.int k), some (.bool (decide ((k : Int) < h))), rfl⟩
        have h3 := h70.mpr h2
        by_cases h1 : (k : Int) < h <;> simp only [List.range_succ, List.map_append, List.map_cons, List.map_nil, tonT, h2, and_true] <;> simp [-List.map_map, -List.getD_eq_getElem?_getD, m_law_L1, ix_tI hk, hb, h1, h2, h3, tonT]
      · refine ⟨_, _, rfl, .inl ?_, some (.int k), some (.bool false), rfl⟩
        have h3 : ¬ (L.getD k 0 - g + 70) % 7 = 4 := fun z => h2 (h70.mp z)
        simp only [List.range_succ, List.map_append, List.map_cons, List.map_nil, tonT, h2, and_false]
        simp [-List.map_map, -List.getD_eq_getElem?_getD, m_law_L1, ix_tI hk, hb, h2, h3, tonT])
  rw [rangeL_len] at e
  refine ⟨x, y, ?_⟩
  have hr := rng1 (b := L.length) (by omega)
  simp [-List.map_map, hr, e, tonal]
theorem st7 {a0 a1 a3 a4 a8 a9 a10 a11 a12 a13 a14 a15 a16 a17 a18 a19 a20 a21 a22 a23 a24 a25 a26 a27 a28 a29 a30 a31 : Option D} {L : List Int} {g h : Int} (hL : okL L = true) (hg : mag g ≤ 99) (h0 : 0 ≤ h) (h1 : h ≤ L.length) (hl : L.length < 16777216) (hm : okL (tonal L g h) = true) : (ifD (bBin neD (eCall d_tonal_answer (lCons (eName 2) (lCons (eName 5) (lCons (eName 6) lNil)))) (eFun tupleD (lCons (eName 7) lNil))) (retD (eC (.bool false))) nextD) [a0, a1, some (.tuple (L.map .int)), a3, a4, some (.int g), some (.int h), some (.list ((tonal L g h).map .int)), a8, a9, a10, a11, a12, a13, a14, a15, a16, a17, a18, a19, a20, a21, a22, a23, a24, a25, a26, a27, a28, a29, a30, a31] = .nx [a0, a1, some (.tuple (L.map .int)), a3, a4, some (.int g), some (.int h), some (.list ((tonal L g h).map .int)), a8, a9, a10, a11, a12, a13, a14, a15, a16, a17, a18, a19, a20, a21, a22, a23, a24, a25, a26, a27, a28, a29, a30, a31] := by
  have ne := neD_same (sh_tI (L := tonal L g h))
  simp [-List.map_map, tonal_ok L g h hL hg h0 h1 hl hm, ne]
theorem st8 {a0 a2 a3 a4 a5 a6 a7 a8 a9 a10 a11 a12 a13 a14 a15 a16 a17 a18 a19 a20 a21 a22 a23 a24 a25 a26 a27 a28 a29 a30 a31 : Option D} {v : Nat → Int} {n : List Int} (ix : ∀ k : Nat, k < 50 → ixD (.list (n.map .int)) (.int (k : Int)) = .ok (.int (v k))) : (setG (gTupD (gConsD (gN 10) (gConsD (gN 11) gNilD))) (eTup (lCons (eBin addD (eBin modD (eIx (eName 1) (eC (.int 19))) (eC (.int 5))) (eC (.int 1))) (lCons (eBin addD (eBin modD (eIx (eName 1) (eC (.int 20))) (eC (.int 4))) (eC (.int 1))) lNil)))) [a0, some (.list (n.map .int)), a2, a3, a4, a5, a6, a7, a8, a9, a10, a11, a12, a13, a14, a15, a16, a17, a18, a19, a20, a21, a22, a23, a24, a25, a26, a27, a28, a29, a30, a31] = .nx [a0, some (.list (n.map .int)), a2, a3, a4, a5, a6, a7, a8, a9, some (.int (v 19 % 5 + 1)), some (.int (v 20 % 4 + 1)), a12, a13, a14, a15, a16, a17, a18, a19, a20, a21, a22, a23, a24, a25, a26, a27, a28, a29, a30, a31] := by
  have i19 : ixD (.list (n.map .int)) (.int 19) = .ok (.int (v 19)) := ix 19 (by decide)
  have i20 : ixD (.list (n.map .int)) (.int 20) = .ok (.int (v 20)) := ix 20 (by decide)
  simp [setG, gTupD, gConsD, gNilD, i19, i20]
theorem st9 {a0 a1 a4 a5 a6 a7 a8 a9 a12 a13 a14 a15 a16 a17 a18 a19 a20 a21 a22 a23 a24 a25 a26 a27 a28 a29 a30 a31 : Option D} {L M : List Int} {gp vo : Nat} (hg : gp ≤ 60) (hv : vo ≤ 6) (hl : L.length ≤ 1000) (hm : M.length ≤ 1000) : (setD 12 (eLc (eRng (lCons (eName 11) lNil)) (gN 28) bYes m_law_e4 [28])) [a0, a1, some (.tuple (L.map .int)), some (.tuple (M.map .int)), a4, a5, a6, a7, a8, a9, some (.int (gp : Int)), some (.int (vo : Int)), a12, a13, a14, a15, a16, a17, a18, a19, a20, a21, a22, a23, a24, a25, a26, a27, a28, a29, a30, a31] = .nx [a0, a1, some (.tuple (L.map .int)), some (.tuple (M.map .int)), a4, a5, a6, a7, a8, a9, some (.int (gp : Int)), some (.int (vo : Int)), some (.list ((rowsK L M gp vo).map rowD)), a13, a14, a15, a16, a17, a18, a19, a20, a21, a22, a23, a24, a25, a26, a27, a28, a29, a30, a31] := by
  have e : lcGo (gN 28) bYes m_law_e4 [a0, a1, some (.tuple (L.map .int)), some (.tuple (M.map .int)), a4, a5, a6, a7, a8, a9, some (.int (gp : Int)), some (.int (vo : Int)), a12, a13, a14, a15, a16, a17, a18, a19, a20, a21, a22, a23, a24, a25, a26, a27, none, a29, a30, a31] (rangeL 0 vo) = .ok ((rowsK L M gp vo).map rowD) := by
    unfold rowsK
    rw [rangeL0, lcGo_all (fun i : Nat => PyData.int i) (fun k => rowD (rowK L M gp k)) _ fun k hk => ⟨_, rfl, ?_⟩, List.map_map]
    · rfl
    · have hk := List.mem_range.mp hk
      have hm1 : k * gp ≤ 6 * 60 := Nat.mul_le_mul (by omega) hg
      have hz : (gp : Int) < 18446744073709551616 := by omega
      have hz0 : (-18446744073709551616 : Int) < gp := by omega
      have hq0 : (-1000000 : Int) ≤ (k : Int) * gp := by
        have : (0 : Int) ≤ (k : Int) * gp := Int.mul_nonneg (by omega) (by omega)
        omega
      have hq1 : (k : Int) * gp ≤ 1000 := by
        have : ((k * gp : Nat) : Int) ≤ 1000 := by omega
        rwa [Int.natCast_mul] at this
      have hrep : repD [.none] ((k : Int) * gp) = List.replicate (k * gp) .none := by
        have := rep_one .none (k * gp)
        rwa [Int.natCast_mul] at this
      have hw : ((k : Int) % 2 = 0) ↔ k % 2 = 0 := by omega
      have hla : k * gp + L.length ≤ 16777216 := by omega
      have hlb : k * gp + M.length ≤ 16777216 := by omega
      have him : ∀ Z : List Int, immL (List.replicate (k * gp) PyData.none ++ Z.map .int) = true := by
        intro Z
        have := imm_row (List.replicate (k * gp) none ++ Z.map some)
        rw [List.map_append, oD_some, List.map_replicate] at this
        exact this
      rw [rowD_eq]
      by_cases h2 : k % 2 = 0 <;> simp [m_law_e4, hz, hz0, hq0, hq1, hrep, hw, h2, hla, hlb, him]
  have hr := rng1 (b := vo) (by omega)
  have hb : (rowsK L M gp vo).length < 16777216 := by
    unfold rowsK
    simp
    omega
  simp [-List.map_map, hr, e, hb]
theorem st10 {a0 a1 a4 a5 a6 a7 a8 a9 a13 a14 a15 a16 a17 a18 a19 a20 a21 a22 a23 a24 a25 a26 a27 a28 a29 a30 a31 : Option D} {L M : List Int} {gp vo : Nat} (hA : okL L = true) (hB : okL M = true) (h1 : 1 ≤ gp) (h6 : gp ≤ 60) (n1 : 1 ≤ vo) (n6 : vo ≤ 6) (lA : L.length ≤ 1000) (lB : M.length ≤ 1000) : (ifD (bBin neD (eCall d_entries (lCons (eName 2) (lCons (eName 3) (lCons (eName 10) (lCons (eName 11) lNil))))) (eFun tupleD (lCons (eName 12) lNil))) (retD (eC (.bool false))) nextD) [a0, a1, some (.tuple (L.map .int)), some (.tuple (M.map .int)), a4, a5, a6, a7, a8, a9, some (.int (gp : Int)), some (.int (vo : Int)), some (.list ((rowsK L M gp vo).map rowD)), a13, a14, a15, a16, a17, a18, a19, a20, a21, a22, a23, a24, a25, a26, a27, a28, a29, a30, a31] = .nx [a0, a1, some (.tuple (L.map .int)), some (.tuple (M.map .int)), a4, a5, a6, a7, a8, a9, some (.int (gp : Int)), some (.int (vo : Int)), some (.list ((rowsK L M gp vo).map rowD)), a13, a14, a15, a16, a17, a18, a19, a20, a21, a22, a23, a24, a25, a26, a27, a28, a29, a30, a31] := by
  have sh : Sh 2 (.tuple ((rowsK L M gp vo).map rowD)) := sh_tup fun x hx => by
    obtain ⟨r, _, rfl⟩ := List.mem_map.mp hx
    exact sh_tup fun y hy => by
      obtain ⟨z, _, rfl⟩ := List.mem_map.mp hy
      cases z
      · exact sh_none (n := 0)
      · exact sh_int (n := 0)
  have ne := neD_same sh
  simp [-List.map_map, entries_ok L M gp vo hA hB h1 h6 n1 n6 lA lB, ne]
theorem st11 {a0 a1 a2 a3 a4 a5 a6 a7 a8 a9 a10 a11 a13 a14 a15 a16 a17 a18 a19 a20 a21 a22 a23 a24 a25 a26 a27 a28 a29 a30 a31 : Option D} {rows : List (List (Option Int))} (h0 : rows ≠ []) (hn : rows.length < 16777216) : (setD 13 (eFun maxLD (lCons (eLc (eIt (eName 12)) (gN 30) bYes m_law_e5 [30]) lNil))) [a0, a1, a2, a3, a4, a5, a6, a7, a8, a9, a10, a11, some (.list (rows.map rowD)), a13, a14, a15, a16, a17, a18, a19, a20, a21, a22, a23, a24, a25, a26, a27, a28, a29, a30, a31] = .nx [a0, a1, a2, a3, a4, a5, a6, a7, a8, a9, a10, a11, some (.list (rows.map rowD)), some (.int (totN rows : Nat)), a14, a15, a16, a17, a18, a19, a20, a21, a22, a23, a24, a25, a26, a27, a28, a29, a30, a31] := by
  have e : lcGo (gN 30) bYes m_law_e5 [a0, a1, a2, a3, a4, a5, a6, a7, a8, a9, a10, a11, some (.list (rows.map rowD)), a13, a14, a15, a16, a17, a18, a19, a20, a21, a22, a23, a24, a25, a26, a27, a28, a29, none, a31] (rows.map rowD) = .ok (rows.map fun r => PyData.int r.length) :=
    lcGo_all rowD _ rows fun r _ => ⟨_, rfl, by simp [m_law_e5, len_row]⟩
  simp [-List.map_map, e, hn, tot_max h0]
theorem st12 {a0 a1 a2 a3 a4 a5 a6 a7 a8 a9 a10 a11 a14 a15 a16 a17 a18 a19 a20 a21 a22 a23 a24 a25 a26 a27 a28 a29 a30 a31 : Option D} {rows : List (List (Option Int))} (h0 : rows ≠ []) (hn : rows.length < 16777216) (hl : ∀ r ∈ rows, r.length ≤ 100000) : (ifD (bBin neD (eCall d_chords_in (lCons (eFun tupleD (lCons (eName 12) lNil)) lNil)) (eFun tupleD (lCons (eLc (eRng (lCons (eName 13) lNil)) (gN 8) bYes m_law_e7 [8]) lNil))) (retD (eC (.bool false))) nextD) [a0, a1, a2, a3, a4, a5, a6, a7, a8, a9, a10, a11, some (.list (rows.map rowD)), some (.int (totN rows : Nat)), a14, a15, a16, a17, a18, a19, a20, a21, a22, a23, a24, a25, a26, a27, a28, a29, a30, a31] = .nx [a0, a1, a2, a3, a4, a5, a6, a7, a8, a9, a10, a11, some (.list (rows.map rowD)), some (.int (totN rows : Nat)), a14, a15, a16, a17, a18, a19, a20, a21, a22, a23, a24, a25, a26, a27, a28, a29, a30, a31] := by
  have ht := tot_le hl
  have e : lcGo (gN 8) bYes m_law_e7 [a0, a1, a2, a3, a4, a5, a6, a7, none, a9, a10, a11, some (.list (rows.map rowD)), some (.int (totN rows : Nat)), a14, a15, a16, a17, a18, a19, a20, a21, a22, a23, a24, a25, a26, a27, a28, a29, a30, a31] (rangeL 0 (totN rows)) = .ok ((List.range (totN rows)).map fun k => .tuple (colK rows k)) := by
    rw [rangeL0, lcGo_all (fun i : Nat => PyData.int i) (fun k => .tuple (colK rows k)) _ fun k hk => ⟨_, rfl, ?_⟩]
    have el : lcGo (gN 30) (bAnd (bBin ltD (eName 8) (eFun lenD (lCons (eName 30) lNil))) (bBin isNotD (eIx (eName 30) (eName 8)) (eC .none))) m_law_e6 [a0, a1, a2, a3, a4, a5, a6, a7, some (.int (k : Int)), a9, a10, a11, some (.list (rows.map rowD)), some (.int (totN rows : Nat)), a14, a15, a16, a17, a18, a19, a20, a21, a22, a23, a24, a25, a26, a27, a28, a29, none, a31] (rows.map rowD) = .ok (colK rows k) :=
      lcGo_map rowD (fun r => decide (k < r.length) && (r.getD k none).isSome) (fun r => oD (r.getD k none)) rows fun r _ => ⟨_, rfl, by
        by_cases h : k < r.length
        · simp [len_row, h, ix_row h, is_oD]
        · simp [len_row, h], fun hp => by
        have h : k < r.length := by
          rw [Bool.and_eq_true] at hp
          exact of_decide_eq_true hp.1
        simp [m_law_e6, ix_row h, imm_oD]⟩
    have hc : (colK rows k).length < 16777216 := by
      unfold colK
      rw [List.length_map]
      exact Nat.lt_of_le_of_lt (List.length_filter_le _ _) hn
    simp [m_law_e7, el, hc]
  have sh : Sh 2 (.tuple ((List.range (totN rows)).map fun k => .tuple (colK rows k))) := sh_tup fun x hx => by
    obtain ⟨k, _, rfl⟩ := List.mem_map.mp hx
    exact sh_tup fun y hy => by
      unfold colK at hy
      obtain ⟨r, _, rfl⟩ := List.mem_map.mp hy
      cases r.getD k none
      · exact sh_none (n := 0)
      · exact sh_int (n := 0)
  have ne := neD_same sh
  have hr := rng1 (b := totN rows) (by omega)
  have hb : totN rows < 16777216 := by omega
  simp [-List.map_map, chords_ok rows h0 hn hl, e, hr, hb, ne]
end Pd.Law
namespace Pd.Law
open PySem PySem.Spec PyProof.Rows L2 Pd
open Pd (D Env)
theorem st13 {a0 a2 a3 a4 a5 a6 a7 a8 a9 a10 a11 a12 a13 a14 a15 a16 a17 a18 a19 a20 a21 a22 a23 a24 a25 a26 a27 a28 a29 a30 a31 : Option D} {v : Nat → Int} {n : List Int} (ix : ∀ k : Nat, k < 50 → ixD (.list (n.map .int)) (.int (k : Int)) = .ok (.int (v k))) : (setD 14 (eFun tupleD (lCons (eLc (eRng (lCons (eC (.int 7)) lNil)) (gN 28) (bBin eqD (eBin modD (eIx (eName 1) (eBin addD (eC (.int 21)) (eName 28))) (eC (.int 2))) (eC (.int 0))) m_law_e8 [28]) lNil))) [a0, some (.list (n.map .int)), a2, a3, a4, a5, a6, a7, a8, a9, a10, a11, a12, a13, a14, a15, a16, a17, a18, a19, a20, a21, a22, a23, a24, a25, a26, a27, a28, a29, a30, a31] = .nx [a0, some (.list (n.map .int)), a2, a3, a4, a5, a6, a7, a8, a9, a10, a11, a12, a13, some (.tuple ((((List.range 7).filter fun k => decide (v (21 + k) % 2 = 0)).map fun i : Nat => (i : Int)).map .int)), a15, a16, a17, a18, a19, a20, a21, a22, a23, a24, a25, a26, a27, a28, a29, a30, a31] := by
  have hr : rngD [.int 7] = .ok (rangeL 0 7) := rng1 (b := 7) (by omega)
  have e : lcGo (gN 28) (bBin eqD (eBin modD (eIx (eName 1) (eBin addD (eC (.int 21)) (eName 28))) (eC (.int 2))) (eC (.int 0))) m_law_e8 [a0, some (.list (n.map .int)), a2, a3, a4, a5, a6, a7, a8, a9, a10, a11, a12, a13, a14, a15, a16, a17, a18, a19, a20, a21, a22, a23, a24, a25, a26, a27, none, a29, a30, a31] (rangeL 0 7) = .ok ((((List.range 7).filter fun k => decide (v (21 + k) % 2 = 0)).map fun i : Nat => (i : Int)).map .int) := by
    rw [rangeL0, lcGo_map (fun i : Nat => PyData.int i) (fun k => decide (v (21 + k) % 2 = 0)) (fun i : Nat => PyData.int i) _ fun k hk => ⟨_, rfl, ?_, fun _ => by simp [m_law_e8]⟩, List.map_map]
    · rfl
    · have hk := List.mem_range.mp hk
      have ik : ixD (.list (n.map .int)) (.int (21 + (k : Int))) = .ok (.int (v (21 + k))) := ix (21 + k) (by omega)
      simp [ik]
  have hb : (((List.range 7).filter fun k => decide (v (21 + k) % 2 = 0)).map fun i : Nat => (i : Int)).length < 16777216 := by
    rw [List.length_map]
    exact Nat.lt_of_le_of_lt (List.length_filter_le _ _) (by simp)
  generalize (((List.range 7).filter fun k => decide (v (21 + k) % 2 = 0)).map fun i : Nat => (i : Int)) = Z at e hb ⊢
  simp [-List.map_map, hr, e, hb]
theorem st14 {a0 a2 a3 a4 a5 a6 a7 a8 a9 a10 a11 a12 a13 a15 a16 a17 a18 a19 a20 a21 a22 a23 a24 a25 a26 a27 a28 a29 a30 a31 : Option D} {v : Nat → Int} {n : List Int} (ix : ∀ k : Nat, k < 50 → ixD (.list (n.map .int)) (.int (k : Int)) = .ok (.int (v k))) {G : List Int} : (ifD (bBin eqD (eBin modD (eIx (eName 1) (eC (.int 28))) (eC (.int 2))) (eC (.int 0))) (setD 14 (eFun tupleD (lCons (eListRev (eName 14)) lNil))) nextD) [a0, some (.list (n.map .int)), a2, a3, a4, a5, a6, a7, a8, a9, a10, a11, a12, a13, some (.tuple (G.map .int)), a15, a16, a17, a18, a19, a20, a21, a22, a23, a24, a25, a26, a27, a28, a29, a30, a31] = .nx [a0, some (.list (n.map .int)), a2, a3, a4, a5, a6, a7, a8, a9, a10, a11, a12, a13, some (.tuple ((if v 28 % 2 = 0 then G.reverse else G).map .int)), a15, a16, a17, a18, a19, a20, a21, a22, a23, a24, a25, a26, a27, a28, a29, a30, a31] := by
  have i28 : ixD (.list (n.map .int)) (.int 28) = .ok (.int (v 28)) := ix 28 (by decide)
  by_cases h : v 28 % 2 = 0
  · have e : eListRev (eName 14) [a0, some (.list (n.map .int)), a2, a3, a4, a5, a6, a7, a8, a9, a10, a11, a12, a13, some (.tuple (G.map .int)), a15, a16, a17, a18, a19, a20, a21, a22, a23, a24, a25, a26, a27, a28, a29, a30, a31] = .ok (.list (G.map PyData.int).reverse) := q_lrev rfl
    simp [i28, h, e]
  · simp [i28, h]
theorem st15 {a0 a1 a4 a5 a6 a7 a8 a9 a10 a11 a12 a13 a14 a15 a16 a17 a18 a19 a20 a21 a22 a23 a24 a25 a26 a27 a28 a29 a30 a31 : Option D} {L M : List Int} : (setD 15 (eFun min2D (lCons (eFun lenD (lCons (eName 2) lNil)) (lCons (eFun lenD (lCons (eName 3) lNil)) lNil)))) [a0, a1, some (.tuple (L.map .int)), some (.tuple (M.map .int)), a4, a5, a6, a7, a8, a9, a10, a11, a12, a13, a14, a15, a16, a17, a18, a19, a20, a21, a22, a23, a24, a25, a26, a27, a28, a29, a30, a31] = .nx [a0, a1, some (.tuple (L.map .int)), some (.tuple (M.map .int)), a4, a5, a6, a7, a8, a9, a10, a11, a12, a13, a14, some (.int (min M.length L.length : Nat)), a16, a17, a18, a19, a20, a21, a22, a23, a24, a25, a26, a27, a28, a29, a30, a31] := by
  rw [Nat.min_comm]
  simp [min_cast]
theorem st16 {a0 a1 a4 a5 a6 a7 a8 a9 a10 a11 a12 a13 a14 a16 a17 a18 a19 a20 a21 a22 a23 a24 a25 a26 a27 a28 a29 a30 a31 : Option D} {L M : List Int}  (hl : L.length ≤ 1000) : (setD 16 (eLc (eRng (lCons (eName 15) lNil)) (gN 8) bYes m_law_e9 [8])) [a0, a1, some (.tuple (L.map .int)), some (.tuple (M.map .int)), a4, a5, a6, a7, a8, a9, a10, a11, a12, a13, a14, some (.int (min M.length L.length : Nat)), a16, a17, a18, a19, a20, a21, a22, a23, a24, a25, a26, a27, a28, a29, a30, a31] = .nx [a0, a1, some (.tuple (L.map .int)), some (.tuple (M.map .int)), a4, a5, a6, a7, a8, a9, a10, a11, a12, a13, a14, some (.int (min M.length L.length : Nat)), some (.list ((gaps M L).map .int)), a17, a18, a19, a20, a21, a22, a23, a24, a25, a26, a27, a28, a29, a30, a31] := by
  have hr := rng1 (b := min M.length L.length) (by omega)
  have e : lcGo (gN 8) bYes m_law_e9 [a0, a1, some (.tuple (L.map .int)), some (.tuple (M.map .int)), a4, a5, a6, a7, none, a9, a10, a11, a12, a13, a14, some (.int (min M.length L.length : Nat)), a16, a17, a18, a19, a20, a21, a22, a23, a24, a25, a26, a27, a28, a29, a30, a31] (rangeL 0 (min M.length L.length)) = .ok ((gaps M L).map .int) := by
    rw [rangeL0, lcGo_all (fun i : Nat => PyData.int i) (fun k => .int ((M.getD k 0 - L.getD k 0) % 7)) _ fun k hk => ⟨_, rfl, ?_⟩]
    · unfold gaps
      rw [List.map_map] <;> rfl
    · have hk := List.mem_range.mp hk
      have h1 : k < M.length := by omega
      have h2 : k < L.length := by omega
      have hm : (M.getD k 0 - L.getD k 0 + 70) % 7 = (M.getD k 0 - L.getD k 0) % 7 := by omega
      simp [-List.getD_eq_getElem?_getD, m_law_e9, ix_tI h1, ix_tI h2, hm]
  have hb : (gaps M L).length < 16777216 := by
    unfold gaps
    simp
    omega
  generalize gaps M L = Z at e hb ⊢
  simp [-List.map_map, hr, e, hb]
theorem st17 {a0 a1 a5 a6 a7 a8 a9 a10 a11 a12 a13 a14 a16 a17 a18 a19 a20 a21 a22 a23 a24 a25 a26 a27 a28 a29 a30 a31 : Option D} {L M : List Int} {s : Int} (hl : L.length ≤ 1000) : (setD 17 (eLc (eRng (lCons (eName 15) lNil)) (gN 8) bYes m_law_e10 [8])) [a0, a1, some (.tuple (L.map .int)), some (.tuple (M.map .int)), some (.int s), a5, a6, a7, a8, a9, a10, a11, a12, a13, a14, some (.int (min M.length L.length : Nat)), a16, a17, a18, a19, a20, a21, a22, a23, a24, a25, a26, a27, a28, a29, a30, a31] = .nx [a0, a1, some (.tuple (L.map .int)), some (.tuple (M.map .int)), some (.int s), a5, a6, a7, a8, a9, a10, a11, a12, a13, a14, some (.int (min M.length L.length : Nat)), a16, some (.list ((gaps (L.map (· + s)) M).map .int)), a18, a19, a20, a21, a22, a23, a24, a25, a26, a27, a28, a29, a30, a31] := by
  have hr := rng1 (b := min M.length L.length) (by omega)
  have e : lcGo (gN 8) bYes m_law_e10 [a0, a1, some (.tuple (L.map .int)), some (.tuple (M.map .int)), some (.int s), a5, a6, a7, none, a9, a10, a11, a12, a13, a14, some (.int (min M.length L.length : Nat)), a16, a17, a18, a19, a20, a21, a22, a23, a24, a25, a26, a27, a28, a29, a30, a31] (rangeL 0 (min M.length L.length)) = .ok ((gaps (L.map (· + s)) M).map .int) := by
    rw [rangeL0, lcGo_all (fun i : Nat => PyData.int i) (fun k => .int ((L.getD k 0 + s - M.getD k 0) % 7)) _ fun k hk => ⟨_, rfl, ?_⟩]
    · unfold gaps
      rw [List.length_map, Nat.min_comm M.length L.length, List.map_map]
      refine congrArg R.ok (List.map_congr_left ?_)
      intro k hk
      have hk := List.mem_range.mp hk
      have h2 : k < L.length := by omega
      simp [List.getD, h2]
    · have hk := List.mem_range.mp hk
      have h1 : k < M.length := by omega
      have h2 : k < L.length := by omega
      have hm : (L.getD k 0 + s - M.getD k 0 + 70) % 7 = (L.getD k 0 + s - M.getD k 0) % 7 := by omega
      simp [-List.getD_eq_getElem?_getD, m_law_e10, ix_tI h1, ix_tI h2, hm]
  have hb : (gaps (L.map (· + s)) M).length < 16777216 := by
    unfold gaps
    simp
    omega
  generalize gaps (L.map (· + s)) M = Z at e hb ⊢
  simp [-List.map_map, hr, e, hb]
theorem st18 {a0 a1 a2 a3 a4 a5 a6 a7 a8 a9 a10 a11 a12 a13 a15 a18 a19 a20 a21 a22 a23 a24 a25 a26 a27 a28 a29 a30 a31 : Option D} {A B G : List Int} (hA : A.length ≤ 1000) (hB : B.length ≤ 1000) : (setD 18 (eBin eqD (eFun lenD (lCons (eLc (eIt (eBin addD (eName 16) (eName 17))) (gN 31) (bBin notInD (eName 31) (eName 14)) m_law_e11 [31]) lNil)) (eC (.int 0)))) [a0, a1, a2, a3, a4, a5, a6, a7, a8, a9, a10, a11, a12, a13, some (.tuple (G.map .int)), a15, some (.list (A.map .int)), some (.list (B.map .int)), a18, a19, a20, a21, a22, a23, a24, a25, a26, a27, a28, a29, a30, a31] = .nx [a0, a1, a2, a3, a4, a5, a6, a7, a8, a9, a10, a11, a12, a13, some (.tuple (G.map .int)), a15, some (.list (A.map .int)), some (.list (B.map .int)), some (.bool ((A.all fun x => decide (x ∈ G)) && B.all fun x => decide (x ∈ G))), a19, a20, a21, a22, a23, a24, a25, a26, a27, a28, a29, a30, a31] := by
  have e : lcGo (gN 31) (bBin notInD (eName 31) (eName 14)) m_law_e11 [a0, a1, a2, a3, a4, a5, a6, a7, a8, a9, a10, a11, a12, a13, some (.tuple (G.map .int)), a15, some (.list (A.map .int)), some (.list (B.map .int)), a18, a19, a20, a21, a22, a23, a24, a25, a26, a27, a28, a29, a30, none] ((A ++ B).map PyData.int) = .ok (((A ++ B).filter fun x => !decide (x ∈ G)).map .int) :=
    lcGo_map PyData.int _ PyData.int _ fun a _ => ⟨_, rfl, by simp, fun _ => by simp [m_law_e11]⟩
  have hb : ((A ++ B).filter fun x => !decide (x ∈ G)).length < 16777216 := Nat.lt_of_le_of_lt (List.length_filter_le _ _) (by rw [List.length_append]; omega)
  have hz : (((A ++ B).filter fun x => !decide (x ∈ G)).length = 0) ↔ (((A.all fun x => decide (x ∈ G)) && B.all fun x => decide (x ∈ G)) = true) := by
    rw [List.length_eq_zero_iff, List.filter_eq_nil_iff, ← List.all_append, List.all_eq_true]
    simp
  rw [List.map_append] at e
  have hl : A.length + B.length ≤ 16777216 := by omega
  generalize ((A.all fun x => decide (x ∈ G)) && B.all fun x => decide (x ∈ G)) = q at hz ⊢
  generalize ((A ++ B).filter fun x => !decide (x ∈ G)) = Z at e hb hz ⊢
  have hz2 : ((Z.length : Int) = 0) ↔ q = true := by rw [← hz]; omega
  cases q with
  | true =>
    have h0 := hz2.mpr rfl
    simp [-List.length_eq_zero_iff, hl, e, hb, h0]
  | false =>
    have h0 : ¬ Z.length = 0 := fun z => by have := hz.mp z; cases this
    simp [-List.length_eq_zero_iff, hl, e, hb, h0]
theorem st19 {a0 a1 a5 a6 a7 a8 a9 a10 a11 a12 a13 a15 a16 a17 a19 a20 a21 a22 a23 a24 a25 a26 a27 a28 a29 a30 a31 : Option D} {L M G : List Int} {s : Int} (hL : okL L = true) (hM : okL M = true) (hs : mag s ≤ 99) (hG : okG G = true) (hl : L.length < 16777216) (hm : M.length < 16777216) : (ifD (bBin neD (eCall d_turnable (lCons (eName 2) (lCons (eName 3) (lCons (eName 4) (lCons (eName 14) lNil))))) (eName 18)) (retD (eC (.bool false))) nextD) [a0, a1, some (.tuple (L.map .int)), some (.tuple (M.map .int)), some (.int s), a5, a6, a7, a8, a9, a10, a11, a12, a13, some (.tuple (G.map .int)), a15, a16, a17, some (.bool (fits L M G && fits M (L.map (· + s)) G)), a19, a20, a21, a22, a23, a24, a25, a26, a27, a28, a29, a30, a31] = .nx [a0, a1, some (.tuple (L.map .int)), some (.tuple (M.map .int)), some (.int s), a5, a6, a7, a8, a9, a10, a11, a12, a13, some (.tuple (G.map .int)), a15, a16, a17, some (.bool (fits L M G && fits M (L.map (· + s)) G)), a19, a20, a21, a22, a23, a24, a25, a26, a27, a28, a29, a30, a31] := by
  have ne := neD_same (sh_bool (n := 0) (b := fits L M G && fits M (L.map (· + s)) G))
  have t := turnable_ok L M G s hL hM hs hG hl hm
  generalize (fits L M G && fits M (L.map (· + s)) G) = q at ne t ⊢
  simp [-List.map_map, t, ne]
theorem st20 {a0 a1 a2 a3 a5 a6 a7 a8 a9 a10 a11 a12 a13 a15 a16 a17 a18 a19 a20 a21 a22 a23 a24 a25 a26 a27 a28 a29 a30 a31 : Option D} {G : List Int} {s : Int} (hl : G.length ≤ 1000) : (setD 19 (eFun tupleD (lCons (eLc (eIt (eName 14)) (gN 31) (bBin inD (eBin modD (eBin addD (eBin subD (eName 4) (eName 31)) (eC (.int 70))) (eC (.int 7))) (eName 14)) m_law_e12 [31]) lNil))) [a0, a1, a2, a3, some (.int s), a5, a6, a7, a8, a9, a10, a11, a12, a13, some (.tuple (G.map .int)), a15, a16, a17, a18, a19, a20, a21, a22, a23, a24, a25, a26, a27, a28, a29, a30, a31] = .nx [a0, a1, a2, a3, some (.int s), a5, a6, a7, a8, a9, a10, a11, a12, a13, some (.tuple (G.map .int)), a15, a16, a17, a18, some (.tuple ((G.filter fun x => decide ((s - x) % 7 ∈ G)).map .int)), a20, a21, a22, a23, a24, a25, a26, a27, a28, a29, a30, a31] := by
  have e : lcGo (gN 31) (bBin inD (eBin modD (eBin addD (eBin subD (eName 4) (eName 31)) (eC (.int 70))) (eC (.int 7))) (eName 14)) m_law_e12 [a0, a1, a2, a3, some (.int s), a5, a6, a7, a8, a9, a10, a11, a12, a13, some (.tuple (G.map .int)), a15, a16, a17, a18, a19, a20, a21, a22, a23, a24, a25, a26, a27, a28, a29, a30, none] (G.map PyData.int) = .ok ((G.filter fun x => decide ((s - x) % 7 ∈ G)).map .int) :=
    lcGo_map PyData.int _ PyData.int _ fun a _ => ⟨_, rfl, by
      have h : (s - a + 70) % 7 = (s - a) % 7 := by omega
      simp [h], fun _ => by simp [m_law_e12]⟩
  have hb : (G.filter fun x => decide ((s - x) % 7 ∈ G)).length < 16777216 := Nat.lt_of_le_of_lt (List.length_filter_le _ _) (by omega)
  generalize (G.filter fun x => decide ((s - x) % 7 ∈ G)) = Z at e hb ⊢
  simp [e, hb]
theorem st21 {a0 a1 a2 a3 a5 a6 a7 a8 a9 a10 a11 a12 a13 a15 a17 a20 a21 a22 a23 a24 a25 a26 a27 a28 a29 a30 a31 : Option D} {A G : List Int} {s : Int} {q : Bool} (hG : okG G = true) (hs : mag s ≤ 99) (hl : G.length ≤ 1000) (hA : A.length ≤ 1000) (hq : q = A.all fun x => decide (x ∈ G.filter fun x => decide ((s - x) % 7 ∈ G))) : (ifD (bOr (bBin neD (eCall d_turned_good (lCons (eName 14) (lCons (eName 4) lNil))) (eName 19)) (bBin neD (eName 18) (eBin eqD (eFun lenD (lCons (eLc (eIt (eName 16)) (gN 31) (bBin notInD (eName 31) (eName 19)) m_law_e13 [31]) lNil)) (eC (.int 0))))) (retD (eC (.bool false))) nextD) [a0, a1, a2, a3, some (.int s), a5, a6, a7, a8, a9, a10, a11, a12, a13, some (.tuple (G.map .int)), a15, some (.list (A.map .int)), a17, some (.bool q), some (.tuple ((G.filter fun x => decide ((s - x) % 7 ∈ G)).map .int)), a20, a21, a22, a23, a24, a25, a26, a27, a28, a29, a30, a31] = .nx [a0, a1, a2, a3, some (.int s), a5, a6, a7, a8, a9, a10, a11, a12, a13, some (.tuple (G.map .int)), a15, some (.list (A.map .int)), a17, some (.bool q), some (.tuple ((G.filter fun x => decide ((s - x) % 7 ∈ G)).map .int)), a20, a21, a22, a23, a24, a25, a26, a27, a28, a29, a30, a31] := by
  have t := turned_good_ok G s hG hs (by omega)
  have ne := neD_same (sh_tI (L := G.filter fun x => decide ((s - x) % 7 ∈ G)))
  have nq := neD_same (sh_bool (n := 0) (b := q))
  generalize (G.filter fun x => decide ((s - x) % 7 ∈ G)) = Z at t ne hq ⊢
  have e : lcGo (gN 31) (bBin notInD (eName 31) (eName 19)) m_law_e13 [a0, a1, a2, a3, some (.int s), a5, a6, a7, a8, a9, a10, a11, a12, a13, some (.tuple (G.map .int)), a15, some (.list (A.map .int)), a17, some (.bool q), some (.tuple (Z.map .int)), a20, a21, a22, a23, a24, a25, a26, a27, a28, a29, a30, none] (A.map PyData.int) = .ok ((A.filter fun x => !decide (x ∈ Z)).map .int) :=
    lcGo_map PyData.int _ PyData.int _ fun a _ => ⟨_, rfl, by simp, fun _ => by simp [m_law_e13]⟩
  have hb : (A.filter fun x => !decide (x ∈ Z)).length < 16777216 := Nat.lt_of_le_of_lt (List.length_filter_le _ _) (by omega)
  have hz : ((A.filter fun x => !decide (x ∈ Z)).length = 0) ↔ q = true := by
    rw [hq, List.length_eq_zero_iff, List.filter_eq_nil_iff, List.all_eq_true]
    simp
  generalize (A.filter fun x => !decide (x ∈ Z)) = Y at e hb hz
  have hz2 : ((Y.length : Int) = 0) ↔ q = true := by rw [← hz]; omega
  clear hq
  cases q with
  | true =>
    have h0 := hz2.mpr rfl
    simp [-List.length_eq_zero_iff, t, ne, e, hb, h0, nq]
  | false =>
    have h0 : ¬ Y.length = 0 := fun z => by have := hz.mp z; cases this
    simp [-List.length_eq_zero_iff, t, ne, e, hb, h0, nq]
theorem st22 {a0 a1 a2 a3 a4 a5 a6 a7 a8 a9 a10 a11 a12 a13 a14 a15 a16 a17 a18 a19 a20 a21 a22 a23 a24 a25 a26 a27 a28 a29 a30 a31 : Option D}  : (setD 20 (eLst lNil)) [a0, a1, a2, a3, a4, a5, a6, a7, a8, a9, a10, a11, a12, a13, a14, a15, a16, a17, a18, a19, a20, a21, a22, a23, a24, a25, a26, a27, a28, a29, a30, a31] = .nx [a0, a1, a2, a3, a4, a5, a6, a7, a8, a9, a10, a11, a12, a13, a14, a15, a16, a17, a18, a19, some (.list []), a21, a22, a23, a24, a25, a26, a27, a28, a29, a30, a31] := by
  simp
end Pd.Law
namespace Pd.Law
open PySem PySem.Spec PyProof.Rows L2 Pd
open Pd (D Env)
theorem stL2 {a0 a1 a3 a4 a5 a6 a7 a8 a9 a10 a11 a12 a13 a15 a16 a17 a18 a19 a23 a24 a25 a26 a27 a28 a29 a30 a31 : Option D} {L G : List Int} {F : List D} {d s : Nat} (hd : d < L.length) (hF : F.length < 16777216) (hl : L.length ≤ 1000) :
    m_law_L2 [a0, a1, some (.tuple (L.map .int)), a3, a4, a5, a6, a7, a8, a9, a10, a11, a12, a13, some (.tuple (G.map .int)), a15, a16, a17, a18, a19, some (.list F), some (.int (d : Int)), some (.int (s : Int)), a23, a24, a25, a26, a27, a28, a29, a30, a31] = .nx [a0, a1, some (.tuple (L.map .int)), a3, a4, a5, a6, a7, a8, a9, a10, a11, a12, a13, some (.tuple (G.map .int)), a15, a16, a17, a18, a19, some (.list (F ++ if strOk L G d s = true then [.tuple [.int d, .int s]] else [])), some (.int (d : Int)), some (.int (s : Int)), a23, a24, a25, a26, a27, a28, a29, a30, a31] := by
  have hr : rngD [.int (d : Int), .int (L.length : Int)] = .ok (rangeL d (L.length - d)) := rng2 (by omega) (by omega)
  have e : lcGo (gN 8) (bBin notInD (eBin modD (eBin addD (eBin subD (eBin addD (eIx (eName 2) (eBin subD (eName 8) (eName 21))) (eName 22)) (eIx (eName 2) (eName 8))) (eC (.int 70))) (eC (.int 7))) (eName 14)) m_law_e14 [a0, a1, some (.tuple (L.map .int)), a3, a4, a5, a6, a7, none, a9, a10, a11, a12, a13, some (.tuple (G.map .int)), a15, a16, a17, a18, a19, some (.list F), some (.int (d : Int)), some (.int (s : Int)), a23, a24, a25, a26, a27, a28, a29, a30, a31] (rangeL d (L.length - d)) = .ok (((List.range (L.length - d)).filter fun k => !decide ((L.getD k 0 + s - L.getD (d + k) 0) % 7 ∈ G)).map fun k : Nat => .int ((d : Int) + (k : Nat))) := by
    unfold rangeL
    refine lcGo_map (fun k : Nat => .int ((d : Int) + (k : Nat))) _ _ _ fun k hk => ⟨_, rfl, ?_, fun _ => by simp [m_law_e14]⟩
    have hk := List.mem_range.mp hk
    have i1 : ixD (.tuple (L.map .int)) (.int (k : Int)) = .ok (.int (L.getD k 0)) := ix_tI (by omega)
    have i2 : ixD (.tuple (L.map .int)) (.int ((d : Int) + (k : Int))) = .ok (.int (L.getD (d + k) 0)) := ix_tI (k := d + k) (by omega)
    have i3 : (d : Int) + (k : Int) - (d : Int) = (k : Int) := by omega
    have h7 : (L.getD k 0 + s - L.getD (d + k) 0 + 70) % 7 = (L.getD k 0 + s - L.getD (d + k) 0) % 7 := by omega
    simp [-List.getD_eq_getElem?_getD, i1, i2, i3, h7]
  have hb : ((List.range (L.length - d)).filter fun k => !decide ((L.getD k 0 + s - L.getD (d + k) 0) % 7 ∈ G)).length < 16777216 := Nat.lt_of_le_of_lt (List.length_filter_le _ _) (by rw [List.length_range]; omega)
  have hz : (((List.range (L.length - d)).filter fun k => !decide ((L.getD k 0 + s - L.getD (d + k) 0) % 7 ∈ G)).length = 0) ↔ strOk L G d s = true := by
    unfold strOk
    rw [List.length_eq_zero_iff, List.filter_eq_nil_iff, List.all_eq_true]
    simp
  generalize ((List.range (L.length - d)).filter fun k => !decide ((L.getD k 0 + s - L.getD (d + k) 0) % 7 ∈ G)) = Z at e hb hz
  cases hs : strOk L G d s with
  | true =>
    have h0 : Z.length = 0 := hz.mpr hs
    simp [-List.length_eq_zero_iff, m_law_L2, hr, e, hb, h0, hF]
  | false =>
    have h0 : ¬ Z.length = 0 := fun z => by rw [hz.mp z] at hs; cases hs
    simp [-List.length_eq_zero_iff, m_law_L2, hr, e, hb, h0, hF]
theorem stL3 {a0 a1 a3 a4 a5 a6 a7 a8 a9 a10 a11 a12 a13 a15 a16 a17 a18 a19 a22 a23 a24 a25 a26 a27 a28 a29 a30 a31 : Option D} {L G : List Int} {F : List D} {d : Nat} (hd : d < L.length) (hF : F.length + 7 < 16777216) (hl : L.length ≤ 1000) :
    ∃ x, m_law_L3 [a0, a1, some (.tuple (L.map .int)), a3, a4, a5, a6, a7, a8, a9, a10, a11, a12, a13, some (.tuple (G.map .int)), a15, a16, a17, a18, a19, some (.list F), some (.int (d : Int)), a22, a23, a24, a25, a26, a27, a28, a29, a30, a31] = .nx [a0, a1, some (.tuple (L.map .int)), a3, a4, a5, a6, a7, a8, a9, a10, a11, a12, a13, some (.tuple (G.map .int)), a15, a16, a17, a18, a19, some (.list (F ++ strIn L G d 7)), some (.int (d : Int)), x, a23, a24, a25, a26, a27, a28, a29, a30, a31] := by
  obtain ⟨ρ', e, x, rfl⟩ := forD_inv (g := gN 22) (B := m_law_L2) (ds := rangeL 0 7) (ρ := [a0, a1, some (.tuple (L.map .int)), a3, a4, a5, a6, a7, a8, a9, a10, a11, a12, a13, some (.tuple (G.map .int)), a15, a16, a17, a18, a19, some (.list F), some (.int (d : Int)), a22, a23, a24, a25, a26, a27, a28, a29, a30, a31])
    (fun k ρ => ∃ x, ρ = [a0, a1, some (.tuple (L.map .int)), a3, a4, a5, a6, a7, a8, a9, a10, a11, a12, a13, some (.tuple (G.map .int)), a15, a16, a17, a18, a19, some (.list (F ++ strIn L G d k)), some (.int (d : Int)), x, a23, a24, a25, a26, a27, a28, a29, a30, a31]) ⟨a22, by simp [strIn]⟩ (fun k dd ρ hk i => by
      obtain ⟨x, rfl⟩ := i
      obtain ⟨hk, rfl⟩ := rangeL_get hk
      have hlen := strIn_len L G d k
      have st := @stL2 a0 a1 a3 a4 a5 a6 a7 a8 a9 a10 a11 a12 a13 a15 a16 a17 a18 a19 a23 a24 a25 a26 a27 a28 a29 a30 a31 L G (F ++ strIn L G d k) d k hd (by rw [List.length_append]; omega) hl
      rw [List.append_assoc, ← strIn_succ] at st
      exact ⟨_, _, rfl, .inl (Eq.trans (by simp) st), _, rfl⟩)
  refine ⟨x, ?_⟩
  rw [rangeL_len] at e
  have h7 : rngD [.int 7] = .ok (rangeL 0 7) := rng1 (b := 7) (by omega)
  simp [m_law_L3, h7, e]
theorem st23 {a0 a1 a3 a4 a5 a6 a7 a8 a9 a10 a11 a12 a13 a15 a16 a17 a18 a19 a21 a22 a23 a24 a25 a26 a27 a28 a29 a30 a31 : Option D} {L G : List Int} (h0 : 1 ≤ L.length) (hl : L.length ≤ 1000) : ∃ x y, (forS (eRng (lCons (eC (.int 1)) (lCons (eFun lenD (lCons (eName 2) lNil)) lNil))) (gN 21) m_law_L3) [a0, a1, some (.tuple (L.map .int)), a3, a4, a5, a6, a7, a8, a9, a10, a11, a12, a13, some (.tuple (G.map .int)), a15, a16, a17, a18, a19, some (.list []), a21, a22, a23, a24, a25, a26, a27, a28, a29, a30, a31] = .nx [a0, a1, some (.tuple (L.map .int)), a3, a4, a5, a6, a7, a8, a9, a10, a11, a12, a13, some (.tuple (G.map .int)), a15, a16, a17, a18, a19, some (.list (strOut L G (L.length - 1))), x, y, a23, a24, a25, a26, a27, a28, a29, a30, a31] := by
  obtain ⟨ρ', e, x, y, rfl⟩ := forD_inv (g := gN 21) (B := m_law_L3) (ds := rangeL 1 (L.length - 1)) (ρ := [a0, a1, some (.tuple (L.map .int)), a3, a4, a5, a6, a7, a8, a9, a10, a11, a12, a13, some (.tuple (G.map .int)), a15, a16, a17, a18, a19, some (.list []), a21, a22, a23, a24, a25, a26, a27, a28, a29, a30, a31])
    (fun k ρ => ∃ x y, ρ = [a0, a1, some (.tuple (L.map .int)), a3, a4, a5, a6, a7, a8, a9, a10, a11, a12, a13, some (.tuple (G.map .int)), a15, a16, a17, a18, a19, some (.list (strOut L G k)), x, y, a23, a24, a25, a26, a27, a28, a29, a30, a31]) ⟨a21, a22, rfl⟩ (fun k dd ρ hk i => by
      obtain ⟨x, y, rfl⟩ := i
      obtain ⟨hk, rfl⟩ := rangeL_get hk
      have hlen := strOut_len L G k
      obtain ⟨z, st⟩ := @stL3 a0 a1 a3 a4 a5 a6 a7 a8 a9 a10 a11 a12 a13 a15 a16 a17 a18 a19 y a23 a24 a25 a26 a27 a28 a29 a30 a31 L G (strOut L G k) (1 + k) (by omega) (by omega) hl
      rw [← strOut_succ] at st
      refine ⟨_, _, rfl, .inl (Eq.trans ?_ st), some (.int ((1 + k : Nat) : Int)), z, rfl⟩
      rw [show (1 : Int) + (k : Int) = ((1 + k : Nat) : Int) by omega]
      rfl)
  rw [rangeL_len] at e
  refine ⟨x, y, ?_⟩
  have hr : rngD [.int 1, .int (L.length : Int)] = .ok (rangeL 1 (L.length - 1)) := rng2 (a := 1) (b := L.length) (by omega) (by omega)
  simp [hr, e]
theorem st24 {a0 a1 a3 a4 a5 a6 a7 a8 a9 a10 a11 a12 a13 a15 a16 a17 a18 a19 a21 a22 a23 a24 a25 a26 a27 a28 a29 a30 a31 : Option D} {L G : List Int} (hL : okL L = true) (hG : okG G = true) (hl : L.length ≤ 1000) : (ifD (bBin neD (eCall d_stretti (lCons (eName 2) (lCons (eName 14) lNil))) (eFun tupleD (lCons (eName 20) lNil))) (retD (eC (.bool false))) nextD) [a0, a1, some (.tuple (L.map .int)), a3, a4, a5, a6, a7, a8, a9, a10, a11, a12, a13, some (.tuple (G.map .int)), a15, a16, a17, a18, a19, some (.list (strOut L G (L.length - 1))), a21, a22, a23, a24, a25, a26, a27, a28, a29, a30, a31] = .nx [a0, a1, some (.tuple (L.map .int)), a3, a4, a5, a6, a7, a8, a9, a10, a11, a12, a13, some (.tuple (G.map .int)), a15, a16, a17, a18, a19, some (.list (strOut L G (L.length - 1))), a21, a22, a23, a24, a25, a26, a27, a28, a29, a30, a31] := by
  have sh : Sh 2 (.tuple (strOut L G (L.length - 1))) := sh_tup fun x hx => by
    unfold strOut at hx
    obtain ⟨i, _, hx⟩ := List.mem_flatMap.mp hx
    unfold strIn at hx
    obtain ⟨s, _, rfl⟩ := List.mem_map.mp hx
    exact sh_tup fun y hy => by
      simp only [List.mem_cons, List.not_mem_nil, or_false] at hy
      rcases hy with rfl | rfl <;> exact sh_int (n := 0)
  have ne := neD_same sh
  simp [stretti_ok L G hL hG hl, ne]
theorem st25 {a0 a2 a3 a4 a5 a6 a7 a8 a9 a10 a11 a12 a13 a14 a15 a16 a17 a18 a19 a20 a21 a22 a23 a24 a25 a26 a27 a28 a29 a30 a31 : Option D} {v : Nat → Int} {n : List Int} (ix : ∀ k : Nat, k < 50 → ixD (.list (n.map .int)) (.int (k : Int)) = .ok (.int (v k))) : (setG (gTupD (gConsD (gN 23) (gConsD (gN 24) gNilD))) (eTup (lCons (eBin addD (eBin modD (eIx (eName 1) (eC (.int 29))) (eC (.int 4))) (eC (.int 1))) (lCons (eBin subD (eBin modD (eIx (eName 1) (eC (.int 30))) (eC (.int 19))) (eC (.int 9))) lNil)))) [a0, some (.list (n.map .int)), a2, a3, a4, a5, a6, a7, a8, a9, a10, a11, a12, a13, a14, a15, a16, a17, a18, a19, a20, a21, a22, a23, a24, a25, a26, a27, a28, a29, a30, a31] = .nx [a0, some (.list (n.map .int)), a2, a3, a4, a5, a6, a7, a8, a9, a10, a11, a12, a13, a14, a15, a16, a17, a18, a19, a20, a21, a22, some (.int (v 29 % 4 + 1)), some (.int (v 30 % 19 - 9)), a25, a26, a27, a28, a29, a30, a31] := by
  have i29 : ixD (.list (n.map .int)) (.int 29) = .ok (.int (v 29)) := ix 29 (by decide)
  have i30 : ixD (.list (n.map .int)) (.int 30) = .ok (.int (v 30)) := ix 30 (by decide)
  simp [setG, gTupD, gConsD, gNilD, i29, i30]
theorem slow_eq (t : Nat) (ht : 1 ≤ t) : ∀ L : List Int, ((List.range (t * L.length)).map fun k => L.getD (k / t) 0) = slowT L t
  | [] => by simp [slowT]
  | x :: xs => by
    have ih := slow_eq t ht xs
    have e1 : slowT (x :: xs) t = List.replicate t x ++ slowT xs t := by
      unfold slowT
      rw [List.flatMap_cons]
    rw [e1, ← ih, List.length_cons, Nat.mul_succ, Nat.add_comm, List.range_add, List.map_append, List.map_map]
    congr 1
    · rw [List.eq_replicate_iff]
      refine ⟨by simp, fun b hb => ?_⟩
      obtain ⟨k, hk, rfl⟩ := List.mem_map.mp hb
      have hk := List.mem_range.mp hk
      rw [Nat.div_eq_of_lt hk] <;> rfl
    · apply List.map_congr_left
      intro k _
      show (x :: xs).getD ((t + k) / t) 0 = xs.getD (k / t) 0
      rw [Nat.add_div_left _ (by omega)] <;> rfl
theorem st26 {a0 a1 a3 a4 a5 a6 a7 a8 a9 a10 a11 a12 a13 a14 a15 a16 a17 a18 a19 a20 a21 a22 a25 a26 a27 a28 a29 a30 a31 : Option D} {L : List Int} {t : Nat} {c : Int} (h : okL L = true) (h1 : 1 ≤ t) (h8 : t ≤ 8) (hs : mag c ≤ 99) (hl : L.length ≤ 1000) (hm : okL (L.map fun x => 2 * c - x) = true) : (ifD (bOr (bBin neD (eCall d_slowed (lCons (eName 2) (lCons (eName 23) lNil))) (eFun tupleD (lCons (eLc (eRng (lCons (eBin mulD (eName 23) (eFun lenD (lCons (eName 2) lNil))) lNil)) (gN 28) bYes m_law_e15 [28]) lNil))) (bBin neD (eCall d_turned_line (lCons (eName 2) (lCons (eName 24) lNil))) (eFun tupleD (lCons (eLc (eIt (eName 2)) (gN 29) bYes m_law_e16 [29]) lNil)))) (retD (eC (.bool false))) nextD) [a0, a1, some (.tuple (L.map .int)), a3, a4, a5, a6, a7, a8, a9, a10, a11, a12, a13, a14, a15, a16, a17, a18, a19, a20, a21, a22, some (.int (t : Int)), some (.int c), a25, a26, a27, a28, a29, a30, a31] = .nx [a0, a1, some (.tuple (L.map .int)), a3, a4, a5, a6, a7, a8, a9, a10, a11, a12, a13, a14, a15, a16, a17, a18, a19, a20, a21, a22, some (.int (t : Int)), some (.int c), a25, a26, a27, a28, a29, a30, a31] := by
  have hmul : t * L.length ≤ 8 * 1000 := Nat.mul_le_mul h8 hl
  have hr : rngD [.int ((t : Int) * L.length)] = .ok (rangeL 0 (t * L.length)) := by
    have := rng1 (b := t * L.length) (by omega)
    rwa [Int.natCast_mul] at this
  have hz : (t : Int) < 18446744073709551616 := by omega
  have hz0 : (-18446744073709551616 : Int) < t := by omega
  have e : lcGo (gN 28) bYes m_law_e15 [a0, a1, some (.tuple (L.map .int)), a3, a4, a5, a6, a7, a8, a9, a10, a11, a12, a13, a14, a15, a16, a17, a18, a19, a20, a21, a22, some (.int (t : Int)), some (.int c), a25, a26, a27, none, a29, a30, a31] (rangeL 0 (t * L.length)) = .ok ((slowT L t).map .int) := by
    rw [← slow_eq t h1, rangeL0, lcGo_all (fun i : Nat => PyData.int i) (fun k => .int (L.getD (k / t) 0)) _ fun k hk => ⟨_, rfl, ?_⟩, List.map_map]
    · rfl
    · have hk := List.mem_range.mp hk
      have hlt : k / t < L.length := by
        rw [Nat.div_lt_iff_lt_mul (by omega), Nat.mul_comm]
        exact hk
      have hdiv : (k : Int) / (t : Int) = ((k / t : Nat) : Int) := rfl
      have t0 : 0 < t := by omega
      have t1 : (t : Int) < 1073741824 := by omega
      simp [-List.getD_eq_getElem?_getD, -Int.natCast_ediv, m_law_e15, hdiv, ix_tI hlt, t0, t1]
  have e2 : lcGo (gN 29) bYes m_law_e16 [a0, a1, some (.tuple (L.map .int)), a3, a4, a5, a6, a7, a8, a9, a10, a11, a12, a13, a14, a15, a16, a17, a18, a19, a20, a21, a22, some (.int (t : Int)), some (.int c), a25, a26, a27, a28, none, a30, a31] (L.map PyData.int) = .ok ((L.map fun x => 2 * c - x).map PyData.int) := by
    rw [lcGo_all PyData.int (fun a => .int (2 * c - a)) L fun a _ => ⟨_, rfl, by simp [m_law_e16]⟩, List.map_map]
    rfl
  have hb : (slowT L t).length < 16777216 := by
    rw [slow_len, Nat.mul_comm]
    omega
  have hb2 : L.length < 16777216 := by omega
  have n1 := neD_same (sh_tI (L := slowT L t))
  have n2 := neD_same (sh_tI (L := L.map fun x => 2 * c - x))
  have s1 := slowed_ok L t h h1 h8 hl
  have s2 := turned_line_ok L c h hs hb2 hm
  simp [-List.map_map, hr, hz, hz0, e, e2, hb, hb2, n1, n2, s1, s2]
theorem st27 {a0 a1 a3 a4 a5 a6 a7 a8 a9 a10 a11 a12 a13 a14 a15 a16 a17 a18 a19 a20 a21 a22 a23 a25 a26 a27 a28 a29 a30 a31 : Option D} {L : List Int} {c : Int} (h : okL L = true) (hs : mag c ≤ 99) (hl : L.length ≤ 1000) (hm : okL (L.map fun x => 2 * c - x) = true) : (ifD (bBin neD (eCall d_turned_line (lCons (eCall d_turned_line (lCons (eName 2) (lCons (eName 24) lNil))) (lCons (eName 24) lNil))) (eName 2)) (retD (eC (.bool false))) nextD) [a0, a1, some (.tuple (L.map .int)), a3, a4, a5, a6, a7, a8, a9, a10, a11, a12, a13, a14, a15, a16, a17, a18, a19, a20, a21, a22, a23, some (.int c), a25, a26, a27, a28, a29, a30, a31] = .nx [a0, a1, some (.tuple (L.map .int)), a3, a4, a5, a6, a7, a8, a9, a10, a11, a12, a13, a14, a15, a16, a17, a18, a19, a20, a21, a22, a23, some (.int c), a25, a26, a27, a28, a29, a30, a31] := by
  have hb : L.length < 16777216 := by omega
  have s1 := turned_line_ok L c h hs hb hm
  have id2 : ((L.map fun x => 2 * c - x).map fun x => 2 * c - x) = L := by
    rw [List.map_map]
    conv => rhs; rw [← List.map_id L]
    apply List.map_congr_left
    intro x _
    show 2 * c - (2 * c - x) = x
    omega
  have s2 := turned_line_ok (L.map fun x => 2 * c - x) c hm hs (by rw [List.length_map]; exact hb) (by rw [id2]; exact h)
  rw [id2] at s2
  have n1 := neD_same (sh_tI (L := L))
  simp [-List.map_map, s1, s2, n1]
theorem st28 {a0 a2 a3 a4 a5 a6 a7 a8 a9 a10 a11 a12 a13 a14 a15 a16 a17 a18 a19 a20 a21 a22 a23 a24 a25 a26 a27 a28 a29 a30 a31 : Option D} {v : Nat → Int} {n : List Int} (ix : ∀ k : Nat, k < 50 → ixD (.list (n.map .int)) (.int (k : Int)) = .ok (.int (v k))) : (setD 25 (eBin modD (eIx (eName 1) (eC (.int 31))) (eC (.int 4)))) [a0, some (.list (n.map .int)), a2, a3, a4, a5, a6, a7, a8, a9, a10, a11, a12, a13, a14, a15, a16, a17, a18, a19, a20, a21, a22, a23, a24, a25, a26, a27, a28, a29, a30, a31] = .nx [a0, some (.list (n.map .int)), a2, a3, a4, a5, a6, a7, a8, a9, a10, a11, a12, a13, a14, a15, a16, a17, a18, a19, a20, a21, a22, a23, a24, some (.int (v 31 % 4)), a26, a27, a28, a29, a30, a31] := by
  have i31 : ixD (.list (n.map .int)) (.int 31) = .ok (.int (v 31)) := ix 31 (by decide)
  simp [i31]
theorem st29 {a0 a3 a4 a5 a6 a7 a8 a9 a10 a11 a12 a13 a14 a15 a16 a17 a18 a19 a20 a21 a22 a23 a24 a26 a27 a28 a29 a30 a31 : Option D} {v : Nat → Int} {n : List Int} (ix : ∀ k : Nat, k < 50 → ixD (.list (n.map .int)) (.int (k : Int)) = .ok (.int (v k))) {L : List Int} {cl j : Nat} (hj : v 32 % 3 = (j : Int)) (c4 : cl < 4) (j3 : j < 3) : (setD 26 (eIx (eIx (eTup (lCons (eTup (lCons (eC (.int 100)) (lCons (eC .none) (lCons (eC (.bool true)) lNil)))) (lCons (eTup (lCons (eC (.int 0)) (lCons (eC (.int 9)) (lCons (eC .none) lNil)))) (lCons (eTup (lCons (eLst (lCons (eC (.int 0)) lNil)) (lCons (eTup (lCons (eC (.int 7)) lNil)) (lCons (eTup (lCons (eC (.int 1)) (lCons (eC (.int 1)) lNil))) lNil)))) (lCons (eTup (lCons (eBin addD (eFun lenD (lCons (eName 2) lNil)) (eC (.int 1))) (lCons (eNeg (eC (.int 1))) (lCons (eC .none) lNil)))) lNil))))) (eName 25)) (eBin modD (eIx (eName 1) (eC (.int 32))) (eC (.int 3))))) [a0, some (.list (n.map .int)), some (.tuple (L.map .int)), a3, a4, a5, a6, a7, a8, a9, a10, a11, a12, a13, a14, a15, a16, a17, a18, a19, a20, a21, a22, a23, a24, some (.int (cl : Int)), a26, a27, a28, a29, a30, a31] = .nx [a0, some (.list (n.map .int)), some (.tuple (L.map .int)), a3, a4, a5, a6, a7, a8, a9, a10, a11, a12, a13, a14, a15, a16, a17, a18, a19, a20, a21, a22, a23, a24, some (.int (cl : Int)), some (wrongV L.length cl j), a27, a28, a29, a30, a31] := by
  have i32 : ixD (.list (n.map .int)) (.int 32) = .ok (.int (v 32)) := ix 32 (by decide)
  have en : eNeg (eC (.int 1)) [a0, some (.list (n.map .int)), some (.tuple (L.map .int)), a3, a4, a5, a6, a7, a8, a9, a10, a11, a12, a13, a14, a15, a16, a17, a18, a19, a20, a21, a22, a23, a24, some (.int (cl : Int)), a26, a27, a28, a29, a30, a31] = .ok (.int (-1)) := q_neg rfl
  match cl, c4, j, j3 with
  | 0, _, 0, _ => simp [i32, hj, en, ixD_tup, atI, ixN, wrongV]
  | 0, _, 1, _ => simp [i32, hj, en, ixD_tup, atI, ixN, wrongV]
  | 0, _, 2, _ => simp [i32, hj, en, ixD_tup, atI, ixN, wrongV]
  | 1, _, 0, _ => simp [i32, hj, en, ixD_tup, atI, ixN, wrongV]
  | 1, _, 1, _ => simp [i32, hj, en, ixD_tup, atI, ixN, wrongV]
  | 1, _, 2, _ => simp [i32, hj, en, ixD_tup, atI, ixN, wrongV]
  | 2, _, 0, _ => simp [i32, hj, en, ixD_tup, atI, ixN, wrongV]
  | 2, _, 1, _ => simp [i32, hj, en, ixD_tup, atI, ixN, wrongV]
  | 2, _, 2, _ => simp [i32, hj, en, ixD_tup, atI, ixN, wrongV]
  | 3, _, 0, _ => simp [i32, hj, en, ixD_tup, atI, ixN, wrongV]
  | 3, _, 1, _ => simp [i32, hj, en, ixD_tup, atI, ixN, wrongV]
  | 3, _, 2, _ => simp [i32, hj, en, ixD_tup, atI, ixN, wrongV]
theorem st30 {a0 a1 a2 a3 a4 a5 a6 a7 a8 a9 a10 a11 a12 a13 a14 a15 a16 a17 a18 a19 a20 a21 a22 a23 a24 a26 a27 a28 a29 a30 a31 : Option D} {cl : Nat} (c4 : cl < 4) : (setD 27 (eIx (eTup (lCons (eC (.int 0)) (lCons (eC (.int 1)) (lCons (eTup (lCons (eC (.int 0)) lNil)) (lCons (eC (.int 0)) lNil))))) (eName 25))) [a0, a1, a2, a3, a4, a5, a6, a7, a8, a9, a10, a11, a12, a13, a14, a15, a16, a17, a18, a19, a20, a21, a22, a23, a24, some (.int (cl : Int)), a26, a27, a28, a29, a30, a31] = .nx [a0, a1, a2, a3, a4, a5, a6, a7, a8, a9, a10, a11, a12, a13, a14, a15, a16, a17, a18, a19, a20, a21, a22, a23, a24, some (.int (cl : Int)), a26, some (rightV cl), a28, a29, a30, a31] := by
  match cl, c4 with
  | 0, _ => simp [ixD_tup, atI, ixN, rightV]
  | 1, _ => simp [ixD_tup, atI, ixN, rightV]
  | 2, _ => simp [ixD_tup, atI, ixN, rightV]
  | 3, _ => simp [ixD_tup, atI, ixN, rightV]
theorem sh_str {x : Str} (h : PyData.strOk x = true) : Sh 0 (.str x) := ⟨by unfold PyData.canLay0; exact h, by unfold PyData.depth; exact Nat.le_refl _⟩
theorem eq_task : eqD (.str "task") (.str "task") = .ok (.bool true) := eqD_same (sh_str (by decide +kernel))
theorem eq_line : eqD (.str "line") (.str "line") = .ok (.bool true) := eqD_same (sh_str (by decide +kernel))
theorem st31 {a0 a3 a4 a5 a6 a7 a8 a9 a10 a11 a12 a13 a14 a15 a16 a17 a18 a19 a20 a21 a22 a23 a24 a28 a29 a30 a31 : Option D} {v : Nat → Int} {n : List Int} (ix : ∀ k : Nat, k < 50 → ixD (.list (n.map .int)) (.int (k : Int)) = .ok (.int (v k))) {L : List Int} {cl j q : Nat} (hL : okL L = true) (hq : v 33 % 4 = (q : Int)) (c4 : cl < 4) (j3 : j < 3) (q4 : q < 4) : (retD (eAnd (eBin eqD (eCall d__law_refusal (lCons (eName 25) (lCons (eName 2) (lCons (eName 26) lNil)))) (eC (.str "task"))) (eBin eqD (eCall d__law_refusal (lCons (eName 25) (lCons (eIx (eTup (lCons (eTup lNil) (lCons (eLst (lCons (eC (.int 0)) lNil)) (lCons (eTup (lCons (eC (.int 200)) lNil)) (lCons (eC .none) lNil))))) (eBin modD (eIx (eName 1) (eC (.int 33))) (eC (.int 4)))) (lCons (eName 27) lNil)))) (eC (.str "line"))))) [a0, some (.list (n.map .int)), some (.tuple (L.map .int)), a3, a4, a5, a6, a7, a8, a9, a10, a11, a12, a13, a14, a15, a16, a17, a18, a19, a20, a21, a22, a23, a24, some (.int (cl : Int)), some (wrongV L.length cl j), some (rightV cl), a28, a29, a30, a31] = .rt (.bool true) := by
  have i33 : ixD (.list (n.map .int)) (.int 33) = .ok (.int (v 33)) := ix 33 (by decide)
  have e1 := refuse_task L hL cl j c4 j3
  have e2 := refuse_line cl q c4
  have e3 : ixD (.tuple [.tuple [], .list [.int 0], .tuple [.int 200], .none]) (.int (q : Int)) = .ok (badLine q) := by
    match q, q4 with
    | 0, _ => rfl
    | 1, _ => rfl
    | 2, _ => rfl
    | 3, _ => rfl
  simp [i33, hq, e1, e2, e3, eq_task, eq_line]
end Pd.Law
namespace Pd.Law
open PySem PySem.Spec PyProof.Rows L2 Pd
open Pd (D Env)
theorem use2 {A B : Env → RS} {ρ : Env} {f : Option D → Option D → Env} {r : RS} (h : ∃ x y, A ρ = .nx (f x y)) (k : ∀ x y, RS.seq (.nx (f x y)) B = r) : RS.seq (A ρ) B = r := by
  obtain ⟨x, y, e⟩ := h
  rw [e]
  exact k x y
theorem okL_of {L : List Int} (h : 1 ≤ L.length) (hb : ∀ x ∈ L, -199 ≤ x ∧ x ≤ 199) : okL L = true := by
  unfold okL
  rw [Bool.and_eq_true]
  constructor
  · cases L with
    | nil => simp at h
    | cons x xs => rfl
  · rw [List.all_eq_true]
    intro x hx
    have := hb x hx
    unfold mag
    apply decide_eq_true
    split <;> omega
theorem fits_both (L M G : List Int) (s : Int) : (fits L M G && fits M (L.map (· + s)) G) = (gaps M L).all fun x => decide (x ∈ G.filter fun x => decide ((s - x) % 7 ∈ G)) := by
  have e : gaps (L.map (· + s)) M = (gaps M L).map fun x => (s - x) % 7 := by
    unfold gaps
    rw [List.length_map, Nat.min_comm, List.map_map]
    apply List.map_congr_left
    intro k hk
    have hk := List.mem_range.mp hk
    have h2 : k < L.length := by omega
    have h1 : (L.map (· + s)).getD k 0 = L.getD k 0 + s := by simp [List.getD, h2]
    show ((L.map (· + s)).getD k 0 - M.getD k 0) % 7 = (s - (M.getD k 0 - L.getD k 0) % 7) % 7
    rw [h1]
    omega
  unfold fits
  rw [e, List.all_map]
  generalize gaps M L = A
  induction A with
  | nil => rfl
  | cons x xs ih =>
    simp only [List.all_cons]
    rw [← ih]
    simp only [Function.comp, List.mem_filter, decide_eq_true_eq]
    by_cases h1 : x ∈ G <;> by_cases h2 : (s - x) % 7 ∈ G <;> simp [h1, h2]
theorem okG_range {p : Nat → Bool} : okG (((List.range 7).filter p).map fun i : Nat => (i : Int)) = true := by
  have nd : (((List.range 7).filter p).map fun i : Nat => (i : Int)).Nodup := by
    have h0 : ((List.range 7).filter p).Pairwise (· ≠ ·) := List.Pairwise.sublist List.filter_sublist List.nodup_range
    show List.Pairwise _ _
    rw [List.pairwise_map]
    exact h0.imp fun h e => h (by omega)
  have hb : ∀ x ∈ (((List.range 7).filter p).map fun i : Nat => (i : Int)), 0 ≤ x ∧ x ≤ 6 := by
    intro x hx
    obtain ⟨i, hi, rfl⟩ := List.mem_map.mp hx
    have := List.mem_range.mp (List.mem_filter.mp hi).1
    omega
  unfold okG
  generalize (((List.range 7).filter p).map fun i : Nat => (i : Int)) = Z at nd hb
  rw [Bool.and_eq_true]
  constructor
  · rw [List.all_eq_true]
    intro x hx
    have := hb x hx
    simp [this.1, this.2]
  · rw [Bool.not_eq_true', List.any_eq_false]
    intro x hx
    have := List.nodup_iff_count.mp nd x
    simp
    omega
theorem okG_rev {G : List Int} (h : okG G = true) : okG G.reverse = true := by
  unfold okG at h ⊢
  rw [List.all_reverse, List.any_reverse]
  simpa using h
theorem ton_bounds {L : List Int} {g h : Int} (hb : ∀ x ∈ L, -3 ≤ x ∧ x ≤ 8) : ∀ x ∈ tonal L g h, -199 ≤ x ∧ x ≤ 199 := by
  intro x hx
  unfold tonal at hx
  obtain ⟨k, hk, rfl⟩ := List.mem_map.mp hx
  have hk := List.mem_range.mp hk
  have := hb (L.getD k 0) (by rw [getD_lt hk]; exact List.getElem_mem hk)
  unfold tonT
  split <;> omega
theorem map_bounds {L : List Int} {f : Int → Int} (hb : ∀ x ∈ L, -3 ≤ x ∧ x ≤ 8) (hf : ∀ x, -3 ≤ x → x ≤ 8 → -199 ≤ f x ∧ f x ≤ 199) : ∀ x ∈ L.map f, -199 ≤ x ∧ x ≤ 199 := by
  intro x hx
  obtain ⟨y, hy, rfl⟩ := List.mem_map.mp hx
  have := hb y hy
  exact hf y this.1 this.2
theorem plain (ns : List Int) (d : D) (_ : ns.length ≤ 63) (hd : d = .list (ns.map .int) ∨ d = .dict [(.none, .tuple (ns.map .int))]) : d_law [d] = .ok (.bool true) := by
  obtain ⟨c, hc⟩ := cell_ok ns d hd
  obtain ⟨n, hn, hdr⟩ := draws_ok c
  obtain ⟨v, ix⟩ : ∃ v : Nat → Int, ∀ k : Nat, k < 50 → ixD (.list (n.map .int)) (.int (k : Int)) = .ok (.int (v k)) := ⟨fun k => n.getD k 0, fun k hk => ix_lI (by omega)⟩
  obtain ⟨a, ha, a1, a7⟩ : ∃ a : Nat, v 0 % 7 + 1 = (a : Int) ∧ 1 ≤ a ∧ a ≤ 7 := ⟨(v 0 % 7 + 1).toNat, by omega, by omega, by omega⟩
  obtain ⟨b, hb, b1, b7⟩ : ∃ b : Nat, v 8 % 7 + 1 = (b : Int) ∧ 1 ≤ b ∧ b ≤ 7 := ⟨(v 8 % 7 + 1).toNat, by omega, by omega, by omega⟩
  obtain ⟨gp, hgp, gp1, gp5⟩ : ∃ gp : Nat, v 19 % 5 + 1 = (gp : Int) ∧ 1 ≤ gp ∧ gp ≤ 5 := ⟨(v 19 % 5 + 1).toNat, by omega, by omega, by omega⟩
  obtain ⟨vo, hvo, vo1, vo4⟩ : ∃ vo : Nat, v 20 % 4 + 1 = (vo : Int) ∧ 1 ≤ vo ∧ vo ≤ 4 := ⟨(v 20 % 4 + 1).toNat, by omega, by omega, by omega⟩
  obtain ⟨t, ht, t1, t4⟩ : ∃ t : Nat, v 29 % 4 + 1 = (t : Int) ∧ 1 ≤ t ∧ t ≤ 4 := ⟨(v 29 % 4 + 1).toNat, by omega, by omega, by omega⟩
  obtain ⟨cl, hcl, c4⟩ : ∃ cl : Nat, v 31 % 4 = (cl : Int) ∧ cl < 4 := ⟨(v 31 % 4).toNat, by omega, by omega⟩
  obtain ⟨j, hj, j3⟩ : ∃ j : Nat, v 32 % 3 = (j : Int) ∧ j < 3 := ⟨(v 32 % 3).toNat, by omega, by omega⟩
  obtain ⟨q, hq, q4⟩ : ∃ q : Nat, v 33 % 4 = (q : Int) ∧ q < 4 := ⟨(v 33 % 4).toNat, by omega, by omega⟩
  have s1 := @st1 (some d)
  have s2 := @st2 (some d)
  obtain ⟨L, eL, lL, bL⟩ : ∃ L : List Int, ((List.range a).map fun k => v (1 + k) % 12 - 3) = L ∧ L.length = a ∧ ∀ x ∈ L, -3 ≤ x ∧ x ≤ 8 := ⟨_, rfl, by simp, fun x hx => by
    obtain ⟨k, _, rfl⟩ := List.mem_map.mp hx
    omega⟩
  obtain ⟨M, eM, lM, bM⟩ : ∃ M : List Int, ((List.range b).map fun k => v (9 + k) % 12 + 1) = M ∧ M.length = b ∧ ∀ x ∈ M, 1 ≤ x ∧ x ≤ 12 := ⟨_, rfl, by simp, fun x hx => by
    obtain ⟨k, _, rfl⟩ := List.mem_map.mp hx
    omega⟩
  obtain ⟨G0, eG0, oG0⟩ : ∃ G : List Int, (((List.range 7).filter fun k => decide (v (21 + k) % 2 = 0)).map fun i : Nat => (i : Int)) = G ∧ okG G = true ∧ G.length ≤ 7 := ⟨_, rfl, okG_range, by
    rw [List.length_map]
    exact Nat.le_trans (List.length_filter_le _ _) (by simp)⟩
  obtain ⟨G, eG, oG, lG⟩ : ∃ G : List Int, (if v 28 % 2 = 0 then G0.reverse else G0) = G ∧ okG G = true ∧ G.length ≤ 7 := ⟨_, rfl, by
    split
    · exact okG_rev oG0.1
    · exact oG0.1, by
    split
    · rw [List.length_reverse]; exact oG0.2
    · exact oG0.2⟩
  have kL : okL L = true := okL_of (by omega) fun x hx => by have := bL x hx; omega
  have kM : okL M = true := okL_of (by omega) fun x hx => by have := bM x hx; omega
  have kLs : okL (L.map (· + (v 16 % 21 - 10))) = true := okL_of (by rw [List.length_map]; omega) (map_bounds bL fun x h1 h2 => by omega)
  have kLc : okL (L.map fun x => 2 * (v 30 % 19 - 9) - x) = true := okL_of (by rw [List.length_map]; omega) (map_bounds bL fun x h1 h2 => by omega)
  have kT : okL (tonal L (v 17 % 15 - 7) (v 18 % ((L.length : Int) + 1))) = true := okL_of (by unfold tonal; rw [List.length_map, List.length_range]; omega) (ton_bounds bL)
  have m16 : mag (v 16 % 21 - 10) ≤ 99 := by unfold mag; split <;> omega
  have m17 : mag (v 17 % 15 - 7) ≤ 99 := by unfold mag; split <;> omega
  have m30 : mag (v 30 % 19 - 9) ≤ 99 := by unfold mag; split <;> omega
  have h18 : 0 ≤ v 18 % ((L.length : Int) + 1) := Int.emod_nonneg _ (by omega)
  have h18b : v 18 % ((L.length : Int) + 1) ≤ L.length := by
    have := Int.emod_lt_of_pos (v 18) (show (0 : Int) < (L.length : Int) + 1 by omega)
    omega
  have rne : rowsK L M gp vo ≠ [] := by
    unfold rowsK
    intro h
    have := congrArg List.length h
    simp at this
    omega
  have rlen : (rowsK L M gp vo).length < 16777216 := by
    unfold rowsK
    simp
    omega
  have rle : ∀ r ∈ rowsK L M gp vo, r.length ≤ 100000 := by
    intro r hr
    unfold rowsK at hr
    obtain ⟨k, hk, rfl⟩ := List.mem_map.mp hr
    have hk := List.mem_range.mp hk
    have hm : k * gp ≤ 4 * 5 := Nat.mul_le_mul (by omega) gp5
    unfold rowK
    rw [List.length_append, List.length_replicate, List.length_map]
    split <;> omega
  have gl1 : (gaps M L).length ≤ 1000 := by unfold gaps; rw [List.length_map, List.length_range]; omega
  have gl2 : (gaps (L.map (· + (v 16 % 21 - 10))) M).length ≤ 1000 := by unfold gaps; rw [List.length_map, List.length_range]; omega
  have chain : m_law [some d, none, none, none, none, none, none, none, none, none, none, none, none, none, none, none, none, none, none, none, none, none, none, none, none, none, none, none, none, none, none, none] = .rt (.bool true) := by
    unfold m_law
    rw [q_seq, st0 hc hdr, q_seq_nx, q_seq, st1 ix ha a7, q_seq_nx, eL, q_seq, st2 ix hb b7, q_seq_nx, eM, q_seq, st3 ix, q_seq_nx, q_seq, st4 kL m16 (by omega) kLs, q_seq_nx, q_seq, st5, q_seq_nx, q_seq]
    refine use2 (st6 (by omega)) fun x8 x9 => ?_
    rw [q_seq_nx, q_seq, st7 kL m17 h18 h18b (by omega) kT, q_seq_nx, q_seq, st8 ix, q_seq_nx, hgp, hvo, q_seq, st9 (by omega) (by omega) (by omega) (by omega), q_seq_nx, q_seq, st10 kL kM gp1 (by omega) vo1 (by omega) (by omega) (by omega), q_seq_nx,
      q_seq, st11 rne rlen, q_seq_nx, q_seq, st12 rne rlen rle, q_seq_nx, q_seq, st13 ix, q_seq_nx, eG0, q_seq, st14 ix, q_seq_nx, eG, q_seq, st15, q_seq_nx, q_seq, st16 (by omega), q_seq_nx, q_seq, st17 (by omega), q_seq_nx, q_seq, st18 gl1 gl2, q_seq_nx]
    rw [show (((gaps M L).all fun x => decide (x ∈ G)) && (gaps (L.map (· + (v 16 % 21 - 10))) M).all fun x => decide (x ∈ G)) = (fits L M G && fits M (L.map (· + (v 16 % 21 - 10))) G) from rfl]
    rw [q_seq, st19 kL kM m16 oG (by omega) (by omega), q_seq_nx, q_seq, st20 (by omega), q_seq_nx, q_seq, st21 oG m16 (by omega) gl1 (fits_both L M G _), q_seq_nx, q_seq, st22, q_seq_nx, q_seq]
    refine use2 (st23 (by omega) (by omega)) fun x21 x22 => ?_
    rw [q_seq_nx, q_seq, st24 kL oG (by omega), q_seq_nx, q_seq, st25 ix, q_seq_nx, ht, q_seq, st26 kL t1 (by omega) m30 (by omega) kLc, q_seq_nx, q_seq, st27 kL m30 (by omega) kLc, q_seq_nx, q_seq, st28 ix, q_seq_nx, hcl, q_seq, st29 ix hj c4 j3, q_seq_nx, q_seq, st30 c4, q_seq_nx, st31 ix kL hq c4 j3 q4]
  unfold d_law callD
  exact (congrArg finD chain).trans rfl
end Pd.Law
namespace Pd.Law
open PySem PySem.Spec PyProof.Rows L2 Pd
open Pd (D Env)
def fn : List He.DefD := [⟨("_law_draws", none), "_law_draws", "_law_draws", defArgs (top 23), defBody (top 23), defScope (top 23), [], []⟩, ⟨("_law_cell", none), "_law_cell", "_law_cell", defArgs (top 22), defBody (top 22), defScope (top 22), [], []⟩, ⟨("is_number", none), "is_number", "is_number", defArgs (top 5), defBody (top 5), defScope (top 5), [], []⟩, ⟨("check_notes", none), "check_notes", "check_notes", defArgs (top 6), defBody (top 6), defScope (top 6), [], []⟩, ⟨("check_steps", none), "check_steps", "check_steps", defArgs (top 8), defBody (top 8), defScope (top 8), [], []⟩, ⟨("real_answer", none), "real_answer", "real_answer", defArgs (top 9), defBody (top 9), defScope (top 9), [], []⟩, ⟨("tonal_answer", none), "tonal_answer", "tonal_answer", defArgs (top 10), defBody (top 10), defScope (top 10), [], []⟩, ⟨("entries", none), "entries", "entries", defArgs (top 11), defBody (top 11), defScope (top 11), [], []⟩, ⟨("chords_in", none), "chords_in", "chords_in", defArgs (top 12), defBody (top 12), defScope (top 12), [], []⟩, ⟨("check_good", none), "check_good", "check_good", defArgs (top 16), defBody (top 16), defScope (top 16), [], []⟩, ⟨("gaps_between", none), "gaps_between", "gaps_between", defArgs (top 13), defBody (top 13), defScope (top 13), [], []⟩, ⟨("fits_over", none), "fits_over", "fits_over", defArgs (top 14), defBody (top 14), defScope (top 14), [], []⟩, ⟨("turnable", none), "turnable", "turnable", defArgs (top 15), defBody (top 15), defScope (top 15), [], []⟩, ⟨("stretti", none), "stretti", "stretti", defArgs (top 18), defBody (top 18), defScope (top 18), [], []⟩, ⟨("turned_line", none), "turned_line", "turned_line", defArgs (top 20), defBody (top 20), defScope (top 20), [], []⟩, ⟨("turned_good", none), "turned_good", "turned_good", defArgs (top 17), defBody (top 17), defScope (top 17), [], []⟩, ⟨("slowed", none), "slowed", "slowed", defArgs (top 19), defBody (top 19), defScope (top 19), [], []⟩, ⟨("_law_refusal", none), "_law_refusal", "_law_refusal", defArgs (top 24), defBody (top 24), defScope (top 24), [], []⟩, ⟨("law", none), "law", "law", defArgs (top 25), defBody (top 25), defScope (top 25), [], []⟩]
def fa0 : List He.Fa := [.glo "_law_draws", .glo "_law_cell", .glo "is_number", .glo "check_notes", .glo "check_steps", .glo "real_answer", .glo "tonal_answer", .glo "entries", .glo "chords_in", .glo "check_good", .glo "gaps_between", .glo "fits_over", .glo "turnable", .glo "stretti", .glo "turned_line", .glo "turned_good", .glo "slowed", .glo "_law_refusal", .glo "law", .glo "BadLine", .exc "BadLine", .glo "BadTask", .exc "BadTask", .exm "BadLine" "BadLine" true, .exm "BadTask" "BadLine" false, .exm "BadLine" "BadTask" false, .exm "BadTask" "BadTask" true]
def fa : List He.Fa := fa0 ++ btNames.map He.Fa.free
def tf : List He.Defn := [("check_notes", none), ("chords_in", none), ("check_good", none), ("fits_over", none), ("stretti", none)]
abbrev hk : PySem.W.Hook := He.hookX 4 fa fn [] tf (fun _ => true)
def ob (s : PySem.W.SharedT) : He.AlX := He.obsX 4 fa fn [] tf (fun _ => true) (HandSHeadRun.getT s)
theorem ob_eq (s : PySem.W.SharedT) : ob s = hk.obs s.abs := He.obsX_eq (HandSHeadRun.getT_eq s)
abbrev RR : PySem.W.OpenRow := PySem.W.OpenLaw.row PySem.Challenge.rw_tuneworks_k85_answers_and_entries
def loose0 : List Str := ["CantusError", "BadLine", "BadTask", "is_number", "check_notes", "check_steps", "real_answer", "tonal_answer", "entries", "chords_in", "gaps_between", "fits_over", "turnable", "check_good", "turned_good", "stretti", "slowed", "turned_line", "_law_cell", "_law_draws", "_law_refusal"]
def loose : List Str := loose0
theorem run (w : World) : HandSHeadRun.RunEq RR (PySem.W.view RR.prog [25]) hk ob 4000 loose w := by
  intro os
  kernel_rfl
theorem facts {l : PySem.W.OpenLaw} {w : World} {K : PySem.W.Frag} {h : Heap} {mg : Str → Option Value} {f : Addr} (X : K.In h) (G : h.Ns mainGlobals mg) (hfa : mg ("law" : Str) = some (.ref f)) (c : He.SaysX fa fn [] tf (fun _ => true) w h K)
    (plain : ∀ (ns : List Int) (d : D), ns.length ≤ 63 → (d = .list (ns.map .int) ∨ d = .dict [(.none, .tuple (ns.map .int))]) → d_law [d] = .ok (.bool true)) : LamX.LawAtS l w K (L2.CX l.prog w) 8 63 "script" mg f h := by
  have cd := c.t.d
  obtain ⟨fd0, F0⟩ := cd.def_ 0 rfl
  obtain ⟨fd1, F1⟩ := cd.def_ 1 rfl
  obtain ⟨fd2, F2⟩ := cd.def_ 2 rfl
  obtain ⟨fd3, F3⟩ := cd.def_ 3 rfl
  obtain ⟨fd4, F4⟩ := cd.def_ 4 rfl
  obtain ⟨fd5, F5⟩ := cd.def_ 5 rfl
  obtain ⟨fd6, F6⟩ := cd.def_ 6 rfl
  obtain ⟨fd7, F7⟩ := cd.def_ 7 rfl
  obtain ⟨fd8, F8⟩ := cd.def_ 8 rfl
  obtain ⟨fd9, F9⟩ := cd.def_ 9 rfl
  obtain ⟨fd10, F10⟩ := cd.def_ 10 rfl
  obtain ⟨fd11, F11⟩ := cd.def_ 11 rfl
  obtain ⟨fd12, F12⟩ := cd.def_ 12 rfl
  obtain ⟨fd13, F13⟩ := cd.def_ 13 rfl
  obtain ⟨fd14, F14⟩ := cd.def_ 14 rfl
  obtain ⟨fd15, F15⟩ := cd.def_ 15 rfl
  obtain ⟨fd16, F16⟩ := cd.def_ 16 rfl
  obtain ⟨fd17, F17⟩ := cd.def_ 17 rfl
  obtain ⟨fd18, F18⟩ := cd.def_ 18 rfl
  have g0 := He.glo_ok X G (cd.fact 0 (f := .glo "_law_draws") rfl)
  have g1 := He.glo_ok X G (cd.fact 1 (f := .glo "_law_cell") rfl)
  have g2 := He.glo_ok X G (cd.fact 2 (f := .glo "is_number") rfl)
  have g3 := He.glo_ok X G (cd.fact 3 (f := .glo "check_notes") rfl)
  have g4 := He.glo_ok X G (cd.fact 4 (f := .glo "check_steps") rfl)
  have g5 := He.glo_ok X G (cd.fact 5 (f := .glo "real_answer") rfl)
  have g6 := He.glo_ok X G (cd.fact 6 (f := .glo "tonal_answer") rfl)
  have g7 := He.glo_ok X G (cd.fact 7 (f := .glo "entries") rfl)
  have g8 := He.glo_ok X G (cd.fact 8 (f := .glo "chords_in") rfl)
  have g9 := He.glo_ok X G (cd.fact 9 (f := .glo "check_good") rfl)
  have g10 := He.glo_ok X G (cd.fact 10 (f := .glo "gaps_between") rfl)
  have g11 := He.glo_ok X G (cd.fact 11 (f := .glo "fits_over") rfl)
  have g12 := He.glo_ok X G (cd.fact 12 (f := .glo "turnable") rfl)
  have g13 := He.glo_ok X G (cd.fact 13 (f := .glo "stretti") rfl)
  have g14 := He.glo_ok X G (cd.fact 14 (f := .glo "turned_line") rfl)
  have g15 := He.glo_ok X G (cd.fact 15 (f := .glo "turned_good") rfl)
  have g16 := He.glo_ok X G (cd.fact 16 (f := .glo "slowed") rfl)
  have g17 := He.glo_ok X G (cd.fact 17 (f := .glo "_law_refusal") rfl)
  have g18 := He.glo_ok X G (cd.fact 18 (f := .glo "law") rfl)
  have x_BadLine : ExD K mg "BadLine" := ⟨He.glo_ok X G (cd.fact 19 (f := .glo "BadLine") rfl), (He.exc_ok (cd.fact 20 (f := .exc "BadLine") rfl)).1, (He.exc_ok (cd.fact 20 (f := .exc "BadLine") rfl)).2.1, (He.exc_ok (cd.fact 20 (f := .exc "BadLine") rfl)).2.2.1, (He.exc_ok (cd.fact 20 (f := .exc "BadLine") rfl)).2.2.2⟩
  have x_BadTask : ExD K mg "BadTask" := ⟨He.glo_ok X G (cd.fact 21 (f := .glo "BadTask") rfl), (He.exc_ok (cd.fact 22 (f := .exc "BadTask") rfl)).1, (He.exc_ok (cd.fact 22 (f := .exc "BadTask") rfl)).2.1, (He.exc_ok (cd.fact 22 (f := .exc "BadTask") rfl)).2.2.1, (He.exc_ok (cd.fact 22 (f := .exc "BadTask") rfl)).2.2.2⟩
  have y__law_refusal_BadLine : Exm K "BadLine" tb__law_refusal_BadLine := by
    intro p hp
    unfold tb__law_refusal_BadLine at hp
    simp only [List.mem_cons, List.not_mem_nil, or_false] at hp
    rcases hp with rfl | rfl
    · exact He.exm_ok (cd.fact 23 (f := .exm "BadLine" "BadLine" true) rfl)
    · exact He.exm_ok (cd.fact 24 (f := .exm "BadTask" "BadLine" false) rfl)
  have y__law_refusal_BadTask : Exm K "BadTask" tb__law_refusal_BadTask := by
    intro p hp
    unfold tb__law_refusal_BadTask at hp
    simp only [List.mem_cons, List.not_mem_nil, or_false] at hp
    rcases hp with rfl | rfl
    · exact He.exm_ok (cd.fact 25 (f := .exm "BadLine" "BadTask" false) rfl)
    · exact He.exm_ok (cd.fact 26 (f := .exm "BadTask" "BadTask" true) rfl)
  have e := hfa.symm.trans g18
  cases e
  have B : Bt mg := bt_of fun x hx => He.free_ok X G (cd.facts (f := .free x) (List.mem_append_right _ (List.mem_map.mpr ⟨x, hx, rfl⟩)))
  have b := FunD.bindsA (ps := ["script"]) F18 fun _ _ _ _ _ _ us hl => match us, hl with | [_], _ => rfl
  refine lawAt (tf := tf) (F := d_law) X c.hd c.out c.empty (fun s v => b s [v] rfl) (fun base hK hg hT => ?_) plain
  have h__law_draws : FD l.prog w K mg base (tf.map fun p => (He.cT K p).2) 1 "_law_draws" 2 d__law_draws := ok__law_draws B F0 g0
  have h__law_cell : FD l.prog w K mg base (tf.map fun p => (He.cT K p).2) 1 "_law_cell" 2 d__law_cell := ok__law_cell B F1 g1
  have h_is_number : FD l.prog w K mg base (tf.map fun p => (He.cT K p).2) 1 "is_number" 1 d_is_number := ok_is_number B F2 g2
  have h_check_notes : FD l.prog w K mg base (tf.map fun p => (He.cT K p).2) 5 "check_notes" 1 d_check_notes := ok_check_notes B F3 g3 x_BadLine h_is_number (hT ("check_notes", none) List.mem_cons_self) (List.mem_map.mpr ⟨("check_notes", none), List.mem_cons_self, rfl⟩)
  have h_check_steps : FD l.prog w K mg base (tf.map fun p => (He.cT K p).2) 2 "check_steps" 1 d_check_steps := ok_check_steps B F4 g4 x_BadTask h_is_number
  have h_real_answer : FD l.prog w K mg base (tf.map fun p => (He.cT K p).2) 6 "real_answer" 2 d_real_answer := ok_real_answer B F5 g5 h_check_notes h_check_steps
  have h_tonal_answer : FD l.prog w K mg base (tf.map fun p => (He.cT K p).2) 6 "tonal_answer" 3 d_tonal_answer := ok_tonal_answer B F6 g6 x_BadTask h_check_notes h_check_steps h_is_number
  have h_entries : FD l.prog w K mg base (tf.map fun p => (He.cT K p).2) 6 "entries" 4 d_entries := ok_entries B F7 g7 x_BadTask h_check_notes h_is_number
  have h_chords_in : FD l.prog w K mg base (tf.map fun p => (He.cT K p).2) 4 "chords_in" 1 d_chords_in := ok_chords_in B F8 g8 x_BadLine (hT ("chords_in", none) (List.mem_cons_of_mem _ List.mem_cons_self)) (List.mem_map.mpr ⟨("chords_in", none), (List.mem_cons_of_mem _ List.mem_cons_self), rfl⟩)
  have h_check_good : FD l.prog w K mg base (tf.map fun p => (He.cT K p).2) 5 "check_good" 1 d_check_good := ok_check_good B F9 g9 x_BadTask h_is_number (hT ("check_good", none) (List.mem_cons_of_mem _ (List.mem_cons_of_mem _ List.mem_cons_self))) (List.mem_map.mpr ⟨("check_good", none), (List.mem_cons_of_mem _ (List.mem_cons_of_mem _ List.mem_cons_self)), rfl⟩)
  have h_gaps_between : FD l.prog w K mg base (tf.map fun p => (He.cT K p).2) 1 "gaps_between" 2 d_gaps_between := ok_gaps_between B F10 g10
  have h_fits_over : FD l.prog w K mg base (tf.map fun p => (He.cT K p).2) 4 "fits_over" 3 d_fits_over := ok_fits_over B F11 g11 h_gaps_between (hT ("fits_over", none) (List.mem_cons_of_mem _ (List.mem_cons_of_mem _ (List.mem_cons_of_mem _ List.mem_cons_self)))) (List.mem_map.mpr ⟨("fits_over", none), (List.mem_cons_of_mem _ (List.mem_cons_of_mem _ (List.mem_cons_of_mem _ List.mem_cons_self))), rfl⟩)
  have h_turnable : FD l.prog w K mg base (tf.map fun p => (He.cT K p).2) 6 "turnable" 4 d_turnable := ok_turnable B F12 g12 h_check_notes h_check_steps h_check_good h_fits_over
  have h_stretti : FD l.prog w K mg base (tf.map fun p => (He.cT K p).2) 6 "stretti" 2 d_stretti := ok_stretti B F13 g13 h_check_notes h_check_good (hT ("stretti", none) (List.mem_cons_of_mem _ (List.mem_cons_of_mem _ (List.mem_cons_of_mem _ (List.mem_cons_of_mem _ List.mem_cons_self))))) (List.mem_map.mpr ⟨("stretti", none), (List.mem_cons_of_mem _ (List.mem_cons_of_mem _ (List.mem_cons_of_mem _ (List.mem_cons_of_mem _ List.mem_cons_self)))), rfl⟩)
  have h_turned_line : FD l.prog w K mg base (tf.map fun p => (He.cT K p).2) 6 "turned_line" 2 d_turned_line := ok_turned_line B F14 g14 h_check_notes h_check_steps
  have h_turned_good : FD l.prog w K mg base (tf.map fun p => (He.cT K p).2) 6 "turned_good" 2 d_turned_good := ok_turned_good B F15 g15 h_check_good h_check_steps
  have h_slowed : FD l.prog w K mg base (tf.map fun p => (He.cT K p).2) 6 "slowed" 2 d_slowed := ok_slowed B F16 g16 x_BadTask h_check_notes h_is_number
  have h__law_refusal : FD l.prog w K mg base (tf.map fun p => (He.cT K p).2) 7 "_law_refusal" 3 d__law_refusal := ok__law_refusal B F17 g17 x_BadLine x_BadTask y__law_refusal_BadLine y__law_refusal_BadTask h_real_answer h_slowed h_stretti h_tonal_answer
  exact ok_law B F18 g18 h__law_cell h__law_draws h_real_answer h_tonal_answer h_entries h_chords_in h_turnable h_turned_good h_stretti h_slowed h_turned_line h__law_refusal
end Pd.Law
open PySem PySem.W PySem.Calls PyProof.Rows
theorem Pd.Law.holds_of (plain : ∀ (ns : List Int) (d : Pd.D), ns.length ≤ 63 → (d = .list (ns.map .int) ∨ d = .dict [(.none, .tuple (ns.map .int))]) → Pd.Law.d_law [d] = .ok (.bool true)) : PySem.Challenge.rw_tuneworks_k85_answers_and_entries.Holds := by
  w_on; o_law
  refine HandSHeadRun.head_any (r := Pd.Law.RR) (q := view Pd.Law.RR.prog [25]) (H := Pd.Law.hk) (ob := Pd.Law.ob) (M := 4000) (loose := Pd.Law.loose) (d := HandSHeadRun.topDef Pd.Law.RR.prog 25) (kwd := []) Pd.Law.ob_eq
    (by kernel_rfl) (fun s => by kernel_rfl) Pd.Law.run (by kernel_rfl) (by kernel_rfl) (by kernel_rfl) (by rfl) (by first | assumption | decide +kernel) (by decide +kernel) ⟨rfl, rfl, rfl, rfl, rfl, by decide +kernel⟩ ?hw ?hc
  case hw => w_witness2
  case hc =>
    refine LamX.walk_ofTsE (l := PySem.Challenge.rw_tuneworks_k85_answers_and_entries) (n := 63) (k := 8) (x := "script") (CX := L2.CX RR.prog) rfl (by decide) (by kernel_rfl) ⟨rfl, by decide, by decide⟩ ?F (fun w H s e s' z => by
      obtain ⟨a, B, H', cls, d, _, _, _, _, _, _, _, h⟩ := z
      exact h)
    intro w mg f h Y G hmg0
    obtain ⟨K, KX, c⟩ := Y
    have hmg : mg ("law" : PySem.Str) = some (.ref f) := by
      have e : (HandSHeadRun.topDef Pd.Law.RR.prog 25).name = ("law" : PySem.Str) := by kernel_rfl
      rw [← e]
      exact hmg0
    exact ⟨K, KX, Pd.Law.facts KX G hmg c plain⟩
theorem PySem.Challenge.cw_tuneworks_k85_answers_and_entries_holds : PySem.Challenge.rw_tuneworks_k85_answers_and_entries.Holds :=
  Pd.Law.holds_of Pd.Law.plain
