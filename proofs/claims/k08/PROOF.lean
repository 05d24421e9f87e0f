import PyProof.Rows.All
import Wide.All
import OpenK.AllK
import Wide.FinOn
import HandS.ForMost
import HandS.Exc
import HandS.TupAny
import HandS.WordsList
import HandS.Wide
import HandS.Star
import HandS.CallSlots
import HandS.Flow
import HandS.IsInst
import HandS.ExcOwn
import HandS.Defaults
import HandS.WordsExc
import HandS.Comp
import HandS.DictComp
import HandS.ForDict
import PyProof.RulesMatchSeq
import PyProof.Rows.MatchSeqLen
import KE.GoesEnumKw
import KE.GoesZip
import HandS.Iter
import PyProof.Rows.CallKwBuiltin
import PyProof.Rows.SortShellAny
import PyProof.Rows.SortStr
import PyProof.Rows.SetFrom
import HandS.SetFor
import HandS.SetBool
import HandS.SetKeys
import HandS.Strs
import PySem.Challenge.RW_duenotes_k08_places_and_steps
set_option Elab.async false
set_option linter.all false
set_option maxRecDepth 100000
set_option maxHeartbeats 4000000
/-! The D layer, part 0: new tuples whose object is known (it has no dict of its own). -/
namespace DL
open PySem PySem.Spec PyProof.Rows L2
/-- a tuple as it is made -/
abbrev tob (us : List Value) : Obj := { cls := .type "tuple", data := .seq us.toArray }
section
variable {X : Cx}
theorem tob_ok {P : Program} {w : World} {H : Hp} {h : Heap} {xs : List V} {us : List Value} (r : Vals xs us) (z : xs.length ≤ sizeLine) : ObjOk P w H (h.push (tob us)) h.objs.size (.frz (tob us) (.tup xs)) :=
  ⟨Heap.get?_push_size _ rfl, z, us, r, IsTup.new _ _⟩
def tTupF (t : TA) : TE := fun σ H Q => t σ H fun xs H1 => xs.length ≤ sizeLine ∧ ∀ p o, H1 p = none → o.dict = none → Q (.ref p) (upd H1 p (.frz o (.tup xs)))
theorem pe_tupF {es : List Expr} {t : TA} {pos : Pos} {x1} (h : PA X es t) : PE X (.Tuple es x1 pos) (tTupF t) := by
  refine ⟨fun pins s σ H Q I hq => ?_⟩
  refine wpAny_Tuple_spliced (thn (h.run pos pins s σ H _ I hq) fun us s1 ⟨xs, H1, I1, r, z, q⟩ => ⟨by rw [← r.length]; exact z, ?_⟩)
  exact ⟨.ref s1.heap.objs.size, upd H1 s1.heap.objs.size (.frz (tob us) (.tup xs)), I1.laid (t' := s1.toks) (fun b u e => Heap.get?_push_of_some _ e) (Nat.le_refl _) (tob_ok r z), rfl, q _ _ (I1.hok.fresh (Nat.le_refl _)) rfl⟩
def rCatF (K : PySem.W.Frag) : R2 := fun x y H Q => ∃ a b xs ys, x = .ref a ∧ y = .ref b ∧ SqT K H a xs ∧ SqT K H b ys ∧ xs.length + ys.length ≤ sizeLine ∧
  (xs = [] → Q (.ref b) H) ∧ (xs ≠ [] → ys = [] → Q (.ref a) H) ∧ (xs ≠ [] → ys ≠ [] → ∀ p o, H p = none → o.dict = none → Q (.ref p) (upd H p (.frz o (.tup (xs ++ ys)))))
theorem op_catF : OpR X (binaryOp .Add) (rCatF X.K) := by
  intro pins s σ H x y v u Q I rx ry h
  obtain ⟨a, b, xs, ys, rfl, rfl, ha, hb, hz, q0, q1, q2⟩ := h
  cases rx
  cases ry
  obtain ⟨its, r1, p1, _⟩ := I.tuple ha
  obtain ⟨its2, r2, p2, _⟩ := I.tuple hb
  by_cases hx : xs = []
  · subst hx
    cases r1
    exact cat_tup0 p1 p2 ⟨.ref b, H, I, rfl, q0 rfl⟩
  · refine HT.cat_tup p1 p2 (fun z => hx (r1.nil_iff.mp z)) (fun z => ⟨.ref a, H, I, rfl, q1 hx (r2.nil_iff.mp z)⟩) (fun z => ?_) (by rw [← r1.length, ← r2.length]; exact hz)
    exact ⟨.ref s.heap.objs.size, _, I.laid (t' := s.toks) (fun b ob q => Heap.get?_push_of_some _ q) (Nat.le_refl _) (tob_ok (r1.append r2) (by rw [List.length_append]; exact hz)), rfl, q2 hx (fun w => z (r2.nil_iff.mpr w)) _ _ (I.hok.fresh (Nat.le_refl _)) rfl⟩
def rSlF (K : PySem.W.Frag) : V → Option Int → Option Int → Hp → VK → Prop := fun x lo hi H Q => ∃ a xs, x = .ref a ∧ SqT K H a xs ∧
  (HT.sIx xs.length 0 lo = 0 ∧ HT.sIx xs.length xs.length hi = xs.length → Q (.ref a) H) ∧ (¬ (HT.sIx xs.length 0 lo = 0 ∧ HT.sIx xs.length xs.length hi = xs.length) → ∀ p o, H p = none → o.dict = none → Q (.ref p) (upd H p (.frz o (.tup (cutV xs lo hi)))))
theorem sl_tupF : SlR X (rSlF X.K) := by
  intro pins s σ H x v vl vu lo hi sl Q I rx hs pl pu h
  obtain ⟨a, xs, rfl, hx, q1, q2⟩ := h
  cases rx
  obtain ⟨its, r, ht, hz⟩ := I.tuple hx
  have hlen : its.toArray.size = xs.length := by rw [List.size_toArray]; exact r.length.symm
  refine ⟨"tuple", _, PyProof.Rows.slot_tuple_getitem.lookup, ht.typeIs, ?_⟩
  by_cases hw : HT.sIx xs.length 0 lo = 0 ∧ HT.sIx xs.length xs.length hi = xs.length
  · exact getItem_tuple_whole ht hs pl pu (by rw [hlen]; exact hw) ⟨.ref a, H, I, rfl, q1 hw⟩
  · refine HT.getItem_tuple_cut ht hs pl pu (by rw [hlen]; exact hw) ?_ (by rw [hlen]; exact hz)
    rw [hlen]
    exact ⟨.ref s.heap.objs.size, _, I.laid (t' := s.toks) (fun b ob q => Heap.get?_push_of_some _ q) (Nat.le_refl _) (tob_ok ((r.drop (HT.sIx xs.length 0 lo)).take (HT.sIx xs.length xs.length hi - HT.sIx xs.length 0 lo)) (Nat.le_trans (cutV_length xs lo hi) hz)), rfl, q2 hw _ _ (I.hok.fresh (Nat.le_refl _)) rfl⟩
theorem call_tupF : CallR X (.type "tuple") (fun xs H Q => ∃ p ys, xs = [.ref p] ∧ ((SqL X.K H p ys ∧ ∀ l o, H l = none → o.dict = none → Q (.ref l) (upd H l (.frz o (.tup ys)))) ∨ (SqT X.K H p ys ∧ Q (.ref p) H))) := by
  intro pins s σ H xs us Q I r h
  obtain ⟨p, ys, rfl, h⟩ := h
  obtain ⟨u, rfl, rx⟩ := vals1 r
  cases rx
  rcases h with ⟨hq, q⟩ | ⟨hq, q⟩
  · obtain ⟨its, r', pl, hz⟩ := I.list hq
    have hlen := r'.length
    refine call_tuple_list pl.isList (fun h' kp => ?_) (by simp only [List.size_toArray] <;> omega)
    have I1 : Inv X pins σ H { s with heap := h' } := I.kept (t' := s.toks) kp
    exact ⟨.ref h'.objs.size, _, I1.laid (t' := s.toks) (fun b o e => Heap.get?_push_of_some _ e) (Nat.le_refl _) (tob_ok r' hz), rfl, q _ _ (I1.hok.fresh (Nat.le_refl _)) rfl⟩
  · obtain ⟨its, r', pl, hz⟩ := I.tuple hq
    exact call_tuple_same pl ⟨.ref p, H, I, rfl, q⟩
/-! ### a tuple's own methods -/
/-- the tuple at a has no dict of its own -/
def Bare (K : PySem.W.Frag) (H : Hp) (a : Addr) : Prop := (∃ o ys, H a = some (.frz o (.tup ys)) ∧ o.dict = none) ∨ ∃ o, K.lookup a = some o ∧ o.dict = none
theorem Bare.is {pins : List (Addr × Obj)} {σ : L2.St} {H : Hp} {s : Shared} {a : Addr} (I : Inv X pins σ H s) (b : Bare X.K H a) : ∀ c, Value.ref a = .ref c → ∃ o, s.heap.get? c = some o ∧ o.dict = none := fun c e => by
  cases e
  rcases b with ⟨o, ys, h, d⟩ | ⟨o, h, d⟩
  · exact ⟨o, (I.hok a _ h).1, d⟩
  · exact ⟨o, I.kIn a o h, d⟩
def tTM (K : PySem.W.Frag) (r : V → List V → Hp → VK → Prop) (to : TE) (t : TA) : TE := fun σ H Q => to σ H fun x H1 => (∃ a ys, x = .ref a ∧ SqT K H1 a ys ∧ Bare K H1 a) ∧ t σ H1 fun xs H2 => r x xs H2 Q
theorem pe_tm {o e : Expr} {es : List Expr} {to : TE} {t : TA} {name : Str} {apos cpos : Pos} {id : String} {r : V → List V → Hp → VK → Prop} (slot : Slot "tuple" name id) (hty : typeOf (.builtin id) = pure (.type "method_descriptor")) (hm : MtR X id r) (ho : PE X o to) (ha : PA X (e :: es) t)
    (hbase : attributeBase o name X.env (eval o X.env) = eval o X.env := by rfl)
    (hfew : ((backTo cpos (starEach (e :: es) X.env)).all (fun x => !x.1) && (backToKw cpos (keywordEach [] X.env)).all (fun x => x.1.isSome) && decide ((e :: es).length + ([] : List Keyword).length + (if ([] : List Keyword).isEmpty then 0 else 1) < 30)) = true := by rfl)
    (hline : (apos.endLine == cpos.line) = true := by rfl) (hs : starEach (e :: es) X.env = (false, eval e X.env) :: starEach es X.env := by rfl) (hplain : (backTo cpos (starEach es X.env)).any (·.1) = false := by rfl) :
    PE X (.Call (.Attribute o name apos) (e :: es) [] cpos) (tTM X.K r to t) := by
  refine ⟨fun pins s σ H Q I h => ?_⟩
  refine wpAny_Call_method_late hbase hfew hline rfl (thn (ho.run pins s σ H _ I h) fun v s1 ⟨x, H1, I1, r1, ⟨a, ys, ex, hq, b⟩, q1⟩ => ?_)
  subst ex
  cases r1
  obtain ⟨its, _, p1, _⟩ := I1.tuple hq
  refine ⟨"tuple", id, PySem.F.plainAttrs_tuple, slot, hty, p1.typeIs, b.is I1, ?_⟩
  have hA := ha.run cpos pins s1 σ H1 _ I1 q1
  rw [hs] at hA ⊢
  refine Calls.callWith_builtin (by show (false || (backTo cpos (starEach es X.env)).any (·.1)) = false; rw [hplain] <;> rfl) (Calls.evalArgs_plain ?_)
  exact thn hA fun us s2 ⟨vs, H2, I2, r2, q2⟩ => hm pins s2 σ H2 (.ref a) vs (.ref a) us Q I2 rfl r2 q2
end
end DL
set_option Elab.async false
set_option linter.all false
set_option maxRecDepth 100000
set_option maxHeartbeats 4000000
/-! The D layer, part 1: plain values, the store, what they mean over the abstract heap. -/
namespace DL
open PySem PySem.Spec PyProof.Rows L2

/-- a plain value -/
inductive Val where
  | non
  | bl (b : Bool)
  | int (i : Int)
  | str (x : Str)
  | tup (xs : List Val)
  | vl (xs : List Val)
  | scr (xs : List Val)
  | vd (ks : List Key) (xs : List Val)
  | vi (c : Str) (ns : List Str) (xs : List Val)
  | obj (i : Nat)
  deriving Inhabited

/-- a thing of the store -/
inductive Ob where
  | lst (xs : List Val)
  | dct (ks : List Key) (xs : List Val)
  | ins (c : Str) (ns : List Str) (xs : List Val)

abbrev Store := List Ob
abbrev Slots := List (Option Val)

/-- where the store's things stand, in order; z: things that another part of the code is making -/
structure Own where
  m : List Addr
  z : List Addr := []
/-- the thing at a belongs to nobody -/
def Own.out (φ : Own) (a : Addr) : Prop := a ∉ φ.m ∧ a ∉ φ.z

/-- a tuple at a that no store entry holds -/
def TupAt (K : PySem.W.Frag) (φ : Own) (H : Hp) (a : Addr) (ys : List V) : Prop :=
  (∃ o : Obj, H a = some (.frz o (.tup ys)) ∧ o.dict = none ∧ φ.out a) ∨
    ∃ (o : Obj) (its : Array Value) (n : Nat), K.lookup a = some o ∧ o.cls = .type "tuple" ∧ o.dict = none ∧ o.data = .seq its n ∧ its.size ≤ sizeLine ∧ Vals ys its.toList
/-- a list at a that no store entry holds: it is never changed -/
def LstAt (K : PySem.W.Frag) (φ : Own) (H : Hp) (a : Addr) (ys : List V) : Prop :=
  (Rd H a (.lst ys) ∧ φ.out a) ∨
    ∃ (o : Obj) (its : Array Value) (n : Nat), K.lookup a = some o ∧ o.cls = .type "list" ∧ o.dict = none ∧ o.data = .seq its n ∧ its.size ≤ sizeLine ∧ Vals ys its.toList
theorem TupAt.sq {K : PySem.W.Frag} {φ : Own} {H : Hp} {a : Addr} {ys : List V} (h : TupAt K φ H a ys) : SqT K H a ys := by
  rcases h with ⟨o, h, _⟩ | ⟨o, its, n, h1, h2, _, h3⟩
  · exact .inl (.inr ⟨o, h⟩)
  · exact .inr ⟨o, its, n, h1, h2, h3⟩
theorem TupAt.bare {K : PySem.W.Frag} {φ : Own} {H : Hp} {a : Addr} {ys : List V} (h : TupAt K φ H a ys) : Bare K H a := by
  rcases h with ⟨o, h, d, _⟩ | ⟨o, its, n, h1, _, d, _⟩
  · exact .inl ⟨o, ys, h, d⟩
  · exact .inr ⟨o, h1, d⟩
theorem LstAt.sq {K : PySem.W.Frag} {φ : Own} {H : Hp} {a : Addr} {ys : List V} (h : LstAt K φ H a ys) : SqL K H a ys := by
  rcases h with ⟨h, _⟩ | h
  · exact .inl h
  · exact .inr h
theorem LstAt.of_nil {K : PySem.W.Frag} {H : Hp} {a : Addr} {ys : List V} (h : SqL K H a ys) : LstAt K ⟨[], []⟩ H a ys := by
  rcases h with h | h
  · exact .inl ⟨h, by simp [Own.out]⟩
  · exact .inr h

abbrev MG := Str → Option Value

mutual
inductive RV (K : PySem.W.Frag) (mg : MG) (φ : Own) (H : Hp) : Val → V → Prop
  | non : RV K mg φ H .non .non
  | bl {b} : RV K mg φ H (.bl b) (.bl b)
  | int {i} : RV K mg φ H (.int i) (.int i)
  | str {x} : RV K mg φ H (.str x) (.str x)
  | tup {xs a ys} : TupAt K φ H a ys → RVs K mg φ H xs ys → RV K mg φ H (.tup xs) (.ref a)
  | vl {xs a ys} : H a = some (.lst ys) → φ.out a → RVs K mg φ H xs ys → RV K mg φ H (.vl xs) (.ref a)
  | scr {xs a ys} : LstAt K φ H a ys → RVs K mg φ H xs ys → RV K mg φ H (.scr xs) (.ref a)
  | vd {ks xs a kvs} : H a = some (.dK kvs) → φ.out a → kvs.map (·.1) = ks → RVs K mg φ H xs (kvs.map (·.2)) → RV K mg φ H (.vd ks xs) (.ref a)
  | vi {c C ns xs a dx fs} : mg c = some (.ref C) → H a = some (.ins C dx fs) → φ.out a → fs.map (·.1) = ns → RVs K mg φ H xs (fs.map (·.2)) → RV K mg φ H (.vi c ns xs) (.ref a)
  | obj {i a} : φ.m[i]? = some a → RV K mg φ H (.obj i) (.ref a)
inductive RVs (K : PySem.W.Frag) (mg : MG) (φ : Own) (H : Hp) : List Val → List V → Prop
  | nil : RVs K mg φ H [] []
  | cons {x v xs vs} : RV K mg φ H x v → RVs K mg φ H xs vs → RVs K mg φ H (x :: xs) (v :: vs)
end

inductive ROb (K : PySem.W.Frag) (mg : MG) (φ : Own) (H : Hp) : Ob → Addr → Prop
  | lst {xs a ys} : H a = some (.lst ys) → RVs K mg φ H xs ys → ROb K mg φ H (.lst xs) a
  | dct {ks xs a kvs} : H a = some (.dK kvs) → kvs.map (·.1) = ks → RVs K mg φ H xs (kvs.map (·.2)) → ROb K mg φ H (.dct ks xs) a
  | ins {c C ns xs a dx fs} : mg c = some (.ref C) → H a = some (.ins C dx fs) → fs.map (·.1) = ns → RVs K mg φ H xs (fs.map (·.2)) → ROb K mg φ H (.ins c ns xs) a

/-- the store stands in the heap -/
structure RelS (K : PySem.W.Frag) (mg : MG) (φ : Own) (S : Store) (H : Hp) : Prop where
  len : φ.m.length = S.length
  nd : φ.m.Nodup
  dis : ∀ a ∈ φ.z, a ∉ φ.m
  ztr : ∀ a ∈ φ.z, ∃ o, H a = some o
  ob : ∀ (i : Nat) (o : Ob) (a : Addr), S[i]? = some o → φ.m[i]? = some a → ROb K mg φ H o a

/-- slots -/
def REnv (K : PySem.W.Frag) (mg : MG) (φ : Own) (H : Hp) (ρ : Slots) (σ : L2.St) : Prop :=
  ρ.length = σ.length ∧ ∀ (i : Nat) (x : Val), ρ[i]? = some (some x) → ∃ v, σ[i]? = some (some v) ∧ RV K mg φ H x v

/-- time goes on: nothing tracked changes but the store's things -/
structure Step (φ : Own) (H : Hp) (φ' : Own) (H' : Hp) : Prop where
  pre : ∃ t, φ'.m = φ.m ++ t
  zz : φ'.z = φ.z
  keep : ∀ a o, H a = some o → a ∉ φ.m → H' a = some o
  new : ∀ a, a ∈ φ'.m → a ∉ φ.m → H a = none

section
variable {K : PySem.W.Frag} {mg : MG} {φ φ' φ1 φ2 : Own} {H H' H1 H2 : Hp} {S S' : Store} {ρ : Slots} {σ : L2.St}
theorem Step.refl : Step φ H φ H := ⟨⟨[], by simp⟩, rfl, fun _ _ h _ => h, fun _ h n => absurd h n⟩
theorem Step.trans (a : Step φ H φ1 H1) (b : Step φ1 H1 φ2 H2) : Step φ H φ2 H2 := by
  obtain ⟨t1, e1⟩ := a.pre
  obtain ⟨t2, e2⟩ := b.pre
  refine ⟨⟨t1 ++ t2, by rw [e2, e1, List.append_assoc]⟩, b.zz.trans a.zz, fun c o h n => ?_, fun c h n => ?_⟩
  · refine b.keep c o (a.keep c o h n) fun m => ?_
    have := a.new c m n
    rw [h] at this; cases this
  · by_cases m : c ∈ φ1.m
    · exact a.new c m n
    · have z := b.new c h m
      cases q : H c with
      | none => rfl
      | some o => rw [a.keep c o q n] at z; cases z
theorem Step.notin (s : Step φ H φ' H') {a : Addr} {o : HO} (h : H a = some o) (n : φ.out a) : φ'.out a := by
  refine ⟨fun m => ?_, by rw [s.zz]; exact n.2⟩
  have := s.new a m n.1
  rw [h] at this; cases this
theorem Step.get (s : Step φ H φ' H') {i : Nat} {a : Addr} (h : φ.m[i]? = some a) : φ'.m[i]? = some a := by
  obtain ⟨t, e⟩ := s.pre
  rw [e, List.getElem?_append_left (List.getElem?_eq_some_iff.mp h).1]
  exact h
/-- time goes on, and more things may be in the making -/
structure Fwd (φ : Own) (H : Hp) (φ' : Own) (H' : Hp) : Prop where
  pre : ∃ t, φ'.m = φ.m ++ t
  zz : ∀ a ∈ φ'.z, a ∈ φ.z ∨ H a = none
  keep : ∀ a o, H a = some o → φ.out a → H' a = some o
  live : ∀ a o, H a = some o → a ∉ φ.m → ∃ o', H' a = some o'
  new : ∀ a, a ∈ φ'.m → a ∉ φ.m → H a = none
theorem Step.fwd (s : Step φ H φ' H') : Fwd φ H φ' H' := ⟨s.pre, fun a h => .inl (by rw [← s.zz]; exact h), fun a o h n => s.keep a o h n.1, fun a o h n => ⟨o, s.keep a o h n⟩, s.new⟩
theorem Fwd.step (a : Fwd φ H φ1 H1) (b : Step φ1 H1 φ2 H2) : Fwd φ H φ2 H2 := by
  obtain ⟨t1, e1⟩ := a.pre
  obtain ⟨t2, e2⟩ := b.pre
  have nn : ∀ c o, H c = some o → c ∉ φ.m → c ∉ φ1.m := fun c o h n m => by
    have := a.new c m n
    rw [h] at this; cases this
  refine ⟨⟨t1 ++ t2, by rw [e2, e1, List.append_assoc]⟩, fun c h => a.zz c (by rw [← b.zz]; exact h), fun c o h n => ?_, fun c o h n => ?_, fun c h n => ?_⟩
  · exact b.keep c o (a.keep c o h n) (nn c o h n.1)
  · obtain ⟨o', e⟩ := a.live c o h n
    exact ⟨o', b.keep c o' e (nn c o h n)⟩
  · by_cases m : c ∈ φ1.m
    · exact a.new c m n
    · have z := b.new c h m
      cases q : H c with
      | none => rfl
      | some o =>
        obtain ⟨o', e⟩ := a.live c o q n
        rw [e] at z; cases z
theorem Step.thenFwd (a : Step φ H φ1 H1) (b : Fwd φ1 H1 φ2 H2) (hz : ∀ x ∈ φ.z, x ∉ φ1.m) (hm : ∀ x ∈ φ.m, ∃ o, H1 x = some o) : Fwd φ H φ2 H2 := by
  obtain ⟨t1, e1⟩ := a.pre
  obtain ⟨t2, e2⟩ := b.pre
  have back : ∀ c, c ∉ φ.m → H1 c = none → H c = none := fun c n z => by
    cases q : H c with
    | none => rfl
    | some o => rw [a.keep c o q n] at z; cases z
  have nn : ∀ c o, H c = some o → c ∉ φ.m → c ∉ φ1.m := fun c o h n m => by
    have := a.new c m n
    rw [h] at this; cases this
  refine ⟨⟨t1 ++ t2, by rw [e2, e1, List.append_assoc]⟩, fun c h => ?_, fun c o h n => ?_, fun c o h n => ?_, fun c h n => ?_⟩
  · rcases b.zz c h with h | h
    · exact .inl (by rw [← a.zz]; exact h)
    · refine .inr (back c (fun m => ?_) h)
      obtain ⟨o, e⟩ := hm c m
      rw [h] at e; cases e
  · exact b.keep c o (a.keep c o h n.1) ⟨nn c o h n.1, by rw [a.zz]; exact n.2⟩
  · exact b.live c o (a.keep c o h n) (nn c o h n)
  · by_cases m : c ∈ φ1.m
    · exact a.new c m n
    · exact back c n (b.new c h m)
theorem Fwd.notin (s : Fwd φ H φ' H') {a : Addr} {o : HO} (h : H a = some o) (n : φ.out a) : φ'.out a := by
  refine ⟨fun m => ?_, fun m => ?_⟩
  · have := s.new a m n.1
    rw [h] at this; cases this
  · rcases s.zz a m with q | q
    · exact n.2 q
    · rw [h] at q; cases q
theorem Fwd.get (s : Fwd φ H φ' H') {i : Nat} {a : Addr} (h : φ.m[i]? = some a) : φ'.m[i]? = some a := by
  obtain ⟨t, e⟩ := s.pre
  rw [e, List.getElem?_append_left (List.getElem?_eq_some_iff.mp h).1]
  exact h
theorem TupAt.fwd (s : Fwd φ H φ' H') {a : Addr} {ys : List V} (h : TupAt K φ H a ys) : TupAt K φ' H' a ys := by
  rcases h with ⟨o, h, d, n⟩ | h
  · exact .inl ⟨o, s.keep _ _ h n, d, s.notin h n⟩
  · exact .inr h
theorem LstAt.fwd (s : Fwd φ H φ' H') {a : Addr} {ys : List V} (h : LstAt K φ H a ys) : LstAt K φ' H' a ys := by
  rcases h with ⟨h | ⟨o, h⟩, n⟩ | h
  · exact .inl ⟨.inl (s.keep _ _ h n), s.notin h n⟩
  · exact .inl ⟨.inr ⟨o, s.keep _ _ h n⟩, s.notin h n⟩
  · exact .inr h
theorem TupAt.step (s : Step φ H φ' H') {a : Addr} {ys : List V} (h : TupAt K φ H a ys) : TupAt K φ' H' a ys := h.fwd s.fwd
theorem LstAt.step (s : Step φ H φ' H') {a : Addr} {ys : List V} (h : LstAt K φ H a ys) : LstAt K φ' H' a ys := h.fwd s.fwd
mutual
theorem RV.fwd (s : Fwd φ H φ' H') {x : Val} {v : V} : RV K mg φ H x v → RV K mg φ' H' x v
  | .non => .non
  | .bl => .bl
  | .int => .int
  | .str => .str
  | .tup h r => .tup (h.fwd s) (RVs.fwd s r)
  | .vl h n r => .vl (s.keep _ _ h n) (s.notin h n) (RVs.fwd s r)
  | .scr h r => .scr (h.fwd s) (RVs.fwd s r)
  | .vd h n e r => .vd (s.keep _ _ h n) (s.notin h n) e (RVs.fwd s r)
  | .vi m h n e r => .vi m (s.keep _ _ h n) (s.notin h n) e (RVs.fwd s r)
  | .obj h => .obj (s.get h)
theorem RVs.fwd (s : Fwd φ H φ' H') {xs : List Val} {vs : List V} : RVs K mg φ H xs vs → RVs K mg φ' H' xs vs
  | .nil => .nil
  | .cons h r => .cons (RV.fwd s h) (RVs.fwd s r)
end
theorem RV.step (s : Step φ H φ' H') {x : Val} {v : V} (h : RV K mg φ H x v) : RV K mg φ' H' x v := h.fwd s.fwd
theorem RVs.step (s : Step φ H φ' H') {xs : List Val} {vs : List V} (h : RVs K mg φ H xs vs) : RVs K mg φ' H' xs vs := h.fwd s.fwd
theorem REnv.fwd (s : Fwd φ H φ' H') (e : REnv K mg φ H ρ σ) : REnv K mg φ' H' ρ σ := ⟨e.1, fun i x h => let ⟨v, hv, r⟩ := e.2 i x h; ⟨v, hv, r.fwd s⟩⟩
theorem REnv.step (s : Step φ H φ' H') (e : REnv K mg φ H ρ σ) : REnv K mg φ' H' ρ σ := ⟨e.1, fun i x h => let ⟨v, hv, r⟩ := e.2 i x h; ⟨v, hv, r.step s⟩⟩
theorem RVs.length : ∀ {xs : List Val} {vs : List V}, RVs K mg φ H xs vs → xs.length = vs.length
  | _, _, .nil => rfl
  | _, _, .cons _ r => by rw [List.length_cons, List.length_cons, RVs.length r]
theorem RVs.get : ∀ {xs : List Val} {vs : List V} {i : Nat} {x : Val}, RVs K mg φ H xs vs → xs[i]? = some x → ∃ v, vs[i]? = some v ∧ RV K mg φ H x v
  | _, _, _, _, .nil, e => by simp at e
  | _, _, 0, _, .cons r _, e => by simp at e; subst e; exact ⟨_, rfl, r⟩
  | _, _, i + 1, x, .cons _ t, e => by
    obtain ⟨v, h1, h2⟩ := RVs.get (i := i) (x := x) t (by simpa using e)
    exact ⟨v, by simpa using h1, h2⟩
theorem RVs.getV : ∀ {xs : List Val} {vs : List V} {i : Nat} {v : V}, RVs K mg φ H xs vs → vs[i]? = some v → ∃ x, xs[i]? = some x ∧ RV K mg φ H x v
  | _, _, _, _, .nil, e => by simp at e
  | _, _, 0, _, .cons r _, e => by simp at e; subst e; exact ⟨_, rfl, r⟩
  | _, _, i + 1, x, .cons _ t, e => by
    obtain ⟨v, h1, h2⟩ := RVs.getV (i := i) (v := x) t (by simpa using e)
    exact ⟨v, by simpa using h1, h2⟩
theorem RVs.append : ∀ {xs ys : List Val} {vs ws : List V}, RVs K mg φ H xs vs → RVs K mg φ H ys ws → RVs K mg φ H (xs ++ ys) (vs ++ ws)
  | _, _, _, _, .nil, s => s
  | _, _, _, _, .cons r t, s => .cons r (RVs.append t s)
theorem RVs.set {x : Val} {v : V} (r : RV K mg φ H x v) : ∀ {xs : List Val} {vs : List V} (i : Nat), RVs K mg φ H xs vs → RVs K mg φ H (xs.set i x) (vs.set i v)
  | _, _, _, .nil => .nil
  | _, _, 0, .cons _ t => .cons r t
  | _, _, i + 1, .cons q t => .cons q (RVs.set r i t)
theorem RVs.take : ∀ {xs : List Val} {vs : List V} (n : Nat), RVs K mg φ H xs vs → RVs K mg φ H (xs.take n) (vs.take n)
  | _, _, 0, _ => .nil
  | _, _, _ + 1, .nil => .nil
  | _, _, n + 1, .cons r t => .cons r (RVs.take n t)
theorem RVs.drop : ∀ {xs : List Val} {vs : List V} (n : Nat), RVs K mg φ H xs vs → RVs K mg φ H (xs.drop n) (vs.drop n)
  | _, _, 0, r => r
  | _, _, _ + 1, .nil => .nil
  | _, _, n + 1, .cons _ t => RVs.drop n t
theorem REnv.get (e : REnv K mg φ H ρ σ) {i : Nat} {x : Val} (h : ρ[i]? = some (some x)) : ∃ v, σ[i]? = some (some v) ∧ RV K mg φ H x v := e.2 i x h
theorem REnv.set (e : REnv K mg φ H ρ σ) {x : Val} {v : V} (r : RV K mg φ H x v) (i : Nat) : REnv K mg φ H (ρ.set i (some x)) (σ.set i (some v)) := by
  refine ⟨by simp [e.1], fun j y h => ?_⟩
  by_cases hj : i = j
  · subst hj
    by_cases hl : i < ρ.length
    · rw [List.getElem?_set_self hl] at h
      cases h
      exact ⟨v, List.getElem?_set_self (by rw [← e.1]; exact hl), r⟩
    · rw [List.getElem?_eq_none (by simpa using hl)] at h; cases h
  · rw [List.getElem?_set_ne hj] at h
    rw [List.getElem?_set_ne hj]
    exact e.2 j y h
end
end DL
set_option Elab.async false
set_option linter.all false
set_option maxRecDepth 100000
set_option maxHeartbeats 4000000
/-! The D layer, part 2: outcomes, what a denotation promises, binding. -/
namespace DL
open PySem PySem.Spec PyProof.Rows L2

inductive Res (α : Type) where
  | ok (a : α)
  | ex (c : Str) (ns : List Str) (xs : List Val)
abbrev Out (α : Type) := Option (Res α × Store)
def bindO {α β : Type} (m : Out α) (f : α → Store → Out β) : Out β := match m with
  | none => none
  | some (.ok a, S) => f a S
  | some (.ex c ns xs, S) => some (.ex c ns xs, S)
@[simp] theorem bindO_none {α β : Type} (f : α → Store → Out β) : bindO none f = none := rfl
@[simp] theorem bindO_ok {α β : Type} (a : α) (S : Store) (f : α → Store → Out β) : bindO (some (.ok a, S)) f = f a S := rfl
@[simp] theorem bindO_ex {α β : Type} (c : Str) (ns : List Str) (xs : List Val) (S : Store) (f : α → Store → Out β) : bindO (some (.ex c ns xs, S)) f = some (.ex c ns xs, S) := rfl
/-- no exception is let through (within a comprehension) -/
def bindN {α β : Type} (m : Out α) (f : α → Store → Out β) : Out β := match m with
  | some (.ok a, S) => f a S
  | _ => none
@[simp] theorem bindN_ok {α β : Type} (a : α) (S : Store) (f : α → Store → Out β) : bindN (some (.ok a, S)) f = f a S := rfl
@[simp] theorem bindN_none {α β : Type} (f : α → Store → Out β) : bindN none f = none := rfl
@[simp] theorem bindN_ex {α β : Type} (c : Str) (ns : List Str) (xs : List Val) (S : Store) (f : α → Store → Out β) : bindN (some (.ex c ns xs, S)) f = none := rfl

abbrev ED := Slots → Store → Out Val
abbrev TD := Slots → Store → Out Bool
abbrev AD := Slots → Store → Out (List Val)

/-- where one stands -/
structure At (K : PySem.W.Frag) (mg : MG) (φ : Own) (ρ : Slots) (S : Store) (σ : L2.St) (H : Hp) : Prop where
  env : REnv K mg φ H ρ σ
  rel : RelS K mg φ S H

abbrev Rl (α β : Type) := Own → Hp → α → β → Prop
/-- what is wanted of an outcome -/
def Fin {α β : Type} (K : PySem.W.Frag) (mg : MG) (R : Rl α β) (W : WX) (φ : Own) (σ : L2.St) (H : Hp) (r : Res α) (S' : Store) (Q : β → Hp → Prop) : Prop := match r with
  | .ok x => ∀ φ' H' v, Step φ H φ' H' → RelS K mg φ' S' H' → R φ' H' x v → Q v H'
  | .ex c ns xs => ∀ φ' H' C dA fs, Step φ H φ' H' → RelS K mg φ' S' H' → mg c = some (.ref C) → H' dA = some (.xd fs) → φ'.out dA → fs.map (·.1) = ns → RVs K mg φ' H' xs (fs.map (·.2)) → W (.ref C) (some dA) σ H'

/-- the reading that a denotation promises -/
def tD {α β : Type} (K : PySem.W.Frag) (mg : MG) (R : Rl α β) (W : WX) (d : Slots → Store → Out α) : L2.St → Hp → (β → Hp → Prop) → Prop := fun σ H Q =>
  ∃ φ ρ S r S', At K mg φ ρ S σ H ∧ d ρ S = some (r, S') ∧ Fin K mg R W φ σ H r S' Q

abbrev RB : Rl Bool Bool := fun _ _ a b => a = b
abbrev DE (X : Cx) (W : WX) (e : Expr) (d : ED) : Prop := PE X e (tD X.K X.mg (RV X.K X.mg) W d)
abbrev DT (X : Cx) (W : WX) (e : Expr) (d : TD) : Prop := PT X e (tD X.K X.mg RB W d)
abbrev DW (X : Cx) (W : WX) (e : Expr) (d : TD) : Prop := PW X e (tD X.K X.mg RB W d)
abbrev DA (X : Cx) (W : WX) (es : List Expr) (d : AD) : Prop := PA X es (tD X.K X.mg (RVs X.K X.mg) W d)

theorem PE.imp {X : Cx} {e : Expr} {t t' : TE} (h : PE X e t) (i : ∀ σ H Q, t' σ H Q → t σ H Q) : PE X e t' := ⟨fun pins s σ H Q I w => h.run pins s σ H Q I (i _ _ _ w)⟩
theorem PT.imp {X : Cx} {e : Expr} {t t' : TT} (h : PT X e t) (i : ∀ σ H Q, t' σ H Q → t σ H Q) : PT X e t' := ⟨fun pins s σ H Q I w => h.run pins s σ H Q I (i _ _ _ w)⟩
theorem PW.imp {X : Cx} {e : Expr} {t t' : TT} (h : PW X e t) (i : ∀ σ H Q, t' σ H Q → t σ H Q) : PW X e t' := ⟨fun wh pins s σ H Q I w => h.run wh pins s σ H Q I (i _ _ _ w)⟩
theorem PA.imp {X : Cx} {e : List Expr} {t t' : TA} (h : PA X e t) (i : ∀ σ H Q, t' σ H Q → t σ H Q) : PA X e t' := ⟨fun pos pins s σ H Q I w => h.run pos pins s σ H Q I (i _ _ _ w)⟩
theorem PS.imp {X : Cx} {e : Stmt} {t t' : TS} (h : PS X e t) (i : ∀ D σ H, t' D σ H → t D σ H) : PS X e t' := ⟨fun pins s σ H D I w => h.run pins s σ H D I (i _ _ _ w)⟩
theorem PSs.imp {X : Cx} {e : List Stmt} {t t' : TS} (h : PSs X e t) (i : ∀ D σ H, t' D σ H → t D σ H) : PSs X e t' := ⟨fun pins s σ H D I w => h.run pins s σ H D I (i _ _ _ w)⟩

section
variable {K : PySem.W.Frag} {mg : MG} {φ φ' φ1 φ2 : Own} {H H' H1 H2 : Hp} {S S' S1 : Store} {ρ : Slots} {σ : L2.St} {α β γ δ : Type} {R1 : Rl α β} {R2 : Rl γ δ} {W : WX}
theorem At.step (a : At K mg φ ρ S σ H) (s : Step φ H φ' H') (r : RelS K mg φ' S' H') : At K mg φ' ρ S' σ H' := ⟨a.env.step s, r⟩
theorem Fin.step {r : Res α} {Q : β → Hp → Prop} (s : Step φ H φ' H') (f : Fin K mg R1 W φ σ H r S' Q) : Fin K mg R1 W φ' σ H' r S' Q := by
  cases r with
  | ok x => exact fun φ2 H2 v s2 r2 rv => f φ2 H2 v (s.trans s2) r2 rv
  | ex c ns xs => exact fun φ2 H2 C dA fs s2 r2 => f φ2 H2 C dA fs (s.trans s2) r2
/-- THE BIND: a part is asked for, the rest goes on from it -/
theorem tD_bind {d : Slots → Store → Out α} {f : α → Store → Out γ} {r : Res γ} {Q : δ → Hp → Prop} (a : At K mg φ ρ S σ H) (h : bindO (d ρ S) f = some (r, S')) (fin : Fin K mg R2 W φ σ H r S' Q) {G : β → Hp → Prop}
    (k : ∀ x S1 φ1 H1 v, Step φ H φ1 H1 → At K mg φ1 ρ S1 σ H1 → R1 φ1 H1 x v → f x S1 = some (r, S') → Fin K mg R2 W φ1 σ H1 r S' Q → G v H1) : tD K mg R1 W d σ H G := by
  cases e : d ρ S with
  | none => rw [e] at h; cases h
  | some p =>
    obtain ⟨q, S1⟩ := p
    rw [e] at h
    refine ⟨φ, ρ, S, q, S1, a, e, ?_⟩
    cases q with
    | ok x => exact fun φ1 H1 v s r1 rv => k x S1 φ1 H1 v s (a.step s r1) rv h (fin.step s)
    | ex c ns xs =>
      cases h
      exact fin
/-- .. the last part -/
theorem tD_last {d : Slots → Store → Out α} {r : Res α} {Q : β → Hp → Prop} (a : At K mg φ ρ S σ H) (h : d ρ S = some (r, S')) (fin : Fin K mg R1 W φ σ H r S' Q) : tD K mg R1 W d σ H Q := ⟨φ, ρ, S, r, S', a, h, fin⟩
/-- an answer at once -/
theorem Fin.now {x : α} {v : β} {Q : β → Hp → Prop} (f : Fin K mg R1 W φ σ H (.ok x) S Q) (r : RelS K mg φ S H) (q : R1 φ H x v) : Q v H := f φ H v .refl r q
end

/-! ### pure parts -/
def ok {α : Type} (a : α) (S : Store) : Out α := some (.ok a, S)
@[simp] theorem ok_def {α : Type} (a : α) (S : Store) : ok a S = some (.ok a, S) := rfl
theorem ok_inj {α : Type} {a : α} {S S' : Store} {r : Res α} (h : ok a S = some (r, S')) : r = .ok a ∧ S' = S := by cases h; exact ⟨rfl, rfl⟩
/-- an answer that may fail, the store as it is -/
def ofO {α : Type} (o : Option α) (S : Store) : Out α := match o with
  | some a => some (.ok a, S)
  | none => none
@[simp] theorem ofO_some {α : Type} (a : α) (S : Store) : ofO (some a) S = some (.ok a, S) := rfl
@[simp] theorem ofO_none {α : Type} (S : Store) : ofO (none : Option α) S = none := rfl
theorem ofO_inj {α : Type} {o : Option α} {S S' : Store} {r : Res α} (h : ofO o S = some (r, S')) : ∃ a, o = some a ∧ r = .ok a ∧ S' = S := by
  cases o with
  | none => cases h
  | some a => cases h; exact ⟨a, rfl, rfl, rfl⟩

/-! ### a name, constants -/
section
variable {X : Cx} {W : WX} {pos : Pos}
def dVar (i : Nat) : ED := fun ρ S => match ρ[i]? with
  | some (some x) => some (.ok x, S)
  | _ => none
def dC (c : Val) : ED := fun _ S => some (.ok c, S)
theorem de_var {i : Nat} {e : Expr} (h : PE X e (tVar i)) : DE X W e (dVar i) := PE.imp h fun σ H Q ⟨φ, ρ, S, r, S', a, h, fin⟩ => by
  unfold dVar at h
  split at h
  · rename_i x hx
    cases h
    obtain ⟨v, hv, rv⟩ := a.env.get hx
    exact ⟨v, hv, fin.now a.rel rv⟩
  · cases h
theorem de_const {e : Expr} {c : Val} {v : V} (h : PE X e (tC v)) (rv : ∀ φ H, RV X.K X.mg φ H c v) : DE X W e (dC c) := PE.imp h fun σ H Q ⟨φ, ρ, S, r, S', a, h, fin⟩ => by
  cases h
  exact fin.now a.rel (rv _ _)
theorem de_int {i : Int} {j} : DE X W (.Constant (.int i) j pos) (dC (.int i)) := de_const pe_int fun _ _ => .int
theorem de_bl {b : Bool} {j} : DE X W (.Constant (.bool b) j pos) (dC (.bl b)) := de_const pe_bl fun _ _ => .bl
theorem de_non {j} : DE X W (.Constant .none j pos) (dC .non) := de_const pe_non fun _ _ => .non
theorem de_str {x : Str} {j} : DE X W (.Constant (.str x) j pos) (dC (.str x)) := de_const pe_str fun _ _ => .str
theorem dv (i : Nat) {x : Str} {pos : Pos} (hN : X.N[i]? = some x := by rfl) (hv : Vis X.env.scope x := by first | exact Or.inl rfl | exact Or.inr (Or.inl rfl) | exact Or.inr (Or.inr rfl)) (hd : (x == ("__debug__" : Str)) = false := by decide)
    (hcd : (x == ("__classdict__" : Str)) = false := by decide) : DE X W (.Name x pos) (dVar i) := de_var (pe_var hN hv hd hcd)
/-- a module's constant -/
theorem de_glob {x : Str} {v : V} {c : Val} {u : Value} (hg : Gl X x) (hm : X.mg x = some u) (r : RelV v u) (rv : ∀ φ H, RV X.K X.mg φ H c v) (hd : (x == ("__debug__" : Str)) = false := by decide) : DE X W (.Name x pos) (dC c) := de_const (pe_glob hg hm r hd) rv
end

/-! ### two values make one -/
abbrev F2 := Store → Val → Val → Option Val
def dOp2 (f : F2) (da db : ED) : ED := fun ρ S => bindO (da ρ S) fun x S1 => bindO (db ρ S1) fun y S2 => ofO (f S2 x y) S2
/-- f is right for the values' operation (new things may be laid) -/
def Op2 (X : Cx) (f : F2) (r : R2) : Prop := ∀ (φ : Own) (ρ : Slots) (S : Store) (σ : L2.St) (H : Hp) (x y z : Val) (v u : V) (Q : VK), At X.K X.mg φ ρ S σ H → RV X.K X.mg φ H x v → RV X.K X.mg φ H y u → f S x y = some z →
  (∀ φ' H' w, Step φ H φ' H' → RelS X.K X.mg φ' S H' → RV X.K X.mg φ' H' z w → Q w H') → r v u H Q
section
variable {X : Cx} {W : WX} {a b : Expr} {pos : Pos} {da db : ED}
theorem t_op2 {f : F2} {r : R2} (hf : Op2 X f r) (σ : L2.St) (H : Hp) (Q : VK) (h : tD X.K X.mg (RV X.K X.mg) W (dOp2 f da db) σ H Q) : tOp r (tD X.K X.mg (RV X.K X.mg) W da) (tD X.K X.mg (RV X.K X.mg) W db) σ H Q := by
  obtain ⟨φ, ρ, S, res, S', a, h, fin⟩ := h
  refine tD_bind a h fin fun x S1 φ1 H1 v s1 a1 rv h1 f1 => ?_
  refine tD_bind a1 h1 f1 fun y S2 φ2 H2 u s2 a2 ru h2 f2 => ?_
  obtain ⟨z, e, rfl, rfl⟩ := ofO_inj h2
  exact hf φ2 ρ _ σ H2 x y z v u Q a2 (rv.step s2) ru e fun φ' H' w s r rw' => f2 φ' H' w s r rw'
theorem de_op {op : Operator} {f : F2} {r : R2} (ho : OpR X (binaryOp op) r) (hf : Op2 X f r) (ha : DE X W a da) (hb : DE X W b db) : DE X W (.BinOp a op b pos) (dOp2 f da db) := PE.imp (pe_op ho ha hb) (t_op2 hf)
theorem de_cmp {op : CmpOp} {f : F2} {r : R2} (ho : OpR X (compareOp op) r) (hf : Op2 X f r) (ha : DE X W a da) (hb : DE X W b db) (hm : behindInMarks op b = false := by first | exact nomark _ (by decide) (by decide) | rfl) : DE X W (.Compare a [op] [b] pos) (dOp2 f da db) := PE.imp (pe_cmpR ho ha hb hm) (t_op2 hf)
theorem de_ix {f : F2} {r : R2} (hr : IxR X r) (hf : Op2 X f r) (ha : DE X W a da) (hb : DE X W b db) (hs : PlainIx b := by exact fun _ _ => rfl) : DE X W (.Subscript a b pos) (dOp2 f da db) := PE.imp (pe_ix hr ha hb hs) (t_op2 hf)
end
end DL
set_option Elab.async false
set_option linter.all false
set_option maxRecDepth 100000
set_option maxHeartbeats 4000000
/-! The D layer, part 3: new things, stores, the operators. -/
namespace DL
open PySem PySem.Spec PyProof.Rows L2

theorem out_ne {φ : Own} {i : Nat} {a b : Addr} (h : φ.m[i]? = some a) (n : b ∉ φ.m) : b ≠ a := fun z => by
  subst z
  exact n (List.mem_of_getElem? h)
section
variable {K : PySem.W.Frag} {mg : MG} {φ φ' : Own} {H H' : Hp} {S S' : Store} {ρ : Slots} {σ : L2.St}
theorem ROb.some {o : Ob} {a : Addr} (r : ROb K mg φ H o a) : ∃ u, H a = some u := by
  cases r with
  | lst h _ => exact ⟨_, h⟩
  | dct h _ _ => exact ⟨_, h⟩
  | ins _ h _ _ => exact ⟨_, h⟩
theorem RelS.tracked (r : RelS K mg φ S H) {a : Addr} (h : a ∈ φ.m) : ∃ u, H a = some u := by
  obtain ⟨i, e⟩ := List.mem_iff_getElem?.mp h
  have hl : i < S.length := by rw [← r.len]; exact (List.getElem?_eq_some_iff.mp e).1
  exact (r.ob i S[i] a (List.getElem?_eq_getElem hl) e).some
theorem RelS.fresh (r : RelS K mg φ S H) {p : Addr} (h : H p = none) : φ.out p := by
  refine ⟨fun m => ?_, fun m => ?_⟩
  · obtain ⟨u, e⟩ := r.tracked m
    rw [h] at e; cases e
  · obtain ⟨u, e⟩ := r.ztr p m
    rw [h] at e; cases e
theorem Step.of_same (s : Same H H') : Step φ H φ H' := ⟨⟨[], by simp⟩, rfl, fun a o h _ => s a o h, fun _ h n => absurd h n⟩
theorem ROb.same (s : Same H H') {o : Ob} {a : Addr} (r : ROb K mg φ H o a) : ROb K mg φ H' o a := by
  cases r with
  | lst h r => exact .lst (s _ _ h) (r.step (Step.of_same s))
  | dct h e r => exact .dct (s _ _ h) e (r.step (Step.of_same s))
  | ins m h e r => exact .ins m (s _ _ h) e (r.step (Step.of_same s))
theorem RelS.same (s : Same H H') (r : RelS K mg φ S H) : RelS K mg φ S H' := ⟨r.len, r.nd, r.dis, fun a h => let ⟨o, e⟩ := r.ztr a h; ⟨o, s a o e⟩, fun i o a h1 h2 => (r.ob i o a h1 h2).same s⟩
theorem Same.new {p : Addr} {o : HO} (h : H p = none) : Same H (upd H p o) := fun b u e => by rw [upd_ne (ne_of_none e h)]; exact e
theorem At.same (s : Same H H') (a : At K mg φ ρ S σ H) : At K mg φ ρ S σ H' := ⟨a.env.step (Step.of_same s), a.rel.same s⟩
/-- a new tuple -/
theorem new_tup (r : RelS K mg φ S H) {p : Addr} (h : H p = none) {o : Obj} (ho : o.dict = none) {xs : List Val} {ys : List V} (q : RVs K mg φ H xs ys) :
    Step φ H φ (upd H p (.frz o (.tup ys))) ∧ RelS K mg φ S (upd H p (.frz o (.tup ys))) ∧ RV K mg φ (upd H p (.frz o (.tup ys))) (.tup xs) (.ref p) := by
  have s : Same H (upd H p (.frz o (.tup ys))) := Same.new h
  exact ⟨.of_same s, r.same s, .tup (.inl ⟨o, upd_same, ho, r.fresh h⟩) (q.step (.of_same s))⟩
/-- a new list that is never changed -/
theorem new_vl (r : RelS K mg φ S H) {p : Addr} (h : H p = none) {xs : List Val} {ys : List V} (q : RVs K mg φ H xs ys) :
    Step φ H φ (upd H p (.lst ys)) ∧ RelS K mg φ S (upd H p (.lst ys)) ∧ RV K mg φ (upd H p (.lst ys)) (.vl xs) (.ref p) := by
  have s : Same H (upd H p (.lst ys)) := Same.new h
  exact ⟨.of_same s, r.same s, .vl upd_same (r.fresh h) (q.step (.of_same s))⟩
/-- one thing more -/
def Own.and (φ : Own) (p : Addr) : Own := ⟨φ.m ++ [p], φ.z⟩
theorem Step.grow {p : Addr} (h : H p = none) (s : Same H H') : Step φ H (φ.and p) H' := ⟨⟨[p], rfl⟩, rfl, fun a o e _ => s a o e, fun a m n => by
  rcases List.mem_append.mp m with m | m
  · exact absurd m n
  · rw [List.mem_singleton.mp m]; exact h⟩
theorem ROb.grow {p : Addr} (h : H p = none) {o : Ob} {a : Addr} (r : ROb K mg φ H o a) : ROb K mg (φ.and p) H o a := by
  have s : Step φ H (φ.and p) H := Step.grow h (Same.refl H)
  cases r with
  | lst h r => exact .lst h (r.step s)
  | dct h e r => exact .dct h e (r.step s)
  | ins m h e r => exact .ins m h e (r.step s)
/-- a new thing of the store -/
theorem RelS.push (r : RelS K mg φ S H) {p : Addr} (h : H p = none) (s : Same H H') {o : Ob} (q : ROb K mg (φ.and p) H' o p) : RelS K mg (φ.and p) (S ++ [o]) H' := by
  have len : (φ.m ++ [p]).length = (S ++ [o]).length := by simp [r.len]
  refine ⟨len, ?_, fun a ha => ?_, fun a ha => let ⟨u, e⟩ := r.ztr a ha; ⟨u, s a u e⟩, fun i u a h1 h2 => ?_⟩
  · refine List.nodup_append.mpr ⟨r.nd, by simp, fun a ha b hb => ?_⟩
    rw [List.mem_singleton.mp hb]
    exact fun e => (r.fresh h).1 (e ▸ ha)
  · intro hm
    rcases List.mem_append.mp hm with hm | hm
    · exact r.dis a ha hm
    · rw [List.mem_singleton.mp hm] at ha
      exact (r.fresh h).2 ha
  · have h2 : (φ.m ++ [p])[i]? = some a := h2
    by_cases hi : i < S.length
    · rw [List.getElem?_append_left hi] at h1
      rw [List.getElem?_append_left (by rw [r.len]; exact hi)] at h2
      exact ((r.ob i u a h1 h2).grow h).same s
    · have e : i = S.length := by
        have := (List.getElem?_eq_some_iff.mp h1).1
        simp at this
        omega
      subst e
      rw [List.getElem?_append_right (Nat.le_refl _), Nat.sub_self] at h1
      rw [List.getElem?_append_right (by rw [r.len]; exact Nat.le_refl _), r.len, Nat.sub_self] at h2
      cases h1
      cases h2
      exact q
theorem RelS.last (r : RelS K mg φ S H) (p : Addr) : (φ.and p).m[S.length]? = some p := by
  show (φ.m ++ [p])[S.length]? = some p
  rw [← r.len]
  simp
theorem new_obj (r : RelS K mg φ S H) {p : Addr} (h : H p = none) {xs : List Val} {ys : List V} (q : RVs K mg φ H xs ys) :
    Step φ H (φ.and p) (upd H p (.lst ys)) ∧ RelS K mg (φ.and p) (S ++ [.lst xs]) (upd H p (.lst ys)) ∧ RV K mg (φ.and p) (upd H p (.lst ys)) (.obj S.length) (.ref p) := by
  have s : Same H (upd H p (.lst ys)) := Same.new h
  have st : Step φ H (φ.and p) (upd H p (.lst ys)) := Step.grow h s
  exact ⟨st, r.push h s (.lst upd_same (q.step st)), .obj (r.last p)⟩
theorem Step.put {i : Nat} {a : Addr} {u : HO} (ha : φ.m[i]? = some a) : Step φ H φ (upd H a u) :=
  ⟨⟨[], by simp⟩, rfl, fun b v e n => by rw [upd_ne (out_ne ha n)]; exact e, fun _ h n => absurd h n⟩
/-- a thing of the store is changed -/
theorem RelS.put (r : RelS K mg φ S H) {i : Nat} {a : Addr} (ha : φ.m[i]? = some a) (hi : i < S.length) {u : HO} {o : Ob} (q : ROb K mg φ (upd H a u) o a) : RelS K mg φ (S.set i o) (upd H a u) := by
  have st : Step φ H φ (upd H a u) := Step.put ha
  refine ⟨by simp [r.len], r.nd, r.dis, fun b hb => ?_, fun j v b h1 h2 => ?_⟩
  · obtain ⟨o', e'⟩ := r.ztr b hb
    exact ⟨o', by rw [upd_ne (out_ne ha (r.dis b hb))]; exact e'⟩
  by_cases e : i = j
  · subst e
    rw [List.getElem?_set_self hi] at h1
    cases h1
    rw [ha] at h2; cases h2
    exact q
  · rw [List.getElem?_set_ne e] at h1
    have hb : b ≠ a := fun z => by
      subst z
      obtain ⟨l1, e1⟩ := List.getElem?_eq_some_iff.mp ha
      obtain ⟨l2, e2⟩ := List.getElem?_eq_some_iff.mp h2
      exact e ((List.getElem_inj r.nd).mp (e1.trans e2.symm))
    cases r.ob j v b h1 h2 with
    | lst h rr => exact .lst (by rw [upd_ne hb]; exact h) (rr.step st)
    | dct h e rr => exact .dct (by rw [upd_ne hb]; exact h) e (rr.step st)
    | ins m h e rr => exact .ins m (by rw [upd_ne hb]; exact h) e (rr.step st)
/-- the list that a value is -/
def listAt (S : Store) : Val → Option (List Val)
  | .vl xs => some xs
  | .scr xs => some xs
  | .obj i => match S[i]? with
    | some (.lst xs) => some xs
    | _ => none
  | _ => none
def seqAt (S : Store) : Val → Option (List Val)
  | .tup xs => some xs
  | x => listAt S x
theorem listAt_ok (r : RelS K mg φ S H) {x : Val} {v : V} {xs : List Val} (q : RV K mg φ H x v) (h : listAt S x = some xs) : ∃ a ys, v = .ref a ∧ SqL K H a ys ∧ RVs K mg φ H xs ys := by
  cases q with
  | vl ha hn rr =>
    cases h
    exact ⟨_, _, rfl, SqL.of ha, rr⟩
  | scr ha rr =>
    cases h
    exact ⟨_, _, rfl, ha.sq, rr⟩
  | obj ha =>
    unfold listAt at h
    simp only at h
    split at h
    · rename_i e
      cases h
      cases r.ob _ _ _ e ha with
      | lst hh rr => exact ⟨_, _, rfl, SqL.of hh, rr⟩
    · cases h
  | _ => cases h
theorem seqAt_ok (r : RelS K mg φ S H) {x : Val} {v : V} {xs : List Val} (q : RV K mg φ H x v) (h : seqAt S x = some xs) : ∃ a ys, v = .ref a ∧ (SqL K H a ys ∨ SqT K H a ys) ∧ RVs K mg φ H xs ys := by
  cases q with
  | tup ha rr =>
    cases h
    exact ⟨_, _, rfl, .inr ha.sq, rr⟩
  | vl ha hn rr =>
    obtain ⟨a, ys, e, q1, q2⟩ := listAt_ok r (.vl ha hn rr) (xs := xs) h
    exact ⟨a, ys, e, .inl q1, q2⟩
  | scr ha rr =>
    obtain ⟨a, ys, e, q1, q2⟩ := listAt_ok r (.scr ha rr) (xs := xs) h
    exact ⟨a, ys, e, .inl q1, q2⟩
  | obj ha =>
    obtain ⟨a, ys, e, q1, q2⟩ := listAt_ok r (.obj ha) (xs := xs) h
    exact ⟨a, ys, e, .inl q1, q2⟩
  | _ => cases h
end

/-! ### operators -/
/-- a list that the law has made -/
def catAt (S : Store) : Val → Option (List Val)
  | .vl xs => some xs
  | .obj i => match S[i]? with
    | some (.lst xs) => some xs
    | _ => none
  | _ => none
theorem catAt_ok {K : PySem.W.Frag} {mg : MG} {φ : Own} {S : Store} {H : Hp} (r : RelS K mg φ S H) {x : Val} {v : V} {xs : List Val} (q : RV K mg φ H x v) (h : catAt S x = some xs) : ∃ a ys, v = .ref a ∧ H a = some (.lst ys) ∧ RVs K mg φ H xs ys := by
  cases q with
  | vl ha hn rr =>
    cases h
    exact ⟨_, _, rfl, ha, rr⟩
  | obj ha =>
    unfold catAt at h
    simp only at h
    split at h
    · rename_i e
      cases h
      cases r.ob _ _ _ e ha with
      | lst hh rr => exact ⟨_, _, rfl, hh, rr⟩
    · cases h
  | _ => cases h
def addF : F2 := fun S x y => match x, y with
  | .int i, .int j => some (.int (i + j))
  | .str i, .str j => if i.length + j.length ≤ 1000000 then some (.str (i ++ j)) else none
  | .tup xs, .tup ys => if xs.length + ys.length ≤ 1000000 then some (.tup (xs ++ ys)) else none
  | x, y => match catAt S x, catAt S y with
    | some xs, some ys => if xs.length + ys.length ≤ 1000000 then some (.vl (xs ++ ys)) else none
    | _, _ => none
def subF : F2 := fun _ x y => match x, y with
  | .int i, .int j => some (.int (i - j))
  | _, _ => none
/-- one factor small -/
def mulF : F2 := fun _ x y => match x, y with
  | .int i, .int j => if (-(2 ^ 64) < i ∧ i < 2 ^ 64) ∨ (-(2 ^ 64) < j ∧ j < 2 ^ 64) then some (.int (i * j)) else none
  | _, _ => none
def modF : F2 := fun _ x y => match x, y with
  | .int i, .int j => if 0 < j then some (.int (i % j)) else none
  | _, _ => none
def fdivF : F2 := fun _ x y => match x, y with
  | .int i, .int j => if 0 < j ∧ j < 1073741824 then some (.int (i / j)) else none
  | _, _ => none
theorem line1M : (1000000 : Nat) ≤ sizeLine := by rw [sizeLine_eq]; decide
section
variable {X : Cx}
theorem op2_sub : Op2 X subF (rI0 fun i j => .int (i - j)) := by
  intro φ ρ S σ H x y z v u Q a rx ry e q
  cases rx <;> cases ry <;> cases e
  exact ⟨_, _, rfl, rfl, q _ _ _ .refl a.rel .int⟩
theorem op2_mul : Op2 X mulF (rI CMul fun i j => .int (i * j)) := by
  intro φ ρ S σ H x y z v u Q a rx ry e q
  cases rx <;> cases ry <;> try (cases e; done)
  unfold mulF at e
  simp only at e
  split at e
  · rename_i h
    cases e
    exact ⟨_, _, rfl, rfl, h, q _ _ _ .refl a.rel .int⟩
  · cases e
theorem op2_mod : Op2 X modF (rI (fun _ j => 0 < j) fun i j => .int (i % j)) := by
  intro φ ρ S σ H x y z v u Q a rx ry e q
  cases rx <;> cases ry <;> try (cases e; done)
  unfold modF at e
  simp only at e
  split at e
  · rename_i h
    cases e
    exact ⟨_, _, rfl, rfl, h, q _ _ _ .refl a.rel .int⟩
  · cases e
theorem op2_fdiv : Op2 X fdivF (rI CDiv fun i j => .int (i / j)) := by
  intro φ ρ S σ H x y z v u Q a rx ry e q
  cases rx <;> cases ry <;> try (cases e; done)
  unfold fdivF at e
  simp only at e
  split at e
  · rename_i h
    cases e
    exact ⟨_, _, rfl, rfl, h, q _ _ _ .refl a.rel .int⟩
  · cases e
def rAdd (K : PySem.W.Frag) : R2 := fun x y H Q => rI0 (fun i j => .int (i + j)) x y H Q ∨ ((∃ i j, x = .str i ∧ y = .str j ∧ i.length + j.length ≤ sizeLine ∧ Q (.str (i ++ j)) H) ∨ (rCatF K x y H Q ∨ rCat x y H Q))
theorem opr_add : OpR X (binaryOp .Add) (rAdd X.K) :=
  op_add.or (op_add_str.or (op_catF.or op_cat))
theorem op2_add : Op2 X addF (rAdd X.K) := by
  intro φ ρ S σ H x y z v u Q a rx ry e q
  unfold addF at e
  split at e
  · cases rx; cases ry; cases e
    exact .inl ⟨_, _, rfl, rfl, q _ _ _ .refl a.rel .int⟩
  · cases rx; cases ry
    split at e
    · rename_i h
      cases e
      exact .inr (.inl ⟨_, _, rfl, rfl, Nat.le_trans h line1M, q _ _ _ .refl a.rel .str⟩)
    · cases e
  · cases rx with
    | tup h1 r1 =>
      cases ry with
      | tup h2 r2 =>
        split at e
        · rename_i h
          cases e
          refine .inr (.inr (.inl ⟨_, _, _, _, rfl, rfl, h1.sq, h2.sq, by rw [← r1.length, ← r2.length]; exact Nat.le_trans h line1M, fun z => ?_, fun _ z => ?_, fun _ _ p o hp ho => ?_⟩))
          · subst z
            cases r1
            exact q _ _ _ .refl a.rel (.tup h2 r2)
          · subst z
            cases r2
            rw [List.append_nil] at q
            exact q _ _ _ .refl a.rel (.tup h1 r1)
          · obtain ⟨q1, q2, q3⟩ := new_tup a.rel hp ho (r1.append r2)
            exact q _ _ _ q1 q2 q3
        · cases e
  · split at e
    · rename_i xs ys e1 e2
      split at e
      · rename_i h
        cases e
        obtain ⟨a1, us, rfl, g1, r1⟩ := catAt_ok a.rel rx e1
        obtain ⟨a2, ws, rfl, g2, r2⟩ := catAt_ok a.rel ry e2
        refine .inr (.inr (.inr ⟨_, _, _, _, rfl, rfl, g1, g2, by rw [← r1.length, ← r2.length]; exact Nat.le_trans h line1M, fun p hp => ?_⟩))
        obtain ⟨q1, q2, q3⟩ := new_vl a.rel hp (r1.append r2)
        exact q _ _ _ q1 q2 q3
      · cases e
    · cases e
end

/-! ### comparisons -/
mutual
/-- as data; n: how deep the store is followed -/
def toPD (S : Store) : Nat → Val → Option PyData
  | _, .non => some .none
  | _, .bl b => some (.bool b)
  | _, .int i => some (.int i)
  | _, .str x => some (.str x)
  | n, .tup xs => (toPDs S n xs).map .tuple
  | n, .vl xs => (toPDs S n xs).map .list
  | n, .scr xs => (toPDs S n xs).map .list
  | n + 1, .obj i => match S[i]? with
    | some (.lst xs) => (toPDs S n xs).map .list
    | _ => none
  | _, _ => none
termination_by n x => (n, sizeOf x)
def toPDs (S : Store) : Nat → List Val → Option (List PyData)
  | _, [] => some []
  | n, x :: xs => match toPD S n x, toPDs S n xs with
    | some d, some ds => some (d :: ds)
    | _, _ => none
termination_by n xs => (n, sizeOf xs)
end
section
variable {K : PySem.W.Frag} {mg : MG} {φ : Own} {H : Hp} {S : Store}
mutual
theorem toPD_ok (r : RelS K mg φ S H) : ∀ (n : Nat) (x : Val) (v : V) (d : PyData), RV K mg φ H x v → toPD S n x = some d → Dp K H v d
  | n, .non, v, d, q, h => by cases q; unfold toPD at h; cases h; exact .non
  | n, .bl b, v, d, q, h => by cases q; unfold toPD at h; cases h; exact .bl b
  | n, .int i, v, d, q, h => by cases q; unfold toPD at h; cases h; exact .int i
  | n, .str x, v, d, q, h => by cases q; unfold toPD at h; cases h; exact .str x
  | n, .tup xs, v, d, q, h => by
    cases q with
    | tup ha rr =>
      unfold toPD at h
      cases e : toPDs S n xs with
      | none => rw [e] at h; cases h
      | some ds =>
        rw [e] at h; cases h
        exact .tup ha.sq (toPDs_ok r n xs _ ds rr e)
  | n, .vl xs, v, d, q, h => by
    cases q with
    | vl ha hn rr =>
      unfold toPD at h
      cases e : toPDs S n xs with
      | none => rw [e] at h; cases h
      | some ds =>
        rw [e] at h; cases h
        exact .lst (SqL.of ha) (toPDs_ok r n xs _ ds rr e)
  | n, .scr xs, v, d, q, h => by
    cases q with
    | scr ha rr =>
      unfold toPD at h
      cases e : toPDs S n xs with
      | none => rw [e] at h; cases h
      | some ds =>
        rw [e] at h; cases h
        exact .lst ha.sq (toPDs_ok r n xs _ ds rr e)
  | 0, .obj i, v, d, q, h => by unfold toPD at h; cases h
  | n + 1, .obj i, v, d, q, h => by
    cases q with
    | obj ha =>
      unfold toPD at h
      split at h
      · rename_i xs hx
        cases e : toPDs S n xs with
        | none => rw [e] at h; cases h
        | some ds =>
          rw [e] at h; cases h
          cases r.ob _ _ _ hx ha with
          | lst hh rr => exact .lst (SqL.of hh) (toPDs_ok r n xs _ ds rr e)
      · cases h
  | n, .vd _ _, v, d, q, h => by unfold toPD at h; cases h
  | n, .vi _ _ _, v, d, q, h => by unfold toPD at h; cases h
termination_by n x => (n, sizeOf x)
theorem toPDs_ok (r : RelS K mg φ S H) : ∀ (n : Nat) (xs : List Val) (vs : List V) (ds : List PyData), RVs K mg φ H xs vs → toPDs S n xs = some ds → DpAll K H vs ds
  | n, [], vs, ds, q, h => by cases q; unfold toPDs at h; cases h; exact .nil
  | n, x :: xs, vs, ds, q, h => by
    cases q with
    | cons q1 q2 =>
      unfold toPDs at h
      split at h
      · rename_i d ds' h1 h2
        cases h
        exact .cons (toPD_ok r n x _ d q1 h1) (toPDs_ok r n xs _ ds' q2 h2)
      · cases h
termination_by n xs => (n, sizeOf xs)
end
end
def eqVal (S : Store) (x y : Val) : Option Bool := match x, y with
  | .int i, .int j => some (decide (i = j))
  | .str i, .str j => some (decide (i = j))
  | .bl i, .bl j => some (decide (i = j))
  | _, _ => match toPD S 10 x, toPD S 10 y with
    | some d, some e => if SeqAt.shaped d = true ∧ SeqAt.shaped e = true then some (PyData.eqv d e) else none
    | _, _ => none
def eqF : F2 := fun S x y => (eqVal S x y).map .bl
def neF : F2 := fun S x y => (eqVal S x y).map fun b => .bl (!b)
def ltF (f : Int → Int → Bool) : F2 := fun _ x y => match x, y with
  | .int i, .int j => some (.bl (f i j))
  | _, _ => none
/-- < of ints and of texts -/
def ltSF : F2 := fun _ x y => match x, y with
  | .int i, .int j => some (.bl (decide (i < j)))
  | .str i, .str j => some (.bl (decide (i.cps.toList < j.cps.toList)))
  | _, _ => none
def flatD : Val → Bool
  | .non => true
  | .bl _ => true
  | .int _ => true
  | .str _ => true
  | _ => false
def toV : Val → V
  | .bl b => .bl b
  | .int i => .int i
  | .str x => .str x
  | _ => .non
/-- == of flat values -/
def eqFlat : Val → Val → Bool
  | .non, .non => true
  | .bl a, .bl b => a == b
  | .bl a, .int b => (if a then 1 else 0) == b
  | .int a, .bl b => a == (if b then 1 else 0)
  | .int a, .int b => a == b
  | .str a, .str b => a == b
  | _, _ => false
def inSeq (x : Val) (xs : List Val) : Bool := xs.any fun y => eqFlat y x
def inVal (S : Store) (x y : Val) : Option Bool := match y with
  | .str b => match x with
    | .str a => some (!(Builtin.Str.occurrences b a 0 b.length 1).isEmpty)
    | _ => none
  | _ => match seqAt S y with
    | some xs => if flatD x = true ∧ xs.all flatD = true then some (inSeq x xs) else none
    | none => none
def inF : F2 := fun S x y => (inVal S x y).map .bl
def notInF : F2 := fun S x y => (inVal S x y).map fun b => .bl (!b)
section
variable {K : PySem.W.Frag} {mg : MG} {φ : Own} {H : Hp} {S : Store}
theorem RV.flat {x : Val} {v : V} (q : RV K mg φ H x v) (h : flatD x = true) : v = toV x ∧ flatV v = true := by
  cases q <;> first | exact ⟨rfl, rfl⟩ | cases h
theorem eqFlat_eq {x y : Val} (hx : flatD x = true) (hy : flatD y = true) : eqV (toV x) (toV y) = eqFlat x y := by
  cases x <;> first | (cases hx; done) | (cases y <;> first | (cases hy; done) | rfl)
theorem RVs.flat : ∀ {xs : List Val} {vs : List V}, RVs K mg φ H xs vs → xs.all flatD = true → vs = xs.map toV ∧ vs.all flatV = true
  | _, _, .nil, _ => ⟨rfl, rfl⟩
  | x :: xs, v :: vs, .cons r t, h => by
    rw [List.all_cons, Bool.and_eq_true] at h
    obtain ⟨e1, f1⟩ := r.flat h.1
    obtain ⟨e2, f2⟩ := RVs.flat t h.2
    exact ⟨by rw [e1, e2]; rfl, by rw [List.all_cons, f1, f2]; rfl⟩
theorem inV_eq {x : Val} (hx : flatD x = true) : ∀ {xs : List Val}, xs.all flatD = true → inV (toV x) (xs.map toV) = inSeq x xs
  | [], _ => rfl
  | y :: xs, h => by
    rw [List.all_cons, Bool.and_eq_true] at h
    have ih := inV_eq hx h.2
    unfold inV inSeq at ih ⊢
    rw [List.map_cons, List.any_cons, List.any_cons, ih, eqFlat_eq h.1 hx]
end
section
variable {X : Cx}
theorem opr_eq (hu : X.A.units + 64 < cLine) : OpR X (compareOp .Eq) (fun x y H Q => rEq x y H Q ∨ rEqD X.K x y H Q) := op_eq.or (op_eqD hu)
theorem opr_ne (hu : X.A.units + 64 < cLine) : OpR X (compareOp .NotEq) (fun x y H Q => rNe x y H Q ∨ rNeD X.K x y H Q) := op_ne.or (op_neD hu)
theorem eqVal_ok {φ : Own} {H : Hp} {S : Store} {x y : Val} {v u : V} {b : Bool} (r : RelS X.K X.mg φ S H) (rx : RV X.K X.mg φ H x v) (ry : RV X.K X.mg φ H y u) (e : eqVal S x y = some b) :
    (scal v u = true ∧ decide (v = u) = b) ∨ ∃ d e, Dp X.K H v d ∧ Dp X.K H u e ∧ SeqAt.shaped d = true ∧ SeqAt.shaped e = true ∧ PyData.eqv d e = b := by
  have gen : ∀ {x y : Val}, RV X.K X.mg φ H x v → RV X.K X.mg φ H y u → (match toPD S 10 x, toPD S 10 y with
      | some d, some d2 => if SeqAt.shaped d = true ∧ SeqAt.shaped d2 = true then some (PyData.eqv d d2) else none
      | _, _ => none) = some b → ∃ d e, Dp X.K H v d ∧ Dp X.K H u e ∧ SeqAt.shaped d = true ∧ SeqAt.shaped e = true ∧ PyData.eqv d e = b := fun {x y} rx ry h => by
    split at h
    · rename_i h1 h2
      split at h
      · rename_i hs
        cases h
        exact ⟨_, _, toPD_ok r _ _ _ _ rx h1, toPD_ok r _ _ _ _ ry h2, hs.1, hs.2, rfl⟩
      · cases h
    · cases h
  unfold eqVal at e
  split at e
  · cases rx; cases ry
    cases e
    exact .inl ⟨rfl, by rw [dec_int, Bool.beq_eq_decide_eq]⟩
  · cases rx; cases ry
    cases e
    exact .inl ⟨rfl, by rw [dec_str, Bool.beq_eq_decide_eq]⟩
  · cases rx; cases ry
    cases e
    exact .inl ⟨rfl, by rw [dec_bl, Bool.beq_eq_decide_eq]⟩
  · exact .inr (gen rx ry e)
theorem op2_eq : Op2 X eqF (fun x y H Q => rEq x y H Q ∨ rEqD X.K x y H Q) := by
  intro φ ρ S σ H x y z v u Q a rx ry e q
  unfold eqF at e
  cases h : eqVal S x y with
  | none => rw [h] at e; cases e
  | some b =>
    rw [h] at e; cases e
    have q' := q _ _ _ .refl a.rel .bl
    rcases eqVal_ok a.rel rx ry h with ⟨h1, h2⟩ | ⟨d, d2, h1, h2, h3, h4, h5⟩
    · exact .inl ⟨h1, by rw [h2]; exact q'⟩
    · exact .inr ⟨d, d2, h1, h2, h3, h4, by rw [h5]; exact q'⟩
theorem op2_ne : Op2 X neF (fun x y H Q => rNe x y H Q ∨ rNeD X.K x y H Q) := by
  intro φ ρ S σ H x y z v u Q a rx ry e q
  unfold neF at e
  cases h : eqVal S x y with
  | none => rw [h] at e; cases e
  | some b =>
    rw [h] at e; cases e
    have q' := q _ _ _ .refl a.rel .bl
    rcases eqVal_ok a.rel rx ry h with ⟨h1, h2⟩ | ⟨d, d2, h1, h2, h3, h4, h5⟩
    · exact .inl ⟨h1, by rw [h2]; exact q'⟩
    · exact .inr ⟨d, d2, h1, h2, h3, h4, by rw [h5]; exact q'⟩
theorem op2_cmp (f : Int → Int → Bool) : Op2 X (ltF f) (rI0 fun i j => .bl (f i j)) := by
  intro φ ρ S σ H x y z v u Q a rx ry e q
  cases rx <;> cases ry <;> cases e
  exact ⟨_, _, rfl, rfl, q _ _ _ .refl a.rel .bl⟩
theorem opr_lt : OpR X (compareOp .Lt) (fun x y H Q => rI0 (fun i j => .bl (decide (i < j))) x y H Q ∨ (∃ i j, x = .str i ∧ y = .str j ∧ Q (.bl (decide (i.cps.toList < j.cps.toList))) H)) := op_lt.or op_lt_str
theorem op2_lt : Op2 X ltSF (fun x y H Q => rI0 (fun i j => .bl (decide (i < j))) x y H Q ∨ (∃ i j, x = .str i ∧ y = .str j ∧ Q (.bl (decide (i.cps.toList < j.cps.toList))) H)) := by
  intro φ ρ S σ H x y z v u Q a rx ry e q
  cases rx <;> cases ry <;> try (cases e; done)
  · cases e
    exact .inl ⟨_, _, rfl, rfl, q _ _ _ .refl a.rel .bl⟩
  · cases e
    exact .inr ⟨_, _, rfl, rfl, q _ _ _ .refl a.rel .bl⟩
def rInA (K : PySem.W.Frag) (neg : Bool) : R2 := fun x y H Q => rIn K neg x y H Q ∨ ∃ i j, x = .str i ∧ y = .str j ∧ Q (.bl (if neg then !(!(Builtin.Str.occurrences j i 0 j.length 1).isEmpty) else !(Builtin.Str.occurrences j i 0 j.length 1).isEmpty)) H
theorem opr_in : OpR X (compareOp .In) (rInA X.K false) := op_in_seq.or op_in_str
theorem opr_notIn : OpR X (compareOp .NotIn) (rInA X.K true) := op_notIn_seq.or op_notIn_str
theorem in_ok {neg : Bool} {φ : Own} {H : Hp} {S : Store} {x y : Val} {v u : V} {b : Bool} {Q : VK} (r : RelS X.K X.mg φ S H) (rx : RV X.K X.mg φ H x v) (ry : RV X.K X.mg φ H y u) (e : inVal S x y = some b)
    (q : Q (.bl (if neg then !b else b)) H) : rInA X.K neg v u H Q := by
  have gen : (match seqAt S y with
    | some xs => if flatD x = true ∧ xs.all flatD = true then some (inSeq x xs) else none
    | none => none) = some b → rInA X.K neg v u H Q := fun h => by
    split at h
    · rename_i xs hx
      split at h
      · rename_i hs
        cases h
        obtain ⟨a, ys, rfl, h1, h2⟩ := seqAt_ok r ry hx
        obtain ⟨e1, f1⟩ := rx.flat hs.1
        obtain ⟨e2, f2⟩ := h2.flat hs.2
        refine .inl ⟨a, ys, rfl, h1, f1, f2, ?_⟩
        rw [e1, e2, inV_eq hs.1 hs.2]
        exact q
      · cases h
    · cases h
  unfold inVal at e
  split at e
  · cases ry
    split at e
    · cases rx
      cases e
      exact .inr ⟨_, _, rfl, rfl, q⟩
    · cases e
  · exact gen e
theorem op2_in : Op2 X inF (rInA X.K false) := by
  intro φ ρ S σ H x y z v u Q a rx ry e q
  unfold inF at e
  cases h : inVal S x y with
  | none => rw [h] at e; cases e
  | some b =>
    rw [h] at e; cases e
    exact in_ok a.rel rx ry h (q _ _ _ .refl a.rel .bl)
theorem op2_notIn : Op2 X notInF (rInA X.K true) := by
  intro φ ρ S σ H x y z v u Q a rx ry e q
  unfold notInF at e
  cases h : inVal S x y with
  | none => rw [h] at e; cases e
  | some b =>
    rw [h] at e; cases e
    exact in_ok a.rel rx ry h (q _ _ _ .refl a.rel .bl)
/-- is None -/
def isNF : F2 := fun _ x y => match y with
  | .non => match x with
    | .non => some (.bl true)
    | _ => some (.bl false)
  | _ => none
def notNF : F2 := fun _ x y => match y with
  | .non => match x with
    | .non => some (.bl false)
    | _ => some (.bl true)
  | _ => none
theorem RV.non_iff {K : PySem.W.Frag} {mg : MG} {φ : Own} {H : Hp} {x : Val} {v : V} (r : RV K mg φ H x v) : decide (v = .non) = match x with | .non => true | _ => false := by
  cases r <;> rfl
theorem op2_isN : Op2 X isNF (fun x y H Q => y = .non ∧ Q (.bl (decide (x = .non))) H) := by
  intro φ ρ S σ H x y z v u Q a rx ry e q
  cases ry <;> try (cases e; done)
  refine ⟨rfl, ?_⟩
  rw [rx.non_iff]
  cases x <;> (cases e; exact q _ _ _ .refl a.rel .bl)
theorem op2_notN : Op2 X notNF (fun x y H Q => y = .non ∧ Q (.bl (!decide (x = .non))) H) := by
  intro φ ρ S σ H x y z v u Q a rx ry e q
  cases ry <;> try (cases e; done)
  refine ⟨rfl, ?_⟩
  rw [rx.non_iff]
  cases x <;> (cases e; exact q _ _ _ .refl a.rel .bl)
/-- an item -/
def ixF : F2 := fun S x y => match y with
  | .int i => match x with
    | .str z => if z.length ≤ 1000000 then (atI z.cps.toList i).map fun c => .str ⟨#[c]⟩ else none
    | _ => match seqAt S x with
      | some xs => atI xs i
      | none => none
  | _ => none
theorem atI_rel {K : PySem.W.Frag} {mg : MG} {φ : Own} {H : Hp} {xs : List Val} {ys : List V} {i : Int} {x : Val} (r : RVs K mg φ H xs ys) (h : atI xs i = some x) : ∃ v, atI ys i = some v ∧ RV K mg φ H x v := by
  unfold atI at h ⊢
  rw [← r.length]
  cases e : ixN xs.length i with
  | none => rw [e] at h; cases h
  | some j =>
    rw [e] at h
    exact r.get h
theorem op2_ix : Op2 X ixF (rIx X.K) := by
  intro φ ρ S σ H x y z v u Q a rx ry e q
  cases ry <;> try (cases e; done)
  rename_i i
  have gen : ∀ {xs : List Val}, seqAt S x = some xs → atI xs i = some z → rIx X.K v (.int i) H Q := fun {xs} hx hz => by
    obtain ⟨p, ys, rfl, h1, h2⟩ := seqAt_ok a.rel rx hx
    obtain ⟨w, h3, h4⟩ := atI_rel h2 hz
    rcases h1 with h1 | h1
    · exact .inl ⟨p, ys, i, w, rfl, rfl, h1, h3, q _ _ _ .refl a.rel h4⟩
    · exact .inr (.inl ⟨p, ys, i, w, rfl, rfl, h1, h3, q _ _ _ .refl a.rel h4⟩)
  unfold ixF at e
  simp only at e
  split at e
  · cases rx
    split at e
    · rename_i zz hz
      cases h : atI (Array.toList zz.cps) i with
      | none => rw [h] at e; cases e
      | some c =>
        rw [h] at e; cases e
        exact .inr (.inr ⟨_, i, c, rfl, rfl, Nat.le_trans hz line1M, h, q _ _ _ .refl a.rel .str⟩)
    · cases e
  · split at e
    · exact gen (by assumption) e
    · cases e
end
end DL
set_option Elab.async false
set_option linter.all false
set_option maxRecDepth 100000
set_option maxHeartbeats 4000000
/-! The D layer, part 4: tests, and / or / not, displays, slices, fields, calls. -/
namespace DL
open PySem PySem.Spec PyProof.Rows L2

/-! ### tests -/
/-- a value that is a truth, as a test -/
def dTv (d : ED) : TD := fun ρ S => bindO (d ρ S) fun x S1 => match x with
  | .bl b => some (.ok b, S1)
  | _ => none
/-- the truth of any value -/
def truF (S : Store) : Val → Option Bool
  | .non => some false
  | .bl b => some b
  | .int i => some (i != 0)
  | .str x => if x.length ≤ 1000000 then some ((x.length : Int) != 0) else none
  | x => match seqAt S x with
    | some xs => some (!xs.isEmpty)
    | none => none
def dTt (d : ED) : TD := fun ρ S => bindO (d ρ S) fun x S1 => ofO (truF S1 x) S1
def dNotT (t : TD) : TD := fun ρ S => bindO (t ρ S) fun b S1 => some (.ok (!b), S1)
def dAndT (t u : TD) : TD := fun ρ S => bindO (t ρ S) fun b S1 => if b = true then u ρ S1 else some (.ok false, S1)
def dOrT (t u : TD) : TD := fun ρ S => bindO (t ρ S) fun b S1 => if b = true then some (.ok true, S1) else u ρ S1
def dNotV (d : ED) : ED := fun ρ S => bindO (d ρ S) fun x S1 => match x with
  | .bl b => some (.ok (.bl (!b)), S1)
  | _ => none
def dAndV (d e : ED) : ED := fun ρ S => bindO (d ρ S) fun x S1 => match x with
  | .bl true => e ρ S1
  | .bl false => some (.ok (.bl false), S1)
  | _ => none
def dOrV (d e : ED) : ED := fun ρ S => bindO (d ρ S) fun x S1 => match x with
  | .bl true => some (.ok (.bl true), S1)
  | .bl false => e ρ S1
  | _ => none
def dIf (t : TD) (d e : ED) : ED := fun ρ S => bindO (t ρ S) fun b S1 => if b = true then d ρ S1 else e ρ S1
/-- a op1 b op2 c -/
def dChain (f g : F2) (da db dc : ED) : ED := fun ρ S => bindO (da ρ S) fun x S1 => bindO (db ρ S1) fun y S2 => match f S2 x y with
  | some (.bl true) => bindO (dc ρ S2) fun z S3 => ofO (g S3 y z) S3
  | some (.bl false) => some (.ok (.bl false), S2)
  | _ => none
section
variable {X : Cx} {W : WX} {a b c : Expr} {pos : Pos} {da db dc d : ED} {ta tb : TD} {rest : List Expr}
theorem tv_of {d : ED} {σ : L2.St} {H : Hp} {Q : Bool → Hp → Prop} (h : tD X.K X.mg RB W (dTv d) σ H Q) : tD X.K X.mg (RV X.K X.mg) W d σ H (fun x H1 => ∃ c, x = .bl c ∧ Q c H1) := by
  obtain ⟨φ, ρ, S, r, S', a, h, fin⟩ := h
  refine tD_bind a h fin fun x S1 φ1 H1 v s1 a1 rv h1 f1 => ?_
  cases rv <;> try (cases h1; done)
  cases h1
  exact ⟨_, rfl, f1.now a1.rel rfl⟩
theorem dt_val (h : DE X W a d) (he : ∀ whole, isTrue a X.env whole = (do let v ← whole; standAt a.pos; holding [v] (truthy v)) := by intro _; rfl) : DT X W a (dTv d) := PT.imp (pt_val h he) fun σ H Q q => tv_of q
theorem dt_cmp {op : CmpOp} {f : F2} {r : R2} (ho : OpR X (compareOp op) r) (hf : Op2 X f r) (ha : DE X W a da) (hb : DE X W b db) (hm : behindInMarks op b = false := by first | exact nomark _ (by decide) (by decide) | rfl) : DT X W (.Compare a [op] [b] pos) (dTv (dOp2 f da db)) :=
  PT.imp (pt_cmpR ho ha hb hm) fun σ H Q q => t_op2 hf σ H _ (tv_of q)
theorem t_chain {f g : F2} {r r' : R2} (hf : Op2 X f r) (hg : Op2 X g r') {σ : L2.St} {H : Hp} {Q : VK} (h : tD X.K X.mg (RV X.K X.mg) W (dChain f g da db dc) σ H Q) :
    tChain r r' (tD X.K X.mg (RV X.K X.mg) W da) (tD X.K X.mg (RV X.K X.mg) W db) (tD X.K X.mg (RV X.K X.mg) W dc) σ H Q := by
  obtain ⟨φ, ρ, S, res, S', a, h, fin⟩ := h
  refine tD_bind a h fin fun x S1 φ1 H1 v s1 a1 rv h1 f1 => ?_
  refine tD_bind a1 h1 f1 fun y S2 φ2 H2 u s2 a2 ru h2 f2 => ?_
  cases e : f S2 x y with
  | none => rw [e] at h2; cases h2
  | some z =>
    rw [e] at h2
    refine hf φ2 ρ S2 σ H2 x y z v u _ a2 (rv.step s2) ru e fun φ3 H3 w s3 r3 rw' => ?_
    cases rw' <;> try (cases h2; done)
    rename_i k
    refine ⟨k, rfl, ?_⟩
    cases k with
    | true =>
      rw [if_pos rfl]
      refine tD_bind (a2.step s3 r3) h2 (f2.step s3) fun z S4 φ4 H4 w s4 a4 rw h4 f4 => ?_
      obtain ⟨z', e', rfl, rfl⟩ := ofO_inj h4
      exact hg φ4 ρ _ σ H4 y z z' u w Q a4 ((ru.step s3).step s4) rw e' fun φ' H' w s r rw' => f4 φ' H' w s r rw'
    | false =>
      rw [if_neg Bool.false_ne_true]
      cases h2
      exact (f2.step s3).now r3 .bl
theorem de_chain {op op' : CmpOp} {f g : F2} {r r' : R2} (ho : OpR X (compareOp op) r) (hf : Op2 X f r) (ho' : OpR X (compareOp op') r') (hg : Op2 X g r') (ha : DE X W a da) (hb : DE X W b db) (hc : DE X W c dc)
    (hm : lastMarks [op, op'] [b, c] = false := by with_unfolding_all rfl) : DE X W (.Compare a [op, op'] [b, c] pos) (dChain f g da db dc) := PE.imp (pe_chain ho ho' ha hb hc hm) fun σ H Q q => t_chain hf hg q
theorem dt_chain {op op' : CmpOp} {f g : F2} {r r' : R2} (ho : OpR X (compareOp op) r) (hf : Op2 X f r) (ho' : OpR X (compareOp op') r') (hg : Op2 X g r') (ha : DE X W a da) (hb : DE X W b db) (hc : DE X W c dc)
    (hm : lastMarks [op, op'] [b, c] = false := by with_unfolding_all rfl) : DT X W (.Compare a [op, op'] [b, c] pos) (dTv (dChain f g da db dc)) := PT.imp (pt_chain ho ho' ha hb hc hm) fun σ H Q q => t_chain hf hg (tv_of q)
theorem dt_not (h : DT X W a ta) : DT X W (.UnaryOp .Not a pos) (dNotT ta) := PT.imp (pt_not h) fun σ H Q ⟨φ, ρ, S, res, S', a, h, fin⟩ => by
  refine tD_bind a h fin fun x S1 φ1 H1 v s1 a1 rv h1 f1 => ?_
  cases h1
  subst rv
  exact f1.now a1.rel rfl
theorem dw_and1 (ha : DT X W a ta) : DW X W (.BoolOp .And [a] pos) ta := pw_and1 ha
theorem dw_or1 (ha : DT X W a ta) : DW X W (.BoolOp .Or [a] pos) ta := pw_or1 ha
theorem dw_and (ha : DT X W a ta) (hb : DW X W (.BoolOp .And (b :: rest) pos) tb) : DW X W (.BoolOp .And (a :: b :: rest) pos) (dAndT ta tb) := PW.imp (pw_and ha hb) fun σ H Q ⟨φ, ρ, S, res, S', a, h, fin⟩ => by
  refine tD_bind a h fin fun x S1 φ1 H1 v s1 a1 rv h1 f1 => ?_
  subst rv
  cases x with
  | true => exact ⟨φ1, ρ, S1, res, S', a1, h1, f1⟩
  | false =>
    rw [if_neg Bool.false_ne_true] at h1 ⊢
    cases h1
    exact f1.now a1.rel rfl
theorem dw_or (ha : DT X W a ta) (hb : DW X W (.BoolOp .Or (b :: rest) pos) tb) : DW X W (.BoolOp .Or (a :: b :: rest) pos) (dOrT ta tb) := PW.imp (pw_or ha hb) fun σ H Q ⟨φ, ρ, S, res, S', a, h, fin⟩ => by
  refine tD_bind a h fin fun x S1 φ1 H1 v s1 a1 rv h1 f1 => ?_
  subst rv
  cases x with
  | false => exact ⟨φ1, ρ, S1, res, S', a1, h1, f1⟩
  | true =>
    rw [if_pos rfl] at h1 ⊢
    cases h1
    exact f1.now a1.rel rfl
theorem dt_bool (h : DW X W a ta) : DT X W a ta := h.pt
theorem de_not (h : DE X W a d) : DE X W (.UnaryOp .Not a pos) (dNotV d) := PE.imp (pe_not h) fun σ H Q ⟨φ, ρ, S, res, S', a, h, fin⟩ => by
  refine tD_bind a h fin fun x S1 φ1 H1 v s1 a1 rv h1 f1 => ?_
  cases rv <;> try (cases h1; done)
  cases h1
  exact ⟨_, rfl, f1.now a1.rel .bl⟩
theorem de_one {op} (h : DE X W a d) : DE X W (.BoolOp op [a] pos) d := pe_one h
theorem de_and (ha : DE X W a da) (hb : DE X W (.BoolOp .And (b :: rest) pos) db) : DE X W (.BoolOp .And (a :: b :: rest) pos) (dAndV da db) := PE.imp (pe_and ha hb) fun σ H Q ⟨φ, ρ, S, res, S', a, h, fin⟩ => by
  refine tD_bind a h fin fun x S1 φ1 H1 v s1 a1 rv h1 f1 => ?_
  cases rv <;> try (cases h1; done)
  rename_i k
  refine ⟨k, rfl, ?_⟩
  cases k with
  | true => exact ⟨φ1, ρ, S1, res, S', a1, h1, f1⟩
  | false =>
    rw [if_neg Bool.false_ne_true]
    cases h1
    exact f1.now a1.rel .bl
theorem de_or (ha : DE X W a da) (hb : DE X W (.BoolOp .Or (b :: rest) pos) db) : DE X W (.BoolOp .Or (a :: b :: rest) pos) (dOrV da db) := PE.imp (pe_or ha hb) fun σ H Q ⟨φ, ρ, S, res, S', a, h, fin⟩ => by
  refine tD_bind a h fin fun x S1 φ1 H1 v s1 a1 rv h1 f1 => ?_
  cases rv <;> try (cases h1; done)
  rename_i k
  refine ⟨k, rfl, ?_⟩
  cases k with
  | false => exact ⟨φ1, ρ, S1, res, S', a1, h1, f1⟩
  | true =>
    rw [if_pos rfl]
    cases h1
    exact f1.now a1.rel .bl
theorem de_if (hc : DT X W c ta) (ha : DE X W a da) (hb : DE X W b db) : DE X W (.IfExp c a b pos) (dIf ta da db) := PE.imp (pe_ifExp hc ha hb) fun σ H Q ⟨φ, ρ, S, res, S', a, h, fin⟩ => by
  refine tD_bind a h fin fun x S1 φ1 H1 v s1 a1 rv h1 f1 => ?_
  subst rv
  cases x <;> exact ⟨φ1, ρ, S1, res, S', a1, h1, f1⟩
theorem tru_rel {φ : Own} {H : Hp} {S : Store} {x : Val} {v : V} {k : Bool} (r : RelS X.K X.mg φ S H) (rx : RV X.K X.mg φ H x v) (h : truF S x = some k) : TruV X.K v H k := by
  have gen : ∀ {xs : List Val}, seqAt S x = some xs → k = !xs.isEmpty → TruV X.K v H k := fun {xs} hx hk => by
    obtain ⟨a, ys, rfl, h1, h2⟩ := seqAt_ok r rx hx
    have e : k = !ys.isEmpty := by rw [hk]; cases h2 <;> rfl
    rcases h1 with h1 | h1
    · exact .inl ⟨ys, h1, e⟩
    · exact .inr (.inl ⟨ys, h1, e⟩)
  have gen2 : (match seqAt S x with | some xs => some (!xs.isEmpty) | none => none) = some k → TruV X.K v H k := fun h => by
    cases e : seqAt S x with
    | none => rw [e] at h; cases h
    | some xs => rw [e] at h; cases h; exact gen e rfl
  cases rx with
  | non => cases h; rfl
  | bl => cases h; rfl
  | int => cases h; rfl
  | str =>
    unfold truF at h
    simp only at h
    split at h
    · rename_i hl
      cases h
      exact ⟨Nat.le_trans hl line1M, rfl⟩
    · cases h
  | tup a b => exact gen2 h
  | vl a b c => exact gen2 h
  | scr a b => exact gen2 h
  | vd a b c d => exact gen2 h
  | vi a b c d e => exact gen2 h
  | obj a => exact gen2 h
theorem dt_tru (h : DE X W a d) (he : ∀ whole, isTrue a X.env whole = (do let v ← whole; standAt a.pos; holding [v] (truthy v)) := by intro _; rfl) : DT X W a (dTt d) := PT.imp (pt_truth h he) fun σ H Q ⟨φ, ρ, S, res, S', a, h, fin⟩ => by
  refine tD_bind a h fin fun x S1 φ1 H1 v s1 a1 rv h1 f1 => ?_
  obtain ⟨k, e, rfl, rfl⟩ := ofO_inj h1
  exact ⟨k, tru_rel a1.rel rv e, f1.now a1.rel rfl⟩
end

/-! ### argument lists and displays -/
def dNil : AD := fun _ S => some (.ok [], S)
def dCons (d : ED) (ds : AD) : AD := fun ρ S => bindO (d ρ S) fun x S1 => bindO (ds ρ S1) fun xs S2 => some (.ok (x :: xs), S2)
def dStar (d : ED) (ds : AD) : AD := fun ρ S => bindO (d ρ S) fun x S1 => match seqAt S1 x with
  | some ys => bindO (ds ρ S1) fun xs S2 => some (.ok (ys ++ xs), S2)
  | none => none
def dTup (ds : AD) : ED := fun ρ S => bindO (ds ρ S) fun xs S1 => if xs.length ≤ 1000000 then some (.ok (.tup xs), S1) else none
/-- a list that is never changed -/
def dVl (ds : AD) : ED := fun ρ S => bindO (ds ρ S) fun xs S1 => if xs.length ≤ 1000000 then some (.ok (.vl xs), S1) else none
/-- a list of the store -/
def dLst (ds : AD) : ED := fun ρ S => bindO (ds ρ S) fun xs S1 => if xs.length ≤ 1000000 then some (.ok (.obj S1.length), S1 ++ [.lst xs]) else none
section
variable {X : Cx} {W : WX} {e : Expr} {es : List Expr} {pos p : Pos} {d : ED} {ds : AD}
theorem da_nil : DA X W [] dNil := PA.imp pa_nil fun σ H Q ⟨φ, ρ, S, res, S', a, h, fin⟩ => by
  cases h
  exact fin.now a.rel .nil
theorem da_cons (he : DE X W e d) (hr : DA X W es ds) (hs : starEach (e :: es) X.env = (false, eval e X.env) :: starEach es X.env := by rfl) : DA X W (e :: es) (dCons d ds) := PA.imp (pa_cons he hr hs) fun σ H Q ⟨φ, ρ, S, res, S', a, h, fin⟩ => by
  refine tD_bind a h fin fun x S1 φ1 H1 v s1 a1 rv h1 f1 => ?_
  refine tD_bind a1 h1 f1 fun y S2 φ2 H2 u s2 a2 ru h2 f2 => ?_
  cases h2
  exact f2.now a2.rel (.cons (rv.step s2) ru)
theorem da_star (he : DE X W e d) (hr : DA X W es ds) (hs : starEach (.Starred e p :: es) X.env = (true, eval e X.env) :: starEach es X.env := by rfl) : DA X W (.Starred e p :: es) (dStar d ds) := PA.imp (StX.pa_star he hr hs) fun σ H Q ⟨φ, ρ, S, res, S', a, h, fin⟩ => by
  refine tD_bind a h fin fun x S1 φ1 H1 v s1 a1 rv h1 f1 => ?_
  cases e : seqAt S1 x with
  | none => rw [e] at h1; cases h1
  | some ys =>
    rw [e] at h1
    obtain ⟨q, zs, rfl, h3, h4⟩ := seqAt_ok a1.rel rv e
    refine ⟨q, zs, rfl, h3.symm, ?_⟩
    refine tD_bind a1 h1 f1 fun y S2 φ2 H2 u s2 a2 ru h2 f2 => ?_
    cases h2
    exact f2.now a2.rel ((h4.step s2).append ru)
theorem de_tup {x1} (h : DA X W es ds) : DE X W (.Tuple es x1 pos) (dTup ds) := PE.imp (pe_tupF h) fun σ H Q ⟨φ, ρ, S, res, S', a, h, fin⟩ => by
  refine tD_bind a h fin fun x S1 φ1 H1 v s1 a1 rv h1 f1 => ?_
  split at h1
  · rename_i hl
    cases h1
    refine ⟨by rw [← rv.length]; exact Nat.le_trans hl line1M, fun q o hq ho => ?_⟩
    obtain ⟨q1, q2, q3⟩ := new_tup a1.rel hq ho rv
    exact f1 _ _ _ q1 q2 q3
  · cases h1
theorem de_vl (h : DA X W es ds) : DE X W (.List es pos) (dVl ds) := PE.imp (pe_lst h) fun σ H Q ⟨φ, ρ, S, res, S', a, h, fin⟩ => by
  refine tD_bind a h fin fun x S1 φ1 H1 v s1 a1 rv h1 f1 => ?_
  split at h1
  · rename_i hl
    cases h1
    refine ⟨by rw [← rv.length]; exact Nat.le_trans hl line1M, fun q hq => ?_⟩
    obtain ⟨q1, q2, q3⟩ := new_vl a1.rel hq rv
    exact f1 _ _ _ q1 q2 q3
  · cases h1
theorem de_lst (h : DA X W es ds) : DE X W (.List es pos) (dLst ds) := PE.imp (pe_lst h) fun σ H Q ⟨φ, ρ, S, res, S', a, h, fin⟩ => by
  refine tD_bind a h fin fun x S1 φ1 H1 v s1 a1 rv h1 f1 => ?_
  split at h1
  · rename_i hl
    cases h1
    refine ⟨by rw [← rv.length]; exact Nat.le_trans hl line1M, fun q hq => ?_⟩
    obtain ⟨q1, q2, q3⟩ := new_obj a1.rel hq rv
    exact f1 _ _ _ q1 q2 q3
  · cases h1
end

/-! ### slices -/
def cutD (xs : List Val) (lo hi : Option Int) : List Val := (xs.drop (HT.sIx xs.length 0 lo)).take (HT.sIx xs.length xs.length hi - HT.sIx xs.length 0 lo)
abbrev PD := Slots → Store → Out (Option Int)
def dNoPart : PD := fun _ S => some (.ok none, S)
def dPart (d : ED) : PD := fun ρ S => bindO (d ρ S) fun x S1 => match x with
  | .int i => some (.ok (some i), S1)
  | _ => none
def slF (S : Store) (x : Val) (lo hi : Option Int) : Option Val := match x with
  | .tup xs => some (.tup (cutD xs lo hi))
  | _ => (listAt S x).map fun xs => .vl (cutD xs lo hi)
def dSl (d : ED) (lo hi : PD) : ED := fun ρ S => bindO (d ρ S) fun x S1 => bindO (lo ρ S1) fun l S2 => bindO (hi ρ S2) fun u S3 => ofO (slF S3 x l u) S3
abbrev RO : Rl (Option Int) (Option Int) := fun _ _ a b => a = b
abbrev DP (X : Cx) (W : WX) (e : Option Expr) (d : PD) : Prop := PO X e (tD X.K X.mg RO W d)
theorem PO.imp {X : Cx} {e : Option Expr} {t t' : TO} (h : PO X e t) (i : ∀ σ H Q, t' σ H Q → t σ H Q) : PO X e t' := ⟨fun pins s σ H Q I w => h.run pins s σ H Q I (i _ _ _ w)⟩
section
variable {X : Cx} {W : WX} {e : Expr} {lo hi : Option Expr} {pos p2 : Pos} {d : ED} {dl dh : PD}
theorem dp_none : DP X W none dNoPart := PO.imp po_none fun σ H Q ⟨φ, ρ, S, res, S', a, h, fin⟩ => by
  cases h
  exact fin.now a.rel rfl
theorem dp_some (h : DE X W e d) : DP X W (some e) (dPart d) := PO.imp (po_some h) fun σ H Q ⟨φ, ρ, S, res, S', a, h, fin⟩ => by
  refine tD_bind a h fin fun x S1 φ1 H1 v s1 a1 rv h1 f1 => ?_
  cases rv <;> try (cases h1; done)
  cases h1
  exact ⟨_, rfl, f1.now a1.rel rfl⟩
theorem RVs.cut {K : PySem.W.Frag} {mg : MG} {φ : Own} {H : Hp} {xs : List Val} {vs : List V} (r : RVs K mg φ H xs vs) (lo hi : Option Int) : RVs K mg φ H (cutD xs lo hi) (cutV vs lo hi) := by
  unfold cutD cutV
  rw [r.length]
  exact (r.drop _).take _
theorem cutV_whole {xs : List V} {lo hi : Option Int} (h : HT.sIx xs.length 0 lo = 0 ∧ HT.sIx xs.length xs.length hi = xs.length) : cutV xs lo hi = xs := by
  unfold cutV
  rw [h.1, h.2]
  simp
theorem de_sl (he : DE X W e d) (hl : DP X W lo dl) (hu : DP X W hi dh) : DE X W (.Subscript e (.Slice lo hi none p2) pos) (dSl d dl dh) := PE.imp (pe_slice (SlR.or sl_tupF sl_list) he hl hu) fun σ H Q ⟨φ, ρ, S, res, S', a, h, fin⟩ => by
  refine tD_bind a h fin fun x S1 φ1 H1 v s1 a1 rv h1 f1 => ?_
  refine tD_bind a1 h1 f1 fun l S2 φ2 H2 u s2 a2 ru h2 f2 => ?_
  refine tD_bind a2 h2 f2 fun m S3 φ3 H3 w s3 a3 rw' h3 f3 => ?_
  subst ru
  subst rw'
  obtain ⟨z, ez, rfl, rfl⟩ := ofO_inj h3
  have rx := (rv.step s2).step s3
  have lst : ∀ {xs : List Val}, listAt S' x = some xs → z = .vl (cutD xs l m) → rSlL X.K v l m H3 Q := fun {xs} hx hz => by
    subst hz
    obtain ⟨q, ys, rfl, g1, g2⟩ := listAt_ok a3.rel rx hx
    refine ⟨q, ys, rfl, g1, fun p hp => ?_⟩
    obtain ⟨q1, q2, q3⟩ := new_vl a3.rel hp (g2.cut l m)
    exact f3 _ _ _ q1 q2 q3
  have lst2 : (listAt S' x).map (fun xs => Val.vl (cutD xs l m)) = some z → rSlL X.K v l m H3 Q := fun h => by
    cases e : listAt S' x with
    | none => rw [e] at h; cases h
    | some xs => rw [e] at h; cases h; exact lst e rfl
  cases rx with
  | tup ha rr =>
    cases ez
    refine .inl ⟨_, _, rfl, ha.sq, fun hw => ?_, fun hw p o hp ho => ?_⟩
    · have rc := rr.cut l m
      rw [cutV_whole hw] at rc
      exact f3.now a3.rel (.tup ha rc)
    · obtain ⟨q1, q2, q3⟩ := new_tup a3.rel hp ho (rr.cut l m)
      exact f3 _ _ _ q1 q2 q3
  | vl a b c => exact .inr (lst2 ez)
  | scr a b => exact .inr (lst2 ez)
  | obj a => exact .inr (lst2 ez)
  | _ => cases ez
end

/-! ### fields -/
def fget (f : Str) : List Str → List Val → Option Val
  | n :: ns, x :: xs => if f = n then some x else fget f ns xs
  | _, _ => none
def fput (f : Str) (y : Val) : List Str → List Val → List Val
  | n :: ns, x :: xs => if n = f then y :: xs else x :: fput f y ns xs
  | _, _ => [y]
def fputN (f : Str) : List Str → List Str
  | n :: ns => if n = f then n :: ns else n :: fputN f ns
  | [] => [f]
/-- an instance: its class, its fields -/
def insAt (S : Store) : Val → Option (Str × List Str × List Val)
  | .vi c ns xs => some (c, ns, xs)
  | .obj i => match S[i]? with
    | some (.ins c ns xs) => some (c, ns, xs)
    | _ => none
  | _ => none
def fldF (c f : Str) (S : Store) (x : Val) : Option Val := match insAt S x with
  | some (c', ns, xs) => if c' = c then fget f ns xs else none
  | none => none
def dFld (c f : Str) (d : ED) : ED := fun ρ S => bindO (d ρ S) fun x S1 => ofO (fldF c f S1 x) S1
section
variable {K : PySem.W.Frag} {mg : MG} {φ : Own} {H : Hp} {S : Store}
theorem insAt_ok (r : RelS K mg φ S H) {x : Val} {v : V} {c : Str} {ns : List Str} {xs : List Val} (q : RV K mg φ H x v) (h : insAt S x = some (c, ns, xs)) :
    ∃ a C dx fs, v = .ref a ∧ mg c = some (.ref C) ∧ H a = some (.ins C dx fs) ∧ fs.map (·.1) = ns ∧ RVs K mg φ H xs (fs.map (·.2)) := by
  cases q with
  | vi m hh n e rr => cases h; exact ⟨_, _, _, _, rfl, m, hh, e, rr⟩
  | obj ha =>
    unfold insAt at h
    simp only at h
    split at h
    · rename_i e
      cases h
      cases r.ob _ _ _ e ha with
      | ins m hh e rr => exact ⟨_, _, _, _, rfl, m, hh, e, rr⟩
    · cases h
  | _ => cases h
theorem fget_ok (f : Str) : ∀ {fs : List (Str × V)} {ns : List Str} {xs : List Val} {x : Val}, fs.map (·.1) = ns → RVs K mg φ H xs (fs.map (·.2)) → fget f ns xs = some x → ∃ v, fs.lookup f = some v ∧ RV K mg φ H x v
  | [], ns, xs, x, e, r, h => by subst e; cases r; cases h
  | (n, v) :: fs, ns, xs, x, e, r, h => by
    subst e
    cases r with
    | cons r1 r2 =>
      unfold fget at h
      simp only [List.map_cons] at h
      by_cases hn : f = n
      · subst hn
        rw [if_pos rfl] at h
        cases h
        exact ⟨v, by rw [List.lookup_cons]; simp, r1⟩
      · rw [if_neg hn] at h
        obtain ⟨w, e1, e2⟩ := fget_ok f rfl r2 h
        refine ⟨w, ?_, e2⟩
        rw [List.lookup_cons]
        have : (f == n) = false := by simp [hn]
        rw [this]
        exact e1
theorem fget_none (f : Str) : ∀ {fs : List (Str × V)} {ns : List Str} {xs : List Val}, fs.map (·.1) = ns → RVs K mg φ H xs (fs.map (·.2)) → fget f ns xs = none → fs.lookup f = none
  | [], ns, xs, e, r, h => rfl
  | (n, v) :: fs, ns, xs, e, r, h => by
    subst e
    cases r with
    | cons r1 r2 =>
      unfold fget at h
      simp only [List.map_cons] at h
      by_cases hn : f = n
      · rw [if_pos hn] at h; cases h
      · rw [if_neg hn] at h
        rw [List.lookup_cons]
        have : (f == n) = false := by simp [hn]
        rw [this]
        exact fget_none f rfl r2 h
end
section
variable {X : Cx} {W : WX} {e : Expr} {pos : Pos} {d : ED} {c f : Str}
/-- what a class must be that its field may be read -/
structure FldOk (X : Cx) (c f : Str) : Prop where
  at_ : ∀ C, X.mg c = some (.ref C) → Cls X.K C ∧ NoAttr X.K C f
theorem de_fld (hc : FldOk X c f) (he : DE X W e d) (hb : attributeBase e f X.env (eval e X.env) = eval e X.env := by rfl) : DE X W (.Attribute e f pos) (dFld c f d) := PE.imp (pe_fld he hb) fun σ H Q ⟨φ, ρ, S, res, S', a, h, fin⟩ => by
  refine tD_bind a h fin fun x S1 φ1 H1 v s1 a1 rv h1 f1 => ?_
  obtain ⟨z, ez, rfl, rfl⟩ := ofO_inj h1
  unfold fldF at ez
  split at ez
  · rename_i c' ns xs hi
    split at ez
    · rename_i hcc
      subst hcc
      obtain ⟨q, C, dx, fs, rfl, m, hh, e1, rr⟩ := insAt_ok a1.rel rv hi
      obtain ⟨w, l, rw'⟩ := fget_ok f e1 rr ez
      obtain ⟨k1, k2⟩ := hc.at_ C m
      exact ⟨q, C, dx, fs, w, rfl, hh, k1, k2, l, f1.now a1.rel rw'⟩
    · cases ez
  · cases ez
end

/-! ### calls of the text's defs -/
abbrev FD := List Val → Store → Out Val
/-- a def's promise -/
def spD (K : PySem.W.Frag) (mg : MG) (n : Nat) (F : FD) : Sp := fun vs H Q E => vs.length = n ∧
  ∃ φ S args r S', RelS K mg φ S H ∧ RVs K mg φ H args vs ∧ F args S = some (r, S') ∧ Fin K mg (RV K mg) (fun cls d _ H => E cls d H) φ [] H r S' Q
def dCall (F : FD) (dvs : List Val) (ds : AD) : ED := fun ρ S => bindO (ds ρ S) fun xs S1 => F (xs ++ dvs) S1
/-- a method of an instance of the class c -/
def dMeth (c m : Str) (F : FD) (d : ED) (ds : AD) : ED := fun ρ S => bindO (d ρ S) fun x S1 => match insAt S1 x with
  | some (c', ns, xs) => if c' = c ∧ fget m ns xs = none then bindO (ds ρ S1) fun ys S2 => F (x :: ys) S2 else none
  | none => none
section
variable {X : Cx} {W : WX} {k n : Nat} {f C : Addr} {fd : FuncData} {ps : List Str} {F : FD} {dvs : List Val} {dws : List V} {ds' : List Value} {x m c : Str} {p pos apos : Pos} {e o : Expr} {es : List Expr} {d : ED} {ds : AD}
theorem fin_wish {K : PySem.W.Frag} {mg : MG} {φ : Own} {σ : L2.St} {H : Hp} {r : Res Val} {S' : Store} {Q : VK} (h : Fin K mg (RV K mg) W φ σ H r S' Q) : Fin K mg (RV K mg) (fun cls d _ H => (fun cls d H' => W cls d σ H') cls d H) φ [] H r S' Q := by
  cases r <;> exact h
/-- what is let out is taken at these slots -/
def PassD (X : Cx) (W : WX) (CX : CXT) : Prop := ∀ σ, PassesAt CX X σ (fun cls d H' => W cls d σ H')
/-- how many arguments a denotation takes -/
def Arity (F : FD) (n : Nat) : Prop := ∀ args S out, F args S = some out → args.length = n
theorem spD_len {K : PySem.W.Frag} {mg : MG} {n : Nat} {F : FD} (vs : List V) (H : Hp) (Q : VK) (E : XK) (h : spD K mg n F vs H Q E) : vs.length = n := h.1
theorem sp_of {φ : Own} {H : Hp} {S : Store} {args : List Val} {vs : List V} {r : Res Val} {S' : Store} {σ : L2.St} {Q : VK} (ar : Arity F n) (rs : RelS X.K X.mg φ S H) (rv : RVs X.K X.mg φ H args vs) (h : F args S = some (r, S'))
    (fin : Fin X.K X.mg (RV X.K X.mg) W φ σ H r S' Q) : spD X.K X.mg n F vs H Q (fun cls d H' => W cls d σ H') :=
  ⟨by rw [← rv.length]; exact ar _ _ _ h, φ, S, args, r, S', rs, rv, h, fin_wish fin⟩
theorem de_call {CX : CXT} (F1 : FnOk X.prog X.w X.K X.mg X.base CX k f fd ps (spD X.K X.mg n F)) (ar : Arity F n) (hr : Room k X.A) (hg : Gl X x) (hm : X.mg x = some (.ref f)) (hk : PySem.W.keepIn X.K (.ref f) = true) (hb : Binds X.K fd ps ds') (hd : Vals dws ds')
    (hdv : ∀ φ H, RVs X.K X.mg φ H dvs dws) (hx : PassD X W CX) (ha : DA X W (e :: es) ds) (hdb : (x == ("__debug__" : Str)) = false := by decide)
    (he : starEach (e :: es) X.env = (false, eval e X.env) :: starEach es X.env := by rfl) (hpl : (backTo pos (starEach es X.env)).any (·.1) = false := by rfl) :
    DE X W (.Call (.Name x p) (e :: es) [] pos) (dCall F dvs ds) := PE.imp (pe_callSD F1 hr hg hm hk hb hd hx ha hdb he hpl) fun σ H Q ⟨φ, ρ, S, res, S', a, h, fin⟩ =>
  tD_bind a h fin fun xs S1 φ1 H1 vs s a1 rv h1 f1 => sp_of ar a1.rel (rv.append (hdv _ _)) h1 f1
end
end DL
set_option Elab.async false
set_option linter.all false
set_option maxRecDepth 100000
set_option maxHeartbeats 4000000
/-! The D layer, part 5: statements. -/
namespace DL
open PySem PySem.Spec PyProof.Rows L2

inductive Fl where
  | nx (ρ : Slots)
  | rt (x : Val)
  | bk (ρ : Slots)
  | ct (ρ : Slots)
  | ex (ρ : Slots) (c : Str) (ns : List Str) (xs : List Val)
abbrev SOut := Option (Fl × Store)
abbrev SD := Slots → Store → SOut
/-- an expression within a statement -/
def liftE {α : Type} (ρ : Slots) (m : Out α) (f : α → Store → SOut) : SOut := match m with
  | none => none
  | some (.ok x, S) => f x S
  | some (.ex c ns xs, S) => some (.ex ρ c ns xs, S)
@[simp] theorem liftE_none {α : Type} (ρ : Slots) (f : α → Store → SOut) : liftE ρ none f = none := rfl
@[simp] theorem liftE_ok {α : Type} (ρ : Slots) (a : α) (S : Store) (f : α → Store → SOut) : liftE ρ (some (.ok a, S)) f = f a S := rfl
@[simp] theorem liftE_ex {α : Type} (ρ : Slots) (c : Str) (ns : List Str) (xs : List Val) (S : Store) (f : α → Store → SOut) : liftE ρ (some (.ex c ns xs, S)) f = some (.ex ρ c ns xs, S) := rfl
/-- the next statement -/
def thenS (m : SOut) (f : SD) : SOut := match m with
  | some (.nx ρ, S) => f ρ S
  | o => o
@[simp] theorem thenS_none (f : SD) : thenS none f = none := rfl
@[simp] theorem thenS_nx (ρ : Slots) (S : Store) (f : SD) : thenS (some (.nx ρ, S)) f = f ρ S := rfl
@[simp] theorem thenS_rt (x : Val) (S : Store) (f : SD) : thenS (some (.rt x, S)) f = some (.rt x, S) := rfl
@[simp] theorem thenS_bk (ρ : Slots) (S : Store) (f : SD) : thenS (some (.bk ρ, S)) f = some (.bk ρ, S) := rfl
@[simp] theorem thenS_ct (ρ : Slots) (S : Store) (f : SD) : thenS (some (.ct ρ, S)) f = some (.ct ρ, S) := rfl
@[simp] theorem thenS_ex (ρ : Slots) (c : Str) (ns : List Str) (xs : List Val) (S : Store) (f : SD) : thenS (some (.ex ρ c ns xs, S)) f = some (.ex ρ c ns xs, S) := rfl

def FinS (K : PySem.W.Frag) (mg : MG) (W : WX) (φ : Own) (H : Hp) (fl : Fl) (S' : Store) (D : Ends) : Prop := match fl with
  | .nx ρ' => ∀ φ' H' σ', Step φ H φ' H' → At K mg φ' ρ' S' σ' H' → D.nx σ' H'
  | .bk ρ' => ∀ φ' H' σ', Step φ H φ' H' → At K mg φ' ρ' S' σ' H' → D.bk σ' H'
  | .ct ρ' => ∀ φ' H' σ', Step φ H φ' H' → At K mg φ' ρ' S' σ' H' → D.ct σ' H'
  | .rt x => ∀ φ' H' v, Step φ H φ' H' → RelS K mg φ' S' H' → RV K mg φ' H' x v → D.rt v H'
  | .ex ρ' c ns xs => ∀ φ' H' σ' C dA fs, Step φ H φ' H' → At K mg φ' ρ' S' σ' H' → mg c = some (.ref C) → H' dA = some (.xd fs) → φ'.out dA → fs.map (·.1) = ns → RVs K mg φ' H' xs (fs.map (·.2)) → W (.ref C) (some dA) σ' H'
def tS (K : PySem.W.Frag) (mg : MG) (W : WX) (d : SD) : TS := fun D σ H => ∃ φ ρ S fl S', At K mg φ ρ S σ H ∧ d ρ S = some (fl, S') ∧ FinS K mg W φ H fl S' D
abbrev DS (X : Cx) (W : WX) (st : Stmt) (d : SD) : Prop := PS X st (tS X.K X.mg W d)
abbrev DSs (X : Cx) (W : WX) (st : List Stmt) (d : SD) : Prop := PSs X st (tS X.K X.mg W d)

section
variable {K : PySem.W.Frag} {mg : MG} {φ φ' : Own} {H H' : Hp} {S S' : Store} {ρ : Slots} {σ : L2.St} {α β : Type} {R : Rl α β} {W : WX} {D : Ends} {fl : Fl}
theorem FinS.step (s : Step φ H φ' H') (f : FinS K mg W φ H fl S' D) : FinS K mg W φ' H' fl S' D := by
  cases fl with
  | nx ρ' => exact fun φ2 H2 σ2 s2 a2 => f φ2 H2 σ2 (s.trans s2) a2
  | bk ρ' => exact fun φ2 H2 σ2 s2 a2 => f φ2 H2 σ2 (s.trans s2) a2
  | ct ρ' => exact fun φ2 H2 σ2 s2 a2 => f φ2 H2 σ2 (s.trans s2) a2
  | rt x => exact fun φ2 H2 v s2 r2 rv => f φ2 H2 v (s.trans s2) r2 rv
  | ex ρ' c ns xs => exact fun φ2 H2 σ2 C dA fs s2 a2 => f φ2 H2 σ2 C dA fs (s.trans s2) a2
/-- an expression is asked for, the statement goes on from it -/
theorem tS_bind {d : Slots → Store → Out α} {f : α → Store → SOut} (a : At K mg φ ρ S σ H) (h : liftE ρ (d ρ S) f = some (fl, S')) (fin : FinS K mg W φ H fl S' D) {G : β → Hp → Prop}
    (k : ∀ x S1 φ1 H1 v, Step φ H φ1 H1 → At K mg φ1 ρ S1 σ H1 → R φ1 H1 x v → f x S1 = some (fl, S') → FinS K mg W φ1 H1 fl S' D → G v H1) : tD K mg R W d σ H G := by
  cases e : d ρ S with
  | none => rw [e] at h; cases h
  | some p =>
    obtain ⟨q, S1⟩ := p
    rw [e] at h
    refine ⟨φ, ρ, S, q, S1, a, e, ?_⟩
    cases q with
    | ok x => exact fun φ1 H1 v s r1 rv => k x S1 φ1 H1 v s (a.step s r1) rv h (fin.step s)
    | ex c ns xs =>
      cases h
      exact fun φ1 H1 C dA fs s r1 h1 h2 h3 h4 h5 => fin φ1 H1 σ C dA fs s (a.step s r1) h1 h2 h3 h4 h5
theorem FinS.nxt {ρ' : Slots} {σ' : L2.St} (f : FinS K mg W φ H (.nx ρ') S D) (a : At K mg φ ρ' S σ' H) : D.nx σ' H := f φ H σ' .refl a
end

def dSkip : SD := fun ρ S => some (.nx ρ, S)
def dSeq (d e : SD) : SD := fun ρ S => thenS (d ρ S) e
def dExpr (d : ED) : SD := fun ρ S => liftE ρ (d ρ S) fun _ S1 => some (.nx ρ, S1)
def dRet (d : ED) : SD := fun ρ S => liftE ρ (d ρ S) fun x S1 => some (.rt x, S1)
def dRetN : SD := fun _ S => some (.rt .non, S)
def dSet (i : Nat) (d : ED) : SD := fun ρ S => liftE ρ (d ρ S) fun x S1 => some (.nx (ρ.set i (some x)), S1)
def dIfS (t : TD) (d e : SD) : SD := fun ρ S => liftE ρ (t ρ S) fun b S1 => if b = true then d ρ S1 else e ρ S1
def dBreak : SD := fun ρ S => some (.bk ρ, S)
def dCont : SD := fun ρ S => some (.ct ρ, S)
def dNever : SD := fun _ _ => none
/-- targets: plain names, tuples of them -/
abbrev GD := Val → Slots → Option Slots
def gN (i : Nat) : GD := fun x ρ => some (ρ.set i (some x))
abbrev GDs := List Val → Slots → Option Slots
def gNil' : GDs := fun xs ρ => match xs with
  | [] => some ρ
  | _ => none
def gCons' (g : GD) (gs : GDs) : GDs := fun xs ρ => match xs with
  | x :: xs => match g x ρ with
    | some ρ1 => gs xs ρ1
    | none => none
  | _ => none
def gT (n : Nat) (gs : GDs) : GD := fun x ρ => match x with
  | .tup xs => if xs.length = n then gs xs ρ else none
  | _ => none
def dAsg (g : GD) (d : ED) : SD := fun ρ S => liftE ρ (d ρ S) fun x S1 => match g x ρ with
  | some ρ1 => some (.nx ρ1, S1)
  | none => none
/-- only these slots may differ -/
def OnlyAt (js : List Nat) (σ σ' : L2.St) : Prop := σ'.length = σ.length ∧ ∀ i, i ∉ js → σ'[i]? = σ[i]?
def tG (K : PySem.W.Frag) (mg : MG) (g : GD) (js : List Nat) : TG := fun v σ H Q => ∃ φ ρ S x ρ', At K mg φ ρ S σ H ∧ RV K mg φ H x v ∧ g x ρ = some ρ' ∧ ∀ σ', At K mg φ ρ' S σ' H → OnlyAt js σ σ' → Q σ' H
def tGs (K : PySem.W.Frag) (mg : MG) (g : GDs) (js : List Nat) : TGs := fun vs σ H Q => ∃ φ ρ S xs ρ', At K mg φ ρ S σ H ∧ RVs K mg φ H xs vs ∧ g xs ρ = some ρ' ∧ ∀ σ', At K mg φ ρ' S σ' H → OnlyAt js σ σ' → Q σ' H
abbrev DG (X : Cx) (e : Expr) (g : GD) (js : List Nat) : Prop := PG X e (tG X.K X.mg g js)
abbrev DGs (X : Cx) (es : List Expr) (g : GDs) (js : List Nat) : Prop := PGs X es (tGs X.K X.mg g js)
theorem OnlyAt.refl {js : List Nat} {σ : L2.St} : OnlyAt js σ σ := ⟨rfl, fun _ _ => rfl⟩
theorem OnlyAt.trans {js ks : List Nat} {σ σ1 σ2 : L2.St} (a : OnlyAt js σ σ1) (b : OnlyAt ks σ1 σ2) : OnlyAt (js ++ ks) σ σ2 :=
  ⟨b.1.trans a.1, fun i h => (b.2 i fun m => h (List.mem_append_right _ m)).trans (a.2 i fun m => h (List.mem_append_left _ m))⟩
theorem OnlyAt.set {i : Nat} {v : Option V} {σ : L2.St} : OnlyAt [i] σ (σ.set i v) := ⟨by simp, fun j h => by
  rw [List.getElem?_set_ne (fun e => h (by simp [e]))]⟩
theorem PG.imp {X : Cx} {e : Expr} {t t' : TG} (h : PG X e t) (i : ∀ v σ H Q, t' v σ H Q → t v σ H Q) : PG X e t' := ⟨fun pins s σ H v u Q I r w => h.run pins s σ H v u Q I r (i _ _ _ _ w)⟩
theorem PGs.imp {X : Cx} {e : List Expr} {t t' : TGs} (h : PGs X e t) (i : ∀ v σ H Q, t' v σ H Q → t v σ H Q) : PGs X e t' := ⟨fun pins s σ H v u Q I r w => h.run pins s σ H v u Q I r (i _ _ _ _ w)⟩

section
variable {X : Cx} {W : WX} {st : Stmt} {rest : List Stmt} {d e : SD} {ex : Expr} {de : ED} {pos : Pos}
theorem dss_nil : DSs X W [] dSkip := PSs.imp pss_nil fun D σ H ⟨φ, ρ, S, fl, S', a, h, fin⟩ => by
  cases h
  exact fin.nxt a
theorem dss_cons (h1 : DS X W st d) (h2 : DSs X W rest e) : DSs X W (st :: rest) (dSeq d e) := PSs.imp (pss_cons h1 h2) fun D σ H ⟨φ, ρ, S, fl, S', a, h, fin⟩ => by
  have h' : thenS (d ρ S) e = some (fl, S') := h
  cases e1 : d ρ S with
  | none => rw [e1] at h'; cases h'
  | some p =>
    obtain ⟨fl1, S1⟩ := p
    rw [e1] at h'
    refine ⟨φ, ρ, S, fl1, S1, a, e1, ?_⟩
    cases fl1 with
    | nx ρ1 => exact fun φ1 H1 σ1 s a1 => ⟨φ1, ρ1, S1, fl, S', a1, h', fin.step s⟩
    | rt x => cases h'; exact fin
    | bk ρ1 => cases h'; exact fin
    | ct ρ1 => cases h'; exact fin
    | ex ρ1 c ns xs => cases h'; exact fin
theorem dss_one (h1 : DS X W st d) : DSs X W [st] d := pss_one h1
theorem ds_pass : DS X W (.Pass pos) dSkip := PS.imp ps_pass fun D σ H ⟨φ, ρ, S, fl, S', a, h, fin⟩ => by
  cases h
  exact fin.nxt a
theorem ds_break : DS X W (.Break pos) dBreak := PS.imp ps_break fun D σ H ⟨φ, ρ, S, fl, S', a, h, fin⟩ => by
  cases h
  exact fin φ H σ .refl a
theorem ds_continue : DS X W (.Continue pos) dCont := PS.imp ps_continue fun D σ H ⟨φ, ρ, S, fl, S', a, h, fin⟩ => by
  cases h
  exact fin φ H σ .refl a
theorem ds_never : DS X W st dNever := PS.imp ps_never fun D σ H ⟨φ, ρ, S, fl, S', a, h, fin⟩ => by cases h
theorem ds_expr (he : DE X W ex de) (hs : swapsWith ex none pos.line X.env = pure false := by rfl) : DS X W (.Expr ex pos) (dExpr de) := PS.imp (ps_expr he hs) fun D σ H ⟨φ, ρ, S, fl, S', a, h, fin⟩ => by
  refine tS_bind a h fin fun x S1 φ1 H1 v s a1 rv h1 f1 => ?_
  cases h1
  exact f1.nxt a1
theorem ds_ret (he : DE X W ex de) : DS X W (.Return (some ex) pos) (dRet de) := PS.imp (ps_ret he) fun D σ H ⟨φ, ρ, S, fl, S', a, h, fin⟩ => by
  refine tS_bind a h fin fun x S1 φ1 H1 v s a1 rv h1 f1 => ?_
  cases h1
  exact f1 φ1 H1 v .refl a1.rel rv
theorem ds_retN : DS X W (.Return none pos) dRetN := PS.imp ps_retN fun D σ H ⟨φ, ρ, S, fl, S', a, h, fin⟩ => by
  cases h
  exact fin φ H .non .refl a.rel .non
theorem ds_set {i : Nat} {x : Str} {pos' : Pos} (hN : X.N.Nodup) (he : DE X W ex de) (hi : X.N[i]? = some x := by rfl) (hx : Loc X.env.scope x := by first | exact Or.inl rfl | exact Or.inr rfl) (hs : swapsWith ex (some (.Name x pos')) pos.line X.env = pure false := by rfl)
    (hf : X.fn x = true ∨ X.env.scope.names.lookup x = some .local := by first | exact .inl rfl | exact .inr rfl | assumption) : DS X W (.Assign [.Name x pos'] ex pos) (dSet i de) := PS.imp (ps_set hN hi hx he hs hf) fun D σ H ⟨φ, ρ, S, fl, S', a, h, fin⟩ => by
  refine tS_bind a h fin fun x S1 φ1 H1 v s a1 rv h1 f1 => ?_
  cases h1
  exact f1.nxt ⟨a1.env.set rv i, a1.rel⟩
theorem ds_if {c : Expr} {a b : List Stmt} {tc : TD} (hc : DT X W c tc) (ha : DSs X W a d) (hb : DSs X W b e) : DS X W (.If c a b pos) (dIfS tc d e) := PS.imp (ps_if hc ha hb) fun D σ H ⟨φ, ρ, S, fl, S', a, h, fin⟩ => by
  refine tS_bind a h fin fun x S1 φ1 H1 v s a1 rv h1 f1 => ?_
  subst rv
  cases x <;> exact ⟨φ1, ρ, S1, fl, S', a1, h1, f1⟩
/-! targets -/
theorem dg_name {i : Nat} {x : Str} (hN : X.N.Nodup) (hi : X.N[i]? = some x := by rfl) (hx : Loc X.env.scope x := by first | exact Or.inl rfl | exact Or.inr rfl) (hf : X.fn x = true ∨ X.env.scope.names.lookup x = some .local := by first | exact .inl rfl | exact .inr rfl | assumption) : DG X (.Name x pos) (gN i) [i] :=
  PG.imp (pg_name hN hi hx hf) fun v σ H Q ⟨φ, ρ, S, x, ρ', a, rv, h, q⟩ => by
    cases h
    exact q _ ⟨a.env.set rv i, a.rel⟩ OnlyAt.set
theorem dgs_nil : DGs X [] gNil' [] := PGs.imp pgs_nil fun v σ H Q ⟨φ, ρ, S, xs, ρ', a, rv, h, q⟩ => by
  cases rv with
  | nil => cases h; exact ⟨rfl, q _ a OnlyAt.refl⟩
  | cons _ _ => cases h
theorem dgs_cons {e : Expr} {es : List Expr} {g : GD} {gs : GDs} {js ks : List Nat} (h1 : DG X e g js) (h2 : DGs X es gs ks) (hs : (assignEach (e :: es) X.env).map (·.2) = assign e X.env :: (assignEach es X.env).map (·.2) := by rfl) : DGs X (e :: es) (gCons' g gs) (js ++ ks) :=
  PGs.imp (pgs_cons h1 h2 hs) fun v σ H Q ⟨φ, ρ, S, xs, ρ', a, rv, h, q⟩ => by
    cases rv with
    | nil => cases h
    | @cons x w ys ws r1 r2 =>
      have h' : (match g x ρ with | some ρ1 => gs ys ρ1 | none => none) = some ρ' := h
      cases e1 : g x ρ with
      | none => rw [e1] at h'; cases h'
      | some ρ1 =>
        rw [e1] at h'
        exact ⟨_, _, rfl, φ, ρ, S, x, ρ1, a, r1, e1, fun σ1 a1 o1 => ⟨φ, ρ1, S, ys, ρ', a1, r2, h', fun σ2 a2 o2 => q σ2 a2 (o1.trans o2)⟩⟩
theorem dg_tup {es : List Expr} {k : Nat} {gs : GDs} {n : Nat} {js : List Nat} (hc : X.calm = true) (h : DGs X es gs js) (hn : (assignEach es X.env).length = n := by rfl) (hst : (assignEach es X.env).findIdx? (·.1) = none := by rfl) : DG X (.Tuple es k pos) (gT n gs) js :=
  PG.imp (pg_tup hc h hn hst) fun v σ H Q ⟨φ, ρ, S, x, ρ', a, rv, h, q⟩ => by
    cases rv with
    | @tup xs p ys ha rr =>
      unfold gT at h
      simp only at h
      split at h
      · rename_i hl
        exact ⟨p, ys, rfl, ha.sq, by rw [← rr.length]; exact hl, φ, ρ, S, xs, ρ', a, rr, h, q⟩
      · cases h
    | _ => cases h
theorem ds_asg {tg : Expr} {g : GD} {js : List Nat} (he : DE X W ex de) (hg : DG X tg g js) (hs : swapsWithSole [tg] ex pos.line X.env = pure false := by rfl) (hw : swappedStores [tg] ex X.env = pure none := by rfl)
    (h1 : (assignEach [tg] X.env).map (·.2) = [assign tg X.env] := by rfl) : DS X W (.Assign [tg] ex pos) (dAsg g de) := PS.imp (ps_asg he hg hs hw h1) fun D σ H ⟨φ, ρ, S, fl, S', a, h, fin⟩ => by
  refine tS_bind a h fin fun x S1 φ1 H1 v s a1 rv h1 f1 => ?_
  cases e1 : g x ρ with
  | none => rw [e1] at h1; cases h1
  | some ρ1 =>
    rw [e1] at h1
    cases h1
    exact ⟨φ1, ρ, _, x, ρ1, a1, rv, e1, fun σ1 a2 _ => f1.nxt a2⟩
/-- a, b = x, y, stored at once -/
def dPar (i j : Nat) (ds : AD) : SD := fun ρ S => liftE ρ (ds ρ S) fun xs S1 => match xs with
  | [x, y] => some (.nx ((ρ.set i (some x)).set j (some y)), S1)
  | _ => none
theorem ds_par {i j : Nat} {x y : Str} {a b : Expr} {da : AD} {px py pt : Pos} {kt k2 pt2} (hc : X.calm = true) (hN : X.N.Nodup) (hij : i ≠ j) (ha : DA X W [a, b] da) (hi : X.N[i]? = some x := by rfl) (hj : X.N[j]? = some y := by rfl)
    (hx : X.env.scope.names.lookup x = some .local := by rfl) (hy : X.env.scope.names.lookup y = some .local := by rfl)
    (hw : swappedStores [.Tuple [.Name x px, .Name y py] kt pt] (.Tuple [a, b] k2 pt2) X.env = pure (some [x, y]) := by rfl)
    (hs : swapsWithSole [.Tuple [.Name x px, .Name y py] kt pt] (.Tuple [a, b] k2 pt2) pos.line X.env = pure false := by rfl) :
    DS X W (.Assign [.Tuple [.Name x px, .Name y py] kt pt] (.Tuple [a, b] k2 pt2) pos) (dPar i j da) := PS.imp (ps_par hc hN hi hj hij hx hy ha hw hs) fun D σ H ⟨φ, ρ, S, fl, S', a, h, fin⟩ => by
  refine tS_bind a h fin fun xs S1 φ1 H1 vs s a1 rv h1 f1 => ?_
  cases rv with
  | nil => cases h1
  | cons r1 t =>
    cases t with
    | nil => cases h1
    | cons r2 t =>
      cases t with
      | cons _ _ => cases h1
      | nil =>
        cases h1
        exact ⟨_, _, rfl, f1.nxt ⟨(a1.env.set r1 i).set r2 j, a1.rel⟩⟩
/-! while -/
def whileD (t : TD) (b : SD) : Nat → SD
  | 0 => fun _ _ => none
  | n + 1 => fun ρ S => liftE ρ (t ρ S) fun c S1 => if c = true then match b ρ S1 with
      | some (.nx ρ2, S2) => whileD t b n ρ2 S2
      | some (.ct ρ2, S2) => whileD t b n ρ2 S2
      | some (.bk ρ2, S2) => some (.nx ρ2, S2)
      | o => o
    else some (.nx ρ, S1)
theorem ds_while {c : Expr} {body : List Stmt} {tc : TD} {b : SD} (n : Nat) (hp : PassesOwn (model X.prog X.w) X.A X.env X.xe) (hc : DT X W c tc) (hb : DSs X W body b) : DS X W (.While c body [] pos) (whileD tc b n) :=
  PS.imp (ps_while hp hc hb) fun D σ H ⟨φ, ρ, S, fl, S', a, h, fin⟩ => by
    refine ⟨fun m σ1 H1 => ∃ φ1 ρ1 S1, At X.K X.mg φ1 ρ1 S1 σ1 H1 ∧ whileD tc b m ρ1 S1 = some (fl, S') ∧ FinS X.K X.mg W φ1 H1 fl S' D, ⟨n, φ, ρ, S, a, h, fin⟩, ?_⟩
    rintro m σ1 H1 ⟨φ1, ρ1, S1, a1, h1, f1⟩
    cases m with
    | zero => cases h1
    | succ m =>
      refine tS_bind a1 h1 f1 fun x S2 φ2 H2 v s a2 rv h2 f2 => ?_
      subst rv
      cases x with
      | false =>
        rw [if_neg Bool.false_ne_true] at h2 ⊢
        cases h2
        exact f2.nxt a2
      | true =>
        rw [if_pos rfl] at h2 ⊢
        refine ⟨fun σ3 H3 => ∃ φ3 ρ3 S3, At X.K X.mg φ3 ρ3 S3 σ3 H3 ∧ whileD tc b m ρ3 S3 = some (fl, S') ∧ FinS X.K X.mg W φ3 H3 fl S' D, fun σ3 H3 ⟨φ3, ρ3, S3, a3, h3, f3⟩ => ⟨m, Nat.lt_succ_self m, φ3, ρ3, S3, a3, h3, f3⟩, ?_⟩
        cases e : b ρ1 S2 with
        | none => rw [e] at h2; cases h2
        | some p =>
          obtain ⟨fl3, S3⟩ := p
          rw [e] at h2
          refine ⟨φ2, ρ1, S2, fl3, S3, a2, e, ?_⟩
          cases fl3 with
          | nx ρ3 => exact fun φ3 H3 σ3 s3 a3 => ⟨φ3, ρ3, S3, a3, h2, f2.step s3⟩
          | ct ρ3 => exact fun φ3 H3 σ3 s3 a3 => ⟨φ3, ρ3, S3, a3, h2, f2.step s3⟩
          | bk ρ3 => cases h2; exact fun φ3 H3 σ3 s3 a3 => f2 φ3 H3 σ3 s3 a3
          | rt x => cases h2; exact f2
          | ex ρ3 c ns xs => cases h2; exact f2
end

/-! ### what is walked -/
/-- the things that come, and what must hold of the store as long as they come -/
structure Its where
  xs : List Val
  chk : Store → Prop
abbrev ID := Slots → Store → Out Its
/-- J gives just these things, from here on -/
def Src (K : PySem.W.Frag) (mg : MG) (φ : Own) (H : Hp) (t : Its) (J : It) : Prop := ∀ φ1 S1 H1, Fwd φ H φ1 H1 → RelS K mg φ1 S1 H1 → t.chk S1 → ∀ i,
  (∀ x, t.xs[i]? = some x → J.go i H1 ∧ ∀ v H2, J.yld i H1 v H2 → ∃ φ2, Step φ1 H1 φ2 H2 ∧ RelS K mg φ2 S1 H2 ∧ RV K mg φ2 H2 x v) ∧ (t.xs.length ≤ i → J.stop i H1)
abbrev RI (K : PySem.W.Frag) (mg : MG) : Rl Its It := fun φ H t J => Src K mg φ H t J
abbrev DI (X : Cx) (W : WX) (tg iter : Expr) (d : ID) : Prop := PI X tg iter (tD X.K X.mg (RI X.K X.mg) W d)
theorem PI.imp {X : Cx} {tg e : Expr} {t t' : TI} (h : PI X tg e t) (i : ∀ σ H Q, t' σ H Q → t σ H Q) : PI X tg e t' := ⟨fun pins s σ H Q I w => h.run pins s σ H Q I (i _ _ _ w)⟩
open Classical in
noncomputable def forL (chk : Store → Prop) (g : GD) (b : SD) : List Val → SD
  | [] => fun ρ S => if chk S then some (.nx ρ, S) else none
  | x :: xs => fun ρ S => if chk S then match g x ρ with
      | some ρ1 => match b ρ1 S with
        | some (.nx ρ2, S2) => forL chk g b xs ρ2 S2
        | some (.ct ρ2, S2) => forL chk g b xs ρ2 S2
        | some (.bk ρ2, S2) => some (.nx ρ2, S2)
        | o => o
      | none => none
    else none
noncomputable def dFor (di : ID) (g : GD) (b : SD) : SD := fun ρ S => liftE ρ (di ρ S) fun t S1 => forL t.chk g b t.xs ρ S1
section
variable {X : Cx} {W : WX} {pos : Pos}
theorem ds_for {tg iter : Expr} {body : List Stmt} {di : ID} {g : GD} {js : List Nat} {b : SD} (hp : PassesOwn (model X.prog X.w) X.A X.env X.xe) (hc : X.calm = true) (hi : DI X W tg iter di) (hg : DG X tg g js) (hb : DSs X W body b)
    (hs : ∀ x, foldedSetIterable iter X.env x = pure x := by intro _; rfl) : DS X W (.For tg iter body [] pos) (dFor di g b) := PS.imp (ps_for hp hc hi hg hb hs) fun D σ H ⟨φ, ρ, S, fl, S', a, h, fin⟩ => by
  refine tS_bind a h fin fun t S1 φ1 H1 J s a1 src h1 f1 => ?_
  refine ⟨fun i m σ2 H2 => ∃ φ2 ρ2 S2 xs, t.xs.drop i = xs ∧ m = xs.length ∧ Step φ1 H1 φ2 H2 ∧ At X.K X.mg φ2 ρ2 S2 σ2 H2 ∧ forL t.chk g b xs ρ2 S2 = some (fl, S') ∧ FinS X.K X.mg W φ2 H2 fl S' D,
    ⟨_, φ1, ρ, S1, t.xs, rfl, rfl, .refl, a1, h1, f1⟩, ?_⟩
  rintro i m σ2 H2 ⟨φ2, ρ2, S2, xs, ex, rfl, s2, a2, h2, f2⟩
  cases xs with
  | nil =>
    have hl : t.xs.length ≤ i := List.drop_eq_nil_iff.mp ex
    unfold forL at h2
    split at h2
    · rename_i hk
      cases h2
      exact .inl ⟨(src φ2 _ H2 s2.fwd a2.rel hk i).2 hl, f2.nxt a2⟩
    · cases h2
  | cons x xs =>
    have hx : t.xs[i]? = some x := by
      have e := congrArg List.head? ex
      rw [List.head?_drop] at e
      exact e
    have hd : t.xs.drop (i + 1) = xs := by
      have e := congrArg List.tail ex
      rw [List.tail_drop] at e
      exact e
    unfold forL at h2
    split at h2
    · rename_i hk
      obtain ⟨go, yl⟩ := (src φ2 _ H2 s2.fwd a2.rel hk i).1 x hx
      refine .inr ⟨go, fun σ3 H3 => ∃ φ3 ρ3 S3, Step φ1 H1 φ3 H3 ∧ At X.K X.mg φ3 ρ3 S3 σ3 H3 ∧ forL t.chk g b xs ρ3 S3 = some (fl, S') ∧ FinS X.K X.mg W φ3 H3 fl S' D,
        fun σ3 H3 ⟨φ3, ρ3, S3, s3, a3, h3, f3⟩ => ⟨xs.length, Nat.lt_succ_self _, φ3, ρ3, S3, xs, hd, rfl, s3, a3, h3, f3⟩, fun v H3 y => ?_⟩
      obtain ⟨φ3, s3, r3, rv⟩ := yl v H3 y
      have a3 := a2.step s3 r3
      cases e1 : g x ρ2 with
      | none => rw [e1] at h2; cases h2
      | some ρ3 =>
        rw [e1] at h2
        refine ⟨φ3, ρ2, S2, x, ρ3, a3, rv, e1, fun σ4 a4 _ => ?_⟩
        simp only at h2
        cases e2 : b ρ3 S2 with
        | none => rw [e2] at h2; cases h2
        | some p =>
          obtain ⟨fl4, S4⟩ := p
          rw [e2] at h2
          refine ⟨φ3, ρ3, S2, fl4, S4, a4, e2, ?_⟩
          have f3 := f2.step s3
          have s13 := s2.trans s3
          cases fl4 with
          | nx ρ4 => exact fun φ4 H4 σ4 s4 a4 => ⟨φ4, ρ4, S4, s13.trans s4, a4, h2, f3.step s4⟩
          | ct ρ4 => exact fun φ4 H4 σ4 s4 a4 => ⟨φ4, ρ4, S4, s13.trans s4, a4, h2, f3.step s4⟩
          | bk ρ4 => cases h2; exact fun φ4 H4 σ4 s4 a4 => f3 φ4 H4 σ4 s4 a4
          | rt x => cases h2; exact f3
          | ex ρ4 c ns ys => cases h2; exact f3
    · cases h2
/-- over a list or a tuple: it must stay as it is -/
noncomputable def dSeqI (d : ED) : ID := fun ρ S => bindO (d ρ S) fun x S1 => match seqAt S1 x with
  | some xs => some (.ok ⟨xs, fun S2 => seqAt S2 x = some xs⟩, S1)
  | none => none
/-- over range(n) -/
def dRange1 (d : ED) : ID := fun ρ S => bindO (d ρ S) fun x S1 => match x with
  | .int n => if -1000000 < n ∧ n < 1000000 then some (.ok ⟨(List.range n.toNat).map fun (i : Nat) => .int i, fun _ => True⟩, S1) else none
  | _ => none
theorem di_seq {tg e : Expr} {d : ED} (he : DE X W e d) : DI X W tg e (dSeqI d) := by
  refine ⟨fun pins s σ H R I h => ?_⟩
  obtain ⟨φ, ρ, S, r, S', a, h, fin⟩ := h
  cases e1 : d ρ S with
  | none =>
    have h' : bindO (d ρ S) _ = some (r, S') := h
    rw [e1] at h'; cases h'
  | some p =>
    obtain ⟨q, S1⟩ := p
    have h' : bindO (d ρ S) _ = some (r, S') := h
    rw [e1] at h'
    cases q with
    | ex c ns xs =>
      cases h'
      exact (pi_list he).run pins s σ H R I ⟨φ, ρ, S, _, _, a, e1, fin⟩
    | ok x =>
      simp only [bindO_ok] at h'
      cases e2 : seqAt S1 x with
      | none => rw [e2] at h'; cases h'
      | some xs =>
        rw [e2] at h'
        cases h'
        have lst : (∀ φ H v, RelS X.K X.mg φ S' H → RV X.K X.mg φ H x v → seqAt S' x = some xs → ∃ p ys, v = .ref p ∧ SqL X.K H p ys) → (∀ S2 ys φ2 H2 p, RelS X.K X.mg φ2 S2 H2 → RV X.K X.mg φ2 H2 x (.ref p) → seqAt S2 x = some ys → ∃ vs, SqL X.K H2 p vs ∧ RVs X.K X.mg φ2 H2 ys vs) →
            wpAny (model X.prog X.w) X.A (eval e X.env) (fun v s1 => wpAny (model X.prog X.w) X.A (pyIter v) (PIE X pins σ tg R) X.xe s1) X.xe s := fun hp hq => by
          refine (pi_list (tg := tg) he).run pins s σ H R I ⟨φ, ρ, S, _, _, a, e1, fun φ1 H1 v s1 r1 rv => ?_⟩
          obtain ⟨p, ys, rfl, h1⟩ := hp φ1 H1 v r1 rv e2
          refine ⟨p, rfl, ⟨ys, h1⟩, fin φ1 H1 _ s1 r1 fun φ2 S2 H2 s2 r2 hk i => ?_⟩
          obtain ⟨vs, h3, h4⟩ := hq S2 xs φ2 H2 p r2 (rv.fwd s2) hk
          refine ⟨fun z hz => ?_, fun hl => ⟨vs, h3, by rw [← h4.length]; exact hl⟩⟩
          obtain ⟨w, hw, rw'⟩ := h4.get hz
          refine ⟨⟨vs, w, h3, hw⟩, fun v' H' ⟨e, y⟩ => ?_⟩
          subst e
          have := y vs h3
          rw [hw] at this
          cases this
          exact ⟨φ2, .refl, r2, rw'⟩
        have tup : (∃ zs, x = .tup zs) → wpAny (model X.prog X.w) X.A (eval e X.env) (fun v s1 => wpAny (model X.prog X.w) X.A (pyIter v) (PIE X pins σ tg R) X.xe s1) X.xe s := fun ⟨zs, hx⟩ => by
          subst hx
          cases e2
          refine (pi_tup (tg := tg) he).run pins s σ H R I ⟨φ, ρ, S, _, _, a, e1, fun φ1 H1 v s1 r1 rv => ?_⟩
          have hv := rv
          cases hv with
          | tup ha rr =>
            rename_i p ys
            refine ⟨p, rfl, ⟨ys, ha.sq⟩, fin φ1 H1 _ s1 r1 fun φ2 S2 H2 s2 r2 hk i => ?_⟩
            have h3 := (ha.fwd s2).sq
            have h4 := rr.fwd s2
            refine ⟨fun z hz => ?_, fun hl => ⟨ys, h3, by rw [← h4.length]; exact hl⟩⟩
            obtain ⟨w, hw, rw'⟩ := h4.get hz
            refine ⟨⟨ys, w, h3, hw⟩, fun v' H' ⟨e, y⟩ => ?_⟩
            subst e
            have := y ys h3
            rw [hw] at this
            cases this
            exact ⟨φ2, .refl, r2, rw'⟩
        have lst' : (∀ zs, x ≠ .tup zs) → wpAny (model X.prog X.w) X.A (eval e X.env) (fun v s1 => wpAny (model X.prog X.w) X.A (pyIter v) (PIE X pins σ tg R) X.xe s1) X.xe s := fun hx => by
          have hsl : ∀ S2, seqAt S2 x = listAt S2 x := fun S2 => by
            cases x <;> first | rfl | exact absurd rfl (hx _)
          refine lst (fun φ H v r rv h => ?_) fun S2 ys φ2 H2 p r rv h => ?_
          · rw [hsl] at h
            obtain ⟨p, ys, e, h1, _⟩ := listAt_ok r rv h
            exact ⟨p, ys, e, h1⟩
          · rw [hsl] at h
            obtain ⟨p', vs, e, h1, h2⟩ := listAt_ok r rv h
            cases e
            exact ⟨vs, h1, h2⟩
        by_cases hx : ∃ zs, x = .tup zs
        · exact tup hx
        · exact lst' fun zs e => hx ⟨zs, e⟩
theorem di_range1 {tg a : Expr} {da : ED} {p pos : Pos} (hm : X.mg "range" = none) (ha : DE X W a da) (hg : Gl X "range" := by rfl) (hs : starEach [a] X.env = [(false, eval a X.env)] := by rfl) (hs' : starEach (a :: []) X.env = (false, eval a X.env) :: starEach [] X.env := by rfl) :
    DI X W tg (.Call (.Name "range" p) [a] [] pos) (dRange1 da) := PI.imp (pi_range1 hg hm (da_cons ha da_nil hs') hs) fun σ H Q ⟨φ, ρ, S, res, S', a, h, fin⟩ => by
  have h' : bindO (dCons da dNil ρ S) (fun xs S1 => match xs with
      | [.int n] => if -1000000 < n ∧ n < 1000000 then some (.ok (Its.mk ((List.range n.toNat).map fun (i : Nat) => .int i) fun _ => True), S1) else none
      | _ => none) = some (res, S') := by
    rw [← h]
    unfold dCons dRange1 dNil
    cases da ρ S with
    | none => rfl
    | some q =>
      obtain ⟨q, S1⟩ := q
      cases q with
      | ok x => cases x <;> rfl
      | ex c ns xs => rfl
  refine tD_bind a h' fin fun xs S1 φ1 H1 vs s a1 rv h1 f1 => ?_
  cases rv with
  | nil => cases h1
  | cons r1 t =>
    cases t with
    | cons _ _ => cases r1 <;> cases h1
    | nil =>
      cases r1 <;> try (cases h1; done)
      simp only at h1
      split at h1
      · rename_i hn
        cases h1
        refine ⟨_, rfl, by omega, by omega, f1 φ1 H1 _ .refl a1.rel fun φ2 S2 H2 s2 r2 hk i => ⟨fun x hx => ?_, fun hl => ?_⟩⟩
        · have hi := (List.getElem?_eq_some_iff.mp hx).1
          simp only [List.length_map, List.length_range] at hi
          refine ⟨hi, fun v H' ⟨e, y⟩ => ?_⟩
          subst e
          subst y
          refine ⟨φ2, .refl, r2, ?_⟩
          rw [List.getElem?_map, List.getElem?_range hi] at hx
          cases hx
          have : (0 : Int) + (i : Int) = i := by omega
          rw [this]
          exact .int
        · simp only [List.length_map, List.length_range] at hl
          exact hl
      · cases h1
end
end DL
set_option Elab.async false
set_option linter.all false
set_option maxRecDepth 100000
set_option maxHeartbeats 4000000
/-! The D layer, part 6: built-in calls, methods, making, stores, a def's promise, cutting the store back. -/
namespace DL
open PySem PySem.Spec PyProof.Rows L2

/-! ### built-in functions of values -/
abbrev Fb := Store → List Val → Option Val
def dB (f : Fb) (ds : AD) : ED := fun ρ S => bindO (ds ρ S) fun xs S1 => ofO (f S1 xs) S1
def Opn (X : Cx) (f : Fb) (r : List V → Hp → VK → Prop) : Prop := ∀ (φ : Own) (S : Store) (H : Hp) (xs : List Val) (vs : List V) (z : Val) (Q : VK), RelS X.K X.mg φ S H → RVs X.K X.mg φ H xs vs → f S xs = some z →
  (∀ φ' H' w, Step φ H φ' H' → RelS X.K X.mg φ' S H' → RV X.K X.mg φ' H' z w → Q w H') → r vs H Q
section
variable {X : Cx} {W : WX} {e : Expr} {es : List Expr} {x : Str} {p pos : Pos} {ds : AD} {bid T : String} {f : Fb} {r : List V → Hp → VK → Prop}
theorem t_opn (hf : Opn X f r) {σ : L2.St} {H : Hp} {Q : VK} (h : tD X.K X.mg (RV X.K X.mg) W (dB f ds) σ H Q) : tCB r (tD X.K X.mg (RVs X.K X.mg) W ds) σ H Q := by
  obtain ⟨φ, ρ, S, res, S', a, h, fin⟩ := h
  refine tD_bind a h fin fun xs S1 φ1 H1 vs s a1 rv h1 f1 => ?_
  obtain ⟨z, e, rfl, rfl⟩ := ofO_inj h1
  exact hf φ1 _ H1 xs vs z Q a1.rel rv e fun φ' H' w s r rw' => f1 φ' H' w s r rw'
theorem de_callB (hc : CallR X (.builtin bid) r) (hf : Opn X f r) (hm : X.mg x = none) (hv : bootBuiltins x = some (.builtin bid)) (ha : DA X W (e :: es) ds) (hg : Gl X x := by rfl) (hn : x ≠ "__name__" := by decide) (hdb : (x == ("__debug__" : Str)) = false := by decide)
    (he : starEach (e :: es) X.env = (false, eval e X.env) :: starEach es X.env := by rfl) (hpl : (backTo pos (starEach es X.env)).any (·.1) = false := by rfl) : DE X W (.Call (.Name x p) (e :: es) [] pos) (dB f ds) :=
  PE.imp (pe_callB hc hg hm hv ha hn hdb he hpl) fun σ H Q h => t_opn hf h
theorem de_callT (hc : CallR X (.type T) r) (hf : Opn X f r) (hm : X.mg x = none) (hv : bootBuiltins x = some (.type T)) (ha : DA X W (e :: es) ds) (hg : Gl X x := by rfl) (hn : x ≠ "__name__" := by decide) (hdb : (x == ("__debug__" : Str)) = false := by decide)
    (he : starEach (e :: es) X.env = (false, eval e X.env) :: starEach es X.env := by rfl) (hpl : (backTo pos (starEach es X.env)).any (·.1) = false := by rfl) : DE X W (.Call (.Name x p) (e :: es) [] pos) (dB f ds) :=
  PE.imp (pe_callTy hc hg hm hv ha hn hdb he hpl) fun σ H Q h => t_opn hf h
theorem one_arg {K : PySem.W.Frag} {mg : MG} {φ : Own} {H : Hp} {x : Val} {vs : List V} (r : RVs K mg φ H [x] vs) : ∃ v, vs = [v] ∧ RV K mg φ H x v := by
  cases r with
  | cons r t => cases t; exact ⟨_, rfl, r⟩
theorem two_args {K : PySem.W.Frag} {mg : MG} {φ : Own} {H : Hp} {x y : Val} {vs : List V} (r : RVs K mg φ H [x, y] vs) : ∃ v w, vs = [v, w] ∧ RV K mg φ H x v ∧ RV K mg φ H y w := by
  cases r with
  | cons r t => cases t with | cons r2 t => cases t; exact ⟨_, _, rfl, r, r2⟩
/-- len -/
def lenF : Fb := fun S xs => match xs with
  | [.str x] => if x.length ≤ 1000000 then some (.int x.length) else none
  | [x] => (seqAt S x).map fun ys => .int ys.length
  | _ => none
theorem opr_len : CallR X (.builtin "len") (fun xs H Q => (∃ p ys, xs = [.ref p] ∧ (SqL X.K H p ys ∨ SqT X.K H p ys) ∧ Q (.int ys.length) H) ∨ (∃ z, xs = [.str z] ∧ z.length ≤ sizeLine ∧ Q (.int z.length) H)) := CallR.or call_len_seq call_len_str
theorem opn_len : Opn X lenF (fun xs H Q => (∃ p ys, xs = [.ref p] ∧ (SqL X.K H p ys ∨ SqT X.K H p ys) ∧ Q (.int ys.length) H) ∨ (∃ z, xs = [.str z] ∧ z.length ≤ sizeLine ∧ Q (.int z.length) H)) := by
  intro φ S H xs vs z Q r rv e q
  unfold lenF at e
  split at e
  · obtain ⟨v, rfl, rx⟩ := one_arg rv
    cases rx
    split at e
    · rename_i hl
      cases e
      exact .inr ⟨_, rfl, Nat.le_trans hl line1M, q _ _ _ .refl r .int⟩
    · cases e
  · obtain ⟨v, rfl, rx⟩ := one_arg rv
    rename_i x _
    cases e1 : seqAt S x with
    | none => rw [e1] at e; cases e
    | some ys =>
      rw [e1] at e
      cases e
      obtain ⟨a, zs, rfl, h1, h2⟩ := seqAt_ok r rx e1
      refine .inl ⟨a, zs, rfl, h1, ?_⟩
      rw [← h2.length]
      exact q _ _ _ .refl r .int
  · cases e
/-- all, any of a list of truths -/
def bools : List Val → Option (List Bool)
  | [] => some []
  | .bl b :: xs => (bools xs).map (b :: ·)
  | _ => none
theorem bools_ok {K : PySem.W.Frag} {mg : MG} {φ : Own} {H : Hp} : ∀ {xs : List Val} {vs : List V} {bs : List Bool}, RVs K mg φ H xs vs → bools xs = some bs → vs = bs.map V.bl
  | [], vs, bs, r, h => by cases r; cases h; rfl
  | x :: xs, vs, bs, r, h => by
    cases r with
    | cons r1 r2 =>
      cases r1 <;> try (cases h; done)
      unfold bools at h
      cases e : bools xs with
      | none => rw [e] at h; cases h
      | some cs =>
        rw [e] at h
        cases h
        rw [bools_ok r2 e]
        rfl
def allF : Fb := fun S xs => match xs with
  | [x] => ((listAt S x).bind bools).map fun bs => .bl (bs.all id)
  | _ => none
def anyF : Fb := fun S xs => match xs with
  | [x] => ((listAt S x).bind bools).map fun bs => .bl (bs.any id)
  | _ => none
theorem opn_all : Opn X allF (rAll X.K) := by
  intro φ S H xs vs z Q r rv e q
  unfold allF at e
  split at e
  · rename_i x
    obtain ⟨v, rfl, rx⟩ := one_arg rv
    cases e1 : listAt S x with
    | none => rw [e1] at e; cases e
    | some ys =>
      rw [e1] at e
      cases e2 : bools ys with
      | none => simp [e2] at e
      | some bs =>
        simp [e2] at e
        subst e
        obtain ⟨a, zs, rfl, h1, h2⟩ := listAt_ok r rx e1
        rw [bools_ok h2 e2] at h1
        refine ⟨a, bs, rfl, h1, ?_⟩
        have := q _ _ _ .refl r .bl
        simpa using this
  · cases e
theorem opn_any : Opn X anyF (rAny X.K) := by
  intro φ S H xs vs z Q r rv e q
  unfold anyF at e
  split at e
  · rename_i x
    obtain ⟨v, rfl, rx⟩ := one_arg rv
    cases e1 : listAt S x with
    | none => rw [e1] at e; cases e
    | some ys =>
      rw [e1] at e
      cases e2 : bools ys with
      | none => simp [e2] at e
      | some bs =>
        simp [e2] at e
        subst e
        obtain ⟨a, zs, rfl, h1, h2⟩ := listAt_ok r rx e1
        rw [bools_ok h2 e2] at h1
        refine ⟨a, bs, rfl, h1, ?_⟩
        have := q _ _ _ .refl r .bl
        simpa using this
  · cases e
/-- max(a, b), min(a, b) of ints -/
def max2F : Fb := fun _ xs => match xs with
  | [.int i, .int j] => some (.int (if j > i then j else i))
  | _ => none
def min2F : Fb := fun _ xs => match xs with
  | [.int i, .int j] => some (.int (if j < i then j else i))
  | _ => none
theorem opn_max2 : Opn X max2F (fun xs H Q => ∃ i j, xs = [.int i, .int j] ∧ Q (.int (if j > i then j else i)) H) := by
  intro φ S H xs vs z Q r rv e q
  unfold max2F at e
  split at e
  · obtain ⟨v, w, rfl, r1, r2⟩ := two_args rv
    cases r1; cases r2
    cases e
    exact ⟨_, _, rfl, q _ _ _ .refl r .int⟩
  · cases e
theorem opn_min2 : Opn X min2F (fun xs H Q => ∃ i j, xs = [.int i, .int j] ∧ Q (.int (if j < i then j else i)) H) := by
  intro φ S H xs vs z Q r rv e q
  unfold min2F at e
  split at e
  · obtain ⟨v, w, rfl, r1, r2⟩ := two_args rv
    cases r1; cases r2
    cases e
    exact ⟨_, _, rfl, q _ _ _ .refl r .int⟩
  · cases e
/-- max, min of a list of ints -/
def intsOf : List Val → Option (List Int)
  | [] => some []
  | .int b :: xs => (intsOf xs).map (b :: ·)
  | _ => none
theorem intsOf_ok {K : PySem.W.Frag} {mg : MG} {φ : Own} {H : Hp} : ∀ {xs : List Val} {vs : List V} {bs : List Int}, RVs K mg φ H xs vs → intsOf xs = some bs → vs = bs.map V.int
  | [], vs, bs, r, h => by cases r; cases h; rfl
  | x :: xs, vs, bs, r, h => by
    cases r with
    | cons r1 r2 =>
      cases r1 <;> try (cases h; done)
      unfold intsOf at h
      cases e : intsOf xs with
      | none => rw [e] at h; cases h
      | some cs =>
        rw [e] at h
        cases h
        rw [intsOf_ok r2 e]
        rfl
def maxI : List Int → Option Int
  | [] => none
  | x :: xs => match maxI xs with
    | none => some x
    | some y => some (if y > x then y else x)
theorem maxI_ok : ∀ {l : List Int} {m : Int}, maxI l = some m → ∀ k, k ∈ l → (∀ y, y ∈ l → y ≤ k) → k = m
  | x :: xs, m, h, k, hk, hm => by
    unfold maxI at h
    cases e : maxI xs with
    | none =>
      rw [e] at h
      cases xs with
      | nil => cases h; simpa using hk
      | cons y ys =>
        unfold maxI at e
        split at e <;> cases e
    | some y =>
      rw [e] at h
      have ih := maxI_ok e
      have hy : y ∈ xs ∧ ∀ z ∈ xs, z ≤ y := by
        clear ih hm hk h
        induction xs generalizing y with
        | nil => cases e
        | cons z zs ih2 =>
          unfold maxI at e
          cases e2 : maxI zs with
          | none =>
            rw [e2] at e
            cases e
            cases zs with
            | nil => simp
            | cons w ws =>
              unfold maxI at e2
              split at e2 <;> cases e2
          | some w =>
            rw [e2] at e
            obtain ⟨i1, i2⟩ := ih2 w e2
            cases e
            split
            · refine ⟨List.mem_cons_of_mem _ i1, fun v hv => ?_⟩
              rcases List.mem_cons.mp hv with rfl | hv
              · omega
              · exact i2 v hv
            · refine ⟨List.mem_cons_self .., fun v hv => ?_⟩
              rcases List.mem_cons.mp hv with rfl | hv
              · omega
              · have := i2 v hv; omega
      cases h
      have h1 := hm x (List.mem_cons_self ..)
      have h2 := hm y (List.mem_cons_of_mem _ hy.1)
      rcases List.mem_cons.mp hk with rfl | hk
      · split <;> omega
      · have h3 := hy.2 k hk
        split <;> omega
def maxlF : Fb := fun S xs => match xs with
  | [x] => (((listAt S x).bind intsOf).bind maxI).map .int
  | _ => none
theorem opn_maxl : Opn X maxlF (rMax X.K) := by
  intro φ S H xs vs z Q r rv e q
  unfold maxlF at e
  split at e
  · rename_i x
    obtain ⟨v, rfl, rx⟩ := one_arg rv
    cases e1 : listAt S x with
    | none => rw [e1] at e; cases e
    | some ys =>
      rw [e1] at e
      cases e2 : intsOf ys with
      | none => simp [e2] at e
      | some bs =>
        cases e3 : maxI bs with
        | none => simp [e2, e3] at e
        | some m =>
          simp [e2, e3] at e
          subst e
          obtain ⟨a, zs, rfl, h1, h2⟩ := listAt_ok r rx e1
          rw [intsOf_ok h2 e2] at h1
          refine ⟨a, bs, rfl, h1, ?_, fun k hk hm => ?_⟩
          · cases bs with
            | nil => cases e3
            | cons _ _ => simp
          · rw [maxI_ok e3 k hk hm]
            exact q _ _ _ .refl r .int
  · cases e
/-- int(n), int(truth) -/
def intF : Fb := fun _ xs => match xs with
  | [.int i] => some (.int i)
  | [.bl b] => some (.int (if b then 1 else 0))
  | _ => none
theorem opn_int : Opn X intF (fun xs H Q => (∃ i, xs = [.int i] ∧ Q (.int i) H) ∨ ∃ k, xs = [.bl k] ∧ Q (.int (if k then 1 else 0)) H) := by
  intro φ S H xs vs z Q r rv e q
  unfold intF at e
  split at e
  · obtain ⟨v, rfl, rx⟩ := one_arg rv
    cases rx
    cases e
    exact .inl ⟨_, rfl, q _ _ _ .refl r .int⟩
  · obtain ⟨v, rfl, rx⟩ := one_arg rv
    cases rx
    cases e
    exact .inr ⟨_, rfl, q _ _ _ .refl r .int⟩
  · cases e
/-- tuple(list or tuple) -/
def tupleF : Fb := fun S xs => match xs with
  | [x] => (seqAt S x).map .tup
  | _ => none
theorem opn_tuple : Opn X tupleF (fun xs H Q => ∃ p ys, xs = [.ref p] ∧ ((SqL X.K H p ys ∧ ∀ l o, H l = none → o.dict = none → Q (.ref l) (upd H l (.frz o (.tup ys)))) ∨ (SqT X.K H p ys ∧ Q (.ref p) H))) := by
  intro φ S H xs vs z Q r rv e q
  unfold tupleF at e
  split at e
  · rename_i x
    obtain ⟨v, rfl, rx⟩ := one_arg rv
    have lst : ∀ {ys}, listAt S x = some ys → z = .tup ys → ∃ p zs, [v] = [V.ref p] ∧ ((SqL X.K H p zs ∧ ∀ l o, H l = none → o.dict = none → Q (.ref l) (upd H l (.frz o (.tup zs)))) ∨ (SqT X.K H p zs ∧ Q (.ref p) H)) := fun {ys} e1 e2 => by
      subst e2
      obtain ⟨a, zs, rfl, h1, h2⟩ := listAt_ok r rx e1
      refine ⟨a, zs, rfl, .inl ⟨h1, fun l o hl ho => ?_⟩⟩
      obtain ⟨q1, q2, q3⟩ := new_tup r hl ho h2
      exact q _ _ _ q1 q2 q3
    have lst2 : (listAt S x).map Val.tup = some z → ∃ p zs, [v] = [V.ref p] ∧ ((SqL X.K H p zs ∧ ∀ l o, H l = none → o.dict = none → Q (.ref l) (upd H l (.frz o (.tup zs)))) ∨ (SqT X.K H p zs ∧ Q (.ref p) H)) := fun e => by
      cases e1 : listAt S x with
      | none => rw [e1] at e; cases e
      | some ys => rw [e1] at e; cases e; exact lst e1 rfl
    cases rx with
    | tup ha rr =>
      cases e
      exact ⟨_, _, rfl, .inr ⟨ha.sq, q _ _ _ .refl r (.tup ha rr)⟩⟩
    | vl a b c => exact lst2 e
    | scr a b => exact lst2 e
    | obj a => exact lst2 e
    | _ => cases e
  · cases e
/-! isinstance with a built-in type -/
def tyName (S : Store) : Val → Option String
  | .non => some "NoneType"
  | .bl _ => some "bool"
  | .int _ => some "int"
  | .str _ => some "str"
  | .tup _ => some "tuple"
  | .vl _ => some "list"
  | .scr _ => some "list"
  | .vd _ _ => some "dict"
  | .vi _ _ _ => none
  | .obj i => match S[i]? with
    | some (.lst _) => some "list"
    | some (.dct _ _) => some "dict"
    | _ => none
def isT (T t : String) : Bool := t == T || (t == "bool" && T == "int")
def isiF (T : String) (S : Store) (x : Val) : Option Val := (tyName S x).map fun t => .bl (isT T t)
def dIsi (T : String) (d : ED) : ED := fun ρ S => bindO (d ρ S) fun x S1 => ofO (isiF T S1 x) S1
theorem tyX_of {φ : Own} {S : Store} {H : Hp} {x : Val} {v : V} {t : String} (r : RelS X.K X.mg φ S H) (rx : RV X.K X.mg φ H x v) (h : tyName S x = some t) : TyX X.K H v (.type t) := by
  cases rx with
  | non => cases h; exact .base .non
  | bl => cases h; exact .base (.bl _)
  | int => cases h; exact .base (.int _)
  | str => cases h; exact .base (.str _)
  | tup ha rr =>
    cases h
    rcases ha with ⟨o, h1, _⟩ | ⟨o, its, n, h1, h2, _⟩
    · exact .fTuple h1
    · exact .kTuple h1 h2
  | vl ha hn rr => cases h; exact .base (.lst ha)
  | scr ha rr =>
    cases h
    rcases ha with ⟨h1 | ⟨o, h1⟩, _⟩ | ⟨o, its, n, h1, h2, _⟩
    · exact .base (.lst h1)
    · exact .base (.frz h1)
    · exact .kList h1 h2
  | vd ha hn e rr => cases h; exact .base (.dK ha)
  | vi m ha hn e rr => cases h
  | obj ha =>
    unfold tyName at h
    simp only at h
    split at h
    · rename_i e
      cases h
      cases r.ob _ _ _ e ha with
      | lst hh rr => exact .base (.lst hh)
    · rename_i e
      cases h
      cases r.ob _ _ _ e ha with
      | dct hh _ rr => exact .base (.dK hh)
    · cases h
theorem kitB_of (K : PySem.W.Frag) (T : String) (hT : T ∈ (["int", "bool", "str", "tuple", "list", "dict"] : List String)) (S : Store) (x : Val) (t : String) (h : tyName S x = some t) : PySem.W.kitOne K (.type t) (.type T) = some (isT T t) := by
  have ht : t ∈ (["NoneType", "bool", "int", "str", "tuple", "list", "dict"] : List String) := by
    unfold tyName at h
    split at h <;> first
      | (cases h; done)
      | (cases h; decide)
      | (split at h <;> first | (cases h; done) | (cases h; decide))
  have all : ∀ T ∈ (["int", "bool", "str", "tuple", "list", "dict"] : List String), ∀ t ∈ (["NoneType", "bool", "int", "str", "tuple", "list", "dict"] : List String), kitB t T = some (isT T t) := by decide +kernel
  exact kit_ty (all T hT t ht)
theorem de_isi {e : Expr} {d : ED} {p2 : Pos} {ty : Str} {T : String} (hT : T ∈ (["int", "bool", "str", "tuple", "list", "dict"] : List String)) (hm : X.mg "isinstance" = none) (hmT : X.mg ty = none) (hvT : bootBuiltins ty = some (.type T)) (he : DE X W e d)
    (hv : bootBuiltins "isinstance" = some (.builtin "isinstance") := by decide +kernel) (hg : Gl X "isinstance" := by rfl) (hgT : Gl X ty := by rfl) (hnT : ty ≠ "__name__" := by decide) (hdT : (ty == ("__debug__" : Str)) = false := by decide)
    (h1 : starEach [e, .Name ty p2] X.env = (false, eval e X.env) :: starEach [.Name ty p2] X.env := by rfl) (h2 : starEach [.Name ty p2] X.env = (false, eval (.Name ty p2) X.env) :: starEach [] X.env := by rfl)
    (hpl : (backTo pos (starEach [.Name ty p2] X.env)).any (·.1) = false := by rfl) : DE X W (.Call (.Name "isinstance" p) [e, .Name ty p2] [] pos) (dIsi T d) :=
  PE.imp (pe_callB call_isi hg hm hv (pa_cons he (pa_cons (pe_bltn (v := .ty T) hgT hmT hvT rfl hnT hdT) pa_nil h2) h1) (by decide) (by decide) h1 hpl) fun σ H Q ⟨φ, ρ, S, res, S', a, h, fin⟩ => by
    refine tD_bind a h fin fun x S1 φ1 H1 v s a1 rv h1 f1 => ?_
    obtain ⟨z, ez, rfl, rfl⟩ := ofO_inj h1
    unfold isiF at ez
    cases et : tyName S' x with
    | none => rw [et] at ez; cases ez
    | some t =>
      rw [et] at ez
      cases ez
      exact ⟨v, .ty T, .type t, .type T, _, rfl, .ty T, tyX_of a1.rel rv et, kitB_of X.K T hT S' x t et, f1.now a1.rel .bl⟩
end

/-! ### methods and making -/
/-- what is wished of exceptions, whatever the slots -/
abbrev wE (E : XK) : WX := fun cls d _ H => E cls d H
/-- C(..): the new thing is a thing of the store -/
def dMake (c : Str) (F : FD) (ds : AD) : ED := fun ρ S => bindO (ds ρ S) fun xs S1 => match F (.obj S1.length :: xs) (S1 ++ [.ins c [] []]) with
  | some (.ok .non, S2) => some (.ok (.obj S1.length), S2)
  | some (.ex c ns xs, S2) => some (.ex c ns xs, S2)
  | _ => none
section
variable {X : Cx} {E : XK} {CX : CXT} {k n : Nat} {f C : Addr} {fd : FuncData} {ps : List Str} {F : FD} {x m c : Str} {p pos apos : Pos} {e o : Expr} {es : List Expr} {d : ED} {ds : AD}
theorem new_ins {K : PySem.W.Frag} {mg : MG} {φ : Own} {S : Store} {H : Hp} {c : Str} {C x dx : Addr} (r : RelS K mg φ S H) (hm : mg c = some (.ref C)) (hx : H x = none) (hd : H dx = none) (hne : dx ≠ x) :
    Step φ H (φ.and x) (upd (upd H dx (.own x)) x (.ins C dx [])) ∧ RelS K mg (φ.and x) (S ++ [.ins c [] []]) (upd (upd H dx (.own x)) x (.ins C dx [])) ∧ RV K mg (φ.and x) (upd (upd H dx (.own x)) x (.ins C dx [])) (.obj S.length) (.ref x) := by
  have s : Same H (upd (upd H dx (.own x)) x (.ins C dx [])) := fun b u e => by rw [upd_ne (ne_of_none e hx), upd_ne (ne_of_none e hd)]; exact e
  have st : Step φ H (φ.and x) (upd (upd H dx (.own x)) x (.ins C dx [])) := Step.grow hx s
  exact ⟨st, r.push hx s (.ins hm upd_same rfl .nil), .obj (r.last x)⟩
theorem de_make (M : Mk X.K C f) (F1 : FnOk X.prog X.w X.K X.mg X.base CX k f fd ps (spD X.K X.mg n F)) (ar : Arity F n) (hr : Room (k + 1) X.A) (hm : X.mg x = some (.ref C)) (hb : Binds X.K fd ps []) (hx : Passes CX X E) (ha : DA X (wE E) (e :: es) ds)
    (hg : Gl X x := by rfl) (hdb : (x == ("__debug__" : Str)) = false := by decide) (he : starEach (e :: es) X.env = (false, eval e X.env) :: starEach es X.env := by rfl) (hpl : (backTo pos (starEach es X.env)).any (·.1) = false := by rfl) :
    DE X (wE E) (.Call (.Name x p) (e :: es) [] pos) (dMake x F ds) := PE.imp (pe_make M F1 hr hg hm hb .nil hx ha hdb he hpl) fun σ H Q ⟨φ, ρ, S, res, S', a, h, fin⟩ => by
  refine tD_bind a h fin fun xs S1 φ1 H1 vs s a1 rv h1 f1 => ?_
  intro q dq hq hdq hne
  obtain ⟨s2, r2, rv2⟩ := new_ins (c := x) a1.rel hm hq hdq hne
  cases e1 : F (.obj S1.length :: xs) (S1 ++ [.ins x [] []]) with
  | none => rw [e1] at h1; cases h1
  | some pr =>
    obtain ⟨res2, S2⟩ := pr
    rw [e1] at h1
    rw [List.append_nil]
    refine sp_of (W := wE E) (σ := σ) ar r2 (.cons rv2 (rv.step s2)) e1 ?_
    cases res2 with
    | ex c' ns ys =>
      cases h1
      exact Fin.step s2 f1
    | ok y =>
      cases y <;> try (cases h1; done)
      cases h1
      intro φ3 H3 w s3 r3 rw'
      cases rw'
      exact ⟨rfl, f1 φ3 H3 _ (s2.trans s3) r3 (rv2.step s3)⟩
/-- o.m(e, ..) -/
theorem de_meth {pl : Sem Bool} (he : DE X (wE E) o d) (c1 : Cls X.K C) (hm : Meth X.K C m f) (hmc : X.mg c = some (.ref C)) (F1 : FnOk X.prog X.w X.K X.mg X.base CX k f fd ps (spD X.K X.mg n F)) (ar : Arity F n) (hr : Room k X.A) (hb : Binds X.K fd ps []) (hx : Passes CX X E) (ha : DA X (wE E) (e :: es) ds)
    (hst : starEach (e :: es) X.env = (false, eval e X.env) :: starEach es X.env := by rfl) (hpl : (backTo pos (starEach es X.env)).any (·.1) = false := by rfl)
    (ht : eval (.Call (.Attribute o m apos) (e :: es) [] pos) X.env = (do
      let ov ← eval o X.env
      standAt apos.atName
      let (f, first) ← holding [ov] (getMethod ov m pl)
      callWith pos f first (backTo pos (starEach (e :: es) X.env)) (backToKw pos (keywordEach [] X.env))) := by rfl) :
    DE X (wE E) (.Call (.Attribute o m apos) (e :: es) [] pos) (dMeth c m F d ds) := PE.imp (pe_meth (pl := pl) he c1 hm F1 hr hb .nil hx ha hst hpl ht) fun σ H Q ⟨φ, ρ, S, res, S', a, h, fin⟩ => by
  refine tD_bind a h fin fun x S1 φ1 H1 v s a1 rv h1 f1 => ?_
  cases e1 : insAt S1 x with
  | none => rw [e1] at h1; cases h1
  | some t =>
    obtain ⟨c', ns, xs⟩ := t
    rw [e1] at h1
    simp only at h1
    split at h1
    · rename_i hc
      obtain ⟨rfl, hfg⟩ := hc
      obtain ⟨q, C', dx, fs, rfl, m1, hh, e2, rr⟩ := insAt_ok a1.rel rv e1
      rw [hmc] at m1
      cases m1
      refine ⟨q, dx, fs, rfl, hh, fget_none m e2 rr hfg, ?_⟩
      refine tD_bind a1 h1 f1 fun ys S2 φ2 H2 vs s2 a2 rv2 h2 f2 => ?_
      rw [List.append_nil]
      exact sp_of (W := wE E) (σ := σ) ar a2.rel (.cons (rv.step s2) rv2) h2 f2
    · cases h1
end

/-! ### stores -/
/-- o.append(e) -/
def dApp (d e : ED) : SD := fun ρ S => liftE ρ (d ρ S) fun x S1 => match x with
  | .obj i => match S1[i]? with
    | some (.lst _) => liftE ρ (e ρ S1) fun y S2 => match S2[i]? with
      | some (.lst xs) => if xs.length < 1000000 then some (.nx ρ, S2.set i (.lst (xs ++ [y]))) else none
      | _ => none
    | _ => none
  | _ => none
/-- o.extend(e) -/
def dExt (d e : ED) : SD := fun ρ S => liftE ρ (d ρ S) fun x S1 => match x with
  | .obj i => match S1[i]? with
    | some (.lst _) => liftE ρ (e ρ S1) fun y S2 => match S2[i]? with
      | some (.lst xs) => match y with
        | .vl ys => if xs.length + ys.length ≤ 1000000 then some (.nx ρ, S2.set i (.lst (xs ++ ys))) else none
        | _ => none
      | _ => none
    | _ => none
  | _ => none
/-- o[i] = e -/
def dSub (d i e : ED) : SD := fun ρ S => liftE ρ (e ρ S) fun y S1 => liftE ρ (d ρ S1) fun x S2 => liftE ρ (i ρ S2) fun k S3 => match x, k with
  | .obj a, .int z => match S3[a]? with
    | some (.lst xs) => match ixN xs.length z with
      | some j => some (.nx ρ, S3.set a (.lst (xs.set j y)))
      | none => none
    | _ => none
  | _, _ => none
/-- o.f = e -/
def dSetF (c f : Str) (d e : ED) : SD := fun ρ S => liftE ρ (e ρ S) fun y S1 => liftE ρ (d ρ S1) fun x S2 => match x with
  | .obj a => match S2[a]? with
    | some (.ins c' ns xs) => if c' = c ∧ xs.length < 1000 then some (.nx ρ, S2.set a (.ins c' (fputN f ns) (fput f y ns xs))) else none
    | _ => none
  | _ => none
section
variable {X : Cx} {W : WX} {o e i : Expr} {d de di : ED} {pos apos cpos p : Pos} {c f : Str}
theorem lt_of_get {α : Type} {l : List α} {i : Nat} {x : α} (h : l[i]? = some x) : i < l.length := (List.getElem?_eq_some_iff.mp h).1
theorem obj_lst {K : PySem.W.Frag} {mg : MG} {φ : Own} {S : Store} {H : Hp} {i : Nat} {v : V} {xs : List Val} (r : RelS K mg φ S H) (rv : RV K mg φ H (.obj i) v) (h : S[i]? = some (.lst xs)) : ∃ a ys, v = .ref a ∧ φ.m[i]? = some a ∧ H a = some (.lst ys) ∧ RVs K mg φ H xs ys := by
  cases rv with
  | obj ha =>
    cases r.ob _ _ _ h ha with
    | lst hh rr => exact ⟨_, _, rfl, ha, hh, rr⟩
theorem put_lst {K : PySem.W.Frag} {mg : MG} {φ : Own} {S : Store} {H : Hp} {i : Nat} {a : Addr} {xs ys : List Val} {vs : List V} {ρ : Slots} {σ : L2.St} (A : At K mg φ ρ S σ H) (h : S[i]? = some (.lst xs)) (ha : φ.m[i]? = some a) (rr : RVs K mg φ H ys vs) :
    Step φ H φ (upd H a (.lst vs)) ∧ At K mg φ ρ (S.set i (.lst ys)) σ (upd H a (.lst vs)) := by
  have st : Step φ H φ (upd H a (.lst vs)) := Step.put ha
  exact ⟨st, A.step st (A.rel.put ha (lt_of_get h) (.lst upd_same (rr.step st)))⟩
theorem ds_app (ho : DE X W o d) (he : DE X W e de) (hbase : attributeBase o "append" X.env (eval o X.env) = eval o X.env := by rfl)
    (hfew : ((backTo cpos (starEach (e :: []) X.env)).all (fun x => !x.1) && (backToKw cpos (keywordEach [] X.env)).all (fun x => x.1.isSome)
      && decide ((e :: []).length + ([] : List Keyword).length + (if ([] : List Keyword).isEmpty then 0 else 1) < 30)) = true := by rfl)
    (hline : (apos.endLine == cpos.line) = true := by rfl) (hs : starEach (e :: []) X.env = (false, eval e X.env) :: starEach [] X.env := by rfl) (hplain : (backTo cpos (starEach [] X.env)).any (·.1) = false := by rfl)
    (hw : swapsWith (.Call (.Attribute o "append" apos) [e] [] cpos) none pos.line X.env = pure false := by rfl) :
    DS X W (.Expr (.Call (.Attribute o "append" apos) [e] [] cpos) pos) (dApp d de) :=
  PS.imp (ps_expr (pe_bm PySem.F.plainAttrs_list PySem.F.slot_list_append PySem.F.type_list_append mt_append ho (pa_cons he pa_nil hs) hbase hfew hline hs hplain) hw) fun D σ H ⟨φ, ρ, S, fl, S', a, h, fin⟩ => by
    refine tS_bind a h fin fun x S1 φ1 H1 v s a1 rv h1 f1 => ?_
    split at h1
    · rename_i i
      split at h1
      · rename_i xs0 hx0
        obtain ⟨q, ys0, rfl, ha0, hh0, rr0⟩ := obj_lst a1.rel rv hx0
        refine ⟨.inl ⟨rfl, _, Or.inl (Or.inl hh0)⟩, ?_⟩
        refine tS_bind a1 h1 f1 fun y S2 φ2 H2 w s2 a2 rw' h2 f2 => ?_
        split at h2
        · rename_i xs hx
          split at h2
          · rename_i hl
            cases h2
            obtain ⟨q', ys, e, ha, hh, rr⟩ := obj_lst a2.rel (rv.step s2) hx
            cases e
            obtain ⟨st, a3⟩ := put_lst a2 hx ha (rr.append (.cons rw' .nil))
            refine ⟨q, ys, w, rfl, rfl, hh, by rw [← rr.length]; exact Nat.lt_of_lt_of_le hl line1M, ?_⟩
            exact f2 φ2 _ σ st a3
          · cases h2
        · cases h2
      · cases h1
    · cases h1
theorem ds_ext (ho : DE X W o d) (he : DE X W e de) (hbase : attributeBase o "extend" X.env (eval o X.env) = eval o X.env := by rfl)
    (hfew : ((backTo cpos (starEach (e :: []) X.env)).all (fun x => !x.1) && (backToKw cpos (keywordEach [] X.env)).all (fun x => x.1.isSome)
      && decide ((e :: []).length + ([] : List Keyword).length + (if ([] : List Keyword).isEmpty then 0 else 1) < 30)) = true := by rfl)
    (hline : (apos.endLine == cpos.line) = true := by rfl) (hs : starEach (e :: []) X.env = (false, eval e X.env) :: starEach [] X.env := by rfl) (hplain : (backTo cpos (starEach [] X.env)).any (·.1) = false := by rfl)
    (hw : swapsWith (.Call (.Attribute o "extend" apos) [e] [] cpos) none pos.line X.env = pure false := by rfl) :
    DS X W (.Expr (.Call (.Attribute o "extend" apos) [e] [] cpos) pos) (dExt d de) :=
  PS.imp (ps_expr (pe_bm PySem.F.plainAttrs_list PySem.F.slot_list_extend PySem.F.type_list_extend mt_extend ho (pa_cons he pa_nil hs) hbase hfew hline hs hplain) hw) fun D σ H ⟨φ, ρ, S, fl, S', a, h, fin⟩ => by
    refine tS_bind a h fin fun x S1 φ1 H1 v s a1 rv h1 f1 => ?_
    split at h1
    · rename_i i
      split at h1
      · rename_i xs0 hx0
        obtain ⟨q, ys0, rfl, ha0, hh0, rr0⟩ := obj_lst a1.rel rv hx0
        refine ⟨.inl ⟨rfl, _, Or.inl (Or.inl hh0)⟩, ?_⟩
        refine tS_bind a1 h1 f1 fun y S2 φ2 H2 w s2 a2 rw' h2 f2 => ?_
        split at h2
        · rename_i xs hx
          split at h2
          · rename_i zs
            split at h2
            · rename_i hl
              cases h2
              obtain ⟨q', ys, e, ha, hh, rr⟩ := obj_lst a2.rel (rv.step s2) hx
              cases e
              cases rw' with
              | @vl _ b ws hb hn rz =>
                obtain ⟨st, a3⟩ := put_lst a2 hx ha (rr.append rz)
                refine ⟨q, b, ys, ws, rfl, rfl, hh, hb, by rw [← rr.length, ← rz.length]; exact Nat.le_trans hl line1M, ?_⟩
                exact f2 φ2 _ σ st a3
            · cases h2
          · cases h2
        · cases h2
      · cases h1
    · cases h1
theorem ds_sub (ho : DE X W o d) (hi : DE X W i di) (he : DE X W e de)
    (ha : ∀ v, assign (.Subscript o i p) X.env v = (do
      let ov ← holding [v] (eval o X.env)
      let iv ← holding [v, ov] (eval i X.env)
      standAt p
      holding [v, ov, iv] (setItem ov iv v)
      release [v, ov, iv] []) := by intro _; rfl)
    (hs : swapsWithSole [.Subscript o i p] e pos.line X.env = pure false := by rfl) (hw : swappedStores [.Subscript o i p] e X.env = pure none := by rfl)
    (h1 : (assignEach [.Subscript o i p] X.env).map (·.2) = [assign (.Subscript o i p) X.env] := by rfl) : DS X W (.Assign [.Subscript o i p] e pos) (dSub d di de) :=
  PS.imp (ps_asg he (pg_sub ho hi set_list ha) hs hw h1) fun D σ H ⟨φ, ρ, S, fl, S', a, h, fin⟩ => by
    refine tS_bind a h fin fun y S1 φ1 H1 v s a1 rv h1 f1 => ?_
    refine tS_bind a1 h1 f1 fun x S2 φ2 H2 w s2 a2 rw' h2 f2 => ?_
    refine tS_bind a2 h2 f2 fun k S3 φ3 H3 u s3 a3 ru h3 f3 => ?_
    split at h3
    · cases ru
      split at h3
      · rename_i xs hx
        split at h3
        · rename_i j hj
          cases h3
          obtain ⟨q, ys, rfl, hq, hh, rr⟩ := obj_lst a3.rel (rw'.step s3) hx
          obtain ⟨st, a4⟩ := put_lst a3 hx hq (RVs.set ((rv.step s2).step s3) j rr)
          refine ⟨q, ys, _, j, rfl, rfl, hh, by rw [← rr.length]; exact hj, ?_⟩
          exact f3 φ3 _ σ st a4
        · cases h3
      · cases h3
    · cases h3
theorem fput_ok {K : PySem.W.Frag} {mg : MG} {φ : Own} {H : Hp} {f : Str} {y : Val} {w : V} (ry : RV K mg φ H y w) : ∀ {fs : List (Str × V)} {ns : List Str} {xs : List Val}, fs.map (·.1) = ns → RVs K mg φ H xs (fs.map (·.2)) →
    (putF f w fs).map (·.1) = fputN f ns ∧ RVs K mg φ H (fput f y ns xs) ((putF f w fs).map (·.2))
  | [], ns, xs, e, r => by
    subst e
    cases r
    exact ⟨rfl, .cons ry .nil⟩
  | (g, v) :: fs, ns, xs, e, r => by
    subst e
    cases r with
    | cons r1 r2 =>
      by_cases hg : g = f
      · subst hg
        simp only [putF, fputN, fput, List.map_cons, if_pos]
        exact ⟨trivial, .cons ry r2⟩
      · obtain ⟨i1, i2⟩ := fput_ok (f := f) ry (fs := fs) rfl r2
        simp only [putF, fputN, fput, List.map_cons, if_neg hg]
        exact ⟨by rw [i1], .cons r1 i2⟩
theorem ds_setF (hc : FldOk X c f) (ho : DE X W o d) (he : DE X W e de) (hs : swapsWith e (some (.Attribute o f p)) pos.line X.env = pure false := by rfl) : DS X W (.Assign [.Attribute o f p] e pos) (dSetF c f d de) :=
  PS.imp (ps_fld ho he hs) fun D σ H ⟨φ, ρ, S, fl, S', a, h, fin⟩ => by
    refine tS_bind a h fin fun y S1 φ1 H1 v s a1 rv h1 f1 => ?_
    refine tS_bind a1 h1 f1 fun x S2 φ2 H2 w s2 a2 rw' h2 f2 => ?_
    split at h2
    · rename_i b
      split at h2
      · rename_i c' ns xs hx
        split at h2
        · rename_i hcc
          obtain ⟨rfl, hl⟩ := hcc
          cases h2
          cases rw' with
          | @obj _ q hq =>
            cases a2.rel.ob _ _ _ hx hq with
            | @ins _ C _ _ _ dx fs m hh e1 rr =>
              obtain ⟨k1, k2⟩ := hc.at_ C m
              refine ⟨q, C, dx, fs, rfl, hh, k1, k2, ?_, ?_⟩
              · have := rr.length
                rw [List.length_map] at this
                omega
              · have st : Step φ2 H2 φ2 (upd H2 q (.ins C dx (putF f v fs))) := Step.put hq
                obtain ⟨i1, i2⟩ := fput_ok (f := f) (rv.step s2) e1 rr
                exact f2 φ2 _ σ st (a2.step st (a2.rel.put hq (lt_of_get hx) (.ins m upd_same i1 (i2.step st))))
        · cases h2
      · cases h2
    · cases h2
end

/-! ### a def's promise by its body -/
def dDef (n N : Nat) (d : SD) : FD := fun args S => if args.length = n then match d (args.map some ++ List.replicate (N - n) none) S with
    | some (.rt x, S') => some (.ok x, S')
    | some (.nx _, S') => some (.ok .non, S')
    | some (.ex _ c ns xs, S') => some (.ex c ns xs, S')
    | _ => none
  else none
theorem arity_def {n N : Nat} {d : SD} : Arity (dDef n N d) n := fun args S out h => by
  unfold dDef at h
  split at h
  · assumption
  · cases h
section
variable {P : Program} {w : World} {K : PySem.W.Frag} {mg : Str → Option Value} {base : Heap}
theorem env_start {φ : Own} {H : Hp} {args : List Val} {vs : List V} {N : List Str} (r : RVs K mg φ H args vs) (hn : vs.length ≤ N.length) : REnv K mg φ H (args.map some ++ List.replicate (N.length - vs.length) none) (L2.start N vs) := by
  have hl := r.length
  refine ⟨by simp [L2.start, hl], fun i x h => ?_⟩
  by_cases hi : i < args.length
  · rw [List.getElem?_append_left (by simpa using hi), List.getElem?_map] at h
    cases e : args[i]? with
    | none => rw [e] at h; cases h
    | some y =>
      rw [e] at h
      cases h
      obtain ⟨v, hv, rv⟩ := r.get e
      refine ⟨v, ?_, rv⟩
      unfold L2.start
      rw [List.getElem?_append_left (by rw [List.length_map, ← hl]; exact hi), List.getElem?_map, hv]
      rfl
  · rw [List.getElem?_append_right (by simpa using hi), List.getElem?_replicate] at h
    split at h <;> cases h
/-- the body's denotation keeps the promise -/
theorem body_ok {W : WX} {E : XK} {N ps : List Str} {d : SD} {vs : List V} {H : Hp} {Q : VK} (hW : ∀ cls dA σ H, E cls dA H → W cls dA σ H) (hN : ps.length ≤ N.length) (h : spD K mg ps.length (dDef ps.length N.length d) vs H Q E) :
    tS K mg W d { nx := fun _ H' => Q .non H', rt := Q } (L2.start N vs) H := by
  obtain ⟨hl, φ, S, args, r, S', rs, rv, h, fin⟩ := h
  unfold dDef at h
  split at h
  · rename_i hn
    rw [← hl] at h
    have hvN : vs.length ≤ N.length := by rw [hl]; exact hN
    have A : At K mg φ (args.map some ++ List.replicate (N.length - vs.length) none) S (L2.start N vs) H := ⟨env_start rv hvN, rs⟩
    revert h A
    generalize args.map some ++ List.replicate (N.length - vs.length) none = ρ
    intro h A
    cases e : d ρ S with
    | none => rw [e] at h; cases h
    | some p =>
      obtain ⟨fl, S1⟩ := p
      rw [e] at h
      refine ⟨φ, ρ, S, fl, S1, A, e, ?_⟩
      cases fl with
      | rt x =>
        cases h
        exact fun φ' H' v s r rv => fin φ' H' v s r rv
      | nx ρ1 =>
        cases h
        exact fun φ' H' σ' s a => fin φ' H' .non s a.rel .non
      | ex ρ1 c ns xs =>
        cases h
        exact fun φ' H' σ' C dA fs s a h1 h2 h3 h4 h5 => hW _ _ _ _ (fin φ' H' C dA fs s a.rel h1 h2 h3 h4 h5)
      | bk ρ1 => cases h
      | ct ρ1 => cases h
  · cases h
/-- the context of a def's body -/
abbrev cxD (P : Program) (w : World) (K : PySem.W.Frag) (mg : Str → Option Value) (base : Heap) (N : List Str) (qual : Str) (scope : Scope) (f : Addr) (cd : Value) (A : Around) (outer : List Env) (s : Shared) (H : Hp) (E : XK) : Cx :=
  cxOf (L2.CX P w) P w K mg base N qual scope f cd A outer s H E
theorem takesD {N : List Str} {qual : Str} {scope : Scope} {f : Addr} {cd : Value} {A : Around} {outer : List Env} {s : Shared} {H : Hp} {E : XK} : Takes (cxD P w K mg base N qual scope f cd A outer s H E) (wE E) := takes_of rfl rfl rfl rfl
theorem passesD {N : List Str} {qual : Str} {scope : Scope} {f : Addr} {cd : Value} {A : Around} {outer : List Env} {s : Shared} {H : Hp} {E : XK} : Passes (L2.CX P w) (cxD P w K mg base N qual scope f cd A outer s H E) E := passes_call takesD fun _ _ _ _ h => h
theorem passD {N : List Str} {qual : Str} {scope : Scope} {f : Addr} {cd : Value} {A : Around} {outer : List Env} {s : Shared} {H : Hp} {E : XK} : PassD (cxD P w K mg base N qual scope f cd A outer s H E) (wE E) (L2.CX P w) := fun σ => passAt takesD σ
theorem ownD {N : List Str} {qual : Str} {scope : Scope} {f : Addr} {cd : Value} {A : Around} {outer : List Env} {s : Shared} {H : Hp} {E : XK} : PassesOwn (model P w) (cxD P w K mg base N qual scope f cd A outer s H E).A (cxD P w K mg base N qual scope f cd A outer s H E).env (cxD P w K mg base N qual scope f cd A outer s H E).xe := PassesOwn.leaving
/-- THE RULE for a def without defaults -/
theorem def_ok {x qual : Str} {st : Stmt} {f : Addr} {fd : FuncData} {N ps : List Str} {k : Nat} {d : SD} (F : Fun K x qual st f fd) (S : FnScope N ps (defScope st)) (hN : ps.length ≤ N.length)
    (hb : ∀ (cdv : Value) (A : Around) (outer : List Env) (s : Shared) (H : Hp) (E : XK), Room k (A.deeper (envOfC qual (defScope st) s.heap.objs.size f cdv)) →
      DSs (cxD P w K mg base N qual (defScope st) f cdv A outer s H E) (wE E) (defBody st) d) : FnOk P w K mg base (L2.CX P w) (k + 1) f fd ps (spD K mg ps.length (dDef ps.length N.length d)) :=
  F.okX S spD_len fun cdv A outer s H vs Q E hr h => ⟨_, hb cdv A outer s H E hr, body_ok (fun _ _ _ _ h => h) hN h⟩
/-- .. for a def with defaults -/
theorem def_okD {x qual : Str} {params : Arguments} {body : List Stmt} {scope : Scope} {dvs : List V} {kws : List (Str × V)} {f : Addr} {fd : FuncData} {N ps : List Str} {k : Nat} {d : SD} (F : FunD K x qual params body scope dvs kws f fd) (S : FnScope N ps scope) (hN : ps.length ≤ N.length)
    (hb : ∀ (cdv : Value) (A : Around) (outer : List Env) (s : Shared) (H : Hp) (E : XK), Room k (A.deeper (envOfC qual scope s.heap.objs.size f cdv)) →
      DSs (cxD P w K mg base N qual scope f cdv A outer s H E) (wE E) body d) : FnOk P w K mg base (L2.CX P w) (k + 1) f fd ps (spD K mg ps.length (dDef ps.length N.length d)) :=
  F.ok S spD_len fun cdv A outer s H vs Q E hr h => ⟨_, hb cdv A outer s H E hr, body_ok (fun _ _ _ _ h => h) hN h⟩
end

/-! ### the store cut back -/
mutual
/-- every thing of the store that the value names is one of the first n -/
def closed (n : Nat) : Val → Bool
  | .obj i => decide (i < n)
  | .tup xs => closedL n xs
  | .vl xs => closedL n xs
  | .scr xs => closedL n xs
  | .vd _ xs => closedL n xs
  | .vi _ _ xs => closedL n xs
  | .non => true
  | .bl _ => true
  | .int _ => true
  | .str _ => true
def closedL (n : Nat) : List Val → Bool
  | [] => true
  | x :: xs => closed n x && closedL n xs
end
def closedOb (n : Nat) : Ob → Bool
  | .lst xs => closedL n xs
  | .dct _ xs => closedL n xs
  | .ins _ _ xs => closedL n xs
mutual
/-- things of the store from n on become plain values -/
def frz (n : Nat) (S : Store) : Nat → Val → Option Val
  | k, .obj i => if i < n then some (.obj i) else match k with
    | 0 => none
    | k + 1 => match S[i]? with
      | some (.lst xs) => (frzL n S k xs).map .vl
      | some (.dct ks xs) => (frzL n S k xs).map (.vd ks)
      | some (.ins c ns xs) => (frzL n S k xs).map (.vi c ns)
      | none => none
  | k, .tup xs => (frzL n S k xs).map .tup
  | k, .vl xs => if closedL n xs then some (.vl xs) else none
  | k, .scr xs => if closedL n xs then some (.scr xs) else none
  | k, .vd ks xs => if closedL n xs then some (.vd ks xs) else none
  | k, .vi c ns xs => if closedL n xs then some (.vi c ns xs) else none
  | _, .non => some .non
  | _, .bl b => some (.bl b)
  | _, .int i => some (.int i)
  | _, .str x => some (.str x)
termination_by k x => (k, sizeOf x)
def frzL (n : Nat) (S : Store) : Nat → List Val → Option (List Val)
  | _, [] => some []
  | k, x :: xs => match frz n S k x, frzL n S k xs with
    | some y, some ys => some (y :: ys)
    | _, _ => none
termination_by k xs => (k, sizeOf xs)
end
/-- what is kept of the store must name nothing of what is dropped -/
def cutOk (S S' : Store) : Prop := S.length ≤ S'.length ∧ ∀ i o, i < S.length → S'[i]? = some o → S[i]? = some o ∨ closedOb S.length o = true
open Classical in
noncomputable def cutO (S : Store) (m : Out Val) : Out Val := match m with
  | some (.ok x, S') => if cutOk S S' then (frz S.length S' 20 x).map fun y => (.ok y, S'.take S.length) else none
  | some (.ex c ns xs, S') => if cutOk S S' then (frzL S.length S' 20 xs).map fun ys => (.ex c ns ys, S'.take S.length) else none
  | none => none
section
variable {K : PySem.W.Frag} {mg : MG} {φ φ' : Own} {H H' : Hp} {S S' : Store}
theorem Own.back (s : Step φ H φ' H') {i : Nat} {a : Addr} (h : φ'.m[i]? = some a) (hi : i < φ.m.length) : φ.m[i]? = some a := by
  obtain ⟨t, e⟩ := s.pre
  rw [e, List.getElem?_append_left hi] at h
  exact h
theorem Own.outBack (s : Step φ H φ' H') {a : Addr} (h : φ'.out a) : φ.out a := by
  obtain ⟨t, e⟩ := s.pre
  exact ⟨fun m => h.1 (by rw [e]; exact List.mem_append_left _ m), by rw [← s.zz]; exact h.2⟩
theorem TupAt.back (s : Step φ H φ' H') {a : Addr} {ys : List V} (h : TupAt K φ' H' a ys) : TupAt K φ H' a ys := by
  rcases h with ⟨o, h, d, n⟩ | h
  · exact .inl ⟨o, h, d, Own.outBack s n⟩
  · exact .inr h
theorem LstAt.back (s : Step φ H φ' H') {a : Addr} {ys : List V} (h : LstAt K φ' H' a ys) : LstAt K φ H' a ys := by
  rcases h with ⟨h, n⟩ | h
  · exact .inl ⟨h, Own.outBack s n⟩
  · exact .inr h
mutual
theorem RV.back (s : Step φ H φ' H') {x : Val} {v : V} (h : closed φ.m.length x = true) : RV K mg φ' H' x v → RV K mg φ H' x v
  | .non => .non
  | .bl => .bl
  | .int => .int
  | .str => .str
  | .tup a r => .tup (a.back s) (RVs.back s (by unfold closed at h; exact h) r)
  | .vl a n r => .vl a (Own.outBack s n) (RVs.back s (by unfold closed at h; exact h) r)
  | .scr a r => .scr (a.back s) (RVs.back s (by unfold closed at h; exact h) r)
  | .vd a n e r => .vd a (Own.outBack s n) e (RVs.back s (by unfold closed at h; exact h) r)
  | .vi m a n e r => .vi m a (Own.outBack s n) e (RVs.back s (by unfold closed at h; exact h) r)
  | .obj a => .obj (Own.back s a (by unfold closed at h; exact of_decide_eq_true h))
theorem RVs.back (s : Step φ H φ' H') {xs : List Val} {vs : List V} (h : closedL φ.m.length xs = true) : RVs K mg φ' H' xs vs → RVs K mg φ H' xs vs
  | .nil => .nil
  | .cons a r => .cons (RV.back s (by unfold closedL at h; rw [Bool.and_eq_true] at h; exact h.1) a) (RVs.back s (by unfold closedL at h; rw [Bool.and_eq_true] at h; exact h.2) r)
end
mutual
theorem RV.closed {x : Val} {v : V} : RV K mg φ H x v → DL.closed φ.m.length x = true
  | .non => by unfold DL.closed; rfl
  | .bl => by unfold DL.closed; rfl
  | .int => by unfold DL.closed; rfl
  | .str => by unfold DL.closed; rfl
  | .tup _ r => by unfold DL.closed; exact RVs.closed r
  | .vl _ _ r => by unfold DL.closed; exact RVs.closed r
  | .scr _ r => by unfold DL.closed; exact RVs.closed r
  | .vd _ _ _ r => by unfold DL.closed; exact RVs.closed r
  | .vi _ _ _ _ r => by unfold DL.closed; exact RVs.closed r
  | .obj a => by unfold DL.closed; exact decide_eq_true (lt_of_get a)
theorem RVs.closed {xs : List Val} {vs : List V} : RVs K mg φ H xs vs → DL.closedL φ.m.length xs = true
  | .nil => by unfold closedL; rfl
  | .cons a r => by unfold closedL; rw [RV.closed a, RVs.closed r]; rfl
end
mutual
theorem frz_ok (s : Step φ H φ' H') (r : RelS K mg φ' S' H') : ∀ (k : Nat) (x y : Val) (v : V), RV K mg φ' H' x v → frz φ.m.length S' k x = some y → RV K mg φ H' y v
  | k, .obj i, y, v, rx, h => by
    cases rx with
    | obj ha =>
      unfold frz at h
      split at h
      · rename_i hi
        cases h
        exact .obj (Own.back s ha hi)
      · rename_i hi
        have hout : ∀ {a : Addr}, φ'.m[i]? = some a → φ.out a := fun {a} ha => by
          obtain ⟨t, e⟩ := s.pre
          refine ⟨fun m => ?_, fun m => ?_⟩
          · obtain ⟨j, hj⟩ := List.mem_iff_getElem?.mp m
            have hj' : φ'.m[j]? = some a := s.get hj
            obtain ⟨l1, e1⟩ := List.getElem?_eq_some_iff.mp ha
            obtain ⟨l2, e2⟩ := List.getElem?_eq_some_iff.mp hj'
            have := (List.getElem_inj r.nd).mp (e1.trans e2.symm)
            have := lt_of_get hj
            omega
          · rw [← s.zz] at m
            exact r.dis a m (List.mem_of_getElem? ha)
        cases k with
        | zero => cases h
        | succ k =>
          simp only at h
          split at h
          · rename_i xs hx
            cases e : frzL φ.m.length S' k xs with
            | none => rw [e] at h; cases h
            | some ys =>
              rw [e] at h; cases h
              cases r.ob _ _ _ hx ha with
              | lst hh rr => exact .vl hh (hout ha) (frzL_ok s r k xs ys _ rr e)
          · rename_i ks xs hx
            cases e : frzL φ.m.length S' k xs with
            | none => rw [e] at h; cases h
            | some ys =>
              rw [e] at h; cases h
              cases r.ob _ _ _ hx ha with
              | dct hh e1 rr => exact .vd hh (hout ha) e1 (frzL_ok s r k xs ys _ rr e)
          · rename_i c ns xs hx
            cases e : frzL φ.m.length S' k xs with
            | none => rw [e] at h; cases h
            | some ys =>
              rw [e] at h; cases h
              cases r.ob _ _ _ hx ha with
              | ins m hh e1 rr => exact .vi m hh (hout ha) e1 (frzL_ok s r k xs ys _ rr e)
          · cases h
  | k, .tup xs, y, v, rx, h => by
    cases rx with
    | tup ha rr =>
      unfold frz at h
      cases e : frzL φ.m.length S' k xs with
      | none => rw [e] at h; cases h
      | some ys =>
        rw [e] at h; cases h
        exact .tup (ha.back s) (frzL_ok s r k xs ys _ rr e)
  | k, .vl xs, y, v, rx, h => by
    unfold frz at h
    split at h
    · rename_i hc
      cases h
      exact rx.back s (by unfold closed; exact hc)
    · cases h
  | k, .scr xs, y, v, rx, h => by
    unfold frz at h
    split at h
    · rename_i hc
      cases h
      exact rx.back s (by unfold closed; exact hc)
    · cases h
  | k, .vd ks xs, y, v, rx, h => by
    unfold frz at h
    split at h
    · rename_i hc
      cases h
      exact rx.back s (by unfold closed; exact hc)
    · cases h
  | k, .vi c ns xs, y, v, rx, h => by
    unfold frz at h
    split at h
    · rename_i hc
      cases h
      exact rx.back s (by unfold closed; exact hc)
    · cases h
  | k, .non, y, v, rx, h => by cases rx; unfold frz at h; cases h; exact .non
  | k, .bl b, y, v, rx, h => by cases rx; unfold frz at h; cases h; exact .bl
  | k, .int i, y, v, rx, h => by cases rx; unfold frz at h; cases h; exact .int
  | k, .str x, y, v, rx, h => by cases rx; unfold frz at h; cases h; exact .str
termination_by k x => (k, sizeOf x)
theorem frzL_ok (s : Step φ H φ' H') (r : RelS K mg φ' S' H') : ∀ (k : Nat) (xs ys : List Val) (vs : List V), RVs K mg φ' H' xs vs → frzL φ.m.length S' k xs = some ys → RVs K mg φ H' ys vs
  | k, [], ys, vs, rx, h => by cases rx; unfold frzL at h; cases h; exact .nil
  | k, x :: xs, ys, vs, rx, h => by
    cases rx with
    | cons r1 r2 =>
      unfold frzL at h
      split at h
      · rename_i y ys' h1 h2
        cases h
        exact .cons (frz_ok s r k x y _ r1 h1) (frzL_ok s r k xs ys' _ r2 h2)
      · cases h
termination_by k xs => (k, sizeOf xs)
end
theorem ROb.back (s : Step φ H φ' H') {o : Ob} {a : Addr} (h : closedOb φ.m.length o = true) (r : ROb K mg φ' H' o a) : ROb K mg φ H' o a := by
  cases r with
  | lst h1 rr => exact .lst h1 (rr.back s h)
  | dct h1 e rr => exact .dct h1 e (rr.back s h)
  | ins m h1 e rr => exact .ins m h1 e (rr.back s h)
theorem ROb.closed {o : Ob} {a : Addr} (r : ROb K mg φ H o a) : closedOb φ.m.length o = true := by
  cases r with
  | lst h1 rr => exact rr.closed
  | dct h1 e rr => exact rr.closed
  | ins m h1 e rr => exact rr.closed
theorem RelS.cut (r0 : RelS K mg φ S H) (s : Step φ H φ' H') (r : RelS K mg φ' S' H') (c : cutOk S S') : Step φ H φ H' ∧ RelS K mg φ (S'.take S.length) H' := by
  refine ⟨⟨⟨[], by simp⟩, rfl, s.keep, fun a h n => absurd h n⟩, ⟨by rw [List.length_take, r0.len, Nat.min_eq_left c.1], r0.nd, r0.dis, fun a h => r.ztr a (by rw [s.zz]; exact h), fun i o a h1 h2 => ?_⟩⟩
  have hi : i < S.length := by rw [← r0.len]; exact lt_of_get h2
  rw [List.getElem?_take_of_lt hi] at h1
  have q := r.ob i o a h1 (s.get h2)
  refine q.back s ?_
  rcases c.2 i o hi h1 with e | e
  · exact (r0.ob i o a e h2).closed
  · rw [r0.len]; exact e
theorem fin_cut {W : WX} {σ : L2.St} {Q : VK} {r r' : Res Val} {S1 S2 : Store} (rs : RelS K mg φ S H) (h : cutO S (some (r, S1)) = some (r', S2)) (fin : Fin K mg (RV K mg) W φ σ H r' S2 Q) : Fin K mg (RV K mg) W φ σ H r S1 Q := by
  cases r with
  | ok x =>
    simp only [cutO] at h
    split at h
    · rename_i hc
      cases e : frz S.length S1 20 x with
      | none => rw [e] at h; cases h
      | some y =>
        rw [e] at h; cases h
        intro φ' H' v s r rv
        obtain ⟨s', rs'⟩ := rs.cut s r hc
        exact fin φ H' v s' rs' (frz_ok s r 20 x y v rv (by rw [rs.len]; exact e))
    · cases h
  | ex c ns xs =>
    simp only [cutO] at h
    split at h
    · rename_i hc
      cases e : frzL S.length S1 20 xs with
      | none => rw [e] at h; cases h
      | some y =>
        rw [e] at h; cases h
        intro φ' H' C dA fs s r h1 h2 h3 h4 h5
        obtain ⟨s', rs'⟩ := rs.cut s r hc
        exact fin φ H' C dA fs s' rs' h1 h2 (Own.outBack s h3) h4 (frzL_ok s r 20 xs y _ h5 (by rw [rs.len]; exact e))
    · cases h
/-- an expression's new things become plain values -/
noncomputable def dCut (d : ED) : ED := fun ρ S => cutO S (d ρ S)
theorem de_cut {X : Cx} {W : WX} {e : Expr} {d : ED} (h : DE X W e d) : DE X W e (dCut d) := PE.imp h fun σ H Q ⟨φ, ρ, S, r, S', a, h, fin⟩ => by
  have h' : cutO S (d ρ S) = some (r, S') := h
  cases e : d ρ S with
  | none => rw [e] at h'; cases h'
  | some p =>
    obtain ⟨r1, S1⟩ := p
    rw [e] at h'
    exact ⟨φ, ρ, S, r1, S1, a, e, fin_cut a.rel h' fin⟩
/-- a def's new things become plain values -/
noncomputable def cutF (F : FD) : FD := fun args S => cutO S (F args S)
theorem arity_cut {F : FD} {n : Nat} (h : Arity F n) : Arity (cutF F) n := fun args S out e => by
  have e' : cutO S (F args S) = some out := e
  cases q : F args S with
  | none => rw [q] at e'; cases e'
  | some p => exact h args S p q
theorem sp_cut {F : FD} {n : Nat} {vs : List V} {Q : VK} {E : XK} (h : spD K mg n (cutF F) vs H Q E) : spD K mg n F vs H Q E := by
  obtain ⟨hl, φ, S, args, r, S', rs, rv, h, fin⟩ := h
  have h' : cutO S (F args S) = some (r, S') := h
  cases e : F args S with
  | none => rw [e] at h'; cases h'
  | some p =>
    obtain ⟨r1, S1⟩ := p
    rw [e] at h'
    exact ⟨hl, φ, S, args, r1, S1, rs, rv, e, fin_cut rs h' fin⟩
theorem ok_cut {P : Program} {w : World} {K : PySem.W.Frag} {mg : Str → Option Value} {base : Heap} {k n : Nat} {f : Addr} {fd : FuncData} {ps : List Str} {F : FD} {CX : CXT} (h : FnOk P w K mg base CX k f fd ps (spD K mg n F)) :
    FnOk P w K mg base CX k f fd ps (spD K mg n (cutF F)) := h.imp fun vs H Q E q => sp_cut q
end
end DL
set_option Elab.async false
set_option linter.all false
set_option maxRecDepth 100000
set_option maxHeartbeats 4000000
/-! The D layer, part 7: comprehensions. -/
namespace DL
open PySem PySem.Spec PyProof.Rows L2

section
variable {K : PySem.W.Frag} {mg : MG} {φ φ' φ1 : Own} {H H' H1 : Hp} {S S' : Store} {ρ : Slots} {σ : L2.St} {D : Addr}
/-! ### a thing in the making -/
/-- one thing more is being made -/
def Own.mk1 (φ : Own) (D : Addr) : Own := ⟨φ.m, D :: φ.z⟩
theorem Fwd.mk1 (h : H D = none) (o : HO) : Fwd φ H (φ.mk1 D) (upd H D o) := by
  refine ⟨⟨[], by simp [Own.mk1]⟩, fun a ha => ?_, fun a u e _ => by rw [upd_ne (ne_of_none e h)]; exact e, fun a u e _ => ⟨u, by rw [upd_ne (ne_of_none e h)]; exact e⟩, fun a m n => absurd m n⟩
  rcases List.mem_cons.mp ha with rfl | ha
  · exact .inr h
  · exact .inl ha
theorem ROb.fwd (s : Fwd φ H φ' H') {o : Ob} {a : Addr} (hk : ∀ u : HO, H a = Option.some u → H' a = Option.some u) (r : ROb K mg φ H o a) : ROb K mg φ' H' o a := by
  cases r with
  | lst h r => exact .lst (hk _ h) (r.fwd s)
  | dct h e r => exact .dct (hk _ h) e (r.fwd s)
  | ins m h e r => exact .ins m (hk _ h) e (r.fwd s)
theorem RelS.mk1 (r : RelS K mg φ S H) (h : H D = none) (o : HO) : RelS K mg (φ.mk1 D) S (upd H D o) := by
  refine ⟨r.len, r.nd, fun a ha => ?_, fun a ha => ?_, fun i u a h1 h2 => ?_⟩
  · rcases List.mem_cons.mp ha with rfl | ha
    · exact (r.fresh h).1
    · exact r.dis a ha
  · rcases List.mem_cons.mp ha with rfl | ha
    · exact ⟨o, upd_same⟩
    · obtain ⟨u, e⟩ := r.ztr a ha
      exact ⟨u, by rw [upd_ne (ne_of_none e h)]; exact e⟩
  · exact (r.ob i u a h1 h2).fwd (Fwd.mk1 h o) fun v e => by rw [upd_ne (ne_of_none e h)]; exact e
/-- what is being made is changed -/
theorem out_z {a : Addr} (hD : D ∈ φ.z) (n : φ.out a) : a ≠ D := fun e => n.2 (e ▸ hD)
mutual
theorem RV.putZ (hD : D ∈ φ.z) {o : HO} {x : Val} {v : V} : RV K mg φ H x v → RV K mg φ (upd H D o) x v
  | .non => .non
  | .bl => .bl
  | .int => .int
  | .str => .str
  | .tup h r => .tup (by
      rcases h with ⟨u, h, d, n⟩ | h
      · exact .inl ⟨u, by rw [upd_ne (out_z hD n)]; exact h, d, n⟩
      · exact .inr h) (RVs.putZ hD r)
  | .vl h n r => .vl (by rw [upd_ne (out_z hD n)]; exact h) n (RVs.putZ hD r)
  | .scr h r => .scr (by
      rcases h with ⟨h | ⟨u, h⟩, n⟩ | h
      · exact .inl ⟨.inl (by rw [upd_ne (out_z hD n)]; exact h), n⟩
      · exact .inl ⟨.inr ⟨u, by rw [upd_ne (out_z hD n)]; exact h⟩, n⟩
      · exact .inr h) (RVs.putZ hD r)
  | .vd h n e r => .vd (by rw [upd_ne (out_z hD n)]; exact h) n e (RVs.putZ hD r)
  | .vi m h n e r => .vi m (by rw [upd_ne (out_z hD n)]; exact h) n e (RVs.putZ hD r)
  | .obj h => .obj h
theorem RVs.putZ (hD : D ∈ φ.z) {o : HO} {xs : List Val} {vs : List V} : RVs K mg φ H xs vs → RVs K mg φ (upd H D o) xs vs
  | .nil => .nil
  | .cons a r => .cons (RV.putZ hD a) (RVs.putZ hD r)
end
theorem RelS.putZ (hD : D ∈ φ.z) {o : HO} (r : RelS K mg φ S H) : RelS K mg φ S (upd H D o) := by
  have ne : ∀ {a}, a ∈ φ.m → a ≠ D := fun {a} h e => r.dis D hD (e ▸ h)
  refine ⟨r.len, r.nd, r.dis, fun a ha => ?_, fun i u a h1 h2 => ?_⟩
  · by_cases e : a = D
    · subst e; exact ⟨o, upd_same⟩
    · obtain ⟨u, h⟩ := r.ztr a ha
      exact ⟨u, by rw [upd_ne e]; exact h⟩
  · have na := ne (List.mem_of_getElem? h2)
    cases r.ob i u a h1 h2 with
    | lst h rr => exact .lst (by rw [upd_ne na]; exact h) (rr.putZ hD)
    | dct h e rr => exact .dct (by rw [upd_ne na]; exact h) e (rr.putZ hD)
    | ins m h e rr => exact .ins m (by rw [upd_ne na]; exact h) e (rr.putZ hD)
theorem At.putZ (hD : D ∈ φ.z) {o : HO} (a : At K mg φ ρ S σ H) : At K mg φ ρ S σ (upd H D o) :=
  ⟨⟨a.env.1, fun i x h => let ⟨v, hv, r⟩ := a.env.2 i x h; ⟨v, hv, r.putZ hD⟩⟩, a.rel.putZ hD⟩
theorem Fwd.putZ (s : Fwd φ1 H1 φ H) (h : H1 D = none) (o : HO) : Fwd φ1 H1 φ (upd H D o) :=
  ⟨s.pre, s.zz, fun a u e n => by rw [upd_ne (ne_of_none e h)]; exact s.keep a u e n, fun a u e n => by rw [upd_ne (ne_of_none e h)]; exact s.live a u e n, s.new⟩
theorem Fwd.putIn (s : Fwd φ1 H1 φ H) (h : D ∈ φ1.z) (o : HO) : Fwd φ1 H1 φ (upd H D o) :=
  ⟨s.pre, s.zz, fun a u e n => by rw [upd_ne (out_z h n)]; exact s.keep a u e n, fun a u e n => by
    by_cases q : a = D
    · subst q; exact ⟨o, upd_same⟩
    · rw [upd_ne q]; exact s.live a u e n, s.new⟩
/-- what was being made before stays as it is -/
structure FwK (φ : Own) (H : Hp) (φ' : Own) (H' : Hp) : Prop where
  f : Fwd φ H φ' H'
  kz : ∀ a o, H a = some o → a ∉ φ.m → H' a = some o
theorem FwK.mk1 (h : H D = none) (o : HO) : FwK φ H (φ.mk1 D) (upd H D o) := ⟨Fwd.mk1 h o, fun a u e _ => by rw [upd_ne (ne_of_none e h)]; exact e⟩
theorem FwK.step (a : FwK φ H φ1 H1) (b : Step φ1 H1 φ' H') : FwK φ H φ' H' := ⟨a.f.step b, fun c o h n => b.keep c o (a.kz c o h n) fun m => by
  have := a.f.new c m n
  rw [h] at this; cases this⟩
theorem FwK.putZ (s : FwK φ1 H1 φ H) (h : H1 D = none) (o : HO) : FwK φ1 H1 φ (upd H D o) := ⟨s.f.putZ h o, fun a u e n => by rw [upd_ne (ne_of_none e h)]; exact s.kz a u e n⟩
/-- it is made -/
def Own.end1 (φ : Own) (z : List Addr) : Own := ⟨φ.m, z⟩
theorem Own.end_out {z : List Addr} (hz : ∀ a ∈ z, a ∈ φ.z) {a : Addr} (n : φ.out a) : (φ.end1 z).out a := ⟨n.1, fun m => n.2 (hz a m)⟩
theorem TupAt.end1 {z : List Addr} (hz : ∀ a ∈ z, a ∈ φ.z) {a : Addr} {ys : List V} (h : TupAt K φ H a ys) : TupAt K (φ.end1 z) H a ys := by
  rcases h with ⟨u, h, d, n⟩ | h
  · exact .inl ⟨u, h, d, Own.end_out hz n⟩
  · exact .inr h
theorem LstAt.end1 {z : List Addr} (hz : ∀ a ∈ z, a ∈ φ.z) {a : Addr} {ys : List V} (h : LstAt K φ H a ys) : LstAt K (φ.end1 z) H a ys := by
  rcases h with ⟨h, n⟩ | h
  · exact .inl ⟨h, Own.end_out hz n⟩
  · exact .inr h
mutual
theorem RV.end1 {z : List Addr} (hz : ∀ a ∈ z, a ∈ φ.z) {x : Val} {v : V} : RV K mg φ H x v → RV K mg (φ.end1 z) H x v
  | .non => .non
  | .bl => .bl
  | .int => .int
  | .str => .str
  | .tup h r => .tup (h.end1 hz) (RVs.end1 hz r)
  | .vl h n r => .vl h (Own.end_out hz n) (RVs.end1 hz r)
  | .scr h r => .scr (h.end1 hz) (RVs.end1 hz r)
  | .vd h n e r => .vd h (Own.end_out hz n) e (RVs.end1 hz r)
  | .vi m h n e r => .vi m h (Own.end_out hz n) e (RVs.end1 hz r)
  | .obj h => .obj h
theorem RVs.end1 {z : List Addr} (hz : ∀ a ∈ z, a ∈ φ.z) {xs : List Val} {vs : List V} : RVs K mg φ H xs vs → RVs K mg (φ.end1 z) H xs vs
  | .nil => .nil
  | .cons a r => .cons (RV.end1 hz a) (RVs.end1 hz r)
end
theorem RelS.end1 {z : List Addr} (hz : ∀ a ∈ z, a ∈ φ.z) (r : RelS K mg φ S H) : RelS K mg (φ.end1 z) S H :=
  ⟨r.len, r.nd, fun a h => r.dis a (hz a h), fun a h => r.ztr a (hz a h), fun i u a h1 h2 => by
    cases r.ob i u a h1 h2 with
    | lst h rr => exact .lst h (rr.end1 hz)
    | dct h e rr => exact .dct h e (rr.end1 hz)
    | ins m h e rr => exact .ins m h e (rr.end1 hz)⟩
theorem FwK.end1 (s : FwK φ1 H1 φ H) : Step φ1 H1 (φ.end1 φ1.z) H := ⟨s.f.pre, rfl, s.kz, s.f.new⟩
/-! ### slots forgotten -/
def wipeD (ρ : Slots) : List Nat → Slots
  | [] => ρ
  | v :: vs => (wipeD ρ vs).set v none
theorem wipeD_length (ρ : Slots) : ∀ vs : List Nat, (wipeD ρ vs).length = ρ.length
  | [] => rfl
  | v :: vs => by unfold wipeD; rw [List.length_set, wipeD_length ρ vs]
theorem wipeD_some {ρ : Slots} {i : Nat} {x : Val} : ∀ {vs : List Nat}, (wipeD ρ vs)[i]? = some (some x) → ρ[i]? = some (some x) ∧ i ∉ vs
  | [], h => ⟨h, by simp⟩
  | v :: vs, h => by
    unfold wipeD at h
    by_cases hi : v = i
    · subst hi
      by_cases hv : v < (wipeD ρ vs).length
      · rw [List.getElem?_set_self hv] at h; cases h
      · rw [List.getElem?_eq_none (by simpa using hv)] at h; cases h
    · rw [List.getElem?_set_ne hi] at h
      obtain ⟨h1, h2⟩ := wipeD_some h
      exact ⟨h1, fun m => by
        rcases List.mem_cons.mp m with e | m
        · exact hi e.symm
        · exact h2 m⟩
theorem wipe_in {σ : L2.St} {i : Nat} : ∀ {vs : List Nat}, i ∈ vs → i < σ.length → (wipe σ vs)[i]? = some none
  | v :: vs, h, hl => by
    unfold wipe
    by_cases hi : v = i
    · subst hi
      rw [List.getElem?_set_self (by rw [wipe_length]; exact hl)]
    · rw [List.getElem?_set_ne hi]
      rcases List.mem_cons.mp h with e | h
      · exact absurd e.symm hi
      · exact wipe_in h hl
theorem REnv.wipe (e : REnv K mg φ H ρ σ) (vs : List Nat) : REnv K mg φ H (wipeD ρ vs) (L2.wipe σ vs) := by
  refine ⟨by rw [wipeD_length, wipe_length]; exact e.1, fun i x h => ?_⟩
  obtain ⟨h1, h2⟩ := wipeD_some h
  obtain ⟨v, hv, r⟩ := e.2 i x h1
  exact ⟨v, by rw [wipe_out h2]; exact hv, r⟩
theorem wipe_only {js vs : List Nat} {σ σ2 : L2.St} (o : OnlyAt js (L2.wipe σ vs) σ2) (h : ∀ j ∈ js, j ∈ vs) : L2.wipe σ2 vs = L2.wipe σ vs := by
  have l1 : σ2.length = σ.length := by rw [o.1, wipe_length]
  apply List.ext_getElem?
  intro i
  by_cases hi : i ∈ vs
  · by_cases hl : i < σ.length
    · rw [wipe_in hi hl, wipe_in hi (by rw [l1]; exact hl)]
    · rw [List.getElem?_eq_none (by rw [wipe_length, l1]; omega), List.getElem?_eq_none (by rw [wipe_length]; omega)]
  · rw [wipe_out hi]
    exact o.2 i fun m => hi (h i m)
end

/-! ### the loop of a comprehension -/
abbrev DTs (X : Cx) (W : WX) (ifs : List Expr) (d : TD) : Prop := PTs X ifs (tD X.K X.mg RB W d)
def dYes : TD := fun _ S => some (.ok true, S)
theorem PTs.imp {X : Cx} {e : List Expr} {t t' : TT} (h : PTs X e t) (i : ∀ σ H Q, t' σ H Q → t σ H Q) : PTs X e t' := ⟨fun pins s σ H Q I w => h.run pins s σ H Q I (i _ _ _ w)⟩
theorem dts_nil {X : Cx} {W : WX} : DTs X W [] dYes := PTs.imp pts_nil fun σ H Q ⟨φ, ρ, S, r, S', a, h, fin⟩ => by
  cases h
  exact fin.now a.rel rfl
theorem dts_one {X : Cx} {W : WX} {c : Expr} {d : TD} (h : DT X W c d) : DTs X W [c] d := pts_one h
abbrev W0 : WX := fun _ _ _ _ => False
open Classical in
noncomputable def lcL (chk : Store → Prop) (g : GD) (tt : TD) (d : ED) (ρ : Slots) : List Val → Store → Option (List Val × Store)
  | [], S => if chk S then some ([], S) else none
  | x :: xs, S => if chk S then match g x ρ with
      | some ρ1 => match tt ρ1 S with
        | some (.ok true, S1) => match d ρ1 S1 with
          | some (.ok y, S2) => match lcL chk g tt d ρ xs S2 with
            | some (ys, S3) => some (y :: ys, S3)
            | none => none
          | _ => none
        | some (.ok false, S1) => lcL chk g tt d ρ xs S1
        | _ => none
      | none => none
    else none
noncomputable def dLc (di : ID) (g : GD) (tt : TD) (d : ED) (vs : List Nat) : ED := fun ρ S => bindO (di ρ S) fun t S1 => match lcL t.chk g tt d (wipeD ρ vs) t.xs S1 with
  | some (ys, S2) => if ys.length ≤ 1000000 then some (.ok (.vl ys), S2) else none
  | none => none

theorem drop_cons {α : Type} {l : List α} {i : Nat} {x : α} {xs : List α} (h : l.drop i = x :: xs) : l[i]? = some x ∧ l.drop (i + 1) = xs := by
  constructor
  · have e := congrArg List.head? h
    rw [List.head?_drop] at e
    exact e
  · have e := congrArg List.tail h
    rw [List.tail_drop] at e
    exact e
section
variable {X : Cx} {W : WX} {elt tg iter : Expr} {ifs : List Expr} {scope : Scope} {own : List (Str × Nat)} {pos spos py : Pos} {di : ID} {g : GD} {js : List Nat} {tt : TD} {d : ED}
theorem t_lc {K : PySem.W.Frag} {mg : MG} {vs : List Nat} (hsub : ∀ j ∈ js, j ∈ vs) {σ : L2.St} {H : Hp} {Q : VK} (h : tD K mg (RV K mg) W (dLc di g tt d vs) σ H Q) :
    tLc (tD K mg (RI K mg) W di) (tG K mg g js) (tD K mg RB W0 tt) (tD K mg (RV K mg) W0 d) vs σ H Q := by
  obtain ⟨φ, ρ, S, res, S', a, h, fin⟩ := h
  refine tD_bind a h fin fun t S1 φ1 H1 J s a1 src h1 f1 => ?_
  intro D hD
  cases e : lcL t.chk g tt d (wipeD ρ vs) t.xs S1 with
  | none => rw [e] at h1; cases h1
  | some pr =>
    obtain ⟨total, S2⟩ := pr
    rw [e] at h1
    simp only at h1
    split at h1
    · rename_i hlen
      cases h1
      refine ⟨fun i m Hc => ∃ φc Sc acc ys rest, At K mg φc (wipeD ρ vs) Sc (wipe σ vs) Hc ∧ φc.z = D :: φ1.z ∧ FwK φ1 H1 φc Hc ∧ Hc D = some (.lst ys) ∧ RVs K mg φc Hc acc ys ∧ m = (t.xs.drop i).length ∧
          lcL t.chk g tt d (wipeD ρ vs) (t.xs.drop i) Sc = some (rest, S') ∧ acc ++ rest = total,
        ⟨_, φ1.mk1 D, S1, [], [], total, ⟨(a1.env.fwd (Fwd.mk1 hD _)).wipe vs, a1.rel.mk1 hD _⟩, rfl, FwK.mk1 hD _, upd_same, .nil, rfl, e, rfl⟩, ?_⟩
      rintro i m Hc ⟨φc, Sc, acc, ys, rest, ac, hz, fw, hHD, racc, rfl, hL, htot⟩
      have hDz : D ∈ φc.z := by rw [hz]; exact List.mem_cons_self ..
      have hsubz : ∀ b ∈ φ1.z, b ∈ φc.z := fun b hb => by rw [hz]; exact List.mem_cons_of_mem _ hb
      cases ex : t.xs.drop i with
      | nil =>
        rw [ex] at hL
        unfold lcL at hL
        split at hL
        · rename_i hk
          cases hL
          have hl : t.xs.length ≤ i := List.drop_eq_nil_iff.mp ex
          refine .inl ⟨(src φc _ Hc fw.f ac.rel hk i).2 hl, ?_⟩
          rw [List.append_nil] at htot
          subst htot
          have hout : (φc.end1 φ1.z).out D := ⟨ac.rel.dis D hDz, (a1.rel.fresh hD).2⟩
          exact f1 (φc.end1 φ1.z) Hc _ fw.end1 (ac.rel.end1 hsubz) (.vl hHD hout (racc.end1 hsubz))
        · cases hL
      | cons x xs =>
        obtain ⟨hx, hd⟩ := drop_cons ex
        rw [ex] at hL
        unfold lcL at hL
        split at hL
        · rename_i hk
          obtain ⟨go, yl⟩ := (src φc _ Hc fw.f ac.rel hk i).1 x hx
          refine .inr ⟨go, fun Hn => ∃ φc Sc acc ys rest, At K mg φc (wipeD ρ vs) Sc (wipe σ vs) Hn ∧ φc.z = D :: φ1.z ∧ FwK φ1 H1 φc Hn ∧ Hn D = some (.lst ys) ∧ RVs K mg φc Hn acc ys ∧
              lcL t.chk g tt d (wipeD ρ vs) xs Sc = some (rest, S') ∧ acc ++ rest = total, ?_, fun v Hv y => ?_⟩
          · rintro Hn ⟨φn, Sn, an, yn, rn, h1, h2, h3, h4, h5, h6, h7⟩
            exact ⟨xs.length, by simp, φn, Sn, an, yn, rn, h1, h2, h3, h4, h5, by rw [hd], by rw [hd]; exact h6, h7⟩
          obtain ⟨φ2, s2, r2, rv⟩ := yl v Hv y
          have a2 := ac.step s2 r2
          cases e1 : g x (wipeD ρ vs) with
          | none => rw [e1] at hL; cases hL
          | some ρ1 =>
            rw [e1] at hL
            refine ⟨φ2, _, Sc, x, ρ1, a2, rv, e1, fun σ3 a3 o3 => ⟨wipe_only o3 hsub, ?_⟩⟩
            simp only at hL
            cases e2 : tt ρ1 Sc with
            | none => rw [e2] at hL; cases hL
            | some p2 =>
              obtain ⟨q2, S3⟩ := p2
              rw [e2] at hL
              cases q2 with
              | ex c ns zs => cases hL
              | ok b =>
                refine ⟨φ2, ρ1, Sc, _, S3, a3, e2, fun φ3 H3 b' s3 r3 eb => ?_⟩
                subst eb
                have a4 := a3.step s3 r3
                have aw := a2.step s3 r3
                cases b with
                | false =>
                  rw [if_neg Bool.false_ne_true]
                  exact ⟨φ3, S3, acc, ys, rest, aw, s3.zz.trans (s2.zz.trans hz), (fw.step s2).step s3, s3.keep _ _ (s2.keep _ _ hHD (ac.rel.dis D hDz)) (r2.dis D (by rw [s2.zz]; exact hDz)), (racc.step s2).step s3, hL, htot⟩
                | true =>
                  rw [if_pos rfl]
                  simp only at hL
                  cases e3 : d ρ1 S3 with
                  | none => rw [e3] at hL; cases hL
                  | some p3 =>
                    obtain ⟨q3, S4⟩ := p3
                    rw [e3] at hL
                    cases q3 with
                    | ex c ns zs => cases hL
                    | ok w =>
                      simp only at hL
                      cases e4 : lcL t.chk g tt d (wipeD ρ vs) xs S4 with
                      | none => rw [e4] at hL; cases hL
                      | some p4 =>
                        obtain ⟨rs, S5⟩ := p4
                        rw [e4] at hL
                        cases hL
                        refine ⟨φ3, ρ1, S3, _, S4, a4, e3, fun φ4 H4 u s4 r4 rw' => ?_⟩
                        have hz4 : φ4.z = D :: φ1.z := s4.zz.trans (s3.zz.trans (s2.zz.trans hz))
                        have hD4 : D ∈ φ4.z := by rw [hz4]; exact List.mem_cons_self ..
                        have hH4 : H4 D = some (.lst ys) := s4.keep _ _ (s3.keep _ _ (s2.keep _ _ hHD (ac.rel.dis D hDz)) (r2.dis D (by rw [s2.zz]; exact hDz))) (r3.dis D (by rw [s3.zz, s2.zz]; exact hDz))
                        have hacc := ((racc.step s2).step s3).step s4
                        have hl : ys.length < sizeLine := by
                          have h1 := racc.length
                          have h2 : acc.length + (rs.length + 1) = total.length := by rw [← htot]; simp
                          have h3 := line1M
                          omega
                        refine ⟨ys, hH4, hl, φ4, S4, acc ++ [w], ys ++ [u], rs, (aw.step s4 r4).putZ hD4, hz4, (((fw.step s2).step s3).step s4).putZ hD _, upd_same, (hacc.append (.cons rw' .nil)).putZ hD4, e4, by rw [← htot]; simp⟩
        · cases hL
    · cases h1
theorem de_lc (hc : X.calm = true) (hN : X.N.Nodup) (hi : DI X W tg iter di) (ok : BlkOk X.N X.env.scope scope own)
    (hg : ∀ (s : Shared) (H : Hp) (C : Addr) (cl : List (Str × Addr)) (fp : List Addr), DG (X.blk s H scope (compEnvC scope cl C X.env) fp) tg g js) (ht : ∀ (s : Shared) (H : Hp) (C : Addr) (cl : List (Str × Addr)) (fp : List Addr), DTs (X.blk s H scope (compEnvC scope cl C X.env) fp) W0 ifs tt)
    (he : ∀ (s : Shared) (H : Hp) (C : Addr) (cl : List (Str × Addr)) (fp : List Addr), DE (X.blk s H scope (compEnvC scope cl C X.env) fp) W0 elt d) (hsub : ∀ j ∈ js, j ∈ own.map (·.2) := by decide) (hs : ∀ x, foldedSetIterable iter X.env x = pure x := by intro _; rfl) :
    DE X W (.ListComp elt [⟨tg, iter, ifs, 0⟩] scope pos) (dLc di g tt d (own.map (·.2))) := PE.imp (pe_lc hc hN hi ok hg ht he hs) fun σ H Q h => t_lc hsub h
/-- y = [..] -/
theorem tAsg_of {e : ED} {i : Nat} {t : TE} (ht : ∀ σ H Q, tD X.K X.mg (RV X.K X.mg) W e σ H Q → t σ H Q) (D : Ends) (σ : L2.St) (H : Hp) (h : tS X.K X.mg W (dSet i e) D σ H) : tAsg t (gName i) D σ H := by
  obtain ⟨φ, ρ, S, fl, S', a, h, fin⟩ := h
  refine ht σ H _ (tS_bind a h fin fun x S1 φ1 H1 v s a1 rv h1 f1 => ?_)
  cases h1
  exact f1.nxt ⟨a1.env.set rv i, a1.rel⟩
theorem ds_setLc {i : Nat} {y : Str} (hc : X.calm = true) (hN : X.N.Nodup) (hi : DI X W tg iter di) (ok : BlkOk X.N X.env.scope scope own)
    (hg : ∀ (s : Shared) (H : Hp) (C : Addr) (cl : List (Str × Addr)) (fp : List Addr), DG (X.blk s H scope (compEnvC scope cl C X.env) fp) tg g js) (ht : ∀ (s : Shared) (H : Hp) (C : Addr) (cl : List (Str × Addr)) (fp : List Addr), DTs (X.blk s H scope (compEnvC scope cl C X.env) fp) W0 ifs tt)
    (he : ∀ (s : Shared) (H : Hp) (C : Addr) (cl : List (Str × Addr)) (fp : List Addr), DE (X.blk s H scope (compEnvC scope cl C X.env) fp) W0 elt d) (hy : X.N[i]? = some y := by rfl) (hyl : X.env.scope.names.lookup y = some .local := by rfl)
    (hsw : swapsWith (.ListComp elt [⟨tg, iter, ifs, 0⟩] scope pos) (some (.Name y py)) spos.line X.env = pure true := by exact sw_true rfl rfl rfl (by decide +kernel)) (hsub : ∀ j ∈ js, j ∈ own.map (·.2) := by decide) (hs : ∀ x, foldedSetIterable iter X.env x = pure x := by intro _; rfl) :
    DS X W (.Assign [.Name y py] (.ListComp elt [⟨tg, iter, ifs, 0⟩] scope pos) spos) (dSet i (dLc di g tt d (own.map (·.2)))) := PS.imp (ps_setLc hc hN hy hyl hsw hi ok hg ht he hs) fun D σ H h => tAsg_of (fun σ H Q h => t_lc hsub h) D σ H h
end

/-! ### two fors -/
/-- the inner loop puts its things ahead of what comes -/
noncomputable def lc2L (chk : Store → Prop) (g : GD) (tt : TD) (di1 : ID) (g1 : GD) (tt1 : TD) (d : ED) (vs1 : List Nat) (ρ : Slots) : List Val → Store → Option (List Val × Store)
  | [], S => open Classical in if chk S then some ([], S) else none
  | x :: xs, S => open Classical in if chk S then match g x ρ with
      | some ρ1 => match tt ρ1 S with
        | some (.ok true, S1) => match di1 ρ1 S1 with
          | some (.ok t, S2) => match lcL t.chk g1 tt1 d (wipeD ρ1 vs1) t.xs S2 with
            | some (ys, S3) => match lc2L chk g tt di1 g1 tt1 d vs1 ρ xs S3 with
              | some (zs, S4) => some (ys ++ zs, S4)
              | none => none
            | none => none
          | _ => none
        | some (.ok false, S1) => lc2L chk g tt di1 g1 tt1 d vs1 ρ xs S1
        | _ => none
      | none => none
    else none
noncomputable def dLc2 (di : ID) (g : GD) (tt : TD) (di1 : ID) (g1 : GD) (tt1 : TD) (d : ED) (vs vs1 : List Nat) : ED := fun ρ S => bindO (di ρ S) fun t S1 => match lc2L t.chk g tt di1 g1 tt1 d vs1 (wipeD ρ vs) t.xs S1 with
  | some (ys, S2) => if ys.length ≤ 1000000 then some (.ok (.vl ys), S2) else none
  | none => none
section
variable {X : Cx} {W : WX} {elt tg iter tg1 iter1 : Expr} {ifs ifs1 : List Expr} {scope : Scope} {own : List (Str × Nat)} {vs1 : List Nat} {pos spos py : Pos} {di di1 : ID} {g g1 : GD} {js js1 : List Nat} {tt tt1 : TD} {d : ED}
theorem t_lc2 {K : PySem.W.Frag} {mg : MG} {vs : List Nat} (hsub : ∀ j ∈ js, j ∈ vs) (hsub1 : ∀ j ∈ js1, j ∈ vs1) {σ : L2.St} {H : Hp} {Q : VK} (h : tD K mg (RV K mg) W (dLc2 di g tt di1 g1 tt1 d vs vs1) σ H Q) :
    tLc2 (tD K mg (RI K mg) W di) (tG K mg g js) (tD K mg RB W0 tt) (tD K mg (RI K mg) W0 di1) (tG K mg g1 js1) (tD K mg RB W0 tt1) (tD K mg (RV K mg) W0 d) vs vs1 σ H Q := by
  obtain ⟨φ, ρ, S, res, S', a, h, fin⟩ := h
  refine tD_bind a h fin fun t S1 φ1 H1 J s a1 src h1 f1 => ?_
  intro D hD
  cases e : lc2L t.chk g tt di1 g1 tt1 d vs1 (wipeD ρ vs) t.xs S1 with
  | none => rw [e] at h1; cases h1
  | some pr =>
    obtain ⟨total, S2⟩ := pr
    rw [e] at h1
    simp only at h1
    split at h1
    · rename_i hlen
      cases h1
      refine ⟨fun i m Hc => ∃ φc Sc acc ys rest, At K mg φc (wipeD ρ vs) Sc (wipe σ vs) Hc ∧ φc.z = D :: φ1.z ∧ FwK φ1 H1 φc Hc ∧ Hc D = some (.lst ys) ∧ RVs K mg φc Hc acc ys ∧ m = (t.xs.drop i).length ∧
          lc2L t.chk g tt di1 g1 tt1 d vs1 (wipeD ρ vs) (t.xs.drop i) Sc = some (rest, S') ∧ acc ++ rest = total,
        ⟨_, φ1.mk1 D, S1, [], [], total, ⟨(a1.env.fwd (Fwd.mk1 hD _)).wipe vs, a1.rel.mk1 hD _⟩, rfl, FwK.mk1 hD _, upd_same, .nil, rfl, e, rfl⟩, ?_⟩
      rintro i m Hc ⟨φc, Sc, acc, ys, rest, ac, hz, fw, hHD, racc, rfl, hL, htot⟩
      have hDz : D ∈ φc.z := by rw [hz]; exact List.mem_cons_self ..
      have hsubz : ∀ b ∈ φ1.z, b ∈ φc.z := fun b hb => by rw [hz]; exact List.mem_cons_of_mem _ hb
      cases ex : t.xs.drop i with
      | nil =>
        rw [ex] at hL
        unfold lc2L at hL
        split at hL
        · rename_i hk
          cases hL
          have hl : t.xs.length ≤ i := List.drop_eq_nil_iff.mp ex
          refine .inl ⟨(src φc _ Hc fw.f ac.rel hk i).2 hl, ?_⟩
          rw [List.append_nil] at htot
          subst htot
          have hout : (φc.end1 φ1.z).out D := ⟨ac.rel.dis D hDz, (a1.rel.fresh hD).2⟩
          exact f1 (φc.end1 φ1.z) Hc _ fw.end1 (ac.rel.end1 hsubz) (.vl hHD hout (racc.end1 hsubz))
        · cases hL
      | cons x xs =>
        obtain ⟨hx, hd⟩ := drop_cons ex
        rw [ex] at hL
        unfold lc2L at hL
        split at hL
        · rename_i hk
          obtain ⟨go, yl⟩ := (src φc _ Hc fw.f ac.rel hk i).1 x hx
          refine .inr ⟨go, fun Hn => ∃ φc Sc acc ys rest, At K mg φc (wipeD ρ vs) Sc (wipe σ vs) Hn ∧ φc.z = D :: φ1.z ∧ FwK φ1 H1 φc Hn ∧ Hn D = some (.lst ys) ∧ RVs K mg φc Hn acc ys ∧
              lc2L t.chk g tt di1 g1 tt1 d vs1 (wipeD ρ vs) xs Sc = some (rest, S') ∧ acc ++ rest = total, ?_, fun v Hv y => ?_⟩
          · rintro Hn ⟨φn, Sn, an, yn, rn, h1, h2, h3, h4, h5, h6, h7⟩
            exact ⟨xs.length, by simp, φn, Sn, an, yn, rn, h1, h2, h3, h4, h5, by rw [hd], by rw [hd]; exact h6, h7⟩
          obtain ⟨φ2, s2, r2, rv⟩ := yl v Hv y
          have a2 := ac.step s2 r2
          cases e1 : g x (wipeD ρ vs) with
          | none => rw [e1] at hL; cases hL
          | some ρ1 =>
            rw [e1] at hL
            refine ⟨φ2, _, Sc, x, ρ1, a2, rv, e1, fun σ3 a3 o3 => ⟨wipe_only o3 hsub, ?_⟩⟩
            simp only at hL
            cases e2 : tt ρ1 Sc with
            | none => rw [e2] at hL; cases hL
            | some p2 =>
              obtain ⟨q2, S3⟩ := p2
              rw [e2] at hL
              cases q2 with
              | ex c ns zs => cases hL
              | ok b =>
                refine ⟨φ2, ρ1, Sc, _, S3, a3, e2, fun φ3 H3 b' s3 r3 eb => ?_⟩
                subst eb
                have a4 := a3.step s3 r3
                have aw := a2.step s3 r3
                have hz3 : φ3.z = D :: φ1.z := s3.zz.trans (s2.zz.trans hz)
                have hH3 : H3 D = some (.lst ys) := s3.keep _ _ (s2.keep _ _ hHD (ac.rel.dis D hDz)) (r2.dis D (by rw [s2.zz]; exact hDz))
                cases b with
                | false =>
                  rw [if_neg Bool.false_ne_true]
                  exact ⟨φ3, S3, acc, ys, rest, aw, hz3, (fw.step s2).step s3, hH3, (racc.step s2).step s3, hL, htot⟩
                | true =>
                  rw [if_pos rfl]
                  simp only at hL
                  cases e3 : di1 ρ1 S3 with
                  | none => rw [e3] at hL; cases hL
                  | some p3 =>
                    obtain ⟨q3, S4⟩ := p3
                    rw [e3] at hL
                    cases q3 with
                    | ex c ns zs => cases hL
                    | ok t1 =>
                      simp only at hL
                      cases e4 : lcL t1.chk g1 tt1 d (wipeD ρ1 vs1) t1.xs S4 with
                      | none => rw [e4] at hL; cases hL
                      | some p4 =>
                        obtain ⟨ins, S5⟩ := p4
                        rw [e4] at hL
                        simp only at hL
                        cases e5 : lc2L t.chk g tt di1 g1 tt1 d vs1 (wipeD ρ vs) xs S5 with
                        | none => rw [e5] at hL; cases hL
                        | some p5 =>
                          obtain ⟨rs, S6⟩ := p5
                          rw [e5] at hL
                          cases hL
                          refine ⟨φ3, ρ1, S3, _, S4, a4, e3, fun φ4 H4 J1 s4 r4 src1 => ?_⟩
                          have a5 := a4.step s4 r4
                          have aw5 := aw.step s4 r4
                          have hz4 : φ4.z = D :: φ1.z := s4.zz.trans hz3
                          have hH4 : H4 D = some (.lst ys) := s4.keep _ _ hH3 (r3.dis D (by rw [hz3]; exact List.mem_cons_self ..))
                          have fw4 := ((fw.step s2).step s3).step s4
                          have racc4 := ((racc.step s2).step s3).step s4
                          refine ⟨fun j k Hd => ∃ φd Sd accd yd restd, At K mg φd (wipeD ρ1 vs1) Sd (wipe σ3 vs1) Hd ∧ At K mg φd (wipeD ρ vs) Sd (wipe σ vs) Hd ∧ φd.z = D :: φ1.z ∧ FwK φ1 H1 φd Hd ∧ Fwd φ4 H4 φd Hd ∧ Hd D = some (.lst yd) ∧ RVs K mg φd Hd accd yd ∧ k = (t1.xs.drop j).length ∧
                              lcL t1.chk g1 tt1 d (wipeD ρ1 vs1) (t1.xs.drop j) Sd = some (restd, S5) ∧ accd ++ (restd ++ rs) = total,
                            ⟨_, φ4, S4, acc, ys, ins, ⟨a5.env.wipe vs1, a5.rel⟩, aw5, hz4, fw4, Step.refl.fwd, hH4, racc4, rfl, e4, htot⟩, ?_⟩
                          rintro j k Hd ⟨φd, Sd, accd, yd, restd, ad, awd, hzd, fwd', fwd4, hHDd, raccd, rfl, hLd, htotd⟩
                          have hDd : D ∈ φd.z := by rw [hzd]; exact List.mem_cons_self ..
                          cases ex1 : t1.xs.drop j with
                          | nil =>
                            rw [ex1] at hLd
                            unfold lcL at hLd
                            split at hLd
                            · rename_i hk1
                              cases hLd
                              have hl : t1.xs.length ≤ j := List.drop_eq_nil_iff.mp ex1
                              exact .inl ⟨(src1 φd _ Hd fwd4 ad.rel hk1 j).2 hl, φd, _, accd, yd, rs, awd, hzd, fwd', hHDd, raccd, e5, htotd⟩
                            · cases hLd
                          | cons x1 xs1 =>
                            obtain ⟨hx1, hd1⟩ := drop_cons ex1
                            rw [ex1] at hLd
                            unfold lcL at hLd
                            split at hLd
                            · rename_i hk1
                              obtain ⟨go1, yl1⟩ := (src1 φd _ Hd fwd4 ad.rel hk1 j).1 x1 hx1
                              refine .inr ⟨go1, fun Hn => ∃ φd Sd accd yd restd, At K mg φd (wipeD ρ1 vs1) Sd (wipe σ3 vs1) Hn ∧ At K mg φd (wipeD ρ vs) Sd (wipe σ vs) Hn ∧ φd.z = D :: φ1.z ∧ FwK φ1 H1 φd Hn ∧ Fwd φ4 H4 φd Hn ∧ Hn D = some (.lst yd) ∧ RVs K mg φd Hn accd yd ∧
                                  lcL t1.chk g1 tt1 d (wipeD ρ1 vs1) xs1 Sd = some (restd, S5) ∧ accd ++ (restd ++ rs) = total, ?_, fun v1 Hv1 y1 => ?_⟩
                              · rintro Hn ⟨φn, Sn, an, yn, rn, h1, h2, h3, h4, h5, h6, h7, h8, h9⟩
                                exact ⟨xs1.length, by simp, φn, Sn, an, yn, rn, h1, h2, h3, h4, h5, h6, h7, by rw [hd1], by rw [hd1]; exact h8, h9⟩
                              obtain ⟨φ6, s6, r6, rv6⟩ := yl1 v1 Hv1 y1
                              have a6 := ad.step s6 r6
                              have aw6 := awd.step s6 r6
                              cases g6 : g1 x1 (wipeD ρ1 vs1) with
                              | none => rw [g6] at hLd; cases hLd
                              | some ρ6 =>
                                rw [g6] at hLd
                                refine ⟨φ6, _, Sd, x1, ρ6, a6, rv6, g6, fun σ7 a7 o7 => ⟨wipe_only o7 hsub1, ?_⟩⟩
                                simp only at hLd
                                cases e7 : tt1 ρ6 Sd with
                                | none => rw [e7] at hLd; cases hLd
                                | some p7 =>
                                  obtain ⟨q7, S7⟩ := p7
                                  rw [e7] at hLd
                                  cases q7 with
                                  | ex c ns zs => cases hLd
                                  | ok b =>
                                    refine ⟨φ6, ρ6, Sd, _, S7, a7, e7, fun φ8 H8 b' s8 r8 eb => ?_⟩
                                    subst eb
                                    have a8 := a7.step s8 r8
                                    have ai8 := a6.step s8 r8
                                    have aw8 := aw6.step s8 r8
                                    have hz8 : φ8.z = D :: φ1.z := s8.zz.trans (s6.zz.trans hzd)
                                    have hH8 : H8 D = some (.lst yd) := s8.keep _ _ (s6.keep _ _ hHDd (ad.rel.dis D hDd)) (r6.dis D (by rw [s6.zz]; exact hDd))
                                    have racc8 := (raccd.step s6).step s8
                                    cases b with
                                    | false =>
                                      rw [if_neg Bool.false_ne_true]
                                      exact ⟨φ8, S7, accd, yd, restd, ai8, aw8, hz8, (fwd'.step s6).step s8, (fwd4.step s6).step s8, hH8, racc8, hLd, htotd⟩
                                    | true =>
                                      rw [if_pos rfl]
                                      simp only at hLd
                                      cases e9 : d ρ6 S7 with
                                      | none => rw [e9] at hLd; cases hLd
                                      | some p9 =>
                                        obtain ⟨q9, S9⟩ := p9
                                        rw [e9] at hLd
                                        cases q9 with
                                        | ex c ns zs => cases hLd
                                        | ok w =>
                                          simp only at hLd
                                          cases e10 : lcL t1.chk g1 tt1 d (wipeD ρ1 vs1) xs1 S9 with
                                          | none => rw [e10] at hLd; cases hLd
                                          | some p10 =>
                                            obtain ⟨r10, S10⟩ := p10
                                            rw [e10] at hLd
                                            cases hLd
                                            refine ⟨φ8, ρ6, S7, _, S9, a8, e9, fun φ9 H9 u s9 r9 rw' => ?_⟩
                                            have hz9 : φ9.z = D :: φ1.z := s9.zz.trans hz8
                                            have hD9 : D ∈ φ9.z := by rw [hz9]; exact List.mem_cons_self ..
                                            have hH9 : H9 D = some (.lst yd) := s9.keep _ _ hH8 (r8.dis D (by rw [hz8]; exact List.mem_cons_self ..))
                                            have hl : yd.length < sizeLine := by
                                              have h1 := raccd.length
                                              have h2 : accd.length + ((r10.length + 1) + rs.length) = total.length := by rw [← htotd]; simp; omega
                                              have h3 := line1M
                                              omega
                                            have fz : Fwd φ4 H4 φ9 (upd H9 D (.lst (yd ++ [u]))) := (((fwd4.step s6).step s8).step s9).putIn (by rw [hz4]; exact List.mem_cons_self ..) _
                                            exact ⟨yd, hH9, hl, φ9, S9, accd ++ [w], yd ++ [u], r10, (ai8.step s9 r9).putZ hD9, (aw8.step s9 r9).putZ hD9, hz9, (((fwd'.step s6).step s8).step s9).putZ hD _, fz, upd_same, ((racc8.step s9).append (.cons rw' .nil)).putZ hD9, e10, by rw [← htotd]; simp⟩
                            · cases hLd
        · cases hL
    · cases h1
end
end DL
set_option Elab.async false
set_option linter.all false
set_option maxRecDepth 100000
set_option maxHeartbeats 4000000
/-! The D layer, part 8: dict comprehensions. -/
namespace DL
open PySem PySem.Spec PyProof.Rows L2

def keyOf : Val → Option Key
  | .int i => some (.inl i)
  | .str x => some (.inr x)
  | _ => none
def ofKey : Key → Val
  | .inl i => .int i
  | .inr x => .str x
theorem keyOf_rel {K : PySem.W.Frag} {mg : MG} {φ : Own} {H : Hp} {x : Val} {v : V} {k : Key} (e : keyOf x = some k) (r : RV K mg φ H x v) : v = kV k := by
  cases x <;> simp only [keyOf] at e <;> first | (cases e; done) | skip
  · cases e; cases r; rfl
  · cases e; cases r; rfl
theorem valV_none_of {kvs : List (Key × V)} {k : Key} (h : k ∉ kvs.map (·.1)) : valV kvs k = none := by
  induction kvs with
  | nil => rfl
  | cons p r ih =>
    rw [List.map_cons, List.mem_cons] at h
    rw [valV_neg fun e => h (.inl e.symm)]
    exact ih fun m => h (.inr m)
/-- the pairs -/
noncomputable def dcL (chk : Store → Prop) (g : GD) (tt : TD) (dk d : ED) (ρ : Slots) : List Val → Store → Option (List (Key × Val) × Store)
  | [], S => open Classical in if chk S then some ([], S) else none
  | x :: xs, S => open Classical in if chk S then match g x ρ with
      | some ρ1 => match tt ρ1 S with
        | some (.ok true, S1) => match dk ρ1 S1 with
          | some (.ok k, S2) => match d ρ1 S2 with
            | some (.ok y, S3) => match keyOf k with
              | some j => match dcL chk g tt dk d ρ xs S3 with
                | some (ys, S4) => some ((j, y) :: ys, S4)
                | none => none
              | none => none
            | _ => none
          | _ => none
        | some (.ok false, S1) => dcL chk g tt dk d ρ xs S1
        | _ => none
      | none => none
    else none
noncomputable def dDc (di : ID) (g : GD) (tt : TD) (dk d : ED) (vs : List Nat) : ED := fun ρ S => bindO (di ρ S) fun t S1 => match dcL t.chk g tt dk d (wipeD ρ vs) t.xs S1 with
  | some (ys, S2) => if ys.length ≤ 1000000 ∧ (ys.map (·.1)).Nodup then some (.ok (.vd (ys.map (·.1)) (ys.map (·.2))), S2) else none
  | none => none
section
variable {X : Cx} {W : WX} {kx vx tg iter : Expr} {ifs : List Expr} {scope : Scope} {own : List (PySem.Str × Nat)} {pos spos py : Pos} {di : ID} {g : GD} {js : List Nat} {tt : TD} {dk d : ED}
theorem t_dc {K : PySem.W.Frag} {mg : MG} {vs : List Nat} (hsub : ∀ j ∈ js, j ∈ vs) {σ : L2.St} {H : Hp} {Q : VK} (h : tD K mg (RV K mg) W (dDc di g tt dk d vs) σ H Q) :
    tDc (tD K mg (RI K mg) W di) (tG K mg g js) (tD K mg RB W0 tt) (tD K mg (RV K mg) W0 dk) (tD K mg (RV K mg) W0 d) vs σ H Q := by
  obtain ⟨φ, ρ, S, res, S', a, h, fin⟩ := h
  refine tD_bind a h fin fun t S1 φ1 H1 J s a1 src h1 f1 => ?_
  intro D hD
  cases e : dcL t.chk g tt dk d (wipeD ρ vs) t.xs S1 with
  | none => rw [e] at h1; cases h1
  | some pr =>
    obtain ⟨total, S2⟩ := pr
    rw [e] at h1
    simp only at h1
    split at h1
    · rename_i hlen
      obtain ⟨hlen, hnd⟩ := hlen
      cases h1
      refine ⟨fun i m Hc => ∃ φc Sc acc kvs rest, At K mg φc (wipeD ρ vs) Sc (wipe σ vs) Hc ∧ φc.z = D :: φ1.z ∧ FwK φ1 H1 φc Hc ∧ Hc D = some (.dK kvs) ∧ kvs.map (·.1) = acc.map (·.1) ∧ RVs K mg φc Hc (acc.map (·.2)) (kvs.map (·.2)) ∧ m = (t.xs.drop i).length ∧
          dcL t.chk g tt dk d (wipeD ρ vs) (t.xs.drop i) Sc = some (rest, S') ∧ acc ++ rest = total,
        ⟨_, φ1.mk1 D, S1, [], [], total, ⟨(a1.env.fwd (Fwd.mk1 hD _)).wipe vs, a1.rel.mk1 hD _⟩, rfl, FwK.mk1 hD _, upd_same, rfl, .nil, rfl, e, rfl⟩, ?_⟩
      rintro i m Hc ⟨φc, Sc, acc, kvs, rest, ac, hz, fw, hHD, hks, racc, rfl, hL, htot⟩
      have hDz : D ∈ φc.z := by rw [hz]; exact List.mem_cons_self ..
      have hsubz : ∀ b ∈ φ1.z, b ∈ φc.z := fun b hb => by rw [hz]; exact List.mem_cons_of_mem _ hb
      cases ex : t.xs.drop i with
      | nil =>
        rw [ex] at hL
        unfold dcL at hL
        split at hL
        · rename_i hk
          cases hL
          have hl : t.xs.length ≤ i := List.drop_eq_nil_iff.mp ex
          refine .inl ⟨(src φc _ Hc fw.f ac.rel hk i).2 hl, ?_⟩
          rw [List.append_nil] at htot
          subst htot
          have hout : (φc.end1 φ1.z).out D := ⟨ac.rel.dis D hDz, (a1.rel.fresh hD).2⟩
          exact f1 (φc.end1 φ1.z) Hc _ fw.end1 (ac.rel.end1 hsubz) (.vd hHD hout hks (racc.end1 hsubz))
        · cases hL
      | cons x xs =>
        obtain ⟨hx, hd⟩ := drop_cons ex
        rw [ex] at hL
        unfold dcL at hL
        split at hL
        · rename_i hk
          obtain ⟨go, yl⟩ := (src φc _ Hc fw.f ac.rel hk i).1 x hx
          refine .inr ⟨go, fun Hn => ∃ φc Sc acc kvs rest, At K mg φc (wipeD ρ vs) Sc (wipe σ vs) Hn ∧ φc.z = D :: φ1.z ∧ FwK φ1 H1 φc Hn ∧ Hn D = some (.dK kvs) ∧ kvs.map (·.1) = acc.map (·.1) ∧ RVs K mg φc Hn (acc.map (·.2)) (kvs.map (·.2)) ∧
              dcL t.chk g tt dk d (wipeD ρ vs) xs Sc = some (rest, S') ∧ acc ++ rest = total, ?_, fun v Hv y => ?_⟩
          · rintro Hn ⟨φn, Sn, an, yn, rn, h1, h2, h3, h4, h5, h6, h7, h8⟩
            exact ⟨xs.length, by simp, φn, Sn, an, yn, rn, h1, h2, h3, h4, h5, h6, by rw [hd], by rw [hd]; exact h7, h8⟩
          obtain ⟨φ2, s2, r2, rv⟩ := yl v Hv y
          have a2 := ac.step s2 r2
          cases e1 : g x (wipeD ρ vs) with
          | none => rw [e1] at hL; cases hL
          | some ρ1 =>
            rw [e1] at hL
            refine ⟨φ2, _, Sc, x, ρ1, a2, rv, e1, fun σ3 a3 o3 => ⟨wipe_only o3 hsub, ?_⟩⟩
            simp only at hL
            cases e2 : tt ρ1 Sc with
            | none => rw [e2] at hL; cases hL
            | some p2 =>
              obtain ⟨q2, S3⟩ := p2
              rw [e2] at hL
              cases q2 with
              | ex c ns zs => cases hL
              | ok b =>
                refine ⟨φ2, ρ1, Sc, _, S3, a3, e2, fun φ3 H3 b' s3 r3 eb => ?_⟩
                subst eb
                have a4 := a3.step s3 r3
                have aw := a2.step s3 r3
                cases b with
                | false =>
                  rw [if_neg Bool.false_ne_true]
                  exact ⟨φ3, S3, acc, kvs, rest, aw, s3.zz.trans (s2.zz.trans hz), (fw.step s2).step s3, s3.keep _ _ (s2.keep _ _ hHD (ac.rel.dis D hDz)) (r2.dis D (by rw [s2.zz]; exact hDz)), hks, (racc.step s2).step s3, hL, htot⟩
                | true =>
                  rw [if_pos rfl]
                  simp only at hL
                  cases e3 : dk ρ1 S3 with
                  | none => rw [e3] at hL; cases hL
                  | some p3 =>
                    obtain ⟨q3, S4⟩ := p3
                    rw [e3] at hL
                    cases q3 with
                    | ex c ns zs => cases hL
                    | ok kw =>
                      simp only at hL
                      cases e5 : d ρ1 S4 with
                      | none => rw [e5] at hL; cases hL
                      | some p5 =>
                        obtain ⟨q5, S5⟩ := p5
                        rw [e5] at hL
                        cases q5 with
                        | ex c ns zs => cases hL
                        | ok w =>
                          simp only at hL
                          cases e4 : keyOf kw with
                          | none => rw [e4] at hL; cases hL
                          | some k =>
                            rw [e4] at hL
                            simp only at hL
                            cases e6 : dcL t.chk g tt dk d (wipeD ρ vs) xs S5 with
                            | none => rw [e6] at hL; cases hL
                            | some p6 =>
                              obtain ⟨rs, S6⟩ := p6
                              rw [e6] at hL
                              cases hL
                              refine ⟨φ3, ρ1, S3, _, S4, a4, e3, fun φ4 H4 u s4 r4 rk => ?_⟩
                              refine ⟨φ4, ρ1, S4, _, S5, a4.step s4 r4, e5, fun φ5 H5 u5 s5 r5 rw' => ?_⟩
                              have hz5 : φ5.z = D :: φ1.z := s5.zz.trans (s4.zz.trans (s3.zz.trans (s2.zz.trans hz)))
                              have hD5 : D ∈ φ5.z := by rw [hz5]; exact List.mem_cons_self ..
                              have hH4 : H4 D = some (.dK kvs) := s4.keep _ _ (s3.keep _ _ (s2.keep _ _ hHD (ac.rel.dis D hDz)) (r2.dis D (by rw [s2.zz]; exact hDz))) (r3.dis D (by rw [s3.zz, s2.zz]; exact hDz))
                              have hH5 : H5 D = some (.dK kvs) := s5.keep _ _ hH4 (r4.dis D (by rw [s4.zz, s3.zz, s2.zz]; exact hDz))
                              have hacc := (((racc.step s2).step s3).step s4).step s5
                              have hkl : kvs.length = acc.length := by
                                have := congrArg List.length hks
                                simpa using this
                              have hl : kvs.length < sizeLine := by
                                have h2 : acc.length + (rs.length + 1) = total.length := by rw [← htot]; simp
                                have h3 := line1M
                                omega
                              have hnew : valV kvs k = none := by
                                refine valV_none_of ?_
                                rw [hks]
                                rw [← htot, List.map_append, List.map_cons] at hnd
                                intro hm
                                exact (List.nodup_append.mp hnd).2.2 k hm k (List.mem_cons_self ..) rfl
                              refine ⟨kvs, k, keyOf_rel e4 rk, hH5, hl, φ5, S5, acc ++ [(k, w)], putK kvs k u5, rs, ((aw.step s4 r4).step s5 r5).putZ hD5, hz5, ((((fw.step s2).step s3).step s4).step s5).putZ hD _, upd_same, ?_, ?_, e6, by rw [← htot]; simp⟩
                              · rw [putK_new _ hnew]; simp [hks]
                              · rw [putK_new _ hnew, List.map_append, List.map_append]
                                exact (hacc.append (.cons rw' .nil)).putZ hD5
        · cases hL
    · cases h1
theorem de_dc (hc : X.calm = true) (hN : X.N.Nodup) (hi : DI X W tg iter di) (ok : BlkOk X.N X.env.scope scope own)
    (hg : ∀ (s : Shared) (H : Hp) (C : Addr) (cl : List (PySem.Str × Addr)) (fp : List Addr), DG (X.blk s H scope (compEnvC scope cl C X.env) fp) tg g js)
    (ht : ∀ (s : Shared) (H : Hp) (C : Addr) (cl : List (PySem.Str × Addr)) (fp : List Addr), DTs (X.blk s H scope (compEnvC scope cl C X.env) fp) W0 ifs tt)
    (hk : ∀ (s : Shared) (H : Hp) (C : Addr) (cl : List (PySem.Str × Addr)) (fp : List Addr), DE (X.blk s H scope (compEnvC scope cl C X.env) fp) W0 kx dk)
    (he : ∀ (s : Shared) (H : Hp) (C : Addr) (cl : List (PySem.Str × Addr)) (fp : List Addr), DE (X.blk s H scope (compEnvC scope cl C X.env) fp) W0 vx d)
    (hsub : ∀ j ∈ js, j ∈ own.map (·.2) := by decide) (hs : ∀ x, foldedSetIterable iter X.env x = pure x := by intro _; rfl) :
    DE X W (.DictComp kx vx [⟨tg, iter, ifs, 0⟩] scope pos) (dDc di g tt dk d (own.map (·.2))) := PE.imp (pe_dc hc hN hi ok hg ht hk he hs) fun σ H Q h => t_dc hsub h
end
end DL
set_option Elab.async false
set_option linter.all false
set_option maxRecDepth 100000
set_option maxHeartbeats 4000000
/-! The D layer, part 9: match. -/
namespace DL
open PySem PySem.Spec PyProof.Rows L2

/-- what a pattern binds: nothing known, no match, slots and values -/
abbrev MPD := Val → Option (Option (List (Nat × Val)))
def pWord (x : PySem.Str) : MPD := fun v => match v with
  | .str y => some (if y = x then some [] else none)
  | _ => none
def pCap (i : Nat) : MPD := fun v => some (some [(i, v)])
def pAny : MPD := fun _ => some (some [])
abbrev MPDs := List Val → Option (Option (List (Nat × Val)))
def pNil : MPDs := fun xs => match xs with
  | [] => some (some [])
  | _ => none
def pCons (p : MPD) (ps : MPDs) : MPDs := fun xs => match xs with
  | x :: xs => match p x with
    | none => none
    | some none => some none
    | some (some bs) => match ps xs with
      | none => none
      | some none => some none
      | some (some cs) => some (some (bs ++ cs))
  | _ => none
def pSeq (n : Nat) (ps : MPDs) : MPD := fun v => match v with
  | .tup xs => if xs.length = n then ps xs else some none
  | _ => none
def setAll (ρ : Slots) : List (Nat × Val) → Slots
  | [] => ρ
  | (i, x) :: r => setAll (ρ.set i (some x)) r
abbrev CD := List (MPD × SD)
def mcL : CD → Val → SD
  | [], _ => fun ρ S => some (.nx ρ, S)
  | (p, b) :: r, x => fun ρ S => match p x with
    | none => none
    | some none => mcL r x ρ S
    | some (some bs) => b (setAll ρ bs) S
def dMatch (d : ED) (cs : CD) : SD := fun ρ S => liftE ρ (d ρ S) fun x S1 => mcL cs x ρ S1

/-- bindings over the frame's names -/
inductive MB (X : Cx) (φ : Own) (H : Hp) : List (Nat × Val) → List (PySem.Str × Value) → Prop
  | nil : MB X φ H [] []
  | cons {i x n v u bs cs} : X.N[i]? = some n → Loc X.env.scope n → (X.fn n = true ∨ X.env.scope.names.lookup n = some .local) → RV X.K X.mg φ H x v → RelV v u → MB X φ H bs cs → MB X φ H ((i, x) :: bs) ((n, u) :: cs)
theorem MB.app {X : Cx} {φ : Own} {H : Hp} : ∀ {bs cs : List (Nat × Val)} {us ws : List (PySem.Str × Value)}, MB X φ H bs us → MB X φ H cs ws → MB X φ H (bs ++ cs) (us ++ ws)
  | _, _, _, _, .nil, b => b
  | _, _, _, _, .cons a c d e f r, b => .cons a c d e f (MB.app r b)
def MR (X : Cx) (φ : Own) (H : Hp) (r : Option (List (Nat × Val))) (q : Option (List (PySem.Str × Value))) : Prop := match r, q with
  | none, none => True
  | some bs, some us => MB X φ H bs us
  | _, _ => False
structure DPt (X : Cx) (p : Pattern) (d : MPD) : Prop where
  run : ∀ (pins : List (Addr × Obj)) (s : Shared) (σ : L2.St) (H : Hp) (φ : Own) (x : Val) (v : V) (u : Value) (r : Option (List (Nat × Val))), Inv X pins σ H s → RV X.K X.mg φ H x v → RelV v u → d x = some r →
    wpAny (model X.prog X.w) X.A (matchPattern p X.env u) (fun q s' => Inv X pins σ H s' ∧ MR X φ H r q) X.xe s
structure DPts (X : Cx) (ps : List Pattern) (d : MPDs) : Prop where
  run : ∀ (pins : List (Addr × Obj)) (s : Shared) (σ : L2.St) (H : Hp) (φ : Own) (xs : List Val) (vs : List V) (us : List Value) (r : Option (List (Nat × Val))), Inv X pins σ H s → RVs X.K X.mg φ H xs vs → Vals vs us → d xs = some r →
    wpAny (model X.prog X.w) X.A (matchEach ps X.env us) (fun q s' => Inv X pins σ H s' ∧ MR X φ H r q) X.xe s
section
variable {X : Cx} {pos p2 : Pos} {p : Pattern} {ps : List Pattern} {d : MPD} {ds : MPDs}
theorem dpt_cap {i : Nat} {n : PySem.Str} (hN : X.N[i]? = some n := by rfl) (hl : Loc X.env.scope n := by first | exact Or.inl rfl | exact Or.inr rfl) (hf : X.fn n = true ∨ X.env.scope.names.lookup n = some .local := by first | exact .inl rfl | exact .inr rfl | assumption) :
    DPt X (.MatchAs none (some n) pos) (pCap i) := ⟨fun pins s σ H φ x v u r I rx rv e => by
  cases e
  exact wpAny_matchPattern_Capture ⟨I, .cons hN hl hf rx rv .nil⟩⟩
theorem dpt_any : DPt X (.MatchAs none none pos) pAny := ⟨fun pins s σ H φ x v u r I rx rv e => by
  cases e
  exact wpAny_matchPattern_Capture ⟨I, .nil⟩⟩
theorem dpt_word {x : PySem.Str} {j} : DPt X (.MatchValue (.Constant (.str x) j p2) pos) (pWord x) := ⟨fun pins s σ H φ y v u r I ry rv e => by
  cases y <;> simp only [pWord] at e <;> first | (cases e; done) | skip
  rename_i z
  cases ry
  refine wpAny_matchPattern_Value (thn ((pe_str (x := x) (j := j) (pos := p2)).run pins s σ H (fun w H' => w = .str x ∧ H' = H) I ⟨rfl, rfl⟩) fun w s1 ⟨v1, H1, I1, r1, e1, e2⟩ => ?_)
  subst e1 e2
  refine thn (op_eq pins s1 σ H1 (.str z) (.str x) u w (fun b H' => b = .bl (decide (z = x)) ∧ H' = H1) I1 rv r1 ⟨rfl, by simp, rfl⟩) fun c s2 ⟨v2, H2, I2, r2, e3, e4⟩ => ?_
  subst e3 e4
  cases r2
  refine wpAny_truthy_bool ?_
  by_cases h : z = x
  · rw [if_pos h] at e
    rw [decide_eq_true h, if_pos rfl]
    cases e
    exact ⟨I2, .nil⟩
  · rw [if_neg h] at e
    rw [decide_eq_false h, if_neg Bool.false_ne_true]
    cases e
    exact ⟨I2, trivial⟩⟩
theorem dpts_nil : DPts X [] pNil := ⟨fun pins s σ H φ xs vs us r I rx rv e => by
  cases xs with
  | nil =>
    cases rx
    cases rv
    cases e
    exact wpAny_matchEach_nil ⟨I, .nil⟩
  | cons x xs => cases e⟩
theorem dpts_cons (h1 : DPt X p d) (h2 : DPts X ps ds) (hp : p.isStar = false := by rfl) : DPts X (p :: ps) (pCons d ds) := ⟨fun pins s σ H φ xs vs us r I rx rv e => by
  cases xs with
  | nil => cases e
  | cons x xs =>
    cases rx with
    | cons rx rxs =>
      cases rv with
      | cons rv rvs =>
        refine wpAny_matchEach_cons ?_ hp
        simp only [pCons] at e
        cases e1 : d x with
        | none => rw [e1] at e; cases e
        | some q =>
          rw [e1] at e
          refine thn (h1.run pins s σ H φ x _ _ q I rx rv e1) fun q1 s1 ⟨I1, m1⟩ => ?_
          cases q with
          | none =>
            cases q1 with
            | some _ => exact m1.elim
            | none => cases e; exact ⟨I1, trivial⟩
          | some bs =>
            cases q1 with
            | none => exact m1.elim
            | some us1 =>
              simp only at e ⊢
              cases e2 : ds xs with
              | none => rw [e2] at e; cases e
              | some q2 =>
                rw [e2] at e
                refine thn (h2.run pins s1 σ H φ xs _ _ q2 I1 rxs rvs e2) fun q3 s2 ⟨I2, m2⟩ => ?_
                cases q2 with
                | none =>
                  cases q3 with
                  | some _ => exact m2.elim
                  | none => cases e; exact ⟨I2, trivial⟩
                | some cs =>
                  cases q3 with
                  | none => exact m2.elim
                  | some us2 => cases e; exact ⟨I2, MB.app m1 m2⟩⟩
theorem dpt_seq (hc : X.calm = true) (h : DPts X ps ds) {n : Nat} (hn : ps.length = n := by rfl) (hstar : ps.findIdx? (·.isStar) = none := by rfl) (hwild : (ps.all fun p => p.isWildcard || (p.isStar && p.names.isEmpty)) = false := by rfl) :
    DPt X (.MatchSequence ps pos) (pSeq n ds) := ⟨fun pins s σ H φ y v u r I ry rv e => by
  cases y <;> simp only [pSeq] at e <;> first | (cases e; done) | skip
  rename_i xs
  cases ry with
  | tup ta rx =>
    cases rv
    obtain ⟨its, rvs, ht, hz⟩ := I.tuple ta.sq
    have l1 := rx.length
    have l2 : its.length = _ := rvs.length.symm
    have hfit : ((its.toArray.size : Nat) : Int) < 2 ^ 63 := by
      have h3 : sizeLine < 2 ^ 63 := by decide
      rw [List.size_toArray, l2]
      omega
    by_cases hl : xs.length = n
    · rw [if_pos hl] at e
      have hsz : its.toArray.size = ps.length := by rw [List.size_toArray, l2, ← l1, hl, hn]
      refine matchSeq_tuple_hit ht hfit hsz ?_ hstar hwild
      rw [← hsz]
      have I1 : Inv X pins σ H { s with toks := s.toks + 1 + 1 } := I.tok _
      refine unpackItems_tuple (I.ok.hd hc) ht fun h' hx => ?_
      have I2 : Inv X pins σ H { s with heap := h', toks := s.toks + 1 + 1 } := I1.kept (t' := s.toks + 1 + 1) fun b o e => hx b o (Nat.ne_of_lt (Heap.lt_size e)) e
      exact h.run pins _ σ H φ xs _ _ r I2 rx (by simpa using rvs) e
    · rw [if_neg hl] at e
      cases e
      refine matchSeq_tuple_miss ht hfit (fun q => hl ?_) ⟨I.tok _, trivial⟩ hstar hwild
      rw [List.size_toArray, l2, ← l1] at q
      rw [q, hn]⟩

/-! ### the bindings are set -/
theorem bind_all (hN : X.N.Nodup) {pins : List (Addr × Obj)} {H : Hp} {φ : Own} {S : Store} : ∀ {bs : List (Nat × Val)} {us : List (PySem.Str × Value)} {ρ : Slots} {σ : L2.St} {s : Shared} {Q : Unit → Shared → Prop}, MB X φ H bs us → Inv X pins σ H s → At X.K X.mg φ ρ S σ H →
    (∀ σ' s', Inv X pins σ' H s' → At X.K X.mg φ (setAll ρ bs) S σ' H → Q () s') → wpAny (model X.prog X.w) X.A (assignInOrder (us.map fun (n, _) => bindName X.env n) (us.map (·.2))) Q X.xe s
  | _, _, ρ, σ, s, Q, .nil, I, a, h => assignInOrder_nil (h σ s I a)
  | _, _, ρ, σ, s, Q, .cons h1 h2 h3 rx rv r, I, a, h => by
    refine assignInOrder_cons (wpAny_bindName (store_ok I hN h1 h2 rv (fun s' I' => ?_) h3))
    exact bind_all hN r I' ⟨a.env.set rx _, a.rel⟩ h
variable {W : WX}
structure DMC (X : Cx) (W : WX) (cs : List MatchCase) (d : CD) : Prop where
  run : ∀ (pins : List (Addr × Obj)) (s : Shared) (σ : L2.St) (H : Hp) (φ : Own) (ρ : Slots) (S : Store) (D : Ends) (x : Val) (v : V) (u : Value) (fl : Fl) (S' : Store) (first : Bool), Inv X pins σ H s → At X.K X.mg φ ρ S σ H → RV X.K X.mg φ H x v → RelV v u →
    mcL d x ρ S = some (fl, S') → FinS X.K X.mg W φ H fl S' D → wpAny (model X.prog X.w) X.A (matchCases cs X.env u first) (SP X pins D) X.xe s
theorem dmc_nil : DMC X W [] [] := ⟨fun pins s σ H φ ρ S D x v u fl S' first I a rx rv e fin => by
  cases e
  exact wpAny_matchCases_nil ⟨σ, H, I, fin.nxt a⟩⟩
theorem dmc_cons {body : List Stmt} {rest : List MatchCase} {db : SD} {dr : CD} (hN : X.N.Nodup) (h1 : DPt X p d) (h2 : DSs X W body db) (h3 : DMC X W rest dr) : DMC X W (⟨p, none, body⟩ :: rest) ((d, db) :: dr) := ⟨fun pins s σ H φ ρ S D x v u fl S' first I a rx rv e fin => by
  refine wpAny_matchCases_cons ?_
  simp only [mcL] at e
  cases e1 : d x with
  | none => rw [e1] at e; cases e
  | some q =>
    rw [e1] at e
    refine thn (h1.run pins s σ H φ x v u q I rx rv e1) fun q1 s1 ⟨I1, m1⟩ => ?_
    cases q with
    | none =>
      cases q1 with
      | some _ => exact m1.elim
      | none => exact h3.run pins s1 σ H φ ρ S D x v u fl S' false I1 a rx rv e fin
    | some bs =>
      cases q1 with
      | none => exact m1.elim
      | some us =>
        simp only at e ⊢
        exact bind_all hN m1 I1 a fun σ' s2 I2 a2 => h2.run pins s2 σ' H D I2 ⟨φ, _, S, fl, S', a2, e, fin⟩⟩
theorem ds_match {subj : Expr} {cs : List MatchCase} {ds : ED} {dc : CD} (h1 : DE X W subj ds) (h2 : DMC X W cs dc) : DS X W (.Match subj cs pos) (dMatch ds dc) := ⟨fun pins s σ H D I ⟨φ, ρ, S, fl, S', a, h, fin⟩ => by
  refine wpAny_Match (thn (h1.run pins s σ H (fun v H1 => ∃ φ1 S1 x, At X.K X.mg φ1 ρ S1 σ H1 ∧ RV X.K X.mg φ1 H1 x v ∧ mcL dc x ρ S1 = some (fl, S') ∧ FinS X.K X.mg W φ1 H1 fl S' D) I (tS_bind a h fin fun x S1 φ1 H1 v s1 a1 rv h1 f1 => ⟨φ1, S1, x, a1, rv, h1, f1⟩)) fun u s1 ⟨v, H1, I1, r1, φ1, S1, x, a1, rv, e, f1⟩ => ?_)
  exact h2.run pins s1 σ H1 φ1 ρ S1 D x v u fl S' true I1 a1 rv r1 e f1⟩
end
end DL
set_option Elab.async false
set_option linter.all false
set_option maxRecDepth 100000
set_option maxHeartbeats 4000000
/-! The D layer, part 10: enumerate and zip of lists and tuples. -/
namespace DL
open PySem PySem.Spec PyProof.Rows L2

/-! ### a list (false) or a tuple (true), and its iterator -/
def HIt (b : Bool) (h : Heap) (it a : Addr) (i : Nat) : Prop := if b = true then h.IsTupleIter it a i else h.IsListIter it a i
def HSq (b : Bool) (h : Heap) (a : Addr) (xs : Array Value) : Prop := if b = true then h.IsTuple a xs else h.IsList a xs
def Sq (K : PySem.W.Frag) (b : Bool) (H : Hp) (a : Addr) (xs : List V) : Prop := if b = true then SqT K H a xs else SqL K H a xs
def itOb (b : Bool) (a : Addr) : Obj := { cls := .type (if b = true then "tuple_iterator" else "list_iterator"), data := .fields #[.ref a, .int 0 0] }
section
variable {prog : Program} {w : World} {A : Around} {b : Bool} {h h' : Heap} {it a : Addr} {i : Nat} {items : Array Value}
theorem HIt.at (x : HIt b h it a i) (k : ∀ o, h.get? it = some o → h'.get? it = some o) : HIt b h' it a i := by
  cases b
  · exact Heap.IsListIter.at x k
  · exact Heap.IsTupleIter.at x k
theorem HIt.ob (x : HIt b h it a i) : ∃ o, h.get? it = some o ∧ ∀ v, o.data ≠ .cell v := by
  cases b
  · obtain ⟨o, e, _, d⟩ := (show h.IsListIter it a i from x); exact ⟨o, e, fun v q => by rw [d] at q; cases q⟩
  · obtain ⟨o, e, _, d⟩ := (show h.IsTupleIter it a i from x); exact ⟨o, e, fun v q => by rw [d] at q; cases q⟩
theorem HIt.new (e : h.get? it = some (itOb b a)) : HIt b h it a 0 := by
  cases b
  · exact ⟨_, e, rfl, rfl⟩
  · exact ⟨_, e, rfl, rfl⟩
theorem HSq.lt (x : HSq b h a items) : a < h.objs.size := by
  cases b
  · obtain ⟨o, e, _⟩ := (show h.IsList a items from x); exact Heap.lt_size e
  · obtain ⟨o, e, _⟩ := (show h.IsTuple a items from x); exact Heap.lt_size e
theorem begins_sq : Begins (.ref a) (itOb b a) fun h => HSq b h a items := by
  cases b
  · exact begins_list a items
  · exact begins_tuple a items
/-- the iterator where it stands -/
theorem draw_at (hh : A.handled = none) (hne : a ≠ it) (hi : HIt b h it a i) (hs : HSq b h a items) :
    ∃ n P St, Draws prog w A it [it, a] n P St ∧ St i h ∧ (i < items.size → i < n) ∧ (items.size ≤ i → n = i) ∧ (∀ v, P i v → items[i]? = some v) ∧ ∀ h', St (i + 1) h' → HIt b h' it a (i + 1) := by
  by_cases hlt : i < items.size
  · cases b
    · exact ⟨items.size, _, _, .list hh it a hne items, ⟨hi, hs⟩, fun x => x, fun x => by omega, fun v x => x, fun h' st => st.1⟩
    · exact ⟨items.size, _, _, .tuple hh it a hne items, ⟨hi, hs⟩, fun x => x, fun x => by omega, fun v x => x, fun h' st => st.1⟩
  · have hx : items[i]? = none := by simp; omega
    refine ⟨i, fun _ _ => False, fun j h => j = i ∧ HIt b h it a i ∧ HSq b h a items, ⟨fun j h st => ?_, fun j h h' st k => ⟨st.1, st.2.1.at fun o e => k it (by simp) o e, ?_⟩, fun j s Q E hj st => absurd st.1 (by omega), fun s Q E st hE => ?_⟩, ⟨rfl, hi, hs⟩, fun x => absurd x hlt, fun _ => rfl, fun v x => x.elim, fun h' st => absurd st.1 (by omega)⟩
    · obtain ⟨o, e, _⟩ := st.2.1.ob; exact ⟨o, e⟩
    · have q := st.2.2
      cases b
      · exact Heap.IsList.at q fun o e => k a (by simp) o e
      · exact Heap.IsTuple.at q fun o e => k a (by simp) o e
    · have q1 := st.2.1
      have q2 := st.2.2
      cases b
      · exact wpAny_nextOf_list_end hh q1 q2 hx hE
      · exact wpAny_nextOf_tuple_end hh q1 q2 hx hE
end
section
variable {X : Cx} {pins : List (Addr × Obj)} {σ : L2.St} {H : Hp} {s : Shared} {b : Bool} {a : Addr} {xs ys : List V}
theorem Inv.sq (I : Inv X pins σ H s) (h : Sq X.K b H a xs) : ∃ its : List Value, Vals xs its ∧ HSq b s.heap a its.toArray ∧ xs.length ≤ sizeLine := by
  cases b
  · obtain ⟨its, r, p, z⟩ := Inv.list I h
    exact ⟨its, r, p.isList, z⟩
  · obtain ⟨its, r, p, z⟩ := Inv.tuple I h
    exact ⟨its, r, p, z⟩
theorem Inv.sq_inj (I : Inv X pins σ H s) (h : Sq X.K b H a xs) (h' : Sq X.K b H a ys) : xs = ys := by
  cases b
  · exact Inv.list_inj I h h'
  · exact Inv.tuple_inj I h h'
end

/-! ### enumerate -/
def ItE (K : PySem.W.Frag) (b : Bool) (a : Addr) : It :=
  ⟨fun i H => ∃ (xs : List V) (x : V), Sq K b H a xs ∧ xs[i]? = some x, fun i H v H' => ∃ T x o, v = .ref T ∧ H T = none ∧ o.dict = none ∧ H' = upd H T (.frz o (.tup [.int (i : Nat), x])) ∧ ∀ xs, Sq K b H a xs → xs[i]? = some x, fun i H => ∃ xs : List V, Sq K b H a xs ∧ xs.length ≤ i⟩
theorem turn_e {P : Program} {w : World} {K : PySem.W.Frag} {elts : List Expr} {kk : Nat} {tpos : Pos} {b : Bool} (a e it : Addr) (hae : a ≠ it) (ha : a ≠ e) :
    Turn P w K (.Tuple elts kk tpos) (ItE K b a) [e, it] e (fun i h => (∃ old, IsEnum h e it ((i : Nat) : Int) old) ∧ HIt b h it a i ∧ e ≠ it) where
  mem := by simp
  obj := fun i h st c hc => by
    obtain ⟨⟨old, he⟩, hi, _⟩ := st
    rcases List.mem_cons.mp hc with rfl | hc
    · exact ⟨_, he, fun v q => nomatch q⟩
    · rw [List.mem_singleton.mp hc]; exact hi.ob
  keep := fun i h h' st k => let ⟨⟨old, he⟩, hi, hne⟩ := st; ⟨⟨old, k e (by simp) _ he⟩, hi.at fun o q => k it (by simp) o q, hne⟩
  item := by
    intro X hP hw hK hc i pins s σ H E I hf st hg
    subst hP hw hK
    obtain ⟨⟨old, he⟩, hit, hne⟩ := st
    obtain ⟨xs, x, hq, hx⟩ := hg
    obtain ⟨its, rv, p, _⟩ := Inv.sq I hq
    obtain ⟨u, hu, ru⟩ := rv.get hx
    have hel : e < s.heap.objs.size := Heap.lt_size he
    have hil : it < s.heap.objs.size := by obtain ⟨_, q, _⟩ := hit.ob; exact Heap.lt_size q
    have hli : i < its.toArray.size := by
      have := (List.getElem?_eq_some_iff.mp hu).1
      simpa using this
    obtain ⟨n, P, St, D, st0, hn, _, hP, hSt⟩ := draw_at (prog := X.prog) (w := X.w) (A := X.A.in1) (by simp [I.ok.hd hc]) hae hit p
    refine wpAny_pyNext_enum_itemD D he st0 (hn hli) hne (by simp [hne, Ne.symm ha]) fun y h1 tk hy ho st1 hT hsz hk => ?_
    have ey : y = u := by
      have q := hP y hy
      rw [List.getElem?_toArray, hu] at q
      exact (Option.some.inj q).symm
    subst ey
    refine ⟨_, rfl, wpAny_letOwnedTupleGo_enum (s := { s with heap := h1, toks := tk + 1 }) ho fun h2 he' sb => ?_⟩
    have hT2 : h2.get? s.heap.objs.size = some { cls := .type "tuple", data := .seq #[.int i tk, y] } := (sb.2 _ (Nat.ne_of_gt hel)).trans hT
    have new : ObjOk X.prog X.w (upd H s.heap.objs.size (.frz (tob [.int i tk, y]) (.tup [.int (i : Nat), x]))) h2 s.heap.objs.size (.frz (tob [.int i tk, y]) (.tup [.int (i : Nat), x])) :=
      ⟨hT2, by show 2 ≤ sizeLine; decide, [.int i tk, y], .cons ⟨_, rfl⟩ (.cons ru .nil), ⟨_, hT2, rfl, _, rfl⟩⟩
    have I1 : Inv X pins σ (upd H s.heap.objs.size (.frz (tob [.int i tk, y]) (.tup [.int (i : Nat), x]))) { s with heap := h2, toks := tk + 1 } :=
      I.turnedNew (ch := [e, it]) (fun c o hb q => (sb.2 c (fun z => hb (by simp [z]))).trans (hk c o (fun z => hb (by simp [z])) (fun z => hb (by simp [z])) q)) hf (Nat.le_refl _) new
    refine ⟨.ref s.heap.objs.size, _, I1, rfl, ⟨_, x, _, rfl, I.hok.fresh (Nat.le_refl _), rfl, rfl, fun zs hz => by rw [Inv.sq_inj I hz hq]; exact hx⟩, ⟨⟨y, ?_⟩, (hSt _ st1).at fun o q => (sb.2 it (Ne.symm hne)).trans q, hne⟩, fun c hcm => ?_⟩
    · have e1 : ((i + 1 : Nat) : Int) = (i : Int) + 1 := by omega
      rw [e1]; exact he'
    · have hc' : c < s.heap.objs.size := by
        rcases List.mem_cons.mp hcm with rfl | hcm
        · exact hel
        · rw [List.mem_singleton.mp hcm]; exact hil
      rw [upd_ne (Nat.ne_of_lt hc')]
      exact (hf c hcm).1
  done := by
    intro X hP hw hK hc i pins s σ H E I hf st hg
    subst hP hw hK
    obtain ⟨⟨old, he⟩, hit, hne⟩ := st
    obtain ⟨xs, hq, hx⟩ := hg
    obtain ⟨its, rv, p, _⟩ := Inv.sq I hq
    obtain ⟨f0, f1, f2, f3, f4, f5⟩ := hf it (by simp)
    have hl := rv.length
    obtain ⟨n, P, St, D, st0, _, hn, _, _⟩ := draw_at (prog := X.prog) (w := X.w) (A := X.A.in1) (by simp [I.ok.hd hc]) hae hit p
    have en := hn (by rw [List.size_toArray]; omega)
    subst en
    exact wpAny_pyNext_enum_endD D he st0 fun h' eb => ⟨rfl, I.turned (t' := s.toks) (fun c o hb q => eb c o hb q) f0 f1 f3 f4 f5⟩
  self := fun A i s Q E st h => let ⟨⟨_, he⟩, _⟩ := st; wpAny_pyIter_enum he h
end DL
set_option Elab.async false
set_option linter.all false
set_option maxRecDepth 100000
set_option maxHeartbeats 4000000
/-! The D layer, part 11: enumerate(e), zip(e, f), zip(e, f, strict=False). -/
namespace DL
open PySem PySem.Spec PyProof.Rows L2

/-! ### the calls -/
/-- enumerate's own object over the iterator at a -/
abbrev enOb (a : Addr) : Obj := { cls := .type "enumerate", data := .fields #[.none, .bool false, .ref a, rawInt 0, .none, .none] }
theorem meets_en {v : Value} {o : Obj} {G : Heap → Prop} (B : Begins v o G) :
    Meets (Builtin.«enumerate.__new__» ⟨[.type "enumerate", v], []⟩) (fun _ R s => G s.heap ∧ R (.ok (.ret (.ref (s.heap.push o).objs.size))) { s with heap := (s.heap.push o).push (enOb s.heap.objs.size) }) :=
  .of_wp fun prog w A R s hyp => by
    obtain ⟨hp, gn, dr, tk, os⟩ := s
    obtain ⟨hv, hyp⟩ := hyp
    have hsub := sub_enumerate
    have start : ∀ {A' : Around} {E : Value → Shared → Prop} {Q : Value → Shared → Prop}, Q (.ref hp.objs.size) ⟨hp.push o, gn, dr, tk, os⟩ → wpAny (model prog w) A' (pyIter v) Q E ⟨hp, gn, dr, tk, os⟩ := fun q => B.iter prog w _ _ ⟨hp, gn, dr, tk, os⟩ _ hv q
    wp_walk using start
    refine wpAny_stack_any fun st => wpAny_pure ?_
    split
    · rename_i k _ _ _ _ _
      cases (k == Value.type "enumerate")
      · wp_walk using start
        exact ⟨_, rfl, hyp⟩
      · wp_walk using start
        exact ⟨_, rfl, hyp⟩
    · wp_walk using start
      exact ⟨_, rfl, hyp⟩
section
variable {prog : Program} {w : World} {A : Around} {E : Value → Shared → Prop} {s : Shared}
theorem call_en {v : Value} {o : Obj} {G : Heap → Prop} {Q : Value → Shared → Prop} (B : Begins v o G) (hv : G s.heap)
    (h : ∀ h', IsEnum h' (s.heap.objs.size + 1) s.heap.objs.size 0 .none → h'.get? s.heap.objs.size = some o → (∀ b o, s.heap.get? b = some o → h'.get? b = some o) → Q (.ref (s.heap.objs.size + 1)) { s with heap := h' }) :
    wpAny (model prog w) A (call (.type "enumerate") [v]) Q E s := by
  refine callType_new F.called_enumerate (by decide) (F.typeCall_enumerate_1 _) (F.newCall_enumerate_1 _) (fun obj => F.args_object_init_2 obj _) F.entry_enumerate_new (meets_en B) ⟨hv, ?_⟩
  have hz : (s.heap.push o).objs.size = s.heap.objs.size + 1 := Heap.size_push ..
  show _ ∧ _
  rw [hz]
  have he : IsEnum ((s.heap.push o).push (enOb s.heap.objs.size)) (s.heap.objs.size + 1) s.heap.objs.size 0 .none := by
    have q := Heap.get?_push_size (s.heap.push o) (o := enOb s.heap.objs.size) rfl
    rw [hz] at q
    exact q
  exact ⟨⟨_, he, rfl⟩, h _ he (Heap.get?_push_of_some _ (Heap.get?_push_size _ B.free)) fun b o x => Heap.get?_push_of_some _ (Heap.get?_push_of_some _ x)⟩
end
def tEn (K : PySem.W.Frag) (ta : TA) : TI := fun σ H R => ta σ H fun vs H1 => ∃ b a xs, vs = [.ref a] ∧ Sq K b H1 a xs ∧ R (ItE K b a) H1
theorem pi_en {X : Cx} {e : Expr} {ta : TA} {p pos tpos : Pos} {elts : List Expr} {kk : Nat} (hg : Gl X "enumerate") (hm : X.mg "enumerate" = none) (ha : PA X [e] ta) (hs : starEach [e] X.env = [(false, eval e X.env)] := by rfl) :
    PI X (.Tuple elts kk tpos) (.Call (.Name "enumerate" p) [e] [] pos) (tEn X.K ta) := by
  refine ⟨fun pins s σ H R I h => ?_⟩
  refine Call_ (ld_blt I hg hm boot_enumerate (PyProof.Rows.callWith_type1 (thn (ha.run pos pins s σ H _ I h) fun us s1 ⟨vs, H1, I1, r1, q1⟩ => ?_) hs rfl))
  obtain ⟨b, a, xs, ex, hq, q⟩ := q1
  subst ex
  cases r1 with
  | cons r rr =>
    cases rr
    cases r
    obtain ⟨its, rv, p', hz⟩ := Inv.sq I1 hq
    have hl := p'.lt
    refine call_en (begins_sq (b := b) (items := its.toArray)) p' fun h' he hit hk => wpAny_pyIter_enum he ?_
    have I2 : Inv X pins σ H1 { s1 with heap := h' } := I1.kept (t' := s1.toks) hk
    refine ⟨s1.heap.objs.size + 1, [s1.heap.objs.size + 1, s1.heap.objs.size], _, _, H1, rfl, I2, turn_e a (s1.heap.objs.size + 1) s1.heap.objs.size (Nat.ne_of_lt hl) (Nat.ne_of_lt (Nat.lt_succ_of_lt hl)), ⟨⟨.none, he⟩, .new hit, Nat.succ_ne_self _⟩, fun c hc => ?_, q⟩
    have hle : s1.heap.objs.size ≤ c := by
      rcases List.mem_cons.mp hc with rfl | hc
      · exact Nat.le_add_right _ _
      · rw [List.mem_singleton.mp hc]; exact Nat.le_refl _
    exact I1.fpOk hle (I1.hok.fresh hle)

/-! ### zip -/
def ItZ (K : PySem.W.Frag) (b c : Bool) (a d : Addr) : It :=
  ⟨fun i H => ∃ (xs ys : List V) (x y : V), Sq K b H a xs ∧ Sq K c H d ys ∧ xs[i]? = some x ∧ ys[i]? = some y,
    fun i H v H' => ∃ T x y o, v = .ref T ∧ H T = none ∧ o.dict = none ∧ H' = upd H T (.frz o (.tup [x, y])) ∧ (∀ xs, Sq K b H a xs → xs[i]? = some x) ∧ ∀ ys, Sq K c H d ys → ys[i]? = some y,
    fun i H => ∃ xs ys : List V, Sq K b H a xs ∧ Sq K c H d ys ∧ (xs.length ≤ i ∨ ys.length ≤ i)⟩
theorem turn_zz {P : Program} {w : World} {K : PySem.W.Frag} {elts : List Expr} {kk : Nat} {tpos : Pos} {b c : Bool} {a d z TI TO i1 i2 : Addr} (S : ZipSep2 z TI TO i1 i2 [i1, a] [i2, d]) (h1 : a ≠ i1) (h2 : d ≠ i2) :
    Turn P w K (.Tuple elts kk tpos) (ItZ K b c a d) [z, TI, TO, i1, i2] z (fun i h => IsZip h z TI TO .none ∧ IsTupOf2 h TI (.ref i1) (.ref i2) ∧ (∃ x y, IsTupOf2 h TO x y) ∧ HIt b h i1 a i ∧ HIt c h i2 d i) where
  mem := by simp
  obj := fun i h st q hq => by
    obtain ⟨hz, hTI, ⟨x, y, hTO⟩, g1, g2⟩ := st
    have e' : q = z ∨ q = TI ∨ q = TO ∨ q = i1 ∨ q = i2 := by simpa using hq
    rcases e' with rfl | rfl | rfl | rfl | rfl
    · exact ⟨_, hz, fun v q => nomatch q⟩
    · exact ⟨_, hTI, fun v q => nomatch q⟩
    · exact ⟨_, hTO, fun v q => nomatch q⟩
    · exact g1.ob
    · exact g2.ob
  keep := fun i h h' st k => by
    obtain ⟨hz, hTI, ⟨x, y, hTO⟩, g1, g2⟩ := st
    exact ⟨k z (by simp) _ hz, k TI (by simp) _ hTI, ⟨x, y, k TO (by simp) _ hTO⟩, g1.at fun o q => k i1 (by simp) o q, g2.at fun o q => k i2 (by simp) o q⟩
  item := by
    intro X hP hw hK hc i pins s σ H E I hf st hg
    subst hP hw hK
    obtain ⟨hz, hTI, ⟨x0, y0, hTO⟩, g1, g2⟩ := st
    obtain ⟨xs, ys, x, y, hqx, hqy, hx, hy⟩ := hg
    obtain ⟨its, rv, p, _⟩ := Inv.sq I hqx
    obtain ⟨its2, rv2, p2, _⟩ := Inv.sq I hqy
    obtain ⟨u, hu, ru⟩ := rv.get hx
    obtain ⟨u2, hu2, ru2⟩ := rv2.get hy
    have hzl : z < s.heap.objs.size := Heap.lt_size hz
    have l1 : i < its.toArray.size := by simpa using (List.getElem?_eq_some_iff.mp hu).1
    have l2 : i < its2.toArray.size := by simpa using (List.getElem?_eq_some_iff.mp hu2).1
    have hd : X.A.in1.handled = none := by simp [I.ok.hd hc]
    obtain ⟨n1, P1, St1, D1, st1, hn1, _, hP1, hS1⟩ := draw_at (prog := X.prog) (w := X.w) hd h1 g1 p
    obtain ⟨n2, P2, St2, D2, st2, hn2, _, hP2, hS2⟩ := draw_at (prog := X.prog) (w := X.w) hd h2 g2 p2
    refine wpAny_pyNext_zipD2_item S D1 D2 hz hTI hTO st1 st2 (hn1 l1) (hn2 l2) fun y1 y2 h' tk q1 q2 z' TO' s1' s2' hT hsz hk => ?_
    have e1 : y1 = u := by
      have q := hP1 y1 q1
      rw [List.getElem?_toArray, hu] at q
      exact (Option.some.inj q).symm
    have e2 : y2 = u2 := by
      have q := hP2 y2 q2
      rw [List.getElem?_toArray, hu2] at q
      exact (Option.some.inj q).symm
    subst e1 e2
    refine ⟨_, rfl, wpAny_letOwnedTupleGo_zip (s := { s with heap := h', toks := tk }) z' fun h'' z'' sb => ?_⟩
    have hT2 : h''.get? s.heap.objs.size = some { cls := .type "tuple", data := .seq #[y1, y2] } := (sb.2 _ (Nat.ne_of_gt hzl)).trans hT
    have new : ObjOk X.prog X.w (upd H s.heap.objs.size (.frz (tob [y1, y2]) (.tup [x, y]))) h'' s.heap.objs.size (.frz (tob [y1, y2]) (.tup [x, y])) :=
      ⟨hT2, by show 2 ≤ sizeLine; decide, [y1, y2], .cons ru (.cons ru2 .nil), ⟨_, hT2, rfl, _, rfl⟩⟩
    have I1 : Inv X pins σ (upd H s.heap.objs.size (.frz (tob [y1, y2]) (.tup [x, y]))) { s with heap := h'', toks := tk } :=
      I.turnedNew (t' := tk) (ch := [z, TI, TO, i1, i2]) (fun c o hb q => (sb.2 c (fun q' => hb (by simp [q']))).trans (hk c o (fun q' => hb (by simp [q'])) (fun q' => hb (by simp [q'])) (fun q' => hb (by simp [q'])) (fun q' => hb (by simp [q'])) q)) hf (Nat.le_refl _) new
    refine ⟨.ref s.heap.objs.size, _, I1, rfl, ⟨_, x, y, _, rfl, I.hok.fresh (Nat.le_refl _), rfl, rfl, fun l hl => by rw [Inv.sq_inj I hl hqx]; exact hx, fun l hl => by rw [Inv.sq_inj I hl hqy]; exact hy⟩, ⟨z'', ?_, ⟨y1, y2, ?_⟩, ?_, ?_⟩, fun q hq => ?_⟩
    · exact (sb.2 _ S.TIz).trans (hk _ _ S.TIz S.TITO S.TIi1 S.TIi2 hTI)
    · exact (sb.2 _ S.TOz).trans TO'
    · exact (hS1 _ s1').at fun o q => (sb.2 _ (Ne.symm S.zi1)).trans q
    · exact (hS2 _ s2').at fun o q => (sb.2 _ (Ne.symm S.zi2)).trans q
    · have hlt : q < s.heap.objs.size := by
        have e' : q = z ∨ q = TI ∨ q = TO ∨ q = i1 ∨ q = i2 := by simpa using hq
        rcases e' with rfl | rfl | rfl | rfl | rfl
        · exact hzl
        · exact Heap.lt_size hTI
        · exact Heap.lt_size hTO
        · obtain ⟨_, e, _⟩ := g1.ob; exact Heap.lt_size e
        · obtain ⟨_, e, _⟩ := g2.ob; exact Heap.lt_size e
      rw [upd_ne (Nat.ne_of_lt hlt)]
      exact (hf q hq).1
  done := by
    intro X hP hw hK hc i pins s σ H E I hf st hg
    subst hP hw hK
    obtain ⟨hz, hTI, ⟨x0, y0, hTO⟩, g1, g2⟩ := st
    obtain ⟨xs, ys, hqx, hqy, hend⟩ := hg
    obtain ⟨its, rv, p, _⟩ := Inv.sq I hqx
    obtain ⟨its2, rv2, p2, _⟩ := Inv.sq I hqy
    have l1 := rv.length
    have l2 := rv2.length
    have hd : X.A.in1.handled = none := by simp [I.ok.hd hc]
    obtain ⟨n1, P1, St1, D1, st1, hn1, he1, hP1, hS1⟩ := draw_at (prog := X.prog) (w := X.w) hd h1 g1 p
    obtain ⟨n2, P2, St2, D2, st2, hn2, he2, hP2, hS2⟩ := draw_at (prog := X.prog) (w := X.w) hd h2 g2 p2
    have s1 : its.toArray.size = xs.length := by rw [List.size_toArray]; exact l1.symm
    have s2 : its2.toArray.size = ys.length := by rw [List.size_toArray]; exact l2.symm
    have t1 : i ≤ n1 := by
      by_cases h : i < its.toArray.size
      · exact Nat.le_of_lt (hn1 h)
      · exact Nat.le_of_eq (he1 (by omega)).symm
    have t2 : i ≤ n2 := by
      by_cases h : i < its2.toArray.size
      · exact Nat.le_of_lt (hn2 h)
      · exact Nat.le_of_eq (he2 (by omega)).symm
    have t3 : i = n1 ∨ i = n2 := by
      rcases hend with q | q
      · exact .inl (he1 (by omega)).symm
      · exact .inr (he2 (by omega)).symm
    refine wpAny_pyNext_zipD2_end S D1 D2 hz hTI hTO st1 st2 t1 t2 t3 fun h' tk hk => ⟨rfl, ?_⟩
    have h0 := I.turnedL (t' := tk) (ch := [z, TI, TO, i1, i2]) (h' := h') (fun c o hb q => hk c o (fun q' => hb (by simp [q'])) (fun q' => hb (by simp [q'])) (fun q' => hb (by simp [q'])) (fun q' => hb (by simp [q'])) q) hf
    exact h0
  self := fun A i s Q E st h => wpAny_pyIter_zip st.1 h
end DL
set_option Elab.async false
set_option linter.all false
set_option maxRecDepth 100000
set_option maxHeartbeats 4000000
/-! The D layer, part 12: loops over enumerate and zip. -/
namespace DL
open PySem PySem.Spec PyProof.Rows L2

theorem zip_started {X : Cx} {pins : List (Addr × Obj)} {σ : L2.St} {H1 : Hp} {s1 : Shared} {elts : List Expr} {kk : Nat} {tpos : Pos} {b c : Bool} {a d : Addr} {xs ys : List V} {R : It → Hp → Prop} (I1 : Inv X pins σ H1 s1) (hx : Sq X.K b H1 a xs) (hy : Sq X.K c H1 d ys) (q : R (ItZ X.K b c a d) H1)
    {h' : Heap} (hz : IsZip h' (s1.heap.objs.size + 4) (s1.heap.objs.size + 2) (s1.heap.objs.size + 3) .none) (hTI : IsTupOf2 h' (s1.heap.objs.size + 2) (.ref s1.heap.objs.size) (.ref (s1.heap.objs.size + 1))) (hTO : IsTupOf2 h' (s1.heap.objs.size + 3) .none .none)
    (g1 : h'.get? s1.heap.objs.size = some (itOb b a)) (g2 : h'.get? (s1.heap.objs.size + 1) = some (itOb c d)) (hk : ∀ e o, s1.heap.get? e = some o → h'.get? e = some o) :
    wpAny (model X.prog X.w) X.A (pyIter (.ref (s1.heap.objs.size + 4))) (PIE X pins σ (.Tuple elts kk tpos) R) X.xe { s1 with heap := h' } := by
  obtain ⟨its, _, p1, _⟩ := Inv.sq I1 hx
  obtain ⟨its2, _, p2, _⟩ := Inv.sq I1 hy
  have l1 : a < s1.heap.objs.size := p1.lt
  have l2 : d < s1.heap.objs.size := p2.lt
  refine wpAny_pyIter_zip hz ?_
  have I2 : Inv X pins σ H1 { s1 with heap := h' } := I1.kept (t' := s1.toks) hk
  refine ⟨s1.heap.objs.size + 4, [s1.heap.objs.size + 4, s1.heap.objs.size + 2, s1.heap.objs.size + 3, s1.heap.objs.size, s1.heap.objs.size + 1], _, _, H1, rfl, I2,
    turn_zz (zip_sep2 (N := s1.heap.objs.size) (fp1 := [a]) (fp2 := [d]) (by simpa using l1) (by simpa using l2)) (Nat.ne_of_lt l1) (Nat.ne_of_lt (Nat.lt_succ_of_lt l2)), ⟨hz, hTI, ⟨_, _, hTO⟩, .new g1, .new g2⟩, fun q hq => ?_, q⟩
  have e' : q = s1.heap.objs.size + 4 ∨ q = s1.heap.objs.size + 2 ∨ q = s1.heap.objs.size + 3 ∨ q = s1.heap.objs.size ∨ q = s1.heap.objs.size + 1 := by simpa using hq
  have hle : s1.heap.objs.size ≤ q := by
    rcases e' with z | z | z | z | z
    · rw [z]; exact Nat.le_add_right _ _
    · rw [z]; exact Nat.le_add_right _ _
    · rw [z]; exact Nat.le_add_right _ _
    · rw [z]; exact Nat.le_refl _
    · rw [z]; exact Nat.le_add_right _ _
  exact I1.fpOk hle (I1.hok.fresh hle)
def tZz (K : PySem.W.Frag) (ta : TA) : TI := fun σ H R => ta σ H fun vs H1 => ∃ b c a d xs ys, vs = [.ref a, .ref d] ∧ Sq K b H1 a xs ∧ Sq K c H1 d ys ∧ R (ItZ K b c a d) H1
theorem pi_zz {X : Cx} {e e2 : Expr} {ta : TA} {p pos tpos : Pos} {elts : List Expr} {kk : Nat} (hg : Gl X "zip") (hm : X.mg "zip" = none) (ha : PA X [e, e2] ta)
    (hs : starEach [e, e2] X.env = (false, eval e X.env) :: starEach [e2] X.env := by rfl) (hpl : (backTo pos (starEach [e2] X.env)).any (·.1) = false := by rfl) :
    PI X (.Tuple elts kk tpos) (.Call (.Name "zip" p) [e, e2] [] pos) (tZz X.K ta) := by
  refine ⟨fun pins s σ H R I h => ?_⟩
  refine Call_ (ld_blt I hg hm PyProof.Rows.boot_zip (PyProof.Rows.callWith_type1 (thn (ha.run pos pins s σ H _ I h) fun us s1 ⟨vs, H1, I1, r1, q1⟩ => ?_) hs hpl))
  obtain ⟨b, c, a, d, xs, ys, ex, hx, hy, q⟩ := q1
  subst ex
  cases r1 with
  | cons r rr =>
    cases rr with
    | cons r' rr =>
      cases rr
      cases r
      cases r'
      obtain ⟨its, _, p1, _⟩ := Inv.sq I1 hx
      obtain ⟨its2, _, p2, _⟩ := Inv.sq I1 hy
      exact zip_begins2 (begins_sq (b := b) (items := its.toArray)) (begins_sq (b := c) (items := its2.toArray)) p1 p2 fun h' hz hTI hTO g1 g2 _ hk => zip_started I1 hx hy q hz hTI hTO g1 g2 hk

/-! ### strict=False -/
theorem typeCall_zipK (a b c : Value) : checkTypeCall "zip" ⟨[a, b], [(Str.ofString "strict", c)]⟩ = pure () := by kernel_rfl
theorem newCall_zipK (a b c : Value) : checkBuiltinCall "zip.__new__" ⟨[.type "zip", a, b], [(Str.ofString "strict", c)]⟩ = pure () := by kernel_rfl
theorem argsInit_zipK (o a b c : Value) : argsOk "object.__init__" ⟨[o, a, b], [(Str.ofString "strict", c)]⟩ := by unfold argsOk; kernel_rfl
abbrev zkH (st : Bool) (h : Heap) (o1 o2 : Obj) : Heap := (gzO2 h o1 o2).push { cls := .type "zip", data := .fields #[.none, .bool false, .bool st, .ref ((h.push o1).push o2).objs.size, .ref (gzT2 h o1 o2).objs.size] }
theorem meets_zk (st : Bool) {v1 v2 : Value} {o1 o2 : Obj} {G1 G2 : Heap → Prop} (B1 : Begins v1 o1 G1) (B2 : Begins v2 o2 G2) :
    Meets (Builtin.«zip.__new__» ⟨[.type "zip", v1, v2], [(Str.ofString "strict", .bool st)]⟩) (fun _ R s => (G1 s.heap ∧ G2 s.heap) ∧ R (.ok (.ret (.ref (gzO2 s.heap o1 o2).objs.size))) { s with heap := zkH st s.heap o1 o2 }) :=
  .of_wp fun prog w A R s hyp => by
    obtain ⟨hp, gn, dr, tk, os⟩ := s
    obtain ⟨⟨c1, c2⟩, hyp⟩ := hyp
    have hsub := sub_zip
    have j1 : ∀ {A' : Around} {E : Value → Shared → Prop} {Q : Value → Shared → Prop}, Q (.ref hp.objs.size) ⟨hp.push o1, gn, dr, tk, os⟩ → wpAny (model prog w) A' (pyIter v1) Q E ⟨hp, gn, dr, tk, os⟩ := fun q => B1.iter prog w _ _ ⟨hp, gn, dr, tk, os⟩ _ c1 q
    have j2 : ∀ {A' : Around} {E : Value → Shared → Prop} {Q : Value → Shared → Prop}, Q (.ref (hp.push o1).objs.size) ⟨(hp.push o1).push o2, gn, dr, tk, os⟩ → wpAny (model prog w) A' (pyIter v2) Q E ⟨hp.push o1, gn, dr, tk, os⟩ :=
      fun q => B2.iter prog w _ _ ⟨hp.push o1, gn, dr, tk, os⟩ _ (B2.keeps _ _ c2 fun b o' e => Heap.get?_push_of_some _ e) q
    have e1 : (Str.ofString "strict" != ("strict" : Str)) = false := by decide +kernel
    wp_walk using j1, j2
    exact ⟨_, rfl, hyp⟩
end DL
set_option Elab.async false
set_option linter.all false
set_option maxRecDepth 100000
set_option maxHeartbeats 4000000
namespace DL
open PySem PySem.Spec PyProof.Rows L2
section
variable {M : Model} {A : Around} {E : Value → Shared → Prop} {s : Shared} {env : Env}
/-- a built-in class called with keywords -/
theorem callWith_tyK {pos : Pos} {T : String} {e : Expr} {rest : List Expr} {kws : List Keyword} {Q : Value → Shared → Prop}
    (h : wpAny M A (spliced (backTo pos (starEach (e :: rest) env))) (fun vs t1 => wpAny M A (evalAll ((backToKw pos (keywordEach kws env)).map (·.2))) (fun ks t2 => wpAny M A (call (.type T) vs (((backToKw pos (keywordEach kws env)).filterMap (·.1)).zip ks)) Q E t2) E t1) E s)
    (he : backTo pos (starEach (e :: rest) env) = (false, eval e env) :: backTo pos (starEach rest env) := by rfl) (hpl : (backTo pos (starEach (e :: rest) env)).any (·.1) = false := by rfl)
    (hall : (backToKw pos (keywordEach kws env)).all (·.1.isSome) = true := by rfl) (hno : (backToKw pos (keywordEach kws env)).any (·.1.isNone) = false := by rfl) :
    wpAny M A (callWith pos (.type T) [] (backTo pos (starEach (e :: rest) env)) (backToKw pos (keywordEach kws env))) Q E s := by
  have g : wpAny M A (evalArgs (.type T) true (backTo pos (starEach (e :: rest) env)) (backToKw pos (keywordEach kws env))) (fun a t1 => wpAny M A (call (.type T) ([] ++ a.pos) a.kw) Q E t1) E s := by
    rw [he] at h ⊢
    exact evalArgs_kwB hall h
  unfold callWith
  refine wpAny_bind (wpAny_holding (wpAny_mono g (fun a t1 k => wpAny_bind (wpAny_standAt ?_)) fun _ _ x => x))
  simp only [hpl, hno, Bool.or_false]
  refine wpAny_bind (wpAny_pure ?_)
  exact wpAny_bind (wpAny_mono k (fun r t2 hr => wpAny_bind (wpAny_holding (wpAny_point (wpAny_pure hr)))) fun _ _ x => x)
theorem CallKw_ {func : Expr} {args : List Expr} {kws : List Keyword} {pos : Pos} {Q : Value → Shared → Prop} (h : wpAny M A (eval func env) (fun f t1 => wpAny M A (callWith pos f [] (backTo pos (starEach args env)) (backToKw pos (keywordEach kws env))) Q E t1) E s)
    (he : eval (.Call func args kws pos) env = (do callWith pos (← eval func env) [] (backTo pos (starEach args env)) (backToKw pos (keywordEach kws env))) := by rfl) : wpAny M A (eval (.Call func args kws pos) env) Q E s := by
  rw [he]
  exact wpAny_bind h
end
section
variable {prog : Program} {w : World} {A : Around} {E : Value → Shared → Prop} {s : Shared}
theorem call_zk (st : Bool) {v1 v2 : Value} {o1 o2 : Obj} {G1 G2 : Heap → Prop} {Q : Value → Shared → Prop} (B1 : Begins v1 o1 G1) (B2 : Begins v2 o2 G2) (c1 : G1 s.heap) (c2 : G2 s.heap)
    (h : ∀ h', h'.get? (s.heap.objs.size + 4) = some { cls := .type "zip", dict := none, data := .fields #[.none, .bool false, .bool st, .ref (s.heap.objs.size + 2), .ref (s.heap.objs.size + 3)], slots := #[] } →
      IsTupOf2 h' (s.heap.objs.size + 2) (.ref s.heap.objs.size) (.ref (s.heap.objs.size + 1)) → IsTupOf2 h' (s.heap.objs.size + 3) .none .none → h'.get? s.heap.objs.size = some o1 → h'.get? (s.heap.objs.size + 1) = some o2 →
      (∀ c o, s.heap.get? c = some o → h'.get? c = some o) → Q (.ref (s.heap.objs.size + 4)) { s with heap := h' }) :
    wpAny (model prog w) A (call (.type "zip") [v1, v2] [(Str.ofString "strict", .bool st)]) Q E s := by
  refine callType_newKw F.called_zip (by decide) (typeCall_zipK _ _ _) (newCall_zipK _ _ _) (fun obj => argsInit_zipK obj _ _ _) F.entry_zip_new (meets_zk st B1 B2) ⟨⟨c1, c2⟩, ?_⟩
  have n1 : (s.heap.push o1).objs.size = s.heap.objs.size + 1 := by rw [Heap.size_push]
  have n2 : ((s.heap.push o1).push o2).objs.size = s.heap.objs.size + 2 := by rw [Heap.size_push, n1]
  have nT : (gzT2 s.heap o1 o2).objs.size = s.heap.objs.size + 3 := by rw [Heap.size_push, n2]
  have nO : (gzO2 s.heap o1 o2).objs.size = s.heap.objs.size + 4 := by rw [Heap.size_push, nT]
  have kZ : (zkH st s.heap o1 o2).get? (gzO2 s.heap o1 o2).objs.size = some { cls := .type "zip", data := .fields #[.none, .bool false, .bool st, .ref ((s.heap.push o1).push o2).objs.size, .ref (gzT2 s.heap o1 o2).objs.size] } := Heap.get?_push_size _ rfl
  have kO : (zkH st s.heap o1 o2).get? (gzT2 s.heap o1 o2).objs.size = some { cls := .type "tuple", data := .seq #[.none, .none] } := Heap.get?_push_of_some _ (Heap.get?_push_size _ rfl)
  have kT : (zkH st s.heap o1 o2).get? ((s.heap.push o1).push o2).objs.size = some { cls := .type "tuple", data := .seq #[.ref s.heap.objs.size, .ref (s.heap.push o1).objs.size] } := Heap.get?_push_of_some _ (Heap.get?_push_of_some _ (Heap.get?_push_size _ rfl))
  have k1 : (zkH st s.heap o1 o2).get? s.heap.objs.size = some o1 := Heap.get?_push_of_some _ (Heap.get?_push_of_some _ (Heap.get?_push_of_some _ (Heap.get?_push_of_some _ (Heap.get?_push_size _ B1.free))))
  have k2 : (zkH st s.heap o1 o2).get? (s.heap.push o1).objs.size = some o2 := Heap.get?_push_of_some _ (Heap.get?_push_of_some _ (Heap.get?_push_of_some _ (Heap.get?_push_size _ B2.free)))
  rw [nO, nT, n2] at kZ
  rw [nT] at kO
  rw [n2, n1] at kT
  rw [n1] at k2
  show _ ∧ _
  rw [nO]
  exact ⟨⟨_, kZ, rfl⟩, h _ kZ kT kO k1 k2 fun c o e => Heap.get?_push_of_some _ (Heap.get?_push_of_some _ (Heap.get?_push_of_some _ (Heap.get?_push_of_some _ (Heap.get?_push_of_some _ e))))⟩
end
theorem pi_zk0 {X : Cx} {e e2 : Expr} {ta : TA} {p pos tpos kp cp : Pos} {j} {elts : List Expr} {kk : Nat} (hg : Gl X "zip") (hm : X.mg "zip" = none) (ha : PA X [e, e2] ta)
    (he : backTo pos (starEach [e, e2] X.env) = (false, eval e X.env) :: backTo pos (starEach [e2] X.env) := by rfl) (hpl : (backTo pos (starEach [e, e2] X.env)).any (·.1) = false := by rfl) :
    PI X (.Tuple elts kk tpos) (.Call (.Name "zip" p) [e, e2] [⟨some (Str.ofString "strict"), .Constant (.bool false) j cp, kp⟩] pos) (tZz X.K ta) := by
  refine ⟨fun pins s σ H R I h => ?_⟩
  refine CallKw_ (ld_blt I hg hm PyProof.Rows.boot_zip (callWith_tyK (thn (ha.run pos pins s σ H _ I h) fun us s1 ⟨vs, H1, I1, r1, q1⟩ => ?_) he hpl))
  refine kws_cons (thn ((pe_bl (X := X) (b := false) (j := j) (pos := cp)).run pins s1 σ H1 (fun v H2 => v = .bl false ∧ H2 = H1) I1 ⟨rfl, rfl⟩) fun u s2 ⟨v, H2, I2, r2, e1, e2⟩ => kws_nil ?_)
  subst e1 e2
  cases r2
  obtain ⟨b, c, a, d, xs, ys, ex, hx, hy, q⟩ := q1
  subst ex
  cases r1 with
  | cons r rr =>
    cases rr with
    | cons r' rr =>
      cases rr
      cases r
      cases r'
      obtain ⟨its, _, p1, _⟩ := Inv.sq I2 hx
      obtain ⟨its2, _, p2, _⟩ := Inv.sq I2 hy
      show wpAny _ _ (call (.type "zip") [.ref a, .ref d] [(Str.ofString "strict", .bool false)]) _ _ _
      exact call_zk false (begins_sq (b := b) (items := its.toArray)) (begins_sq (b := c) (items := its2.toArray)) p1 p2 fun h' hz hTI hTO g1 g2 hk => zip_started I2 hx hy q hz hTI hTO g1 g2 hk
end DL
set_option Elab.async false
set_option linter.all false
set_option maxRecDepth 100000
set_option maxHeartbeats 4000000
/-! The D layer, part 13: what enumerate and zip give. -/
namespace DL
open PySem PySem.Spec PyProof.Rows L2

def isTp : Val → Bool
  | .tup _ => true
  | _ => false
section
variable {K : PySem.W.Frag} {mg : MG} {φ φ1 : Own} {H H1 : Hp} {S S1 : Store}
theorem sq_of (r : RelS K mg φ S H) {x : Val} {v : V} {xs : List Val} (q : RV K mg φ H x v) (h : seqAt S x = some xs) : ∃ a ys, v = .ref a ∧ Sq K (isTp x) H a ys ∧ RVs K mg φ H xs ys := by
  have lst : isTp x = false → listAt S x = some xs → ∃ a ys, v = .ref a ∧ Sq K (isTp x) H a ys ∧ RVs K mg φ H xs ys := fun e h => by
    obtain ⟨a, ys, e1, q1, q2⟩ := listAt_ok r q h
    exact ⟨a, ys, e1, by rw [e]; exact q1, q2⟩
  cases x with
  | tup zs =>
    cases q with
    | tup ha rr =>
      cases h
      exact ⟨_, _, rfl, ha.sq, rr⟩
  | _ => exact lst rfl h
/-- the same place at a later time -/
theorem sq_at (r1 : RelS K mg φ1 S1 H1) {x : Val} {a : Addr} {xs : List Val} (q : RV K mg φ1 H1 x (.ref a)) (h : seqAt S1 x = some xs) : ∃ ys, Sq K (isTp x) H1 a ys ∧ RVs K mg φ1 H1 xs ys := by
  obtain ⟨a', ys, e, q1, q2⟩ := sq_of r1 q h
  cases e
  exact ⟨ys, q1, q2⟩
end
def enumV (xs : List Val) : List Val := xs.zipIdx.map fun p => .tup [.int (p.2 : Nat), p.1]
def dEnumI (d : AD) : ID := fun ρ S => bindO (d ρ S) fun vs S1 => match vs with
  | [x] => match seqAt S1 x with
    | some xs => some (.ok ⟨enumV xs, fun S2 => seqAt S2 x = some xs⟩, S1)
    | none => none
  | _ => none
def zipV (xs ys : List Val) : List Val := (xs.zip ys).map fun p => .tup [p.1, p.2]
def dZipI (d : AD) : ID := fun ρ S => bindO (d ρ S) fun vs S1 => match vs with
  | [x, y] => match seqAt S1 x, seqAt S1 y with
    | some xs, some ys => some (.ok ⟨zipV xs ys, fun S2 => seqAt S2 x = some xs ∧ seqAt S2 y = some ys⟩, S1)
    | _, _ => none
  | _ => none
theorem enumV_get {xs : List Val} {i : Nat} {z : Val} (h : (enumV xs)[i]? = some z) : ∃ x, xs[i]? = some x ∧ z = .tup [.int (i : Nat), x] := by
  unfold enumV at h
  rw [List.getElem?_map, List.getElem?_zipIdx] at h
  cases e : xs[i]? with
  | none => rw [e] at h; cases h
  | some x => rw [e] at h; cases h; exact ⟨x, rfl, by simp⟩
theorem enumV_length (xs : List Val) : (enumV xs).length = xs.length := by simp [enumV]
theorem zipV_get {xs ys : List Val} {i : Nat} {z : Val} (h : (zipV xs ys)[i]? = some z) : ∃ x y, xs[i]? = some x ∧ ys[i]? = some y ∧ z = .tup [x, y] := by
  unfold zipV at h
  rw [List.getElem?_map] at h
  cases e : (xs.zip ys)[i]? with
  | none => rw [e] at h; cases h
  | some p =>
    rw [e] at h
    cases h
    obtain ⟨h1, h2⟩ := List.getElem?_zip_eq_some.mp e
    exact ⟨p.1, p.2, h1, h2, rfl⟩
theorem zipV_length (xs ys : List Val) : (zipV xs ys).length = min xs.length ys.length := by simp [zipV]
section
variable {X : Cx} {W : WX} {e e2 : Expr} {p pos tpos kp cp : Pos} {j} {elts : List Expr} {kk : Nat} {d : AD}
theorem t_enum {K : PySem.W.Frag} {mg : MG} (σ : L2.St) (H : Hp) (Q : It → Hp → Prop) (h : tD K mg (RI K mg) W (dEnumI d) σ H Q) : tEn K (tD K mg (RVs K mg) W d) σ H Q := by
  obtain ⟨φ, ρ, S, res, S', a, h, fin⟩ := h
  refine tD_bind a h fin fun vs S1 φ1 H1 us s a1 rv h1 f1 => ?_
  cases rv with
  | nil => cases h1
  | cons r rr =>
    cases rr with
    | cons _ _ => cases h1
    | nil =>
      rename_i x v
      simp only at h1
      cases e : seqAt S1 x with
      | none => rw [e] at h1; cases h1
      | some xs =>
        rw [e] at h1
        cases h1
        obtain ⟨q, ys, rfl, hq, rq⟩ := sq_of a1.rel r e
        refine ⟨isTp x, q, ys, rfl, hq, f1 φ1 H1 _ .refl a1.rel fun φ2 S2 H2 s2 r2 hk i => ?_⟩
        obtain ⟨ys2, h3, h4⟩ := sq_at r2 (r.fwd s2) hk
        refine ⟨fun z hz => ?_, fun hl => ⟨ys2, h3, by rw [← h4.length]; rw [enumV_length] at hl; exact hl⟩⟩
        obtain ⟨x1, hx, rfl⟩ := enumV_get hz
        obtain ⟨w, hw, rw'⟩ := h4.get hx
        refine ⟨⟨ys2, w, h3, hw⟩, fun v' H' ⟨T, x2, o, e1, e2, eo, e3, y⟩ => ?_⟩
        subst e1 e3
        have ew := y ys2 h3
        rw [hw] at ew
        cases ew
        obtain ⟨s3, r3, rv3⟩ := new_tup r2 e2 eo (.cons .int (.cons rw' .nil))
        exact ⟨φ2, s3, r3, rv3⟩
theorem t_zip {K : PySem.W.Frag} {mg : MG} (σ : L2.St) (H : Hp) (Q : It → Hp → Prop) (h : tD K mg (RI K mg) W (dZipI d) σ H Q) : tZz K (tD K mg (RVs K mg) W d) σ H Q := by
  obtain ⟨φ, ρ, S, res, S', a, h, fin⟩ := h
  refine tD_bind a h fin fun vs S1 φ1 H1 us s a1 rv h1 f1 => ?_
  cases rv with
  | nil => cases h1
  | cons ra rr =>
    cases rr with
    | nil => cases h1
    | cons rb rr =>
      cases rr with
      | cons _ _ => cases h1
      | nil =>
        rename_i x v y u
        simp only at h1
        cases e : seqAt S1 x with
        | none => rw [e] at h1; cases h1
        | some xs =>
          cases e2 : seqAt S1 y with
          | none => rw [e, e2] at h1; cases h1
          | some ys =>
            rw [e, e2] at h1
            cases h1
            obtain ⟨qa, us, rfl, hqa, rqa⟩ := sq_of a1.rel ra e
            obtain ⟨qb, ws, rfl, hqb, rqb⟩ := sq_of a1.rel rb e2
            refine ⟨isTp x, isTp y, qa, qb, us, ws, rfl, hqa, hqb, f1 φ1 H1 _ .refl a1.rel fun φ2 S2 H2 s2 r2 hk i => ?_⟩
            obtain ⟨us2, h3, h4⟩ := sq_at r2 (ra.fwd s2) hk.1
            obtain ⟨ws2, h5, h6⟩ := sq_at r2 (rb.fwd s2) hk.2
            refine ⟨fun z hz => ?_, fun hl => ⟨us2, ws2, h3, h5, ?_⟩⟩
            · obtain ⟨x1, y1, hx, hy, rfl⟩ := zipV_get hz
              obtain ⟨w1, hw1, rw1⟩ := h4.get hx
              obtain ⟨w2, hw2, rw2⟩ := h6.get hy
              refine ⟨⟨us2, ws2, w1, w2, h3, h5, hw1, hw2⟩, fun v' H' ⟨T, x2, y2, o, e1, e2, eo, e3, g1, g2⟩ => ?_⟩
              subst e1 e3
              have ew := g1 us2 h3
              rw [hw1] at ew
              cases ew
              have ew := g2 ws2 h5
              rw [hw2] at ew
              cases ew
              obtain ⟨s3, r3, rv3⟩ := new_tup r2 e2 eo (.cons rw1 (.cons rw2 .nil))
              exact ⟨φ2, s3, r3, rv3⟩
            · have l1 := h4.length
              have l2 := h6.length
              rw [zipV_length] at hl
              omega
theorem di_enum (hg : Gl X "enumerate") (hm : X.mg "enumerate" = none) (h : DA X W [e] d) (hs : starEach [e] X.env = [(false, eval e X.env)] := by rfl) : DI X W (.Tuple elts kk tpos) (.Call (.Name "enumerate" p) [e] [] pos) (dEnumI d) := PI.imp (pi_en hg hm h hs) t_enum
theorem di_zip (hg : Gl X "zip") (hm : X.mg "zip" = none) (h : DA X W [e, e2] d) (hs : starEach [e, e2] X.env = (false, eval e X.env) :: starEach [e2] X.env := by rfl) (hpl : (backTo pos (starEach [e2] X.env)).any (·.1) = false := by rfl) :
    DI X W (.Tuple elts kk tpos) (.Call (.Name "zip" p) [e, e2] [] pos) (dZipI d) := PI.imp (pi_zz hg hm h hs hpl) t_zip
theorem di_zip0 (hg : Gl X "zip") (hm : X.mg "zip" = none) (h : DA X W [e, e2] d) (he : backTo pos (starEach [e, e2] X.env) = (false, eval e X.env) :: backTo pos (starEach [e2] X.env) := by rfl) (hpl : (backTo pos (starEach [e, e2] X.env)).any (·.1) = false := by rfl) :
    DI X W (.Tuple elts kk tpos) (.Call (.Name "zip" p) [e, e2] [⟨some (Str.ofString "strict"), .Constant (.bool false) j cp, kp⟩] pos) (dZipI d) := PI.imp (pi_zk0 hg hm h he hpl) t_zip
end
end DL
set_option Elab.async false
set_option linter.all false
set_option maxRecDepth 100000
set_option maxHeartbeats 4000000
/-! The D layer, part 14: one-sided operators, powers, dicts read, sorted, index, a text's letters. -/
namespace DL
open PySem PySem.Spec PyProof.Rows L2

/-! ### one or the other reading -/
def dAlt {α : Type} (d e : Slots → Store → Out α) : Slots → Store → Out α := fun ρ S => match d ρ S with
  | none => e ρ S
  | o => o
theorem tD_alt {α β : Type} {K : PySem.W.Frag} {mg : MG} {R : Rl α β} {W : WX} {d e : Slots → Store → Out α} {σ : L2.St} {H : Hp} {Q : β → Hp → Prop} (h : tD K mg R W (dAlt d e) σ H Q) : tD K mg R W d σ H Q ∨ tD K mg R W e σ H Q := by
  obtain ⟨φ, ρ, S, r, S', a, h, fin⟩ := h
  unfold dAlt at h
  cases e1 : d ρ S with
  | none => rw [e1] at h; exact .inr ⟨φ, ρ, S, r, S', a, h, fin⟩
  | some p => rw [e1] at h; exact .inl ⟨φ, ρ, S, r, S', a, by rw [e1]; exact h, fin⟩
theorem de_alt {X : Cx} {W : WX} {e : Expr} {d1 d2 : ED} (h1 : DE X W e d1) (h2 : DE X W e d2) : DE X W e (dAlt d1 d2) := ⟨fun pins s σ H Q I h => (tD_alt h).elim (fun h => h1.run pins s σ H Q I h) fun h => h2.run pins s σ H Q I h⟩
theorem di_alt {X : Cx} {W : WX} {tg e : Expr} {d1 d2 : ID} (h1 : DI X W tg e d1) (h2 : DI X W tg e d2) : DI X W tg e (dAlt d1 d2) := ⟨fun pins s σ H Q I h => (tD_alt h).elim (fun h => h1.run pins s σ H Q I h) fun h => h2.run pins s σ H Q I h⟩

/-! ### -x, x ** y -/
def dUn (f : Val → Option Val) (d : ED) : ED := fun ρ S => bindO (d ρ S) fun x S1 => ofO (f x) S1
def negF : Val → Option Val
  | .int i => some (.int (-i))
  | _ => none
theorem de_neg {X : Cx} {W : WX} {a : Expr} {pos : Pos} {d : ED} (h : DE X W a d) : DE X W (.UnaryOp .USub a pos) (dUn negF d) := PE.imp (pe_un un_neg h) fun σ H Q ⟨φ, ρ, S, res, S', a, h, fin⟩ => by
  refine tD_bind a h fin fun x S1 φ1 H1 v s a1 rv h1 f1 => ?_
  obtain ⟨z, e, rfl, rfl⟩ := ofO_inj h1
  cases rv <;> cases e
  exact ⟨_, rfl, f1.now a1.rel .int⟩
def powF : F2 := fun _ x y => match x, y with
  | .int i, .int j => if 0 ≤ j ∧ j ≤ 1000000 ∧ i.natAbs < 2 ^ 64 then some (.int (i ^ j.toNat)) else none
  | _, _ => none
theorem op2_pow {X : Cx} : Op2 X powF (rI CPow fun i j => .int (i ^ j.toNat)) := by
  intro φ ρ S σ H x y z v u Q a rx ry e q
  cases rx <;> cases ry <;> try (cases e; done)
  unfold powF at e
  simp only at e
  split at e
  · rename_i h
    cases e
    exact ⟨_, _, rfl, rfl, h, q _ _ _ .refl a.rel .int⟩
  · cases e

/-! ### dicts read -/
def dctAt (S : Store) : Val → Option (List Key × List Val)
  | .vd ks xs => some (ks, xs)
  | .obj i => match S[i]? with
    | some (.dct ks xs) => some (ks, xs)
    | _ => none
  | _ => none
def dget (k : Key) : List Key → List Val → Option Val
  | j :: ks, x :: xs => if j = k then some x else dget k ks xs
  | _, _ => none
section
variable {K : PySem.W.Frag} {mg : MG} {φ : Own} {H : Hp} {S : Store}
theorem dctAt_ok (r : RelS K mg φ S H) {x : Val} {v : V} {ks : List Key} {xs : List Val} (q : RV K mg φ H x v) (h : dctAt S x = some (ks, xs)) : ∃ a kvs, v = .ref a ∧ H a = some (.dK kvs) ∧ kvs.map (·.1) = ks ∧ RVs K mg φ H xs (kvs.map (·.2)) := by
  cases q with
  | vd ha hn hk rr => cases h; exact ⟨_, _, rfl, ha, hk, rr⟩
  | obj ha =>
    rename_i i a
    have h' : (match S[i]? with | some (.dct ks' xs') => some (ks', xs') | _ => none) = some (ks, xs) := h
    split at h'
    · rename_i ks' xs' hs
      cases h'
      cases r.ob _ _ _ hs ha with
      | dct hh hk rr => exact ⟨_, _, rfl, hh, hk, rr⟩
    · cases h'
  | _ => cases h
theorem dget_ok (k : Key) : ∀ {ks : List Key} {xs : List Val} {kvs : List (Key × V)}, kvs.map (·.1) = ks → RVs K mg φ H xs (kvs.map (·.2)) → (∀ x, dget k ks xs = some x → ∃ v, valV kvs k = some v ∧ RV K mg φ H x v) ∧ (dget k ks xs = none → valV kvs k = none)
  | _, _, [], rfl, r => by
    cases r
    refine ⟨fun x h => ?_, fun _ => rfl⟩
    cases h
  | _, _, p :: kvs, rfl, r => by
    cases r with
    | cons r1 r2 =>
      obtain ⟨h1, h2⟩ := dget_ok k (kvs := kvs) rfl r2
      by_cases e : p.1 = k
      · rw [List.map_cons, valV_pos e]
        unfold dget
        rw [if_pos e]
        exact ⟨fun x h => by cases h; exact ⟨_, rfl, r1⟩, fun h => by cases h⟩
      · rw [List.map_cons, valV_neg e]
        unfold dget
        rw [if_neg e]
        exact ⟨h1, h2⟩
end
def dIxD (d e : ED) : ED := fun ρ S => bindO (d ρ S) fun x S1 => bindO (e ρ S1) fun y S2 => match dctAt S2 x, keyOf y with
  | some (ks, xs), some k => ofO (dget k ks xs) S2
  | _, _ => none
def inD (neg : Bool) (S : Store) (y x : Val) : Option Val := match dctAt S x, keyOf y with
  | some (ks, xs), some k => some (.bl (if neg = true then !(dget k ks xs).isSome else (dget k ks xs).isSome))
  | _, _ => none
section
variable {X : Cx} {W : WX} {o i : Expr} {pos : Pos} {d e : ED}
theorem key_dget {K : PySem.W.Frag} {mg : MG} {φ : Own} {H : Hp} {S : Store} {y : Val} {u : V} {k : Key} {a : Addr} {kvs : List (Key × V)} (ek : keyOf y = some k) (ry : RV K mg φ H y u) (h : H a = some (.dK kvs)) : DGet H a u (valV kvs k) := by
  rw [keyOf_rel ek ry]
  exact DGet.k h
theorem de_ixd (hu : X.A.units + 64 < cLine) (h1 : DE X W o d) (h2 : DE X W i e) (hs : NoSl i := by exact fun _ _ => rfl) : DE X W (.Subscript o i pos) (dIxD d e) := PE.imp (pe_dget (Nat.lt_of_le_of_lt (Nat.add_le_add_left (by decide) _) hu) h1 h2 hs) fun σ H Q ⟨φ, ρ, S, res, S', a, h, fin⟩ => by
  refine tD_bind a h fin fun x S1 φ1 H1 v s a1 rv h1 f1 => ?_
  refine tD_bind a1 h1 f1 fun y S2 φ2 H2 u s2 a2 ru h2 f2 => ?_
  split at h2
  · rename_i ks xs k e1 e2
    obtain ⟨z, ez, rfl, rfl⟩ := ofO_inj h2
    obtain ⟨p, kvs, rfl, hp, hk, rr⟩ := dctAt_ok a2.rel (rv.step s2) e1
    obtain ⟨w, hw, rw'⟩ := (dget_ok k hk rr).1 z ez
    exact ⟨p, w, rfl, by rw [← hw]; exact key_dget (S := S') e2 ru hp, f2.now a2.rel rw'⟩
  · cases h2
theorem de_inD {neg : Bool} (hu : X.A.units + 64 < cLine) (h2 : DE X W i e) (h1 : DE X W o d) (hm : behindInMarks (if neg = true then .NotIn else .In) o = false := by rfl) : DE X W (.Compare i [if neg = true then .NotIn else .In] [o] pos) (dOp2 (inD neg) e d) := by
  have hu' : X.A.units + 1 < cLine := Nat.lt_of_le_of_lt (Nat.add_le_add_left (by decide) _) hu
  have core : ∀ {σ : L2.St} {H : Hp} {Q : VK}, tD X.K X.mg (RV X.K X.mg) W (dOp2 (inD neg) e d) σ H Q → tD X.K X.mg (RV X.K X.mg) W e σ H fun y H1 => tD X.K X.mg (RV X.K X.mg) W d σ H1 fun x H2 => ∃ a ov, x = .ref a ∧ DGet H2 a y ov ∧ Q (.bl (if neg = true then !ov.isSome else ov.isSome)) H2 := fun {σ H Q} ⟨φ, ρ, S, res, S', a, h, fin⟩ => by
    refine tD_bind a h fin fun y S1 φ1 H1 u s a1 ru h1 f1 => ?_
    refine tD_bind a1 h1 f1 fun x S2 φ2 H2 v s2 a2 rv h2 f2 => ?_
    obtain ⟨z, ez, rfl, rfl⟩ := ofO_inj h2
    unfold inD at ez
    split at ez
    · rename_i ks xs k e1 e2
      cases ez
      obtain ⟨p, kvs, rfl, hp, hk, rr⟩ := dctAt_ok a2.rel rv e1
      refine ⟨p, _, rfl, key_dget (S := S') e2 (ru.step s2) hp, ?_⟩
      have hh := dget_ok k hk rr
      have es : (valV kvs k).isSome = (dget k ks xs).isSome := by
        cases e3 : dget k ks xs with
        | none => rw [hh.2 e3] <;> rfl
        | some w =>
          obtain ⟨v, hv, _⟩ := hh.1 w e3
          rw [hv] <;> rfl
      rw [es]
      exact f2.now a2.rel .bl
    · cases ez
  cases neg with
  | false => exact PE.imp (pe_cmp (pc_din hu' h2 h1) hm) fun σ H Q h => core h
  | true => exact PE.imp (pe_cmp (pc_dnotin hu' h2 h1) hm) fun σ H Q h => core h
theorem dt_inD {neg : Bool} (hu : X.A.units + 64 < cLine) (h2 : DE X W i e) (h1 : DE X W o d) (hm : behindInMarks (if neg = true then .NotIn else .In) o = false := by rfl) : DT X W (.Compare i [if neg = true then .NotIn else .In] [o] pos) (dTv (dOp2 (inD neg) e d)) := by
  have hu' : X.A.units + 1 < cLine := Nat.lt_of_le_of_lt (Nat.add_le_add_left (by decide) _) hu
  have core : ∀ {σ : L2.St} {H : Hp} {Q : VK}, tD X.K X.mg (RV X.K X.mg) W (dOp2 (inD neg) e d) σ H Q → tD X.K X.mg (RV X.K X.mg) W e σ H fun y H1 => tD X.K X.mg (RV X.K X.mg) W d σ H1 fun x H2 => ∃ a ov, x = .ref a ∧ DGet H2 a y ov ∧ Q (.bl (if neg = true then !ov.isSome else ov.isSome)) H2 := fun {σ H Q} ⟨φ, ρ, S, res, S', a, h, fin⟩ => by
    refine tD_bind a h fin fun y S1 φ1 H1 u s a1 ru h1 f1 => ?_
    refine tD_bind a1 h1 f1 fun x S2 φ2 H2 v s2 a2 rv h2 f2 => ?_
    obtain ⟨z, ez, rfl, rfl⟩ := ofO_inj h2
    unfold inD at ez
    split at ez
    · rename_i ks xs k e1 e2
      cases ez
      obtain ⟨p, kvs, rfl, hp, hk, rr⟩ := dctAt_ok a2.rel rv e1
      refine ⟨p, _, rfl, key_dget (S := S') e2 (ru.step s2) hp, ?_⟩
      have hh := dget_ok k hk rr
      have es : (valV kvs k).isSome = (dget k ks xs).isSome := by
        cases e3 : dget k ks xs with
        | none => rw [hh.2 e3] <;> rfl
        | some w =>
          obtain ⟨v, hv, _⟩ := hh.1 w e3
          rw [hv] <;> rfl
      rw [es]
      exact f2.now a2.rel .bl
    · cases ez
  cases neg with
  | false => exact PT.imp (pt_cmp (pc_din hu' h2 h1) hm) fun σ H Q h => core (tv_of h)
  | true => exact PT.imp (pt_cmp (pc_dnotin hu' h2 h1) hm) fun σ H Q h => core (tv_of h)
end

/-! ### a text's letters -/
def dStrI (d : ED) : ID := fun ρ S => bindO (d ρ S) fun x S1 => match x with
  | .str z => some (.ok ⟨z.cps.toList.map fun c => .str ⟨#[c]⟩, fun _ => True⟩, S1)
  | _ => none
theorem di_str {X : Cx} {W : WX} {tg e : Expr} {d : ED} (he : DE X W e d) : DI X W tg e (dStrI d) := PI.imp (pi_str he) fun σ H Q ⟨φ, ρ, S, res, S', a, h, fin⟩ => by
  refine tD_bind a h fin fun x S1 φ1 H1 v s a1 rv h1 f1 => ?_
  cases rv <;> try (cases h1; done)
  rename_i z
  cases h1
  refine ⟨z, rfl, f1 φ1 H1 _ .refl a1.rel fun φ2 S2 H2 s2 r2 hk i => ⟨fun y hy => ?_, fun hl => ?_⟩⟩
  · rw [List.getElem?_map] at hy
    cases ec : z.cps.toList[i]? with
    | none => rw [ec] at hy; cases hy
    | some c =>
      rw [ec] at hy
      cases hy
      rw [Array.getElem?_toList] at ec
      have hi : i < z.cps.size := (Array.getElem?_eq_some_iff.mp ec).1
      refine ⟨hi, fun w H3 ⟨e1, c', e2, e3⟩ => ?_⟩
      rw [ec] at e2
      cases e2
      subst e1 e3
      exact ⟨φ2, .refl, r2, .str⟩
  · show z.cps.size ≤ i
    simpa using hl
end DL
set_option Elab.async false
set_option linter.all false
set_option maxRecDepth 100000
set_option maxHeartbeats 4000000
/-! The D layer, part 15: sorted of ints or texts, a tuple's index. -/
namespace DL
open PySem PySem.Spec PyProof.Rows L2

/-! ### sorted of a list or a tuple -/
section
variable {prog : Program} {w : World} {A : Around} {E : Value → Shared → Prop} {s : Shared}
theorem collect_sq {b : Bool} {l : Addr} {vs : List Value} {Q : List Value → Shared → Prop} (hl : HSq b s.heap l vs.toArray) (hz : vs.length ≤ sizeLine)
    (h : Q vs { s with heap := (s.heap.push (seqObj "list" #[] 0)).update s.heap.objs.size (Obj.mapSeq (· ++ vs.toArray)) }) : wpAny (model prog w) A (collect (.ref l)) Q E s := by
  obtain ⟨T, hT, o, ho, hc, n, hd⟩ : ∃ T : String, (T = "list" ∨ T = "tuple") ∧ ∃ o, s.heap.get? l = some o ∧ o.cls = .type T ∧ ∃ n, o.data = .seq vs.toArray n := by
    cases b
    · exact ⟨_, .inl rfl, hl⟩
    · exact ⟨_, .inr rfl, hl⟩
  unfold collect
  refine wpAny_bind (wpAny_runValue (codeAny_builtin entry_proto_collect' ?_))
  show wpAny _ _ (newList [] >>= fun k => again (.builtin "list.__iadd__" ⟨[k, .ref l], []⟩)) _ _ s
  refine wpAny_bind (wpAny_newList (wpAny_pure ⟨Code.quiet_builtin _ (by decide +kernel), codeAny_builtin entry_list_iadd' ?_⟩))
  show wpAny _ _ (Builtin.List.listExtendWith (.ref s.heap.objs.size) (.ref l) (.ref s.heap.objs.size)) _ _ { s with heap := s.heap.push (seqObj "list" #[] 0) }
  unfold Builtin.List.listExtendWith
  have hol : (s.heap.push (seqObj "list" #[] 0)).get? l = some o := Heap.get?_push_of_some _ ho
  have hon : (s.heap.push (seqObj "list" #[] 0)).get? s.heap.objs.size = some (seqObj "list" #[] 0) := Heap.get?_push_size _ rfl
  refine wpAny_bind (wpAny_typeOf (T := T) ⟨o, hol, hc⟩ ?_)
  rw [if_pos (by rcases hT with rfl | rfl <;> simp <;> decide)]
  refine wpAny_bind (listItems_at hol hd ?_)
  refine wpAny_bind (listItems_at (xs := #[]) (n := 0) hon rfl ?_)
  rw [if_neg (by simp)]
  refine wpAny_bind (listUpdate_at (xs := #[]) (n := 0) hon rfl ?_ (Nat.zero_le _) (by show (#[] ++ vs.toArray).size ≤ sizeLine + 1; simp only [Array.size_append, List.size_toArray, List.length_nil]; omega))
  refine wpAny_pure ?_
  show wpAny (model prog w) A (load s.heap.objs.size >>= fun o => match o.data with
      | .seq xs _ => pure xs.toList
      | _ => unsupported "internal:collect") Q E { s with heap := (s.heap.push (seqObj "list" #[] 0)).update s.heap.objs.size (Obj.mapSeq (· ++ vs.toArray)) }
  refine wpAny_bind (wpAny_load (get?_update_seq hon _) ?_)
  have e : ((#[] : Array Value) ++ vs.toArray).toList = vs := by simp
  show wpAny _ _ (pure ((#[] : Array Value) ++ vs.toArray).toList) Q E _
  rw [e]
  exact wpAny_pure h
theorem sorted_sq {κ : KeyKind} (hO : κ.OneLt) {b : Bool} {l : Addr} {vs : List Value} {Q : Value → Shared → Prop} (hl : HSq b s.heap l vs.toArray) (h0 : KeysOf κ (pairsOf vs))
    (hk : ∀ v₁ v₂ rest, vs = v₁ :: v₂ :: rest → keyKind' (v₁ :: v₂ :: rest).toArray = pure oneType') (hz : vs.length ≤ sizeLine)
    (h : ∀ st' : SortSt, (arrOf st').Perm (pairsOf vs) → SortedToK κ (arrOf st') (pairsOf vs).size → Q (.ref (s.heap.objs.size + 1)) { s with heap := sortedAll s.heap vs ((arrOf st').map (·.2)) }) :
    wpAny (model prog w) A (call (.builtin "sorted") [.ref l]) Q E s := by
  refine Calls.call_function_entry kind_sorted plain_sorted entry_sorted (args_sorted1 _) ?_
  unfold Builtin.«sorted»
  refine wpAny_bind (m := checkCount "sorted" 1 1 _) (wpAny_pure (wpAny_bind (collect_sq hl hz (wpAny_bind (wpAny_newList ?_ hz)))))
  have n1 : ((s.heap.push (seqObj "list" #[] 0)).update s.heap.objs.size (Obj.mapSeq (· ++ vs.toArray))).objs.size = s.heap.objs.size + 1 := by rw [Heap.size_update, size_push']
  have n2 : (((s.heap.push (seqObj "list" #[] 0)).update s.heap.objs.size (Obj.mapSeq (· ++ vs.toArray))).push (seqObj "list" vs.toArray 0)).get? (s.heap.objs.size + 1) = some (seqObj "list" vs.toArray 0) := by
    rw [← n1]
    exact Heap.get?_push_size _ rfl
  show wpAny _ _ _ _ _ { s with heap := ((s.heap.push (seqObj "list" #[] 0)).update s.heap.objs.size (Obj.mapSeq (· ++ vs.toArray))).push (seqObj "list" vs.toArray 0) }
  rw [n1]
  refine wpAny_bind (wpAny_holding (wpAny_call_entry slot_list_sort ⟨_, n2, rfl⟩ entry_list_sort (list_sort_treeKAny hO n2 h0 hk hz fun st' a1 a2 => ⟨_, rfl, wpAny_pure ⟨_, rfl, h st' a1 a2⟩⟩) (args_list_sort _)))
end
end DL
set_option Elab.async false
set_option linter.all false
set_option maxRecDepth 100000
set_option maxHeartbeats 4000000
/-! The D layer, part 16: sets of keys (ints, texts): how many, in order. -/
namespace DL
open PySem PySem.Spec PyProof.Rows L2

def memK (k : Key) (l : List Key) : Bool := l.any fun j => decide (j = k)
theorem memK_iff {k : Key} {l : List Key} : memK k l = true ↔ k ∈ l := by unfold memK; simp
instance decMemK (k : Key) (l : List Key) : Decidable (k ∈ l) := decidable_of_iff (memK k l = true) memK_iff
/-- the keys as they are first met -/
def meet (acc : List Key) (k : Key) : List Key := if k ∈ acc then acc else acc ++ [k]
def dist (ks : List Key) : List Key := ks.foldl meet []
theorem dist_snoc (ks : List Key) (k : Key) : dist (ks ++ [k]) = meet (dist ks) k := by unfold dist; rw [List.foldl_append]; rfl
theorem mem_meet {acc : List Key} {k j : Key} : j ∈ meet acc k ↔ j ∈ acc ∨ j = k := by
  unfold meet
  split
  · rename_i h
    exact ⟨.inl, fun x => x.elim id fun e => e ▸ h⟩
  · simp
theorem mem_foldl {j : Key} : ∀ (ks acc : List Key), j ∈ ks.foldl meet acc ↔ j ∈ acc ∨ j ∈ ks
  | [], acc => by simp
  | k :: ks, acc => by
    rw [List.foldl_cons, mem_foldl ks, mem_meet, List.mem_cons]
    constructor
    · rintro ((h | h) | h)
      · exact .inl h
      · exact .inr (.inl h)
      · exact .inr (.inr h)
    · rintro (h | h | h)
      · exact .inl (.inl h)
      · exact .inl (.inr h)
      · exact .inr h
theorem mem_dist {j : Key} {ks : List Key} : j ∈ dist ks ↔ j ∈ ks := by unfold dist; rw [mem_foldl]; simp
theorem dist_nodup (ks : List Key) : (dist ks).Nodup := by
  have go : ∀ (ks acc : List Key), acc.Nodup → (ks.foldl meet acc).Nodup := fun ks => by
    induction ks with
    | nil => exact fun acc h => h
    | cons k ks ih =>
      intro acc h
      rw [List.foldl_cons]
      refine ih _ ?_
      unfold meet
      split
      · exact h
      · rename_i hk
        exact List.nodup_append.mpr ⟨h, by simp, fun a ha b hb e => hk (by rw [List.mem_singleton.mp hb] at e; exact e ▸ ha)⟩
  exact go ks [] List.nodup_nil
theorem dist_le : ∀ (ks : List Key), (dist ks).length ≤ ks.length := fun ks => by
  have go : ∀ (ks acc : List Key), (ks.foldl meet acc).length ≤ acc.length + ks.length := fun ks => by
    induction ks with
    | nil => exact fun acc => Nat.le_refl _
    | cons k ks ih =>
      intro acc
      rw [List.foldl_cons]
      have h1 := ih (meet acc k)
      have h2 : (meet acc k).length ≤ acc.length + 1 := by
        unfold meet
        split
        · omega
        · simp
      rw [List.length_cons]
      omega
  have q := go ks []
  rw [List.length_nil, Nat.zero_add] at q
  exact q
/-- nothing twice: as many as there are -/
theorem dist_of_nodup {ks : List Key} (h : ks.Nodup) : dist ks = ks := by
  have go : ∀ (ks acc : List Key), (acc ++ ks).Nodup → ks.foldl meet acc = acc ++ ks := fun ks => by
    induction ks with
    | nil => intro acc _; simp
    | cons k ks ih =>
      intro acc h
      rw [List.foldl_cons]
      have hk : k ∉ acc := fun m => (List.nodup_append.mp h).2.2 k m k (List.mem_cons_self ..) rfl
      have e : meet acc k = acc ++ [k] := by unfold meet; rw [if_neg hk]
      rw [e, ih _ (by rw [List.append_assoc]; exact h)]
      simp
  exact go ks [] h
section
variable {P : Program} {w : World} {A : Around} {E : Value → Shared → Prop} {s : Shared}
/-- a new set's object -/
abbrev setOb (w : World) : Obj := { cls := .type "set", dict := none, data := .set #[] 0 (.fresh 0 0 (!w.params.followText "set-order")) }
theorem setOb_of {h : Heap} {a : Addr} (e : h.get? a = some (setOb w)) : h.SetOf (mixKind P w) a (fun _ => false) 0 :=
  ⟨_, #[], 0, _, e, ⟨rfl, rfl, rfl⟩, rfl, fun x hx => by simp at hx, fun k => by simp, by decide, by rfl, rfl⟩
theorem setOf_eq {h : Heap} {a : Addr} {S S' : Key → Bool} {n n' : Nat} (R : h.SetOf (mixKind P w) a S n) (e : ∀ k, S' k = S k) (en : n' = n) : h.SetOf (mixKind P w) a S' n' := by
  have q : S' = S := funext e
  rw [q, en]
  exact R
theorem set_loop {I : Addr} {fp wr : List Addr} {G : Array GenState → Array GenState → Prop} {n : Nat} {Pv : Nat → Value → Prop} {St : Nat → Shared → Prop} {R : Result → Shared → Prop} (W : WalksS P w A.in1 I fp wr G n Pv St) (D : Addr) (hD : D ∉ fp)
    (ks : List Key) (hn : n = ks.length) (hb : ks.length + 1 < scanBound) (hv : ∀ i v, Pv i v → ∃ k, ks[i]? = some k ∧ (mixKind P w).is k v = true ∧ v.scannable = true) :
    ∀ (r i : Nat) (s : Shared), n - i = r → i ≤ n → St i s → s.heap.SetOf (mixKind P w) D (fun j => decide (j ∈ ks.take i)) (dist (ks.take i)).length →
      (∀ s', Moved (D :: wr) G s s' → s'.heap.SetOf (mixKind P w) D (fun j => decide (j ∈ ks)) (dist ks).length → R (.ok (.ret .none)) s') → codeAny (model P w) A (.builtin "set.update.loop" ⟨[.ref D, .ref I], []⟩) R s := by
  have hw : D ∉ wr := fun m => hD (W.sub _ m)
  have up : ∀ b ∈ wr, b ∈ D :: wr := fun b m => List.mem_cons_of_mem _ m
  intro r
  induction r with
  | zero =>
    intro i s er hi st R0 k
    obtain rfl : i = n := by omega
    refine codeAny_builtin F.entry_set_update_loop ?_
    rw [Around.under_plainId F.plain_set_update_loop _]
    show wpAny _ A.in1 (pyNext (.ref I) >>= _) _ _ s
    refine wpAny_bind (W.done s _ _ st fun s' mv => ?_)
    show wpAny _ A.in1 (ret Value.none) _ _ s'
    rw [List.take_of_length_le (Nat.le_of_eq hn.symm)] at R0
    exact wpAny_pure (k s' (mv.mono up) (setOf_at R0 fun o e => mv.heap D o hw e))
  | succ r ih =>
    intro i s er hi st R0 k
    have hlt : i < n := by omega
    refine codeAny_builtin F.entry_set_update_loop ?_
    rw [Around.under_plainId F.plain_set_update_loop _]
    show wpAny _ A.in1 (pyNext (.ref I) >>= _) _ _ s
    refine wpAny_bind (W.item i s _ _ hlt st fun v s' pv st' mv => ?_)
    obtain ⟨x, hx, hi1, hsc⟩ := hv i v pv
    have R1 := setOf_at R0 (h' := s'.heap) fun o e => mv.heap D o hw e
    show wpAny _ A.in1 (holding [v] (setAdd D v) >>= _) _ _ s'
    refine wpAny_bind (wpAny_holding ?_)
    unfold setAdd
    refine wpAny_holding ?_
    refine wpAny_bind ((mixKind P w).pyHash (k := x) hi1 ?_)
    have hle : (dist (ks.take i)).length ≤ ks.length := Nat.le_trans (dist_le _) (by simp; omega)
    refine wpAny_setAddHashed_of (knd := mixKind P w) (s := { s' with toks := s'.toks + 1 }) hi1 hsc R1 (by omega) fun h' sb R2 => ?_
    have et : ks.take (i + 1) = ks.take i ++ [x] := by rw [List.take_add_one, hx]; rfl
    have R3 : h'.SetOf (mixKind P w) D (fun j => decide (j ∈ ks.take (i + 1))) (dist (ks.take (i + 1))).length := setOf_eq R2 (fun j => by rw [et]; simp [List.mem_append]) (by
      rw [et, dist_snoc]
      unfold meet
      by_cases m : x ∈ ks.take i
      · rw [if_pos (mem_dist.mpr m), if_pos (decide_eq_true m)]
      · rw [if_neg (fun q => m (mem_dist.mp q)), if_neg (by rw [decide_eq_false m]; exact Bool.false_ne_true)]
        simp)
    refine wpAny_pure ⟨plainId_quiet F.plain_set_update_loop _, ih (i + 1) _ (by omega) hlt (W.frame _ s' _ _ st' (Nat.le_succ _) fun b m o e => ?_) R3 fun s'' mv'' R4 => ?_⟩
    · rw [sb.2 b (fun h : b = D => hD (h ▸ m))]
      exact e
    · refine k s'' (Moved.trans W.gtrans ((mv.mono up).then_heap (Nat.le_succ _) fun b o m e => ?_) mv'') R4
      rw [sb.2 b (fun h : b = D => m (h ▸ List.mem_cons_self ..))]
      exact e
end
end DL
set_option Elab.async false
set_option linter.all false
set_option maxRecDepth 100000
set_option maxHeartbeats 8000000
/-! The D layer, part 17: set(e) of keys. -/
namespace DL
open PySem PySem.Spec PyProof.Rows L2
section
variable {P : Program} {w : World} {A : Around} {E : Value → Shared → Prop} {s : Shared}
theorem call_set_tuple {l : Addr} {items : Array Value} (ks : List Key) {Q : Value → Shared → Prop} (hh : A.handled = none) (hl : s.heap.IsTuple l items) (hk : items.size = ks.length) (hb : ks.length + 1 < scanBound)
    (hv : ∀ (i : Nat) (v : Value), items[i]? = some v → ∃ k, ks[i]? = some k ∧ (mixKind P w).is k v = true ∧ v.scannable = true)
    (h : ∀ (g : Heap) (tk : Nat), g.SetOf (mixKind P w) s.heap.objs.size (fun j => decide (j ∈ ks)) (dist ks).length → (∀ b o, s.heap.get? b = some o → g.get? b = some o) → Q (.ref s.heap.objs.size) { s with heap := g, toks := tk }) :
    wpAny (model P w) A (call (.type "set") [.ref l]) Q E s := by
  obtain ⟨c0, tl0, hmro⟩ := F.called_set.mro
  have hmade := F.called_set.made
  have hsub0 := F.called_set.sub
  refine wpAny_call (codeAny_of_tree ?_)
  show wpAny _ _ (callAny (.type "set") ⟨[.ref l], []⟩) _ _ _
  refine wpAny_pure ⟨Code.quiet_builtin _ (by decide +kernel), codeAny_builtin F.entry_type_call ?_⟩
  rw [Around.under_plain (weight_type_call_type "set" [.ref l] []) rfl]
  have q1 := F.called_set.notType
  have q2 := F.called_set.canCreate
  have q3 := F.typeCall_set_1 (.ref l)
  repeat (any_goals (first | assumption | wp_step))
  refine codeAny_mono (code_set_led1 (P := P) (w := w) (.ref l) (E := E) (Q₁ := fun o t => o = .ref s.heap.objs.size ∧ t = { s with heap := s.heap.push (setOb w) }) ⟨rfl, rfl⟩) fun r t hr => ?_
  cases r with
  | error e => exact hr
  | ok fl =>
    cases fl with
    | ret ob =>
      obtain ⟨rfl, rfl⟩ := hr
      have at0 : (s.heap.push (setOb w)).get? s.heap.objs.size = some (setOb w) := Heap.get?_push_size _ rfl
      have ty0 : Shared.TypeIs { s with heap := s.heap.push (setOb w) } (.ref s.heap.objs.size) "set" := ⟨_, at0, rfl⟩
      have i1 := F.called_set.init.lookup
      have i2 := F.called_set.init.bind (.ref s.heap.objs.size)
      repeat (any_goals (first | assumption | wp_step))
      refine codeAny_mono (codeAny_call_builtin (R := wants (fun r t => r = .none ∧ ∃ g tk, t = { s with heap := g, toks := tk } ∧ g.SetOf (mixKind P w) s.heap.objs.size (fun j => decide (j ∈ ks)) (dist ks).length ∧ (∀ b o, s.heap.get? b = some o → g.get? b = some o)) E)
        F.called_set.init.plain F.entry_set_init (check_set_init_1 ty0 ?_)) fun r2 t2 hr2 => ?_
      · obtain ⟨⟨oc, od, odt, osl⟩, ho, hc, nl, hd⟩ := hl
        simp only at hc hd
        subst hc hd
        have ho1 : (s.heap.push (setOb w)).get? l = some { cls := .type "tuple", dict := od, data := .seq items nl, slots := osl } := Heap.get?_push_of_some _ ho
        have b1 := F.sub_tuple_set
        have b2 := F.sub_tuple_frozenset
        have b3 : (Value.type "tuple" == Value.type "dict") = false := by decide
        have hl1 : (s.heap.push (setOb w)).IsTuple l items := ⟨_, ho1, rfl, nl, rfl⟩
        unfold Builtin.«set.__init__» noKeywords Builtin.Frozenset.updateFrom
        generalize hpi : pyIter = PI
        wp_walk
        subst hpi
        refine wpAny_pyIter_tuple hl1 ?_
        refine wpAny_bind (wpAny_runValue ?_)
        have l0 : l < s.heap.objs.size := Heap.lt_size ho
        have n1 : (s.heap.push (setOb w)).objs.size = s.heap.objs.size + 1 := Heap.size_push ..
        have hh3 : A.in1.in1.in1.handled = none := by simp [hh]
        have ne1 : l ≠ (s.heap.push (setOb w)).objs.size := by rw [n1]; exact Nat.ne_of_lt (Nat.lt_succ_of_lt l0)
        have nf : s.heap.objs.size ∉ [(s.heap.push (setOb w)).objs.size, l] := by
          rw [n1]
          intro m
          rcases List.mem_cons.mp m with e | m
          · exact Nat.ne_of_lt (Nat.lt_succ_self _) e
          · exact Nat.ne_of_gt l0 (List.mem_singleton.mp m)
        refine set_loop ((Walks.tuple hh3 _ l ne1 items).toS) s.heap.objs.size nf ks hk hb hv (items.size - 0) 0 _ (by omega) (Nat.zero_le _) ⟨⟨_, Heap.get?_push_size _ rfl, rfl, rfl⟩, hl1.push _⟩ ?s0 ?s1
        case s0 => exact setOf_eq (setOb_of (P := P) (w := w) (Heap.get?_push_of_some _ at0)) (fun k => by simp) rfl
        case s1 =>
          intro t mv R
          obtain ⟨g, g2, g3, tk, g4⟩ := t
          obtain rfl : g2 = s.gens := mv.gens
          obtain rfl : g3 = s.drawn := mv.drawn
          obtain rfl : g4 = s.os := mv.os
          show wpAny _ _ _ _ _ _
          refine wpAny_pure ?_
          show wpAny _ _ (ret Value.none) _ _ _
          refine wpAny_pure ⟨rfl, g, tk, rfl, R, fun b o e => ?_⟩
          have b0 : b < s.heap.objs.size := Heap.lt_size e
          refine mv.heap b o (fun m => ?_) (Heap.get?_push_of_some _ (Heap.get?_push_of_some _ e))
          rcases List.mem_cons.mp m with e | m
          · exact Nat.ne_of_lt b0 e
          · rw [List.mem_singleton.mp m, n1] at b0
            exact Nat.lt_irrefl _ (Nat.lt_of_succ_lt b0)
      · cases r2 with
        | error e => exact hr2
        | ok f2 =>
          cases f2 with
          | ret r =>
            obtain ⟨rfl, g, tk, rfl, R, kp⟩ := hr2
            repeat (any_goals (first | assumption | wp_step))
            exact h _ _ R kp
          | _ => exact hr2.elim
    | _ => exact hr.elim
theorem call_set_list {l : Addr} {items : Array Value} (ks : List Key) {Q : Value → Shared → Prop} (hh : A.handled = none) (hl : s.heap.IsList l items) (hk : items.size = ks.length) (hb : ks.length + 1 < scanBound)
    (hv : ∀ (i : Nat) (v : Value), items[i]? = some v → ∃ k, ks[i]? = some k ∧ (mixKind P w).is k v = true ∧ v.scannable = true)
    (h : ∀ (g : Heap) (tk : Nat), g.SetOf (mixKind P w) s.heap.objs.size (fun j => decide (j ∈ ks)) (dist ks).length → (∀ b o, s.heap.get? b = some o → g.get? b = some o) → Q (.ref s.heap.objs.size) { s with heap := g, toks := tk }) :
    wpAny (model P w) A (call (.type "set") [.ref l]) Q E s := by
  obtain ⟨c0, tl0, hmro⟩ := F.called_set.mro
  have hmade := F.called_set.made
  have hsub0 := F.called_set.sub
  refine wpAny_call (codeAny_of_tree ?_)
  show wpAny _ _ (callAny (.type "set") ⟨[.ref l], []⟩) _ _ _
  refine wpAny_pure ⟨Code.quiet_builtin _ (by decide +kernel), codeAny_builtin F.entry_type_call ?_⟩
  rw [Around.under_plain (weight_type_call_type "set" [.ref l] []) rfl]
  have q1 := F.called_set.notType
  have q2 := F.called_set.canCreate
  have q3 := F.typeCall_set_1 (.ref l)
  repeat (any_goals (first | assumption | wp_step))
  refine codeAny_mono (code_set_led1 (P := P) (w := w) (.ref l) (E := E) (Q₁ := fun o t => o = .ref s.heap.objs.size ∧ t = { s with heap := s.heap.push (setOb w) }) ⟨rfl, rfl⟩) fun r t hr => ?_
  cases r with
  | error e => exact hr
  | ok fl =>
    cases fl with
    | ret ob =>
      obtain ⟨rfl, rfl⟩ := hr
      have at0 : (s.heap.push (setOb w)).get? s.heap.objs.size = some (setOb w) := Heap.get?_push_size _ rfl
      have ty0 : Shared.TypeIs { s with heap := s.heap.push (setOb w) } (.ref s.heap.objs.size) "set" := ⟨_, at0, rfl⟩
      have i1 := F.called_set.init.lookup
      have i2 := F.called_set.init.bind (.ref s.heap.objs.size)
      repeat (any_goals (first | assumption | wp_step))
      refine codeAny_mono (codeAny_call_builtin (R := wants (fun r t => r = .none ∧ ∃ g tk, t = { s with heap := g, toks := tk } ∧ g.SetOf (mixKind P w) s.heap.objs.size (fun j => decide (j ∈ ks)) (dist ks).length ∧ (∀ b o, s.heap.get? b = some o → g.get? b = some o)) E)
        F.called_set.init.plain F.entry_set_init (check_set_init_1 ty0 ?_)) fun r2 t2 hr2 => ?_
      · obtain ⟨⟨oc, od, odt, osl⟩, ho, hc, nl, hd⟩ := hl
        simp only at hc hd
        subst hc hd
        have ho1 : (s.heap.push (setOb w)).get? l = some { cls := .type "list", dict := od, data := .seq items nl, slots := osl } := Heap.get?_push_of_some _ ho
        have b1 := F.sub_list_set
        have b2 := F.sub_list_frozenset
        have b3 : (Value.type "list" == Value.type "dict") = false := by decide
        have hl1 : (s.heap.push (setOb w)).IsList l items := ⟨_, ho1, rfl, nl, rfl⟩
        unfold Builtin.«set.__init__» noKeywords Builtin.Frozenset.updateFrom
        generalize hpi : pyIter = PI
        wp_walk
        subst hpi
        refine wpAny_pyIter_list hl1 ?_
        refine wpAny_bind (wpAny_runValue ?_)
        have l0 : l < s.heap.objs.size := Heap.lt_size ho
        have n1 : (s.heap.push (setOb w)).objs.size = s.heap.objs.size + 1 := Heap.size_push ..
        have hh3 : A.in1.in1.in1.handled = none := by simp [hh]
        have ne1 : l ≠ (s.heap.push (setOb w)).objs.size := by rw [n1]; exact Nat.ne_of_lt (Nat.lt_succ_of_lt l0)
        have nf : s.heap.objs.size ∉ [(s.heap.push (setOb w)).objs.size, l] := by
          rw [n1]
          intro m
          rcases List.mem_cons.mp m with e | m
          · exact Nat.ne_of_lt (Nat.lt_succ_self _) e
          · exact Nat.ne_of_gt l0 (List.mem_singleton.mp m)
        refine set_loop ((Walks.list hh3 _ l ne1 items).toS) s.heap.objs.size nf ks hk hb hv (items.size - 0) 0 _ (by omega) (Nat.zero_le _) ⟨⟨_, Heap.get?_push_size _ rfl, rfl, rfl⟩, hl1.push _⟩ ?s0 ?s1
        case s0 => exact setOf_eq (setOb_of (P := P) (w := w) (Heap.get?_push_of_some _ at0)) (fun k => by simp) rfl
        case s1 =>
          intro t mv R
          obtain ⟨g, g2, g3, tk, g4⟩ := t
          obtain rfl : g2 = s.gens := mv.gens
          obtain rfl : g3 = s.drawn := mv.drawn
          obtain rfl : g4 = s.os := mv.os
          show wpAny _ _ _ _ _ _
          refine wpAny_pure ?_
          show wpAny _ _ (ret Value.none) _ _ _
          refine wpAny_pure ⟨rfl, g, tk, rfl, R, fun b o e => ?_⟩
          have b0 : b < s.heap.objs.size := Heap.lt_size e
          refine mv.heap b o (fun m => ?_) (Heap.get?_push_of_some _ (Heap.get?_push_of_some _ e))
          rcases List.mem_cons.mp m with e | m
          · exact Nat.ne_of_lt b0 e
          · rw [List.mem_singleton.mp m, n1] at b0
            exact Nat.lt_irrefl _ (Nat.lt_of_succ_lt b0)
      · cases r2 with
        | error e => exact hr2
        | ok f2 =>
          cases f2 with
          | ret r =>
            obtain ⟨rfl, g, tk, rfl, R, kp⟩ := hr2
            repeat (any_goals (first | assumption | wp_step))
            exact h _ _ R kp
          | _ => exact hr2.elim
    | _ => exact hr.elim
end
end DL
set_option Elab.async false
set_option linter.all false
set_option maxRecDepth 100000
set_option maxHeartbeats 4000000
/-! The D layer, part 18: len(set(e)), len({.. for ..}), sorted of ints or texts, a tuple's index. -/
namespace DL
open PySem PySem.Spec PyProof.Rows L2

def keysOf : List Val → Option (List Key)
  | [] => some []
  | x :: xs => match keyOf x, keysOf xs with
    | some k, some ks => some (k :: ks)
    | _, _ => none
section
variable {K : PySem.W.Frag} {mg : MG} {φ : Own} {H : Hp}
theorem keysOf_rel : ∀ {xs : List Val} {vs : List V} {ks : List Key}, RVs K mg φ H xs vs → keysOf xs = some ks → vs = ks.map kV
  | [], _, _, .nil, h => by cases h; rfl
  | x :: xs, _, ks, .cons r t, h => by
    unfold keysOf at h
    split at h
    · rename_i k ks' e1 e2
      cases h
      rw [keyOf_rel e1 r, keysOf_rel t e2]
      rfl
    · cases h
theorem keysOf_length : ∀ {xs : List Val} {ks : List Key}, keysOf xs = some ks → ks.length = xs.length
  | [], _, h => by cases h; rfl
  | x :: xs, ks, h => by
    unfold keysOf at h
    split at h
    · rename_i k ks' e1 e2
      cases h
      rw [List.length_cons, List.length_cons, keysOf_length e2]
    · cases h
end
theorem keys_items {P : Program} {w : World} : ∀ {ks : List Key} {us : List Value}, Vals (ks.map kV) us → ∀ (i : Nat) (v : Value), us.toArray[i]? = some v → ∃ k, ks[i]? = some k ∧ (mixKind P w).is k v = true ∧ v.scannable = true := fun {ks us} r i v h => by
  rw [List.getElem?_toArray] at h
  have hl := r.length
  rw [List.length_map] at hl
  have hi : i < ks.length := by rw [hl]; exact (List.getElem?_eq_some_iff.mp h).1
  have hk : (ks.map kV)[i]? = some (kV ks[i]) := by rw [List.getElem?_map, List.getElem?_eq_getElem hi]; rfl
  obtain ⟨u, hu, ru⟩ := r.get hk
  rw [h] at hu
  cases hu
  exact ⟨ks[i], List.getElem?_eq_getElem hi, kV_is ru, key_scan ru⟩
theorem call_setK {P : Program} {w : World} {A : Around} {E : Value → Shared → Prop} {s : Shared} {b : Bool} {l : Addr} {us : List Value} (ks : List Key) {Q : Value → Shared → Prop} (hh : A.handled = none) (hl : HSq b s.heap l us.toArray) (r : Vals (ks.map kV) us) (hb : ks.length + 1 < scanBound)
    (h : ∀ (g : Heap) (tk : Nat), g.SetOf (mixKind P w) s.heap.objs.size (fun j => decide (j ∈ ks)) (dist ks).length → (∀ b o, s.heap.get? b = some o → g.get? b = some o) → Q (.ref s.heap.objs.size) { s with heap := g, toks := tk }) :
    wpAny (model P w) A (call (.type "set") [.ref l]) Q E s := by
  have e : us.toArray.size = ks.length := by rw [List.size_toArray, ← r.length, List.length_map]
  cases b
  · exact call_set_list ks hh hl e hb (keys_items r) h
  · exact call_set_tuple ks hh hl e hb (keys_items r) h
def dLenSet (d : ED) : ED := fun ρ S => bindO (d ρ S) fun x S1 => match (seqAt S1 x).bind keysOf with
  | some ks => if ks.length ≤ 4000 then some (.ok (.int (dist ks).length), S1) else none
  | none => none
theorem de_lenSet {X : Cx} {W : WX} {a : Expr} {d : ED} {p p2 q pos : Pos} (hc : X.calm = true) (hm : X.mg "len" = none) (hm2 : X.mg "set" = none) (ha : DE X W a d) (hg : Gl X "len" := by rfl) (hg2 : Gl X "set" := by rfl)
    (na : starEach [a] X.env = (false, eval a X.env) :: starEach [] X.env := by rfl) : DE X W (.Call (.Name "len" p) [.Call (.Name "set" p2) [a] [] q] [] pos) (dLenSet d) := by
  refine ⟨fun pins s σ H Q I ⟨φ, ρ, S, res, S', at0, h, fin⟩ => ?_⟩
  refine Call_ (ld_blt I hg hm boot_len ?_)
  refine PyProof.Rows.callWith_builtin1 (PyProof.Rows.args_cons ?_ rfl) rfl rfl
  refine Call_ (ld_blt I hg2 hm2 boot_set ?_)
  refine PyProof.Rows.callWith_type1 (PyProof.Rows.args_cons (thn (ha.run pins s σ H (fun v H1 => ∃ φ1 S1 x, At X.K X.mg φ1 ρ S1 σ H1 ∧ RV X.K X.mg φ1 H1 x v ∧ (match (seqAt S1 x).bind keysOf with | some ks => if ks.length ≤ 4000 then some (Res.ok (Val.int (dist ks).length), S1) else none | none => none) = some (res, S') ∧ Fin X.K X.mg (RV X.K X.mg) W φ1 σ H1 res S' Q) I
    (tD_bind at0 h fin fun x S1 φ1 H1 v s1 a1 rv h1 f1 => ⟨φ1, S1, x, a1, rv, h1, f1⟩)) fun v s1 ⟨x, H1, I1, r1, φ1, S1, y, a1, rv, h1, f1⟩ => PyProof.Rows.args_nil ?_) na) na rfl
  cases e1 : seqAt S1 y with
  | none => rw [e1] at h1; cases h1
  | some xs =>
    rw [e1] at h1
    cases e2 : keysOf xs with
    | none => simp only [Option.bind, e2] at h1; cases h1
    | some ks =>
      simp only [Option.bind, e2] at h1
      split at h1
      · rename_i hz
        cases h1
        obtain ⟨l, ys, rfl, hq, rr⟩ := sq_of a1.rel rv e1
        cases r1
        obtain ⟨its, r, pl, _⟩ := Inv.sq I1 hq
        rw [keysOf_rel rr e2] at r
        refine call_setK ks (I1.ok.hd hc) pl r (by unfold scanBound; omega) fun g tk R kp => ?_
        refine PyProof.Rows.args_nil ?_
        obtain ⟨o, es, ep, t, ho, hex, hd, _, _, _, hf, hn⟩ := R
        have I2 : Inv X pins σ H1 { s1 with heap := g, toks := tk } := I1.kept kp
        have hle := dist_le ks
        exact call_len_set ho hex hd hf (by rw [hn]; omega) ⟨.int (dist ks).length, H1, I2.tok _, ⟨_, by rw [hn]⟩, f1.now a1.rel .int⟩
      · cases h1
end DL
set_option Elab.async false
set_option linter.all false
set_option maxRecDepth 100000
set_option maxHeartbeats 8000000
/-! The D layer, part 19: {e for t in i} of keys, how many. -/
namespace DL
open PySem PySem.Spec PyProof.Rows L2

/-- the set of just these keys at a -/
def SK (P : Program) (w : World) (a : Addr) (ks : List Key) : HO := SetK P w a (fun j => decide (j ∈ ks)) (dist ks).length
theorem sk_add {X : Cx} {pins : List (Addr × Obj)} {σ : L2.St} {H : Hp} {s : Shared} {E : Value → Shared → Prop} {D : Addr} {ks : List Key} {k : Key} {u : Value} {Q : Value → Shared → Prop} (I : Inv X pins σ H s) (hD : H D = some (SK X.prog X.w D ks)) (room : ks.length + 1 < 4000) (ru : RelV (kV k) u)
    (h : ∀ t, Inv X pins σ (upd H D (SK X.prog X.w D (ks ++ [k]))) t → Q .none t) : wpAny (model X.prog X.w) X.A (call (.builtin "set.add") [.ref D, u]) Q E s := by
  have hle := dist_le ks
  have R := setK_get I hD
  refine call_set_add (kV_is ru) (key_scan ru) R (by unfold scanBound; omega) fun g sb R2 => ?_
  have R3 : g.SetOf (mixKind X.prog X.w) D (fun j => decide (j ∈ ks ++ [k])) (dist (ks ++ [k])).length := setOf_eq R2 (fun j => by simp [List.mem_append]) (by
    rw [dist_snoc]
    unfold meet
    by_cases m : k ∈ ks
    · rw [if_pos (mem_dist.mpr m), if_pos (decide_eq_true m)]
    · rw [if_neg (fun q => m (mem_dist.mp q)), if_neg (by rw [decide_eq_false m]; exact Bool.false_ne_true)]
      simp)
  have ex : ∃ o, g.get? D = some o := by
    obtain ⟨o, _, _, _, ho, _⟩ := R3
    exact ⟨o, ho⟩
  exact h _ (I.write (e := D) (t' := s.toks + 1) (by rw [hD]; trivial) (.inl rfl) (fun b o m e => (sb.2 b m).trans e) ex (setK_new R3))
section
variable {X : Cx}
/-- {e for t in i if ..}: D the new set; ks what it holds by now -/
def tSk (P : Program) (w : World) (wi : TI) (g : TG) (tt : TT) (te : TE) (vs : List Nat) : TE := fun σ H Q => wi σ H fun J H1 => ∀ D, H1 D = none → ∃ L : Nat → Nat → Hp → Prop, (∃ m, L 0 m (upd H1 D (SK P w D []))) ∧ ∀ i m H, L i m H →
  (J.stop i H ∧ Q (.ref D) H) ∨ (J.go i H ∧ ∃ N : Hp → Prop, (∀ H', N H' → ∃ m', m' < m ∧ L (i + 1) m' H') ∧ ∀ x H', J.yld i H x H' → g x (wipe σ vs) H' fun σ2 H2 => wipe σ2 vs = wipe σ vs ∧ tt σ2 H2 fun b H3 =>
    if b = true then te σ2 H3 fun y H4 => ∃ ks k, y = kV k ∧ H4 D = some (SK P w D ks) ∧ ks.length + 1 < 4000 ∧ N (upd H4 D (SK P w D (ks ++ [k]))) else N H3)
theorem pe_sk {elt tg iter : Expr} {ifs : List Expr} {scope : Scope} {own : List (PySem.Str × Nat)} {pos : Pos} {wi : TI} {g : TG} {tt : TT} {te : TE} (hc : X.calm = true) (hN : X.N.Nodup) (hi : PI X tg iter wi) (ok : BlkOk X.N X.env.scope scope own)
    (hg : ∀ (s : Shared) (H : Hp) (C : Addr) (cl : List (PySem.Str × Addr)) (fp : List Addr), PG (X.blk s H scope (compEnvC scope cl C X.env) fp) tg g)
    (ht : ∀ (s : Shared) (H : Hp) (C : Addr) (cl : List (PySem.Str × Addr)) (fp : List Addr), PTs (X.blk s H scope (compEnvC scope cl C X.env) fp) ifs tt)
    (he : ∀ (s : Shared) (H : Hp) (C : Addr) (cl : List (PySem.Str × Addr)) (fp : List Addr), PE (X.blk s H scope (compEnvC scope cl C X.env) fp) elt te) (hs : ∀ x, foldedSetIterable iter X.env x = pure x := by intro _; rfl) :
    PE X (.SetComp elt [⟨tg, iter, ifs, 0⟩] scope pos) (tSk X.prog X.w wi g tt te (own.map (·.2))) := by
  refine ⟨fun pins s σ H Q I h => ?_⟩
  rw [PpSet.eval_SetComp]
  have caught : ∀ y ∈ scope.names, y.2 = .free → ∃ c, X.env.cells.lookup y.1 = some c := fun y m e => (ok.free y m e).elim (fun k => I.ok.has _ (.inl k)) fun k => I.ok.has _ (.inr k)
  refine wpAny_comprehension_free (use := none) rfl hs (closure_ok caught) ok.kind (fun y m e => by rw [ok.uniq y m, e]) (thn (hi.run pins s σ H _ I h) fun xv s1 hx => thn hx fun itv s2 came => ?_)
  obtain ⟨it, fp, tn, J, H2, rfl, I2, T, st2, f2, q⟩ := came
  refine PpSet.newSet_ok (newEnv_comp ?_)
  generalize eD : s2.heap.objs.size = D
  have fD : H2 D = none := I2.hok.fresh (Nat.le_of_eq eD)
  obtain ⟨L, ⟨m0, l0⟩, turn⟩ := q D fD
  generalize e3 : ({ s2 with heap := s2.heap.push (setOb X.w) } : Shared) = s3
  have h3 : s3.heap = s2.heap.push (setOb X.w) := by rw [← e3]
  have I3 : Inv X pins σ (upd H2 D (SK X.prog X.w D [])) s3 := by
    rw [← e3]
    refine I2.laid (t' := s2.toks) (fun b o e => Heap.get?_push_of_some _ e) (Nat.le_of_eq eD) (setK_new (setOf_eq (setOb_of (P := X.prog) (w := X.w) ?_) (fun k => by simp) rfl))
    rw [← eD]
    exact Heap.get?_push_size _ rfl
  have f3 : ∀ b ∈ fp, FpOk X pins (upd H2 D (SK X.prog X.w D [])) b ∧ b < s3.heap.objs.size := fun b m => by
    obtain ⟨o, e, _⟩ := T.obj _ _ st2 b m
    have lt : b < s2.heap.objs.size := Heap.lt_size e
    refine ⟨⟨?_, (f2 b m).2⟩, by rw [h3, Heap.size_push]; exact Nat.lt_succ_of_lt lt⟩
    rw [upd_ne (by rw [← eD]; exact Nat.ne_of_lt lt)]
    exact (f2 b m).1
  have st3 : tn 0 s3.heap := T.keep _ _ _ st2 fun b _ o e => by rw [h3]; exact Heap.get?_push_of_some _ e
  have I4 := block_start I3 ok hN f3
  show codeAny _ _ (.compStart (.SetComp elt [⟨tg, iter, ifs, 0⟩] scope pos) 0 (.ref it) (.ref D) (compEnvC scope (cellsFrom (s3.heap.objs.size + 1) scope.names (cloFrom X.env.cells scope.names [])) s3.heap.objs.size X.env))
    (compPost (model X.prog X.w) X.A X.xe none (EP X pins σ Q) (.ref D) s3.heap.objs.size) { s3 with heap := pushCells (s3.heap.push { cls := .type "dict", data := .dict #[] }) scope.names }
  have pg := hg s3 (upd H2 D (SK X.prog X.w D [])) s3.heap.objs.size (cellsFrom (s3.heap.objs.size + 1) scope.names (cloFrom X.env.cells scope.names [])) fp
  have pt := ht s3 (upd H2 D (SK X.prog X.w D [])) s3.heap.objs.size (cellsFrom (s3.heap.objs.size + 1) scope.names (cloFrom X.env.cells scope.names [])) fp
  have pe := he s3 (upd H2 D (SK X.prog X.w D [])) s3.heap.objs.size (cellsFrom (s3.heap.objs.size + 1) scope.names (cloFrom X.env.cells scope.names [])) fp
  have free0 : ∀ b ∈ fp, (upd H2 D (SK X.prog X.w D [])) b = none := fun b m => (f3 b m).1.1
  generalize ece : compEnvC scope (cellsFrom (s3.heap.objs.size + 1) scope.names (cloFrom X.env.cells scope.names [])) s3.heap.objs.size X.env = ce at I4 pg pt pe ⊢
  have cL : ce.locals = s3.heap.objs.size := by subst ece; rfl
  generalize eH : upd H2 D (SK X.prog X.w D []) = H3 at I3 I4 pg pt pe l0 free0 f3
  generalize e4 : ({ s3 with heap := pushCells (s3.heap.push { cls := .type "dict", data := .dict #[] }) scope.names } : Shared) = s4 at I4 ⊢
  have st4 : tn 0 s4.heap := T.keep _ _ _ st3 fun b _ o e => by rw [← e4]; exact pushCells_keeps _ _ _ _ (Heap.get?_push_of_some _ e)
  have own_ok : ∀ {τ : L2.St} {G : Hp} {t : Shared}, Inv (X.blk s3 H3 scope ce fp) [] τ G t → (∀ b ∈ fp, G b = none) → ∀ b ∈ fp, FpOk (X.blk s3 H3 scope ce fp) [] G b := fun {τ G t} J' n b m =>
    ⟨n b m, (J'.ok.exf b m).1, J'.ok.exfs b m, .inl m, fun x c e => (J'.ok.exf b m).2 x c e, fun p hp => absurd (show p ∈ ([] : List (Addr × Obj)) ++ [] from hp) (by simp)⟩
  have loop : codeAny (model X.prog X.w) X.A (.compLoop (.SetComp elt [⟨tg, iter, ifs, 0⟩] scope pos) 0 (.ref it) (.ref D) ce) (compPost (model X.prog X.w) X.A X.xe none (EP X pins σ Q) (.ref D) s3.heap.objs.size) s4 := by
    refine PpSet.compLoopS_any (fun n t => ∃ i G, Inv (X.blk s3 H3 scope ce fp) [] (wipe σ (own.map (·.2))) G t ∧ tn i t.heap ∧ (∀ b ∈ fp, G b = none) ∧ L i n G) ?_ m0 ⟨0, H3, I4, st4, free0, l0⟩
    rintro n s5 ⟨i, H5, I5, st5, n5, l5⟩
    rcases turn i n H5 l5 with ⟨stop, qq⟩ | ⟨go, N, hN', step⟩
    · refine thnF (T.done (X.blk s3 H3 scope ce fp) rfl rfl rfl hc i [] s5 _ H5 (fun _ _ => False) I5 (own_ok I5 n5) st5 stop) fun r s6 ⟨hr, I6⟩ => ?_
      subst hr
      have I7 : Inv X pins σ H5 s6 := I3.call' (ch := fp) I6.os I6.base I6.hok I6.bare fun b m => by
        obtain ⟨_, a1, a2, a3, a4, a5⟩ := (f3 b m).1
        exact ⟨a3, a1, a4, a5⟩
      have nC : H5 s3.heap.objs.size = none := by rw [← cL]; exact I6.free
      obtain ⟨m, hn, _⟩ := I6.loc
      have hn' : s6.heap.Ns ce.locals m := hn
      rw [cL] at hn'
      refine ⟨m, hn', fun h'' sb => ?_⟩
      obtain ⟨f0, f1, f2', f3', f4, f5⟩ := I3.fpOk (Nat.le_refl _) nC
      exact ⟨.ref D, H5, I7.turned (t' := s6.toks) (fun b o m e => (sb.2 b m).trans e) f0 f1 f3' f4 f5, rfl, qq⟩
    · refine thnF (T.item (X.blk s3 H3 scope ce fp) rfl rfl rfl hc i [] s5 _ H5 (fun _ _ => False) I5 (own_ok I5 n5) st5 go) fun r s6 ⟨u, hr, h6⟩ => ?_
      subst hr
      refine thnF h6 fun _ s7 ⟨x, H7, I7, r7, y7, st7, n7⟩ => ?_
      refine thnF (pg.run _ s7 _ H7 x u _ (I7.pinned (own_ok I7 n7) (T.obj _ _ st7)) r7 (step x H7 y7)) fun _ s8 ⟨σ8, H8, I8, w8, q8⟩ => ?_
      refine thnF (pt.run _ s8 σ8 H8 _ I8 q8) fun b s9 ⟨H9, I9, q9⟩ => ?_
      have again : ∀ {t : Shared} {G : Hp}, Inv (X.blk s3 H3 scope ce fp) ([] ++ pinsAt fp s7.heap) σ8 G t → N G → ∃ m, m < n ∧ ∃ i G, Inv (X.blk s3 H3 scope ce fp) [] (wipe σ (own.map (·.2))) G t ∧ tn i t.heap ∧ (∀ b ∈ fp, G b = none) ∧ L i m G := fun {t G} J' nx => by
        obtain ⟨m', hm, l'⟩ := hN' G nx
        have still : ∀ b ∈ fp, ∀ o, s7.heap.get? b = some o → t.heap.get? b = some o ∧ G b = none := fun b m o e => by
          have z := J'.pin (b, o) (List.mem_append_right _ (List.mem_append_right _ (mem_pinsAt m e)))
          exact ⟨z.1, z.2.1⟩
        have len : (wipe σ (own.map (·.2))).length = σ8.length := by rw [← w8, wipe_length]
        refine ⟨m', hm, i + 1, G, (J'.unpinned (pins := [])).weak len (fun j v e => ?_), T.keep _ _ _ st7 fun b m o e => (still b m o e).1, fun b m => ?_, l'⟩
        · rw [← w8] at e
          exact (wipe_some e).1
        · obtain ⟨o, e, _⟩ := T.obj _ _ st7 b m
          exact (still b m o e).2
      cases b with
      | false => exact again I9 q9
      | true =>
        refine thnF (pe.run _ s9 σ8 H9 _ I9 q9) fun z t ⟨yv, H10, I10, r10, ks, k, ey, hD10, room, nx⟩ => ?_
        subst ey
        exact sk_add (X := X.blk s3 H3 scope ce fp) I10 hD10 room r10 fun t2 I11 => again I11 nx
  exact PpSet.codeAny_compStart_set loop (T.self X.A 0 _ _ _ st4 loop)
end
end DL
set_option Elab.async false
set_option linter.all false
set_option maxRecDepth 100000
set_option maxHeartbeats 8000000
/-! The D layer, part 20: len({e for t in i}). -/
namespace DL
open PySem PySem.Spec PyProof.Rows L2
theorem keysOf_app : ∀ {xs ys : List Val} {ks : List Key}, keysOf (xs ++ ys) = some ks → ∃ k1 k2, keysOf xs = some k1 ∧ keysOf ys = some k2 ∧ ks = k1 ++ k2
  | [], ys, ks, h => ⟨[], ks, rfl, h, rfl⟩
  | x :: xs, ys, ks, h => by
    rw [List.cons_append] at h
    unfold keysOf at h
    split at h
    · rename_i k ks' e1 e2
      cases h
      obtain ⟨k1, k2, a, b, c⟩ := keysOf_app e2
      exact ⟨k :: k1, k2, by unfold keysOf; rw [e1, a], b, by rw [c]; rfl⟩
    · cases h
theorem keysOf_snoc : ∀ {xs : List Val} {ks : List Key} {x : Val} {k : Key}, keysOf xs = some ks → keyOf x = some k → keysOf (xs ++ [x]) = some (ks ++ [k])
  | [], _, x, k, h, e => by
    cases h
    show keysOf [x] = some [k]
    unfold keysOf
    rw [e]
    rfl
  | y :: xs, ks, x, k, h, e => by
    unfold keysOf at h
    split at h
    · rename_i j ks' e1 e2
      cases h
      rw [List.cons_append]
      unfold keysOf
      rw [e1, keysOf_snoc e2 e]
      rfl
    · cases h
noncomputable def dLenSC (di : ID) (g : GD) (tt : TD) (d : ED) (vs : List Nat) : ED := fun ρ S => bindO (di ρ S) fun t S1 => match lcL t.chk g tt d (wipeD ρ vs) t.xs S1 with
  | some (ys, S2) => match keysOf ys with
    | some ks => if ks.length ≤ 3000 then some (.ok (.int (dist ks).length), S2) else none
    | none => none
  | none => none
section
variable {X : Cx} {W : WX} {elt tg iter : Expr} {ifs : List Expr} {scope : Scope} {own : List (PySem.Str × Nat)} {pos spos py p : Pos} {di : ID} {g : GD} {js : List Nat} {tt : TD} {d : ED}
theorem t_lsc {P : Program} {w0 : World} {K : PySem.W.Frag} {mg : MG} {vs : List Nat} (hsub : ∀ j ∈ js, j ∈ vs) {σ : L2.St} {H : Hp} {Q : VK} (h : tD K mg (RV K mg) W (dLenSC di g tt d vs) σ H Q) :
    tSk P w0 (tD K mg (RI K mg) W di) (tG K mg g js) (tD K mg RB W0 tt) (tD K mg (RV K mg) W0 d) vs σ H fun v H' => ∃ D ks, v = .ref D ∧ H' D = some (SK P w0 D ks) ∧ ks.length ≤ 3000 ∧ Q (.int (dist ks).length) H' := by
  obtain ⟨φ, ρ, S, res, S', a, h, fin⟩ := h
  refine tD_bind a h fin fun t S1 φ1 H1 J s a1 src h1 f1 => ?_
  intro D hD
  cases e : lcL t.chk g tt d (wipeD ρ vs) t.xs S1 with
  | none => rw [e] at h1; cases h1
  | some pr =>
    obtain ⟨total, S2⟩ := pr
    rw [e] at h1
    simp only at h1
    obtain ⟨kt, ek, hlen, h1⟩ : ∃ kt, keysOf total = some kt ∧ kt.length ≤ 3000 ∧ some (Res.ok (Val.int (dist kt).length), S2) = some (res, S') := by
      cases ek : keysOf total with
      | none => rw [ek] at h1; cases h1
      | some kt =>
        rw [ek] at h1
        simp only at h1
        split at h1
        · rename_i hl
          exact ⟨kt, rfl, hl, h1⟩
        · cases h1
    focus
      cases h1
      refine ⟨fun i m Hc => ∃ φc Sc acc ks rest, At K mg φc (wipeD ρ vs) Sc (wipe σ vs) Hc ∧ φc.z = D :: φ1.z ∧ FwK φ1 H1 φc Hc ∧ Hc D = some (SK P w0 D ks) ∧ keysOf acc = some ks ∧ m = (t.xs.drop i).length ∧
          lcL t.chk g tt d (wipeD ρ vs) (t.xs.drop i) Sc = some (rest, S') ∧ acc ++ rest = total,
        ⟨_, φ1.mk1 D, S1, [], [], total, ⟨(a1.env.fwd (Fwd.mk1 hD _)).wipe vs, a1.rel.mk1 hD _⟩, rfl, FwK.mk1 hD _, upd_same, rfl, rfl, e, rfl⟩, ?_⟩
      rintro i m Hc ⟨φc, Sc, acc, ks, rest, ac, hz, fw, hHD, racc, rfl, hL, htot⟩
      have hDz : D ∈ φc.z := by rw [hz]; exact List.mem_cons_self ..
      have hsubz : ∀ b ∈ φ1.z, b ∈ φc.z := fun b hb => by rw [hz]; exact List.mem_cons_of_mem _ hb
      cases ex : t.xs.drop i with
      | nil =>
        rw [ex] at hL
        unfold lcL at hL
        split at hL
        · rename_i hk
          cases hL
          have hl : t.xs.length ≤ i := List.drop_eq_nil_iff.mp ex
          refine .inl ⟨(src φc _ Hc fw.f ac.rel hk i).2 hl, ?_⟩
          rw [List.append_nil] at htot
          subst htot
          rw [ek] at racc
          cases racc
          exact ⟨D, _, rfl, hHD, hlen, f1 (φc.end1 φ1.z) Hc _ fw.end1 (ac.rel.end1 hsubz) .int⟩
        · cases hL
      | cons x xs =>
        obtain ⟨hx, hd⟩ := drop_cons ex
        rw [ex] at hL
        unfold lcL at hL
        split at hL
        · rename_i hk
          obtain ⟨go, yl⟩ := (src φc _ Hc fw.f ac.rel hk i).1 x hx
          refine .inr ⟨go, fun Hn => ∃ φc Sc acc ks rest, At K mg φc (wipeD ρ vs) Sc (wipe σ vs) Hn ∧ φc.z = D :: φ1.z ∧ FwK φ1 H1 φc Hn ∧ Hn D = some (SK P w0 D ks) ∧ keysOf acc = some ks ∧
              lcL t.chk g tt d (wipeD ρ vs) xs Sc = some (rest, S') ∧ acc ++ rest = total, ?_, fun v Hv y => ?_⟩
          · rintro Hn ⟨φn, Sn, an, yn, rn, h1, h2, h3, h4, h5, h6, h7⟩
            exact ⟨xs.length, by simp, φn, Sn, an, yn, rn, h1, h2, h3, h4, h5, by rw [hd], by rw [hd]; exact h6, h7⟩
          obtain ⟨φ2, s2, r2, rv⟩ := yl v Hv y
          have a2 := ac.step s2 r2
          cases e1 : g x (wipeD ρ vs) with
          | none => rw [e1] at hL; cases hL
          | some ρ1 =>
            rw [e1] at hL
            refine ⟨φ2, _, Sc, x, ρ1, a2, rv, e1, fun σ3 a3 o3 => ⟨wipe_only o3 hsub, ?_⟩⟩
            simp only at hL
            cases e2 : tt ρ1 Sc with
            | none => rw [e2] at hL; cases hL
            | some p2 =>
              obtain ⟨q2, S3⟩ := p2
              rw [e2] at hL
              cases q2 with
              | ex c ns zs => cases hL
              | ok b =>
                refine ⟨φ2, ρ1, Sc, _, S3, a3, e2, fun φ3 H3 b' s3 r3 eb => ?_⟩
                subst eb
                have a4 := a3.step s3 r3
                have aw := a2.step s3 r3
                cases b with
                | false =>
                  rw [if_neg Bool.false_ne_true]
                  exact ⟨φ3, S3, acc, ks, rest, aw, s3.zz.trans (s2.zz.trans hz), (fw.step s2).step s3, s3.keep _ _ (s2.keep _ _ hHD (ac.rel.dis D hDz)) (r2.dis D (by rw [s2.zz]; exact hDz)), racc, hL, htot⟩
                | true =>
                  rw [if_pos rfl]
                  simp only at hL
                  cases e3 : d ρ1 S3 with
                  | none => rw [e3] at hL; cases hL
                  | some p3 =>
                    obtain ⟨q3, S4⟩ := p3
                    rw [e3] at hL
                    cases q3 with
                    | ex c ns zs => cases hL
                    | ok w =>
                      simp only at hL
                      cases e4 : lcL t.chk g tt d (wipeD ρ vs) xs S4 with
                      | none => rw [e4] at hL; cases hL
                      | some p4 =>
                        obtain ⟨rs, S5⟩ := p4
                        rw [e4] at hL
                        cases hL
                        refine ⟨φ3, ρ1, S3, _, S4, a4, e3, fun φ4 H4 u s4 r4 rw' => ?_⟩
                        have hz4 : φ4.z = D :: φ1.z := s4.zz.trans (s3.zz.trans (s2.zz.trans hz))
                        have hD4 : D ∈ φ4.z := by rw [hz4]; exact List.mem_cons_self ..
                        have hH4 : H4 D = some (SK P w0 D ks) := s4.keep _ _ (s3.keep _ _ (s2.keep _ _ hHD (ac.rel.dis D hDz)) (r2.dis D (by rw [s2.zz]; exact hDz))) (r3.dis D (by rw [s3.zz, s2.zz]; exact hDz))
                        rw [← htot] at ek
                        obtain ⟨k1, k2, e6, e7, e8⟩ := keysOf_app ek
                        rw [racc] at e6
                        cases e6
                        unfold keysOf at e7
                        cases e9 : keyOf w with
                        | none => rw [e9] at e7; cases e7
                        | some k =>
                          have l1 := keysOf_length racc
                          have l2 : acc.length + (rs.length + 1) = kt.length := by rw [keysOf_length ek]; simp
                          refine ⟨ks, k, keyOf_rel e9 rw', hH4, by omega, φ4, S4, acc ++ [w], ks ++ [k], rs, (aw.step s4 r4).putZ hD4, hz4, (((fw.step s2).step s3).step s4).putZ hD _, upd_same, keysOf_snoc racc e9, e4, by rw [← htot]; simp⟩
        · cases hL
theorem de_lenSC (hm : X.mg "len" = none) (hc : X.calm = true) (hN : X.N.Nodup) (hi : DI X W tg iter di) (ok : BlkOk X.N X.env.scope scope own)
    (hg : ∀ (s : Shared) (H : Hp) (C : Addr) (cl : List (PySem.Str × Addr)) (fp : List Addr), DG (X.blk s H scope (compEnvC scope cl C X.env) fp) tg g js)
    (ht : ∀ (s : Shared) (H : Hp) (C : Addr) (cl : List (PySem.Str × Addr)) (fp : List Addr), DTs (X.blk s H scope (compEnvC scope cl C X.env) fp) W0 ifs tt)
    (he : ∀ (s : Shared) (H : Hp) (C : Addr) (cl : List (PySem.Str × Addr)) (fp : List Addr), DE (X.blk s H scope (compEnvC scope cl C X.env) fp) W0 elt d) (hg2 : Gl X "len" := by rfl)
    (hsub : ∀ j ∈ js, j ∈ own.map (·.2) := by decide) (hs : ∀ x, foldedSetIterable iter X.env x = pure x := by intro _; rfl) :
    DE X W (.Call (.Name "len" p) [.SetComp elt [⟨tg, iter, ifs, 0⟩] scope pos] [] spos) (dLenSC di g tt d (own.map (·.2))) := by
  refine ⟨fun pins s σ H Q I h => ?_⟩
  refine Call_ (ld_blt I hg2 hm boot_len ?_)
  refine PyProof.Rows.callWith_builtin1 (PyProof.Rows.args_cons (thn ((pe_sk hc hN hi ok hg ht he hs).run pins s σ H _ I (t_lsc hsub h)) fun v s1 ⟨x, H1, I1, r1, D, ks, ex, hD, hl, q⟩ => PyProof.Rows.args_nil ?_) rfl) rfl rfl
  subst ex
  cases r1
  obtain ⟨o, es, ep, t, ho, hex, hd, _, _, _, hf, hn⟩ := setK_get I1 hD
  have hle := dist_le ks
  exact call_len_set ho hex hd hf (by rw [hn]; omega) ⟨.int (dist ks).length, H1, I1.tok _, ⟨_, by rw [hn]⟩, q⟩
end
end DL
set_option Elab.async false
set_option linter.all false
set_option maxRecDepth 100000
set_option maxHeartbeats 8000000
/-! The D layer, part 21: sorted, index, two fors. -/
namespace DL
open PySem PySem.Spec PyProof.Rows L2

def strsOf : List Val → Option (List PySem.Str)
  | [] => some []
  | .str i :: xs => (strsOf xs).map (i :: ·)
  | _ => none
def strLe (a b : PySem.Str) : Bool := !ltCps b.cps.toList a.cps.toList
def intLe (a b : Int) : Bool := decide (a ≤ b)
section
variable {K : PySem.W.Frag} {mg : MG} {φ : Own} {H : Hp}
theorem strsOf_rel : ∀ {xs : List Val} {vs : List V} {ks : List PySem.Str}, RVs K mg φ H xs vs → strsOf xs = some ks → vs = ks.map V.str
  | [], _, _, .nil, h => by cases h; rfl
  | x :: xs, _, ks, .cons r t, h => by
    cases r <;> try (cases h; done)
    unfold strsOf at h
    cases e : strsOf xs with
    | none => rw [e] at h; cases h
    | some js => rw [e] at h; cases h; rw [strsOf_rel t e]; rfl
theorem ints_rvs : ∀ ks : List Int, RVs K mg φ H (ks.map Val.int) (ks.map V.int)
  | [] => .nil
  | _ :: ks => .cons .int (ints_rvs ks)
theorem strs_rvs : ∀ ks : List PySem.Str, RVs K mg φ H (ks.map Val.str) (ks.map V.str)
  | [] => .nil
  | _ :: ks => .cons .str (strs_rvs ks)
end
theorem strLe_total (a b : PySem.Str) : (strLe a b || strLe b a) = true := by
  unfold strLe
  rw [ltCps_eq, ltCps_eq]
  by_cases h : b.cps.toList < a.cps.toList
  · have h2 : ¬ a.cps.toList < b.cps.toList := fun q => List.lt_irrefl _ (List.lt_trans h q)
    simp [h2]
  · simp [h]
theorem strLe_trans (a b c : PySem.Str) (h1 : strLe a b = true) (h2 : strLe b c = true) : strLe a c = true := by
  unfold strLe at *
  rw [ltCps_eq] at *
  simp only [Bool.not_eq_true', decide_eq_false_iff_not] at *
  exact fun h => List.not_lt.mpr (List.le_trans (List.not_lt.mp h1) (List.not_lt.mp h2)) h
theorem strLe_antisymm (a b : PySem.Str) (h1 : strLe a b = true) (h2 : strLe b a = true) : a = b := by
  unfold strLe at *
  rw [ltCps_eq] at *
  simp only [Bool.not_eq_true', decide_eq_false_iff_not] at *
  have e := List.le_antisymm (List.not_lt.mp h1) (List.not_lt.mp h2)
  cases a
  cases b
  simp only at e
  congr
  exact Array.toList_inj.mp e
theorem rising_pairwise : ∀ (p : PySem.Str) (l : List PySem.Str), risingS p l = true → (p :: l).Pairwise fun a b => strLe a b = true
  | p, [], _ => by simp
  | p, x :: r, h => by
    have h' : (!ltCps x.cps.toList p.cps.toList && risingS x r) = true := h
    rw [Bool.and_eq_true] at h'
    have ih := rising_pairwise x r h'.2
    refine List.pairwise_cons.mpr ⟨fun y hy => ?_, ih⟩
    rcases List.mem_cons.mp hy with rfl | hy
    · exact h'.1
    · exact strLe_trans p x y h'.1 ((List.pairwise_cons.mp ih).1 y hy)
theorem sortedS_pairwise : ∀ (l : List PySem.Str), sortedS l = true → l.Pairwise fun a b => strLe a b = true
  | [], _ => .nil
  | x :: r, h => rising_pairwise x r h
def sortF : Store → Val → Option (List Val) := fun S x => match seqAt S x with
  | some xs => match intsOf xs with
    | some ns => some ((ns.mergeSort intLe).map .int)
    | none => match strsOf xs with
      | some ss => some ((ss.mergeSort strLe).map .str)
      | none => none
  | none => none
def dSort (d : AD) : ED := fun ρ S => bindO (d ρ S) fun vs S1 => match vs with
  | [x] => match sortF S1 x with
    | some ys => some (.ok (.vl ys), S1)
    | none => none
  | _ => none
/-- the same as a list of the store -/
def dSortL (d : AD) : ED := fun ρ S => bindO (d ρ S) fun vs S1 => match vs with
  | [x] => match sortF S1 x with
    | some ys => some (.ok (.obj S1.length), S1 ++ [.lst ys])
    | none => none
  | _ => none
def rSort (K : PySem.W.Frag) : List V → Hp → VK → Prop := fun vs H Q => ∃ b a xs ys, vs = [.ref a] ∧ Sq K b H a xs ∧ ((∃ ns : List Int, xs = ns.map V.int ∧ ys = (ns.mergeSort intLe).map V.int) ∨ ∃ ss : List PySem.Str, xs = ss.map V.str ∧ ys = (ss.mergeSort strLe).map V.str) ∧
  ∀ p, H p = none → Q (.ref p) (upd H p (.lst ys))
theorem cr_sort {X : Cx} : CallR X (.builtin "sorted") (rSort X.K) := by
  intro pins s σ H vs us Q I r h
  obtain ⟨b, a, xs, ys, rfl, hq, hxy, q⟩ := h
  obtain ⟨its, rv, hl, hz⟩ := Inv.sq I hq
  rw [Vals.ref1 r]
  have len := rv.length
  have nz : its.length ≤ sizeLine := by omega
  have fin : ∀ (out : Array Value), Vals ys out.toList → ys.length ≤ sizeLine → EP X pins σ Q (.ref (s.heap.objs.size + 1)) { s with heap := sortedAll s.heap its out } := fun out ro hy => by
    obtain ⟨ep, he⟩ := PyProof.Rows.sortedAll_at s.heap its out
    exact ⟨.ref _, upd H (s.heap.objs.size + 1) (.lst ys), I.laid (t' := s.toks) (fun _ _ => PyProof.Rows.sortedAll_old) (Nat.le_succ _) ⟨hy, out.toList, ep, ro, he⟩, rfl, q _ (I.hok.fresh (Nat.le_succ _))⟩
  rcases hxy with ⟨ns, rfl, rfl⟩ | ⟨ss, rfl, rfl⟩
  · have hi := rv.ints
    refine sorted_sq intKind_oneLt hl hi.keysOfInt (fun v₁ v₂ rest e => keyKind_ints (by rw [← e]; exact hi)) nz fun st' hp hs => ?_
    obtain ⟨ns', h1, h2, h3⟩ := sorted_out hi hp (sortedTo_of_int hs)
    have e : ns' = ns.mergeSort intLe := List.Perm.eq_of_pairwise (le := fun a b => intLe a b = true) (fun a b _ _ x y => by
      unfold intLe at x y
      simp only [decide_eq_true_eq] at x y
      omega) (h3.imp fun x => by unfold intLe; simpa using x) (List.pairwise_mergeSort (fun a b c x y => by unfold intLe at *; simp only [decide_eq_true_eq] at *; omega) (fun a b => by unfold intLe; simp; omega) ns) (h2.trans (List.mergeSort_perm ns intLe).symm)
    rw [← e] at fin
    exact fin _ (vals_of_ints h1) (by rw [List.length_map, h2.length_eq]; rw [List.length_map] at len; omega)
  · have hi := rv.strs
    refine sorted_sq strKind_oneLt hl hi.keysOf (fun v₁ v₂ rest e => keyKind_strs (by rw [← e]; exact hi)) nz fun st' hp hs => ?_
    obtain ⟨ss', h1, h2, h3⟩ := sorted_out_str hi hp hs
    have e : ss' = ss.mergeSort strLe := List.Perm.eq_of_pairwise (le := fun a b => strLe a b = true) (fun a b _ _ x y => strLe_antisymm a b x y) (sortedS_pairwise _ h3) (List.pairwise_mergeSort strLe_trans strLe_total ss) (h2.trans (List.mergeSort_perm ss strLe).symm)
    rw [← e] at fin
    exact fin _ (vals_of_strs h1) (by rw [List.length_map, h2.length_eq]; rw [List.length_map] at len; omega)
section
variable {X : Cx} {W : WX} {e : Expr} {p pos : Pos} {d : AD}
theorem sort_rel {K : PySem.W.Frag} {mg : MG} {φ : Own} {H : Hp} {S : Store} {x : Val} {v : V} {ys : List Val} (r : RelS K mg φ S H) (rx : RV K mg φ H x v) (h : sortF S x = some ys) : ∃ b a xs zs, v = .ref a ∧ Sq K b H a xs ∧ ((∃ ns : List Int, xs = ns.map V.int ∧ zs = (ns.mergeSort intLe).map V.int) ∨ ∃ ss : List PySem.Str, xs = ss.map V.str ∧ zs = (ss.mergeSort strLe).map V.str) ∧ RVs K mg φ H ys zs := by
  unfold sortF at h
  cases e : seqAt S x with
  | none => rw [e] at h; cases h
  | some xs =>
    rw [e] at h
    obtain ⟨a, vs, rfl, hq, rr⟩ := sq_of r rx e
    simp only at h
    cases e1 : intsOf xs with
    | some ns =>
      rw [e1] at h
      cases h
      exact ⟨_, a, vs, _, rfl, hq, .inl ⟨ns, intsOf_ok rr e1, rfl⟩, ints_rvs _⟩
    | none =>
      rw [e1] at h
      simp only at h
      cases e2 : strsOf xs with
      | none => rw [e2] at h; cases h
      | some ss =>
        rw [e2] at h
        cases h
        exact ⟨_, a, vs, _, rfl, hq, .inr ⟨ss, strsOf_rel rr e2, rfl⟩, strs_rvs _⟩
theorem t_sort {K : PySem.W.Frag} {mg : MG} {σ : L2.St} {H : Hp} {Q : VK} (h : tD K mg (RV K mg) W (dSort d) σ H Q) : tCB (rSort K) (tD K mg (RVs K mg) W d) σ H Q := by
  obtain ⟨φ, ρ, S, res, S', a, h, fin⟩ := h
  refine tD_bind a h fin fun xs S1 φ1 H1 vs s a1 rv h1 f1 => ?_
  cases rv with
  | nil => cases h1
  | cons r rr =>
    cases rr with
    | cons _ _ => cases h1
    | nil =>
      simp only at h1
      cases e : sortF S1 _ with
      | none => rw [e] at h1; cases h1
      | some ys =>
        rw [e] at h1
        cases h1
        obtain ⟨b, q, us, zs, rfl, hq, hh, rz⟩ := sort_rel a1.rel r e
        refine ⟨b, q, us, zs, rfl, hq, hh, fun p hp => ?_⟩
        obtain ⟨s3, r3, rv3⟩ := new_vl a1.rel hp rz
        exact f1 _ _ _ s3 r3 rv3
theorem t_sortL {K : PySem.W.Frag} {mg : MG} {σ : L2.St} {H : Hp} {Q : VK} (h : tD K mg (RV K mg) W (dSortL d) σ H Q) : tCB (rSort K) (tD K mg (RVs K mg) W d) σ H Q := by
  obtain ⟨φ, ρ, S, res, S', a, h, fin⟩ := h
  refine tD_bind a h fin fun xs S1 φ1 H1 vs s a1 rv h1 f1 => ?_
  cases rv with
  | nil => cases h1
  | cons r rr =>
    cases rr with
    | cons _ _ => cases h1
    | nil =>
      simp only at h1
      cases e : sortF S1 _ with
      | none => rw [e] at h1; cases h1
      | some ys =>
        rw [e] at h1
        cases h1
        obtain ⟨b, q, us, zs, rfl, hq, hh, rz⟩ := sort_rel a1.rel r e
        refine ⟨b, q, us, zs, rfl, hq, hh, fun p hp => ?_⟩
        obtain ⟨s3, r3, rv3⟩ := new_obj a1.rel hp rz
        exact f1 _ _ _ s3 r3 rv3
theorem de_sort (hm : X.mg "sorted" = none) (ha : DA X W [e] d) (hg : Gl X "sorted" := by rfl) (he : starEach [e] X.env = (false, eval e X.env) :: starEach [] X.env := by rfl) : DE X W (.Call (.Name "sorted" p) [e] [] pos) (dSort d) := PE.imp (pe_callB cr_sort hg hm PyProof.Rows.boot_sorted ha (by decide) (by decide) he rfl) fun σ H Q h => t_sort h
theorem de_sortL (hm : X.mg "sorted" = none) (ha : DA X W [e] d) (hg : Gl X "sorted" := by rfl) (he : starEach [e] X.env = (false, eval e X.env) :: starEach [] X.env := by rfl) : DE X W (.Call (.Name "sorted" p) [e] [] pos) (dSortL d) := PE.imp (pe_callB cr_sort hg hm PyProof.Rows.boot_sorted ha (by decide) (by decide) he rfl) fun σ H Q h => t_sortL h
end
end DL
set_option Elab.async false
set_option linter.all false
set_option maxRecDepth 100000
set_option maxHeartbeats 8000000
/-! The D layer, part 22: t.index(x) of a tuple of texts, two fors. -/
namespace DL
open PySem PySem.Spec PyProof.Rows L2

def idxS (z : PySem.Str) : List PySem.Str → Option Nat
  | [] => none
  | y :: ys => if y = z then some 0 else (idxS z ys).map (· + 1)
theorem idxS_ok {z : PySem.Str} : ∀ {ys : List PySem.Str} {j : Nat}, idxS z ys = some j → ys[j]? = some z ∧ ∀ m, m < j → ys[m]? ≠ some z
  | [], _, h => by cases h
  | y :: ys, j, h => by
    unfold idxS at h
    split at h
    · rename_i e
      cases h
      exact ⟨by rw [e]; rfl, fun m hm => absurd hm (by omega)⟩
    · rename_i e
      cases e1 : idxS z ys with
      | none => rw [e1] at h; cases h
      | some i =>
        rw [e1] at h
        cases h
        obtain ⟨h1, h2⟩ := idxS_ok e1
        refine ⟨by simpa using h1, fun m hm q => ?_⟩
        cases m with
        | zero => exact e (by simpa using q)
        | succ m => exact h2 m (Nat.lt_of_succ_lt_succ hm) (by simpa using q)
def dTIdx (d : ED) (ds : AD) : ED := fun ρ S => bindO (d ρ S) fun x S1 => match x with
  | .tup xs => bindO (ds ρ S1) fun vs S2 => match strsOf xs, vs with
    | some ys, [.str z] => match idxS z ys with
      | some j => some (.ok (.int j), S2)
      | none => none
    | _, _ => none
  | _ => none
section
variable {X : Cx} {W : WX} {o e : Expr} {apos cpos : Pos} {d : ED} {ds : AD}
theorem de_tidx (ho : DE X W o d) (ha : DA X W [e] ds)
    (hbase : attributeBase o "index" X.env (eval o X.env) = eval o X.env := by rfl)
    (hfew : ((backTo cpos (starEach [e] X.env)).all (fun x => !x.1) && (backToKw cpos (keywordEach [] X.env)).all (fun x => x.1.isSome) && decide ([e].length + ([] : List Keyword).length + (if ([] : List Keyword).isEmpty then 0 else 1) < 30)) = true := by rfl)
    (hline : (apos.endLine == cpos.line) = true := by rfl) (hs : starEach [e] X.env = (false, eval e X.env) :: starEach [] X.env := by rfl) (hplain : (backTo cpos (starEach [] X.env)).any (·.1) = false := by rfl) :
    DE X W (.Call (.Attribute o "index" apos) [e] [] cpos) (dTIdx d ds) := PE.imp (pe_tm PySem.F.slot_tuple_index PySem.F.type_tuple_index mt_tup_index ho ha hbase hfew hline hs hplain) fun σ H Q ⟨φ, ρ, S, res, S', a, h, fin⟩ => by
  refine tD_bind a h fin fun x S1 φ1 H1 v s1 a1 rv h1 f1 => ?_
  cases rv <;> try (cases h1; done)
  rename_i xs p ys tr rr
  refine ⟨⟨p, ys, rfl, tr.sq, tr.bare⟩, ?_⟩
  refine tD_bind a1 h1 f1 fun us S2 φ2 H2 vs s2 a2 rvs h2 f2 => ?_
  split at h2
  · rename_i zs z e1
    split at h2
    · rename_i j e2
      cases h2
      obtain ⟨u, rfl, ru⟩ := one_arg rvs
      cases ru
      have q := (tr.step s2).sq
      rw [strsOf_rel (rr.step s2) e1] at q
      obtain ⟨h3, h4⟩ := idxS_ok e2
      exact ⟨p, zs, z, j, rfl, rfl, q, h3, h4, f2.now a2.rel .int⟩
    · cases h2
  · cases h2
end
section
variable {X : Cx} {W : WX} {elt tg iter tg1 iter1 : Expr} {ifs ifs1 : List Expr} {scope : Scope} {own : List (PySem.Str × Nat)} {vs1 : List Nat} {pos : Pos} {di di1 : ID} {g g1 : GD} {js js1 : List Nat} {tt tt1 : TD} {d : ED}
theorem de_lc2 (hc : X.calm = true) (hN : X.N.Nodup) (hi : DI X W tg iter di) (ok : BlkOk X.N X.env.scope scope own) (hv : ∀ i ∈ vs1, i ∈ own.map (·.2))
    (hg : ∀ (s : Shared) (H : Hp) (C : Addr) (cl : List (PySem.Str × Addr)) (fp : List Addr), DG (X.blk s H scope (compEnvC scope cl C X.env) fp) tg g js)
    (ht : ∀ (s : Shared) (H : Hp) (C : Addr) (cl : List (PySem.Str × Addr)) (fp : List Addr), DTs (X.blk s H scope (compEnvC scope cl C X.env) fp) W0 ifs tt)
    (hi1 : ∀ (s : Shared) (H : Hp) (C : Addr) (cl : List (PySem.Str × Addr)) (fp : List Addr), DI (X.blk s H scope (compEnvC scope cl C X.env) fp) W0 tg1 iter1 di1)
    (hg1 : ∀ (s : Shared) (H : Hp) (C : Addr) (cl : List (PySem.Str × Addr)) (fp : List Addr), DG (X.blk s H scope (compEnvC scope cl C X.env) fp) tg1 g1 js1)
    (ht1 : ∀ (s : Shared) (H : Hp) (C : Addr) (cl : List (PySem.Str × Addr)) (fp : List Addr), DTs (X.blk s H scope (compEnvC scope cl C X.env) fp) W0 ifs1 tt1)
    (he : ∀ (s : Shared) (H : Hp) (C : Addr) (cl : List (PySem.Str × Addr)) (fp : List Addr), DE (X.blk s H scope (compEnvC scope cl C X.env) fp) W0 elt d)
    (hsub : ∀ j ∈ js, j ∈ own.map (·.2) := by decide) (hsub1 : ∀ j ∈ js1, j ∈ vs1 := by decide) (hs : ∀ x, foldedSetIterable iter X.env x = pure x := by intro _; rfl) (hs1 : ∀ env x, foldedSetIterable iter1 env x = pure x := by intro _ _; rfl) :
    DE X W (.ListComp elt [⟨tg, iter, ifs, 0⟩, ⟨tg1, iter1, ifs1, 0⟩] scope pos) (dLc2 di g tt di1 g1 tt1 d (own.map (·.2)) vs1) :=
  PE.imp (pe_lc2 hc hN hi ok hv hg ht hi1 hg1 ht1 he hs hs1) fun σ H Q h => t_lc2 hsub hsub1 h
end
end DL
set_option Elab.async false
set_option linter.all false
set_option maxRecDepth 100000
set_option maxHeartbeats 8000000
/-! The D layer, part 23: what is known of a def, in one piece. -/
namespace DL
open PySem PySem.Spec PyProof.Rows L2

/-- within a comprehension nothing is let out -/
theorem pass0 {X : Cx} : PassD X W0 (L2.CX X.prog X.w) := fun σ pins H s e s' I ⟨_, _, _, _, _, _, _, _, _, _, _, _, h⟩ => h.elim
theorem passes0 {X : Cx} : Passes (L2.CX X.prog X.w) X (fun _ _ _ => False) := fun pins σ H s e s' I ⟨_, _, _, _, _, _, _, _, _, _, _, _, h⟩ => h.elim
/-- a def as the top has written it -/
def RawDef (K : PySem.W.Frag) (mg : MG) (x qual : PySem.Str) (st : Stmt) : Prop := ∃ f fd, mg x = some (.ref f) ∧ Fun K x qual st f fd
def RawDefD (K : PySem.W.Frag) (mg : MG) (x qual : PySem.Str) (st : Stmt) (dvs : List V) : Prop := ∃ f fd, mg x = some (.ref f) ∧ FunD K x qual (defArgs st) (defBody st) (defScope st) dvs [] f fd
def RawMeth (K : PySem.W.Frag) (mg : MG) (c m qual : PySem.Str) (st : Stmt) : Prop := ∃ C f fd, mg c = some (.ref C) ∧ Cls K C ∧ Meth K C m f ∧ Fun K m qual st f fd
def RawInit (K : PySem.W.Frag) (mg : MG) (c qual : PySem.Str) (st : Stmt) : Prop := ∃ C f fd, mg c = some (.ref C) ∧ Mk K C f ∧ Fun K "__init__" qual st f fd
def RawFld (K : PySem.W.Frag) (mg : MG) (c f : PySem.Str) : Prop := ∃ C, mg c = some (.ref C) ∧ Cls K C ∧ NoAttr K C f
/-- a def with its promise -/
def DefOk (P : Program) (w : World) (K : PySem.W.Frag) (mg : MG) (base : Heap) (x : PySem.Str) (k : Nat) (ps : List PySem.Str) (dvs : List Val) (F : FD) : Prop := Arity F ps.length ∧ ∃ f fd, mg x = some (.ref f) ∧ PySem.W.keepIn K (.ref f) = true ∧
  (∃ dws ds, Binds K fd ps ds ∧ Vals dws ds ∧ ∀ φ H, RVs K mg φ H dvs dws) ∧ FnOk P w K mg base (L2.CX P w) k f fd ps (spD K mg ps.length F)
def MethOk (P : Program) (w : World) (K : PySem.W.Frag) (mg : MG) (base : Heap) (c m : PySem.Str) (k : Nat) (ps : List PySem.Str) (F : FD) : Prop := Arity F ps.length ∧ ∃ C f fd, mg c = some (.ref C) ∧ Cls K C ∧ Meth K C m f ∧ Binds K fd ps [] ∧ FnOk P w K mg base (L2.CX P w) k f fd ps (spD K mg ps.length F)
def InitOk (P : Program) (w : World) (K : PySem.W.Frag) (mg : MG) (base : Heap) (c : PySem.Str) (k : Nat) (ps : List PySem.Str) (F : FD) : Prop := Arity F ps.length ∧ ∃ C f fd, mg c = some (.ref C) ∧ Mk K C f ∧ Binds K fd ps [] ∧ FnOk P w K mg base (L2.CX P w) k f fd ps (spD K mg ps.length F)
/-- a module's constant -/
def GC (K : PySem.W.Frag) (mg : MG) (x : PySem.Str) (c : Val) : Prop := ∃ u v, mg x = some u ∧ RelV v u ∧ ∀ φ H, RV K mg φ H c v
section
variable {P : Program} {w : World} {K : PySem.W.Frag} {mg : MG} {base : Heap} {x c m qual : PySem.Str} {k j : Nat} {ps : List PySem.Str} {dvs : List Val} {F : FD}
theorem DefOk.cut (h : DefOk P w K mg base x k ps dvs F) : DefOk P w K mg base x k ps dvs (cutF F) := let ⟨a, f, fd, h1, h2, h3, h4⟩ := h; ⟨arity_cut a, f, fd, h1, h2, h3, ok_cut h4⟩
theorem MethOk.cut (h : MethOk P w K mg base c m k ps F) : MethOk P w K mg base c m k ps (cutF F) := let ⟨a, C, f, fd, h1, h2, h3, h4, h5⟩ := h; ⟨arity_cut a, C, f, fd, h1, h2, h3, h4, ok_cut h5⟩
end
section
variable {X : Cx} {W : WX} {E : XK} {j k : Nat} {ps : List PySem.Str} {dvs : List Val} {F : FD} {x c m f : PySem.Str} {p pos apos : Pos} {e o : Expr} {es : List Expr} {d : ED} {ds : AD} {cv : Val}
theorem de_gc (h : GC X.K X.mg x cv) (hg : Gl X x := by rfl) (hd : (x == ("__debug__" : PySem.Str)) = false := by decide) : DE X W (.Name x pos) (dC cv) := by
  obtain ⟨u, v, h1, h2, h3⟩ := h
  exact de_glob hg h1 h2 h3 hd
theorem de_c (h : DefOk X.prog X.w X.K X.mg X.base x j ps dvs F) (hr : Room k X.A) (hx : PassD X W (L2.CX X.prog X.w)) (ha : DA X W (e :: es) ds) (hj : j ≤ k := by omega) (hg : Gl X x := by rfl) (hdb : (x == ("__debug__" : PySem.Str)) = false := by decide)
    (he : starEach (e :: es) X.env = (false, eval e X.env) :: starEach es X.env := by rfl) (hpl : (backTo pos (starEach es X.env)).any (·.1) = false := by rfl) : DE X W (.Call (.Name x p) (e :: es) [] pos) (dCall F dvs ds) := by
  obtain ⟨ar, f, fd, h1, h2, ⟨dws, dss, hb, hd, hdv⟩, h4⟩ := h
  exact de_call h4 ar (hr.mono hj) hg h1 h2 hb hd hdv hx ha hdb he hpl
theorem de_k (h : InitOk X.prog X.w X.K X.mg X.base x j ps F) (hr : Room k X.A) (hx : Passes (L2.CX X.prog X.w) X E) (ha : DA X (wE E) (e :: es) ds) (hj : j + 1 ≤ k := by omega)
    (hg : Gl X x := by rfl) (hdb : (x == ("__debug__" : PySem.Str)) = false := by decide) (he : starEach (e :: es) X.env = (false, eval e X.env) :: starEach es X.env := by rfl) (hpl : (backTo pos (starEach es X.env)).any (·.1) = false := by rfl) :
    DE X (wE E) (.Call (.Name x p) (e :: es) [] pos) (dMake x F ds) := by
  obtain ⟨ar, C, f, fd, h1, h2, h3, h4⟩ := h
  exact de_make h2 h4 ar (hr.mono hj) h1 h3 hx ha hg hdb he hpl
theorem de_m {pl : Sem Bool} (h : MethOk X.prog X.w X.K X.mg X.base c m j ps F) (hr : Room k X.A) (hx : Passes (L2.CX X.prog X.w) X E) (he : DE X (wE E) o d) (ha : DA X (wE E) (e :: es) ds) (hj : j ≤ k := by omega)
    (hst : starEach (e :: es) X.env = (false, eval e X.env) :: starEach es X.env := by rfl) (hpl : (backTo pos (starEach es X.env)).any (·.1) = false := by rfl)
    (ht : eval (.Call (.Attribute o m apos) (e :: es) [] pos) X.env = (do
      let ov ← eval o X.env
      standAt apos.atName
      let (f, first) ← holding [ov] (getMethod ov m pl)
      callWith pos f first (backTo pos (starEach (e :: es) X.env)) (backToKw pos (keywordEach [] X.env))) := by rfl) :
    DE X (wE E) (.Call (.Attribute o m apos) (e :: es) [] pos) (dMeth c m F d ds) := by
  obtain ⟨ar, C, f, fd, h1, h2, h3, h4, h5⟩ := h
  exact de_meth he h2 h3 h1 h5 ar (hr.mono hj) h4 hx ha hst hpl ht
theorem RawFld.ok (h : RawFld X.K X.mg c f) : FldOk X c f := ⟨fun C e => by
  obtain ⟨C', h1, h2, h3⟩ := h
  rw [h1] at e
  cases e
  exact ⟨h2, h3⟩⟩
theorem hu_room (hr : Room k X.A) : X.A.units + 64 < cLine := by have := hr.un; omega
theorem hu_room' (hr : Room k X.A) : X.A.units + 64 < cLine := hu_room hr
end
end DL
namespace DL
open PySem PySem.Spec PyProof.Rows L2
theorem arity_none {n : Nat} : Arity (fun _ _ => none) n := fun _ _ _ h => by cases h
theorem none_ok {P : Program} {w : World} {K : PySem.W.Frag} {mg : MG} {base : Heap} {CX : CXT} {k : Nat} {f : Addr} {fd : FuncData} {ps : List PySem.Str} : FnOk P w K mg base CX k f fd ps (spD K mg ps.length (fun _ _ => none)) :=
  ⟨spD_len, fun _ _ _ _ _ _ _ _ _ _ _ _ _ ⟨_, _, _, _, _, _, _, _, h, _⟩ => by cases h⟩
end DL
set_option Elab.async false
set_option linter.all false
set_option maxRecDepth 100000
set_option maxHeartbeats 8000000
/-! The D layer, part 24: the comprehensions with their slots named. -/
namespace DL
open PySem PySem.Spec PyProof.Rows L2
section
variable {X : Cx} {W : WX} {elt kx vx tg iter tg1 iter1 : Expr} {ifs ifs1 : List Expr} {scope : Scope} {own : List (PySem.Str × Nat)} {vs vs1 : List Nat} {pos spos py p : Pos} {di di1 : ID} {g g1 : GD} {js js1 : List Nat} {tt tt1 : TD} {d dk : ED}
theorem de_lcV (hc : X.calm = true) (hN : X.N.Nodup) (hi : DI X W tg iter di) (ok : BlkOk X.N X.env.scope scope own) (hg : ∀ (s : Shared) (H : Hp) (C : Addr) (cl : List (PySem.Str × Addr)) (fp : List Addr), DG (X.blk s H scope (compEnvC scope cl C X.env) fp) tg g js) (ht : ∀ (s : Shared) (H : Hp) (C : Addr) (cl : List (PySem.Str × Addr)) (fp : List Addr), DTs (X.blk s H scope (compEnvC scope cl C X.env) fp) W0 ifs tt) (he : ∀ (s : Shared) (H : Hp) (C : Addr) (cl : List (PySem.Str × Addr)) (fp : List Addr), DE (X.blk s H scope (compEnvC scope cl C X.env) fp) W0 elt d) (hvs : own.map (·.2) = vs := by rfl) (hsub : ∀ j ∈ js, j ∈ vs := by decide) (hs : ∀ x, foldedSetIterable iter X.env x = pure x := by intro _; rfl) : DE X W (.ListComp elt [⟨tg, iter, ifs, 0⟩] scope pos) (dLc di g tt d vs) := by
  subst hvs
  exact de_lc hc hN hi ok hg ht he hsub hs
theorem ds_setLcV {i : Nat} {y : PySem.Str} (hc : X.calm = true) (hN : X.N.Nodup) (hi : DI X W tg iter di) (ok : BlkOk X.N X.env.scope scope own) (hg : ∀ (s : Shared) (H : Hp) (C : Addr) (cl : List (PySem.Str × Addr)) (fp : List Addr), DG (X.blk s H scope (compEnvC scope cl C X.env) fp) tg g js) (ht : ∀ (s : Shared) (H : Hp) (C : Addr) (cl : List (PySem.Str × Addr)) (fp : List Addr), DTs (X.blk s H scope (compEnvC scope cl C X.env) fp) W0 ifs tt) (he : ∀ (s : Shared) (H : Hp) (C : Addr) (cl : List (PySem.Str × Addr)) (fp : List Addr), DE (X.blk s H scope (compEnvC scope cl C X.env) fp) W0 elt d) (hy : X.N[i]? = some y := by rfl) (hyl : X.env.scope.names.lookup y = some .local := by rfl)
    (hsw : swapsWith (.ListComp elt [⟨tg, iter, ifs, 0⟩] scope pos) (some (.Name y py)) spos.line X.env = pure true := by exact sw_true rfl rfl rfl (by decide +kernel)) (hvs : own.map (·.2) = vs := by rfl) (hsub : ∀ j ∈ js, j ∈ vs := by decide) (hs : ∀ x, foldedSetIterable iter X.env x = pure x := by intro _; rfl) :
    DS X W (.Assign [.Name y py] (.ListComp elt [⟨tg, iter, ifs, 0⟩] scope pos) spos) (dSet i (dLc di g tt d vs)) := by
  subst hvs
  exact ds_setLc hc hN hi ok hg ht he hy hyl hsw hsub hs
theorem de_dcV (hc : X.calm = true) (hN : X.N.Nodup) (hi : DI X W tg iter di) (ok : BlkOk X.N X.env.scope scope own) (hg : ∀ (s : Shared) (H : Hp) (C : Addr) (cl : List (PySem.Str × Addr)) (fp : List Addr), DG (X.blk s H scope (compEnvC scope cl C X.env) fp) tg g js) (ht : ∀ (s : Shared) (H : Hp) (C : Addr) (cl : List (PySem.Str × Addr)) (fp : List Addr), DTs (X.blk s H scope (compEnvC scope cl C X.env) fp) W0 ifs tt) (hk : ∀ (s : Shared) (H : Hp) (C : Addr) (cl : List (PySem.Str × Addr)) (fp : List Addr), DE (X.blk s H scope (compEnvC scope cl C X.env) fp) W0 kx dk) (he : ∀ (s : Shared) (H : Hp) (C : Addr) (cl : List (PySem.Str × Addr)) (fp : List Addr), DE (X.blk s H scope (compEnvC scope cl C X.env) fp) W0 vx d) (hvs : own.map (·.2) = vs := by rfl) (hsub : ∀ j ∈ js, j ∈ vs := by decide) (hs : ∀ x, foldedSetIterable iter X.env x = pure x := by intro _; rfl) : DE X W (.DictComp kx vx [⟨tg, iter, ifs, 0⟩] scope pos) (dDc di g tt dk d vs) := by
  subst hvs
  exact de_dc hc hN hi ok hg ht hk he hsub hs
theorem de_lenSCV (hm : X.mg "len" = none) (hc : X.calm = true) (hN : X.N.Nodup) (hi : DI X W tg iter di) (ok : BlkOk X.N X.env.scope scope own) (hg : ∀ (s : Shared) (H : Hp) (C : Addr) (cl : List (PySem.Str × Addr)) (fp : List Addr), DG (X.blk s H scope (compEnvC scope cl C X.env) fp) tg g js) (ht : ∀ (s : Shared) (H : Hp) (C : Addr) (cl : List (PySem.Str × Addr)) (fp : List Addr), DTs (X.blk s H scope (compEnvC scope cl C X.env) fp) W0 ifs tt) (he : ∀ (s : Shared) (H : Hp) (C : Addr) (cl : List (PySem.Str × Addr)) (fp : List Addr), DE (X.blk s H scope (compEnvC scope cl C X.env) fp) W0 elt d) (hg2 : Gl X "len" := by rfl) (hvs : own.map (·.2) = vs := by rfl) (hsub : ∀ j ∈ js, j ∈ vs := by decide) (hs : ∀ x, foldedSetIterable iter X.env x = pure x := by intro _; rfl) : DE X W (.Call (.Name "len" p) [.SetComp elt [⟨tg, iter, ifs, 0⟩] scope pos] [] spos) (dLenSC di g tt d vs) := by
  subst hvs
  exact de_lenSC hm hc hN hi ok hg ht he hg2 hsub hs
theorem de_lc2V (hc : X.calm = true) (hN : X.N.Nodup) (hi : DI X W tg iter di) (ok : BlkOk X.N X.env.scope scope own) (hv : ∀ i ∈ vs1, i ∈ vs) (hg : ∀ (s : Shared) (H : Hp) (C : Addr) (cl : List (PySem.Str × Addr)) (fp : List Addr), DG (X.blk s H scope (compEnvC scope cl C X.env) fp) tg g js) (ht : ∀ (s : Shared) (H : Hp) (C : Addr) (cl : List (PySem.Str × Addr)) (fp : List Addr), DTs (X.blk s H scope (compEnvC scope cl C X.env) fp) W0 ifs tt) (hi1 : ∀ (s : Shared) (H : Hp) (C : Addr) (cl : List (PySem.Str × Addr)) (fp : List Addr), DI (X.blk s H scope (compEnvC scope cl C X.env) fp) W0 tg1 iter1 di1) (hg1 : ∀ (s : Shared) (H : Hp) (C : Addr) (cl : List (PySem.Str × Addr)) (fp : List Addr), DG (X.blk s H scope (compEnvC scope cl C X.env) fp) tg1 g1 js1) (ht1 : ∀ (s : Shared) (H : Hp) (C : Addr) (cl : List (PySem.Str × Addr)) (fp : List Addr), DTs (X.blk s H scope (compEnvC scope cl C X.env) fp) W0 ifs1 tt1) (he : ∀ (s : Shared) (H : Hp) (C : Addr) (cl : List (PySem.Str × Addr)) (fp : List Addr), DE (X.blk s H scope (compEnvC scope cl C X.env) fp) W0 elt d) (hvs : own.map (·.2) = vs := by rfl) (hsub : ∀ j ∈ js, j ∈ vs := by decide) (hs : ∀ x, foldedSetIterable iter X.env x = pure x := by intro _; rfl) (hsub1 : ∀ j ∈ js1, j ∈ vs1 := by decide)
    (hs1 : ∀ env x, foldedSetIterable iter1 env x = pure x := by intro _ _; rfl) : DE X W (.ListComp elt [⟨tg, iter, ifs, 0⟩, ⟨tg1, iter1, ifs1, 0⟩] scope pos) (dLc2 di g tt di1 g1 tt1 d vs vs1) := by
  subst hvs
  exact de_lc2 hc hN hi ok hv hg ht hi1 hg1 ht1 he hsub hsub1 hs hs1
end
end DL
set_option Elab.async false
set_option linter.all false
set_option maxRecDepth 100000
set_option maxHeartbeats 8000000
/-! The D layer, part 25: what the top has written, and the law's own end. -/
namespace DL
open PySem PySem.Spec PyProof.Rows L2

section
variable {K : PySem.W.Frag} {mg : MG} {h : Heap} {x qual c m : PySem.Str} {st : Stmt} {f C T : Addr} {oc tc kV doc pm cdv ct u : Value} {od td an : Option Addr} {osl tsl : Array (Option Value)} {n : Nat} {us : List Value}
theorem raw_def (KX : K.In h) (G : h.Ns mainGlobals mg) (a : PySem.W.nsIn K mainGlobals x = some (some (.ref f))) (l : K.lookup f = some ⟨oc, od, .func (PySem.W.fnOf x qual (defArgs st) (defBody st) (defScope st) .none kV doc pm an cdv ct), osl⟩)
    (co : PySem.W.codeIn K cdv qual = true) (k : PySem.W.keepIn K (.ref f) = true) : RawDef K mg x qual st := ⟨f, _, PySem.W.mg_of KX G a, fun_mk l co k⟩
theorem raw_defd {y : V} (KX : K.In h) (G : h.Ns mainGlobals mg) (a : PySem.W.nsIn K mainGlobals x = some (some (.ref f))) (l : K.lookup f = some ⟨oc, od, .func (PySem.W.fnOf x qual (defArgs st) (defBody st) (defScope st) (.ref T) kV doc pm an cdv ct), osl⟩)
    (co : PySem.W.codeIn K cdv qual = true) (k : PySem.W.keepIn K (.ref f) = true) (lt : K.lookup T = some ⟨tc, td, .seq #[u] n, tsl⟩) (r : RelV y u) : RawDefD K mg x qual st [y] :=
  ⟨f, _, PySem.W.mg_of KX G a, ⟨oc, od, .ref T, kV, doc, pm, an, cdv, ct, osl, rfl, l, co, .inr ⟨by simp, T, _, [u], n, rfl, lt, rfl, .cons r .nil⟩, .inl rfl⟩, k⟩
theorem raw_cls (pg : PySem.W.plainGet K C Str.empty = true) (hd : PySem.W.hasDictIn K C = true) (po : PySem.W.plainOver K C = true) (sa : PySem.W.findIn K (.ref C) "__setattr__" = some (some (.builtin "object.__setattr__"))) : Cls K C := ⟨pg, hd, po, sa⟩
theorem raw_meth (KX : K.In h) (G : h.Ns mainGlobals mg) (a : PySem.W.nsIn K mainGlobals c = some (some (.ref C))) (pg : PySem.W.plainGet K C Str.empty = true) (hd : PySem.W.hasDictIn K C = true) (po : PySem.W.plainOver K C = true) (sa : PySem.W.findIn K (.ref C) "__setattr__" = some (some (.builtin "object.__setattr__")))
    (fi : PySem.W.findIn K (.ref C) m = some (some (.ref f))) (fn : PySem.W.isFn K (.ref f) = true) (l : K.lookup f = some ⟨oc, od, .func (PySem.W.fnOf m qual (defArgs st) (defBody st) (defScope st) .none kV doc pm an cdv ct), osl⟩)
    (co : PySem.W.codeIn K cdv qual = true) (k : PySem.W.keepIn K (.ref f) = true) : RawMeth K mg c m qual st := ⟨C, f, _, PySem.W.mg_of KX G a, ⟨pg, hd, po, sa⟩, ⟨fi, fn, k⟩, fun_mk l co k⟩
theorem raw_init (KX : K.In h) (G : h.Ns mainGlobals mg) (a : PySem.W.nsIn K mainGlobals c = some (some (.ref C))) (mk : PySem.W.makesIn K C = true) (fi : PySem.W.findIn K (.ref C) "__init__" = some (some (.ref f))) (fn : PySem.W.isFn K (.ref f) = true) (kc : PySem.W.keepIn K (.ref C) = true)
    (l : K.lookup f = some ⟨oc, od, .func (PySem.W.fnOf "__init__" qual (defArgs st) (defBody st) (defScope st) .none kV doc pm an cdv ct), osl⟩) (co : PySem.W.codeIn K cdv qual = true) (k : PySem.W.keepIn K (.ref f) = true) : RawInit K mg c qual st :=
  ⟨C, f, _, PySem.W.mg_of KX G a, ⟨mk, fi, fn, kc⟩, fun_mk l co k⟩
theorem raw_fld (KX : K.In h) (G : h.Ns mainGlobals mg) (a : PySem.W.nsIn K mainGlobals c = some (some (.ref C))) (pg : PySem.W.plainGet K C Str.empty = true) (hd : PySem.W.hasDictIn K C = true) (po : PySem.W.plainOver K C = true) (sa : PySem.W.findIn K (.ref C) "__setattr__" = some (some (.builtin "object.__setattr__")))
    (nf : PySem.W.findIn K (.ref C) x = some none) : RawFld K mg c x := ⟨C, PySem.W.mg_of KX G a, ⟨pg, hd, po, sa⟩, nf⟩
theorem raw_int {i : Int} {t : Tok} (KX : K.In h) (G : h.Ns mainGlobals mg) (a : PySem.W.nsIn K mainGlobals x = some (some (.int i t))) : GC K mg x (.int i) := ⟨_, .int i, PySem.W.mg_of KX G a, ⟨t, rfl⟩, fun _ _ => .int⟩
theorem raw_str {i : PySem.Str} {t : Tok} (KX : K.In h) (G : h.Ns mainGlobals mg) (a : PySem.W.nsIn K mainGlobals x = some (some (.str i t))) : GC K mg x (.str i) := ⟨_, .str i, PySem.W.mg_of KX G a, ⟨t, rfl⟩, fun _ _ => .str⟩
theorem raw_tup {o : Obj} {xs : List Val} {vs : List V} (KX : K.In h) (G : h.Ns mainGlobals mg) (a : PySem.W.nsIn K mainGlobals x = some (some (.ref T))) (l : K.lookup T = some o) (ho : o = ⟨.type "tuple", none, .seq us.toArray n, tsl⟩) (hz : us.length ≤ 1000000) (r : Vals vs us) (rv : ∀ φ H, RVs K mg φ H xs vs) : GC K mg x (.tup xs) := by
  subst ho
  exact ⟨_, .ref T, PySem.W.mg_of KX G a, rfl, fun φ H => .tup (.inr ⟨_, us.toArray, n, l, rfl, rfl, rfl, by rw [List.size_toArray]; exact Nat.le_trans hz line1M, by simpa using r⟩) (rv φ H)⟩
end

/-- the law's own promise -/
def spLaw (K : PySem.W.Frag) : Sp := fun vs H Q _ => ∃ (a : Addr) (ns : List Int), vs = [.ref a] ∧ SqL K H a (ns.map V.int) ∧ ns.length ≤ 63 ∧ ∀ H', Q (.bl true) H'
theorem scr_rvs {K : PySem.W.Frag} {mg : MG} {φ : Own} {H : Hp} : ∀ ns : List Int, RVs K mg φ H (ns.map Val.int) (ns.map V.int)
  | [] => .nil
  | _ :: ns => .cons .int (scr_rvs ns)
theorem law_sp {K : PySem.W.Frag} {mg : MG} {F : FD} (math : ∀ ns : List Int, ns.length ≤ 63 → ∃ S', F [.scr (ns.map .int)] [] = some (.ok (.bl true), S')) (vs : List V) (H : Hp) (Q : VK) (E : XK) (h : spLaw K vs H Q E) : spD K mg 1 F vs H Q E := by
  obtain ⟨a, ns, rfl, hq, hl, q⟩ := h
  obtain ⟨S', e⟩ := math ns hl
  refine ⟨rfl, ⟨[], []⟩, [], _, _, S', ⟨rfl, List.nodup_nil, (fun a m => nomatch m), (fun a m => nomatch m), (fun i o a h => by simp at h)⟩, .cons (.scr (LstAt.of_nil hq) (scr_rvs ns)) .nil, e, fun φ' H' v s r rv => ?_⟩
  cases rv
  exact q H'
theorem walkD {l : PySem.W.OpenLaw} {k : Nat} {q : Program} {loose : List PySem.Str} {XP : (PySem.Str → Option Value) → Heap → Prop} {YP : World → Heap → Prop} {d : DefRec} {K : Params → PySem.W.Frag} {F : FD} (hn : l.most = some 63) (hdf : d.params.defaults = []) (hr : Room k callerA)
    (hY : ∀ (w : World) (h : Heap), YP w h → (K w.params).In h) (math : ∀ ns : List Int, ns.length ≤ 63 → ∃ S', F [.scr (ns.map .int)] [] = some (.ok (.bl true), S'))
    (hF : ∀ (w : World) (mg : MG) (fa : Addr) (h : Heap), (K w.params).In h → h.Ns mainGlobals mg → mg d.name = some (.ref fa) →
      ∃ fd : FuncData, (∀ (s : Shared) (u : Value), BindsTo s fd ⟨[u], []⟩ [("script", u)]) ∧ ∀ base : Heap, FnOk l.prog w (K w.params) mg base (L2.CX l.prog w) k fa fd ["script"] (spD (K w.params) mg 1 F)) :
    PySem.W.WalkO q loose XP YP l.row.toRowW d [] (fun f vs => PySem.call f vs) :=
  L2.walk_of (n := 63) (k := k) (x := "script") (CX := fun w => L2.CX l.prog w) (sp := fun w => spLaw (K w.params)) hn (by rw [sizeLine_eq]; decide) hdf hr hY (fun w mg fa h KX G hm => by
    obtain ⟨fd, hb, ho⟩ := hF w mg fa h KX G hm
    exact ⟨fd, hb, fun base _ _ => (ho base).imp fun vs H Q E hs => law_sp math vs H Q E hs⟩) (fun _ _ a ns hl _ hS => ⟨a, ns, rfl, hS, hl, fun _ => rfl⟩) fun w H s e s' ⟨_, _, _, _, _, _, _, _, _, _, _, _, hh⟩ => hh.elim
end DL
set_option Elab.async false
set_option linter.all false
set_option maxRecDepth 100000
/-! The D layer, part 26: the denotations' equations, step by step (each rest has a name, so that simp does not look into it). -/
namespace DL
open PySem PySem.Spec PyProof.Rows L2
section
variable {ρ : Slots} {S S1 S2 : Store} {x y z : Val} {xs ys : List Val} {b : Bool} {d e d1 d2 d3 : ED} {t u : TD} {ds : AD} {f g : F2} {sd se : SD} {i j : Nat}
/-! two operands -/
def kOp2b (f : F2) (x : Val) : Val → Store → Out Val := fun y S => ofO (f S x y) S
def kOp2 (f : F2) (db : ED) (ρ : Slots) : Val → Store → Out Val := fun x S => bindO (db ρ S) (kOp2b f x)
@[simp] theorem dOp2_eq : dOp2 f d e ρ S = bindO (d ρ S) (kOp2 f e ρ) := rfl
@[simp] theorem kOp2_eq : kOp2 f e ρ x S = bindO (e ρ S) (kOp2b f x) := rfl
@[simp] theorem kOp2b_eq : kOp2b f x y S = ofO (f S x y) S := rfl
def kUn (f : Val → Option Val) : Val → Store → Out Val := fun x S => ofO (f x) S
@[simp] theorem dUn_eq {f : Val → Option Val} : dUn f d ρ S = bindO (d ρ S) (kUn f) := rfl
@[simp] theorem kUn_eq {f : Val → Option Val} : kUn f x S = ofO (f x) S := rfl
theorem dVar_eq : dVar i ρ S = match ρ[i]? with | some (some x) => some (.ok x, S) | _ => none := rfl
@[simp] theorem dVar_0 {r : Slots} : dVar 0 (some x :: r) S = some (.ok x, S) := rfl
@[simp] theorem dVar_s {r : Slots} {o : Option Val} : dVar (i + 1) (o :: r) S = dVar i r S := rfl
@[simp] theorem dVar_1 {r : Slots} {o : Option Val} : dVar 1 (o :: r) S = dVar 0 r S := rfl
@[simp] theorem dVar_2 {r : Slots} {o : Option Val} : dVar 2 (o :: r) S = dVar 1 r S := rfl
@[simp] theorem dVar_3 {r : Slots} {o : Option Val} : dVar 3 (o :: r) S = dVar 2 r S := rfl
@[simp] theorem dVar_4 {r : Slots} {o : Option Val} : dVar 4 (o :: r) S = dVar 3 r S := rfl
@[simp] theorem dVar_5 {r : Slots} {o : Option Val} : dVar 5 (o :: r) S = dVar 4 r S := rfl
@[simp] theorem dVar_6 {r : Slots} {o : Option Val} : dVar 6 (o :: r) S = dVar 5 r S := rfl
@[simp] theorem dVar_7 {r : Slots} {o : Option Val} : dVar 7 (o :: r) S = dVar 6 r S := rfl
@[simp] theorem dVar_8 {r : Slots} {o : Option Val} : dVar 8 (o :: r) S = dVar 7 r S := rfl
@[simp] theorem dVar_9 {r : Slots} {o : Option Val} : dVar 9 (o :: r) S = dVar 8 r S := rfl
@[simp] theorem dVar_10 {r : Slots} {o : Option Val} : dVar 10 (o :: r) S = dVar 9 r S := rfl
@[simp] theorem dVar_11 {r : Slots} {o : Option Val} : dVar 11 (o :: r) S = dVar 10 r S := rfl
@[simp] theorem dVar_12 {r : Slots} {o : Option Val} : dVar 12 (o :: r) S = dVar 11 r S := rfl
@[simp] theorem dC_eq : dC x ρ S = some (.ok x, S) := rfl
/-! tests -/
def kTv : Val → Store → Out Bool := fun x S => match x with
  | .bl b => some (.ok b, S)
  | _ => none
@[simp] theorem dTv_eq : dTv d ρ S = bindO (d ρ S) kTv := rfl
@[simp] theorem kTv_bl : kTv (.bl b) S = some (.ok b, S) := rfl
def kTt : Val → Store → Out Bool := fun x S => ofO (truF S x) S
@[simp] theorem dTt_eq : dTt d ρ S = bindO (d ρ S) kTt := rfl
@[simp] theorem kTt_eq : kTt x S = ofO (truF S x) S := rfl
def kNotT : Bool → Store → Out Bool := fun b S => some (.ok (!b), S)
@[simp] theorem dNotT_eq : dNotT t ρ S = bindO (t ρ S) kNotT := rfl
@[simp] theorem kNotT_eq : kNotT b S = some (.ok (!b), S) := rfl
def kAndT (u : TD) (ρ : Slots) : Bool → Store → Out Bool := fun b S => if b = true then u ρ S else some (.ok false, S)
@[simp] theorem dAndT_eq : dAndT t u ρ S = bindO (t ρ S) (kAndT u ρ) := rfl
@[simp] theorem kAndT_t : kAndT u ρ true S = u ρ S := rfl
@[simp] theorem kAndT_f : kAndT u ρ false S = some (.ok false, S) := rfl
def kOrT (u : TD) (ρ : Slots) : Bool → Store → Out Bool := fun b S => if b = true then some (.ok true, S) else u ρ S
@[simp] theorem dOrT_eq : dOrT t u ρ S = bindO (t ρ S) (kOrT u ρ) := rfl
@[simp] theorem kOrT_t : kOrT u ρ true S = some (.ok true, S) := rfl
@[simp] theorem kOrT_f : kOrT u ρ false S = u ρ S := rfl
def kNotV : Val → Store → Out Val := fun x S => match x with
  | .bl b => some (.ok (.bl (!b)), S)
  | _ => none
@[simp] theorem dNotV_eq : dNotV d ρ S = bindO (d ρ S) kNotV := rfl
@[simp] theorem kNotV_bl : kNotV (.bl b) S = some (.ok (.bl (!b)), S) := rfl
def kAndV (e : ED) (ρ : Slots) : Val → Store → Out Val := fun x S => match x with
  | .bl true => e ρ S
  | .bl false => some (.ok (.bl false), S)
  | _ => none
@[simp] theorem dAndV_eq : dAndV d e ρ S = bindO (d ρ S) (kAndV e ρ) := by
  unfold dAndV
  congr 1
@[simp] theorem kAndV_t : kAndV e ρ (.bl true) S = e ρ S := rfl
@[simp] theorem kAndV_f : kAndV e ρ (.bl false) S = some (.ok (.bl false), S) := rfl
def kOrV (e : ED) (ρ : Slots) : Val → Store → Out Val := fun x S => match x with
  | .bl true => some (.ok (.bl true), S)
  | .bl false => e ρ S
  | _ => none
@[simp] theorem dOrV_eq : dOrV d e ρ S = bindO (d ρ S) (kOrV e ρ) := by
  unfold dOrV
  congr 1
@[simp] theorem kOrV_t : kOrV e ρ (.bl true) S = some (.ok (.bl true), S) := rfl
@[simp] theorem kOrV_f : kOrV e ρ (.bl false) S = e ρ S := rfl
def kIf (d e : ED) (ρ : Slots) : Bool → Store → Out Val := fun b S => if b = true then d ρ S else e ρ S
@[simp] theorem dIf_eq : dIf t d e ρ S = bindO (t ρ S) (kIf d e ρ) := rfl
@[simp] theorem kIf_t : kIf d e ρ true S = d ρ S := rfl
@[simp] theorem kIf_f : kIf d e ρ false S = e ρ S := rfl
/-! chains -/
def kCh3 (g : F2) (y : Val) : Val → Store → Out Val := fun z S => ofO (g S y z) S
def selCh (g : F2) (dc : ED) (ρ : Slots) (y : Val) (S : Store) : Option Val → Out Val
  | some (.bl true) => bindO (dc ρ S) (kCh3 g y)
  | some (.bl false) => some (.ok (.bl false), S)
  | _ => none
def kCh2 (f g : F2) (dc : ED) (ρ : Slots) (x : Val) : Val → Store → Out Val := fun y S => selCh g dc ρ y S (f S x y)
def kCh1 (f g : F2) (db dc : ED) (ρ : Slots) : Val → Store → Out Val := fun x S => bindO (db ρ S) (kCh2 f g dc ρ x)
@[simp] theorem dChain_eq : dChain f g d1 d2 d3 ρ S = bindO (d1 ρ S) (kCh1 f g d2 d3 ρ) := rfl
@[simp] theorem kCh1_eq : kCh1 f g d2 d3 ρ x S = bindO (d2 ρ S) (kCh2 f g d3 ρ x) := rfl
@[simp] theorem kCh2_eq : kCh2 f g d3 ρ x y S = selCh g d3 ρ y S (f S x y) := rfl
@[simp] theorem selCh_t : selCh g d3 ρ y S (some (.bl true)) = bindO (d3 ρ S) (kCh3 g y) := rfl
@[simp] theorem selCh_f : selCh g d3 ρ y S (some (.bl false)) = some (.ok (.bl false), S) := rfl
@[simp] theorem kCh3_eq : kCh3 g y z S = ofO (g S y z) S := rfl
/-! argument lists -/
@[simp] theorem dNil_eq : dNil ρ S = some (.ok [], S) := rfl
def kCons2 (x : Val) : List Val → Store → Out (List Val) := fun xs S => some (.ok (x :: xs), S)
def kCons (ds : AD) (ρ : Slots) : Val → Store → Out (List Val) := fun x S => bindO (ds ρ S) (kCons2 x)
@[simp] theorem dCons_eq : dCons d ds ρ S = bindO (d ρ S) (kCons ds ρ) := rfl
@[simp] theorem kCons_eq : kCons ds ρ x S = bindO (ds ρ S) (kCons2 x) := rfl
@[simp] theorem kCons2_eq : kCons2 x xs S = some (.ok (x :: xs), S) := rfl
def kStar2 (ys : List Val) : List Val → Store → Out (List Val) := fun xs S => some (.ok (ys ++ xs), S)
def kStar (ds : AD) (ρ : Slots) : Val → Store → Out (List Val) := fun x S => match seqAt S x with
  | some ys => bindO (ds ρ S) (kStar2 ys)
  | none => none
@[simp] theorem dStar_eq : dStar d ds ρ S = bindO (d ρ S) (kStar ds ρ) := rfl
theorem kStar_of (h : seqAt S x = some ys) : kStar ds ρ x S = bindO (ds ρ S) (kStar2 ys) := by unfold kStar; rw [h]
@[simp] theorem kStar_tup : kStar ds ρ (.tup ys) S = bindO (ds ρ S) (kStar2 ys) := rfl
@[simp] theorem kStar_vl : kStar ds ρ (.vl ys) S = bindO (ds ρ S) (kStar2 ys) := rfl
@[simp] theorem kStar2_eq : kStar2 ys xs S = some (.ok (ys ++ xs), S) := rfl
def kTup : List Val → Store → Out Val := fun xs S => if xs.length ≤ 1000000 then some (.ok (.tup xs), S) else none
@[simp] theorem dTup_eq : dTup ds ρ S = bindO (ds ρ S) kTup := rfl
theorem kTup_of (h : xs.length ≤ 1000000) : kTup xs S = some (.ok (.tup xs), S) := if_pos h
@[simp] theorem kTup_0 : kTup [] S = some (.ok (.tup []), S) := rfl
@[simp] theorem kTup_1 {a : Val} : kTup [a] S = some (.ok (.tup [a]), S) := rfl
@[simp] theorem kTup_2 {a b : Val} : kTup [a, b] S = some (.ok (.tup [a, b]), S) := rfl
@[simp] theorem kTup_3 {a b c : Val} : kTup [a, b, c] S = some (.ok (.tup [a, b, c]), S) := rfl
@[simp] theorem kTup_6 {a b c d e f : Val} : kTup [a, b, c, d, e, f] S = some (.ok (.tup [a, b, c, d, e, f]), S) := rfl
def kVl : List Val → Store → Out Val := fun xs S => if xs.length ≤ 1000000 then some (.ok (.vl xs), S) else none
@[simp] theorem dVl_eq : dVl ds ρ S = bindO (ds ρ S) kVl := rfl
theorem kVl_of (h : xs.length ≤ 1000000) : kVl xs S = some (.ok (.vl xs), S) := if_pos h
@[simp] theorem kVl_0 : kVl [] S = some (.ok (.vl []), S) := rfl
@[simp] theorem kVl_1 {a : Val} : kVl [a] S = some (.ok (.vl [a]), S) := rfl
@[simp] theorem kVl_2 {a b : Val} : kVl [a, b] S = some (.ok (.vl [a, b]), S) := rfl
@[simp] theorem kVl_3 {a b c : Val} : kVl [a, b, c] S = some (.ok (.vl [a, b, c]), S) := rfl
@[simp] theorem kVl_4 {a b c d : Val} : kVl [a, b, c, d] S = some (.ok (.vl [a, b, c, d]), S) := rfl
@[simp] theorem kVl_5 {a b c d e : Val} : kVl [a, b, c, d, e] S = some (.ok (.vl [a, b, c, d, e]), S) := rfl
def kLst : List Val → Store → Out Val := fun xs S => if xs.length ≤ 1000000 then some (.ok (.obj S.length), S ++ [.lst xs]) else none
@[simp] theorem dLst_eq : dLst ds ρ S = bindO (ds ρ S) kLst := rfl
theorem kLst_of (h : xs.length ≤ 1000000) : kLst xs S = some (.ok (.obj S.length), S ++ [.lst xs]) := if_pos h
@[simp] theorem kLst_0 : kLst [] S = some (.ok (.obj S.length), S ++ [.lst []]) := rfl
@[simp] theorem kLst_1 {a : Val} : kLst [a] S = some (.ok (.obj S.length), S ++ [.lst [a]]) := rfl
@[simp] theorem kLst_2 {a b : Val} : kLst [a, b] S = some (.ok (.obj S.length), S ++ [.lst [a, b]]) := rfl
/-! slices, fields -/
@[simp] theorem dNoPart_eq : dNoPart ρ S = some (.ok none, S) := rfl
def kPart : Val → Store → Out (Option Int) := fun x S => match x with
  | .int i => some (.ok (some i), S)
  | _ => none
@[simp] theorem dPart_eq : dPart d ρ S = bindO (d ρ S) kPart := rfl
@[simp] theorem kPart_int {n : Int} : kPart (.int n) S = some (.ok (some n), S) := rfl
def kSl3 (x : Val) (l : Option Int) : Option Int → Store → Out Val := fun u S => ofO (slF S x l u) S
def kSl2 (hi : PD) (ρ : Slots) (x : Val) : Option Int → Store → Out Val := fun l S => bindO (hi ρ S) (kSl3 x l)
def kSl1 (lo hi : PD) (ρ : Slots) : Val → Store → Out Val := fun x S => bindO (lo ρ S) (kSl2 hi ρ x)
@[simp] theorem dSl_eq {lo hi : PD} : dSl d lo hi ρ S = bindO (d ρ S) (kSl1 lo hi ρ) := rfl
@[simp] theorem kSl1_eq {lo hi : PD} : kSl1 lo hi ρ x S = bindO (lo ρ S) (kSl2 hi ρ x) := rfl
@[simp] theorem kSl2_eq {hi : PD} {l : Option Int} : kSl2 hi ρ x l S = bindO (hi ρ S) (kSl3 x l) := rfl
@[simp] theorem kSl3_eq {l u : Option Int} : kSl3 x l u S = ofO (slF S x l u) S := rfl
def kFld (c f : PySem.Str) : Val → Store → Out Val := fun x S => ofO (fldF c f S x) S
@[simp] theorem dFld_eq {c f : PySem.Str} : dFld c f d ρ S = bindO (d ρ S) (kFld c f) := rfl
@[simp] theorem kFld_eq {c f : PySem.Str} : kFld c f x S = ofO (fldF c f S x) S := rfl
/-! calls -/
def kCall (F : FD) (dvs : List Val) : List Val → Store → Out Val := fun xs S => F (xs ++ dvs) S
@[simp] theorem dCall_eq {F : FD} {dvs : List Val} : dCall F dvs ds ρ S = bindO (ds ρ S) (kCall F dvs) := rfl
@[simp] theorem kCall_eq {F : FD} {dvs : List Val} : kCall F dvs xs S = F (xs ++ dvs) S := rfl
def kMeth2 (F : FD) (x : Val) : List Val → Store → Out Val := fun ys S => F (x :: ys) S
def kMeth (c m : PySem.Str) (F : FD) (ds : AD) (ρ : Slots) : Val → Store → Out Val := fun x S => match insAt S x with
  | some (c', ns, xs) => if c' = c ∧ fget m ns xs = none then bindO (ds ρ S) (kMeth2 F x) else none
  | none => none
@[simp] theorem dMeth_eq {c m : PySem.Str} {F : FD} : dMeth c m F d ds ρ S = bindO (d ρ S) (kMeth c m F ds ρ) := rfl
@[simp] theorem kMeth2_eq {F : FD} : kMeth2 F x ys S = F (x :: ys) S := rfl
theorem kMeth_of {c m : PySem.Str} {F : FD} {ns : List PySem.Str} (h : insAt S x = some (c, ns, xs)) (h2 : fget m ns xs = none) : kMeth c m F ds ρ x S = bindO (ds ρ S) (kMeth2 F x) := by unfold kMeth; rw [h]; exact if_pos ⟨rfl, h2⟩
def madeD (n : Nat) : Out Val → Out Val
  | some (.ok .non, S2) => some (.ok (.obj n), S2)
  | some (.ex c ns xs, S2) => some (.ex c ns xs, S2)
  | _ => none
@[simp] theorem madeD_ok {n : Nat} : madeD n (some (.ok .non, S)) = some (.ok (.obj n), S) := rfl
def kMake (c : PySem.Str) (F : FD) : List Val → Store → Out Val := fun xs S => madeD S.length (F (.obj S.length :: xs) (S ++ [.ins c [] []]))
@[simp] theorem dMake_eq {c : PySem.Str} {F : FD} : dMake c F ds ρ S = bindO (ds ρ S) (kMake c F) := rfl
@[simp] theorem kMake_eq {c : PySem.Str} {F : FD} : kMake c F xs S = madeD S.length (F (.obj S.length :: xs) (S ++ [.ins c [] []])) := rfl
def kB (f : Fb) : List Val → Store → Out Val := fun xs S => ofO (f S xs) S
@[simp] theorem dB_eq {f : Fb} : dB f ds ρ S = bindO (ds ρ S) (kB f) := rfl
@[simp] theorem kB_eq {f : Fb} : kB f xs S = ofO (f S xs) S := rfl
def kIsi (T : String) : Val → Store → Out Val := fun x S => ofO (isiF T S x) S
@[simp] theorem dIsi_eq {T : String} : dIsi T d ρ S = bindO (d ρ S) (kIsi T) := rfl
@[simp] theorem kIsi_eq {T : String} : kIsi T x S = ofO (isiF T S x) S := rfl
def kIxD2 (x : Val) : Val → Store → Out Val := fun y S => match dctAt S x, keyOf y with
  | some (ks, xs), some k => ofO (dget k ks xs) S
  | _, _ => none
def kIxD (e : ED) (ρ : Slots) : Val → Store → Out Val := fun x S => bindO (e ρ S) (kIxD2 x)
@[simp] theorem dIxD_eq : dIxD d e ρ S = bindO (d ρ S) (kIxD e ρ) := rfl
@[simp] theorem kIxD_eq : kIxD e ρ x S = bindO (e ρ S) (kIxD2 x) := rfl
@[simp] theorem kIxD2_vd {ks : List Key} {z : PySem.Str} : kIxD2 (.vd ks xs) (.str z) S = ofO (dget (.inr z) ks xs) S := rfl
def kSort : List Val → Store → Out Val := fun vs S => match vs with
  | [x] => match sortF S x with
    | some ys => some (.ok (.vl ys), S)
    | none => none
  | _ => none
@[simp] theorem dSort_eq : dSort ds ρ S = bindO (ds ρ S) kSort := rfl
theorem kSort_of (h : sortF S x = some ys) : kSort [x] S = some (.ok (.vl ys), S) := by unfold kSort; simp only [h]
def kTIdx2 (xs : List Val) : List Val → Store → Out Val := fun vs S => match strsOf xs, vs with
  | some ys, [.str z] => match idxS z ys with
    | some j => some (.ok (.int j), S)
    | none => none
  | _, _ => none
def kTIdx (ds : AD) (ρ : Slots) : Val → Store → Out Val := fun x S => match x with
  | .tup xs => bindO (ds ρ S) (kTIdx2 xs)
  | _ => none
@[simp] theorem dTIdx_eq : dTIdx d ds ρ S = bindO (d ρ S) (kTIdx ds ρ) := rfl
@[simp] theorem kTIdx_tup : kTIdx ds ρ (.tup xs) S = bindO (ds ρ S) (kTIdx2 xs) := rfl
@[simp] theorem kTIdx2_eq {z : PySem.Str} : kTIdx2 xs [.str z] S = match strsOf xs with
  | some ys => match idxS z ys with
    | some j => some (.ok (.int j), S)
    | none => none
  | none => none := by unfold kTIdx2; cases strsOf xs <;> rfl
@[simp] theorem dCut_eq : dCut d ρ S = cutO S (d ρ S) := rfl
/-! what is walked -/
def kSeqI : Val → Store → Out Its := fun x S => match seqAt S x with
  | some xs => some (.ok ⟨xs, fun S2 => seqAt S2 x = some xs⟩, S)
  | none => none
@[simp] theorem dSeqI_eq : dSeqI d ρ S = bindO (d ρ S) kSeqI := rfl
theorem kSeqI_of (h : seqAt S x = some xs) : kSeqI x S = some (.ok ⟨xs, fun S2 => seqAt S2 x = some xs⟩, S) := by unfold kSeqI; rw [h]
@[simp] theorem kSeqI_tup : kSeqI (.tup xs) S = some (.ok ⟨xs, fun _ => True⟩, S) := by unfold kSeqI; simp [seqAt]
@[simp] theorem kSeqI_vl : kSeqI (.vl xs) S = some (.ok ⟨xs, fun _ => True⟩, S) := by unfold kSeqI; simp [seqAt, listAt]
@[simp] theorem kSeqI_scr : kSeqI (.scr xs) S = some (.ok ⟨xs, fun _ => True⟩, S) := by unfold kSeqI; simp [seqAt, listAt]
/-- small enough (stuck for the kernel: it must not count to a million) -/
def rngP (n : Int) : Prop := -1000000 < n ∧ n < 1000000
noncomputable def rngE (n : Int) (S : Store) : Out Its := @ite _ (rngP n) (Classical.propDecidable _) (some (.ok ⟨(List.range n.toNat).map fun (i : Nat) => .int i, fun _ => True⟩, S)) none
noncomputable def kRange1 : Val → Store → Out Its := fun x S => match x with
  | .int n => rngE n S
  | _ => none
@[simp] theorem dRange1_eq : dRange1 d ρ S = bindO (d ρ S) kRange1 := by
  unfold dRange1
  congr 1
  funext x S
  cases x <;> first | rfl | skip
  rename_i n
  show (if -1000000 < n ∧ n < 1000000 then _ else _) = rngE n S
  unfold rngE rngP
  by_cases h : -1000000 < n ∧ n < 1000000
  · rw [if_pos h, if_pos h]
  · rw [if_neg h, if_neg h]
theorem kRange1_of {n : Int} (h : 0 ≤ n) (h2 : n < 1000000) : kRange1 (.int n) S = some (.ok ⟨(List.range n.toNat).map fun (i : Nat) => .int i, fun _ => True⟩, S) := by
  show rngE n S = _
  unfold rngE rngP
  exact if_pos ⟨by omega, h2⟩
theorem kRange1_nat {n : Nat} (h2 : n < 1000000) : kRange1 (.int n) S = some (.ok ⟨(List.range n).map fun (i : Nat) => .int i, fun _ => True⟩, S) := by
  rw [kRange1_of (by omega) (by omega), Int.toNat_natCast]
def kEnumI : List Val → Store → Out Its := fun vs S => match vs with
  | [x] => match seqAt S x with
    | some xs => some (.ok ⟨enumV xs, fun S2 => seqAt S2 x = some xs⟩, S)
    | none => none
  | _ => none
@[simp] theorem dEnumI_eq : dEnumI ds ρ S = bindO (ds ρ S) kEnumI := rfl
@[simp] theorem kEnumI_tup : kEnumI [.tup xs] S = some (.ok ⟨enumV xs, fun _ => True⟩, S) := by unfold kEnumI; simp [seqAt]
@[simp] theorem kEnumI_vl : kEnumI [.vl xs] S = some (.ok ⟨enumV xs, fun _ => True⟩, S) := by unfold kEnumI; simp [seqAt, listAt]
def kZipI : List Val → Store → Out Its := fun vs S => match vs with
  | [x, y] => match seqAt S x, seqAt S y with
    | some xs, some ys => some (.ok ⟨zipV xs ys, fun S2 => seqAt S2 x = some xs ∧ seqAt S2 y = some ys⟩, S)
    | _, _ => none
  | _ => none
@[simp] theorem dZipI_eq : dZipI ds ρ S = bindO (ds ρ S) kZipI := rfl
@[simp] theorem kZipI_vl : kZipI [.vl xs, .vl ys] S = some (.ok ⟨zipV xs ys, fun _ => True⟩, S) := by unfold kZipI; simp [seqAt, listAt]
def kStrI : Val → Store → Out Its := fun x S => match x with
  | .str z => some (.ok ⟨z.cps.toList.map fun c => .str ⟨#[c]⟩, fun _ => True⟩, S)
  | _ => none
@[simp] theorem dStrI_eq : dStrI d ρ S = bindO (d ρ S) kStrI := rfl
@[simp] theorem kStrI_str {z : PySem.Str} : kStrI (.str z) S = some (.ok ⟨z.cps.toList.map fun c => .str ⟨#[c]⟩, fun _ => True⟩, S) := rfl
@[simp] theorem dYes_eq : dYes ρ S = some (.ok true, S) := rfl
/-! comprehensions -/
def lcE : Option (List Val × Store) → Out Val
  | some (ys, S2) => if ys.length ≤ 1000000 then some (.ok (.vl ys), S2) else none
  | none => none
theorem lcE_of (h : ys.length ≤ 1000000) : lcE (some (ys, S)) = some (.ok (.vl ys), S) := if_pos h
noncomputable def kLc (g : GD) (tt : TD) (d : ED) (vs : List Nat) (ρ : Slots) : Its → Store → Out Val := fun t S => lcE (lcL t.chk g tt d (wipeD ρ vs) t.xs S)
@[simp] theorem dLc_eq {di : ID} {g : GD} {vs : List Nat} : dLc di g t d vs ρ S = bindO (di ρ S) (kLc g t d vs ρ) := rfl
@[simp] theorem kLc_eq {g : GD} {vs : List Nat} {ti : Its} : kLc g t d vs ρ ti S = lcE (lcL ti.chk g t d (wipeD ρ vs) ti.xs S) := rfl
noncomputable def kLc2 (g : GD) (tt : TD) (di1 : ID) (g1 : GD) (tt1 : TD) (d : ED) (vs vs1 : List Nat) (ρ : Slots) : Its → Store → Out Val := fun t S => lcE (lc2L t.chk g tt di1 g1 tt1 d vs1 (wipeD ρ vs) t.xs S)
@[simp] theorem dLc2_eq {di di1 : ID} {g g1 : GD} {tt1 : TD} {vs vs1 : List Nat} : dLc2 di g t di1 g1 tt1 d vs vs1 ρ S = bindO (di ρ S) (kLc2 g t di1 g1 tt1 d vs vs1 ρ) := rfl
@[simp] theorem kLc2_eq {di1 : ID} {g g1 : GD} {tt1 : TD} {vs vs1 : List Nat} {ti : Its} : kLc2 g t di1 g1 tt1 d vs vs1 ρ ti S = lcE (lc2L ti.chk g t di1 g1 tt1 d vs1 (wipeD ρ vs) ti.xs S) := rfl
def dcE : Option (List (Key × Val) × Store) → Out Val
  | some (ys, S2) => if ys.length ≤ 1000000 ∧ (ys.map (·.1)).Nodup then some (.ok (.vd (ys.map (·.1)) (ys.map (·.2))), S2) else none
  | none => none
noncomputable def kDc (g : GD) (tt : TD) (dk d : ED) (vs : List Nat) (ρ : Slots) : Its → Store → Out Val := fun t S => dcE (dcL t.chk g tt dk d (wipeD ρ vs) t.xs S)
@[simp] theorem dDc_eq {di : ID} {g : GD} {vs : List Nat} : dDc di g t d1 d vs ρ S = bindO (di ρ S) (kDc g t d1 d vs ρ) := rfl
@[simp] theorem kDc_eq {g : GD} {vs : List Nat} {ti : Its} : kDc g t d1 d vs ρ ti S = dcE (dcL ti.chk g t d1 d (wipeD ρ vs) ti.xs S) := rfl
def lsE : Option (List Val × Store) → Out Val
  | some (ys, S2) => match keysOf ys with
    | some ks => if ks.length ≤ 3000 then some (.ok (.int (dist ks).length), S2) else none
    | none => none
  | none => none
noncomputable def kLenSC (g : GD) (tt : TD) (d : ED) (vs : List Nat) (ρ : Slots) : Its → Store → Out Val := fun t S => lsE (lcL t.chk g tt d (wipeD ρ vs) t.xs S)
@[simp] theorem dLenSC_eq {di : ID} {g : GD} {vs : List Nat} : dLenSC di g t d vs ρ S = bindO (di ρ S) (kLenSC g t d vs ρ) := rfl
@[simp] theorem kLenSC_eq {g : GD} {vs : List Nat} {ti : Its} : kLenSC g t d vs ρ ti S = lsE (lcL ti.chk g t d (wipeD ρ vs) ti.xs S) := rfl
def kLenSet : Val → Store → Out Val := fun x S => match (seqAt S x).bind keysOf with
  | some ks => if ks.length ≤ 4000 then some (.ok (.int (dist ks).length), S) else none
  | none => none
@[simp] theorem dLenSet_eq : dLenSet d ρ S = bindO (d ρ S) kLenSet := rfl
/-! statements -/
@[simp] theorem dSkip_eq : dSkip ρ S = some (.nx ρ, S) := rfl
@[simp] theorem dSeq_eq : dSeq sd se ρ S = thenS (sd ρ S) se := rfl
def kExpr (ρ : Slots) : Val → Store → SOut := fun _ S => some (.nx ρ, S)
@[simp] theorem dExpr_eq : dExpr d ρ S = liftE ρ (d ρ S) (kExpr ρ) := rfl
@[simp] theorem kExpr_eq : kExpr ρ x S = some (.nx ρ, S) := rfl
def kRet : Val → Store → SOut := fun x S => some (.rt x, S)
@[simp] theorem dRet_eq : dRet d ρ S = liftE ρ (d ρ S) kRet := rfl
@[simp] theorem kRet_eq : kRet x S = some (.rt x, S) := rfl
@[simp] theorem dRetN_eq : dRetN ρ S = some (.rt .non, S) := rfl
def kSet (i : Nat) (ρ : Slots) : Val → Store → SOut := fun x S => some (.nx (ρ.set i (some x)), S)
@[simp] theorem dSet_eq : dSet i d ρ S = liftE ρ (d ρ S) (kSet i ρ) := rfl
@[simp] theorem kSet_eq : kSet i ρ x S = some (.nx (ρ.set i (some x)), S) := rfl
def kIfS (sd se : SD) (ρ : Slots) : Bool → Store → SOut := fun b S => if b = true then sd ρ S else se ρ S
@[simp] theorem dIfS_eq : dIfS t sd se ρ S = liftE ρ (t ρ S) (kIfS sd se ρ) := rfl
@[simp] theorem kIfS_t : kIfS sd se ρ true S = sd ρ S := rfl
@[simp] theorem kIfS_f : kIfS sd se ρ false S = se ρ S := rfl
@[simp] theorem dBreak_eq : dBreak ρ S = some (.bk ρ, S) := rfl
@[simp] theorem dCont_eq : dCont ρ S = some (.ct ρ, S) := rfl
def asgE (S : Store) : Option Slots → SOut
  | some ρ1 => some (.nx ρ1, S)
  | none => none
@[simp] theorem asgE_some {r : Slots} : asgE S (some r) = some (.nx r, S) := rfl
def kAsg (g : GD) (ρ : Slots) : Val → Store → SOut := fun x S => asgE S (g x ρ)
@[simp] theorem dAsg_eq {g : GD} : dAsg g d ρ S = liftE ρ (d ρ S) (kAsg g ρ) := by
  unfold dAsg
  congr 1
@[simp] theorem kAsg_eq {g : GD} : kAsg g ρ x S = asgE S (g x ρ) := rfl
@[simp] theorem gN_eq : gN i x ρ = some (ρ.set i (some x)) := rfl
@[simp] theorem gT_2 {g h : GD} : gT 2 (gCons' g (gCons' h gNil')) (.tup [x, y]) ρ = (g x ρ).bind fun r => h y r := by
  simp only [gT, gCons', gNil']
  cases g x ρ with
  | none => rfl
  | some r => simp; cases h y r <;> rfl
@[simp] theorem gT_3 {g h k : GD} : gT 3 (gCons' g (gCons' h (gCons' k gNil'))) (.tup [x, y, z]) ρ = (g x ρ).bind fun r => (h y r).bind fun q => k z q := by
  simp only [gT, gCons', gNil']
  cases g x ρ with
  | none => rfl
  | some r => cases h1 : h y r with
    | none => simp [h1]
    | some q => simp [h1]; cases k z q <;> rfl
def kPar (i j : Nat) (ρ : Slots) : List Val → Store → SOut := fun xs S => match xs with
  | [x, y] => some (.nx ((ρ.set i (some x)).set j (some y)), S)
  | _ => none
@[simp] theorem dPar_eq : dPar i j ds ρ S = liftE ρ (ds ρ S) (kPar i j ρ) := rfl
@[simp] theorem kPar_eq : kPar i j ρ [x, y] S = some (.nx ((ρ.set i (some x)).set j (some y)), S) := rfl
def kMatch (cs : CD) (ρ : Slots) : Val → Store → SOut := fun x S => mcL cs x ρ S
@[simp] theorem dMatch_eq {cs : CD} : dMatch d cs ρ S = liftE ρ (d ρ S) (kMatch cs ρ) := rfl
@[simp] theorem kMatch_eq {cs : CD} : kMatch cs ρ x S = mcL cs x ρ S := rfl
noncomputable def kFor (g : GD) (b : SD) (ρ : Slots) : Its → Store → SOut := fun t S => forL t.chk g b t.xs ρ S
@[simp] theorem dFor_eq {di : ID} {g : GD} : dFor di g sd ρ S = liftE ρ (di ρ S) (kFor g sd ρ) := rfl
@[simp] theorem kFor_eq {g : GD} {ti : Its} : kFor g sd ρ ti S = forL ti.chk g sd ti.xs ρ S := rfl
/-! stores -/
def subE2 (ρ : Slots) (y : Val) (a : Nat) (S : Store) (xs : List Val) : Option Nat → SOut
  | some j => some (.nx ρ, S.set a (.lst (xs.set j y)))
  | none => none
def subE (ρ : Slots) (y : Val) (a : Nat) (z : Int) (S : Store) : Option Ob → SOut
  | some (.lst xs) => subE2 ρ y a S xs (ixN xs.length z)
  | _ => none
def kSub3 (ρ : Slots) (y x : Val) : Val → Store → SOut := fun k S => match x, k with
  | .obj a, .int z => subE ρ y a z S S[a]?
  | _, _ => none
def kSub2 (i : ED) (ρ : Slots) (y : Val) : Val → Store → SOut := fun x S => liftE ρ (i ρ S) (kSub3 ρ y x)
def kSub1 (d i : ED) (ρ : Slots) : Val → Store → SOut := fun y S => liftE ρ (d ρ S) (kSub2 i ρ y)
@[simp] theorem dSub_eq : dSub d d1 e ρ S = liftE ρ (e ρ S) (kSub1 d d1 ρ) := by
  first
    | rfl
    | (unfold dSub; congr 1)
@[simp] theorem kSub1_eq : kSub1 d d1 ρ y S = liftE ρ (d ρ S) (kSub2 d1 ρ y) := rfl
@[simp] theorem kSub2_eq : kSub2 d1 ρ y x S = liftE ρ (d1 ρ S) (kSub3 ρ y x) := rfl
@[simp] theorem kSub3_eq {a : Nat} {k : Int} : kSub3 ρ y (.obj a) (.int k) S = subE ρ y a k S S[a]? := rfl
@[simp] theorem subE_lst {a : Nat} {k : Int} : subE ρ y a k S (some (.lst xs)) = subE2 ρ y a S xs (ixN xs.length k) := rfl
@[simp] theorem subE2_some {a n : Nat} : subE2 ρ y a S xs (some n) = some (.nx ρ, S.set a (.lst (xs.set n y))) := rfl
def appE2 (ρ : Slots) (i : Nat) (y : Val) (S : Store) : Option Ob → SOut
  | some (.lst xs) => if xs.length < 1000000 then some (.nx ρ, S.set i (.lst (xs ++ [y]))) else none
  | _ => none
def kApp2 (ρ : Slots) (i : Nat) : Val → Store → SOut := fun y S => appE2 ρ i y S S[i]?
def appE (e : ED) (ρ : Slots) (i : Nat) (S : Store) : Option Ob → SOut
  | some (.lst _) => liftE ρ (e ρ S) (kApp2 ρ i)
  | _ => none
def kApp (e : ED) (ρ : Slots) : Val → Store → SOut := fun x S => match x with
  | .obj i => appE e ρ i S S[i]?
  | _ => none
@[simp] theorem dApp_eq : dApp d e ρ S = liftE ρ (d ρ S) (kApp e ρ) := by
  first
    | rfl
    | (unfold dApp; congr 1)
@[simp] theorem kApp_obj : kApp e ρ (.obj i) S = appE e ρ i S S[i]? := rfl
@[simp] theorem appE_lst : appE e ρ i S (some (.lst xs)) = liftE ρ (e ρ S) (kApp2 ρ i) := rfl
@[simp] theorem kApp2_eq : kApp2 ρ i y S = appE2 ρ i y S S[i]? := rfl
theorem appE2_lst (h : xs.length < 1000000) : appE2 ρ i y S (some (.lst xs)) = some (.nx ρ, S.set i (.lst (xs ++ [y]))) := if_pos h
def extE2 (ρ : Slots) (i : Nat) (y : Val) (S : Store) : Option Ob → SOut
  | some (.lst xs) => match y with
    | .vl ys => if xs.length + ys.length ≤ 1000000 then some (.nx ρ, S.set i (.lst (xs ++ ys))) else none
    | _ => none
  | _ => none
def kExt2 (ρ : Slots) (i : Nat) : Val → Store → SOut := fun y S => extE2 ρ i y S S[i]?
def extE (e : ED) (ρ : Slots) (i : Nat) (S : Store) : Option Ob → SOut
  | some (.lst _) => liftE ρ (e ρ S) (kExt2 ρ i)
  | _ => none
def kExt (e : ED) (ρ : Slots) : Val → Store → SOut := fun x S => match x with
  | .obj i => extE e ρ i S S[i]?
  | _ => none
@[simp] theorem dExt_eq : dExt d e ρ S = liftE ρ (d ρ S) (kExt e ρ) := by
  first
    | rfl
    | (unfold dExt; congr 1)
@[simp] theorem kExt_obj : kExt e ρ (.obj i) S = extE e ρ i S S[i]? := rfl
@[simp] theorem extE_lst : extE e ρ i S (some (.lst xs)) = liftE ρ (e ρ S) (kExt2 ρ i) := rfl
@[simp] theorem kExt2_eq : kExt2 ρ i y S = extE2 ρ i y S S[i]? := rfl
theorem extE2_lst (h : xs.length + ys.length ≤ 1000000) : extE2 ρ i (.vl ys) S (some (.lst xs)) = some (.nx ρ, S.set i (.lst (xs ++ ys))) := if_pos h
def setFE (c f : PySem.Str) (ρ : Slots) (y : Val) (a : Nat) (S : Store) : Option Ob → SOut
  | some (.ins c' ns xs) => if c' = c ∧ xs.length < 1000 then some (.nx ρ, S.set a (.ins c' (fputN f ns) (fput f y ns xs))) else none
  | _ => none
def kSetF2 (c f : PySem.Str) (ρ : Slots) (y : Val) : Val → Store → SOut := fun x S => match x with
  | .obj a => setFE c f ρ y a S S[a]?
  | _ => none
def kSetF (c f : PySem.Str) (d : ED) (ρ : Slots) : Val → Store → SOut := fun y S => liftE ρ (d ρ S) (kSetF2 c f ρ y)
@[simp] theorem dSetF_eq {c f : PySem.Str} : dSetF c f d e ρ S = liftE ρ (e ρ S) (kSetF c f d ρ) := by
  first
    | rfl
    | (unfold dSetF; congr 1)
@[simp] theorem kSetF_eq {c f : PySem.Str} : kSetF c f d ρ y S = liftE ρ (d ρ S) (kSetF2 c f ρ y) := rfl
@[simp] theorem kSetF2_obj {c f : PySem.Str} : kSetF2 c f ρ y (.obj i) S = setFE c f ρ y i S S[i]? := rfl
theorem setFE_ins {c f : PySem.Str} {ns : List PySem.Str} (h : xs.length < 1000) : setFE c f ρ y i S (some (.ins c ns xs)) = some (.nx ρ, S.set i (.ins c (fputN f ns) (fput f y ns xs))) := if_pos ⟨rfl, h⟩
end
/-- how a def ends -/
def endD : SOut → Out Val
  | some (.rt x, S') => some (.ok x, S')
  | some (.nx _, S') => some (.ok .non, S')
  | some (.ex _ c ns xs, S') => some (.ex c ns xs, S')
  | _ => none
@[simp] theorem endD_rt (x : Val) (S : Store) : endD (some (.rt x, S)) = some (.ok x, S) := rfl
@[simp] theorem endD_nx (ρ : Slots) (S : Store) : endD (some (.nx ρ, S)) = some (.ok .non, S) := rfl
theorem dDef_of {n N : Nat} {d : SD} {args : List Val} {S : Store} (h : args.length = n) : dDef n N d args S = endD (d (args.map some ++ List.replicate (N - n) none) S) := by
  unfold dDef
  rw [if_pos h]
  rfl
@[simp] theorem dDef_1 {N : Nat} {d : SD} {a0 : Val} {S : Store} : dDef 1 N d [a0] S = endD (d (some a0 :: List.replicate (N - 1) none) S) := rfl
@[simp] theorem dDef_2 {N : Nat} {d : SD} {a0 a1 : Val} {S : Store} : dDef 2 N d [a0, a1] S = endD (d (some a0 :: some a1 :: List.replicate (N - 2) none) S) := rfl
@[simp] theorem dDef_3 {N : Nat} {d : SD} {a0 a1 a2 : Val} {S : Store} : dDef 3 N d [a0, a1, a2] S = endD (d (some a0 :: some a1 :: some a2 :: List.replicate (N - 3) none) S) := rfl
@[simp] theorem dDef_4 {N : Nat} {d : SD} {a0 a1 a2 a3 : Val} {S : Store} : dDef 4 N d [a0, a1, a2, a3] S = endD (d (some a0 :: some a1 :: some a2 :: some a3 :: List.replicate (N - 4) none) S) := rfl
@[simp] theorem dDef_5 {N : Nat} {d : SD} {a0 a1 a2 a3 a4 : Val} {S : Store} : dDef 5 N d [a0, a1, a2, a3, a4] S = endD (d (some a0 :: some a1 :: some a2 :: some a3 :: some a4 :: List.replicate (N - 5) none) S) := rfl
@[simp] theorem dDef_6 {N : Nat} {d : SD} {a0 a1 a2 a3 a4 a5 : Val} {S : Store} : dDef 6 N d [a0, a1, a2, a3, a4, a5] S = endD (d (some a0 :: some a1 :: some a2 :: some a3 :: some a4 :: some a5 :: List.replicate (N - 6) none) S) := rfl
end DL
set_option Elab.async false
set_option linter.all false
set_option maxRecDepth 100000
/-! The D layer, part 27: the operators on plain values. -/
namespace DL
open PySem PySem.Spec PyProof.Rows L2
theorem ixN_nat {n k : Nat} (h : k < n) : ixN n (k : Int) = some k := by unfold ixN; simp [h]
theorem atI_nat {α : Type} (xs : List α) (n : Nat) : atI xs (n : Int) = xs[n]? := by
  unfold atI
  by_cases h : n < xs.length
  · rw [ixN_nat h]; rfl
  · have e : ixN xs.length (n : Int) = none := by
      unfold ixN
      rw [if_pos (by omega), if_neg (by omega)]
    rw [e, List.getElem?_eq_none (by omega)]
    rfl
@[simp] theorem atI_0 {α : Type} (x : α) (xs : List α) : atI (x :: xs) 0 = some x := atI_nat (x :: xs) 0
@[simp] theorem atI_1 {α : Type} (x y : α) (xs : List α) : atI (x :: y :: xs) 1 = some y := atI_nat (x :: y :: xs) 1
@[simp] theorem atI_2 {α : Type} (x y z : α) (xs : List α) : atI (x :: y :: z :: xs) 2 = some z := atI_nat (x :: y :: z :: xs) 2
@[simp] theorem atI_3 {α : Type} (x y z u : α) (xs : List α) : atI (x :: y :: z :: u :: xs) 3 = some u := atI_nat (x :: y :: z :: u :: xs) 3
@[simp] theorem atI_4 {α : Type} (x y z u v : α) (xs : List α) : atI (x :: y :: z :: u :: v :: xs) 4 = some v := atI_nat (x :: y :: z :: u :: v :: xs) 4
@[simp] theorem atI_5 {α : Type} (x y z u v w : α) (xs : List α) : atI (x :: y :: z :: u :: v :: w :: xs) 5 = some w := atI_nat (x :: y :: z :: u :: v :: w :: xs) 5
@[simp] theorem modF_int (S : Store) (i j : Int) : modF S (.int i) (.int j) = if 0 < j then some (.int (i % j)) else none := rfl
@[simp] theorem addF_int (S : Store) (i j : Int) : addF S (.int i) (.int j) = some (.int (i + j)) := rfl
@[simp] theorem subF_int (S : Store) (i j : Int) : subF S (.int i) (.int j) = some (.int (i - j)) := rfl
@[simp] theorem mulF_int (S : Store) (i j : Int) : mulF S (.int i) (.int j) = if (-(2 ^ 64) < i ∧ i < 2 ^ 64) ∨ (-(2 ^ 64) < j ∧ j < 2 ^ 64) then some (.int (i * j)) else none := rfl
@[simp] theorem fdivF_int (S : Store) (i j : Int) : fdivF S (.int i) (.int j) = if 0 < j ∧ j < 1073741824 then some (.int (i / j)) else none := rfl
@[simp] theorem ltF_int (f : Int → Int → Bool) (S : Store) (i j : Int) : ltF f S (.int i) (.int j) = some (.bl (f i j)) := rfl
@[simp] theorem ltSF_int (S : Store) (i j : Int) : ltSF S (.int i) (.int j) = some (.bl (decide (i < j))) := rfl
@[simp] theorem ltSF_str (S : Store) (i j : PySem.Str) : ltSF S (.str i) (.str j) = some (.bl (decide (i.cps.toList < j.cps.toList))) := rfl
@[simp] theorem eqF_int (S : Store) (i j : Int) : eqF S (.int i) (.int j) = some (.bl (decide (i = j))) := rfl
@[simp] theorem neF_int (S : Store) (i j : Int) : neF S (.int i) (.int j) = some (.bl (!decide (i = j))) := rfl
@[simp] theorem eqF_str (S : Store) (i j : PySem.Str) : eqF S (.str i) (.str j) = some (.bl (decide (i = j))) := rfl
@[simp] theorem neF_str (S : Store) (i j : PySem.Str) : neF S (.str i) (.str j) = some (.bl (!decide (i = j))) := rfl
@[simp] theorem seqAt_tup (S : Store) (xs : List Val) : seqAt S (.tup xs) = some xs := rfl
@[simp] theorem seqAt_vl (S : Store) (xs : List Val) : seqAt S (.vl xs) = some xs := rfl
@[simp] theorem seqAt_scr (S : Store) (xs : List Val) : seqAt S (.scr xs) = some xs := rfl
theorem seqAt_obj {S : Store} {i : Nat} {xs : List Val} (h : S[i]? = some (.lst xs)) : seqAt S (.obj i) = some xs := by simp [seqAt, listAt, h]
@[simp] theorem ixF_tup (S : Store) (xs : List Val) (i : Int) : ixF S (.tup xs) (.int i) = atI xs i := rfl
@[simp] theorem ixF_vl (S : Store) (xs : List Val) (i : Int) : ixF S (.vl xs) (.int i) = atI xs i := rfl
@[simp] theorem ixF_scr (S : Store) (xs : List Val) (i : Int) : ixF S (.scr xs) (.int i) = atI xs i := rfl
def lstE : Option Ob → Option (List Val)
  | some (.lst xs) => some xs
  | _ => none
@[simp] theorem lstE_lst (xs : List Val) : lstE (some (.lst xs)) = some xs := rfl
@[simp] theorem seqAt_obj_eq (S : Store) (i : Nat) : seqAt S (.obj i) = lstE S[i]? := by
  show (match S[i]? with | some (.lst xs) => some xs | _ => none) = lstE S[i]?
  cases S[i]? with
  | none => rfl
  | some o => cases o <;> rfl
@[simp] theorem listAt_obj_eq (S : Store) (i : Nat) : listAt S (.obj i) = lstE S[i]? := seqAt_obj_eq S i
@[simp] theorem ixF_obj_eq (S : Store) (k : Nat) (i : Int) : ixF S (.obj k) (.int i) = (lstE S[k]?).bind fun xs => atI xs i := by
  show (match seqAt S (.obj k) with | some xs => atI xs i | none => none) = _
  rw [seqAt_obj_eq]
  cases lstE S[k]? <;> rfl
@[simp] theorem lenF_obj_eq (S : Store) (k : Nat) : lenF S [.obj k] = (lstE S[k]?).map fun xs => .int xs.length := by
  show (seqAt S (.obj k)).map _ = _
  rw [seqAt_obj_eq]
@[simp] theorem tupleF_obj_eq (S : Store) (k : Nat) : tupleF S [.obj k] = (lstE S[k]?).map .tup := by
  show (seqAt S (.obj k)).map _ = _
  rw [seqAt_obj_eq]
theorem ixF_obj {S : Store} {k : Nat} {xs : List Val} (h : S[k]? = some (.lst xs)) (i : Int) : ixF S (.obj k) (.int i) = atI xs i := by simp [ixF, seqAt, listAt, h]
@[simp] theorem negF_int (i : Int) : negF (.int i) = some (.int (-i)) := rfl
@[simp] theorem isNF_non (S : Store) : isNF S .non .non = some (.bl true) := rfl
@[simp] theorem isNF_int (S : Store) (i : Int) : isNF S (.int i) .non = some (.bl false) := rfl
@[simp] theorem notNF_non (S : Store) : notNF S .non .non = some (.bl false) := rfl
@[simp] theorem notNF_int (S : Store) (i : Int) : notNF S (.int i) .non = some (.bl true) := rfl
@[simp] theorem isi_str (T : String) (S : Store) (x : PySem.Str) : isiF T S (.str x) = some (.bl (isT T "str")) := rfl
@[simp] theorem isi_int (T : String) (S : Store) (x : Int) : isiF T S (.int x) = some (.bl (isT T "int")) := rfl
@[simp] theorem isi_bl (T : String) (S : Store) (x : Bool) : isiF T S (.bl x) = some (.bl (isT T "bool")) := rfl
@[simp] theorem isi_non (T : String) (S : Store) : isiF T S .non = some (.bl (isT T "NoneType")) := rfl
@[simp] theorem isi_tup (T : String) (S : Store) (x : List Val) : isiF T S (.tup x) = some (.bl (isT T "tuple")) := rfl
@[simp] theorem isT_1 : isT "str" "str" = true := by decide
@[simp] theorem isT_2 : isT "tuple" "tuple" = true := by decide
@[simp] theorem isT_3 : isT "int" "int" = true := by decide
@[simp] theorem isT_4 : isT "bool" "int" = false := by decide
@[simp] theorem isT_5 : isT "tuple" "str" = false := by decide
@[simp] theorem isT_6 : isT "tuple" "int" = false := by decide
@[simp] theorem isT_7 : isT "str" "tuple" = false := by decide
@[simp] theorem lenF_tup (S : Store) (xs : List Val) : lenF S [.tup xs] = some (.int xs.length) := rfl
@[simp] theorem lenF_vl (S : Store) (xs : List Val) : lenF S [.vl xs] = some (.int xs.length) := rfl
@[simp] theorem lenF_scr (S : Store) (xs : List Val) : lenF S [.scr xs] = some (.int xs.length) := rfl
theorem lenF_obj {S : Store} {i : Nat} {xs : List Val} (h : S[i]? = some (.lst xs)) : lenF S [.obj i] = some (.int xs.length) := by simp [lenF, seqAt, listAt, h]
theorem lenF_str (S : Store) {x : PySem.Str} (h : x.length ≤ 1000000) : lenF S [.str x] = some (.int x.length) := if_pos h
@[simp] theorem intF_int (S : Store) (i : Int) : intF S [.int i] = some (.int i) := rfl
@[simp] theorem intF_bl (S : Store) (b : Bool) : intF S [.bl b] = some (.int (if b = true then 1 else 0)) := rfl
@[simp] theorem max2_int (S : Store) (i j : Int) : max2F S [.int i, .int j] = some (.int (if j > i then j else i)) := rfl
@[simp] theorem min2_int (S : Store) (i j : Int) : min2F S [.int i, .int j] = some (.int (if j < i then j else i)) := rfl
@[simp] theorem tupleF_vl (S : Store) (xs : List Val) : tupleF S [.vl xs] = some (.tup xs) := rfl
theorem tupleF_obj {S : Store} {i : Nat} {xs : List Val} (h : S[i]? = some (.lst xs)) : tupleF S [.obj i] = some (.tup xs) := by simp [tupleF, seqAt, listAt, h]
@[simp] theorem slF_tup (S : Store) (xs : List Val) (l u : Option Int) : slF S (.tup xs) l u = some (.tup (cutD xs l u)) := rfl
@[simp] theorem slF_vl (S : Store) (xs : List Val) (l u : Option Int) : slF S (.vl xs) l u = some (.vl (cutD xs l u)) := rfl
theorem addF_tup (S : Store) {xs ys : List Val} (h : xs.length + ys.length ≤ 1000000) : addF S (.tup xs) (.tup ys) = some (.tup (xs ++ ys)) := if_pos h
@[simp] theorem ixN_0 (n : Nat) : ixN (n + 1) 0 = some 0 := ixN_nat (k := 0) (by omega)
@[simp] theorem ixN_1 (n : Nat) : ixN (n + 1 + 1) 1 = some 1 := ixN_nat (k := 1) (by omega)
end DL
set_option Elab.async false
set_option linter.all false
set_option maxRecDepth 100000
/-! The D layer, part 28: loops and cuts in plain words. -/
namespace DL
open PySem PySem.Spec PyProof.Rows L2
/-! ### loops -/
theorem forL_nil {chk : Store → Prop} {g : GD} {b : SD} {ρ : Slots} {S : Store} (h : chk S) : forL chk g b [] ρ S = some (.nx ρ, S) := by unfold forL; exact if_pos h
theorem forL_cons {chk : Store → Prop} {g : GD} {b : SD} {x : Val} {xs : List Val} {ρ ρ1 ρ2 : Slots} {S S2 : Store} (h : chk S) (h1 : g x ρ = some ρ1) (h2 : b ρ1 S = some (.nx ρ2, S2)) : forL chk g b (x :: xs) ρ S = forL chk g b xs ρ2 S2 := by
  rw [forL]
  dsimp only
  rw [if_pos h, h1]
  simp only [h2]
theorem forL_ret {chk : Store → Prop} {g : GD} {b : SD} {x y : Val} {xs : List Val} {ρ ρ1 : Slots} {S S2 : Store} (h : chk S) (h1 : g x ρ = some ρ1) (h2 : b ρ1 S = some (.rt y, S2)) : forL chk g b (x :: xs) ρ S = some (.rt y, S2) := by
  rw [forL]
  dsimp only
  rw [if_pos h, h1]
  simp only [h2]
/-- an invariant: what is left, the slots, the store -/
theorem forL_inv {chk : Store → Prop} {g : GD} {b : SD} (P : List Val → Slots → Store → Prop) (hc : ∀ xs ρ S, P xs ρ S → chk S)
    (hs : ∀ x xs ρ S, P (x :: xs) ρ S → ∃ ρ1 ρ2 S2, g x ρ = some ρ1 ∧ b ρ1 S = some (.nx ρ2, S2) ∧ P xs ρ2 S2) : ∀ (xs : List Val) (ρ : Slots) (S : Store), P xs ρ S → ∃ ρ' S', forL chk g b xs ρ S = some (.nx ρ', S') ∧ P [] ρ' S'
  | [], ρ, S, h => ⟨ρ, S, forL_nil (hc _ _ _ h), h⟩
  | x :: xs, ρ, S, h => by
    obtain ⟨ρ1, ρ2, S2, h1, h2, h3⟩ := hs x xs ρ S h
    obtain ⟨ρ', S', h4, h5⟩ := forL_inv P hc hs xs ρ2 S2 h3
    exact ⟨ρ', S', by rw [forL_cons (hc _ _ _ h) h1 h2]; exact h4, h5⟩
/-- a comprehension whose items leave the store as it is -/
theorem lcL_map {chk : Store → Prop} {g : GD} {tt : TD} {d : ED} {ρ : Slots} {S : Store} (hc : chk S) (f : Val → Val) : ∀ (xs : List Val), (∀ x ∈ xs, ∃ ρ1, g x ρ = some ρ1 ∧ tt ρ1 S = some (.ok true, S) ∧ d ρ1 S = some (.ok (f x), S)) → lcL chk g tt d ρ xs S = some (xs.map f, S)
  | [], _ => by unfold lcL; exact if_pos hc
  | x :: xs, h => by
    obtain ⟨ρ1, h1, h2, h3⟩ := h x (List.mem_cons_self ..)
    have ih := lcL_map hc f xs fun y m => h y (List.mem_cons_of_mem _ m)
    unfold lcL
    rw [if_pos hc, h1]
    simp only [h2, h3, ih, List.map_cons]
theorem lcL_filter {chk : Store → Prop} {g : GD} {tt : TD} {d : ED} {ρ : Slots} {S : Store} (hc : chk S) (p : Val → Bool) (f : Val → Val) : ∀ (xs : List Val), (∀ x ∈ xs, ∃ ρ1, g x ρ = some ρ1 ∧ tt ρ1 S = some (.ok (p x), S) ∧ (p x = true → d ρ1 S = some (.ok (f x), S))) → lcL chk g tt d ρ xs S = some ((xs.filter p).map f, S)
  | [], _ => by unfold lcL; exact if_pos hc
  | x :: xs, h => by
    obtain ⟨ρ1, h1, h2, h3⟩ := h x (List.mem_cons_self ..)
    have ih := lcL_filter hc p f xs fun y m => h y (List.mem_cons_of_mem _ m)
    unfold lcL
    rw [if_pos hc, h1]
    cases e : p x with
    | true =>
      rw [e] at h2
      simp only [h2, h3 e, ih, List.filter_cons_of_pos e, List.map_cons]
    | false =>
      rw [e] at h2
      have e' : ¬ p x = true := by rw [e]; exact Bool.false_ne_true
      rw [List.filter_cons_of_neg e']
      simp only [h2, ih]
/-- a comprehension, item by item -/
theorem lcL_nil {chk : Store → Prop} {g : GD} {tt : TD} {d : ED} {ρ : Slots} {S : Store} (hc : chk S) : lcL chk g tt d ρ [] S = some ([], S) := by unfold lcL; exact if_pos hc
theorem lcL_cons {chk : Store → Prop} {g : GD} {tt : TD} {d : ED} {ρ ρ1 : Slots} {S S1 S2 S3 : Store} {x y : Val} {xs ys : List Val} (hc : chk S) (h1 : g x ρ = some ρ1) (h2 : tt ρ1 S = some (.ok true, S1)) (h3 : d ρ1 S1 = some (.ok y, S2)) (h4 : lcL chk g tt d ρ xs S2 = some (ys, S3)) :
    lcL chk g tt d ρ (x :: xs) S = some (y :: ys, S3) := by
  unfold lcL
  rw [if_pos hc, h1]
  simp only [h2, h3, h4]
/-! ### cuts -/
mutual
theorem frz_id {n : Nat} {S : Store} : ∀ (k : Nat) (x : Val), closed n x = true → frz n S k x = some x
  | k, .obj i, h => by unfold closed at h; unfold frz; exact if_pos (of_decide_eq_true h)
  | k, .tup xs, h => by unfold closed at h; unfold frz; rw [frzL_id k xs h]; rfl
  | k, .vl xs, h => by unfold closed at h; unfold frz; exact if_pos h
  | k, .scr xs, h => by unfold closed at h; unfold frz; exact if_pos h
  | k, .vd ks xs, h => by unfold closed at h; unfold frz; exact if_pos h
  | k, .vi c ns xs, h => by unfold closed at h; unfold frz; exact if_pos h
  | k, .non, _ => by unfold frz; rfl
  | k, .bl b, _ => by unfold frz; rfl
  | k, .int i, _ => by unfold frz; rfl
  | k, .str x, _ => by unfold frz; rfl
termination_by k x => sizeOf x
theorem frzL_id {n : Nat} {S : Store} : ∀ (k : Nat) (xs : List Val), closedL n xs = true → frzL n S k xs = some xs
  | k, [], _ => by unfold frzL; rfl
  | k, x :: xs, h => by
    unfold closedL at h
    rw [Bool.and_eq_true] at h
    unfold frzL
    rw [frz_id k x h.1, frzL_id k xs h.2]
termination_by k xs => sizeOf xs
end
theorem closedL_iff {n : Nat} : ∀ {xs : List Val}, closedL n xs = true ↔ ∀ x ∈ xs, closed n x = true
  | [] => by simp [closedL]
  | x :: xs => by simp [closedL, closedL_iff (xs := xs)]
mutual
theorem closed_mono {m n : Nat} (h : m ≤ n) : ∀ {x : Val}, closed m x = true → closed n x = true
  | .obj i, c => by unfold closed at c ⊢; simp at c ⊢; omega
  | .tup xs, c => by unfold closed at c ⊢; exact closedL_mono h c
  | .vl xs, c => by unfold closed at c ⊢; exact closedL_mono h c
  | .scr xs, c => by unfold closed at c ⊢; exact closedL_mono h c
  | .vd _ xs, c => by unfold closed at c ⊢; exact closedL_mono h c
  | .vi _ _ xs, c => by unfold closed at c ⊢; exact closedL_mono h c
  | .non, _ => by unfold closed; rfl
  | .bl _, _ => by unfold closed; rfl
  | .int _, _ => by unfold closed; rfl
  | .str _, _ => by unfold closed; rfl
theorem closedL_mono {m n : Nat} (h : m ≤ n) : ∀ {xs : List Val}, closedL m xs = true → closedL n xs = true
  | [], _ => by unfold closedL; rfl
  | x :: xs, c => by
    unfold closedL at c ⊢
    rw [Bool.and_eq_true] at c ⊢
    exact ⟨closed_mono h c.1, closedL_mono h c.2⟩
end
/-- a plain value is handed out, what was made for it is dropped -/
theorem cutO_ok {S S1 T : Store} {x : Val} (hl : S1.length = S.length) (hk : ∀ (i : Nat) (o : Ob), S1[i]? = some o → S[i]? = some o ∨ closedOb S.length o = true) (hx : closed S.length x = true) : cutO S (some (.ok x, S1 ++ T)) = some (.ok x, S1) := by
  have hc : cutOk S (S1 ++ T) := ⟨by rw [List.length_append]; omega, fun i o hi e => hk i o (by rw [List.getElem?_append_left (by omega)] at e; exact e)⟩
  unfold cutO
  simp only
  rw [if_pos hc, frz_id 20 x hx, Option.map_some, ← hl, List.take_left]
theorem cutO_frz {S S1 T : Store} {x y : Val} (hl : S1.length = S.length) (hk : ∀ (i : Nat) (o : Ob), S1[i]? = some o → S[i]? = some o ∨ closedOb S.length o = true) (hx : frz S.length (S1 ++ T) 20 x = some y) : cutO S (some (.ok x, S1 ++ T)) = some (.ok y, S1) := by
  have hc : cutOk S (S1 ++ T) := ⟨by rw [List.length_append]; omega, fun i o hi e => hk i o (by rw [List.getElem?_append_left (by omega)] at e; exact e)⟩
  unfold cutO
  simp only
  rw [if_pos hc, hx, Option.map_some, ← hl, List.take_left]
theorem cutF_eq {F : FD} {args : List Val} {S : Store} : cutF F args S = cutO S (F args S) := rfl
/-! ### sorted texts -/
theorem strsOf_map : ∀ ss : List PySem.Str, strsOf (ss.map .str) = some ss
  | [] => rfl
  | s :: ss => by
    show (strsOf (ss.map .str)).map _ = _
    rw [strsOf_map ss]; rfl
theorem intsOf_map : ∀ ss : List Int, intsOf (ss.map .int) = some ss
  | [] => rfl
  | s :: ss => by
    show (intsOf (ss.map .int)).map _ = _
    rw [intsOf_map ss]; rfl
theorem sortF_strs (S : Store) (ss : List PySem.Str) : sortF S (.tup (ss.map .str)) = some ((ss.mergeSort strLe).map .str) := by
  cases ss with
  | nil => simp [sortF, intsOf]
  | cons s ss =>
    unfold sortF
    rw [seqAt_tup]
    have e : intsOf ((s :: ss).map Val.str) = none := rfl
    simp only [e, strsOf_map]
/-- sorted, nothing twice: rising -/
theorem sort_rising {ss : List PySem.Str} (h : ss.Nodup) : (ss.mergeSort strLe).Pairwise fun a b => a.cps.toList < b.cps.toList := by
  have h1 := List.pairwise_mergeSort strLe_trans strLe_total ss
  have h2 : (ss.mergeSort strLe).Nodup := (List.mergeSort_perm ss strLe).nodup_iff.mpr h
  refine (h1.and h2).imp fun {a b} ⟨x, y⟩ => ?_
  refine Decidable.byContradiction fun n => y (strLe_antisymm a b x ?_)
  unfold strLe
  rw [ltCps_eq]
  simpa using n
end DL
set_option Elab.async false
set_option linter.all false
set_option maxRecDepth 100000
/-! The D layer, part 29: membership, slices, while loops. -/
namespace DL
open PySem PySem.Spec PyProof.Rows L2
/-! ### membership -/
theorem inSeq_strs (w : PySem.Str) : ∀ ws : List PySem.Str, inSeq (.str w) (ws.map .str) = decide (w ∈ ws)
  | [] => by simp [inSeq]
  | x :: ws => by
    have ih := inSeq_strs w ws
    unfold inSeq at ih ⊢
    rw [List.map_cons, List.any_cons, ih]
    by_cases e : x = w
    · subst e; simp [eqFlat]
    · have e' : ¬ w = x := fun h => e h.symm
      simp [eqFlat, e, e']
theorem flat_strs (ws : List PySem.Str) : (ws.map Val.str).all flatD = true := by
  induction ws with
  | nil => rfl
  | cons w ws ih => rw [List.map_cons, List.all_cons, ih]; rfl
theorem inF_tup (S : Store) (w : PySem.Str) (ws : List PySem.Str) : inF S (.str w) (.tup (ws.map .str)) = some (.bl (decide (w ∈ ws))) := by
  have e : inVal S (.str w) (.tup (ws.map .str)) = some (inSeq (.str w) (ws.map .str)) := if_pos ⟨rfl, flat_strs ws⟩
  unfold inF
  rw [e, inSeq_strs]; rfl
theorem inF_vl (S : Store) (w : PySem.Str) (ws : List PySem.Str) : inF S (.str w) (.vl (ws.map .str)) = some (.bl (decide (w ∈ ws))) := by
  have e : inVal S (.str w) (.vl (ws.map .str)) = some (inSeq (.str w) (ws.map .str)) := if_pos ⟨rfl, flat_strs ws⟩
  unfold inF
  rw [e, inSeq_strs]; rfl
theorem notInF_tup (S : Store) (w : PySem.Str) (ws : List PySem.Str) : notInF S (.str w) (.tup (ws.map .str)) = some (.bl (!decide (w ∈ ws))) := by
  have e : inVal S (.str w) (.tup (ws.map .str)) = some (inSeq (.str w) (ws.map .str)) := if_pos ⟨rfl, flat_strs ws⟩
  unfold notInF
  rw [e, inSeq_strs]; rfl
theorem notInF_vl (S : Store) (w : PySem.Str) (ws : List PySem.Str) : notInF S (.str w) (.vl (ws.map .str)) = some (.bl (!decide (w ∈ ws))) := by
  have e : inVal S (.str w) (.vl (ws.map .str)) = some (inSeq (.str w) (ws.map .str)) := if_pos ⟨rfl, flat_strs ws⟩
  unfold notInF
  rw [e, inSeq_strs]; rfl
@[simp] theorem inF_vl1 (S : Store) (w a : PySem.Str) : inF S (.str w) (.vl [.str a]) = some (.bl (decide (w = a))) := by
  rw [show [Val.str a] = [a].map .str from rfl, inF_vl]; simp
@[simp] theorem inF_vl2 (S : Store) (w a b : PySem.Str) : inF S (.str w) (.vl [.str a, .str b]) = some (.bl (decide (w = a ∨ w = b))) := by
  rw [show [Val.str a, .str b] = [a, b].map .str from rfl, inF_vl]; simp
@[simp] theorem notInF_vl2 (S : Store) (w a b : PySem.Str) : notInF S (.str w) (.vl [.str a, .str b]) = some (.bl (!decide (w = a ∨ w = b))) := by
  rw [show [Val.str a, .str b] = [a, b].map .str from rfl, notInF_vl]; simp
@[simp] theorem inF_tup2 (S : Store) (w a b : PySem.Str) : inF S (.str w) (.tup [.str a, .str b]) = some (.bl (decide (w = a ∨ w = b))) := by
  rw [show [Val.str a, .str b] = [a, b].map .str from rfl, inF_tup]; simp
@[simp] theorem notInF_tup2 (S : Store) (w a b : PySem.Str) : notInF S (.str w) (.tup [.str a, .str b]) = some (.bl (!decide (w = a ∨ w = b))) := by
  rw [show [Val.str a, .str b] = [a, b].map .str from rfl, notInF_tup]; simp
/-! ### slices -/
@[simp] theorem cutD_tail (xs : List Val) : cutD xs (some 1) none = xs.tail := by
  unfold cutD HT.sIx
  cases xs with
  | nil => simp
  | cons x xs =>
    simp only [List.length_cons, List.tail_cons]
    have e : min (Int.toNat 1) (xs.length + 1) = 1 := by simp
    simp [e]
@[simp] theorem cutD_init (xs : List Val) : cutD xs none (some (-1)) = xs.dropLast := by
  unfold cutD HT.sIx
  simp only [List.drop_zero, List.dropLast_eq_take, show ((-1 : Int) < 0) from by decide, if_true]
  congr 1
  omega
theorem cutD_take {xs : List Val} {n : Nat} : cutD xs none (some (n : Int)) = xs.take n := by
  unfold cutD HT.sIx
  simp only [List.drop_zero]
  rw [if_neg (by omega)]
  simp only [Int.toNat_natCast, Nat.sub_zero]
  by_cases h : n ≤ xs.length
  · rw [Nat.min_eq_left h]
  · rw [Nat.min_eq_right (by omega), List.take_length, List.take_of_length_le (by omega)]
@[simp] theorem cutD_take0 (xs : List Val) : cutD xs none (some 0) = [] := by
  rw [show (0 : Int) = ((0 : Nat) : Int) from rfl, cutD_take]; rfl
@[simp] theorem cutD_take1 (xs : List Val) : cutD xs none (some 1) = xs.take 1 := by
  rw [show (1 : Int) = ((1 : Nat) : Int) from rfl, cutD_take]
@[simp] theorem cutD_take2 (xs : List Val) : cutD xs none (some 2) = xs.take 2 := by
  rw [show (2 : Int) = ((2 : Nat) : Int) from rfl, cutD_take]
@[simp] theorem wipeD_nil (ρ : Slots) : wipeD ρ [] = ρ := rfl
@[simp] theorem wipeD_cons (ρ : Slots) (v : Nat) (vs : List Nat) : wipeD ρ (v :: vs) = (wipeD ρ vs).set v none := rfl
/-! ### all, any, short comprehensions -/
theorem bools_map {α : Type} (f : α → Bool) : ∀ xs : List α, bools (xs.map fun x => .bl (f x)) = some (xs.map f)
  | [] => rfl
  | x :: xs => by
    rw [List.map_cons, List.map_cons]
    unfold bools
    rw [bools_map f xs]
    rfl
theorem allF_map {α : Type} (S : Store) (f : α → Bool) (xs : List α) : allF S [.vl (xs.map fun x => .bl (f x))] = some (.bl (xs.all f)) := by
  show ((some (xs.map fun x => Val.bl (f x))).bind bools).map _ = _
  rw [Option.bind_some, bools_map, Option.map_some, List.all_map]
  rfl
theorem anyF_map {α : Type} (S : Store) (f : α → Bool) (xs : List α) : anyF S [.vl (xs.map fun x => .bl (f x))] = some (.bl (xs.any f)) := by
  show ((some (xs.map fun x => Val.bl (f x))).bind bools).map _ = _
  rw [Option.bind_some, bools_map, Option.map_some, List.any_map]
  rfl
theorem allF_true (S : Store) (xs : List Val) (h : ∀ x ∈ xs, x = .bl true) : allF S [.vl xs] = some (.bl true) := by
  have e : xs = xs.map fun _ => Val.bl true := by
    induction xs with
    | nil => rfl
    | cons x xs ih =>
      rw [List.map_cons, ← ih fun y m => h y (List.mem_cons_of_mem _ m), h x (List.mem_cons_self ..)]
  rw [e, allF_map]
  simp
@[simp] theorem lcE_0 {S : Store} : lcE (some ([], S)) = some (.ok (.vl []), S) := rfl
@[simp] theorem lcE_1 {S : Store} {a : Val} : lcE (some ([a], S)) = some (.ok (.vl [a]), S) := rfl
@[simp] theorem lcE_2 {S : Store} {a b : Val} : lcE (some ([a, b], S)) = some (.ok (.vl [a, b]), S) := rfl
@[simp] theorem allF_1 {S : Store} {a : Bool} : allF S [.vl [.bl a]] = some (.bl a) := by
  show some (Val.bl (List.all [a] id)) = _
  simp
/-! ### while -/
theorem while_stop {t : TD} {b : SD} {n : Nat} {ρ : Slots} {S S1 : Store} (h : t ρ S = some (.ok false, S1)) : whileD t b (n + 1) ρ S = some (.nx ρ, S1) := by
  unfold whileD
  rw [h]
  rfl
theorem while_on {t : TD} {b : SD} {n : Nat} {ρ ρ2 : Slots} {S S1 S2 : Store} (h : t ρ S = some (.ok true, S1)) (h2 : b ρ S1 = some (.nx ρ2, S2)) : whileD t b (n + 1) ρ S = whileD t b n ρ2 S2 := by
  rw [whileD]
  dsimp only
  rw [h]
  show (match b ρ S1 with | some (.nx ρ2, S2) => whileD t b n ρ2 S2 | some (.ct ρ2, S2) => whileD t b n ρ2 S2 | some (.bk ρ2, S2) => some (.nx ρ2, S2) | o => o) = _
  rw [h2]
end DL
set_option Elab.async false
set_option linter.all false
set_option maxRecDepth 100000
/-! The D layer, part 30: plain values compared; patterns; sets. -/
namespace DL
open PySem PySem.Spec PyProof.Rows L2
mutual
/-- no thing of the store in it -/
def plainV : Val → Bool
  | .non => true
  | .bl _ => true
  | .int _ => true
  | .str x => PyData.canLay0 (.str x)
  | .tup xs => plainVs xs
  | .vl xs => plainVs xs
  | .scr xs => plainVs xs
  | _ => false
def plainVs : List Val → Bool
  | [] => true
  | x :: xs => plainV x && plainVs xs
end
mutual
def dpV : Val → Nat
  | .tup xs => dpVs xs + 1
  | .vl xs => dpVs xs + 1
  | .scr xs => dpVs xs + 1
  | _ => 0
def dpVs : List Val → Nat
  | [] => 0
  | x :: xs => max (dpV x) (dpVs xs)
end
mutual
theorem toPD_plain {S : Store} {n : Nat} : ∀ x : Val, plainV x = true → ∃ d, toPD S n x = some d ∧ d.canLay0 = true ∧ d.depth ≤ dpV x
  | .non, _ => ⟨_, by unfold toPD; rfl, rfl, by simp [PyData.depth]⟩
  | .bl b, _ => ⟨_, by unfold toPD; rfl, rfl, by simp [PyData.depth]⟩
  | .int b, _ => ⟨_, by unfold toPD; rfl, rfl, by simp [PyData.depth]⟩
  | .str b, h => ⟨_, by unfold toPD; rfl, by unfold plainV at h; exact h, by simp [PyData.depth]⟩
  | .tup xs, h => by
    unfold plainV at h
    obtain ⟨ds, e, c, p⟩ := toPDs_plain (S := S) (n := n) xs h
    refine ⟨.tuple ds, by unfold toPD; rw [e]; rfl, by unfold PyData.canLay0; exact c, by unfold PyData.depth dpV; omega⟩
  | .vl xs, h => by
    unfold plainV at h
    obtain ⟨ds, e, c, p⟩ := toPDs_plain (S := S) (n := n) xs h
    refine ⟨.list ds, by unfold toPD; rw [e]; rfl, by unfold PyData.canLay0; exact c, by unfold PyData.depth dpV; omega⟩
  | .scr xs, h => by
    unfold plainV at h
    obtain ⟨ds, e, c, p⟩ := toPDs_plain (S := S) (n := n) xs h
    refine ⟨.list ds, by unfold toPD; rw [e]; rfl, by unfold PyData.canLay0; exact c, by unfold PyData.depth dpV; omega⟩
  | .obj _, h => by unfold plainV at h; cases h
  | .vd _ _, h => by unfold plainV at h; cases h
  | .vi _ _ _, h => by unfold plainV at h; cases h
theorem toPDs_plain {S : Store} {n : Nat} : ∀ xs : List Val, plainVs xs = true → ∃ ds, toPDs S n xs = some ds ∧ PyData.canLayAll0 ds = true ∧ PyData.depthAll ds ≤ dpVs xs ∧ (ds = [] ↔ xs = [])
  | [], _ => ⟨[], by unfold toPDs; rfl, rfl, by simp [PyData.depthAll], by simp⟩
  | x :: xs, h => by
    unfold plainVs at h
    rw [Bool.and_eq_true] at h
    obtain ⟨d, e1, c1, p1⟩ := toPD_plain (S := S) (n := n) x h.1
    obtain ⟨ds, e2, c2, p2, _⟩ := toPDs_plain (S := S) (n := n) xs h.2
    refine ⟨d :: ds, by unfold toPDs; rw [e1, e2], by unfold PyData.canLayAll0; rw [c1, c2]; rfl, by unfold PyData.depthAll dpVs; omega, by simp⟩
end
theorem shaped_of {d : PyData} {n : Nat} (c : d.canLay0 = true) (p : d.depth ≤ n) (h : n ≤ 64) : SeqAt.shaped d = true := by
  unfold SeqAt.shaped
  rw [c, Bool.true_and]
  exact decide_eq_true (by omega)
/-- a plain value is itself -/
theorem eqVal_of {S : Store} {x y : Val} {d : PyData} (hx : toPD S 10 x = some d) (hy : toPD S 10 y = some d) (hs : SeqAt.shaped d = true) (hn : ∀ i j, x = .int i → y = .int j → False) (hn2 : ∀ i j, x = .str i → y = .str j → False) (hn3 : ∀ i j, x = .bl i → y = .bl j → False) : eqVal S x y = some true := by
  unfold eqVal
  split
  · exact (hn _ _ rfl rfl).elim
  · exact (hn2 _ _ rfl rfl).elim
  · exact (hn3 _ _ rfl rfl).elim
  · rw [hx, hy]
    simp only
    rw [if_pos ⟨hs, hs⟩, SeqAt.eqv_refl d (SeqAt.canLay_of_shaped hs)]
theorem eqF_tup {S : Store} {xs : List Val} (h : plainVs xs = true) (p : dpVs xs < 64) : eqF S (.tup xs) (.tup xs) = some (.bl true) := by
  obtain ⟨d, e, c, q⟩ := toPD_plain (S := S) (n := 10) (.tup xs) (by unfold plainV; exact h)
  unfold eqF
  rw [eqVal_of e e (shaped_of c q (by unfold dpV; omega)) (by intro i j h; cases h) (by intro i j h; cases h) (by intro i j h; cases h)]
  rfl
theorem eqF_vl {S : Store} {xs : List Val} (h : plainVs xs = true) (p : dpVs xs < 64) : eqF S (.vl xs) (.vl xs) = some (.bl true) := by
  obtain ⟨d, e, c, q⟩ := toPD_plain (S := S) (n := 10) (.vl xs) (by unfold plainV; exact h)
  unfold eqF
  rw [eqVal_of e e (shaped_of c q (by unfold dpV; omega)) (by intro i j h; cases h) (by intro i j h; cases h) (by intro i j h; cases h)]
  rfl
theorem neF_vl {S : Store} {xs : List Val} (h : plainVs xs = true) (p : dpVs xs < 64) : neF S (.vl xs) (.vl xs) = some (.bl false) := by
  obtain ⟨d, e, c, q⟩ := toPD_plain (S := S) (n := 10) (.vl xs) (by unfold plainV; exact h)
  unfold neF
  rw [eqVal_of e e (shaped_of c q (by unfold dpV; omega)) (by intro i j h; cases h) (by intro i j h; cases h) (by intro i j h; cases h)]
  rfl
/-- not the empty tuple -/
theorem eqF_tup_nil {S : Store} {x : Val} {xs : List Val} (h : plainVs (x :: xs) = true) (p : dpVs (x :: xs) < 64) : eqF S (.tup (x :: xs)) (.tup []) = some (.bl false) := by
  obtain ⟨ds, e, c, q, z⟩ := toPDs_plain (S := S) (n := 10) (x :: xs) h
  have e1 : toPD S 10 (.tup (x :: xs)) = some (.tuple ds) := by unfold toPD; rw [e]; rfl
  have e2 : toPD S 10 (.tup []) = some (.tuple []) := by unfold toPD toPDs; rfl
  have s1 : SeqAt.shaped (.tuple ds) = true := shaped_of (n := dpVs (x :: xs) + 1) (by unfold PyData.canLay0; exact c) (by unfold PyData.depth; omega) (by omega)
  have s2 : SeqAt.shaped (.tuple []) = true := by decide
  have hv : eqVal S (.tup (x :: xs)) (.tup []) = some false := by
    unfold eqVal
    simp only [e1, e2, s1, s2]
    cases ds with
    | nil => exact absurd (z.mp rfl) (by simp)
    | cons d ds => simp [PyData.eqv, PyData.eqvAll]
  unfold eqF
  rw [hv]
  rfl
/-! ### patterns -/
@[simp] theorem pSeq_tup {n : Nat} {ps : MPDs} {xs : List Val} : pSeq n ps (.tup xs) = if xs.length = n then ps xs else some none := rfl
@[simp] theorem pCons_word {w y : PySem.Str} {ps : MPDs} {xs : List Val} : pCons (pWord w) ps (.str y :: xs) = if y = w then ps xs else some none := by
  unfold pCons pWord
  by_cases h : y = w
  · simp only [h, if_true]
    rcases ps xs with _ | _ | cs <;> rfl
  · simp only [h, if_false]
def capE (i : Nat) (x : Val) : Option (Option (List (Nat × Val))) → Option (Option (List (Nat × Val)))
  | none => none
  | some none => some none
  | some (some cs) => some (some ((i, x) :: cs))
@[simp] theorem capE_some {i : Nat} {x : Val} {cs : List (Nat × Val)} : capE i x (some (some cs)) = some (some ((i, x) :: cs)) := rfl
@[simp] theorem pCons_cap {i : Nat} {x : Val} {ps : MPDs} {xs : List Val} : pCons (pCap i) ps (x :: xs) = capE i x (ps xs) := by
  show (match ps xs with | none => none | some none => some none | some (some cs) => some (some ([(i, x)] ++ cs))) = capE i x (ps xs)
  rcases ps xs with _ | _ | cs <;> rfl
@[simp] theorem pNil_nil : pNil [] = some (some []) := rfl
@[simp] theorem pAny_eq {x : Val} : pAny x = some (some []) := rfl
def mcE (r : CD) (x : Val) (b : SD) (ρ : Slots) (S : Store) : Option (Option (List (Nat × Val))) → SOut
  | none => none
  | some none => mcL r x ρ S
  | some (some bs) => b (setAll ρ bs) S
@[simp] theorem mcL_cons {p : MPD} {b : SD} {r : CD} {x : Val} {ρ : Slots} {S : Store} : mcL ((p, b) :: r) x ρ S = mcE r x b ρ S (p x) := by
  unfold mcE
  rw [mcL]
  all_goals (rcases p x with _ | _ | cs <;> rfl)
@[simp] theorem mcE_no {r : CD} {x : Val} {b : SD} {ρ : Slots} {S : Store} : mcE r x b ρ S (some none) = mcL r x ρ S := rfl
@[simp] theorem mcE_yes {r : CD} {x : Val} {b : SD} {ρ : Slots} {S : Store} {bs : List (Nat × Val)} : mcE r x b ρ S (some (some bs)) = b (setAll ρ bs) S := rfl
@[simp] theorem setAll_nil {ρ : Slots} : setAll ρ [] = ρ := rfl
@[simp] theorem setAll_cons {ρ : Slots} {i : Nat} {x : Val} {r : List (Nat × Val)} : setAll ρ ((i, x) :: r) = setAll (ρ.set i (some x)) r := rfl
/-! ### a new list becomes a plain one -/
theorem frz_lst {n i k : Nat} {S : Store} {xs ys : List Val} (h : n ≤ i) (e : S[i]? = some (.lst xs)) (c : frzL n S k xs = some ys) : frz n S (k + 1) (.obj i) = some (.vl ys) := by
  unfold frz
  rw [if_neg (by omega)]
  simp only [e, c, Option.map_some]
theorem frz_ins {n i k : Nat} {S : Store} {xs ys : List Val} {cl : PySem.Str} {ns : List PySem.Str} (h : n ≤ i) (e : S[i]? = some (.ins cl ns xs)) (c : frzL n S k xs = some ys) : frz n S (k + 1) (.obj i) = some (.vi cl ns ys) := by
  unfold frz
  rw [if_neg (by omega)]
  simp only [e, c, Option.map_some]
theorem cut_new {S T : Store} {xs : List Val} (hx : closedL S.length xs = true) : cutO S (some (.ok (.obj S.length), S ++ .lst xs :: T)) = some (.ok (.vl xs), S) :=
  cutO_frz (S := S) (S1 := S) (T := .lst xs :: T) (x := .obj S.length) (y := .vl xs) rfl (fun i o h => .inl h) (frz_lst (Nat.le_refl _) (by simp) (frzL_id 19 xs hx))
/-! ### fields -/
@[simp] theorem fget_cons {f n : PySem.Str} {ns : List PySem.Str} {x : Val} {xs : List Val} : fget f (n :: ns) (x :: xs) = if f = n then some x else fget f ns xs := rfl
@[simp] theorem fget_nil {f : PySem.Str} {xs : List Val} : fget f [] xs = none := by cases xs <;> rfl
@[simp] theorem fldF_vi {c f : PySem.Str} {S : Store} {ns : List PySem.Str} {xs : List Val} : fldF c f S (.vi c ns xs) = fget f ns xs := if_pos rfl
theorem insAt_obj {c : PySem.Str} {S : Store} {i : Nat} {ns : List PySem.Str} {xs : List Val} (h : S[i]? = some (.ins c ns xs)) : insAt S (.obj i) = some (c, ns, xs) := by unfold insAt; simp only [h]
theorem fldF_obj {c f : PySem.Str} {S : Store} {i : Nat} {ns : List PySem.Str} {xs : List Val} (h : S[i]? = some (.ins c ns xs)) : fldF c f S (.obj i) = fget f ns xs := by unfold fldF; rw [insAt_obj h]; exact if_pos rfl
@[simp] theorem fput_nil {f : PySem.Str} {y : Val} {xs : List Val} : fput f y [] xs = [y] := by cases xs <;> rfl
@[simp] theorem fput_cons {f n : PySem.Str} {y x : Val} {ns : List PySem.Str} {xs : List Val} : fput f y (n :: ns) (x :: xs) = if n = f then y :: xs else x :: fput f y ns xs := rfl
@[simp] theorem fputN_nil {f : PySem.Str} : fputN f [] = [f] := rfl
@[simp] theorem fputN_cons {f n : PySem.Str} {ns : List PySem.Str} : fputN f (n :: ns) = if n = f then n :: ns else n :: fputN f ns := rfl
/-! ### all of them -/
theorem lcL_true {chk : Store → Prop} {g : GD} {d : ED} {ρ : Slots} {S : Store} {xs : List Val} (hc : chk S) (h : ∀ x ∈ xs, ∃ ρ1, g x ρ = some ρ1 ∧ d ρ1 S = some (.ok (.bl true), S)) : lcL chk g dYes d ρ xs S = some (List.replicate xs.length (.bl true), S) := by
  rw [lcL_map hc (fun _ => .bl true) xs fun x m => by
    obtain ⟨r, a, b⟩ := h x m
    exact ⟨r, a, rfl, b⟩]
  rw [List.map_const']
theorem lcE_rep {n : Nat} {x : Val} {S : Store} (h : n ≤ 1000000) : lcE (some (List.replicate n x, S)) = some (.ok (.vl (List.replicate n x)), S) := lcE_of (by rw [List.length_replicate]; exact h)
@[simp] theorem allF_rep {n : Nat} {S : Store} : allF S [.vl (List.replicate n (.bl true))] = some (.bl true) := allF_true S _ fun x m => (List.mem_replicate.mp m).2
/-! ### neighbours -/
theorem zip_near {α : Type} {f : α → Val} {R : α → α → Prop} : ∀ {l : List α}, l.Pairwise R → ∀ v ∈ zipV (l.map f) (l.map f).tail, ∃ a b, v = .tup [f a, f b] ∧ R a b
  | [], _, v, h => by simp [zipV] at h
  | [a], _, v, h => by simp [zipV] at h
  | a :: b :: l, hp, v, h => by
    have e : zipV ((a :: b :: l).map f) ((a :: b :: l).map f).tail = .tup [f a, f b] :: zipV ((b :: l).map f) ((b :: l).map f).tail := rfl
    rw [e] at h
    rcases List.mem_cons.mp h with rfl | h
    · exact ⟨a, b, rfl, (List.pairwise_cons.mp hp).1 b (List.mem_cons_self ..)⟩
    · exact zip_near (List.pairwise_cons.mp hp).2 v h
theorem zip_len {l : List Val} : (zipV l l.tail).length = l.length - 1 := by
  unfold zipV
  rw [List.length_map, List.length_zip, List.length_tail]
  omega
/-- nothing twice, all of it there: not longer -/
theorem nodup_len {α : Type} [DecidableEq α] : ∀ {l m : List α}, l.Nodup → (∀ x ∈ l, x ∈ m) → l.length ≤ m.length
  | [], _, _, _ => Nat.zero_le _
  | x :: l, m, hn, hs => by
    rw [List.nodup_cons] at hn
    have hx := hs x (List.mem_cons_self ..)
    have ih := nodup_len (m := m.erase x) hn.2 fun y hy => (List.mem_erase_of_ne (by rintro rfl; exact hn.1 hy)).mpr (hs y (List.mem_cons_of_mem _ hy))
    rw [List.length_erase_of_mem hx] at ih
    have : 0 < m.length := List.length_pos_of_mem hx
    rw [List.length_cons]
    omega
/-! ### how many there are -/
theorem keysOf_strs : ∀ ns : List PySem.Str, keysOf (ns.map .str) = some (ns.map Sum.inr)
  | [] => rfl
  | n :: ns => by
    rw [List.map_cons]
    unfold keysOf
    rw [keysOf_strs ns]
    rfl
theorem kLenSet_strs {S : Store} {ns : List PySem.Str} (h : ns.Nodup) (hl : ns.length ≤ 4000) : kLenSet (.tup (ns.map .str)) S = some (.ok (.int ns.length), S) := by
  unfold kLenSet
  rw [seqAt_tup, Option.bind_some, keysOf_strs]
  simp only
  have hd : (ns.map (Sum.inr : PySem.Str → Key)).Nodup := by
    refine List.Pairwise.map _ (fun a b hab e => hab (Sum.inr.inj e)) h
  rw [if_pos (by simpa using hl), dist_of_nodup hd]
  simp
theorem lsE_strs {S : Store} {ns : List PySem.Str} (h : ns.Nodup) (hl : ns.length ≤ 3000) : lsE (some (ns.map .str, S)) = some (.ok (.int ns.length), S) := by
  show (match keysOf (ns.map .str) with | some ks => if ks.length ≤ 3000 then some (Res.ok (Val.int (dist ks).length), S) else none | none => none) = _
  rw [keysOf_strs]
  simp only
  have hd : (ns.map (Sum.inr : PySem.Str → Key)).Nodup := by
    refine List.Pairwise.map _ (fun a b hab e => hab (Sum.inr.inj e)) h
  rw [if_pos (by simpa using hl), dist_of_nodup hd]
  simp
end DL
set_option Elab.async false
set_option linter.all false
set_option maxRecDepth 100000
set_option maxHeartbeats 0
/-! The denotations of duenotes_k08_places_and_steps. -/
namespace K08
open PySem PySem.Spec PyProof.Rows L2 DL
section denotations
/-- _law_stream -/
noncomputable def b__law_stream : SD := (dSeq (dSet 2 (dC (.int 0))) (dSeq (dIfS (dTv (dOp2 ltSF (dVar 1) (dB lenF (dCons (dVar 0) dNil)))) (dSet 2 (dOp2 ixF (dVar 0) (dVar 1))) dSkip) (dSeq (dSet 3 (dB max2F (dCons (dVar 2) (dCons (dOp2 subF (dUn negF (dC (.int 1))) (dVar 2)) dNil)))) (dSeq (dSet 4 (dOp2 modF (dOp2 mulF (dOp2 addF (dOp2 addF (dOp2 addF (dOp2 modF (dVar 3) (dC (.int 2147483629))) (dOp2 mulF (dOp2 mulF (dC (.int 7919)) (dVar 1)) (dVar 1))) (dOp2 mulF (dC (.int 31)) (dVar 1))) (dC (.int 17))) (dC (.int 48271))) (dC (.int 2147483647)))) (dRet (dLst (dCons (dOp2 mulF (dVar 3) (dB intF (dCons (dOp2 (ltF fun i j => decide (j ≤ i)) (dVar 3) (dOp2 powF (dC (.int 10)) (dC (.int 18)))) dNil))) (dCons (dVar 4) dNil))))))))
noncomputable def F__law_stream : FD := dDef 2 5 b__law_stream
/-- _law_count -/
noncomputable def l1__law_count (r__law_count : FD) : SD := (dIfS (dAndT (dTv (dOp2 notInF (dOp2 ixF (dVar 3) (dC (.int 0))) (dVl (dCons (dC (.str "set")) (dCons (dC (.str "input")) dNil))))) (dTv (dIsi "tuple" (dVar 4)))) (dSet 2 (dOp2 addF (dVar 2) (dCall r__law_count [] (dCons (dVar 4) (dCons (dVar 1) dNil))))) dSkip)
noncomputable def l2__law_count (r__law_count : FD) : SD := (dSeq (dSet 2 (dOp2 addF (dVar 2) (dB intF (dCons (dOp2 inF (dOp2 ixF (dVar 3) (dC (.int 0))) (dVar 1)) dNil)))) (dFor (dSeqI (dSl (dVar 3) (dPart (dC (.int 1))) dNoPart)) (gN 4) (l1__law_count r__law_count)))
noncomputable def b__law_count (r__law_count : FD) : SD := (dSeq (dSet 2 (dC (.int 0))) (dSeq (dFor (dSeqI (dVar 0)) (gN 3) (l2__law_count r__law_count)) (dRet (dVar 2))))
noncomputable def GG__law_count : Nat → FD
  | 0 => fun _ _ => none
  | n + 1 => dDef 2 5 (b__law_count ((GG__law_count n)))
noncomputable def G__law_count (n : Nat) : FD := (GG__law_count n)
theorem G__law_count_succ (n : Nat) : G__law_count (n + 1) = dDef 2 5 (b__law_count (G__law_count n)) := rfl
theorem G__law_count_zero : G__law_count 0 = fun _ _ => none := rfl
/-- _law_trimmed -/
noncomputable def l1__law_trimmed : SD := (dSet 0 (dSl (dVar 0) dNoPart (dPart (dUn negF (dC (.int 1))))))
noncomputable def b__law_trimmed : SD := (dSeq (whileD (dTv (dOp2 (ltF fun i j => decide (j < i)) (dCall (G__law_count 30) [] (dCons (dVar 0) (dCons (dVar 1) dNil))) (dVar 2))) l1__law_trimmed 200) (dRet (dVar 0)))
noncomputable def F__law_trimmed : FD := cutF (dDef 3 3 b__law_trimmed)
/-- _law_draw -/
noncomputable def b__law_draw : SD := (dSeq (dIfS (dTv (dOp2 (ltF fun i j => decide (j < i)) (dOp2 ixF (dVar 0) (dC (.int 0))) (dC (.int 0)))) (dSeq (dSet 2 (dOp2 modF (dOp2 ixF (dVar 0) (dC (.int 0))) (dVar 1))) (dSeq (dSub (dVar 0) (dC (.int 0)) (dOp2 fdivF (dOp2 ixF (dVar 0) (dC (.int 0))) (dVar 1))) (dRet (dVar 2)))) dSkip) (dSeq (dSub (dVar 0) (dC (.int 1)) (dOp2 modF (dOp2 addF (dOp2 mulF (dOp2 ixF (dVar 0) (dC (.int 1))) (dC (.int 69621))) (dC (.int 7))) (dC (.int 2147483647)))) (dRet (dOp2 modF (dOp2 fdivF (dOp2 modF (dOp2 mulF (dOp2 ixF (dVar 0) (dC (.int 1))) (dOp2 ixF (dVar 0) (dC (.int 1)))) (dC (.int 2147483629))) (dC (.int 32))) (dVar 1)))))
noncomputable def F__law_draw : FD := dDef 2 3 b__law_draw
/-- _law_choose -/
noncomputable def b__law_choose : SD := (dRet (dOp2 ixF (dVar 1) (dCall F__law_draw [] (dCons (dVar 0) (dCons (dB lenF (dCons (dVar 1) dNil)) dNil)))))
noncomputable def F__law_choose : FD := dDef 2 2 b__law_choose
/-- _law_sum -/
noncomputable def l1__law_sum : SD := (dIfS (dTv (dOp2 ltSF (dCall F__law_draw [] (dCons (dVar 0) (dCons (dC (.int 5)) dNil))) (dC (.int 2)))) (dApp (dVar 2) (dTup (dCons (dCall F__law_choose [] (dCons (dVar 0) (dCons (dVl (dCons (dC (.int 1)) (dCons (dC (.int 1)) (dCons (dC (.int 2)) (dCons (dUn negF (dC (.int 1))) (dCons (dC (.int 3)) dNil)))))) dNil))) (dCons (dVar 3) dNil)))) dSkip)
noncomputable def b__law_sum : SD := (dSeq (dSet 2 (dLst dNil)) (dSeq (dFor (dSeqI (dSort (dCons (dVar 1) dNil))) (gN 3) l1__law_sum) (dRet (dTup (dCons (dCall F__law_choose [] (dCons (dVar 0) (dCons (dVl (dCons (dC (.int 0)) (dCons (dC (.int 0)) (dCons (dC (.int 1)) (dCons (dC (.int 5)) (dCons (dUn negF (dC (.int 2))) dNil)))))) dNil))) (dCons (dB tupleF (dCons (dVar 2) dNil)) dNil))))))
noncomputable def F__law_sum : FD := cutF (dDef 2 4 b__law_sum)
/-- _law_simple -/
noncomputable def b__law_simple : SD := (dSeq (dSet 2 (dCall F__law_choose [] (dCons (dVar 0) (dCons (dVar 1) dNil)))) (dSeq (dSet 3 (dCall F__law_draw [] (dCons (dVar 0) (dCons (dC (.int 8)) dNil)))) (dSeq (dIfS (dTv (dOp2 eqF (dVar 3) (dC (.int 0)))) (dRet (dTup (dCons (dC (.str "input")) (dCons (dVar 2) dNil)))) dSkip) (dSeq (dIfS (dTv (dOp2 ltSF (dVar 3) (dC (.int 4)))) (dRet (dTup (dCons (dC (.str "set")) (dCons (dVar 2) (dCons (dTup (dCons (dCall F__law_draw [] (dCons (dVar 0) (dCons (dC (.int 4)) dNil))) (dCons (dTup (dCons (dTup (dCons (dC (.int 1)) (dCons (dVar 2) dNil))) dNil)) dNil))) dNil))))) dSkip) (dSeq (dIfS (dTv (dOp2 eqF (dVar 3) (dC (.int 4)))) (dRet (dTup (dCons (dC (.str "set")) (dCons (dVar 2) (dCons (dTup (dCons (dC (.int 0)) (dCons (dTup (dCons (dTup (dCons (dCall F__law_choose [] (dCons (dVar 0) (dCons (dVl (dCons (dC (.int 2)) (dCons (dUn negF (dC (.int 1))) (dCons (dC (.int 3)) dNil)))) dNil))) (dCons (dVar 2) dNil))) dNil)) dNil))) dNil))))) dSkip) (dRet (dTup (dCons (dC (.str "set")) (dCons (dVar 2) (dCons (dCall F__law_sum [] (dCons (dVar 0) (dCons (dVar 1) dNil))) dNil))))))))))
noncomputable def F__law_simple : FD := dDef 2 4 b__law_simple
/-- _law_block -/
noncomputable def l1__law_block (r__law_block : FD) : SD := (dSeq (dSet 6 (dCall F__law_draw [] (dCons (dVar 0) (dCons (dC (.int 9)) dNil)))) (dIfS (dAndT (dTv (dOp2 eqF (dVar 6) (dC (.int 7)))) (dTv (dOp2 (ltF fun i j => decide (j < i)) (dVar 3) (dC (.int 0))))) (dSeq (dPar 7 8 (dCons (dCall r__law_block [] (dCons (dVar 0) (dCons (dVar 1) (dCons (dC (.int 2)) (dCons (dOp2 subF (dVar 3) (dC (.int 1))) dNil))))) (dCons (dCall r__law_block [] (dCons (dVar 0) (dCons (dVar 1) (dCons (dC (.int 1)) (dCons (dOp2 subF (dVar 3) (dC (.int 1))) dNil))))) dNil))) (dApp (dVar 4) (dTup (dCons (dC (.str "either")) (dCons (dVar 7) (dCons (dVar 8) dNil)))))) (dIfS (dAndT (dTv (dOp2 eqF (dVar 6) (dC (.int 8)))) (dTv (dOp2 (ltF fun i j => decide (j < i)) (dVar 3) (dC (.int 0))))) (dApp (dVar 4) (dTup (dCons (dC (.str "loop")) (dCons (dCall r__law_block [] (dCons (dVar 0) (dCons (dVar 1) (dCons (dC (.int 2)) (dCons (dOp2 subF (dVar 3) (dC (.int 1))) dNil))))) dNil)))) (dApp (dVar 4) (dCall F__law_simple [] (dCons (dVar 0) (dCons (dVar 1) dNil)))))))
noncomputable def b__law_block (r__law_block : FD) : SD := (dSeq (dSet 4 (dLst dNil)) (dSeq (dFor (dRange1 (dCall F__law_draw [] (dCons (dVar 0) (dCons (dOp2 addF (dVar 2) (dC (.int 1))) dNil)))) (gN 5) (l1__law_block r__law_block)) (dRet (dB tupleF (dCons (dVar 4) dNil)))))
noncomputable def GG__law_block : Nat → FD
  | 0 => fun _ _ => none
  | n + 1 => cutF (dDef 4 9 (b__law_block ((GG__law_block n))))
noncomputable def G__law_block (n : Nat) : FD := (GG__law_block n)
theorem G__law_block_succ (n : Nat) : G__law_block (n + 1) = cutF (dDef 4 9 (b__law_block (G__law_block n))) := rfl
theorem G__law_block_zero : G__law_block 0 = fun _ _ => none := rfl
/-- _law_handler -/
noncomputable def b__law_handler : SD := (dSeq (dSet 4 (dSl (dTup (dCons (dC (.str "u")) (dCons (dC (.str "w")) dNil))) dNoPart (dPart (dCall F__law_draw [] (dCons (dVar 0) (dCons (dC (.int 2)) dNil)))))) (dSeq (dSet 5 (dOp2 addF (dTup (dCons (dCall F__law_simple [] (dCons (dVar 0) (dCons (dOp2 addF (dVar 2) (dVar 4)) dNil))) dNil)) (dCall (G__law_block 30) [] (dCons (dVar 0) (dCons (dOp2 addF (dVar 2) (dVar 4)) (dCons (dC (.int 1)) (dCons (dVar 3) dNil))))))) (dSeq (dSet 5 (dCall F__law_trimmed [] (dCons (dCall F__law_trimmed [] (dCons (dVar 5) (dCons (dVl (dCons (dC (.str "either")) (dCons (dC (.str "loop")) dNil))) (dCons (dC (.int 1)) dNil)))) (dCons (dVl (dCons (dC (.str "set")) (dCons (dC (.str "input")) dNil))) (dCons (dC (.int 4)) dNil))))) (dSeq (dPar 6 7 (dCons (dCall F__law_choose [] (dCons (dVar 0) (dCons (dVl (dCons (dC (.str "now")) (dCons (dC (.str "now")) (dCons (dC (.str "late")) dNil)))) dNil))) (dCons (dCall F__law_choose [] (dCons (dVar 0) (dCons (dVl (dCons (dC .non) (dCons (dC .non) (dCons (dC (.int 9)) (dCons (dC (.int 4)) dNil))))) dNil))) dNil))) (dRet (dTup (dCons (dVar 1) (dCons (dOp2 addF (dC (.int 1)) (dCall F__law_draw [] (dCons (dVar 0) (dCons (dC (.int 3)) dNil)))) (dCons (dVar 6) (dCons (dVar 7) (dCons (dVar 4) (dCons (dVar 5) dNil))))))))))))
noncomputable def F__law_handler : FD := dDef 4 8 b__law_handler
/-- _law_parts -/
noncomputable def b__law_parts : SD := (dSeq (dSet 2 (dSl (dTup (dCons (dC (.str "x")) (dCons (dC (.str "a")) (dCons (dC (.str "zz")) dNil)))) dNoPart (dPart (dOp2 addF (dC (.int 1)) (dCall F__law_draw [] (dCons (dVar 0) (dCons (dC (.int 2)) dNil))))))) (dSeq (dSet 3 (dSl (dTup (dCons (dC (.str "t")) (dCons (dC (.str "c")) dNil))) dNoPart (dPart (dCall F__law_draw [] (dCons (dVar 0) (dCons (dC (.int 2)) dNil)))))) (dSeq (dSet 4 (dOp2 addF (dCall (G__law_block 30) [] (dCons (dVar 0) (dCons (dOp2 addF (dVar 2) (dVar 3)) (dCons (dC (.int 4)) (dCons (dVar 1) dNil))))) (dCall (G__law_block 30) [] (dCons (dVar 0) (dCons (dOp2 addF (dVar 2) (dVar 3)) (dCons (dC (.int 2)) (dCons (dC (.int 0)) dNil))))))) (dSeq (dSet 4 (dCall F__law_trimmed [] (dCons (dCall F__law_trimmed [] (dCons (dVar 4) (dCons (dVl (dCons (dC (.str "either")) (dCons (dC (.str "loop")) dNil))) (dCons (dC (.int 2)) dNil)))) (dCons (dVl (dCons (dC (.str "set")) (dCons (dC (.str "input")) dNil))) (dCons (dC (.int 7)) dNil))))) (dSeq (dSet 5 (dLc (dSeqI (dSl (dVl (dCons (dC (.str "h")) (dCons (dC (.str "x")) dNil))) dNoPart (dPart (dOp2 addF (dC (.int 1)) (dCall F__law_draw [] (dCons (dVar 0) (dCons (dC (.int 2)) dNil))))))) (gN 6) dYes (dCall F__law_handler [] (dCons (dVar 0) (dCons (dVar 6) (dCons (dVar 2) (dCons (dVar 1) dNil))))) [6])) (dRet (dTup (dCons (dVar 2) (dCons (dTup (dCons (dVar 3) (dCons (dSl (dVar 3) dNoPart (dPart (dCall F__law_draw [] (dCons (dVar 0) (dCons (dC (.int 2)) dNil))))) (dCons (dVar 4) dNil)))) (dCons (dB tupleF (dCons (dVar 5) dNil)) dNil))))))))))
noncomputable def F__law_parts : FD := dDef 2 7 b__law_parts
/-- _law_laid -/
noncomputable def l1__law_laid : SD := (dSeq (dApp (dOp2 ixF (dVar 1) (dVar 3)) (dVar 6)) (dApp (dOp2 ixF (dVar 1) (dVar 7)) (dOp2 subF (dB lenF (dCons (dVar 1) dNil)) (dC (.int 1)))))
noncomputable def l2__law_laid (r__law_laid : FD) : SD := (dSeq (dIfS (dTv (dOp2 inF (dOp2 ixF (dVar 4) (dC (.int 0))) (dVl (dCons (dC (.str "set")) (dCons (dC (.str "input")) dNil))))) (dSeq (dApp (dVar 1) (dLst dNil)) (dApp (dOp2 ixF (dVar 1) (dVar 3)) (dOp2 subF (dB lenF (dCons (dVar 1) dNil)) (dC (.int 1))))) (dIfS (dTv (dOp2 eqF (dOp2 ixF (dVar 4) (dC (.int 0))) (dC (.str "loop")))) (dSeq (dSet 5 (dB lenF (dCons (dVar 1) dNil))) (dSeq (dApp (dVar 1) (dLst dNil)) (dSeq (dApp (dOp2 ixF (dVar 1) (dVar 3)) (dVar 5)) (dSeq (dAsg (gT 2 (gCons' (gN 6) (gCons' (gN 7) gNil'))) (dCall r__law_laid [] (dCons (dOp2 ixF (dVar 4) (dC (.int 1))) (dCons (dVar 1) dNil)))) (dSeq (dApp (dVar 1) (dLst dNil)) (dSeq (dSub (dVar 1) (dVar 5) (dLst (dCons (dVar 6) (dCons (dOp2 subF (dB lenF (dCons (dVar 1) dNil)) (dC (.int 1))) dNil)))) (dApp (dOp2 ixF (dVar 1) (dVar 7)) (dVar 5)))))))) (dSeq (dSet 8 (dLc (dSeqI (dSl (dVar 4) (dPart (dC (.int 1))) dNoPart)) (gN 9) dYes (dCall r__law_laid [] (dCons (dVar 9) (dCons (dVar 1) dNil))) [9])) (dSeq (dApp (dVar 1) (dLst dNil)) (dFor (dSeqI (dVar 8)) (gT 2 (gCons' (gN 6) (gCons' (gN 7) gNil'))) l1__law_laid))))) (dSet 3 (dOp2 subF (dB lenF (dCons (dVar 1) dNil)) (dC (.int 1)))))
noncomputable def b__law_laid (r__law_laid : FD) : SD := (dSeq (dSet 2 (dB lenF (dCons (dVar 1) dNil))) (dSeq (dApp (dVar 1) (dLst dNil)) (dSeq (dSet 3 (dVar 2)) (dSeq (dFor (dSeqI (dVar 0)) (gN 4) (l2__law_laid r__law_laid)) (dRet (dTup (dCons (dVar 2) (dCons (dVar 3) dNil))))))))
noncomputable def GG__law_laid : Nat → FD
  | 0 => fun _ _ => none
  | n + 1 => dDef 2 10 (b__law_laid ((GG__law_laid n)))
noncomputable def G__law_laid (n : Nat) : FD := (GG__law_laid n)
theorem G__law_laid_succ (n : Nat) : G__law_laid (n + 1) = dDef 2 10 (b__law_laid (G__law_laid n)) := rfl
theorem G__law_laid_zero : G__law_laid 0 = fun _ _ => none := rfl
/-- is_name -/
noncomputable def b_is_name : SD := (dSeq (dIfS (dOrT (dNotT (dTv (dIsi "str" (dVar 0)))) (dOrT (dNotT (dTv (dChain (ltF fun i j => decide (i ≤ j)) (ltF fun i j => decide (i ≤ j)) (dC (.int 1)) (dB lenF (dCons (dVar 0) dNil)) (dC (.int 8))))) (dTv (dOp2 inF (dVar 0) (dC (.tup [(.str "shared"), (.str "local"), (.str "told"), (.str "handler"), (.str "rank"), (.str "now"), (.str "late"), (.str "wait"), (.str "main"), (.str "end"), (.str "set"), (.str "input"), (.str "either"), (.str "or"), (.str "loop")])))))) (dRet (dC (.bl false))) dSkip) (dRet (dB allF (dCons (dLc (dStrI (dVar 0)) (gN 1) dYes (dOp2 inF (dVar 1) (dC (.str "abcdefghijklmnopqrstuvwxyz"))) [1]) dNil))))
noncomputable def F_is_name : FD := dDef 1 2 b_is_name
/-- are_names -/
noncomputable def b_are_names : SD := (dSeq (dIfS (dOrT (dNotT (dTv (dIsi "tuple" (dVar 0)))) (dOrT (dNotT (dTv (dChain (ltF fun i j => decide (i ≤ j)) (ltF fun i j => decide (i ≤ j)) (dVar 1) (dB lenF (dCons (dVar 0) dNil)) (dVar 2)))) (dNotT (dTv (dB allF (dCons (dLc (dSeqI (dVar 0)) (gN 3) dYes (dCall F_is_name [] (dCons (dVar 3) dNil)) [3]) dNil)))))) (dRet (dC (.bl false))) dSkip) (dRet (dOp2 eqF (dLenSet (dVar 0)) (dB lenF (dCons (dVar 0) dNil)))))
noncomputable def F_are_names : FD := dDef 3 4 b_are_names
/-- is_variable -/
noncomputable def b_is_variable : SD := (dRet (dAndV (dCall F_is_name [] (dCons (dVar 0) dNil)) (dOp2 inF (dVar 0) (dVar 1))))
noncomputable def F_is_variable : FD := dDef 2 2 b_is_variable
/-- is_told -/
noncomputable def b_is_told : SD := (dSeq (dIfS (dOrT (dNotT (dTv (dIsi "tuple" (dVar 0)))) (dNotT (dTv (dB allF (dCons (dLc (dSeqI (dVar 0)) (gN 3) dYes (dCall F_is_variable [] (dCons (dVar 3) (dCons (dVar 1) dNil))) [3]) dNil))))) (dRet (dC (.bl false))) dSkip) (dSeq (dSet 2 (dLc (dSeqI (dVar 0)) (gN 3) dYes (dTIdx (dVar 1) (dCons (dVar 3) dNil)) [3])) (dRet (dB allF (dCons (dLc (dZipI (dCons (dVar 2) (dCons (dSl (dVar 2) (dPart (dC (.int 1))) dNoPart) dNil))) (gT 2 (gCons' (gN 4) (gCons' (gN 5) gNil'))) dYes (dOp2 ltSF (dVar 4) (dVar 5)) [4, 5]) dNil)))))
noncomputable def F_is_told : FD := dDef 2 6 b_is_told
/-- is_integer -/
noncomputable def b_is_integer : SD := (dRet (dAndV (dIsi "int" (dVar 0)) (dNotV (dIsi "bool" (dVar 0)))))
noncomputable def F_is_integer : FD := dDef 1 1 b_is_integer
/-- is_between -/
noncomputable def b_is_between : SD := (dRet (dAndV (dCall F_is_integer [] (dCons (dVar 0) dNil)) (dChain (ltF fun i j => decide (i ≤ j)) (ltF fun i j => decide (i ≤ j)) (dVar 1) (dVar 0) (dVar 2))))
noncomputable def F_is_between : FD := dDef 3 3 b_is_between
/-- is_factor -/
noncomputable def b_is_factor : SD := (dRet (dCall F_is_between [] (dCons (dVar 0) (dCons (dUn negF (dC (.int 1000000000000000000000000000000))) (dCons (dC (.int 1000000000000000000000000000000)) dNil)))))
noncomputable def F_is_factor : FD := dDef 1 1 b_is_factor
/-- is_sum -/
noncomputable def l1_is_sum : SD := (dSeq (dIfS (dOrT (dNotT (dTv (dIsi "tuple" (dVar 2)))) (dOrT (dTv (dOp2 neF (dB lenF (dCons (dVar 2) dNil)) (dC (.int 2)))) (dOrT (dNotT (dTv (dCall F_is_factor [] (dCons (dOp2 ixF (dVar 2) (dC (.int 0))) dNil)))) (dTv (dOp2 eqF (dOp2 ixF (dVar 2) (dC (.int 0))) (dC (.int 0))))))) (dRet (dC (.bl false))) dSkip) (dIfS (dOrT (dNotT (dTv (dCall F_is_name [] (dCons (dOp2 ixF (dVar 2) (dC (.int 1))) dNil)))) (dTv (dOp2 notInF (dOp2 ixF (dVar 2) (dC (.int 1))) (dVar 1)))) (dRet (dC (.bl false))) dSkip))
noncomputable def b_is_sum : SD := (dSeq (dIfS (dOrT (dNotT (dTv (dIsi "tuple" (dVar 0)))) (dOrT (dTv (dOp2 neF (dB lenF (dCons (dVar 0) dNil)) (dC (.int 2)))) (dOrT (dNotT (dTv (dCall F_is_factor [] (dCons (dOp2 ixF (dVar 0) (dC (.int 0))) dNil)))) (dNotT (dTv (dIsi "tuple" (dOp2 ixF (dVar 0) (dC (.int 1))))))))) (dRet (dC (.bl false))) dSkip) (dSeq (dFor (dSeqI (dOp2 ixF (dVar 0) (dC (.int 1)))) (gN 2) l1_is_sum) (dSeq (dSet 3 (dLc (dSeqI (dOp2 ixF (dVar 0) (dC (.int 1)))) (gT 2 (gCons' (gN 4) (gCons' (gN 5) gNil'))) dYes (dVar 5) [4, 5])) (dRet (dB allF (dCons (dLc (dZipI (dCons (dVar 3) (dCons (dSl (dVar 3) (dPart (dC (.int 1))) dNoPart) dNil))) (gT 2 (gCons' (gN 6) (gCons' (gN 7) gNil'))) dYes (dOp2 ltSF (dVar 6) (dVar 7)) [6, 7]) dNil))))))
noncomputable def F_is_sum : FD := dDef 2 8 b_is_sum
/-- is_statement -/
noncomputable def b_is_statement (r_is_block : FD) : SD := (dSeq (dIfS (dOrT (dNotT (dTv (dIsi "tuple" (dVar 0)))) (dOrT (dTv (dOp2 eqF (dVar 0) (dTup dNil))) (dNotT (dTv (dIsi "str" (dOp2 ixF (dVar 0) (dC (.int 0)))))))) (dRet (dC (.bl false))) dSkip) (dMatch (dVar 0) (((pSeq 3 (pCons (pWord "set") (pCons (pCap 3) (pCons (pCap 4) pNil)))), (dRet (dAndV (dCall F_is_variable [] (dCons (dVar 3) (dCons (dVar 1) dNil))) (dCall F_is_sum [] (dCons (dVar 4) (dCons (dVar 1) dNil)))))) :: (((pSeq 2 (pCons (pWord "input") (pCons (pCap 3) pNil))), (dRet (dCall F_is_variable [] (dCons (dVar 3) (dCons (dVar 1) dNil))))) :: (((pSeq 3 (pCons (pWord "either") (pCons (pCap 5) (pCons (pCap 6) pNil)))), (dSeq (dIfS (dOrT (dTv (dOp2 (ltF fun i j => decide (j ≤ i)) (dVar 2) (dC (.int 3)))) (dNotT (dTv (dCall r_is_block [] (dCons (dVar 5) (dCons (dVar 1) (dCons (dOp2 addF (dVar 2) (dC (.int 1))) dNil))))))) (dRet (dC (.bl false))) dSkip) (dRet (dCall r_is_block [] (dCons (dVar 6) (dCons (dVar 1) (dCons (dOp2 addF (dVar 2) (dC (.int 1))) dNil))))))) :: (((pSeq 2 (pCons (pWord "loop") (pCons (pCap 7) pNil))), (dRet (dAndV (dOp2 ltSF (dVar 2) (dC (.int 3))) (dCall r_is_block [] (dCons (dVar 7) (dCons (dVar 1) (dCons (dOp2 addF (dVar 2) (dC (.int 1))) dNil))))))) :: ((pAny, (dRet (dC (.bl false)))) :: [])))))))
/-- is_block -/
noncomputable def b_is_block (r_is_statement : FD) : SD := (dSeq (dIfS (dNotT (dTv (dIsi "tuple" (dVar 0)))) (dRet (dC (.bl false))) dSkip) (dRet (dB allF (dCons (dLc (dSeqI (dVar 0)) (gN 3) dYes (dCall r_is_statement [] (dCons (dVar 3) (dCons (dVar 1) (dCons (dVar 2) dNil)))) [3]) dNil))))
noncomputable def GG_is_statement : Nat → FD × FD
  | 0 => (fun _ _ => none, fun _ _ => none)
  | n + 1 => (dDef 3 8 (b_is_statement ((GG_is_statement n).2)), dDef 3 4 (b_is_block ((GG_is_statement n).1)))
noncomputable def G_is_statement (n : Nat) : FD := (GG_is_statement n).1
noncomputable def G_is_block (n : Nat) : FD := (GG_is_statement n).2
theorem G_is_statement_succ (n : Nat) : G_is_statement (n + 1) = dDef 3 8 (b_is_statement (G_is_block n)) := rfl
theorem G_is_statement_zero : G_is_statement 0 = fun _ _ => none := rfl
theorem G_is_block_succ (n : Nat) : G_is_block (n + 1) = dDef 3 4 (b_is_block (G_is_statement n)) := rfl
theorem G_is_block_zero : G_is_block 0 = fun _ _ => none := rfl
/-- blocks_of -/
noncomputable def b_blocks_of : SD := (dMatch (dVar 0) (((pSeq 3 (pCons (pWord "either") (pCons (pCap 1) (pCons (pCap 2) pNil)))), (dRet (dVl (dCons (dVar 1) (dCons (dVar 2) dNil))))) :: (((pSeq 2 (pCons (pWord "loop") (pCons (pCap 3) pNil))), (dRet (dVl (dCons (dVar 3) dNil)))) :: ((pAny, (dRet (dVl dNil))) :: []))))
noncomputable def F_blocks_of : FD := dDef 1 4 b_blocks_of
/-- statements_in -/
noncomputable def l1_statements_in (r_statements_in : FD) : SD := (dExt (dVar 1) (dCall r_statements_in [] (dCons (dVar 3) dNil)))
noncomputable def l2_statements_in (r_statements_in : FD) : SD := (dSeq (dApp (dVar 1) (dVar 2)) (dFor (dSeqI (dCall F_blocks_of [] (dCons (dVar 2) dNil))) (gN 3) (l1_statements_in r_statements_in)))
noncomputable def b_statements_in (r_statements_in : FD) : SD := (dSeq (dSet 1 (dLst dNil)) (dSeq (dFor (dSeqI (dVar 0)) (gN 2) (l2_statements_in r_statements_in)) (dRet (dVar 1))))
noncomputable def GG_statements_in : Nat → FD
  | 0 => fun _ _ => none
  | n + 1 => cutF (dDef 1 4 (b_statements_in ((GG_statements_in n))))
noncomputable def G_statements_in (n : Nat) : FD := (GG_statements_in n)
theorem G_statements_in_succ (n : Nat) : G_statements_in (n + 1) = cutF (dDef 1 4 (b_statements_in (G_statements_in n))) := rfl
theorem G_statements_in_zero : G_statements_in 0 = fun _ _ => none := rfl
/-- has_size -/
noncomputable def b_has_size : SD := (dSeq (dSet 2 (dLc (dSeqI (dCall (G_statements_in 30) [] (dCons (dVar 0) dNil))) (gN 5) dYes (dOp2 ixF (dVar 5) (dC (.int 0))) [5])) (dSeq (dSet 3 (dB lenF (dCons (dLc (dSeqI (dVar 2)) (gN 6) (dTv (dOp2 inF (dVar 6) (dTup (dCons (dC (.str "set")) (dCons (dC (.str "input")) dNil))))) (dVar 6) [6]) dNil))) (dSeq (dSet 4 (dB lenF (dCons (dLc (dSeqI (dVar 2)) (gN 6) (dTv (dOp2 inF (dVar 6) (dTup (dCons (dC (.str "either")) (dCons (dC (.str "loop")) dNil))))) (dVar 6) [6]) dNil))) (dRet (dAndV (dOp2 (ltF fun i j => decide (i ≤ j)) (dVar 3) (dOp2 ixF (dVar 1) (dC (.int 0)))) (dOp2 (ltF fun i j => decide (i ≤ j)) (dVar 4) (dOp2 ixF (dVar 1) (dC (.int 1)))))))))
noncomputable def F_has_size : FD := dDef 2 7 b_has_size
/-- is_owner -/
noncomputable def b_is_owner : SD := (dSeq (dIfS (dOrT (dNotT (dTv (dCall F_are_names [] (dCons (dVar 0) (dCons (dC (.int 0)) (dCons (dC (.int 2)) dNil)))))) (dNotT (dTv (dCall F_are_names [] (dCons (dOp2 addF (dVar 3) (dVar 0)) (dCons (dC (.int 1)) (dCons (dC (.int 4)) dNil))))))) (dRet (dC (.bl false))) dSkip) (dSeq (dIfS (dNotT (dTv (dCall F_is_told [] (dCons (dVar 1) (dCons (dVar 0) dNil))))) (dRet (dC (.bl false))) dSkip) (dRet (dAndV (dCall (G_is_block 30) [(.int 0)] (dCons (dVar 2) (dCons (dOp2 addF (dVar 3) (dVar 0)) dNil))) (dCall F_has_size [] (dCons (dVar 2) (dCons (dVar 4) dNil)))))))
noncomputable def F_is_owner : FD := dDef 5 5 b_is_owner
/-- is_main -/
noncomputable def b_is_main : SD := (dSeq (dIfS (dOrT (dNotT (dTv (dIsi "tuple" (dVar 0)))) (dTv (dOp2 neF (dB lenF (dCons (dVar 0) dNil)) (dC (.int 3))))) (dRet (dC (.bl false))) dSkip) (dRet (dCall F_is_owner [] (dCons (dOp2 ixF (dVar 0) (dC (.int 0))) (dCons (dOp2 ixF (dVar 0) (dC (.int 1))) (dCons (dOp2 ixF (dVar 0) (dC (.int 2))) (dCons (dVar 1) (dCons (dC (.tup [(.int 16), (.int 4)])) dNil))))))))
noncomputable def F_is_main : FD := dDef 2 2 b_is_main
/-- is_handler -/
noncomputable def b_is_handler : SD := (dSeq (dIfS (dOrT (dNotT (dTv (dIsi "tuple" (dVar 0)))) (dOrT (dTv (dOp2 neF (dB lenF (dCons (dVar 0) dNil)) (dC (.int 6)))) (dNotT (dTv (dCall F_is_name [] (dCons (dOp2 ixF (dVar 0) (dC (.int 0))) dNil)))))) (dRet (dC (.bl false))) dSkip) (dSeq (dIfS (dOrT (dNotT (dTv (dCall F_is_between [] (dCons (dOp2 ixF (dVar 0) (dC (.int 1))) (dCons (dC (.int 1)) (dCons (dC (.int 3)) dNil)))))) (dOrT (dNotT (dTv (dIsi "str" (dOp2 ixF (dVar 0) (dC (.int 2)))))) (dTv (dOp2 notInF (dOp2 ixF (dVar 0) (dC (.int 2))) (dC (.tup [(.str "now"), (.str "late")])))))) (dRet (dC (.bl false))) dSkip) (dSeq (dIfS (dAndT (dTv (dOp2 notNF (dOp2 ixF (dVar 0) (dC (.int 3))) (dC .non))) (dNotT (dTv (dCall F_is_between [] (dCons (dOp2 ixF (dVar 0) (dC (.int 3))) (dCons (dC (.int 0)) (dCons (dC (.int 500)) dNil))))))) (dRet (dC (.bl false))) dSkip) (dRet (dCall F_is_owner [] (dCons (dOp2 ixF (dVar 0) (dC (.int 4))) (dCons (dTup dNil) (dCons (dOp2 ixF (dVar 0) (dC (.int 5))) (dCons (dVar 1) (dCons (dC (.tup [(.int 8), (.int 3)])) dNil))))))))))
noncomputable def F_is_handler : FD := dDef 2 2 b_is_handler
/-- check_parts -/
noncomputable def l1_check_parts : SD := (dIfS (dNotT (dTv (dCall F_is_handler [] (dCons (dVar 4) (dCons (dVar 0) dNil))))) dNever dSkip)
noncomputable def b_check_parts : SD := (dSeq (dIfS (dNotT (dTv (dCall F_are_names [] (dCons (dVar 0) (dCons (dC (.int 1)) (dCons (dC (.int 3)) dNil)))))) dNever dSkip) (dSeq (dIfS (dNotT (dTv (dCall F_is_main [] (dCons (dVar 1) (dCons (dVar 0) dNil))))) dNever dSkip) (dSeq (dIfS (dOrT (dNotT (dTv (dIsi "tuple" (dVar 2)))) (dNotT (dTv (dChain (ltF fun i j => decide (i ≤ j)) (ltF fun i j => decide (i ≤ j)) (dC (.int 1)) (dB lenF (dCons (dVar 2) dNil)) (dC (.int 3)))))) dNever dSkip) (dSeq (dFor (dEnumI (dCons (dVar 2) dNil)) (gT 2 (gCons' (gN 3) (gCons' (gN 4) gNil'))) l1_check_parts) (dIfS (dTv (dOp2 neF (dLenSC (dSeqI (dVar 2)) (gN 4) dYes (dOp2 ixF (dVar 4) (dC (.int 0))) [4]) (dB lenF (dCons (dVar 2) dNil)))) dNever dSkip)))))
noncomputable def F_check_parts : FD := dDef 3 5 b_check_parts
/-- Graph.put_place -/
noncomputable def b_Graph__put_place : SD := (dSeq (dApp (dFld "Graph" "steps" (dVar 0)) (dVl dNil)) (dSeq (dApp (dFld "Graph" "spots" (dVar 0)) (dVar 1)) (dRet (dOp2 subF (dB lenF (dCons (dFld "Graph" "steps" (dVar 0)) dNil)) (dC (.int 1))))))
noncomputable def F_Graph__put_place : FD := dDef 2 2 b_Graph__put_place
/-- Graph.put_block -/
noncomputable def l1_Graph__put_block (r_Graph__put_statement : FD) : SD := (dSet 4 (dMeth "Graph" "put_statement" r_Graph__put_statement (dVar 0) (dCons (dVar 6) (dCons (dVar 2) (dCons (dVar 5) (dCons (dVar 4) dNil))))))
noncomputable def b_Graph__put_block (r_Graph__put_statement : FD) : SD := (dSeq (dSet 3 (dMeth "Graph" "put_place" F_Graph__put_place (dVar 0) (dCons (dTup (dCons (dVar 2) (dCons (dC (.int 0)) dNil))) dNil))) (dSeq (dSet 4 (dVar 3)) (dSeq (dFor (dEnumI (dCons (dVar 1) dNil)) (gT 2 (gCons' (gN 5) (gCons' (gN 6) gNil'))) (l1_Graph__put_block r_Graph__put_statement)) (dRet (dTup (dCons (dVar 3) (dCons (dVar 4) dNil)))))))
/-- Graph.put_statement -/
noncomputable def b_Graph__put_statement (r_Graph__put_block : FD) : SD := (dSeq (dMatch (dVar 1) (((pSeq 3 (pCons (pWord "either") (pCons (pCap 5) (pCons (pCap 6) pNil)))), (dSeq (dSet 7 (dMeth "Graph" "put_block" r_Graph__put_block (dVar 0) (dCons (dVar 5) (dCons (dTup (dStar (dVar 2) (dCons (dTup (dCons (dVar 3) (dCons (dC (.int 0)) dNil))) dNil))) dNil)))) (dSeq (dSet 8 (dMeth "Graph" "put_block" r_Graph__put_block (dVar 0) (dCons (dVar 6) (dCons (dTup (dStar (dVar 2) (dCons (dTup (dCons (dVar 3) (dCons (dC (.int 1)) dNil))) dNil))) dNil)))) (dSeq (dSet 9 (dMeth "Graph" "put_place" F_Graph__put_place (dVar 0) (dCons (dTup (dCons (dVar 2) (dCons (dOp2 addF (dVar 3) (dC (.int 1))) dNil))) dNil))) (dSeq (dSub (dFld "Graph" "steps" (dVar 0)) (dVar 4) (dVl (dCons (dTup (dCons (dOp2 ixF (dVar 7) (dC (.int 0))) (dCons (dC (.int 1)) (dCons (dC .non) dNil)))) (dCons (dTup (dCons (dOp2 ixF (dVar 8) (dC (.int 0))) (dCons (dC (.int 0)) (dCons (dC .non) dNil)))) dNil)))) (dSeq (dSub (dFld "Graph" "steps" (dVar 0)) (dOp2 ixF (dVar 7) (dC (.int 1))) (dVl (dCons (dTup (dCons (dVar 9) (dCons (dC .non) (dCons (dC .non) dNil)))) dNil))) (dSub (dFld "Graph" "steps" (dVar 0)) (dOp2 ixF (dVar 8) (dC (.int 1))) (dVl (dCons (dTup (dCons (dVar 9) (dCons (dC .non) (dCons (dC .non) dNil)))) dNil))))))))) :: (((pSeq 2 (pCons (pWord "loop") (pCons (pCap 10) pNil))), (dSeq (dSet 11 (dMeth "Graph" "put_place" F_Graph__put_place (dVar 0) (dCons (dC .non) dNil))) (dSeq (dSet 12 (dMeth "Graph" "put_block" r_Graph__put_block (dVar 0) (dCons (dVar 10) (dCons (dTup (dStar (dVar 2) (dCons (dTup (dCons (dVar 3) (dCons (dC (.int 0)) dNil))) dNil))) dNil)))) (dSeq (dSet 9 (dMeth "Graph" "put_place" F_Graph__put_place (dVar 0) (dCons (dTup (dCons (dVar 2) (dCons (dOp2 addF (dVar 3) (dC (.int 1))) dNil))) dNil))) (dSeq (dSub (dFld "Graph" "steps" (dVar 0)) (dVar 4) (dVl (dCons (dTup (dCons (dVar 11) (dCons (dC .non) (dCons (dC .non) dNil)))) dNil))) (dSeq (dSub (dFld "Graph" "steps" (dVar 0)) (dVar 11) (dVl (dCons (dTup (dCons (dOp2 ixF (dVar 12) (dC (.int 0))) (dCons (dC (.int 1)) (dCons (dC .non) dNil)))) (dCons (dTup (dCons (dVar 9) (dCons (dC (.int 0)) (dCons (dC .non) dNil)))) dNil)))) (dSub (dFld "Graph" "steps" (dVar 0)) (dOp2 ixF (dVar 12) (dC (.int 1))) (dVl (dCons (dTup (dCons (dVar 11) (dCons (dC .non) (dCons (dC .non) dNil)))) dNil))))))))) :: ((pAny, (dSeq (dSet 9 (dMeth "Graph" "put_place" F_Graph__put_place (dVar 0) (dCons (dTup (dCons (dVar 2) (dCons (dOp2 addF (dVar 3) (dC (.int 1))) dNil))) dNil))) (dSub (dFld "Graph" "steps" (dVar 0)) (dVar 4) (dVl (dCons (dTup (dCons (dVar 9) (dCons (dC .non) (dCons (dVar 1) dNil)))) dNil))))) :: [])))) (dRet (dVar 9)))
noncomputable def GG_Graph__put_block : Nat → FD × FD
  | 0 => (fun _ _ => none, fun _ _ => none)
  | n + 1 => (dDef 3 7 (b_Graph__put_block ((GG_Graph__put_block n).2)), dDef 5 13 (b_Graph__put_statement ((GG_Graph__put_block n).1)))
noncomputable def G_Graph__put_block (n : Nat) : FD := (GG_Graph__put_block n).1
noncomputable def G_Graph__put_statement (n : Nat) : FD := (GG_Graph__put_block n).2
theorem G_Graph__put_block_succ (n : Nat) : G_Graph__put_block (n + 1) = dDef 3 7 (b_Graph__put_block (G_Graph__put_statement n)) := rfl
theorem G_Graph__put_block_zero : G_Graph__put_block 0 = fun _ _ => none := rfl
theorem G_Graph__put_statement_succ (n : Nat) : G_Graph__put_statement (n + 1) = dDef 5 13 (b_Graph__put_statement (G_Graph__put_block n)) := rfl
theorem G_Graph__put_statement_zero : G_Graph__put_statement 0 = fun _ _ => none := rfl
/-- Graph.__init__ -/
noncomputable def b_Graph__init : SD := (dSeq (dSetF "Graph" "steps" (dVar 0) (dLst dNil)) (dSeq (dSetF "Graph" "spots" (dVar 0) (dLst dNil)) (dExpr (dMeth "Graph" "put_block" (G_Graph__put_block 30) (dVar 0) (dCons (dVar 1) (dCons (dTup dNil) dNil))))))
noncomputable def F_Graph__init : FD := dDef 2 2 b_Graph__init
/-- Program.__init__ -/
noncomputable def b_Program__init : SD := (dSeq (dExpr (dCall F_check_parts [] (dCons (dVar 1) (dCons (dVar 2) (dCons (dVar 3) dNil))))) (dSeq (dSetF "Program" "content" (dVar 0) (dTup (dCons (dVar 1) (dCons (dVar 2) (dCons (dVar 3) dNil))))) (dSeq (dSetF "Program" "graphs" (dVar 0) (dDc (dSeqI (dVar 3)) (gN 4) dYes (dOp2 ixF (dVar 4) (dC (.int 0))) (dCut (dMake "Graph" F_Graph__init (dCons (dOp2 ixF (dVar 4) (dC (.int 5))) dNil))) [4])) (dSetF "Program" "main_graph" (dVar 0) (dCut (dMake "Graph" F_Graph__init (dCons (dOp2 ixF (dVar 2) (dC (.int 2))) dNil)))))))
noncomputable def F_Program__init : FD := dDef 4 5 b_Program__init
/-- check_owner -/
noncomputable def b_check_owner : SD := (dIfS (dOrT (dNotT (dTv (dIsi "str" (dVar 1)))) (dAndT (dTv (dOp2 neF (dVar 1) (dC (.str "main")))) (dTv (dOp2 (inD true) (dVar 1) (dFld "Program" "graphs" (dVar 0)))))) dNever dSkip)
noncomputable def F_check_owner : FD := dDef 2 2 b_check_owner
/-- Program.handler -/
noncomputable def l1_Program__handler : SD := (dIfS (dAndT (dTv (dIsi "str" (dVar 1))) (dTv (dOp2 eqF (dOp2 ixF (dVar 2) (dC (.int 0))) (dVar 1)))) (dRet (dVar 2)) dSkip)
noncomputable def b_Program__handler : SD := (dSeq (dFor (dSeqI (dOp2 ixF (dFld "Program" "content" (dVar 0)) (dC (.int 2)))) (gN 2) l1_Program__handler) dNever)
noncomputable def F_Program__handler : FD := dDef 2 3 b_Program__handler
/-- rank_of -/
noncomputable def b_rank_of : SD := (dRet (dIf (dTv (dOp2 eqF (dVar 1) (dC (.str "main")))) (dC (.int 0)) (dOp2 ixF (dMeth "Program" "handler" F_Program__handler (dVar 0) (dCons (dVar 1) dNil)) (dC (.int 1)))))
noncomputable def F_rank_of : FD := dDef 2 2 b_rank_of
/-- comers_of -/
noncomputable def b_comers_of : SD := (dSeq (dSet 2 (dCall F_rank_of [] (dCons (dVar 0) (dCons (dVar 1) dNil)))) (dRet (dLc (dSeqI (dOp2 ixF (dFld "Program" "content" (dVar 0)) (dC (.int 2)))) (gN 3) (dTv (dOp2 (ltF fun i j => decide (j < i)) (dOp2 ixF (dVar 3) (dC (.int 1))) (dVar 2))) (dOp2 ixF (dVar 3) (dC (.int 0))) [3])))
noncomputable def F_comers_of : FD := dDef 2 4 b_comers_of
/-- comers -/
noncomputable def b_comers : SD := (dSeq (dExpr (dCall F_check_owner [] (dCons (dVar 0) (dCons (dVar 1) dNil)))) (dRet (dCall F_comers_of [] (dCons (dVar 0) (dCons (dVar 1) dNil)))))
noncomputable def F_comers : FD := dDef 2 2 b_comers
/-- has_loops -/
noncomputable def b_has_loops : SD := (dSeq (dSet 1 (dVl (dCons (dOp2 ixF (dOp2 ixF (dFld "Program" "content" (dVar 0)) (dC (.int 1))) (dC (.int 2))) (dStar (dLc (dSeqI (dOp2 ixF (dFld "Program" "content" (dVar 0)) (dC (.int 2)))) (gN 4) dYes (dOp2 ixF (dVar 4) (dC (.int 5))) [4]) dNil)))) (dRet (dB anyF (dCons (dLc2 (dSeqI (dVar 1)) (gN 2) dYes (dSeqI (dCall (G_statements_in 30) [] (dCons (dVar 2) dNil))) (gN 3) dYes (dOp2 eqF (dOp2 ixF (dVar 3) (dC (.int 0))) (dC (.str "loop"))) [2, 3] [3]) dNil))))
noncomputable def F_has_loops : FD := dDef 1 5 b_has_loops
/-- graph_of -/
noncomputable def b_graph_of : SD := (dRet (dIf (dTv (dOp2 eqF (dVar 1) (dC (.str "main")))) (dFld "Program" "main_graph" (dVar 0)) (dIxD (dFld "Program" "graphs" (dVar 0)) (dVar 1))))
noncomputable def F_graph_of : FD := dDef 2 2 b_graph_of
/-- places -/
noncomputable def b_places : SD := (dSeq (dExpr (dCall F_check_owner [] (dCons (dVar 0) (dCons (dVar 1) dNil)))) (dRet (dB lenF (dCons (dFld "Graph" "steps" (dCall F_graph_of [] (dCons (dVar 0) (dCons (dVar 1) dNil)))) dNil))))
noncomputable def F_places : FD := dDef 2 2 b_places
/-- check_place -/
noncomputable def b_check_place : SD := (dIfS (dNotT (dTv (dCall F_is_between [] (dCons (dVar 1) (dCons (dC (.int 0)) (dCons (dOp2 subF (dB lenF (dCons (dFld "Graph" "steps" (dCall F_graph_of [] (dCons (dVar 0) (dCons (dVar 2) dNil)))) dNil)) (dC (.int 1))) dNil)))))) dNever dSkip)
noncomputable def F_check_place : FD := dDef 3 3 b_check_place
/-- next_places -/
noncomputable def b_next_places : SD := (dSeq (dExpr (dCall F_check_owner [] (dCons (dVar 0) (dCons (dVar 2) dNil)))) (dSeq (dExpr (dCall F_check_place [] (dCons (dVar 0) (dCons (dVar 1) (dCons (dVar 2) dNil))))) (dRet (dLc (dSeqI (dOp2 ixF (dFld "Graph" "steps" (dCall F_graph_of [] (dCons (dVar 0) (dCons (dVar 2) dNil)))) (dVar 1))) (gT 3 (gCons' (gN 3) (gCons' (gN 4) (gCons' (gN 5) gNil')))) dYes (dVar 3) [3, 4, 5]))))
noncomputable def F_next_places : FD := dDef 3 6 b_next_places
/-- _law_owner_holds -/
noncomputable def b__law_owner_holds : SD := (dSeq (dSet 3 (dLst dNil)) (dSeq (dExpr (dCall (G__law_laid 30) [] (dCons (dVar 2) (dCons (dVar 3) dNil)))) (dSeq (dIfS (dTv (dOp2 neF (dCall F_places [] (dCons (dVar 0) (dCons (dVar 1) dNil))) (dB lenF (dCons (dVar 3) dNil)))) (dRet (dC (.bl false))) dSkip) (dRet (dOp2 eqF (dLc (dRange1 (dB lenF (dCons (dVar 3) dNil))) (gN 4) dYes (dCall F_next_places [] (dCons (dVar 0) (dCons (dVar 4) (dCons (dVar 1) dNil)))) [4]) (dVar 3))))))
noncomputable def F__law_owner_holds : FD := cutF (dDef 3 5 b__law_owner_holds)
/-- law -/
noncomputable def l1_law : SD := (dSeq (dIfS (dNotT (dTv (dCall F__law_owner_holds [] (dCons (dVar 5) (dCons (dOp2 ixF (dVar 7) (dC (.int 0))) (dCons (dOp2 ixF (dVar 7) (dC (.int 5))) dNil)))))) (dRet (dC (.bl false))) dSkip) (dIfS (dTv (dOp2 neF (dCall F_comers [] (dCons (dVar 5) (dCons (dOp2 ixF (dVar 7) (dC (.int 0))) dNil))) (dLc (dSeqI (dOp2 ixF (dVar 4) (dC (.int 2)))) (gN 10) (dTv (dOp2 (ltF fun i j => decide (j < i)) (dOp2 ixF (dVar 10) (dC (.int 1))) (dOp2 ixF (dVar 7) (dC (.int 1))))) (dOp2 ixF (dVar 10) (dC (.int 0))) [10]))) (dRet (dC (.bl false))) dSkip))
noncomputable def l2_law : SD := (dSeq (dSet 4 (dCall F__law_parts [] (dCons (dVar 2) (dCons (dC (.int 2)) dNil)))) (dSeq (dAsg (gT 2 (gCons' (gN 5) (gCons' (gN 6) gNil'))) (dTup (dCons (dCut (dMake "Program" F_Program__init (dCons (dOp2 ixF (dVar 4) (dC (.int 0))) (dCons (dOp2 ixF (dVar 4) (dC (.int 1))) (dCons (dOp2 ixF (dVar 4) (dC (.int 2))) dNil))))) (dCons (dLst dNil) dNil)))) (dSeq (dExpr (dCall (G__law_laid 30) [] (dCons (dOp2 ixF (dOp2 ixF (dVar 4) (dC (.int 1))) (dC (.int 2))) (dCons (dVar 6) dNil)))) (dSeq (dIfS (dOrT (dNotT (dTv (dCall F__law_owner_holds [] (dCons (dVar 5) (dCons (dC (.str "main")) (dCons (dOp2 ixF (dOp2 ixF (dVar 4) (dC (.int 1))) (dC (.int 2))) dNil)))))) (dTv (dOp2 neF (dCall F_places [(.str "main")] (dCons (dVar 5) dNil)) (dB lenF (dCons (dVar 6) dNil))))) (dRet (dC (.bl false))) dSkip) (dSeq (dIfS (dTv (dOp2 neF (dCall F_comers [(.str "main")] (dCons (dVar 5) dNil)) (dLc (dSeqI (dOp2 ixF (dVar 4) (dC (.int 2)))) (gN 7) dYes (dOp2 ixF (dVar 7) (dC (.int 0))) [7]))) (dRet (dC (.bl false))) dSkip) (dSeq (dFor (dSeqI (dOp2 ixF (dVar 4) (dC (.int 2)))) (gN 7) l1_law) (dSeq (dSet 8 (dOp2 addF (dVl (dCons (dOp2 ixF (dOp2 ixF (dVar 4) (dC (.int 1))) (dC (.int 2))) dNil)) (dLc (dSeqI (dOp2 ixF (dVar 4) (dC (.int 2)))) (gN 7) dYes (dOp2 ixF (dVar 7) (dC (.int 5))) [7]))) (dSeq (dIfS (dTv (dOp2 neF (dCall F_has_loops [] (dCons (dVar 5) dNil)) (dOp2 (ltF fun i j => decide (j < i)) (dB maxlF (dCons (dLc (dSeqI (dVar 8)) (gN 11) dYes (dCall (G__law_count 30) [] (dCons (dVar 11) (dCons (dVl (dCons (dC (.str "loop")) dNil)) dNil))) [11]) dNil)) (dC (.int 0))))) (dRet (dC (.bl false))) dSkip) (dIfS (dTv (dOp2 neF (dLc (dRange1 (dB lenF (dCons (dVar 6) dNil))) (gN 9) dYes (dCall F_next_places [(.str "main")] (dCons (dVar 5) (dCons (dVar 9) dNil))) [9]) (dVar 6))) (dRet (dC (.bl false))) dSkip)))))))))
noncomputable def l3_law : SD := (dSeq (dSet 2 (dCall F__law_stream [] (dCons (dVar 0) (dCons (dVar 1) dNil)))) (dFor (dRange1 (dC (.int 3))) (gN 3) l2_law))
noncomputable def b_law : SD := (dSeq (dFor (dRange1 (dB max2F (dCons (dC (.int 1)) (dCons (dB min2F (dCons (dC (.int 5)) (dCons (dB lenF (dCons (dVar 0) dNil)) dNil))) dNil)))) (gN 1) l3_law) (dRet (dC (.bl true))))
noncomputable def F_law : FD := dDef 1 12 b_law
end denotations
end K08
set_option maxRecDepth 100000
namespace K08
/-! words are not one another -/
@[simp] theorem word_ne_0 : ¬ (PySem.Str.ofString "set" = PySem.Str.ofString "input") ∧ ¬ (PySem.Str.ofString "set" = PySem.Str.ofString "either") ∧ ¬ (PySem.Str.ofString "set" = PySem.Str.ofString "loop") ∧ ¬ (PySem.Str.ofString "set" = PySem.Str.ofString "main") ∧ ¬ (PySem.Str.ofString "set" = PySem.Str.ofString "h") ∧ ¬ (PySem.Str.ofString "set" = PySem.Str.ofString "x") ∧ ¬ (PySem.Str.ofString "set" = PySem.Str.ofString "a") ∧ ¬ (PySem.Str.ofString "set" = PySem.Str.ofString "t") ∧ ¬ (PySem.Str.ofString "set" = PySem.Str.ofString "u") ∧ ¬ (PySem.Str.ofString "set" = PySem.Str.ofString "now") ∧ ¬ (PySem.Str.ofString "set" = PySem.Str.ofString "late") ∧ ¬ (PySem.Str.ofString "set" = PySem.Str.ofString "steps") ∧ ¬ (PySem.Str.ofString "set" = PySem.Str.ofString "spots") ∧ ¬ (PySem.Str.ofString "set" = PySem.Str.ofString "put_place") ∧ ¬ (PySem.Str.ofString "set" = PySem.Str.ofString "put_block") ∧ ¬ (PySem.Str.ofString "set" = PySem.Str.ofString "put_statement") ∧ ¬ (PySem.Str.ofString "set" = PySem.Str.ofString "content") ∧ ¬ (PySem.Str.ofString "set" = PySem.Str.ofString "graphs") ∧ ¬ (PySem.Str.ofString "set" = PySem.Str.ofString "main_graph") ∧ ¬ (PySem.Str.ofString "set" = PySem.Str.ofString "handler") ∧ ¬ (PySem.Str.ofString "input" = PySem.Str.ofString "set") ∧ ¬ (PySem.Str.ofString "input" = PySem.Str.ofString "either") ∧ ¬ (PySem.Str.ofString "input" = PySem.Str.ofString "loop") ∧ ¬ (PySem.Str.ofString "input" = PySem.Str.ofString "main") ∧ ¬ (PySem.Str.ofString "input" = PySem.Str.ofString "h") ∧ ¬ (PySem.Str.ofString "input" = PySem.Str.ofString "x") ∧ ¬ (PySem.Str.ofString "input" = PySem.Str.ofString "a") ∧ ¬ (PySem.Str.ofString "input" = PySem.Str.ofString "t") ∧ ¬ (PySem.Str.ofString "input" = PySem.Str.ofString "u") ∧ ¬ (PySem.Str.ofString "input" = PySem.Str.ofString "now") ∧ ¬ (PySem.Str.ofString "input" = PySem.Str.ofString "late") ∧ ¬ (PySem.Str.ofString "input" = PySem.Str.ofString "steps") ∧ ¬ (PySem.Str.ofString "input" = PySem.Str.ofString "spots") ∧ ¬ (PySem.Str.ofString "input" = PySem.Str.ofString "put_place") ∧ ¬ (PySem.Str.ofString "input" = PySem.Str.ofString "put_block") ∧ ¬ (PySem.Str.ofString "input" = PySem.Str.ofString "put_statement") ∧ ¬ (PySem.Str.ofString "input" = PySem.Str.ofString "content") ∧ ¬ (PySem.Str.ofString "input" = PySem.Str.ofString "graphs") ∧ ¬ (PySem.Str.ofString "input" = PySem.Str.ofString "main_graph") ∧ ¬ (PySem.Str.ofString "input" = PySem.Str.ofString "handler") := by decide +kernel
@[simp] theorem word_ne_1 : ¬ (PySem.Str.ofString "either" = PySem.Str.ofString "set") ∧ ¬ (PySem.Str.ofString "either" = PySem.Str.ofString "input") ∧ ¬ (PySem.Str.ofString "either" = PySem.Str.ofString "loop") ∧ ¬ (PySem.Str.ofString "either" = PySem.Str.ofString "main") ∧ ¬ (PySem.Str.ofString "either" = PySem.Str.ofString "h") ∧ ¬ (PySem.Str.ofString "either" = PySem.Str.ofString "x") ∧ ¬ (PySem.Str.ofString "either" = PySem.Str.ofString "a") ∧ ¬ (PySem.Str.ofString "either" = PySem.Str.ofString "t") ∧ ¬ (PySem.Str.ofString "either" = PySem.Str.ofString "u") ∧ ¬ (PySem.Str.ofString "either" = PySem.Str.ofString "now") ∧ ¬ (PySem.Str.ofString "either" = PySem.Str.ofString "late") ∧ ¬ (PySem.Str.ofString "either" = PySem.Str.ofString "steps") ∧ ¬ (PySem.Str.ofString "either" = PySem.Str.ofString "spots") ∧ ¬ (PySem.Str.ofString "either" = PySem.Str.ofString "put_place") ∧ ¬ (PySem.Str.ofString "either" = PySem.Str.ofString "put_block") ∧ ¬ (PySem.Str.ofString "either" = PySem.Str.ofString "put_statement") ∧ ¬ (PySem.Str.ofString "either" = PySem.Str.ofString "content") ∧ ¬ (PySem.Str.ofString "either" = PySem.Str.ofString "graphs") ∧ ¬ (PySem.Str.ofString "either" = PySem.Str.ofString "main_graph") ∧ ¬ (PySem.Str.ofString "either" = PySem.Str.ofString "handler") ∧ ¬ (PySem.Str.ofString "loop" = PySem.Str.ofString "set") ∧ ¬ (PySem.Str.ofString "loop" = PySem.Str.ofString "input") ∧ ¬ (PySem.Str.ofString "loop" = PySem.Str.ofString "either") ∧ ¬ (PySem.Str.ofString "loop" = PySem.Str.ofString "main") ∧ ¬ (PySem.Str.ofString "loop" = PySem.Str.ofString "h") ∧ ¬ (PySem.Str.ofString "loop" = PySem.Str.ofString "x") ∧ ¬ (PySem.Str.ofString "loop" = PySem.Str.ofString "a") ∧ ¬ (PySem.Str.ofString "loop" = PySem.Str.ofString "t") ∧ ¬ (PySem.Str.ofString "loop" = PySem.Str.ofString "u") ∧ ¬ (PySem.Str.ofString "loop" = PySem.Str.ofString "now") ∧ ¬ (PySem.Str.ofString "loop" = PySem.Str.ofString "late") ∧ ¬ (PySem.Str.ofString "loop" = PySem.Str.ofString "steps") ∧ ¬ (PySem.Str.ofString "loop" = PySem.Str.ofString "spots") ∧ ¬ (PySem.Str.ofString "loop" = PySem.Str.ofString "put_place") ∧ ¬ (PySem.Str.ofString "loop" = PySem.Str.ofString "put_block") ∧ ¬ (PySem.Str.ofString "loop" = PySem.Str.ofString "put_statement") ∧ ¬ (PySem.Str.ofString "loop" = PySem.Str.ofString "content") ∧ ¬ (PySem.Str.ofString "loop" = PySem.Str.ofString "graphs") ∧ ¬ (PySem.Str.ofString "loop" = PySem.Str.ofString "main_graph") ∧ ¬ (PySem.Str.ofString "loop" = PySem.Str.ofString "handler") := by decide +kernel
@[simp] theorem word_ne_2 : ¬ (PySem.Str.ofString "main" = PySem.Str.ofString "set") ∧ ¬ (PySem.Str.ofString "main" = PySem.Str.ofString "input") ∧ ¬ (PySem.Str.ofString "main" = PySem.Str.ofString "either") ∧ ¬ (PySem.Str.ofString "main" = PySem.Str.ofString "loop") ∧ ¬ (PySem.Str.ofString "main" = PySem.Str.ofString "h") ∧ ¬ (PySem.Str.ofString "main" = PySem.Str.ofString "x") ∧ ¬ (PySem.Str.ofString "main" = PySem.Str.ofString "a") ∧ ¬ (PySem.Str.ofString "main" = PySem.Str.ofString "t") ∧ ¬ (PySem.Str.ofString "main" = PySem.Str.ofString "u") ∧ ¬ (PySem.Str.ofString "main" = PySem.Str.ofString "now") ∧ ¬ (PySem.Str.ofString "main" = PySem.Str.ofString "late") ∧ ¬ (PySem.Str.ofString "main" = PySem.Str.ofString "steps") ∧ ¬ (PySem.Str.ofString "main" = PySem.Str.ofString "spots") ∧ ¬ (PySem.Str.ofString "main" = PySem.Str.ofString "put_place") ∧ ¬ (PySem.Str.ofString "main" = PySem.Str.ofString "put_block") ∧ ¬ (PySem.Str.ofString "main" = PySem.Str.ofString "put_statement") ∧ ¬ (PySem.Str.ofString "main" = PySem.Str.ofString "content") ∧ ¬ (PySem.Str.ofString "main" = PySem.Str.ofString "graphs") ∧ ¬ (PySem.Str.ofString "main" = PySem.Str.ofString "main_graph") ∧ ¬ (PySem.Str.ofString "main" = PySem.Str.ofString "handler") ∧ ¬ (PySem.Str.ofString "h" = PySem.Str.ofString "set") ∧ ¬ (PySem.Str.ofString "h" = PySem.Str.ofString "input") ∧ ¬ (PySem.Str.ofString "h" = PySem.Str.ofString "either") ∧ ¬ (PySem.Str.ofString "h" = PySem.Str.ofString "loop") ∧ ¬ (PySem.Str.ofString "h" = PySem.Str.ofString "main") ∧ ¬ (PySem.Str.ofString "h" = PySem.Str.ofString "x") ∧ ¬ (PySem.Str.ofString "h" = PySem.Str.ofString "a") ∧ ¬ (PySem.Str.ofString "h" = PySem.Str.ofString "t") ∧ ¬ (PySem.Str.ofString "h" = PySem.Str.ofString "u") ∧ ¬ (PySem.Str.ofString "h" = PySem.Str.ofString "now") ∧ ¬ (PySem.Str.ofString "h" = PySem.Str.ofString "late") ∧ ¬ (PySem.Str.ofString "h" = PySem.Str.ofString "steps") ∧ ¬ (PySem.Str.ofString "h" = PySem.Str.ofString "spots") ∧ ¬ (PySem.Str.ofString "h" = PySem.Str.ofString "put_place") ∧ ¬ (PySem.Str.ofString "h" = PySem.Str.ofString "put_block") ∧ ¬ (PySem.Str.ofString "h" = PySem.Str.ofString "put_statement") ∧ ¬ (PySem.Str.ofString "h" = PySem.Str.ofString "content") ∧ ¬ (PySem.Str.ofString "h" = PySem.Str.ofString "graphs") ∧ ¬ (PySem.Str.ofString "h" = PySem.Str.ofString "main_graph") ∧ ¬ (PySem.Str.ofString "h" = PySem.Str.ofString "handler") := by decide +kernel
@[simp] theorem word_ne_3 : ¬ (PySem.Str.ofString "x" = PySem.Str.ofString "set") ∧ ¬ (PySem.Str.ofString "x" = PySem.Str.ofString "input") ∧ ¬ (PySem.Str.ofString "x" = PySem.Str.ofString "either") ∧ ¬ (PySem.Str.ofString "x" = PySem.Str.ofString "loop") ∧ ¬ (PySem.Str.ofString "x" = PySem.Str.ofString "main") ∧ ¬ (PySem.Str.ofString "x" = PySem.Str.ofString "h") ∧ ¬ (PySem.Str.ofString "x" = PySem.Str.ofString "a") ∧ ¬ (PySem.Str.ofString "x" = PySem.Str.ofString "t") ∧ ¬ (PySem.Str.ofString "x" = PySem.Str.ofString "u") ∧ ¬ (PySem.Str.ofString "x" = PySem.Str.ofString "now") ∧ ¬ (PySem.Str.ofString "x" = PySem.Str.ofString "late") ∧ ¬ (PySem.Str.ofString "x" = PySem.Str.ofString "steps") ∧ ¬ (PySem.Str.ofString "x" = PySem.Str.ofString "spots") ∧ ¬ (PySem.Str.ofString "x" = PySem.Str.ofString "put_place") ∧ ¬ (PySem.Str.ofString "x" = PySem.Str.ofString "put_block") ∧ ¬ (PySem.Str.ofString "x" = PySem.Str.ofString "put_statement") ∧ ¬ (PySem.Str.ofString "x" = PySem.Str.ofString "content") ∧ ¬ (PySem.Str.ofString "x" = PySem.Str.ofString "graphs") ∧ ¬ (PySem.Str.ofString "x" = PySem.Str.ofString "main_graph") ∧ ¬ (PySem.Str.ofString "x" = PySem.Str.ofString "handler") ∧ ¬ (PySem.Str.ofString "a" = PySem.Str.ofString "set") ∧ ¬ (PySem.Str.ofString "a" = PySem.Str.ofString "input") ∧ ¬ (PySem.Str.ofString "a" = PySem.Str.ofString "either") ∧ ¬ (PySem.Str.ofString "a" = PySem.Str.ofString "loop") ∧ ¬ (PySem.Str.ofString "a" = PySem.Str.ofString "main") ∧ ¬ (PySem.Str.ofString "a" = PySem.Str.ofString "h") ∧ ¬ (PySem.Str.ofString "a" = PySem.Str.ofString "x") ∧ ¬ (PySem.Str.ofString "a" = PySem.Str.ofString "t") ∧ ¬ (PySem.Str.ofString "a" = PySem.Str.ofString "u") ∧ ¬ (PySem.Str.ofString "a" = PySem.Str.ofString "now") ∧ ¬ (PySem.Str.ofString "a" = PySem.Str.ofString "late") ∧ ¬ (PySem.Str.ofString "a" = PySem.Str.ofString "steps") ∧ ¬ (PySem.Str.ofString "a" = PySem.Str.ofString "spots") ∧ ¬ (PySem.Str.ofString "a" = PySem.Str.ofString "put_place") ∧ ¬ (PySem.Str.ofString "a" = PySem.Str.ofString "put_block") ∧ ¬ (PySem.Str.ofString "a" = PySem.Str.ofString "put_statement") ∧ ¬ (PySem.Str.ofString "a" = PySem.Str.ofString "content") ∧ ¬ (PySem.Str.ofString "a" = PySem.Str.ofString "graphs") ∧ ¬ (PySem.Str.ofString "a" = PySem.Str.ofString "main_graph") ∧ ¬ (PySem.Str.ofString "a" = PySem.Str.ofString "handler") := by decide +kernel
@[simp] theorem word_ne_4 : ¬ (PySem.Str.ofString "t" = PySem.Str.ofString "set") ∧ ¬ (PySem.Str.ofString "t" = PySem.Str.ofString "input") ∧ ¬ (PySem.Str.ofString "t" = PySem.Str.ofString "either") ∧ ¬ (PySem.Str.ofString "t" = PySem.Str.ofString "loop") ∧ ¬ (PySem.Str.ofString "t" = PySem.Str.ofString "main") ∧ ¬ (PySem.Str.ofString "t" = PySem.Str.ofString "h") ∧ ¬ (PySem.Str.ofString "t" = PySem.Str.ofString "x") ∧ ¬ (PySem.Str.ofString "t" = PySem.Str.ofString "a") ∧ ¬ (PySem.Str.ofString "t" = PySem.Str.ofString "u") ∧ ¬ (PySem.Str.ofString "t" = PySem.Str.ofString "now") ∧ ¬ (PySem.Str.ofString "t" = PySem.Str.ofString "late") ∧ ¬ (PySem.Str.ofString "t" = PySem.Str.ofString "steps") ∧ ¬ (PySem.Str.ofString "t" = PySem.Str.ofString "spots") ∧ ¬ (PySem.Str.ofString "t" = PySem.Str.ofString "put_place") ∧ ¬ (PySem.Str.ofString "t" = PySem.Str.ofString "put_block") ∧ ¬ (PySem.Str.ofString "t" = PySem.Str.ofString "put_statement") ∧ ¬ (PySem.Str.ofString "t" = PySem.Str.ofString "content") ∧ ¬ (PySem.Str.ofString "t" = PySem.Str.ofString "graphs") ∧ ¬ (PySem.Str.ofString "t" = PySem.Str.ofString "main_graph") ∧ ¬ (PySem.Str.ofString "t" = PySem.Str.ofString "handler") ∧ ¬ (PySem.Str.ofString "u" = PySem.Str.ofString "set") ∧ ¬ (PySem.Str.ofString "u" = PySem.Str.ofString "input") ∧ ¬ (PySem.Str.ofString "u" = PySem.Str.ofString "either") ∧ ¬ (PySem.Str.ofString "u" = PySem.Str.ofString "loop") ∧ ¬ (PySem.Str.ofString "u" = PySem.Str.ofString "main") ∧ ¬ (PySem.Str.ofString "u" = PySem.Str.ofString "h") ∧ ¬ (PySem.Str.ofString "u" = PySem.Str.ofString "x") ∧ ¬ (PySem.Str.ofString "u" = PySem.Str.ofString "a") ∧ ¬ (PySem.Str.ofString "u" = PySem.Str.ofString "t") ∧ ¬ (PySem.Str.ofString "u" = PySem.Str.ofString "now") ∧ ¬ (PySem.Str.ofString "u" = PySem.Str.ofString "late") ∧ ¬ (PySem.Str.ofString "u" = PySem.Str.ofString "steps") ∧ ¬ (PySem.Str.ofString "u" = PySem.Str.ofString "spots") ∧ ¬ (PySem.Str.ofString "u" = PySem.Str.ofString "put_place") ∧ ¬ (PySem.Str.ofString "u" = PySem.Str.ofString "put_block") ∧ ¬ (PySem.Str.ofString "u" = PySem.Str.ofString "put_statement") ∧ ¬ (PySem.Str.ofString "u" = PySem.Str.ofString "content") ∧ ¬ (PySem.Str.ofString "u" = PySem.Str.ofString "graphs") ∧ ¬ (PySem.Str.ofString "u" = PySem.Str.ofString "main_graph") ∧ ¬ (PySem.Str.ofString "u" = PySem.Str.ofString "handler") := by decide +kernel
@[simp] theorem word_ne_5 : ¬ (PySem.Str.ofString "now" = PySem.Str.ofString "set") ∧ ¬ (PySem.Str.ofString "now" = PySem.Str.ofString "input") ∧ ¬ (PySem.Str.ofString "now" = PySem.Str.ofString "either") ∧ ¬ (PySem.Str.ofString "now" = PySem.Str.ofString "loop") ∧ ¬ (PySem.Str.ofString "now" = PySem.Str.ofString "main") ∧ ¬ (PySem.Str.ofString "now" = PySem.Str.ofString "h") ∧ ¬ (PySem.Str.ofString "now" = PySem.Str.ofString "x") ∧ ¬ (PySem.Str.ofString "now" = PySem.Str.ofString "a") ∧ ¬ (PySem.Str.ofString "now" = PySem.Str.ofString "t") ∧ ¬ (PySem.Str.ofString "now" = PySem.Str.ofString "u") ∧ ¬ (PySem.Str.ofString "now" = PySem.Str.ofString "late") ∧ ¬ (PySem.Str.ofString "now" = PySem.Str.ofString "steps") ∧ ¬ (PySem.Str.ofString "now" = PySem.Str.ofString "spots") ∧ ¬ (PySem.Str.ofString "now" = PySem.Str.ofString "put_place") ∧ ¬ (PySem.Str.ofString "now" = PySem.Str.ofString "put_block") ∧ ¬ (PySem.Str.ofString "now" = PySem.Str.ofString "put_statement") ∧ ¬ (PySem.Str.ofString "now" = PySem.Str.ofString "content") ∧ ¬ (PySem.Str.ofString "now" = PySem.Str.ofString "graphs") ∧ ¬ (PySem.Str.ofString "now" = PySem.Str.ofString "main_graph") ∧ ¬ (PySem.Str.ofString "now" = PySem.Str.ofString "handler") ∧ ¬ (PySem.Str.ofString "late" = PySem.Str.ofString "set") ∧ ¬ (PySem.Str.ofString "late" = PySem.Str.ofString "input") ∧ ¬ (PySem.Str.ofString "late" = PySem.Str.ofString "either") ∧ ¬ (PySem.Str.ofString "late" = PySem.Str.ofString "loop") ∧ ¬ (PySem.Str.ofString "late" = PySem.Str.ofString "main") ∧ ¬ (PySem.Str.ofString "late" = PySem.Str.ofString "h") ∧ ¬ (PySem.Str.ofString "late" = PySem.Str.ofString "x") ∧ ¬ (PySem.Str.ofString "late" = PySem.Str.ofString "a") ∧ ¬ (PySem.Str.ofString "late" = PySem.Str.ofString "t") ∧ ¬ (PySem.Str.ofString "late" = PySem.Str.ofString "u") ∧ ¬ (PySem.Str.ofString "late" = PySem.Str.ofString "now") ∧ ¬ (PySem.Str.ofString "late" = PySem.Str.ofString "steps") ∧ ¬ (PySem.Str.ofString "late" = PySem.Str.ofString "spots") ∧ ¬ (PySem.Str.ofString "late" = PySem.Str.ofString "put_place") ∧ ¬ (PySem.Str.ofString "late" = PySem.Str.ofString "put_block") ∧ ¬ (PySem.Str.ofString "late" = PySem.Str.ofString "put_statement") ∧ ¬ (PySem.Str.ofString "late" = PySem.Str.ofString "content") ∧ ¬ (PySem.Str.ofString "late" = PySem.Str.ofString "graphs") ∧ ¬ (PySem.Str.ofString "late" = PySem.Str.ofString "main_graph") ∧ ¬ (PySem.Str.ofString "late" = PySem.Str.ofString "handler") := by decide +kernel
@[simp] theorem word_ne_6 : ¬ (PySem.Str.ofString "steps" = PySem.Str.ofString "set") ∧ ¬ (PySem.Str.ofString "steps" = PySem.Str.ofString "input") ∧ ¬ (PySem.Str.ofString "steps" = PySem.Str.ofString "either") ∧ ¬ (PySem.Str.ofString "steps" = PySem.Str.ofString "loop") ∧ ¬ (PySem.Str.ofString "steps" = PySem.Str.ofString "main") ∧ ¬ (PySem.Str.ofString "steps" = PySem.Str.ofString "h") ∧ ¬ (PySem.Str.ofString "steps" = PySem.Str.ofString "x") ∧ ¬ (PySem.Str.ofString "steps" = PySem.Str.ofString "a") ∧ ¬ (PySem.Str.ofString "steps" = PySem.Str.ofString "t") ∧ ¬ (PySem.Str.ofString "steps" = PySem.Str.ofString "u") ∧ ¬ (PySem.Str.ofString "steps" = PySem.Str.ofString "now") ∧ ¬ (PySem.Str.ofString "steps" = PySem.Str.ofString "late") ∧ ¬ (PySem.Str.ofString "steps" = PySem.Str.ofString "spots") ∧ ¬ (PySem.Str.ofString "steps" = PySem.Str.ofString "put_place") ∧ ¬ (PySem.Str.ofString "steps" = PySem.Str.ofString "put_block") ∧ ¬ (PySem.Str.ofString "steps" = PySem.Str.ofString "put_statement") ∧ ¬ (PySem.Str.ofString "steps" = PySem.Str.ofString "content") ∧ ¬ (PySem.Str.ofString "steps" = PySem.Str.ofString "graphs") ∧ ¬ (PySem.Str.ofString "steps" = PySem.Str.ofString "main_graph") ∧ ¬ (PySem.Str.ofString "steps" = PySem.Str.ofString "handler") ∧ ¬ (PySem.Str.ofString "spots" = PySem.Str.ofString "set") ∧ ¬ (PySem.Str.ofString "spots" = PySem.Str.ofString "input") ∧ ¬ (PySem.Str.ofString "spots" = PySem.Str.ofString "either") ∧ ¬ (PySem.Str.ofString "spots" = PySem.Str.ofString "loop") ∧ ¬ (PySem.Str.ofString "spots" = PySem.Str.ofString "main") ∧ ¬ (PySem.Str.ofString "spots" = PySem.Str.ofString "h") ∧ ¬ (PySem.Str.ofString "spots" = PySem.Str.ofString "x") ∧ ¬ (PySem.Str.ofString "spots" = PySem.Str.ofString "a") ∧ ¬ (PySem.Str.ofString "spots" = PySem.Str.ofString "t") ∧ ¬ (PySem.Str.ofString "spots" = PySem.Str.ofString "u") ∧ ¬ (PySem.Str.ofString "spots" = PySem.Str.ofString "now") ∧ ¬ (PySem.Str.ofString "spots" = PySem.Str.ofString "late") ∧ ¬ (PySem.Str.ofString "spots" = PySem.Str.ofString "steps") ∧ ¬ (PySem.Str.ofString "spots" = PySem.Str.ofString "put_place") ∧ ¬ (PySem.Str.ofString "spots" = PySem.Str.ofString "put_block") ∧ ¬ (PySem.Str.ofString "spots" = PySem.Str.ofString "put_statement") ∧ ¬ (PySem.Str.ofString "spots" = PySem.Str.ofString "content") ∧ ¬ (PySem.Str.ofString "spots" = PySem.Str.ofString "graphs") ∧ ¬ (PySem.Str.ofString "spots" = PySem.Str.ofString "main_graph") ∧ ¬ (PySem.Str.ofString "spots" = PySem.Str.ofString "handler") := by decide +kernel
@[simp] theorem word_ne_7 : ¬ (PySem.Str.ofString "put_place" = PySem.Str.ofString "set") ∧ ¬ (PySem.Str.ofString "put_place" = PySem.Str.ofString "input") ∧ ¬ (PySem.Str.ofString "put_place" = PySem.Str.ofString "either") ∧ ¬ (PySem.Str.ofString "put_place" = PySem.Str.ofString "loop") ∧ ¬ (PySem.Str.ofString "put_place" = PySem.Str.ofString "main") ∧ ¬ (PySem.Str.ofString "put_place" = PySem.Str.ofString "h") ∧ ¬ (PySem.Str.ofString "put_place" = PySem.Str.ofString "x") ∧ ¬ (PySem.Str.ofString "put_place" = PySem.Str.ofString "a") ∧ ¬ (PySem.Str.ofString "put_place" = PySem.Str.ofString "t") ∧ ¬ (PySem.Str.ofString "put_place" = PySem.Str.ofString "u") ∧ ¬ (PySem.Str.ofString "put_place" = PySem.Str.ofString "now") ∧ ¬ (PySem.Str.ofString "put_place" = PySem.Str.ofString "late") ∧ ¬ (PySem.Str.ofString "put_place" = PySem.Str.ofString "steps") ∧ ¬ (PySem.Str.ofString "put_place" = PySem.Str.ofString "spots") ∧ ¬ (PySem.Str.ofString "put_place" = PySem.Str.ofString "put_block") ∧ ¬ (PySem.Str.ofString "put_place" = PySem.Str.ofString "put_statement") ∧ ¬ (PySem.Str.ofString "put_place" = PySem.Str.ofString "content") ∧ ¬ (PySem.Str.ofString "put_place" = PySem.Str.ofString "graphs") ∧ ¬ (PySem.Str.ofString "put_place" = PySem.Str.ofString "main_graph") ∧ ¬ (PySem.Str.ofString "put_place" = PySem.Str.ofString "handler") ∧ ¬ (PySem.Str.ofString "put_block" = PySem.Str.ofString "set") ∧ ¬ (PySem.Str.ofString "put_block" = PySem.Str.ofString "input") ∧ ¬ (PySem.Str.ofString "put_block" = PySem.Str.ofString "either") ∧ ¬ (PySem.Str.ofString "put_block" = PySem.Str.ofString "loop") ∧ ¬ (PySem.Str.ofString "put_block" = PySem.Str.ofString "main") ∧ ¬ (PySem.Str.ofString "put_block" = PySem.Str.ofString "h") ∧ ¬ (PySem.Str.ofString "put_block" = PySem.Str.ofString "x") ∧ ¬ (PySem.Str.ofString "put_block" = PySem.Str.ofString "a") ∧ ¬ (PySem.Str.ofString "put_block" = PySem.Str.ofString "t") ∧ ¬ (PySem.Str.ofString "put_block" = PySem.Str.ofString "u") ∧ ¬ (PySem.Str.ofString "put_block" = PySem.Str.ofString "now") ∧ ¬ (PySem.Str.ofString "put_block" = PySem.Str.ofString "late") ∧ ¬ (PySem.Str.ofString "put_block" = PySem.Str.ofString "steps") ∧ ¬ (PySem.Str.ofString "put_block" = PySem.Str.ofString "spots") ∧ ¬ (PySem.Str.ofString "put_block" = PySem.Str.ofString "put_place") ∧ ¬ (PySem.Str.ofString "put_block" = PySem.Str.ofString "put_statement") ∧ ¬ (PySem.Str.ofString "put_block" = PySem.Str.ofString "content") ∧ ¬ (PySem.Str.ofString "put_block" = PySem.Str.ofString "graphs") ∧ ¬ (PySem.Str.ofString "put_block" = PySem.Str.ofString "main_graph") ∧ ¬ (PySem.Str.ofString "put_block" = PySem.Str.ofString "handler") := by decide +kernel
@[simp] theorem word_ne_8 : ¬ (PySem.Str.ofString "put_statement" = PySem.Str.ofString "set") ∧ ¬ (PySem.Str.ofString "put_statement" = PySem.Str.ofString "input") ∧ ¬ (PySem.Str.ofString "put_statement" = PySem.Str.ofString "either") ∧ ¬ (PySem.Str.ofString "put_statement" = PySem.Str.ofString "loop") ∧ ¬ (PySem.Str.ofString "put_statement" = PySem.Str.ofString "main") ∧ ¬ (PySem.Str.ofString "put_statement" = PySem.Str.ofString "h") ∧ ¬ (PySem.Str.ofString "put_statement" = PySem.Str.ofString "x") ∧ ¬ (PySem.Str.ofString "put_statement" = PySem.Str.ofString "a") ∧ ¬ (PySem.Str.ofString "put_statement" = PySem.Str.ofString "t") ∧ ¬ (PySem.Str.ofString "put_statement" = PySem.Str.ofString "u") ∧ ¬ (PySem.Str.ofString "put_statement" = PySem.Str.ofString "now") ∧ ¬ (PySem.Str.ofString "put_statement" = PySem.Str.ofString "late") ∧ ¬ (PySem.Str.ofString "put_statement" = PySem.Str.ofString "steps") ∧ ¬ (PySem.Str.ofString "put_statement" = PySem.Str.ofString "spots") ∧ ¬ (PySem.Str.ofString "put_statement" = PySem.Str.ofString "put_place") ∧ ¬ (PySem.Str.ofString "put_statement" = PySem.Str.ofString "put_block") ∧ ¬ (PySem.Str.ofString "put_statement" = PySem.Str.ofString "content") ∧ ¬ (PySem.Str.ofString "put_statement" = PySem.Str.ofString "graphs") ∧ ¬ (PySem.Str.ofString "put_statement" = PySem.Str.ofString "main_graph") ∧ ¬ (PySem.Str.ofString "put_statement" = PySem.Str.ofString "handler") ∧ ¬ (PySem.Str.ofString "content" = PySem.Str.ofString "set") ∧ ¬ (PySem.Str.ofString "content" = PySem.Str.ofString "input") ∧ ¬ (PySem.Str.ofString "content" = PySem.Str.ofString "either") ∧ ¬ (PySem.Str.ofString "content" = PySem.Str.ofString "loop") ∧ ¬ (PySem.Str.ofString "content" = PySem.Str.ofString "main") ∧ ¬ (PySem.Str.ofString "content" = PySem.Str.ofString "h") ∧ ¬ (PySem.Str.ofString "content" = PySem.Str.ofString "x") ∧ ¬ (PySem.Str.ofString "content" = PySem.Str.ofString "a") ∧ ¬ (PySem.Str.ofString "content" = PySem.Str.ofString "t") ∧ ¬ (PySem.Str.ofString "content" = PySem.Str.ofString "u") ∧ ¬ (PySem.Str.ofString "content" = PySem.Str.ofString "now") ∧ ¬ (PySem.Str.ofString "content" = PySem.Str.ofString "late") ∧ ¬ (PySem.Str.ofString "content" = PySem.Str.ofString "steps") ∧ ¬ (PySem.Str.ofString "content" = PySem.Str.ofString "spots") ∧ ¬ (PySem.Str.ofString "content" = PySem.Str.ofString "put_place") ∧ ¬ (PySem.Str.ofString "content" = PySem.Str.ofString "put_block") ∧ ¬ (PySem.Str.ofString "content" = PySem.Str.ofString "put_statement") ∧ ¬ (PySem.Str.ofString "content" = PySem.Str.ofString "graphs") ∧ ¬ (PySem.Str.ofString "content" = PySem.Str.ofString "main_graph") ∧ ¬ (PySem.Str.ofString "content" = PySem.Str.ofString "handler") := by decide +kernel
@[simp] theorem word_ne_9 : ¬ (PySem.Str.ofString "graphs" = PySem.Str.ofString "set") ∧ ¬ (PySem.Str.ofString "graphs" = PySem.Str.ofString "input") ∧ ¬ (PySem.Str.ofString "graphs" = PySem.Str.ofString "either") ∧ ¬ (PySem.Str.ofString "graphs" = PySem.Str.ofString "loop") ∧ ¬ (PySem.Str.ofString "graphs" = PySem.Str.ofString "main") ∧ ¬ (PySem.Str.ofString "graphs" = PySem.Str.ofString "h") ∧ ¬ (PySem.Str.ofString "graphs" = PySem.Str.ofString "x") ∧ ¬ (PySem.Str.ofString "graphs" = PySem.Str.ofString "a") ∧ ¬ (PySem.Str.ofString "graphs" = PySem.Str.ofString "t") ∧ ¬ (PySem.Str.ofString "graphs" = PySem.Str.ofString "u") ∧ ¬ (PySem.Str.ofString "graphs" = PySem.Str.ofString "now") ∧ ¬ (PySem.Str.ofString "graphs" = PySem.Str.ofString "late") ∧ ¬ (PySem.Str.ofString "graphs" = PySem.Str.ofString "steps") ∧ ¬ (PySem.Str.ofString "graphs" = PySem.Str.ofString "spots") ∧ ¬ (PySem.Str.ofString "graphs" = PySem.Str.ofString "put_place") ∧ ¬ (PySem.Str.ofString "graphs" = PySem.Str.ofString "put_block") ∧ ¬ (PySem.Str.ofString "graphs" = PySem.Str.ofString "put_statement") ∧ ¬ (PySem.Str.ofString "graphs" = PySem.Str.ofString "content") ∧ ¬ (PySem.Str.ofString "graphs" = PySem.Str.ofString "main_graph") ∧ ¬ (PySem.Str.ofString "graphs" = PySem.Str.ofString "handler") ∧ ¬ (PySem.Str.ofString "main_graph" = PySem.Str.ofString "set") ∧ ¬ (PySem.Str.ofString "main_graph" = PySem.Str.ofString "input") ∧ ¬ (PySem.Str.ofString "main_graph" = PySem.Str.ofString "either") ∧ ¬ (PySem.Str.ofString "main_graph" = PySem.Str.ofString "loop") ∧ ¬ (PySem.Str.ofString "main_graph" = PySem.Str.ofString "main") ∧ ¬ (PySem.Str.ofString "main_graph" = PySem.Str.ofString "h") ∧ ¬ (PySem.Str.ofString "main_graph" = PySem.Str.ofString "x") ∧ ¬ (PySem.Str.ofString "main_graph" = PySem.Str.ofString "a") ∧ ¬ (PySem.Str.ofString "main_graph" = PySem.Str.ofString "t") ∧ ¬ (PySem.Str.ofString "main_graph" = PySem.Str.ofString "u") ∧ ¬ (PySem.Str.ofString "main_graph" = PySem.Str.ofString "now") ∧ ¬ (PySem.Str.ofString "main_graph" = PySem.Str.ofString "late") ∧ ¬ (PySem.Str.ofString "main_graph" = PySem.Str.ofString "steps") ∧ ¬ (PySem.Str.ofString "main_graph" = PySem.Str.ofString "spots") ∧ ¬ (PySem.Str.ofString "main_graph" = PySem.Str.ofString "put_place") ∧ ¬ (PySem.Str.ofString "main_graph" = PySem.Str.ofString "put_block") ∧ ¬ (PySem.Str.ofString "main_graph" = PySem.Str.ofString "put_statement") ∧ ¬ (PySem.Str.ofString "main_graph" = PySem.Str.ofString "content") ∧ ¬ (PySem.Str.ofString "main_graph" = PySem.Str.ofString "graphs") ∧ ¬ (PySem.Str.ofString "main_graph" = PySem.Str.ofString "handler") := by decide +kernel
@[simp] theorem word_ne_10 : ¬ (PySem.Str.ofString "handler" = PySem.Str.ofString "set") ∧ ¬ (PySem.Str.ofString "handler" = PySem.Str.ofString "input") ∧ ¬ (PySem.Str.ofString "handler" = PySem.Str.ofString "either") ∧ ¬ (PySem.Str.ofString "handler" = PySem.Str.ofString "loop") ∧ ¬ (PySem.Str.ofString "handler" = PySem.Str.ofString "main") ∧ ¬ (PySem.Str.ofString "handler" = PySem.Str.ofString "h") ∧ ¬ (PySem.Str.ofString "handler" = PySem.Str.ofString "x") ∧ ¬ (PySem.Str.ofString "handler" = PySem.Str.ofString "a") ∧ ¬ (PySem.Str.ofString "handler" = PySem.Str.ofString "t") ∧ ¬ (PySem.Str.ofString "handler" = PySem.Str.ofString "u") ∧ ¬ (PySem.Str.ofString "handler" = PySem.Str.ofString "now") ∧ ¬ (PySem.Str.ofString "handler" = PySem.Str.ofString "late") ∧ ¬ (PySem.Str.ofString "handler" = PySem.Str.ofString "steps") ∧ ¬ (PySem.Str.ofString "handler" = PySem.Str.ofString "spots") ∧ ¬ (PySem.Str.ofString "handler" = PySem.Str.ofString "put_place") ∧ ¬ (PySem.Str.ofString "handler" = PySem.Str.ofString "put_block") ∧ ¬ (PySem.Str.ofString "handler" = PySem.Str.ofString "put_statement") ∧ ¬ (PySem.Str.ofString "handler" = PySem.Str.ofString "content") ∧ ¬ (PySem.Str.ofString "handler" = PySem.Str.ofString "graphs") ∧ ¬ (PySem.Str.ofString "handler" = PySem.Str.ofString "main_graph") := by decide +kernel
end K08
set_option Elab.async false
set_option linter.all false
set_option maxRecDepth 100000
set_option maxHeartbeats 4000000
/-! k08, plain mathematics 1: draws. -/
namespace K08
open PySem DL
/-- the stream stands at i -/
def SA (S : Store) (i : Nat) : Prop := ∃ a b : Int, S[i]? = some (.lst [.int a, .int b])
/-- only the stream has moved -/
def SU (i : Nat) (S S' : Store) : Prop := ∃ a b : Int, S' = S.set i (.lst [.int a, .int b])
theorem SA.lt {S : Store} {i : Nat} (h : SA S i) : i < S.length := by
  obtain ⟨a, b, h⟩ := h
  exact (List.getElem?_eq_some_iff.mp h).1
theorem SA.su {S S' : Store} {i : Nat} (h : SA S i) (u : SU i S S') : SA S' i := by
  obtain ⟨a, b, rfl⟩ := u
  exact ⟨a, b, List.getElem?_set_self h.lt⟩
theorem SU.refl {S : Store} {i : Nat} (h : SA S i) : SU i S S := by
  obtain ⟨a, b, h⟩ := h
  refine ⟨a, b, ?_⟩
  apply List.ext_getElem?
  intro j
  by_cases e : i = j
  · subst e; rw [List.getElem?_set_self (List.getElem?_eq_some_iff.mp h).1, h]
  · rw [List.getElem?_set_ne e]
theorem SU.trans {S S1 S2 : Store} {i : Nat} (u : SU i S S1) (v : SU i S1 S2) : SU i S S2 := by
  obtain ⟨a, b, rfl⟩ := u
  obtain ⟨c, d, rfl⟩ := v
  exact ⟨c, d, by rw [List.set_set]⟩
theorem SU.len {S S1 : Store} {i : Nat} (u : SU i S S1) : S1.length = S.length := by
  obtain ⟨a, b, rfl⟩ := u
  simp
theorem SU.get {S S1 : Store} {i j : Nat} (u : SU i S S1) (h : i ≠ j) : S1[j]? = S[j]? := by
  obtain ⟨a, b, rfl⟩ := u
  exact List.getElem?_set_ne h
/-- behind the stream other things may stand -/
theorem SU.app {S S1 T : Store} {i : Nat} (h : SA S i) (u : SU i S S1) : SU i (S ++ T) (S1 ++ T) := by
  obtain ⟨a, b, rfl⟩ := u
  exact ⟨a, b, by rw [List.set_append_left _ _ h.lt]⟩
theorem SA.app {S T : Store} {i : Nat} (h : SA S i) : SA (S ++ T) i := by
  obtain ⟨a, b, e⟩ := id h
  exact ⟨a, b, by rw [List.getElem?_append_left h.lt]; exact e⟩
theorem SU.split {S T W : Store} {i : Nat} (h : SA S i) (u : SU i (S ++ T) W) : ∃ S1, W = S1 ++ T ∧ SU i S S1 := by
  obtain ⟨a, b, rfl⟩ := u
  exact ⟨S.set i (.lst [.int a, .int b]), by rw [List.set_append_left _ _ h.lt], a, b, rfl⟩

theorem draw_ok {S : Store} {i : Nat} {c : Int} (h : SA S i) (hc : 0 < c) (hc2 : c < 1073741824) : ∃ r S', F__law_draw [.obj i, .int c] S = some (.ok (.int r), S') ∧ 0 ≤ r ∧ r < c ∧ SU i S S' := by
  obtain ⟨a, b, h⟩ := h
  have hi : i < S.length := (List.getElem?_eq_some_iff.mp h).1
  unfold F__law_draw
  rw [dDef_2]
  unfold b__law_draw
  by_cases ha : 0 < a
  · refine ⟨a % c, S.set i (.lst [.int (a / c), .int b]), ?_, Int.emod_nonneg _ (by omega), Int.emod_lt_of_pos _ hc, _, _, rfl⟩
    simp [h, ha, hc, hc2]
  · refine ⟨((b * 69621 + 7) % 2147483647) * ((b * 69621 + 7) % 2147483647) % 2147483629 / 32 % c, S.set i (.lst [.int a, .int ((b * 69621 + 7) % 2147483647)]), ?_, Int.emod_nonneg _ (by omega), Int.emod_lt_of_pos _ hc, _, _, rfl⟩
    have hb : (b * 69621 + 7) % 2147483647 < 18446744073709551616 := Int.lt_trans (Int.emod_lt_of_pos _ (by decide)) (by decide)
    have hb0 : 0 ≤ (b * 69621 + 7) % 2147483647 := Int.emod_nonneg _ (by decide)
    simp [h, ha, hc, hc2, List.getElem?_set_self']
    generalize (b * 69621 + 7) % 2147483647 = z at hb hb0 ⊢
    rw [if_pos (by omega)]
    simp [hc]
theorem choose_ok {S : Store} {i : Nat} {xs : List Val} {v : Val} (h : SA S i) (hv : v = .vl xs ∨ v = .tup xs) (h0 : 0 < xs.length) (h1 : xs.length < 1000000) : ∃ x S', F__law_choose [.obj i, v] S = some (.ok x, S') ∧ x ∈ xs ∧ SU i S S' := by
  obtain ⟨r, S', e, r0, r1, u⟩ := draw_ok (c := (xs.length : Int)) h (by omega) (by omega)
  obtain ⟨n, rfl⟩ := Int.eq_ofNat_of_zero_le r0
  have hn : n < xs.length := by omega
  refine ⟨xs[n], S', ?_, List.getElem_mem hn, u⟩
  unfold F__law_choose
  rw [dDef_2]
  unfold b__law_choose
  rcases hv with rfl | rfl <;> simp [e, atI_nat, hn]
end K08
set_option Elab.async false
set_option linter.all false
set_option maxRecDepth 100000
set_option maxHeartbeats 4000000
/-! k08, plain mathematics 2: statements and their draws. -/
namespace K08
open PySem DL

mutual
inductive St where
  | smp (v : Val)
  | eit (a b : Bk)
  | lop (a : Bk)
inductive Bk where
  | nil
  | cons (s : St) (b : Bk)
end
mutual
def St.v : St → Val
  | .smp v => v
  | .eit a b => .tup [.str "either", .tup a.vs, .tup b.vs]
  | .lop a => .tup [.str "loop", .tup a.vs]
def Bk.vs : Bk → List Val
  | .nil => []
  | .cons s b => s.v :: b.vs
end
def Bk.app : Bk → Bk → Bk
  | .nil, c => c
  | .cons s b, c => .cons s (b.app c)
theorem Bk.vs_app : ∀ b c : Bk, (b.app c).vs = b.vs ++ c.vs
  | .nil, c => by simp [Bk.app, Bk.vs]
  | .cons s b, c => by simp [Bk.app, Bk.vs, Bk.vs_app b c]
def Bk.len : Bk → Nat
  | .nil => 0
  | .cons _ b => b.len + 1
theorem Bk.len_vs : ∀ b : Bk, b.vs.length = b.len
  | .nil => rfl
  | .cons s b => by simp [Bk.vs, Bk.len, Bk.len_vs b]
theorem Bk.len_app : ∀ b c : Bk, (b.app c).len = b.len + c.len
  | .nil, c => by simp [Bk.app, Bk.len]
  | .cons s b, c => by simp [Bk.app, Bk.len, Bk.len_app b c]; omega
/-! ### what is drawn -/
def termV (p : Int × PySem.Str) : Val := .tup [.int p.1, .str p.2]
def sumV (c : Int) (ts : List (Int × PySem.Str)) : Val := .tup [.int c, .tup (ts.map termV)]
structure GSum (ns : List PySem.Str) (c : Int) (ts : List (Int × PySem.Str)) : Prop where
  c5 : -5 ≤ c ∧ c ≤ 5
  t5 : ∀ p ∈ ts, p.1 ≠ 0 ∧ -5 ≤ p.1 ∧ p.1 ≤ 5 ∧ p.2 ∈ ns
  up : (ts.map (·.2)).Pairwise fun a b => a.cps.toList < b.cps.toList
def Smp (ns : List PySem.Str) (v : Val) : Prop := (∃ n ∈ ns, v = .tup [.str "input", .str n]) ∨ ∃ n ∈ ns, ∃ c ts, v = .tup [.str "set", .str n, sumV c ts] ∧ GSum ns c ts
mutual
def St.wf (ns : List PySem.Str) : Nat → St → Prop
  | _, .smp v => Smp ns v
  | d, .eit a b => 0 < d ∧ a.wf ns (d - 1) ∧ b.wf ns (d - 1) ∧ a.len ≤ 2 ∧ b.len ≤ 2
  | d, .lop a => 0 < d ∧ a.wf ns (d - 1) ∧ a.len ≤ 2
def Bk.wf (ns : List PySem.Str) : Nat → Bk → Prop
  | _, .nil => True
  | d, .cons s b => s.wf ns d ∧ b.wf ns d
end
theorem Bk.wf_app {ns : List PySem.Str} {d : Nat} : ∀ {b c : Bk}, b.wf ns d → c.wf ns d → (b.app c).wf ns d
  | .nil, c, _, h => h
  | .cons s b, c, h, k => by
    unfold Bk.wf at h
    unfold Bk.app Bk.wf
    exact ⟨h.1, Bk.wf_app h.2 k⟩
mutual
theorem St.wf_mono {ns : List PySem.Str} : ∀ {d e : Nat} {s : St}, d ≤ e → s.wf ns d → s.wf ns e
  | d, e, .smp v, h, w => by unfold St.wf at w ⊢; exact w
  | d, e, .eit a b, h, w => by unfold St.wf at w ⊢; exact ⟨by omega, Bk.wf_mono (by omega) w.2.1, Bk.wf_mono (by omega) w.2.2.1, w.2.2.2⟩
  | d, e, .lop a, h, w => by unfold St.wf at w ⊢; exact ⟨by omega, Bk.wf_mono (by omega) w.2.1, w.2.2⟩
theorem Bk.wf_mono {ns : List PySem.Str} : ∀ {d e : Nat} {b : Bk}, d ≤ e → b.wf ns d → b.wf ns e
  | d, e, .nil, h, w => by unfold Bk.wf; trivial
  | d, e, .cons s b, h, w => by unfold Bk.wf at w ⊢; exact ⟨St.wf_mono h w.1, Bk.wf_mono h w.2⟩
end
theorem closed_smp {ns : List PySem.Str} {v : Val} {n : Nat} (h : Smp ns v) : closed n v = true := by
  rcases h with ⟨m, _, rfl⟩ | ⟨m, _, c, ts, rfl, _⟩
  · simp [closed, closedL]
  · have e : closedL n (ts.map termV) = true := closedL_iff.mpr fun x hx => by
      obtain ⟨p, _, rfl⟩ := List.mem_map.mp hx
      simp [termV, closed, closedL]
    simp [sumV, closed, closedL, e]
mutual
theorem St.closed {ns : List PySem.Str} {n : Nat} : ∀ {d : Nat} {s : St}, s.wf ns d → DL.closed n s.v = true
  | d, .smp v, w => by unfold St.wf at w; exact closed_smp w
  | d, .eit a b, w => by
    unfold St.wf at w
    simp [St.v, DL.closed, closedL, Bk.closed w.2.1, Bk.closed w.2.2.1]
  | d, .lop a, w => by
    unfold St.wf at w
    simp [St.v, DL.closed, closedL, Bk.closed w.2.1]
theorem Bk.closed {ns : List PySem.Str} {n : Nat} : ∀ {d : Nat} {b : Bk}, b.wf ns d → closedL n b.vs = true
  | d, .nil, w => by simp [Bk.vs, closedL]
  | d, .cons s b, w => by
    unfold Bk.wf at w
    simp [Bk.vs, closedL, St.closed w.1, Bk.closed w.2]
end
/-- the stream's own thing is closed -/
theorem su_kept {S S1 : Store} {i : Nat} (h : SA S i) (u : SU i S S1) (j : Nat) (o : Ob) (e : S1[j]? = some o) : S[j]? = some o ∨ closedOb S.length o = true := by
  by_cases q : i = j
  · subst q
    obtain ⟨a, b, rfl⟩ := u
    rw [List.getElem?_set_self h.lt] at e
    cases e
    exact .inr (by simp [closedOb, closed, closedL])
  · exact .inl (by rw [← u.get q]; exact e)
theorem cut_su {S S1 T : Store} {i : Nat} {x : Val} (h : SA S i) (u : SU i S S1) (hx : closed S.length x = true) : cutO S (some (.ok x, S1 ++ T)) = some (.ok x, S1) := cutO_ok u.len (su_kept h u) hx

/-! ### a sum -/
theorem get_last {S : Store} {o : Ob} {n : Nat} (h : S.length = n) : (S ++ [o])[n]? = some o := by subst h; simp
theorem set_last {S : Store} {o p : Ob} {n : Nat} (h : S.length = n) : (S ++ [o]).set n p = S ++ [p] := by
  subst h
  rw [List.set_append_right _ _ (Nat.le_refl _)]
  simp
theorem sum_ok {S : Store} {i : Nat} {ns : List PySem.Str} (h : SA S i) (hn : ns.Nodup) (hl : ns.length < 1000) : ∃ c ts S', F__law_sum [.obj i, .tup (ns.map .str)] S = some (.ok (sumV c ts), S') ∧ GSum ns c ts ∧ SU i S S' := by
  have hi := h.lt
  have up := sort_rising hn
  have pm := List.mergeSort_perm ns strLe
  generalize hs : ns.mergeSort strLe = ss at up pm
  -- the loop
  have loop := forL_inv (chk := fun _ => True) (g := gN 3) (b := l1__law_sum)
    (fun xs ρ W => ∃ rest done ts S1 o, xs = rest.map Val.str ∧ ss = done ++ rest ∧ (ts.map (·.2)).Sublist done ∧ (∀ p ∈ ts, p.1 ≠ 0 ∧ -5 ≤ p.1 ∧ p.1 ≤ 5) ∧ SU i S S1 ∧ W = S1 ++ [.lst (ts.map termV)] ∧ ρ = [some (.obj i), some (.tup (ns.map .str)), some (.obj S.length), o])
    (fun _ _ _ _ => trivial) (by
      rintro x xs ρ W ⟨rest, done, ts, S1, o, ex, hss, sub, good, u, rfl, rfl⟩
      cases rest with
      | nil => cases ex
      | cons m rest =>
        obtain ⟨rfl, rfl⟩ := List.cons.inj ex
        have A1 : SA S1 i := h.su u
        obtain ⟨r, W1, e1, r0, r5, u1⟩ := draw_ok (c := 5) (A1.app (T := [.lst (ts.map termV)])) (by decide) (by decide)
        obtain ⟨S2, rfl, u2⟩ := u1.split A1
        have A2 := A1.su u2
        have l2 : S2.length = S.length := by rw [u2.len, u.len]
        by_cases hr : r < 2
        · obtain ⟨c, W2, e2, cm, u3⟩ := choose_ok (xs := [.int 1, .int 1, .int 2, .int (-1), .int 3]) (v := .vl [.int 1, .int 1, .int 2, .int (-1), .int 3]) (A2.app (T := [.lst (ts.map termV)])) (.inl rfl) (by decide) (by decide)
          obtain ⟨S3, rfl, u4⟩ := u3.split A2
          have l3 : S3.length = S.length := by rw [u4.len, l2]
          obtain ⟨k, rfl, k0, k1, k2⟩ : ∃ k : Int, c = .int k ∧ k ≠ 0 ∧ -5 ≤ k ∧ k ≤ 5 := by
            simp only [List.mem_cons, List.not_mem_nil, or_false] at cm
            rcases cm with rfl | rfl | rfl | rfl | rfl <;> exact ⟨_, rfl, by decide, by decide, by decide⟩
          have tl : (ts.map termV).length < 1000000 := by
            have q := sub.length_le
            have q2 := pm.length_eq
            rw [hss, List.length_append] at q2
            simp only [List.length_map] at q ⊢
            omega
          refine ⟨[some (.obj i), some (.tup (ns.map .str)), some (.obj S.length), some (.str m)], [some (.obj i), some (.tup (ns.map .str)), some (.obj S.length), some (.str m)], S3 ++ [.lst ((ts ++ [(k, m)]).map termV)], rfl, ?_, rest, done ++ [m], ts ++ [(k, m)], S3, some (.str m), rfl, by simp [hss], ?_, ?_, (u.trans u2).trans u4, rfl, rfl⟩
          · simp [l1__law_sum, e1, hr, e2, get_last l2, get_last l3, appE2_lst tl, set_last l3, termV]
          · rw [List.map_append]
            exact sub.append (List.Sublist.refl _)
          · intro p hp
            rcases List.mem_append.mp hp with hp | hp
            · exact good p hp
            · rw [List.mem_singleton.mp hp]; exact ⟨k0, k1, k2⟩
        · refine ⟨[some (.obj i), some (.tup (ns.map .str)), some (.obj S.length), some (.str m)], [some (.obj i), some (.tup (ns.map .str)), some (.obj S.length), some (.str m)], S2 ++ [.lst (ts.map termV)], rfl, ?_, rest, done ++ [m], ts, S2, some (.str m), rfl, by simp [hss], sub.trans (List.sublist_append_left _ _), good, u.trans u2, rfl, rfl⟩
          simp [l1__law_sum, e1, hr])
    (ss.map .str) [some (.obj i), some (.tup (ns.map .str)), some (.obj S.length), none] (S ++ [.lst []]) ⟨ss, [], [], S, none, rfl, by simp, by simp, by simp, .refl h, rfl, rfl⟩
  obtain ⟨ρ', W', e0, rest, done, ts, S1, o, ex, hss, sub, good, u, rfl, rfl⟩ := loop
  have A1 := h.su u
  obtain ⟨c, W2, e2, cm, u3⟩ := choose_ok (xs := [.int 0, .int 0, .int 1, .int 5, .int (-2)]) (v := .vl [.int 0, .int 0, .int 1, .int 5, .int (-2)]) (A1.app (T := [.lst (ts.map termV)])) (.inl rfl) (by decide) (by decide)
  obtain ⟨S2, rfl, u4⟩ := u3.split A1
  have l2 : S2.length = S.length := by rw [u4.len, u.len]
  obtain ⟨k, rfl, k1, k2⟩ : ∃ k : Int, c = .int k ∧ -5 ≤ k ∧ k ≤ 5 := by
    simp only [List.mem_cons, List.not_mem_nil, or_false] at cm
    rcases cm with rfl | rfl | rfl | rfl | rfl <;> exact ⟨_, rfl, by decide, by decide⟩
  have hd : done = ss := by
    cases rest with
    | nil => simpa using hss.symm
    | cons _ _ => cases ex
  subst hd
  refine ⟨k, ts, S2, ?_, ⟨⟨k1, k2⟩, fun p hp => ⟨(good p hp).1, (good p hp).2.1, (good p hp).2.2, pm.mem_iff.mp (sub.subset (List.mem_map_of_mem hp))⟩, up.sublist sub⟩, u.trans u4⟩
  have cl : closed S.length (sumV k ts) = true := by
    have e : closedL S.length (ts.map termV) = true := closedL_iff.mpr fun x hx => by
      obtain ⟨p, _, rfl⟩ := List.mem_map.mp hx
      simp [termV, closed, closedL]
    simp [sumV, closed, closedL, e]
  unfold F__law_sum
  rw [cutF_eq, dDef_2]
  unfold b__law_sum
  have es : kSort [.tup (ns.map .str)] (S ++ [.lst []]) = some (.ok (.vl (done.map .str)), S ++ [.lst []]) := kSort_of (by rw [sortF_strs, hs])
  simp [es, e0, e2, get_last l2]
  exact cut_su h (u.trans u4) cl
end K08
set_option Elab.async false
set_option linter.all false
set_option maxRecDepth 100000
set_option maxHeartbeats 4000000
/-! k08, plain mathematics 3: a simple statement, a count, what is trimmed. -/
namespace K08
open PySem DL
theorem int_lt8 {r : Int} (h0 : 0 ≤ r) (h1 : r < 8) : r = 0 ∨ (0 < r ∧ r < 4) ∨ r = 4 ∨ 4 < r := by omega
theorem simple_ok {S : Store} {i : Nat} {ns : List PySem.Str} (h : SA S i) (hn : ns.Nodup) (h0 : ns ≠ []) (hl : ns.length < 1000) : ∃ v S', F__law_simple [.obj i, .tup (ns.map .str)] S = some (.ok v, S') ∧ Smp ns v ∧ SU i S S' := by
  have hp : 0 < ns.length := List.length_pos_iff.mpr h0
  obtain ⟨x, S1, e1, m1, u1⟩ := choose_ok (xs := ns.map .str) (v := .tup (ns.map .str)) h (.inr rfl) (by simpa using hp) (by simp; omega)
  obtain ⟨m, hm, rfl⟩ := List.mem_map.mp m1
  obtain ⟨r, S2, e2, r0, r8, u2⟩ := draw_ok (c := 8) (h.su u1) (by decide) (by decide)
  have h2 := (h.su u1).su u2
  have u := u1.trans u2
  unfold F__law_simple
  rw [dDef_2]
  unfold b__law_simple
  rcases int_lt8 r0 r8 with rfl | ⟨q, q4⟩ | rfl | q
  · refine ⟨.tup [.str "input", .str m], S2, ?_, .inl ⟨m, hm, rfl⟩, u⟩
    simp [e1, e2]
  · obtain ⟨c, S3, e3, c0, c4, u3⟩ := draw_ok (c := 4) h2 (by decide) (by decide)
    refine ⟨.tup [.str "set", .str m, sumV c [(1, m)]], S3, ?_, .inr ⟨m, hm, c, [(1, m)], rfl, ⟨⟨by omega, by omega⟩, ?_, by simp⟩⟩, u.trans u3⟩
    · have q0 : r ≠ 0 := by omega
      simp [e1, e2, e3, q0, q4, sumV, termV]
    · intro p hp
      rw [List.mem_singleton.mp hp]; exact ⟨(by decide : (1 : Int) ≠ 0), (by decide : (-5 : Int) ≤ 1), (by decide : (1 : Int) ≤ 5), hm⟩
  · obtain ⟨c, S3, e3, cm, u3⟩ := choose_ok (xs := [.int 2, .int (-1), .int 3]) (v := .vl [.int 2, .int (-1), .int 3]) h2 (.inl rfl) (by decide) (by decide)
    obtain ⟨k, rfl, k0, k1, k2⟩ : ∃ k : Int, c = .int k ∧ k ≠ 0 ∧ -5 ≤ k ∧ k ≤ 5 := by
      simp only [List.mem_cons, List.not_mem_nil, or_false] at cm
      rcases cm with rfl | rfl | rfl <;> exact ⟨_, rfl, by decide, by decide, by decide⟩
    refine ⟨.tup [.str "set", .str m, sumV 0 [(k, m)]], S3, ?_, .inr ⟨m, hm, 0, [(k, m)], rfl, ⟨⟨by omega, by omega⟩, ?_, by simp⟩⟩, u.trans u3⟩
    · simp [e1, e2, e3, sumV, termV]
    · intro p hp
      rw [List.mem_singleton.mp hp]; exact ⟨k0, k1, k2, hm⟩
  · obtain ⟨c, ts, S3, e3, g, u3⟩ := sum_ok h2 hn hl
    refine ⟨.tup [.str "set", .str m, sumV c ts], S3, ?_, .inr ⟨m, hm, c, ts, rfl, g⟩, u.trans u3⟩
    have q0 : r ≠ 0 := by omega
    have q4 : ¬ r < 4 := by omega
    have q5 : r ≠ 4 := by omega
    simp [e1, e2, e3, q0, q4, q5]

/-! ### counts -/
def word : Val → PySem.Str
  | .tup (.str w :: _) => w
  | _ => ""
mutual
def St.cnt (p : PySem.Str → Bool) : St → Nat
  | .smp v => if p (word v) then 1 else 0
  | .eit a b => (if p "either" then 1 else 0) + (a.cnt p + b.cnt p)
  | .lop a => (if p "loop" then 1 else 0) + a.cnt p
def Bk.cnt (p : PySem.Str → Bool) : Bk → Nat
  | .nil => 0
  | .cons s b => s.cnt p + b.cnt p
end
theorem smp_word {ns : List PySem.Str} {v : Val} (h : Smp ns v) : ∃ w rest, v = .tup (.str w :: rest) ∧ (w = "set" ∨ w = "input") ∧ word v = w := by
  rcases h with ⟨n, _, rfl⟩ | ⟨n, _, c, ts, rfl, _⟩
  · exact ⟨_, _, rfl, .inr rfl, rfl⟩
  · exact ⟨_, _, rfl, .inl rfl, rfl⟩
/-- what is inside -/
def inP (ws : List PySem.Str) (w : PySem.Str) : Bool := decide (w ∈ ws)
theorem q_of (w : PySem.Str) (ws : List PySem.Str) : ∃ q : Nat, (if w ∈ ws then (1 : Int) else 0) = (q : Int) ∧ (if inP ws w = true then 1 else 0) = q := by
  by_cases h : w ∈ ws
  · exact ⟨1, by simp [h], by simp [inP, h]⟩
  · exact ⟨0, by simp [h], by simp [inP, h]⟩
theorem count_ok {S : Store} {ns ws : List PySem.Str} : ∀ {n d : Nat} {b : Bk}, d < n → b.wf ns d → G__law_count n [.tup b.vs, .vl (ws.map .str)] S = some (.ok (.int (b.cnt (inP ws))), S)
  | 0, _, _, h, _ => absurd h (by omega)
  | n + 1, d, b, h, w => by
    rw [G__law_count_succ, dDef_2]
    unfold b__law_count
    generalize hT : b.cnt (inP ws) = T
    have st : ∀ (W : Store) (B : Val) (z : Int) (w0 : PySem.Str) (rest : List Val) (x : Bk) (e : Nat), w0 ≠ "set" → w0 ≠ "input" → e < n → x.wf ns e → l1__law_count (G__law_count n) [some B, some (.vl (ws.map .str)), some (.int z), some (.tup (.str w0 :: rest)), some (.tup x.vs)] W = some (.nx [some B, some (.vl (ws.map .str)), some (.int (z + x.cnt (inP ws))), some (.tup (.str w0 :: rest)), some (.tup x.vs)], W) := by
      intro W B z w0 rest x e h1 h2 he hx
      simp [l1__law_count, h1, h2, count_ok (S := W) (ws := ws) (n := n) (d := e) (b := x) he hx]
    generalize hB : Val.tup b.vs = B
    have loop := forL_inv (chk := fun _ => True) (g := gN 3) (b := l2__law_count (G__law_count n))
      (fun xs ρ W => W = S ∧ ∃ (c : Bk) (k : Nat) (o1 o2 : Option Val), xs = c.vs ∧ c.wf ns d ∧ k + c.cnt (inP ws) = T ∧ ρ = [some B, some (.vl (ws.map .str)), some (.int k), o1, o2])
      (fun _ _ _ _ => trivial) (by
        rintro x xs ρ W ⟨rfl, c, k, o1, o2, ex, hc, hk, rfl⟩
        cases c with
        | nil => simp [Bk.vs] at ex
        | cons s c =>
          unfold Bk.vs at ex
          obtain ⟨rfl, rfl⟩ := List.cons.inj ex
          unfold Bk.wf at hc
          unfold Bk.cnt at hk
          cases s with
          | smp v =>
            have hs := hc.1
            unfold St.wf at hs
            obtain ⟨w0, rest, rfl, hw, ew⟩ := smp_word hs
            unfold St.cnt at hk
            rw [ew] at hk
            obtain ⟨q, hq, hq2⟩ := q_of w0 ws
            rw [hq2] at hk
            have L : ∀ (xs : List Val) (o : Option Val), ∃ o', forL (fun _ => True) (gN 4) (l1__law_count (G__law_count n)) xs [some B, some (.vl (ws.map .str)), some (.int (k + q)), some (.tup (.str w0 :: rest)), o] W = some (.nx [some B, some (.vl (ws.map .str)), some (.int (k + q)), some (.tup (.str w0 :: rest)), o'], W) := by
              intro xs
              induction xs with
              | nil => exact fun o => ⟨o, forL_nil trivial⟩
              | cons x xs ih =>
                intro o
                obtain ⟨o', e⟩ := ih (some x)
                refine ⟨o', ?_⟩
                rw [forL_cons (ρ1 := [some B, some (.vl (ws.map .str)), some (.int (k + q)), some (.tup (.str w0 :: rest)), some x]) trivial rfl ?_]
                · exact e
                · simp [l1__law_count, hw]
            obtain ⟨o', e⟩ := L rest o2
            refine ⟨[some B, some (.vl (ws.map .str)), some (.int k), some (St.smp (.tup (.str w0 :: rest))).v, o2], [some B, some (.vl (ws.map .str)), some (.int (k + q)), some (.tup (.str w0 :: rest)), o'], W, rfl, ?_, rfl, c, k + q, some (.tup (.str w0 :: rest)), o', rfl, hc.2, by omega, by simp⟩
            simp [l2__law_count, inF_vl, St.v, hq]
            exact e
          | eit a b2 =>
            have hs := hc.1
            unfold St.wf at hs
            unfold St.cnt at hk
            obtain ⟨q, hq, hq2⟩ := q_of "either" ws
            rw [hq2] at hk
            refine ⟨[some B, some (.vl (ws.map .str)), some (.int k), some (St.eit a b2).v, o2], [some B, some (.vl (ws.map .str)), some (.int (k + q + a.cnt (inP ws) + b2.cnt (inP ws))), some (St.eit a b2).v, some (.tup b2.vs)], W, rfl, ?_, rfl, c, k + q + a.cnt (inP ws) + b2.cnt (inP ws), some (St.eit a b2).v, some (.tup b2.vs), rfl, hc.2, by omega, by simp⟩
            simp [l2__law_count, inF_vl, St.v, hq]
            rw [forL_cons trivial rfl (st W B (k + q) "either" [.tup a.vs, .tup b2.vs] a (d - 1) (by simp) (by simp) (by omega) hs.2.1), forL_cons trivial rfl (st W B _ "either" [.tup a.vs, .tup b2.vs] b2 (d - 1) (by simp) (by simp) (by omega) hs.2.2.1)]
            exact forL_nil trivial
          | lop a =>
            have hs := hc.1
            unfold St.wf at hs
            unfold St.cnt at hk
            obtain ⟨q, hq, hq2⟩ := q_of "loop" ws
            rw [hq2] at hk
            refine ⟨[some B, some (.vl (ws.map .str)), some (.int k), some (St.lop a).v, o2], [some B, some (.vl (ws.map .str)), some (.int (k + q + a.cnt (inP ws))), some (St.lop a).v, some (.tup a.vs)], W, rfl, ?_, rfl, c, k + q + a.cnt (inP ws), some (St.lop a).v, some (.tup a.vs), rfl, hc.2, by omega, by simp⟩
            simp [l2__law_count, inF_vl, St.v, hq]
            rw [forL_cons trivial rfl (st W B (k + q) "loop" [.tup a.vs] a (d - 1) (by simp) (by simp) (by omega) hs.2.1)]
            exact forL_nil trivial)
      b.vs [some B, some (.vl (ws.map .str)), some (.int 0), none, none] S ⟨rfl, b, 0, none, none, rfl, w, by simp [hT], rfl⟩
    obtain ⟨ρ', W', e, rfl, c, k, o1, o2, ex, hc, hk, rfl⟩ := loop
    have hz : c = .nil := by
      cases c with
      | nil => rfl
      | cons _ _ => simp [Bk.vs] at ex
    subst hz
    subst hB
    simp [Bk.cnt] at hk
    simp [e, hk]
end K08
set_option Elab.async false
set_option linter.all false
set_option maxRecDepth 100000
set_option maxHeartbeats 4000000
/-! k08, plain mathematics 4: what is trimmed, blocks. -/
namespace K08
open PySem DL
def Bk.init : Bk → Bk
  | .nil => .nil
  | .cons s b => match b with
    | .nil => .nil
    | .cons t c => .cons s (Bk.init (.cons t c))
theorem Bk.vs_init : ∀ b : Bk, b.init.vs = b.vs.dropLast
  | .nil => by simp [Bk.init, Bk.vs]
  | .cons s .nil => by simp [Bk.init, Bk.vs]
  | .cons s (.cons t c) => by
    have ih := Bk.vs_init (.cons t c)
    rw [Bk.init, Bk.vs, ih]
    simp [Bk.vs]
theorem Bk.len_init : ∀ b : Bk, b.init.len = b.len - 1
  | .nil => by simp [Bk.init, Bk.len]
  | .cons s .nil => by simp [Bk.init, Bk.len]
  | .cons s (.cons t c) => by
    have ih := Bk.len_init (.cons t c)
    rw [Bk.init, Bk.len, ih]
    simp [Bk.len]
theorem Bk.cnt_init (p : PySem.Str → Bool) : ∀ b : Bk, b.init.cnt p ≤ b.cnt p
  | .nil => by simp [Bk.init]
  | .cons s .nil => by simp [Bk.init, Bk.cnt]
  | .cons s (.cons t c) => by
    have ih := Bk.cnt_init p (.cons t c)
    rw [Bk.init, Bk.cnt, Bk.cnt]
    omega
theorem Bk.wf_init {ns : List PySem.Str} {d : Nat} : ∀ {b : Bk}, b.wf ns d → b.init.wf ns d
  | .nil, _ => by simp [Bk.init, Bk.wf]
  | .cons s .nil, _ => by simp [Bk.init, Bk.wf]
  | .cons s (.cons t c), h => by
    have ih := Bk.wf_init (b := .cons t c) (by unfold Bk.wf at h; exact h.2)
    rw [Bk.init]
    unfold Bk.wf at h ⊢
    exact ⟨h.1, ih⟩
theorem cut_same {S : Store} {x : Val} (hx : DL.closed S.length x = true) : cutO S (some (.ok x, S)) = some (.ok x, S) := by
  have e := cutO_ok (S := S) (S1 := S) (T := []) (x := x) rfl (fun i o h => .inl h) hx
  rw [List.append_nil] at e
  exact e
/-- what is kept of a block -/
structure Kept (ns : List PySem.Str) (d : Nat) (b c : Bk) : Prop where
  wf : c.wf ns d
  len : c.len ≤ b.len
  cnt : ∀ p, c.cnt p ≤ b.cnt p
theorem trim_loop {S : Store} {ns ws : List PySem.Str} {d m : Nat} (hd : d < 30) : ∀ (n : Nat) (b : Bk), b.len < n → b.wf ns d → ∃ c, whileD (dTv (dOp2 (ltF fun i j => decide (j < i)) (dCall (G__law_count 30) [] (dCons (dVar 0) (dCons (dVar 1) dNil))) (dVar 2))) l1__law_trimmed n [some (.tup b.vs), some (.vl (ws.map .str)), some (.int m)] S = some (.nx [some (.tup c.vs), some (.vl (ws.map .str)), some (.int m)], S) ∧ Kept ns d b c ∧ c.cnt (inP ws) ≤ m
  | 0, _, h, _ => absurd h (by omega)
  | n + 1, b, hn, w => by
    have e := count_ok (S := S) (ws := ws) hd w
    by_cases hm : m < b.cnt (inP ws)
    · have h0 : 0 < b.len := by
        cases b with
        | nil => simp [Bk.cnt] at hm
        | cons _ _ => simp [Bk.len]
      obtain ⟨c, e2, k, hc⟩ := trim_loop (S := S) (ws := ws) (m := m) hd n b.init (by rw [Bk.len_init]; omega) (Bk.wf_init w)
      refine ⟨c, ?_, ⟨k.wf, ?_, fun p => Nat.le_trans (k.cnt p) (Bk.cnt_init p b)⟩, hc⟩
      · rw [while_on (S1 := S) (ρ2 := [some (.tup b.init.vs), some (.vl (ws.map .str)), some (.int m)]) (S2 := S) ?_ ?_]
        · exact e2
        · simp [e, hm]
        · simp [l1__law_trimmed, Bk.vs_init]
      · have := k.len
        rw [Bk.len_init] at this
        omega
    · refine ⟨b, ?_, ⟨w, Nat.le_refl _, fun _ => Nat.le_refl _⟩, by omega⟩
      rw [while_stop (S1 := S)]
      simp [e, hm]
theorem trim_ok {S : Store} {ns ws : List PySem.Str} {d m : Nat} {b : Bk} (hd : d < 30) (hl : b.len < 200) (w : b.wf ns d) : ∃ c, F__law_trimmed [.tup b.vs, .vl (ws.map .str), .int m] S = some (.ok (.tup c.vs), S) ∧ Kept ns d b c ∧ c.cnt (inP ws) ≤ m := by
  obtain ⟨c, e, k, hc⟩ := trim_loop (S := S) (ws := ws) (m := m) hd 200 b hl w
  refine ⟨c, ?_, k, hc⟩
  unfold F__law_trimmed
  rw [cutF_eq, dDef_3]
  unfold b__law_trimmed
  simp [e]
  exact cut_same (by rw [DL.closed]; exact Bk.closed k.wf)
end K08
set_option Elab.async false
set_option linter.all false
set_option maxRecDepth 100000
set_option maxHeartbeats 4000000
/-! k08, plain mathematics 5: blocks are drawn. -/
namespace K08
open PySem DL
theorem Bk.wf_snoc {ns : List PySem.Str} {d : Nat} {c : Bk} {s : St} (h : c.wf ns d) (k : s.wf ns d) : (c.app (.cons s .nil)).wf ns d := Bk.wf_app h (by unfold Bk.wf; exact ⟨k, by unfold Bk.wf; trivial⟩)
theorem Bk.vs_snoc {c : Bk} {s : St} : c.vs ++ [s.v] = (c.app (.cons s .nil)).vs := by rw [Bk.vs_app]; simp [Bk.vs]
theorem Bk.len_snoc {c : Bk} {s : St} : (c.app (.cons s .nil)).len = c.len + 1 := by rw [Bk.len_app]; simp [Bk.len]
theorem block_ok {ns : List PySem.Str} {i : Nat} (hn : ns.Nodup) (h0 : ns ≠ []) (hl : ns.length < 1000) : ∀ {n d size : Nat} {S : Store}, d < n → size < 1000 → SA S i → ∃ (b : Bk) (S' : Store), G__law_block n [.obj i, .tup (ns.map .str), .int size, .int d] S = some (.ok (.tup b.vs), S') ∧ b.wf ns d ∧ b.len ≤ size ∧ SU i S S' := by
  intro n
  induction n with
  | zero => intro d size S hd hz h; omega
  | succ n ih =>
    intro d size S hd hz h
    rw [G__law_block_succ, cutF_eq, dDef_4]
    unfold b__law_block
    obtain ⟨r, W0, e0, r0, rS, u0⟩ := draw_ok (c := (size : Int) + 1) (h.app (T := [.lst []])) (by omega) (by omega)
    obtain ⟨S0, rfl, u0'⟩ := u0.split h; clear u0; rename SU i S S0 => u0
    obtain ⟨R, rfl⟩ := Int.eq_ofNat_of_zero_le r0
    have loop := forL_inv (chk := fun _ => True) (g := gN 5) (b := l1__law_block (G__law_block n))
      (fun xs ρ W => ∃ (c : Bk) (S1 : Store) (o5 o6 o7 o8 : Option Val), xs.length + c.len = R ∧ c.wf ns d ∧ SU i S S1 ∧ W = S1 ++ [.lst c.vs] ∧ ρ = [some (.obj i), some (.tup (ns.map .str)), some (.int size), some (.int d), some (.obj S.length), o5, o6, o7, o8])
      (fun _ _ _ _ => trivial) (by
        rintro x xs ρ W ⟨c, S1, o5, o6, o7, o8, hk, hc, u, rfl, rfl⟩
        have A1 := h.su u
        have l1 : S1.length = S.length := u.len
        have tl : c.vs.length < 1000000 := by
          rw [Bk.len_vs]; simp at hk; omega
        obtain ⟨w, W1, e1, w0, w9, u1⟩ := draw_ok (c := 9) (A1.app (T := [.lst c.vs])) (by decide) (by decide)
        obtain ⟨S2, rfl, u2⟩ := u1.split A1
        have A2 := A1.su u2
        have l2 : S2.length = S.length := by rw [u2.len, l1]
        have U2 := u.trans u2
        refine ⟨[some (.obj i), some (.tup (ns.map .str)), some (.int size), some (.int d), some (.obj S.length), some x, o6, o7, o8], ?_⟩
        by_cases c7 : w = 7 ∧ 0 < d
        · obtain ⟨rfl, hd0⟩ := c7
          obtain ⟨d', rfl⟩ : ∃ d', d = d' + 1 := ⟨d - 1, by omega⟩
          obtain ⟨a, W3, e3, wa, la, u3⟩ := ih (d := d') (size := 2) (by omega) (by decide) (A2.app (T := [.lst c.vs]))
          obtain ⟨S3, rfl, u3'⟩ := u3.split A2; clear u3; rename SU i S2 S3 => u3
          have A3 := A2.su u3
          obtain ⟨b, W4, e4, wb, lb, u4⟩ := ih (d := d') (size := 1) (by omega) (by decide) (A3.app (T := [.lst c.vs]))
          obtain ⟨S4, rfl, u4'⟩ := u4.split A3; clear u4; rename SU i S3 S4 => u4
          have l4 : S4.length = S.length := by rw [u4.len, u3.len, l2]
          refine ⟨[some (.obj i), some (.tup (ns.map .str)), some (.int size), some (.int (d' + 1 : Nat)), some (.obj S.length), some x, some (.int 7), some (.tup a.vs), some (.tup b.vs)], S4 ++ [.lst (c.app (.cons (.eit a b) .nil)).vs], rfl, ?_, c.app (.cons (.eit a b) .nil), S4, _, _, _, _, by rw [Bk.len_snoc]; simp at hk; omega, Bk.wf_snoc hc (by unfold St.wf; exact ⟨by omega, wa, wb, la, Nat.le_trans lb (by decide)⟩), (U2.trans u3).trans u4, rfl, rfl⟩
          rw [← Bk.vs_snoc]
          simp at e3 e4
          simp [l1__law_block, e1, e3, e4, get_last l4, appE2_lst tl, set_last l4, St.v]
        · by_cases c8 : w = 8 ∧ 0 < d
          · obtain ⟨rfl, hd0⟩ := c8
            obtain ⟨d', rfl⟩ : ∃ d', d = d' + 1 := ⟨d - 1, by omega⟩
            obtain ⟨a, W3, e3, wa, la, u3⟩ := ih (d := d') (size := 2) (by omega) (by decide) (A2.app (T := [.lst c.vs]))
            obtain ⟨S3, rfl, u3'⟩ := u3.split A2; clear u3; rename SU i S2 S3 => u3
            have l3 : S3.length = S.length := by rw [u3.len, l2]
            refine ⟨[some (.obj i), some (.tup (ns.map .str)), some (.int size), some (.int (d' + 1 : Nat)), some (.obj S.length), some x, some (.int 8), o7, o8], S3 ++ [.lst (c.app (.cons (.lop a) .nil)).vs], rfl, ?_, c.app (.cons (.lop a) .nil), S3, _, _, _, _, by rw [Bk.len_snoc]; simp at hk; omega, Bk.wf_snoc hc (by unfold St.wf; exact ⟨by omega, wa, la⟩), U2.trans u3, rfl, rfl⟩
            rw [← Bk.vs_snoc]
            simp at e3
            simp [l1__law_block, e1, e3, get_last l2, get_last l3, appE2_lst tl, set_last l3, St.v]
          · obtain ⟨v, W3, e3, wv, u3⟩ := simple_ok (A2.app (T := [.lst c.vs])) hn h0 hl
            obtain ⟨S3, rfl, u3'⟩ := u3.split A2; clear u3; rename SU i S2 S3 => u3
            have l3 : S3.length = S.length := by rw [u3.len, l2]
            refine ⟨[some (.obj i), some (.tup (ns.map .str)), some (.int size), some (.int d), some (.obj S.length), some x, some (.int w), o7, o8], S3 ++ [.lst (c.app (.cons (.smp v) .nil)).vs], rfl, ?_, c.app (.cons (.smp v) .nil), S3, _, _, _, _, by rw [Bk.len_snoc]; simp at hk; omega, Bk.wf_snoc hc (by unfold St.wf; exact wv), U2.trans u3, rfl, rfl⟩
            rw [← Bk.vs_snoc]
            have q7 : ¬ (w = 7 ∧ 0 < (d : Int)) := fun q => c7 ⟨q.1, by omega⟩
            have q8 : ¬ (w = 8 ∧ 0 < (d : Int)) := fun q => c8 ⟨q.1, by omega⟩
            by_cases w7 : w = 7
            · subst w7
              have dz : d = 0 := by omega
              subst dz
              simp [l1__law_block, e1, e3, get_last l2, get_last l3, appE2_lst tl, set_last l3, St.v]
            · by_cases w8 : w = 8
              · subst w8
                have dz : d = 0 := by omega
                subst dz
                simp [l1__law_block, e1, e3, get_last l2, get_last l3, appE2_lst tl, set_last l3, St.v]
              · simp [l1__law_block, e1, e3, w7, w8, get_last l2, get_last l3, appE2_lst tl, set_last l3, St.v])
      ((List.range R).map fun (j : Nat) => Val.int j) [some (.obj i), some (.tup (ns.map .str)), some (.int size), some (.int d), some (.obj S.length), none, none, none, none] (S0 ++ [.lst []]) ⟨.nil, S0, none, none, none, none, by simp [Bk.len], by unfold Bk.wf; trivial, u0, by simp [Bk.vs], rfl⟩
    obtain ⟨ρ', W', e, c, S1, o5, o6, o7, o8, hk, hc, u, rfl, rfl⟩ := loop
    refine ⟨c, S1, ?_, hc, by simp at hk; omega, u⟩
    have er : kRange1 (.int R) (S0 ++ [.lst []]) = _ := kRange1_of (by omega) (by omega)
    simp [e0, er, e, get_last u.len]
    exact cut_su h u (by rw [DL.closed]; exact Bk.closed hc)
end K08
set_option Elab.async false
set_option linter.all false
set_option maxRecDepth 100000
set_option maxHeartbeats 4000000
/-! k08, plain mathematics 6: handlers and parts are drawn. -/
namespace K08
open PySem DL
structure Hn where
  nm : PySem.Str
  rank : Int
  wish : PySem.Str
  wait : Val
  own : List PySem.Str
  b : Bk
def Hn.v (h : Hn) : Val := .tup [.str h.nm, .int h.rank, .str h.wish, h.wait, .tup (h.own.map .str), .tup h.b.vs]
def Shared (sh : List PySem.Str) : Prop := sh = (["x"] : List PySem.Str) ∨ sh = (["x", "a"] : List PySem.Str)
structure Hn.Ok (sh : List PySem.Str) (h : Hn) : Prop where
  nm : h.nm = "h" ∨ h.nm = "x"
  rank : 1 ≤ h.rank ∧ h.rank ≤ 3
  wish : h.wish = "now" ∨ h.wish = "late"
  wait : h.wait = .non ∨ h.wait = .int 9 ∨ h.wait = .int 4
  own : h.own = [] ∨ h.own = (["u"] : List PySem.Str)
  wf : h.b.wf (sh ++ h.own) 2
  c1 : h.b.cnt (inP ["either", "loop"]) ≤ 1
  c2 : h.b.cnt (inP ["set", "input"]) ≤ 4
  len : h.b.len ≤ 6
theorem draw2 {S : Store} {i : Nat} (h : SA S i) : ∃ (n : Nat) (S' : Store), F__law_draw [.obj i, .int 2] S = some (.ok (.int n), S') ∧ (n = 0 ∨ n = 1) ∧ SU i S S' := by
  obtain ⟨r, S', e, r0, r2, u⟩ := draw_ok (c := 2) h (by decide) (by decide)
  obtain ⟨n, rfl⟩ := Int.eq_ofNat_of_zero_le r0
  exact ⟨n, S', e, by omega, u⟩
theorem names_nodup {sh own : List PySem.Str} (h : Shared sh) (o : own = [] ∨ own = (["u"] : List PySem.Str) ∨ own = (["t"] : List PySem.Str)) : (sh ++ own).Nodup ∧ sh ++ own ≠ [] ∧ (sh ++ own).length < 1000 ∧ (∀ S, addF S (.tup (sh.map .str)) (.tup (own.map .str)) = some (.tup ((sh ++ own).map .str))) := by
  have k : (sh ++ own).Nodup ∧ sh ++ own ≠ [] ∧ (sh ++ own).length ≤ 3 := by rcases h with rfl | rfl <;> rcases o with rfl | rfl | rfl <;> decide
  refine ⟨k.1, k.2.1, by omega, fun S => ?_⟩
  have k3 := k.2.2
  rw [List.length_append] at k3
  rw [addF_tup S (by simp only [List.length_map]; omega), List.map_append]
theorem handler_ok {S : Store} {i : Nat} {nm : PySem.Str} {sh : List PySem.Str} (h : SA S i) (hs : Shared sh) (hnm : nm = "h" ∨ nm = "x") : ∃ (g : Hn) (S' : Store), F__law_handler [.obj i, .str nm, .tup (sh.map .str), .int 2] S = some (.ok g.v, S') ∧ g.Ok sh ∧ g.nm = nm ∧ SU i S S' := by
  obtain ⟨n, S1, e1, n01, u1⟩ := draw2 h
  have A1 := h.su u1
  obtain ⟨own, hown, ec⟩ : ∃ own : List PySem.Str, (own = [] ∨ own = (["u"] : List PySem.Str)) ∧ cutD [.str "u", .str "w"] none (some (n : Int)) = own.map .str := by
    rcases n01 with rfl | rfl
    · exact ⟨[], .inl rfl, by rw [cutD_take]; rfl⟩
    · exact ⟨["u"], .inr rfl, by rw [cutD_take]; rfl⟩
  obtain ⟨hn, h0, hl, ea⟩ := names_nodup hs (own := own) (by rcases hown with h | h <;> simp [h])
  obtain ⟨v0, S2, e2, w0, u2⟩ := simple_ok A1 hn h0 hl
  have A2 := A1.su u2
  obtain ⟨b, S3, e3, wb, lb, u3⟩ := block_ok hn h0 hl (n := 30) (d := 2) (size := 1) (by decide) (by decide) A2
  have A3 := A2.su u3
  have wf1 : (Bk.cons (.smp v0) b).wf (sh ++ own) 2 := by unfold Bk.wf St.wf; exact ⟨w0, wb⟩
  obtain ⟨c, e4, k4, t4⟩ := trim_ok (S := S3) (ws := (["either", "loop"] : List PySem.Str)) (m := 1) (d := 2) (by decide) (by simp only [Bk.len]; omega) wf1
  obtain ⟨c2, e5, k5, t5⟩ := trim_ok (S := S3) (ws := (["set", "input"] : List PySem.Str)) (m := 4) (d := 2) (by decide) (by have := k4.len; simp only [Bk.len] at this; omega) k4.wf
  obtain ⟨wi, S4, e6, m6, u4⟩ := choose_ok (xs := [.str "now", .str "now", .str "late"]) (v := .vl [.str "now", .str "now", .str "late"]) A3 (.inl rfl) (by decide) (by decide)
  have A4 := A3.su u4
  obtain ⟨wt, S5, e7, m7, u5⟩ := choose_ok (xs := [.non, .non, .int 9, .int 4]) (v := .vl [.non, .non, .int 9, .int 4]) A4 (.inl rfl) (by decide) (by decide)
  have A5 := A4.su u5
  obtain ⟨r, S6, e8, r0, r3, u6⟩ := draw_ok (c := 3) A5 (by decide) (by decide)
  obtain ⟨ws, rfl, hws⟩ : ∃ ws : PySem.Str, wi = .str ws ∧ (ws = "now" ∨ ws = "late") := by
    simp only [List.mem_cons, List.not_mem_nil, or_false] at m6
    rcases m6 with rfl | rfl | rfl <;> simp
  have hwt : wt = .non ∨ wt = .int 9 ∨ wt = .int 4 := by
    simp only [List.mem_cons, List.not_mem_nil, or_false] at m7
    rcases m7 with h | h | h | h <;> simp [h]
  refine ⟨⟨nm, 1 + r, ws, wt, own, c2⟩, S6, ?_, ⟨hnm, ⟨by simp only; omega, by simp only; omega⟩, hws, hwt, hown, k5.wf, ?_, t5, by have q1 := k5.len; have q2 := k4.len; simp only [Bk.len] at q2; simp only; omega⟩, rfl, ((((u1.trans u2).trans u3).trans u4).trans u5).trans u6⟩
  · have eb : ∀ S, addF S (.tup [v0]) (.tup b.vs) = some (.tup (Bk.cons (.smp v0) b).vs) := fun S => by
      rw [addF_tup S (by rw [Bk.len_vs]; simp; omega)]
      simp [Bk.vs, St.v]
    unfold F__law_handler
    rw [dDef_4]
    unfold b__law_handler
    rw [List.map_append] at e2 e3
    simp only [List.map_append] at ea
    replace e3 : G__law_block 30 [.obj i, .tup (sh.map .str ++ own.map .str), .int 1, .int 2] S2 = _ := e3
    replace e4 : F__law_trimmed [.tup (Bk.cons (.smp v0) b).vs, .vl [.str "either", .str "loop"], .int 1] S3 = _ := e4
    replace e5 : F__law_trimmed [.tup c.vs, .vl [.str "set", .str "input"], .int 4] S3 = _ := e5
    simp [e1, ec, ea, e2, e3, eb, e4, e5, e6, e7, e8, Hn.v]
  · exact Nat.le_trans (k5.cnt _) t4
end K08
set_option Elab.async false
set_option linter.all false
set_option maxRecDepth 100000
set_option maxHeartbeats 4000000
/-! k08, plain mathematics 7: parts are drawn. -/
namespace K08
open PySem DL
structure Pt where
  sh : List PySem.Str
  own : List PySem.Str
  told : List PySem.Str
  b : Bk
  hs : List Hn
def Pt.main (p : Pt) : Val := .tup [.tup (p.own.map .str), .tup (p.told.map .str), .tup p.b.vs]
def Pt.hv (p : Pt) : List Val := p.hs.map Hn.v
def Pt.v (p : Pt) : Val := .tup [.tup (p.sh.map .str), p.main, .tup p.hv]
structure Pt.Ok (p : Pt) : Prop where
  sh : Shared p.sh
  own : p.own = [] ∨ p.own = (["t"] : List PySem.Str)
  told : p.told = [] ∨ p.told = p.own
  wf : p.b.wf (p.sh ++ p.own) 2
  c1 : p.b.cnt (inP ["either", "loop"]) ≤ 2
  c2 : p.b.cnt (inP ["set", "input"]) ≤ 7
  len : p.b.len ≤ 6
  hs : ∀ h ∈ p.hs, h.Ok p.sh
  nms : p.hs.map Hn.nm = (["h"] : List PySem.Str) ∨ p.hs.map Hn.nm = (["h", "x"] : List PySem.Str)
theorem parts_ok {S : Store} {i : Nat} (h : SA S i) : ∃ (p : Pt) (S' : Store), F__law_parts [.obj i, .int 2] S = some (.ok p.v, S') ∧ p.Ok ∧ SU i S S' := by
  obtain ⟨n, S1, e1, n01, u1⟩ := draw2 h
  have A1 := h.su u1
  obtain ⟨sh, hsh, ec⟩ : ∃ sh : List PySem.Str, Shared sh ∧ cutD [.str "x", .str "a", .str "zz"] none (some (1 + (n : Int))) = sh.map .str := by
    rcases n01 with rfl | rfl
    · exact ⟨_, .inl rfl, by rw [show (1 + ((0 : Nat) : Int)) = ((1 : Nat) : Int) from rfl, cutD_take]; rfl⟩
    · exact ⟨_, .inr rfl, by rw [show (1 + ((1 : Nat) : Int)) = ((2 : Nat) : Int) from rfl, cutD_take]; rfl⟩
  obtain ⟨n2, S2, e2, n02, u2⟩ := draw2 A1
  have A2 := A1.su u2
  obtain ⟨own, hown, ec2⟩ : ∃ own : List PySem.Str, (own = [] ∨ own = (["t"] : List PySem.Str)) ∧ cutD [.str "t", .str "c"] none (some (n2 : Int)) = own.map .str := by
    rcases n02 with rfl | rfl
    · exact ⟨[], .inl rfl, by rw [cutD_take]; rfl⟩
    · exact ⟨["t"], .inr rfl, by rw [cutD_take]; rfl⟩
  obtain ⟨hn, h0, hl, ea⟩ := names_nodup hsh (own := own) (by rcases hown with h | h <;> simp [h])
  obtain ⟨b1, S3, e3, w1, l1, u3⟩ := block_ok hn h0 hl (n := 30) (d := 2) (size := 4) (by decide) (by decide) A2
  have A3 := A2.su u3
  obtain ⟨b2, S4, e4, w2, l2, u4⟩ := block_ok hn h0 hl (n := 30) (d := 0) (size := 2) (by decide) (by decide) A3
  have A4 := A3.su u4
  have wf1 : (b1.app b2).wf (sh ++ own) 2 := Bk.wf_app w1 (Bk.wf_mono (by decide) w2)
  have lf1 : (b1.app b2).len ≤ 6 := by rw [Bk.len_app]; omega
  obtain ⟨c, e5, k5, t5⟩ := trim_ok (S := S4) (ws := (["either", "loop"] : List PySem.Str)) (m := 2) (d := 2) (by decide) (by omega) wf1
  obtain ⟨c2, e6, k6, t6⟩ := trim_ok (S := S4) (ws := (["set", "input"] : List PySem.Str)) (m := 7) (d := 2) (by decide) (by have := k5.len; omega) k5.wf
  obtain ⟨n3, S5, e7, n03, u5⟩ := draw2 A4
  have A5 := A4.su u5
  obtain ⟨ta, hta, ec3⟩ : ∃ ta : List PySem.Str, (ta = (["h"] : List PySem.Str) ∨ ta = (["h", "x"] : List PySem.Str)) ∧ cutD [.str "h", .str "x"] none (some (1 + (n3 : Int))) = ta.map .str := by
    rcases n03 with rfl | rfl
    · exact ⟨_, .inl rfl, by rw [show (1 + ((0 : Nat) : Int)) = ((1 : Nat) : Int) from rfl, cutD_take]; rfl⟩
    · exact ⟨_, .inr rfl, by rw [show (1 + ((1 : Nat) : Int)) = ((2 : Nat) : Int) from rfl, cutD_take]; rfl⟩
  -- the handlers
  have comp : ∀ (ta : List PySem.Str) (S : Store), SA S i → (∀ t ∈ ta, t = "h" ∨ t = "x") → ∀ r : Slots, ∃ (hs : List Hn) (S' : Store), lcL (fun _ => True) (gN 6) dYes (dCall F__law_handler [] (dCons (dVar 0) (dCons (dVar 6) (dCons (dVar 2) (dCons (dVar 1) dNil))))) [some (.obj i), some (.int 2), some (.tup (sh.map .str)), some (.tup (own.map .str)), some (.tup c2.vs), none, none] (ta.map .str) S = some (hs.map Hn.v, S') ∧ (∀ h ∈ hs, h.Ok sh) ∧ hs.map Hn.nm = ta ∧ SU i S S' := by
    intro ta
    induction ta with
    | nil => exact fun S A _ r => ⟨[], S, lcL_nil trivial, by simp, rfl, .refl A⟩
    | cons t ta ih =>
      intro S A ht r
      obtain ⟨g, S1, eg, gok, gn, ug⟩ := handler_ok A hsh (ht t (List.mem_cons_self ..))
      obtain ⟨hs, S2, eh, hok, hns, uh⟩ := ih S1 (A.su ug) (fun x hx => ht x (List.mem_cons_of_mem _ hx)) r
      refine ⟨g :: hs, S2, ?_, ?_, by rw [List.map_cons, gn, hns], ug.trans uh⟩
      · refine lcL_cons trivial rfl rfl ?_ eh
        simp [eg]
      · intro x hx
        rcases List.mem_cons.mp hx with rfl | hx
        · exact gok
        · exact hok x hx
  obtain ⟨hs, S6, e8, hok, hns, u6⟩ := comp ta S5 A5 (by rcases hta with rfl | rfl <;> simp) []
  have A6 := A5.su u6
  obtain ⟨n4, S7, e9, n04, u7⟩ := draw2 A6
  obtain ⟨told, htold, ec4⟩ : ∃ told : List PySem.Str, (told = [] ∨ told = own) ∧ cutD (own.map .str) none (some (n4 : Int)) = told.map .str := by
    rcases n04 with rfl | rfl
    · exact ⟨[], .inl rfl, by rw [cutD_take]; rfl⟩
    · refine ⟨own, .inr rfl, ?_⟩
      rw [cutD_take]
      rcases hown with rfl | rfl <;> rfl
  refine ⟨⟨sh, own, told, c2, hs⟩, S7, ?_, ⟨hsh, hown, htold, k6.wf, Nat.le_trans (k6.cnt _) t5, t6, by have q1 := k6.len; have q2 := k5.len; simp only; omega, hok, by rw [hns]; exact hta⟩, (((((u1.trans u2).trans u3).trans u4).trans u5).trans u6).trans u7⟩
  have eb : ∀ S, addF S (.tup b1.vs) (.tup b2.vs) = some (.tup (b1.app b2).vs) := fun S => by
    rw [addF_tup S (by rw [Bk.len_vs, Bk.len_vs]; omega), Bk.vs_app]
  have hlen : hs.length ≤ 2 := by
    have := congrArg List.length hns
    rw [List.length_map] at this
    rw [this]
    rcases hta with rfl | rfl <;> simp
  have ee : ∀ S : Store, lcE (some (hs.map Hn.v, S)) = some (.ok (.vl (hs.map Hn.v)), S) := fun S => lcE_of (by rw [List.length_map]; omega)
  unfold F__law_parts
  rw [dDef_2]
  unfold b__law_parts
  rw [List.map_append] at e3 e4
  simp only [List.map_append] at ea
  replace e3 : G__law_block 30 [.obj i, .tup (sh.map .str ++ own.map .str), .int 4, .int 2] S2 = _ := e3
  replace e4 : G__law_block 30 [.obj i, .tup (sh.map .str ++ own.map .str), .int 2, .int 0] S3 = _ := e4
  replace e5 : F__law_trimmed [.tup (b1.app b2).vs, .vl [.str "either", .str "loop"], .int 2] S4 = _ := e5
  replace e6 : F__law_trimmed [.tup c.vs, .vl [.str "set", .str "input"], .int 7] S4 = _ := e6
  simp [e1, ec, e2, ec2, ea, e3, e4, eb, e5, e6, e7, ec3, e8, e9, ee, ec4, Pt.v, Pt.main, Pt.hv]
end K08
set_option Elab.async false
set_option linter.all false
set_option maxRecDepth 100000
set_option maxHeartbeats 4000000
/-! k08, plain mathematics 8: the checks say yes. -/
namespace K08
open PySem DL
theorem name_of {S : Store} {nm : PySem.Str} {c : Nat} (hl : nm.length = 1) (hw : decide (nm ∈ (["shared", "local", "told", "handler", "rank", "now", "late", "wait", "main", "end", "set", "input", "either", "or", "loop"] : List PySem.Str)) = false)
    (hc : nm.cps.toList = [c]) (hi : inVal S (.str ⟨#[c]⟩) (.str "abcdefghijklmnopqrstuvwxyz") = some true) : F_is_name [.str nm] S = some (.ok (.bl true), S) := by
  have e1 : lenF S [.str nm] = some (.int 1) := by rw [lenF_str S (by omega), hl]; rfl
  have e2 : inF S (.str nm) (.tup [.str "shared", .str "local", .str "told", .str "handler", .str "rank", .str "now", .str "late", .str "wait", .str "main", .str "end", .str "set", .str "input", .str "either", .str "or", .str "loop"]) = some (.bl false) := by
    rw [← hw]; exact inF_tup S nm ["shared", "local", "told", "handler", "rank", "now", "late", "wait", "main", "end", "set", "input", "either", "or", "loop"]
  have e3 : inF S (.str ⟨#[c]⟩) (.str "abcdefghijklmnopqrstuvwxyz") = some (.bl true) := by unfold inF; rw [hi]; rfl
  unfold F_is_name
  rw [dDef_1]
  unfold b_is_name
  have e4 : ∀ r : Slots, lcL (fun _ => True) (gN 1) dYes (dOp2 inF (dVar 1) (dC (.str "abcdefghijklmnopqrstuvwxyz"))) (some (.str nm) :: none :: r) [.str ⟨#[c]⟩] S = some ([.bl true], S) := fun r => lcL_cons trivial rfl rfl (by simp [e3]) (lcL_nil trivial)
  simp [e1, e2, hc, e4]
/-- the names there are -/
def Nm (nm : PySem.Str) : Prop := nm = "x" ∨ nm = "a" ∨ nm = "t" ∨ nm = "u" ∨ nm = "h"
theorem is_name_ok {S : Store} {nm : PySem.Str} (h : Nm nm) : F_is_name [.str nm] S = some (.ok (.bl true), S) := by
  rcases h with rfl | rfl | rfl | rfl | rfl
  · exact name_of (c := 120) (by decide +kernel) (by decide +kernel) (by decide +kernel) (by show some (!(Builtin.Str.occurrences _ _ _ _ _).isEmpty) = _; decide +kernel)
  · exact name_of (c := 97) (by decide +kernel) (by decide +kernel) (by decide +kernel) (by show some (!(Builtin.Str.occurrences _ _ _ _ _).isEmpty) = _; decide +kernel)
  · exact name_of (c := 116) (by decide +kernel) (by decide +kernel) (by decide +kernel) (by show some (!(Builtin.Str.occurrences _ _ _ _ _).isEmpty) = _; decide +kernel)
  · exact name_of (c := 117) (by decide +kernel) (by decide +kernel) (by decide +kernel) (by show some (!(Builtin.Str.occurrences _ _ _ _ _).isEmpty) = _; decide +kernel)
  · exact name_of (c := 104) (by decide +kernel) (by decide +kernel) (by decide +kernel) (by show some (!(Builtin.Str.occurrences _ _ _ _ _).isEmpty) = _; decide +kernel)
theorem is_variable_ok {S : Store} {nm : PySem.Str} {ns : List PySem.Str} (h : Nm nm) (hm : nm ∈ ns) : F_is_variable [.str nm, .tup (ns.map .str)] S = some (.ok (.bl true), S) := by
  unfold F_is_variable
  rw [dDef_2]
  unfold b_is_variable
  simp [is_name_ok h, inF_tup, hm]
theorem are_names_ok {S : Store} {ns : List PySem.Str} {lo hi : Int} (h : ∀ n ∈ ns, Nm n) (hn : ns.Nodup) (h1 : lo ≤ ns.length) (h2 : (ns.length : Int) ≤ hi) (hl : ns.length ≤ 4000) : F_are_names [.tup (ns.map .str), .int lo, .int hi] S = some (.ok (.bl true), S) := by
  unfold F_are_names
  rw [dDef_3]
  unfold b_are_names
  have e1 : ∀ r : Slots, lcL (fun _ => True) (gN 3) dYes (dCall F_is_name [] (dCons (dVar 3) dNil)) (some (.tup (ns.map .str)) :: some (.int lo) :: some (.int hi) :: none :: r) (ns.map Val.str) S = some (List.replicate (ns.map Val.str).length (.bl true), S) := fun r => lcL_true trivial fun x hx => by
    obtain ⟨n, m, rfl⟩ := List.mem_map.mp hx
    exact ⟨_, rfl, by simp [is_name_ok (h n m)]⟩
  have e2 : ∀ x, lcE (some (List.replicate ns.length x, S)) = some (.ok (.vl (List.replicate ns.length x)), S) := fun x => lcE_rep (by omega)
  have e4 : kLenSet (.tup (ns.map .str)) S = _ := kLenSet_strs hn hl
  rw [List.length_map] at e1
  simp [h1, h2, e1, e2, e4]
theorem is_integer_ok {S : Store} {i : Int} : F_is_integer [.int i] S = some (.ok (.bl true), S) := by
  unfold F_is_integer
  rw [dDef_1]
  unfold b_is_integer
  simp
theorem is_between_ok {S : Store} {i lo hi : Int} (h1 : lo ≤ i) (h2 : i ≤ hi) : F_is_between [.int i, .int lo, .int hi] S = some (.ok (.bl true), S) := by
  unfold F_is_between
  rw [dDef_3]
  unfold b_is_between
  simp [is_integer_ok, h1, h2]
theorem is_factor_ok {S : Store} {i : Int} (h1 : -5 ≤ i) (h2 : i ≤ 5) : F_is_factor [.int i] S = some (.ok (.bl true), S) := by
  unfold F_is_factor
  rw [dDef_1]
  unfold b_is_factor
  have e : F_is_between [.int i, .int (-1000000000000000000000000000000), .int 1000000000000000000000000000000] S = _ := is_between_ok (by omega) (by omega)
  simp [e]
end K08
set_option Elab.async false
set_option linter.all false
set_option maxRecDepth 100000
set_option maxHeartbeats 4000000
/-! k08, plain mathematics 9: sums and statements are in order. -/
namespace K08
open PySem DL
theorem is_told_nil {S : Store} {ns : List PySem.Str} : F_is_told [.tup [], .tup (ns.map .str)] S = some (.ok (.bl true), S) := by
  unfold F_is_told
  rw [dDef_2]
  unfold b_is_told
  have e0 : ∀ (g : GD) (d : ED) (ρ : Slots), lcL (fun _ => True) g dYes d ρ [] S = some ([], S) := fun _ _ _ => lcL_nil trivial
  have e1 : allF S [.vl []] = some (.bl true) := allF_rep (n := 0)
  simp [e0, e1, zipV]
theorem is_told_t {S : Store} : F_is_told [.tup [.str "t"], .tup [.str "t"]] S = some (.ok (.bl true), S) := by
  unfold F_is_told
  rw [dDef_2]
  unfold b_is_told
  have e0 : ∀ (g : GD) (d : ED) (ρ : Slots), lcL (fun _ => True) g dYes d ρ [] S = some ([], S) := fun _ _ _ => lcL_nil trivial
  have ev : F_is_variable [.str "t", .tup [.str "t"]] S = _ := is_variable_ok (nm := "t") (ns := ["t"]) (.inr (.inr (.inl rfl))) (by simp)
  have e2 : ∀ r : Slots, lcL (fun _ => True) (gN 3) dYes (dCall F_is_variable [] (dCons (dVar 3) (dCons (dVar 1) dNil))) (some (.tup [.str "t"]) :: some (.tup [.str "t"]) :: none :: none :: r) [.str "t"] S = some ([.bl true], S) := fun r => lcL_cons trivial rfl rfl (by simp [ev]) (lcL_nil trivial)
  have e3 : ∀ r : Slots, lcL (fun _ => True) (gN 3) dYes (dTIdx (dVar 1) (dCons (dVar 3) dNil)) (some (.tup [.str "t"]) :: some (.tup [.str "t"]) :: none :: none :: r) [.str "t"] S = some ([.int 0], S) := fun r => lcL_cons trivial rfl rfl (by simp [strsOf, idxS]) (lcL_nil trivial)
  have e1 : allF S [.vl []] = some (.bl true) := allF_rep (n := 0)
  simp [e0, e1, e2, e3, zipV]
theorem is_sum_ok {S : Store} {ns : List PySem.Str} {c : Int} {ts : List (Int × PySem.Str)} (h : GSum ns c ts) (hm : ∀ n ∈ ns, Nm n) (hl : ts.length < 1000) : F_is_sum [sumV c ts, .tup (ns.map .str)] S = some (.ok (.bl true), S) := by
  unfold F_is_sum
  rw [dDef_2]
  unfold b_is_sum
  unfold sumV
  generalize hv : (Val.tup [.int c, .tup (ts.map termV)]) = v
  have e1 := is_factor_ok (S := S) h.c5.1 h.c5.2
  have loop := forL_inv (chk := fun _ => True) (g := gN 2) (b := l1_is_sum)
    (fun xs ρ W => W = S ∧ (∀ x ∈ xs, ∃ p ∈ ts, x = termV p) ∧ ∃ o : Option Val, ρ = [some v, some (.tup (ns.map .str)), o, none, none, none, none, none])
    (fun _ _ _ _ => trivial) (by
      rintro x xs ρ W ⟨rfl, hx, o, rfl⟩
      obtain ⟨p, hp, rfl⟩ := hx x (List.mem_cons_self ..)
      obtain ⟨p0, p1, p2, p3⟩ := h.t5 p hp
      refine ⟨[some v, some (.tup (ns.map .str)), some (termV p), none, none, none, none, none], [some v, some (.tup (ns.map .str)), some (termV p), none, none, none, none, none], W, rfl, ?_, rfl, fun y hy => hx y (List.mem_cons_of_mem _ hy), _, rfl⟩
      simp [l1_is_sum, termV, is_factor_ok p1 p2, p0, is_name_ok (hm _ p3), notInF_tup, p3])
    (ts.map termV) [some v, some (.tup (ns.map .str)), none, none, none, none, none, none] S ⟨rfl, fun x hx => by obtain ⟨p, hp, rfl⟩ := List.mem_map.mp hx; exact ⟨p, hp, rfl⟩, none, rfl⟩
  obtain ⟨ρ', W', e2, rfl, _, o, rfl⟩ := loop
  have e3 : lcL (fun _ => True) (gT 2 (gCons' (gN 4) (gCons' (gN 5) gNil'))) dYes (dVar 5) [some v, some (.tup (ns.map .str)), o, none, none, none, none, none] (ts.map termV) W' = some ((ts.map (·.2)).map Val.str, W') := by
    have := lcL_map (chk := fun _ => True) (g := gT 2 (gCons' (gN 4) (gCons' (gN 5) gNil'))) (tt := dYes) (d := dVar 5) (ρ := [some v, some (.tup (ns.map .str)), o, none, none, none, none, none]) (S := W') trivial (fun v => match v with | .tup [_, n] => n | _ => .non) (ts.map termV) (fun x hx => by
      obtain ⟨p, hp, rfl⟩ := List.mem_map.mp hx
      exact ⟨_, rfl, rfl, rfl⟩)
    rw [this, List.map_map, List.map_map]
    rfl
  have e4 : ∀ n : List PySem.Str, n.length < 1000 → lcE (some (n.map Val.str, W')) = some (.ok (.vl (n.map Val.str)), W') := fun n hn => lcE_of (by simp; omega)
  have e5 : lcL (fun _ => True) (gT 2 (gCons' (gN 6) (gCons' (gN 7) gNil'))) dYes (dOp2 ltSF (dVar 6) (dVar 7)) [some v, some (.tup (ns.map .str)), o, some (.vl ((ts.map (·.2)).map Val.str)), none, none, none, none] (zipV ((ts.map (·.2)).map Val.str) ((ts.map (·.2)).map Val.str).tail) W' = some (List.replicate (zipV ((ts.map (·.2)).map Val.str) ((ts.map (·.2)).map Val.str).tail).length (.bl true), W') := lcL_true trivial fun x hx => by
    obtain ⟨a, b, rfl, hab⟩ := zip_near h.up x hx
    exact ⟨_, rfl, by simp [hab]⟩
  have l5 : (zipV ((ts.map (·.2)).map Val.str) ((ts.map (·.2)).map Val.str).tail).length ≤ 1000000 := by rw [zip_len]; simp; omega
  have e6 : ∀ x, lcE (some (List.replicate (zipV ((ts.map (·.2)).map Val.str) ((ts.map (·.2)).map Val.str).tail).length x, W')) = _ := fun x => lcE_rep l5
  have e7 : lcE (some ((ts.map (·.2)).map Val.str, W')) = _ := e4 _ (by simpa using hl)
  generalize (ts.map (·.2)).map Val.str = NL at e3 e5 e6 e7
  subst hv
  simp [e1, e2, e3, e7, e5, e6]
/-! ### statements and blocks -/
theorem name_plain {n : PySem.Str} (h : Nm n) : plainV (.str n) = true := by
  rcases h with rfl | rfl | rfl | rfl | rfl <;> decide +kernel
theorem smp_plain {ns : List PySem.Str} {v : Val} (h : Smp ns v) (hm : ∀ n ∈ ns, Nm n) : plainV v = true ∧ dpV v ≤ 4 := by
  have ki : plainV (.str "input") = true := by decide +kernel
  have ks : plainV (.str "set") = true := by decide +kernel
  rcases h with ⟨n, hn, rfl⟩ | ⟨n, hn, c, ts, rfl, g⟩
  · have := name_plain (hm n hn)
    exact ⟨by simp [plainV, plainVs] at this ki ⊢; simp [this, ki], by simp [dpV, dpVs]⟩
  · have k := name_plain (hm n hn)
    have kt : ∀ ts : List (Int × PySem.Str), (∀ p ∈ ts, p.2 ∈ ns) → plainVs (ts.map termV) = true ∧ dpVs (ts.map termV) ≤ 1 := by
      intro ts
      induction ts with
      | nil => intro _; exact ⟨by simp [plainVs], by simp [dpVs]⟩
      | cons p ts ih =>
        intro hp
        obtain ⟨a, b⟩ := ih fun q hq => hp q (List.mem_cons_of_mem _ hq)
        have kp := name_plain (hm _ (hp p (List.mem_cons_self ..)))
        refine ⟨?_, ?_⟩
        · simp [plainVs, plainV, termV] at kp ⊢
          exact ⟨kp, a⟩
        · simp [dpVs, dpV, termV]
          omega
    obtain ⟨a, b⟩ := kt ts fun p hp => (g.t5 p hp).2.2.2
    refine ⟨?_, ?_⟩
    · simp [plainV, plainVs, sumV] at k ks ⊢
      exact ⟨ks, k, a⟩
    · simp [dpV, dpVs, sumV]
      omega
mutual
theorem St.plain {ns : List PySem.Str} (hm : ∀ n ∈ ns, Nm n) : ∀ {d : Nat} (s : St), s.wf ns d → plainV s.v = true ∧ dpV s.v ≤ 4 + 2 * d
  | d, .smp v, w => by
    unfold St.wf at w
    have := smp_plain w hm
    exact ⟨this.1, by unfold St.v; omega⟩
  | d, .eit a b, w => by
    unfold St.wf at w
    have k : plainV (.str "either") = true := by decide +kernel
    have ha := Bk.plain hm a w.2.1
    have hb := Bk.plain hm b w.2.2.1
    refine ⟨?_, ?_⟩
    · simp [St.v, plainV, plainVs] at k ⊢
      exact ⟨k, ha.1, hb.1⟩
    · simp [St.v, dpV, dpVs]
      omega
  | d, .lop a, w => by
    unfold St.wf at w
    have k : plainV (.str "loop") = true := by decide +kernel
    have ha := Bk.plain hm a w.2.1
    refine ⟨?_, ?_⟩
    · simp [St.v, plainV, plainVs] at k ⊢
      exact ⟨k, ha.1⟩
    · simp [St.v, dpV, dpVs]
      omega
theorem Bk.plain {ns : List PySem.Str} (hm : ∀ n ∈ ns, Nm n) : ∀ {d : Nat} (b : Bk), b.wf ns d → plainVs b.vs = true ∧ dpVs b.vs ≤ 4 + 2 * d
  | d, .nil, w => ⟨by simp [Bk.vs, plainVs], by simp [Bk.vs, dpVs]⟩
  | d, .cons s b, w => by
    unfold Bk.wf at w
    have ha := St.plain hm s w.1
    have hb := Bk.plain hm b w.2
    refine ⟨?_, ?_⟩
    · simp [Bk.vs, plainVs]
      exact ⟨ha.1, hb.1⟩
    · simp [Bk.vs, dpVs]
      omega
end
theorem Smp.short {ns : List PySem.Str} {c : Int} {ts : List (Int × PySem.Str)} (g : GSum ns c ts) (hn : ns.length < 1000) : ts.length < 1000 := by
  have nd : (ts.map (·.2)).Nodup := g.up.imp fun {a b} h e => by
    subst e
    exact absurd h (by simp)
  have sub : ∀ x ∈ ts.map (·.2), x ∈ ns := fun x hx => by
    obtain ⟨p, hp, rfl⟩ := List.mem_map.mp hx
    exact (g.t5 p hp).2.2.2
  have := nodup_len nd sub
  rw [List.length_map] at this
  omega
theorem Smp.len {ns : List PySem.Str} {v : Val} (h : Smp ns v) : ∃ w rest, v = .tup (.str w :: rest) := by
  obtain ⟨w, r, e, _⟩ := smp_word h
  exact ⟨w, r, e⟩
theorem St.head {ns : List PySem.Str} {d : Nat} {s : St} (w : s.wf ns d) : ∃ k rest, s.v = .tup (.str k :: rest) := by
  cases s with
  | smp v => unfold St.wf at w; exact Smp.len w
  | eit a b => exact ⟨_, _, by unfold St.v; rfl⟩
  | lop a => exact ⟨_, _, by unfold St.v; rfl⟩
theorem Bk.mem {ns : List PySem.Str} {d : Nat} {x : Val} : ∀ {b : Bk}, b.wf ns d → x ∈ b.vs → ∃ s : St, x = s.v ∧ s.wf ns d
  | .nil, _, h => by simp [Bk.vs] at h
  | .cons s b, w, h => by
    unfold Bk.wf at w
    unfold Bk.vs at h
    rcases List.mem_cons.mp h with rfl | h
    · exact ⟨s, rfl, w.1⟩
    · exact Bk.mem w.2 h
theorem stmt_ok {ns : List PySem.Str} (hm : ∀ n ∈ ns, Nm n) (hn : ns.length < 1000) {S : Store} : ∀ {m : Nat}, (∀ (d j : Nat) (s : St), 2 * d + 1 ≤ m → d + j ≤ 3 → s.wf ns d → G_is_statement m [s.v, .tup (ns.map .str), .int j] S = some (.ok (.bl true), S)) ∧
    (∀ (d j : Nat) (b : Bk), 2 * d + 2 ≤ m → d + j ≤ 3 → b.len ≤ 1000 → b.wf ns d → G_is_block m [.tup b.vs, .tup (ns.map .str), .int j] S = some (.ok (.bl true), S)) := by
  intro m
  induction m with
  | zero => exact ⟨fun d j s h => by omega, fun d j b h => by omega⟩
  | succ m ih =>
    refine ⟨fun d j s h hj w => ?_, fun d j b h hj hb w => ?_⟩
    · rw [G_is_statement_succ, dDef_3]
      unfold b_is_statement
      have eq0 : eqF S s.v (.tup []) = some (.bl false) := by
        have pl := St.plain hm s w
        obtain ⟨k, rest, es⟩ := St.head w
        rw [es] at pl ⊢
        exact eqF_tup_nil (by unfold plainV at pl; exact pl.1) (by have := pl.2; unfold dpV at this; omega)
      cases s with
      | smp v =>
        unfold St.wf at w
        unfold St.v at eq0 ⊢
        rcases w with ⟨n, hn2, rfl⟩ | ⟨n, hn2, c, ts, rfl, g⟩
        · simp [eq0, is_variable_ok (hm n hn2) hn2]
        · simp [eq0, is_variable_ok (hm n hn2) hn2, is_sum_ok g hm (Smp.short g hn)]
      | eit a b =>
        unfold St.wf at w
        unfold St.v at eq0 ⊢
        have e1 := ih.2 (d - 1) (j + 1) a (by omega) (by omega) (by omega) w.2.1
        have e2 := ih.2 (d - 1) (j + 1) b (by omega) (by omega) (by omega) w.2.2.1
        have hj3 : ¬ 3 ≤ (j : Int) := by omega
        simp at e1 e2
        simp [eq0, e1, e2, hj3]
      | lop a =>
        unfold St.wf at w
        unfold St.v at eq0 ⊢
        have e1 := ih.2 (d - 1) (j + 1) a (by omega) (by omega) (by omega) w.2.1
        have hj3 : (j : Int) < 3 := by omega
        simp at e1
        simp [eq0, e1, hj3]
    · rw [G_is_block_succ, dDef_3]
      unfold b_is_block
      have e1 : lcL (fun _ => True) (gN 3) dYes (dCall (G_is_statement m) [] (dCons (dVar 3) (dCons (dVar 1) (dCons (dVar 2) dNil)))) [some (.tup b.vs), some (.tup (ns.map .str)), some (.int j), none] b.vs S = some (List.replicate b.vs.length (.bl true), S) := lcL_true trivial fun x hx => by
        obtain ⟨s, rfl, ws⟩ := Bk.mem w hx
        exact ⟨_, rfl, by simp [ih.1 d j s (by omega) hj ws]⟩
      have e2 : ∀ x, lcE (some (List.replicate b.vs.length x, S)) = _ := fun x => lcE_rep (by rw [Bk.len_vs]; omega)
      simp [e1, e2]
end K08
set_option Elab.async false
set_option linter.all false
set_option maxRecDepth 100000
set_option maxHeartbeats 4000000
/-! k08, plain mathematics 10: all statements of a block, and how many. -/
namespace K08
open PySem DL
mutual
def St.flat : St → List Val
  | .smp v => [v]
  | .eit a b => (St.eit a b).v :: (a.flat ++ b.flat)
  | .lop a => (St.lop a).v :: a.flat
def Bk.flat : Bk → List Val
  | .nil => []
  | .cons s b => s.flat ++ b.flat
end
theorem pow_pos5 (d : Nat) : 1 ≤ 5 ^ d := Nat.pos_of_ne_zero (by simp)
def St.kids : St → List Val
  | .smp _ => []
  | .eit a b => [.tup a.vs, .tup b.vs]
  | .lop a => [.tup a.vs]
mutual
theorem St.flat_ok {ns : List PySem.Str} {n : Nat} : ∀ {d : Nat} (s : St), s.wf ns d → s.flat.length ≤ 5 ^ d ∧ closedL n s.flat = true
  | d, .smp v, w => by
    unfold St.wf at w
    exact ⟨by simp [St.flat]; exact pow_pos5 d, by simp [St.flat, closedL, closed_smp w]⟩
  | d, .eit a b, w => by
    have c := St.closed (n := n) w
    unfold St.wf at w
    obtain ⟨a1, a2⟩ := Bk.flat_ok (n := n) a w.2.1
    obtain ⟨b1, b2⟩ := Bk.flat_ok (n := n) b w.2.2.1
    have hd : 5 ^ d = 5 * 5 ^ (d - 1) := by rw [← Nat.pow_succ']; congr 1; omega
    have hp := pow_pos5 (d - 1)
    have m1 : a.len * 5 ^ (d - 1) ≤ 2 * 5 ^ (d - 1) := Nat.mul_le_mul_right _ w.2.2.2.1
    have m2 : b.len * 5 ^ (d - 1) ≤ 2 * 5 ^ (d - 1) := Nat.mul_le_mul_right _ w.2.2.2.2
    refine ⟨?_, ?_⟩
    · simp [St.flat]; omega
    · unfold St.flat closedL
      rw [c, Bool.true_and]
      exact closedL_iff.mpr fun x hx => by
        rcases List.mem_append.mp hx with h | h
        · exact closedL_iff.mp a2 x h
        · exact closedL_iff.mp b2 x h
  | d, .lop a, w => by
    have c := St.closed (n := n) w
    unfold St.wf at w
    obtain ⟨a1, a2⟩ := Bk.flat_ok (n := n) a w.2.1
    have hd : 5 ^ d = 5 * 5 ^ (d - 1) := by rw [← Nat.pow_succ']; congr 1; omega
    have hp := pow_pos5 (d - 1)
    have m1 : a.len * 5 ^ (d - 1) ≤ 2 * 5 ^ (d - 1) := Nat.mul_le_mul_right _ w.2.2
    refine ⟨?_, ?_⟩
    · simp [St.flat]; omega
    · unfold St.flat closedL
      rw [c, a2]; rfl
theorem Bk.flat_ok {ns : List PySem.Str} {n : Nat} : ∀ {d : Nat} (b : Bk), b.wf ns d → b.flat.length ≤ b.len * 5 ^ d ∧ closedL n b.flat = true
  | d, .nil, w => ⟨by simp [Bk.flat], by simp [Bk.flat, closedL]⟩
  | d, .cons s b, w => by
    unfold Bk.wf at w
    obtain ⟨a1, a2⟩ := St.flat_ok (n := n) s w.1
    obtain ⟨b1, b2⟩ := Bk.flat_ok (n := n) b w.2
    refine ⟨?_, ?_⟩
    · simp only [Bk.flat, Bk.len, List.length_append, Nat.succ_mul]; omega
    · unfold Bk.flat
      exact closedL_iff.mpr fun x hx => by
        rcases List.mem_append.mp hx with h | h
        · exact closedL_iff.mp a2 x h
        · exact closedL_iff.mp b2 x h
end
theorem kids_ok {S : Store} {ns : List PySem.Str} {d : Nat} {s : St} (w : s.wf ns d) : F_blocks_of [s.v] S = some (.ok (.vl s.kids), S) := by
  unfold F_blocks_of
  rw [dDef_1]
  unfold b_blocks_of
  cases s with
  | smp v =>
    unfold St.wf at w
    unfold St.v
    rcases w with ⟨n, hn2, rfl⟩ | ⟨n, hn2, c, ts, rfl, g⟩
    · simp [St.kids]
    · simp [St.kids]
  | eit a b => simp [St.v, St.kids]
  | lop a => simp [St.v, St.kids]
theorem flat_run {ns : List PySem.Str} : ∀ {n d : Nat} {b : Bk} {S : Store}, d < n → d ≤ 3 → b.len ≤ 1000 → b.wf ns d → G_statements_in n [.tup b.vs] S = some (.ok (.vl b.flat), S) := by
  intro n
  induction n with
  | zero => intro d b S h; omega
  | succ n ih =>
    intro d b S h h3 hl w
    have h5 : ∀ e, e ≤ 3 → 5 ^ e ≤ 125 := fun e he => Nat.le_trans (Nat.pow_le_pow_right (by decide) he) (by decide)
    have small : ∀ (e : Nat) (c : Bk), e ≤ 3 → c.len ≤ 1000 → c.wf ns e → c.flat.length ≤ 125000 := fun e c he hc wc =>
      Nat.le_trans (Bk.flat_ok (n := 0) c wc).1 (Nat.le_trans (Nat.mul_le_mul hc (h5 e he)) (by decide))
    have hb := small d b h3 hl w
    rw [G_statements_in_succ, cutF_eq, dDef_1]
    unfold b_statements_in
    generalize hB : Val.tup b.vs = B
    have inner : ∀ (done : List Val) (s o : Val) (a : Bk) (e : Nat), e < n → e ≤ 3 → a.len ≤ 1000 → a.wf ns e → done.length + a.flat.length ≤ 1000000 → l1_statements_in (G_statements_in n) [some B, some (.obj S.length), some s, some (.tup a.vs)] (S ++ [.lst done]) = some (.nx [some B, some (.obj S.length), some s, some (.tup a.vs)], S ++ [.lst (done ++ a.flat)]) := by
      intro done s o a e he he3 hal wa hlen
      simp [l1_statements_in, ih (S := S ++ [.lst done]) he he3 hal wa, get_last, extE2_lst hlen, set_last]
    have loop := forL_inv (chk := fun _ => True) (g := gN 2) (b := l2_statements_in (G_statements_in n))
      (fun xs ρ W => ∃ (c : Bk) (done : List Val) (o1 o2 : Option Val), xs = c.vs ∧ c.wf ns d ∧ done ++ c.flat = b.flat ∧ W = S ++ [.lst done] ∧ ρ = [some B, some (.obj S.length), o1, o2])
      (fun _ _ _ _ => trivial) (by
        rintro x xs ρ W ⟨c, done, o1, o2, ex, wc, hk, rfl, rfl⟩
        cases c with
        | nil => simp [Bk.vs] at ex
        | cons s c =>
          unfold Bk.vs at ex
          obtain ⟨rfl, rfl⟩ := List.cons.inj ex
          unfold Bk.wf at wc
          have hlen := congrArg List.length hk
          simp only [Bk.flat, List.length_append] at hk hlen
          have kk := kids_ok (S := S ++ [.lst (done ++ [s.v])]) wc.1
          cases s with
          | smp v =>
            refine ⟨[some B, some (.obj S.length), some (St.smp v).v, o2], [some B, some (.obj S.length), some (St.smp v).v, o2], S ++ [.lst (done ++ [v])], rfl, ?_, c, done ++ [v], _, _, rfl, wc.2, by rw [← hk]; simp [St.flat], rfl, rfl⟩
            have hd : done.length < 1000000 := by simp [St.flat] at hlen; omega
            simp only [St.v, St.kids] at kk
            simp [l2_statements_in, get_last, appE2_lst hd, set_last, kk, St.v]
            exact forL_nil trivial
          | eit a b2 =>
            have ws := wc.1
            unfold St.wf at ws
            simp only [St.flat, List.length_cons, List.length_append] at hlen
            have hd : done.length < 1000000 := by omega
            have i1 := inner (done ++ [(St.eit a b2).v]) (St.eit a b2).v .non a (d - 1) (by omega) (by omega) (by omega) ws.2.1 (by simp; omega)
            have i2 := inner (done ++ [(St.eit a b2).v] ++ a.flat) (St.eit a b2).v .non b2 (d - 1) (by omega) (by omega) (by omega) ws.2.2.1 (by simp; omega)
            refine ⟨[some B, some (.obj S.length), some (St.eit a b2).v, o2], [some B, some (.obj S.length), some (St.eit a b2).v, some (.tup b2.vs)], S ++ [.lst (done ++ [(St.eit a b2).v] ++ a.flat ++ b2.flat)], rfl, ?_, c, done ++ [(St.eit a b2).v] ++ a.flat ++ b2.flat, _, _, rfl, wc.2, by rw [← hk]; simp [St.flat], rfl, rfl⟩
            have fl : forL (fun _ => True) (gN 3) (l1_statements_in (G_statements_in n)) [.tup a.vs, .tup b2.vs] [some B, some (.obj S.length), some (St.eit a b2).v, o2] (S ++ [.lst (done ++ [(St.eit a b2).v])]) = some (.nx [some B, some (.obj S.length), some (St.eit a b2).v, some (.tup b2.vs)], S ++ [.lst (done ++ [(St.eit a b2).v] ++ a.flat ++ b2.flat)]) := by
              rw [forL_cons trivial rfl i1, forL_cons trivial rfl i2]
              exact forL_nil trivial
            simp only [St.kids] at kk
            generalize (St.eit a b2).v = V at kk fl ⊢
            simp [l2_statements_in, get_last, appE2_lst hd, set_last, kk]
            simpa using fl
          | lop a =>
            have ws := wc.1
            unfold St.wf at ws
            simp only [St.flat, List.length_cons] at hlen
            have hd : done.length < 1000000 := by omega
            have i1 := inner (done ++ [(St.lop a).v]) (St.lop a).v .non a (d - 1) (by omega) (by omega) (by omega) ws.2.1 (by simp; omega)
            refine ⟨[some B, some (.obj S.length), some (St.lop a).v, o2], [some B, some (.obj S.length), some (St.lop a).v, some (.tup a.vs)], S ++ [.lst (done ++ [(St.lop a).v] ++ a.flat)], rfl, ?_, c, done ++ [(St.lop a).v] ++ a.flat, _, _, rfl, wc.2, by rw [← hk]; simp [St.flat], rfl, rfl⟩
            have fl : forL (fun _ => True) (gN 3) (l1_statements_in (G_statements_in n)) [.tup a.vs] [some B, some (.obj S.length), some (St.lop a).v, o2] (S ++ [.lst (done ++ [(St.lop a).v])]) = some (.nx [some B, some (.obj S.length), some (St.lop a).v, some (.tup a.vs)], S ++ [.lst (done ++ [(St.lop a).v] ++ a.flat)]) := by
              rw [forL_cons trivial rfl i1]
              exact forL_nil trivial
            simp only [St.kids] at kk
            generalize (St.lop a).v = V at kk fl ⊢
            simp [l2_statements_in, get_last, appE2_lst hd, set_last, kk]
            simpa using fl)
      b.vs [some B, some (.obj S.length), none, none] (S ++ [.lst []]) ⟨b, [], none, none, rfl, w, by simp, rfl, rfl⟩
    obtain ⟨ρ', W', e, c, done, o1, o2, ex, wc, hk, rfl, rfl⟩ := loop
    have hz : c = .nil := by
      cases c with
      | nil => rfl
      | cons _ _ => simp [Bk.vs] at ex
    subst hz
    subst hB
    simp [Bk.flat] at hk
    simp [e, hk]
    exact cut_new (Bk.flat_ok b w).2
end K08
set_option Elab.async false
set_option linter.all false
set_option maxRecDepth 100000
set_option maxHeartbeats 4000000
/-! k08, plain mathematics 11: sizes, owners, parts are in order. -/
namespace K08
open PySem DL
def pw (p : PySem.Str → Bool) (v : Val) : Bool := p (word v)
mutual
theorem St.cnt_flat {ns : List PySem.Str} (p : PySem.Str → Bool) : ∀ {d : Nat} (s : St), s.wf ns d → s.cnt p = (s.flat.filter (pw p)).length ∧ ∀ x ∈ s.flat, ∃ w r, x = .tup (.str w :: r)
  | d, .smp v, w => by
    unfold St.wf at w
    obtain ⟨k, r, rfl, _, _⟩ := smp_word w
    refine ⟨?_, ?_⟩
    · unfold St.cnt St.flat
      cases h : p (word (.tup (.str k :: r))) <;> simp [pw, h]
    · intro x hx
      simp only [St.flat, List.mem_singleton] at hx
      exact ⟨k, r, hx⟩
  | d, .eit a b, w => by
    unfold St.wf at w
    obtain ⟨a1, a2⟩ := Bk.cnt_flat p a w.2.1
    obtain ⟨b1, b2⟩ := Bk.cnt_flat p b w.2.2.1
    refine ⟨?_, ?_⟩
    · simp only [St.cnt, St.flat, List.filter_cons, List.filter_append, a1, b1]
      have e : pw p (St.eit a b).v = p "either" := by simp [pw, St.v, word]
      rw [e]
      cases h : p "either" <;> simp [h] <;> omega
    · intro x hx
      simp only [St.flat, List.mem_cons, List.mem_append] at hx
      rcases hx with rfl | hx | hx
      · exact ⟨_, _, by unfold St.v; rfl⟩
      · exact a2 x hx
      · exact b2 x hx
  | d, .lop a, w => by
    unfold St.wf at w
    obtain ⟨a1, a2⟩ := Bk.cnt_flat p a w.2.1
    refine ⟨?_, ?_⟩
    · simp only [St.cnt, St.flat, List.filter_cons, a1]
      have e : pw p (St.lop a).v = p "loop" := by simp [pw, St.v, word]
      rw [e]
      cases h : p "loop" <;> simp [h] <;> omega
    · intro x hx
      simp only [St.flat, List.mem_cons] at hx
      rcases hx with rfl | hx
      · exact ⟨_, _, by unfold St.v; rfl⟩
      · exact a2 x hx
theorem Bk.cnt_flat {ns : List PySem.Str} (p : PySem.Str → Bool) : ∀ {d : Nat} (b : Bk), b.wf ns d → b.cnt p = (b.flat.filter (pw p)).length ∧ ∀ x ∈ b.flat, ∃ w r, x = .tup (.str w :: r)
  | d, .nil, w => ⟨by simp [Bk.cnt, Bk.flat], by simp [Bk.flat]⟩
  | d, .cons s b, w => by
    unfold Bk.wf at w
    obtain ⟨a1, a2⟩ := St.cnt_flat p s w.1
    obtain ⟨b1, b2⟩ := Bk.cnt_flat p b w.2
    refine ⟨?_, ?_⟩
    · simp only [Bk.cnt, Bk.flat, List.filter_append, List.length_append, a1, b1]
    · intro x hx
      simp only [Bk.flat, List.mem_append] at hx
      exact hx.elim (a2 x) (b2 x)
end
theorem flat_small {ns : List PySem.Str} {d : Nat} {b : Bk} (hd : d ≤ 3) (hl : b.len ≤ 1000) (w : b.wf ns d) : b.flat.length ≤ 125000 :=
  Nat.le_trans (Bk.flat_ok (n := 0) b w).1 (Nat.le_trans (Nat.mul_le_mul hl (Nat.le_trans (Nat.pow_le_pow_right (by decide) hd) (by decide : 5 ^ 3 ≤ 125))) (by decide))
def pS (ws : List PySem.Str) (v : Val) : Bool := match v with
  | .str w => inP ws w
  | _ => false
theorem size_ok {S : Store} {ns : List PySem.Str} {d : Nat} {b : Bk} {lo hi : Nat} (hd : d ≤ 3) (hl : b.len ≤ 1000) (w : b.wf ns d) (h1 : b.cnt (inP ["set", "input"]) ≤ lo) (h2 : b.cnt (inP ["either", "loop"]) ≤ hi) : F_has_size [.tup b.vs, .tup [.int lo, .int hi]] S = some (.ok (.bl true), S) := by
  have sm := flat_small hd hl w
  have e0 := flat_run (n := 30) (S := S) (by omega) hd hl w
  rw [(Bk.cnt_flat _ b w).1] at h1 h2
  have hw := (Bk.cnt_flat (inP []) b w).2
  generalize b.flat = fl at sm e0 h1 h2 hw
  generalize hB : Val.tup b.vs = B at e0
  have e1 : ∀ r : Slots, lcL (fun _ => True) (gN 5) dYes (dOp2 ixF (dVar 5) (dC (.int 0))) (some B :: some (.tup [.int lo, .int hi]) :: none :: none :: none :: none :: r) fl S = some (fl.map fun x => .str (word x), S) := fun r => lcL_map trivial (fun x => .str (word x)) fl fun x hx => by
    obtain ⟨k, q, rfl⟩ := hw x hx
    exact ⟨_, rfl, rfl, by simp [word]⟩
  have e2 : ∀ (o3 : Option Val) (r : Slots) (ws : PySem.Str × PySem.Str), lcL (fun _ => True) (gN 6) (dTv (dOp2 inF (dVar 6) (dTup (dCons (dC (.str ws.1)) (dCons (dC (.str ws.2)) dNil))))) (dVar 6) (some B :: some (.tup [.int lo, .int hi]) :: some (.vl (fl.map fun x => .str (word x))) :: o3 :: none :: none :: none :: r) (fl.map fun x => .str (word x)) S = some ((fl.filter (pw (inP [ws.1, ws.2]))).map fun x => .str (word x), S) := fun o3 r ws => by
    have := lcL_filter (chk := fun _ => True) (g := gN 6) (tt := dTv (dOp2 inF (dVar 6) (dTup (dCons (dC (.str ws.1)) (dCons (dC (.str ws.2)) dNil))))) (d := dVar 6) (ρ := some B :: some (.tup [.int lo, .int hi]) :: some (.vl (fl.map fun x => .str (word x))) :: o3 :: none :: none :: none :: r) (S := S) trivial (pS [ws.1, ws.2]) id (fl.map fun x => .str (word x)) (fun x hx => by
      obtain ⟨v, hv, rfl⟩ := List.mem_map.mp hx
      exact ⟨_, rfl, by simp [pS, inP], fun _ => rfl⟩)
    rw [this, List.filter_map]
    simp only [List.map_map]
    rfl
  have e3 : ∀ f : Val → Val, lcE (some (fl.map f, S)) = some (.ok (.vl (fl.map f)), S) := fun f => lcE_of (by rw [List.length_map]; omega)
  have e4 : ∀ (p : Val → Bool) (f : Val → Val), lcE (some ((fl.filter p).map f, S)) = some (.ok (.vl ((fl.filter p).map f)), S) := fun p f => lcE_of (by rw [List.length_map]; have := List.length_filter_le p fl; omega)
  have e5 := e2 none [] ("set", "input")
  have e6 := fun o => e2 (some (.int o)) [] ("either", "loop")
  simp only at e5 e6
  unfold F_has_size
  rw [dDef_2]
  unfold b_has_size
  simp [e0, e1, e3, e5, e6, e4, h1, h2]
end K08
set_option Elab.async false
set_option linter.all false
set_option maxRecDepth 100000
set_option maxHeartbeats 4000000
/-! k08, plain mathematics 12: the parts are in order. -/
namespace K08
open PySem DL
def Own (own : List PySem.Str) : Prop := own = [] ∨ own = (["u"] : List PySem.Str) ∨ own = (["t"] : List PySem.Str)
theorem nm_of {sh own : List PySem.Str} (h : Shared sh) (o : Own own) : ∀ n ∈ sh ++ own, Nm n := by
  intro n hn
  rcases h with rfl | rfl <;> rcases o with rfl | rfl | rfl <;> simp at hn
  all_goals (unfold Nm; rcases hn with rfl | hn <;> first | simp | (rcases hn with rfl | hn <;> first | simp | (simp [hn])) | (simp [hn]))
theorem owner_ok {S : Store} {sh own told : List PySem.Str} {b : Bk} {lo hi : Nat} (h : Shared sh) (o : Own own) (ht : ∀ S : Store, F_is_told [.tup (told.map .str), .tup (own.map .str)] S = some (.ok (.bl true), S)) (w : b.wf (sh ++ own) 2) (hl : b.len ≤ 6)
    (h1 : b.cnt (inP ["set", "input"]) ≤ lo) (h2 : b.cnt (inP ["either", "loop"]) ≤ hi) : F_is_owner [.tup (own.map .str), .tup (told.map .str), .tup b.vs, .tup (sh.map .str), .tup [.int lo, .int hi]] S = some (.ok (.bl true), S) := by
  obtain ⟨hn, h0, hlen, ea⟩ := names_nodup h o
  have nm := nm_of h o
  have l2 : (sh ++ own).length ≤ 3 ∧ 1 ≤ (sh ++ own).length ∧ own.length ≤ 1 ∧ own.Nodup := by
    rcases h with rfl | rfl <;> rcases o with rfl | rfl | rfl <;> decide
  have e1 : F_are_names [.tup (own.map .str), .int 0, .int 2] S = _ := are_names_ok (fun n hn => nm n (List.mem_append_right _ hn)) l2.2.2.2 (by omega) (by omega) (by omega)
  have e2 : F_are_names [.tup ((sh ++ own).map .str), .int 1, .int 4] S = _ := are_names_ok nm hn (by omega) (by omega) (by omega)
  have e3 : G_is_block 30 [.tup b.vs, .tup ((sh ++ own).map .str), .int 0] S = _ := (stmt_ok (S := S) nm hlen (m := 30)).2 2 0 b (by decide) (by decide) (by omega) w
  have e4 := size_ok (S := S) (by decide) (by omega) w h1 h2
  simp only [List.map_append] at ea e2 e3
  unfold F_is_owner
  rw [dDef_5]
  unfold b_is_owner
  simp [e1, e2, e3, e4, ea, ht]
theorem main_ok {S : Store} {p : Pt} (h : p.Ok) : F_is_main [p.main, .tup (p.sh.map .str)] S = some (.ok (.bl true), S) := by
  have e : F_is_owner [.tup (p.own.map .str), .tup (p.told.map .str), .tup p.b.vs, .tup (p.sh.map .str), .tup [.int 16, .int 4]] S = _ := owner_ok (lo := 16) (hi := 4) h.sh (by unfold Own; rcases h.own with e | e <;> simp [e]) (fun S => by
    rcases h.told with e | e
    · rw [e]; exact is_told_nil
    · rcases h.own with e2 | e2
      · rw [e, e2]; exact is_told_nil (ns := [])
      · rw [e, e2]; exact is_told_t) h.wf h.len (Nat.le_trans h.c2 (by decide)) (Nat.le_trans h.c1 (by decide))
  unfold F_is_main
  rw [dDef_2]
  unfold b_is_main
  simp [Pt.main, e]
theorem hand_ok {S : Store} {g : Hn} {sh : List PySem.Str} (h : g.Ok sh) (hs : Shared sh) : F_is_handler [g.v, .tup (sh.map .str)] S = some (.ok (.bl true), S) := by
  have e : F_is_owner [.tup (g.own.map .str), .tup [], .tup g.b.vs, .tup (sh.map .str), .tup [.int 8, .int 3]] S = _ := owner_ok (told := []) (lo := 8) (hi := 3) hs (by unfold Own; rcases h.own with e | e <;> simp [e]) (fun S => is_told_nil) h.wf h.len (Nat.le_trans h.c2 (by decide)) (Nat.le_trans h.c1 (by decide))
  have e1 := is_name_ok (S := S) (nm := g.nm) (by unfold Nm; rcases h.nm with e | e <;> simp [e])
  have e2 := is_between_ok (S := S) h.rank.1 h.rank.2
  have e3 : F_is_between [.int 9, .int 0, .int 500] S = _ := is_between_ok (by decide) (by decide)
  have e4 : F_is_between [.int 4, .int 0, .int 500] S = _ := is_between_ok (by decide) (by decide)
  have hw := h.wish
  unfold F_is_handler
  rw [dDef_2]
  unfold b_is_handler
  rcases h.wait with q | q | q <;> simp [Hn.v, e, e1, e2, e3, e4, hw, q]
theorem check_ok {S : Store} {p : Pt} (h : p.Ok) : F_check_parts [.tup (p.sh.map .str), p.main, .tup p.hv] S = some (.ok .non, S) := by
  have l2 : p.sh.length ≤ 3 ∧ 1 ≤ p.sh.length ∧ p.sh.Nodup := by
    rcases h.sh with e | e <;> rw [e] <;> decide
  have e1 : F_are_names [.tup (p.sh.map .str), .int 1, .int 3] S = _ := are_names_ok (fun n hn => nm_of h.sh (own := []) (.inl rfl) n (by simpa using hn)) l2.2.2 (by omega) (by omega) (by omega)
  have e2 := main_ok (S := S) h
  have hlen : 1 ≤ p.hs.length ∧ p.hs.length ≤ 2 := by
    have q : (p.hs.map Hn.nm).length = p.hs.length := List.length_map ..
    rcases h.nms with e | e <;> rw [e] at q <;> simp at q <;> omega
  have nd : (p.hs.map Hn.nm).Nodup := by rcases h.nms with e | e <;> rw [e] <;> decide
  have el : p.hv.length = p.hs.length := by unfold Pt.hv; rw [List.length_map]
  have hh : ∀ x ∈ p.hv, ∃ g ∈ p.hs, x = g.v := fun x hx => by
    obtain ⟨g, hg, rfl⟩ := List.mem_map.mp hx
    exact ⟨g, hg, rfl⟩
  have loop := forL_inv (chk := fun _ => True) (g := gT 2 (gCons' (gN 3) (gCons' (gN 4) gNil'))) (b := l1_check_parts)
    (fun xs ρ W => W = S ∧ (∀ x ∈ xs, ∃ (i : Nat) (g : Hn), x = .tup [.int i, g.v] ∧ g ∈ p.hs) ∧ ∃ o1 o2 : Option Val, ρ = [some (.tup (p.sh.map .str)), some p.main, some (.tup p.hv), o1, o2])
    (fun _ _ _ _ => trivial) (by
      rintro x xs ρ W ⟨rfl, hx, o1, o2, rfl⟩
      obtain ⟨i, g, rfl, hg⟩ := hx x (List.mem_cons_self ..)
      refine ⟨[some (.tup (p.sh.map .str)), some p.main, some (.tup p.hv), some (.int i), some g.v], [some (.tup (p.sh.map .str)), some p.main, some (.tup p.hv), some (.int i), some g.v], W, by simp, ?_, rfl, fun y hy => hx y (List.mem_cons_of_mem _ hy), _, _, rfl⟩
      simp [l1_check_parts, hand_ok (S := W) (h.hs g hg) h.sh])
    (enumV p.hv) [some (.tup (p.sh.map .str)), some p.main, some (.tup p.hv), none, none] S ⟨rfl, fun x hx => by
      obtain ⟨k, hk⟩ := List.getElem?_of_mem hx
      obtain ⟨y, hy, rfl⟩ := enumV_get hk
      obtain ⟨g, hg, rfl⟩ := hh y (List.mem_of_getElem? hy)
      exact ⟨k, g, rfl, hg⟩, none, none, rfl⟩
  obtain ⟨ρ', W', e3, rfl, _, o1, o2, rfl⟩ := loop
  have e4 : lcL (fun _ => True) (gN 4) dYes (dOp2 ixF (dVar 4) (dC (.int 0))) [some (.tup (p.sh.map .str)), some p.main, some (.tup p.hv), o1, none] p.hv W' = some ((p.hs.map Hn.nm).map .str, W') := by
    have := lcL_map (chk := fun _ => True) (g := gN 4) (tt := dYes) (d := dOp2 ixF (dVar 4) (dC (.int 0))) (ρ := [some (.tup (p.sh.map .str)), some p.main, some (.tup p.hv), o1, none]) (S := W') trivial (fun v => match v with | .tup (n :: _) => n | _ => .non) p.hv (fun x hx => by
      obtain ⟨g, hg, rfl⟩ := hh x hx
      exact ⟨_, rfl, rfl, by simp [Hn.v]⟩)
    rw [this]
    unfold Pt.hv
    rw [List.map_map, List.map_map]
    rfl
  have e5 : lsE (lcL (fun _ => True) (gN 4) dYes (dOp2 ixF (dVar 4) (dC (.int 0))) [some (.tup (p.sh.map .str)), some p.main, some (.tup p.hv), o1, none] p.hv W') = some (.ok (.int p.hs.length), W') := by
    rw [e4, lsE_strs nd (by rw [List.length_map]; omega), List.length_map]
  unfold F_check_parts
  rw [dDef_3]
  unfold b_check_parts
  have c1 : (1 : Int) ≤ p.hs.length := by omega
  have c2 : (p.hs.length : Int) ≤ 3 := by omega
  simp [e1, e2, e3, e5, c1, c2, el]
end K08
set_option Elab.async false
set_option linter.all false
set_option maxRecDepth 100000
set_option maxHeartbeats 4000000
/-! k08, plain mathematics 13: how a block is laid out. -/
namespace K08
open PySem DL
mutual
def St.sz : St → Nat
  | .smp _ => 1
  | .eit a b => 3 + a.sz + b.sz
  | .lop a => 3 + a.sz
def Bk.sz : Bk → Nat
  | .nil => 0
  | .cons s b => s.sz + b.sz
end
mutual
theorem St.sz_le : ∀ s : St, s.sz ≤ 3 * s.flat.length
  | .smp v => by simp [St.sz, St.flat]
  | .eit a b => by
    have := Bk.sz_le a
    have := Bk.sz_le b
    simp [St.sz, St.flat]; omega
  | .lop a => by
    have := Bk.sz_le a
    simp [St.sz, St.flat]; omega
theorem Bk.sz_le : ∀ b : Bk, b.sz ≤ 3 * b.flat.length
  | .nil => by simp [Bk.sz]
  | .cons s b => by
    have := St.sz_le s
    have := Bk.sz_le b
    simp [Bk.sz, Bk.flat]; omega
end
abbrev Rw := List (List Nat)
mutual
/-- a statement laid out behind `last`: the place behind it, the rows -/
def St.lay : St → Nat → Rw → Nat × Rw
  | .smp _, last, R => (R.length, (R ++ [[]]).set last [R.length])
  | .eit a b, last, R =>
    let p := a.lay R.length (R ++ [[]])
    let q := b.lay p.2.length (p.2 ++ [[]])
    (q.2.length, (((q.2 ++ [[]]).set last [R.length, p.2.length]).set p.1 [q.2.length]).set q.1 [q.2.length])
  | .lop a, last, R =>
    let p := a.lay (R.length + 1) (R ++ [[]] ++ [[]])
    (p.2.length, (((p.2 ++ [[]]).set last [R.length]).set R.length [R.length + 1, p.2.length]).set p.1 [R.length])
def Bk.lay : Bk → Nat → Rw → Nat × Rw
  | .nil, last, R => (last, R)
  | .cons s b, last, R => b.lay (s.lay last R).1 (s.lay last R).2
end
/-- what laying out does to the rows -/
structure Laid (last : Nat) (R : Rw) (n : Nat) (p : Nat × Rw) : Prop where
  len : p.2.length = R.length + n
  here : p.1 < p.2.length
  free : p.2[p.1]? = some []
  new : p.1 = last ∨ R.length ≤ p.1
  old : ∀ j, j < R.length → j ≠ last → p.2[j]? = R[j]?
mutual
theorem St.laid : ∀ (s : St) {last : Nat} {R : Rw}, last < R.length → R[last]? = some [] → Laid last R s.sz (s.lay last R)
  | .smp v, last, R, h, f => by
    unfold St.lay St.sz
    refine ⟨by simp, by simp, ?_, .inr (Nat.le_refl _), fun j hj hn => ?_⟩
    · simp only
      rw [List.getElem?_set_ne (by omega)]
      simp
    · simp only
      rw [List.getElem?_set_ne (by omega), List.getElem?_append_left hj]
  | .eit a b, last, R, h, f => by
    have A := Bk.laid a (last := R.length) (R := R ++ [[]]) (by simp) (by simp)
    unfold St.lay St.sz
    generalize a.lay R.length (R ++ [[]]) = p at A ⊢
    have B := Bk.laid b (last := p.2.length) (R := p.2 ++ [[]]) (by simp) (by simp)
    simp only
    generalize b.lay p.2.length (p.2 ++ [[]]) = q at B ⊢
    have al := A.len
    have bl := B.len
    have an := A.new
    have bn := B.new
    have ah := A.here
    have bh := B.here
    simp only [List.length_append, List.length_cons, List.length_nil] at al bl an bn
    refine ⟨by simp; omega, by simp, ?_, .inr (by simp only; omega), fun j hj hn => ?_⟩
    · simp only
      rw [List.getElem?_set_ne (by omega), List.getElem?_set_ne (by omega), List.getElem?_set_ne (by omega)]
      simp
    · simp only
      rw [List.getElem?_set_ne (by omega), List.getElem?_set_ne (by omega), List.getElem?_set_ne (by omega), List.getElem?_append_left (by omega), B.old j (by simp; omega) (by omega), List.getElem?_append_left (by omega), A.old j (by simp; omega) (by omega), List.getElem?_append_left hj]
  | .lop a, last, R, h, f => by
    have A := Bk.laid a (last := R.length + 1) (R := R ++ [[]] ++ [[]]) (by simp) (by simp)
    unfold St.lay St.sz
    generalize a.lay (R.length + 1) (R ++ [[]] ++ [[]]) = p at A ⊢
    have al := A.len
    have an := A.new
    have ah := A.here
    simp only [List.length_append, List.length_cons, List.length_nil] at al an
    refine ⟨by simp; omega, by simp, ?_, .inr (by simp only; omega), fun j hj hn => ?_⟩
    · simp only
      rw [List.getElem?_set_ne (by omega), List.getElem?_set_ne (by omega), List.getElem?_set_ne (by omega)]
      simp
    · simp only
      rw [List.getElem?_set_ne (by omega), List.getElem?_set_ne (by omega), List.getElem?_set_ne (by omega), List.getElem?_append_left (by omega), A.old j (by simp; omega) (by omega), List.append_assoc, List.getElem?_append_left hj]
theorem Bk.laid : ∀ (b : Bk) {last : Nat} {R : Rw}, last < R.length → R[last]? = some [] → Laid last R b.sz (b.lay last R)
  | .nil, last, R, h, f => by
    unfold Bk.lay Bk.sz
    exact ⟨by simp, h, f, .inl rfl, fun _ _ _ => rfl⟩
  | .cons s b, last, R, h, f => by
    have A := St.laid s h f
    unfold Bk.lay Bk.sz
    generalize s.lay last R = p at A ⊢
    have B := Bk.laid b A.here A.free
    generalize b.lay p.1 p.2 = q at B ⊢
    have al := A.len
    have bl := B.len
    have an := A.new
    have bn := B.new
    refine ⟨by omega, B.here, B.free, by omega, fun j hj hn => ?_⟩
    rw [B.old j (by omega) (by omega), A.old j hj hn]
end
end K08
set_option Elab.async false
set_option linter.all false
set_option maxRecDepth 100000
set_option maxHeartbeats 4000000
/-! k08, plain mathematics 14: rows in the store. -/
namespace K08
open PySem DL
def vr (row : List Nat) : List Val := row.map fun (n : Nat) => .int n
/-- at r there is a list of lists -/
def RowsI (n0 : Nat) (S : Store) (r : Nat) (rs : Rw) (ids : List Nat) : Prop :=
  S[r]? = some (.lst (ids.map .obj)) ∧ n0 ≤ r ∧ r ∉ ids ∧ (∀ (j k i : Nat), ids[j]? = some i → ids[k]? = some i → j = k) ∧ (∀ i ∈ ids, n0 ≤ i) ∧ ids.length = rs.length ∧ ∀ (k i : Nat) (row : List Nat), ids[k]? = some i → rs[k]? = some row → S[i]? = some (.lst (vr row))
def Rows (n0 : Nat) (S : Store) (r : Nat) (rs : Rw) : Prop := ∃ ids, RowsI n0 S r rs ids
def Below (n0 : Nat) (S S' : Store) : Prop := S.length ≤ S'.length ∧ ∀ j, j < n0 → S'[j]? = S[j]?
theorem Below.refl {n0 : Nat} {S : Store} : Below n0 S S := ⟨Nat.le_refl _, fun _ _ => rfl⟩
theorem Below.trans {n0 : Nat} {S S1 S2 : Store} (a : Below n0 S S1) (b : Below n0 S1 S2) : Below n0 S S2 := ⟨Nat.le_trans a.1 b.1, fun j h => by rw [b.2 j h, a.2 j h]⟩
theorem Below.set {n0 i : Nat} {S : Store} {o : Ob} (h : n0 ≤ i) : Below n0 S (S.set i o) := ⟨by simp, fun j hj => List.getElem?_set_ne (by omega)⟩
theorem Below.app {n0 : Nat} {S T : Store} (h : n0 ≤ S.length) : Below n0 S (S ++ T) := ⟨by simp, fun j hj => List.getElem?_append_left (by omega)⟩
theorem RowsI.lt {n0 r : Nat} {S : Store} {rs : Rw} {ids : List Nat} (h : RowsI n0 S r rs ids) : r < S.length ∧ n0 ≤ S.length := by
  have := (List.getElem?_eq_some_iff.mp h.1).1
  have := h.2.1
  omega
theorem RowsI.idlt {n0 r : Nat} {S : Store} {rs : Rw} {ids : List Nat} (h : RowsI n0 S r rs ids) : ∀ i ∈ ids, i < S.length := by
  intro i hi
  obtain ⟨k, hk⟩ := List.getElem?_of_mem hi
  have hkl := (List.getElem?_eq_some_iff.mp hk).1
  have l := h.2.2.2.2.2.1
  have e := h.2.2.2.2.2.2 k i rs[k] hk (List.getElem?_eq_getElem (by omega))
  exact (List.getElem?_eq_some_iff.mp e).1
theorem RowsI.push {n0 r : Nat} {S : Store} {rs : Rw} {ids : List Nat} (h : RowsI n0 S r rs ids) : RowsI n0 ((S ++ [Ob.lst []]).set r (Ob.lst (ids.map Val.obj ++ [Val.obj S.length]))) r (rs ++ [[]]) (ids ++ [S.length]) := by
  have lt := h.lt
  have il := h.idlt
  obtain ⟨h1, h2, h3, h4, h5, h6, h7⟩ := h
  refine ⟨?_, h2, ?_, ?_, ?_, by simp [h6], ?_⟩
  · rw [List.getElem?_set_self (by simp; omega)]; simp
  · simp; exact ⟨h3, by omega⟩
  · intro j k i hj hk
    have bj := (List.getElem?_eq_some_iff.mp hj).1
    have bk := (List.getElem?_eq_some_iff.mp hk).1
    simp at bj bk
    by_cases c1 : j < ids.length
    · rw [List.getElem?_append_left c1] at hj
      have := il i (List.mem_of_getElem? hj)
      by_cases c2 : k < ids.length
      · rw [List.getElem?_append_left c2] at hk
        exact h4 j k i hj hk
      · have e : k = ids.length := by omega
        subst e
        simp at hk
        omega
    · have e : j = ids.length := by omega
      subst e
      simp at hj
      by_cases c2 : k < ids.length
      · rw [List.getElem?_append_left c2] at hk
        have := il i (List.mem_of_getElem? hk)
        omega
      · omega
  · intro i hi
    rcases List.mem_append.mp hi with hi | hi
    · exact h5 i hi
    · simp at hi; omega
  · intro k i row hk hr
    by_cases hlt : k < ids.length
    · rw [List.getElem?_append_left hlt] at hk
      rw [List.getElem?_append_left (by omega)] at hr
      have hm := List.mem_of_getElem? hk
      rw [List.getElem?_set_ne (by rintro rfl; exact h3 hm), List.getElem?_append_left (il i hm)]
      exact h7 k i row hk hr
    · have hk' := (List.getElem?_eq_some_iff.mp hk).1
      simp at hk'
      have : k = ids.length := by omega
      subst this
      simp at hk
      rw [h6] at hr
      simp at hr
      subst hk hr
      rw [List.getElem?_set_ne (by omega)]
      simp [vr]
theorem RowsI.app {n0 r k v : Nat} {S : Store} {rs : Rw} {ids : List Nat} {row : List Nat} (h : RowsI n0 S r rs ids) (hr : rs[k]? = some row) : ∃ i, ids[k]? = some i ∧ n0 ≤ i ∧ S[i]? = some (.lst (vr row)) ∧ RowsI n0 (S.set i (Ob.lst (vr row ++ [Val.int v]))) r (rs.set k (row ++ [v])) ids := by
  have lt := h.lt
  have il := h.idlt
  obtain ⟨h1, h2, h3, h4, h5, h6, h7⟩ := h
  have hk := (List.getElem?_eq_some_iff.mp hr).1
  have hk2 : ids[k]? = some ids[k] := List.getElem?_eq_getElem (by omega)
  generalize ids[k] = i at hk2
  have hm := List.mem_of_getElem? hk2
  refine ⟨i, hk2, h5 i hm, h7 k i row hk2 hr, ?_, h2, h3, h4, h5, by simp [h6], ?_⟩
  · rw [List.getElem?_set_ne (by rintro rfl; exact h3 hm)]; exact h1
  · intro j a rw' hj hrj
    by_cases e : j = k
    · subst e
      rw [hk2] at hj
      cases hj
      rw [List.getElem?_set_self (by omega)] at hrj
      cases hrj
      rw [List.getElem?_set_self (il i hm)]
      simp [vr]
    · rw [List.getElem?_set_ne (fun q => e q.symm)] at hrj
      have hne : i ≠ a := by
        intro q
        subst q
        exact e (h4 j k i hj hk2)
      rw [List.getElem?_set_ne hne]
      exact h7 j a rw' hj hrj
theorem RowsI.sub {n0 r k : Nat} {S : Store} {rs : Rw} {ids : List Nat} {row : List Nat} (h : RowsI n0 S r rs ids) (hk : k < rs.length) : RowsI n0 ((S ++ [Ob.lst (vr row)]).set r (Ob.lst ((ids.map Val.obj).set k (Val.obj S.length)))) r (rs.set k row) (ids.set k S.length) := by
  have lt := h.lt
  have il := h.idlt
  obtain ⟨h1, h2, h3, h4, h5, h6, h7⟩ := h
  have fresh : S.length ∉ ids := fun m => Nat.lt_irrefl _ (il _ m)
  refine ⟨?_, h2, ?_, ?_, ?_, by simp [h6], ?_⟩
  · rw [List.getElem?_set_self (by simp; omega), List.map_set]
  · intro m
    rcases List.mem_or_eq_of_mem_set m with m | m
    · exact h3 m
    · omega
  · intro j l i hj hl
    by_cases c1 : k = j
    · subst c1
      rw [List.getElem?_set_self (by omega)] at hj
      cases hj
      by_cases c2 : k = l
      · exact c2
      · rw [List.getElem?_set_ne c2] at hl
        exact absurd (List.mem_of_getElem? hl) fresh
    · rw [List.getElem?_set_ne c1] at hj
      by_cases c2 : k = l
      · subst c2
        rw [List.getElem?_set_self (by omega)] at hl
        cases hl
        exact absurd (List.mem_of_getElem? hj) fresh
      · rw [List.getElem?_set_ne c2] at hl
        exact h4 j l i hj hl
  · intro i hi
    rcases List.mem_or_eq_of_mem_set hi with m | m
    · exact h5 i m
    · omega
  · intro j a rw' hj hrj
    by_cases e : k = j
    · subst e
      rw [List.getElem?_set_self (by omega)] at hj hrj
      cases hj
      cases hrj
      rw [List.getElem?_set_ne (by omega)]
      simp
    · rw [List.getElem?_set_ne e] at hj hrj
      have hm := List.mem_of_getElem? hj
      rw [List.getElem?_set_ne (by rintro rfl; exact h3 hm), List.getElem?_append_left (il a hm)]
      exact h7 j a rw' hj hrj
end K08
set_option Elab.async false
set_option linter.all false
set_option maxRecDepth 100000
set_option maxHeartbeats 4000000
/-! k08, plain mathematics 15: _law_laid. -/
namespace K08
open PySem DL
theorem seq_nx {sd se : SD} {ρ ρ1 : Slots} {S S1 : Store} (h : sd ρ S = some (.nx ρ1, S1)) : dSeq sd se ρ S = se ρ1 S1 := by rw [dSeq_eq, h]; rfl
theorem if_yes {t : TD} {sd se : SD} {ρ : Slots} {S : Store} (h : t ρ S = some (.ok true, S)) : dIfS t sd se ρ S = sd ρ S := by rw [dIfS_eq, h]; rfl
theorem if_no {t : TD} {sd se : SD} {ρ : Slots} {S : Store} (h : t ρ S = some (.ok false, S)) : dIfS t sd se ρ S = se ρ S := by rw [dIfS_eq, h]; rfl
theorem set_st {d : ED} {i : Nat} {ρ : Slots} {S S1 : Store} {x : Val} (h : d ρ S = some (.ok x, S1)) : dSet i d ρ S = some (.nx (ρ.set i (some x)), S1) := by rw [dSet_eq, h]; rfl
section
variable {n0 r : Nat} {S : Store} {rs : Rw} {ρ : Slots}
theorem len_ed (hd : ∀ S, dVar 1 ρ S = some (.ok (.obj r), S)) (R : Rows n0 S r rs) : dB lenF (dCons (dVar 1) dNil) ρ S = some (.ok (.int rs.length), S) := by
  obtain ⟨ids, h⟩ := R
  have l := h.2.2.2.2.2.1
  simp [hd, h.1, l]
theorem last_ed (hd : ∀ S, dVar 1 ρ S = some (.ok (.obj r), S)) (R : Rows n0 S r rs) (h0 : 0 < rs.length) : dOp2 subF (dB lenF (dCons (dVar 1) dNil)) (dC (.int 1)) ρ S = some (.ok (.int (rs.length - 1 : Nat)), S) := by
  obtain ⟨ids, h⟩ := R
  have l := h.2.2.2.2.2.1
  simp [hd, h.1, l]
  omega
theorem push_st (hd : ∀ S, dVar 1 ρ S = some (.ok (.obj r), S)) (R : Rows n0 S r rs) (hz : rs.length < 1000000) : ∃ S', dApp (dVar 1) (dLst dNil) ρ S = some (.nx ρ, S') ∧ Rows n0 S' r (rs ++ [[]]) ∧ Below n0 S S' := by
  obtain ⟨ids, h⟩ := R
  have lt := h.lt
  have hl : (ids.map Val.obj).length < 1000000 := by rw [List.length_map, h.2.2.2.2.2.1]; exact hz
  refine ⟨_, ?_, ⟨_, h.push⟩, (Below.app lt.2).trans (.set h.2.1)⟩
  simp [hd, h.1, List.getElem?_append_left lt.1, appE2_lst hl]
theorem app_st {k v : Nat} {di e : ED} {row : List Nat} (hd : ∀ S, dVar 1 ρ S = some (.ok (.obj r), S)) (R : Rows n0 S r rs) (hi : di ρ S = some (.ok (.int k), S)) (he : e ρ S = some (.ok (.int v), S)) (hr : rs[k]? = some row) (hz : row.length < 1000000) : ∃ S', dApp (dOp2 ixF (dVar 1) di) e ρ S = some (.nx ρ, S') ∧ Rows n0 S' r (rs.set k (row ++ [v])) ∧ Below n0 S S' := by
  obtain ⟨ids, h⟩ := R
  obtain ⟨i, h1, h2, h3, h4⟩ := h.app (v := v) hr
  have hl : (vr row).length < 1000000 := by unfold vr; rw [List.length_map]; exact hz
  refine ⟨_, ?_, ⟨_, h4⟩, .set h2⟩
  simp [hd, h.1, hi, he, atI_nat, h1, h3, appE2_lst hl]
theorem sub_st {k : Nat} {di e : ED} {row : List Nat} (hd : ∀ S, dVar 1 ρ S = some (.ok (.obj r), S)) (R : Rows n0 S r rs) (hi : ∀ S, di ρ S = some (.ok (.int k), S)) (he : e ρ S = some (.ok (.obj S.length), S ++ [.lst (vr row)])) (hk : k < rs.length) : ∃ S', dSub (dVar 1) di e ρ S = some (.nx ρ, S') ∧ Rows n0 S' r (rs.set k row) ∧ Below n0 S S' := by
  obtain ⟨ids, h⟩ := R
  have lt := h.lt
  have l := h.2.2.2.2.2.1
  refine ⟨_, ?_, ⟨_, h.sub (row := row) hk⟩, (Below.app lt.2).trans (.set h.2.1)⟩
  simp [hd, h.1, hi, he, List.getElem?_append_left lt.1, ixN_nat (show k < ids.length by omega)]
end
end K08
set_option Elab.async false
set_option linter.all false
set_option maxRecDepth 100000
set_option maxHeartbeats 4000000
/-! k08, plain mathematics 16: _law_laid lays out. -/
namespace K08
open PySem DL
theorem set_snoc {R : Rw} {j : Nat} {x : List Nat} (h : j < R.length) : R.set j x ++ [[]] = (R ++ [[]]).set j x := by rw [List.set_append_left _ _ h]
mutual
theorem St.lay_set : ∀ (s : St) {last j : Nat} {R : Rw} {x : List Nat}, last < R.length → R[last]? = some [] → j < R.length → j ≠ last → s.lay last (R.set j x) = ((s.lay last R).1, (s.lay last R).2.set j x)
  | .smp v, last, j, R, x, hl, hf, h, hn => by
    unfold St.lay
    rw [set_snoc h, List.length_set, List.set_comm _ _ (by omega)]
  | .eit a b, last, j, R, x, hl, hf, h, hn => by
    have A := Bk.laid a (last := R.length) (R := R ++ [[]]) (by simp) (by simp)
    have ea := Bk.lay_set a (last := R.length) (j := j) (R := R ++ [[]]) (x := x) (by simp) (by simp) (by simp; omega) (by omega)
    unfold St.lay
    rw [set_snoc h, List.length_set, ea]
    generalize a.lay R.length (R ++ [[]]) = p at A ⊢
    have al := A.len
    have an := A.new
    simp only [List.length_append, List.length_cons, List.length_nil] at al an
    have eb := Bk.lay_set b (last := p.2.length) (j := j) (R := p.2 ++ [[]]) (x := x) (by simp) (by simp) (by simp; omega) (by omega)
    have B := Bk.laid b (last := p.2.length) (R := p.2 ++ [[]]) (by simp) (by simp)
    simp only [List.length_set]
    rw [set_snoc (by omega), eb]
    generalize b.lay p.2.length (p.2 ++ [[]]) = q at B ⊢
    have bl := B.len
    have bn := B.new
    simp only [List.length_append, List.length_cons, List.length_nil] at bl bn
    simp only [List.length_set]
    rw [set_snoc (by omega), List.set_comm (i := j) (j := last) _ _ (by omega), List.set_comm (i := j) (j := p.1) _ _ (by omega), List.set_comm (i := j) (j := q.1) _ _ (by omega)]
  | .lop a, last, j, R, x, hl, hf, h, hn => by
    have A := Bk.laid a (last := R.length + 1) (R := R ++ [[]] ++ [[]]) (by simp) (by simp)
    have ea := Bk.lay_set a (last := R.length + 1) (j := j) (R := R ++ [[]] ++ [[]]) (x := x) (by simp) (by simp) (by simp; omega) (by omega)
    unfold St.lay
    rw [set_snoc h, set_snoc (by simp; omega), List.length_set, ea]
    generalize a.lay (R.length + 1) (R ++ [[]] ++ [[]]) = p at A ⊢
    have al := A.len
    have an := A.new
    simp only [List.length_append, List.length_cons, List.length_nil] at al an
    simp only [List.length_set]
    rw [set_snoc (by omega), List.set_comm (i := j) (j := last) _ _ (by omega), List.set_comm (i := j) (j := R.length) _ _ (by omega), List.set_comm (i := j) (j := p.1) _ _ (by omega)]
theorem Bk.lay_set : ∀ (b : Bk) {last j : Nat} {R : Rw} {x : List Nat}, last < R.length → R[last]? = some [] → j < R.length → j ≠ last → b.lay last (R.set j x) = ((b.lay last R).1, (b.lay last R).2.set j x)
  | .nil, last, j, R, x, hl, hf, h, hn => by unfold Bk.lay; rfl
  | .cons s b, last, j, R, x, hl, hf, h, hn => by
    have es := St.lay_set s (x := x) hl hf h hn
    have A := St.laid s hl hf
    unfold Bk.lay
    rw [es]
    generalize s.lay last R = p at A ⊢
    have al := A.len
    have an := A.new
    exact Bk.lay_set b A.here A.free (by omega) (by omega)
end
end K08
set_option Elab.async false
set_option linter.all false
set_option maxRecDepth 100000
set_option maxHeartbeats 4000000
/-! k08, plain mathematics 17: _law_laid. -/
namespace K08
open PySem DL
/-- a block put behind the rows there are -/
def Bk.put (b : Bk) (R : Rw) : Nat × Rw := b.lay R.length (R ++ [[]])
theorem Bk.put_laid (b : Bk) (R : Rw) : Laid R.length (R ++ [[]]) b.sz (b.put R) := Bk.laid b (by simp) (by simp)
theorem Rows.len {n0 r : Nat} {S : Store} {R Q : Rw} (h : R = Q) (k : Rows n0 S r R) : Rows n0 S r Q := h ▸ k
theorem lst2_ed {d1 d2 : ED} {ρ : Slots} {S : Store} {x y : Val} (h1 : d1 ρ S = some (.ok x, S)) (h2 : d2 ρ S = some (.ok y, S)) : dLst (dCons d1 (dCons d2 dNil)) ρ S = some (.ok (.obj S.length), S ++ [.lst [x, y]]) := by
  simp [h1, h2]
theorem lay_lop (a : Bk) (last : Nat) (R : Rw) : (St.lop a).lay last R = (fun p : Nat × Rw => (p.2.length, (((p.2 ++ [[]]).set last [R.length]).set R.length [R.length + 1, p.2.length]).set p.1 [R.length])) (a.lay (R.length + 1) (R ++ [[]] ++ [[]])) := by
  rw [St.lay]
theorem lay_eit (a b : Bk) (last : Nat) (R : Rw) : (St.eit a b).lay last R = (fun p q : Nat × Rw => (q.2.length, (((q.2 ++ [[]]).set last [R.length, p.2.length]).set p.1 [q.2.length]).set q.1 [q.2.length])) (a.put R) (b.put (a.put R).2) := by
  rw [St.lay]
  rfl
theorem laid_ok {ns : List PySem.Str} : ∀ {n d : Nat} {b : Bk} {S : Store} {n0 r : Nat} {rs : Rw}, d < n → b.wf ns d → Rows n0 S r rs → rs.length + 1 + b.sz < 1000000 → ∃ S', G__law_laid n [.tup b.vs, .obj r] S = some (.ok (.tup [.int rs.length, .int (b.put rs).1]), S') ∧ Rows n0 S' r (b.put rs).2 ∧ Below n0 S S' := by
  intro n
  induction n with
  | zero => intro d b S n0 r rs h; omega
  | succ n ih =>
    intro d b S n0 r rs hd w R0 hz
    rw [G__law_laid_succ, dDef_2]
    unfold b__law_laid
    generalize hB : Val.tup b.vs = B
    have hdv : ∀ (o : List (Option Val)) (S : Store), dVar 1 (some B :: some (.obj r) :: o) S = some (.ok (.obj r), S) := fun o S => by simp
    obtain ⟨S1, e1, R1, B1⟩ := push_st (ρ := [some B, some (.obj r), some (.int rs.length), none, none, none, none, none, none, none]) (hdv _) R0 (by omega)
    have loop := forL_inv (chk := fun _ => True) (g := gN 4) (b := l2__law_laid (G__law_laid n))
      (fun xs ρ W => ∃ (c : Bk) (R : Rw) (last : Nat) (o4 o5 o6 o7 o8 : Option Val), xs = c.vs ∧ c.wf ns d ∧ Rows n0 W r R ∧ last < R.length ∧ R[last]? = some [] ∧ c.lay last R = b.put rs ∧ R.length + c.sz < 1000000 ∧ Below n0 S W ∧ ρ = [some B, some (.obj r), some (.int rs.length), some (.int last), o4, o5, o6, o7, o8, none])
      (fun _ _ _ _ => trivial) (by
        rintro x xs ρ W ⟨c, R, last, o4, o5, o6, o7, o8, ex, wc, RW, hl, hf, hk, hs, hB, rfl⟩
        cases c with
        | nil => simp [Bk.vs] at ex
        | cons s c =>
          unfold Bk.vs at ex
          obtain ⟨rfl, rfl⟩ := List.cons.inj ex
          unfold Bk.wf at wc
          have A := St.laid s hl hf
          unfold Bk.lay at hk
          have al := A.len
          have sz1 : (Bk.cons s c).sz = s.sz + c.sz := by rw [Bk.sz]
          rw [sz1] at hs
          refine ⟨[some B, some (.obj r), some (.int rs.length), some (.int last), some s.v, o5, o6, o7, o8, none], ?_⟩
          -- how it ends
          have fin : ∀ (W' : Store) (a5 a6 a7 a8 : Option Val), Rows n0 W' r (s.lay last R).2 → Below n0 W W' → (s.lay last R).1 = (s.lay last R).2.length - 1 → ∃ ρ2, dSet 3 (dOp2 subF (dB lenF (dCons (dVar 1) dNil)) (dC (.int 1))) [some B, some (.obj r), some (.int rs.length), some (.int last), some s.v, a5, a6, a7, a8, none] W' = some (.nx ρ2, W') ∧ ∃ (c' : Bk) (R' : Rw) (last' : Nat) (o4 o5 o6 o7 o8 : Option Val), c.vs = c'.vs ∧ c'.wf ns d ∧ Rows n0 W' r R' ∧ last' < R'.length ∧ R'[last']? = some [] ∧ c'.lay last' R' = b.put rs ∧ R'.length + c'.sz < 1000000 ∧ Below n0 S W' ∧ ρ2 = [some B, some (.obj r), some (.int rs.length), some (.int last'), o4, o5, o6, o7, o8, none] := by
            intro W' a5 a6 a7 a8 RW' BW' hlast
            refine ⟨_, set_st (last_ed (hdv _) RW' (by have := A.here; omega)), c, _, (s.lay last R).1, some s.v, a5, a6, a7, a8, rfl, wc.2, RW', A.here, A.free, hk, by omega, hB.trans BW', ?_⟩
            rw [hlast]
            rfl
          have hRW := RW
          obtain ⟨S2, p1, R2, B2⟩ := push_st (ρ := [some B, some (.obj r), some (.int rs.length), some (.int last), some s.v, o5, o6, o7, o8, none]) (hdv _) RW (by omega)
          cases s with
          | smp v =>
            have ws := wc.1
            unfold St.wf at ws
            obtain ⟨w0, rest, rfl, hw, _⟩ := smp_word ws
            obtain ⟨S3, p2, R3, B3⟩ := app_st (ρ := [some B, some (.obj r), some (.int rs.length), some (.int last), some (St.smp (.tup (.str w0 :: rest))).v, o5, o6, o7, o8, none]) (k := last) (di := dVar 3) (row := []) (hdv _) R2 (by simp) (last_ed (hdv _) R2 (by simp)) (by rw [List.getElem?_append_left hl]; exact hf) (by decide)
            have e : (R ++ [[]]).set last ([] ++ [(R ++ [[]]).length - 1]) = (St.lay (.smp (.tup (.str w0 :: rest))) last R).2 := by
              unfold St.lay
              simp
            rw [e] at R3
            obtain ⟨ρ2, f1, f2⟩ := fin S3 o5 o6 o7 o8 R3 (B2.trans B3) (by unfold St.lay; simp)
            refine ⟨ρ2, S3, rfl, ?_, f2⟩
            unfold l2__law_laid
            have t : dTv (dOp2 inF (dOp2 ixF (dVar 4) (dC (.int 0))) (dVl (dCons (dC (.str "set")) (dCons (dC (.str "input")) dNil)))) [some B, some (.obj r), some (.int rs.length), some (.int last), some (St.smp (.tup (.str w0 :: rest))).v, o5, o6, o7, o8, none] W = some (.ok true, W) := by
              simp [St.v, hw]
            have st : ∀ X, dIfS (dTv (dOp2 inF (dOp2 ixF (dVar 4) (dC (.int 0))) (dVl (dCons (dC (.str "set")) (dCons (dC (.str "input")) dNil))))) (dSeq (dApp (dVar 1) (dLst dNil)) (dApp (dOp2 ixF (dVar 1) (dVar 3)) (dOp2 subF (dB lenF (dCons (dVar 1) dNil)) (dC (.int 1))))) X [some B, some (.obj r), some (.int rs.length), some (.int last), some (St.smp (.tup (.str w0 :: rest))).v, o5, o6, o7, o8, none] W = some (.nx [some B, some (.obj r), some (.int rs.length), some (.int last), some (St.smp (.tup (.str w0 :: rest))).v, o5, o6, o7, o8, none], S3) := fun X => by
              rw [if_yes t, seq_nx p1, p2]
            rw [seq_nx (st _)]
            exact f1
          | eit a b2 =>
            have ws := wc.1
            unfold St.wf at ws
            clear p1 R2 B2
            have hsz : (St.eit a b2).sz = 3 + a.sz + b2.sz := by rw [St.sz]
            rw [hsz] at hs
            generalize hV : (St.eit a b2).v = V at fin ⊢
            have P := a.put_laid R
            have Q := b2.put_laid (a.put R).2
            have pl := P.len
            have pn := P.new
            have ph := P.here
            have ql := Q.len
            have qn := Q.new
            have qh := Q.here
            simp only [List.length_append, List.length_cons, List.length_nil] at pl pn ql qn
            have hlay := lay_eit a b2 last R
            obtain ⟨S2, p1, R2, B2⟩ := ih (d := d - 1) (b := a) (S := W) (by omega) ws.2.1 RW (by omega)
            obtain ⟨S3, p2, R3, B3⟩ := ih (d := d - 1) (b := b2) (S := S2) (by omega) ws.2.2.1 R2 (by omega)
            generalize b2.put (a.put R).2 = q at Q ql qn qh hlay p2 R3
            generalize a.put R = p at P pl pn ph Q ql qn qh hlay p1 p2 R2 R3
            dsimp only at hlay
            let E : Val := .vl [.tup [.int R.length, .int p.1], .tup [.int p.2.length, .int q.1]]
            have p3 : dSet 8 (dLc (dSeqI (dSl (dVar 4) (dPart (dC (.int 1))) dNoPart)) (gN 9) dYes (dCall (G__law_laid n) [] (dCons (dVar 9) (dCons (dVar 1) dNil))) [9]) [some B, some (.obj r), some (.int rs.length), some (.int last), some V, o5, o6, o7, o8, none] W = some (.nx [some B, some (.obj r), some (.int rs.length), some (.int last), some V, o5, o6, o7, some E, none], S3) := by
              subst hV
              have l : lcL (fun _ => True) (gN 9) dYes (dCall (G__law_laid n) [] (dCons (dVar 9) (dCons (dVar 1) dNil))) [some B, some (.obj r), some (.int rs.length), some (.int last), some (St.eit a b2).v, o5, o6, o7, o8, none] [.tup a.vs, .tup b2.vs] W = some ([.tup [.int R.length, .int p.1], .tup [.int p.2.length, .int q.1]], S3) :=
                lcL_cons (S1 := W) (S2 := S2) trivial rfl rfl (by simp [p1]) (lcL_cons (S1 := S2) (S2 := S3) trivial rfl rfl (by simp [p2]) (lcL_nil trivial))
              unfold St.v at l ⊢
              simp [l, E]
            obtain ⟨S4, p4, R4, B4⟩ := push_st (ρ := [some B, some (.obj r), some (.int rs.length), some (.int last), some V, o5, o6, o7, some E, none]) (hdv _) R3 (by omega)
            have hfl : (q.2 ++ [[]])[last]? = some [] := by
              rw [List.getElem?_append_left (by omega), Q.old last (by simp; omega) (by omega), List.getElem?_append_left (by omega), P.old last (by simp; omega) (by omega), List.getElem?_append_left hl]
              exact hf
            have hfp : q.2[p.1]? = some [] := by
              rw [Q.old p.1 (by simp; omega) (by omega), List.getElem?_append_left (by omega)]
              exact P.free
            -- the first end
            obtain ⟨S5, p5, R5, B5⟩ := app_st (ρ := [some B, some (.obj r), some (.int rs.length), some (.int last), some V, o5, some (.int R.length), some (.int p.1), some E, none]) (k := last) (v := R.length) (di := dVar 3) (e := dVar 6) (row := []) (hdv _) R4 (by simp) (by simp) hfl (by decide)
            obtain ⟨S6, p6, R6, B6⟩ := app_st (ρ := [some B, some (.obj r), some (.int rs.length), some (.int last), some V, o5, some (.int R.length), some (.int p.1), some E, none]) (k := p.1) (di := dVar 7) (row := []) (hdv _) R5 (by simp) (last_ed (hdv _) R5 (by simp)) (by
              rw [List.getElem?_set_ne (by omega), List.getElem?_append_left (by omega)]
              exact hfp) (by decide)
            -- the second end
            obtain ⟨S7, p7, R7, B7⟩ := app_st (ρ := [some B, some (.obj r), some (.int rs.length), some (.int last), some V, o5, some (.int p.2.length), some (.int q.1), some E, none]) (k := last) (v := p.2.length) (di := dVar 3) (e := dVar 6) (row := [R.length]) (hdv _) R6 (by simp) (by simp) (by
              rw [List.getElem?_set_ne (by omega), List.getElem?_set_self (by simp; omega)]
              rfl) (by simp)
            obtain ⟨S8, p8, R8, B8⟩ := app_st (ρ := [some B, some (.obj r), some (.int rs.length), some (.int last), some V, o5, some (.int p.2.length), some (.int q.1), some E, none]) (k := q.1) (di := dVar 7) (row := []) (hdv _) R7 (by simp) (last_ed (hdv _) R7 (by simp)) (by
              rw [List.getElem?_set_ne (by omega), List.getElem?_set_ne (by omega), List.getElem?_set_ne (by omega), List.getElem?_append_left (by omega)]
              exact Q.free) (by decide)
            have e : ((((q.2 ++ [[]]).set last ([] ++ [R.length])).set p.1 ([] ++ [((q.2 ++ [[]]).set last ([] ++ [R.length])).length - 1])).set last ([R.length] ++ [p.2.length])).set q.1 ([] ++ [((((q.2 ++ [[]]).set last ([] ++ [R.length])).set p.1 ([] ++ [((q.2 ++ [[]]).set last ([] ++ [R.length])).length - 1])).set last ([R.length] ++ [p.2.length])).length - 1]) = ((St.eit a b2).lay last R).2 := by
              rw [hlay]
              simp only [List.nil_append, List.length_set, List.length_append, List.length_cons, List.length_nil, Nat.zero_add, Nat.add_sub_cancel]
              rw [List.set_comm (i := p.1) (j := last) _ _ (by omega), List.set_set]
              rfl
            rw [e] at R8
            obtain ⟨ρ2, f1, f2⟩ := fin S8 o5 (some (.int p.2.length)) (some (.int q.1)) (some E) R8 ((((((B2.trans B3).trans B4).trans B5).trans B6).trans B7).trans B8) (by rw [hlay]; simp)
            refine ⟨ρ2, S8, rfl, ?_, f2⟩
            unfold l2__law_laid
            have t1 : dTv (dOp2 inF (dOp2 ixF (dVar 4) (dC (.int 0))) (dVl (dCons (dC (.str "set")) (dCons (dC (.str "input")) dNil)))) [some B, some (.obj r), some (.int rs.length), some (.int last), some V, o5, o6, o7, o8, none] W = some (.ok false, W) := by
              subst hV
              simp [St.v]
            have t2 : dTv (dOp2 eqF (dOp2 ixF (dVar 4) (dC (.int 0))) (dC (.str "loop"))) [some B, some (.obj r), some (.int rs.length), some (.int last), some V, o5, o6, o7, o8, none] W = some (.ok false, W) := by
              subst hV
              simp [St.v]
            have l1 : l1__law_laid [some B, some (.obj r), some (.int rs.length), some (.int last), some V, o5, some (.int R.length), some (.int p.1), some E, none] S4 = some (.nx [some B, some (.obj r), some (.int rs.length), some (.int last), some V, o5, some (.int R.length), some (.int p.1), some E, none], S6) := by
              unfold l1__law_laid
              rw [seq_nx p5, p6]
            have l2 : l1__law_laid [some B, some (.obj r), some (.int rs.length), some (.int last), some V, o5, some (.int p.2.length), some (.int q.1), some E, none] S6 = some (.nx [some B, some (.obj r), some (.int rs.length), some (.int last), some V, o5, some (.int p.2.length), some (.int q.1), some E, none], S8) := by
              unfold l1__law_laid
              rw [seq_nx p7, p8]
            have fl : dFor (dSeqI (dVar 8)) (gT 2 (gCons' (gN 6) (gCons' (gN 7) gNil'))) l1__law_laid [some B, some (.obj r), some (.int rs.length), some (.int last), some V, o5, o6, o7, some E, none] S4 = some (.nx [some B, some (.obj r), some (.int rs.length), some (.int last), some V, o5, some (.int p.2.length), some (.int q.1), some E, none], S8) := by
              have h : forL (fun _ => True) (gT 2 (gCons' (gN 6) (gCons' (gN 7) gNil'))) l1__law_laid [.tup [.int R.length, .int p.1], .tup [.int p.2.length, .int q.1]] [some B, some (.obj r), some (.int rs.length), some (.int last), some V, o5, o6, o7, some E, none] S4 = some (.nx [some B, some (.obj r), some (.int rs.length), some (.int last), some V, o5, some (.int p.2.length), some (.int q.1), some E, none], S8) := by
                rw [forL_cons trivial (by simp) l1, forL_cons trivial (by simp) l2]
                exact forL_nil trivial
              simp [E] at h ⊢
              exact h
            have st : ∀ X Y, dIfS (dTv (dOp2 inF (dOp2 ixF (dVar 4) (dC (.int 0))) (dVl (dCons (dC (.str "set")) (dCons (dC (.str "input")) dNil))))) X (dIfS (dTv (dOp2 eqF (dOp2 ixF (dVar 4) (dC (.int 0))) (dC (.str "loop")))) Y (dSeq (dSet 8 (dLc (dSeqI (dSl (dVar 4) (dPart (dC (.int 1))) dNoPart)) (gN 9) dYes (dCall (G__law_laid n) [] (dCons (dVar 9) (dCons (dVar 1) dNil))) [9])) (dSeq (dApp (dVar 1) (dLst dNil)) (dFor (dSeqI (dVar 8)) (gT 2 (gCons' (gN 6) (gCons' (gN 7) gNil'))) l1__law_laid)))) [some B, some (.obj r), some (.int rs.length), some (.int last), some V, o5, o6, o7, o8, none] W = some (.nx [some B, some (.obj r), some (.int rs.length), some (.int last), some V, o5, some (.int p.2.length), some (.int q.1), some E, none], S8) := fun X Y => by
              rw [if_no t1, if_no t2, seq_nx p3, seq_nx p4, fl]
            rw [seq_nx (st _ _)]
            exact f1
          | lop a =>
            have ws := wc.1
            unfold St.wf at ws
            clear p1 R2 B2
            have hsz : (St.lop a).sz = 3 + a.sz := by rw [St.sz]
            rw [hsz] at hs
            generalize hV : (St.lop a).v = V at fin ⊢
            have P := Bk.laid a (last := R.length + 1) (R := R ++ [[]] ++ [[]]) (by simp) (by simp)
            have pl := P.len
            have pn := P.new
            have ph := P.here
            simp only [List.length_append, List.length_cons, List.length_nil] at pl pn
            have hput : a.put ((R ++ [[]]).set last ([] ++ [R.length])) = ((a.lay (R.length + 1) (R ++ [[]] ++ [[]])).1, (a.lay (R.length + 1) (R ++ [[]] ++ [[]])).2.set last [R.length]) := by
              unfold Bk.put
              rw [set_snoc (by simp; omega), List.length_set, List.length_append]
              exact Bk.lay_set a (by simp) (by simp) (by simp; omega) (by omega)
            have hlay := lay_lop a last R
            generalize a.lay (R.length + 1) (R ++ [[]] ++ [[]]) = p at P pl pn ph hput hlay
            dsimp only at hlay
            obtain ⟨S2, p1, R2, B2⟩ := push_st (ρ := [some B, some (.obj r), some (.int rs.length), some (.int last), some V, some (.int R.length), o6, o7, o8, none]) (hdv _) RW (by omega)
            obtain ⟨S3, p2, R3, B3⟩ := app_st (ρ := [some B, some (.obj r), some (.int rs.length), some (.int last), some V, some (.int R.length), o6, o7, o8, none]) (k := last) (v := R.length) (di := dVar 3) (e := dVar 5) (row := []) (hdv _) R2 (by simp) (by simp) (by rw [List.getElem?_append_left hl]; exact hf) (by decide)
            obtain ⟨S4, p3, R4, B4⟩ := ih (d := d - 1) (b := a) (S := S3) (by omega) ws.2.1 R3 (by simp; omega)
            rw [hput] at p3 R4
            have p4 : dAsg (gT 2 (gCons' (gN 6) (gCons' (gN 7) gNil'))) (dCall (G__law_laid n) [] (dCons (dOp2 ixF (dVar 4) (dC (.int 1))) (dCons (dVar 1) dNil))) [some B, some (.obj r), some (.int rs.length), some (.int last), some V, some (.int R.length), o6, o7, o8, none] S3 = some (.nx [some B, some (.obj r), some (.int rs.length), some (.int last), some V, some (.int R.length), some (.int (R.length + 1 : Nat)), some (.int p.1), o8, none], S4) := by
              subst hV
              simp only [List.length_set, List.length_append, List.length_cons, List.length_nil] at p3
              simp [St.v, p3]
            obtain ⟨S5, p5, R5, B5⟩ := push_st (ρ := [some B, some (.obj r), some (.int rs.length), some (.int last), some V, some (.int R.length), some (.int (R.length + 1 : Nat)), some (.int p.1), o8, none]) (hdv _) R4 (by simp; omega)
            obtain ⟨S6, p6, R6, B6⟩ := sub_st (ρ := [some B, some (.obj r), some (.int rs.length), some (.int last), some V, some (.int R.length), some (.int (R.length + 1 : Nat)), some (.int p.1), o8, none]) (k := R.length) (di := dVar 5) (e := dLst (dCons (dVar 6) (dCons (dOp2 subF (dB lenF (dCons (dVar 1) dNil)) (dC (.int 1))) dNil))) (row := [R.length + 1, p.2.length]) (hdv _) R5 (by simp) (by
              have q := last_ed (hdv [some (.int rs.length), some (.int last), some V, some (.int R.length), some (.int (R.length + 1 : Nat)), some (.int p.1), o8, none]) R5 (by simp)
              simp only [List.length_append, List.length_set, List.length_cons, List.length_nil, Nat.zero_add, Nat.add_sub_cancel] at q
              exact lst2_ed (x := .int (R.length + 1 : Nat)) (y := .int p.2.length) (by simp) q) (by simp; omega)
            obtain ⟨S7, p7, R7, B7⟩ := app_st (ρ := [some B, some (.obj r), some (.int rs.length), some (.int last), some V, some (.int R.length), some (.int (R.length + 1 : Nat)), some (.int p.1), o8, none]) (k := p.1) (v := R.length) (di := dVar 7) (e := dVar 5) (row := []) (hdv _) R6 (by simp) (by simp) (by
              rw [List.getElem?_set_ne (by omega), List.getElem?_append_left (by simp; omega), List.getElem?_set_ne (by omega)]
              exact P.free) (by decide)
            have e : (((p.2.set last [R.length] ++ [[]]).set R.length [R.length + 1, p.2.length]).set p.1 ([] ++ [R.length])) = ((St.lop a).lay last R).2 := by
              rw [hlay, set_snoc (by omega)]
              rfl
            rw [e] at R7
            obtain ⟨ρ2, f1, f2⟩ := fin S7 (some (.int R.length)) (some (.int (R.length + 1 : Nat))) (some (.int p.1)) o8 R7 (((((B2.trans B3).trans B4).trans B5).trans B6).trans B7) (by rw [hlay]; simp)
            refine ⟨ρ2, S7, rfl, ?_, f2⟩
            unfold l2__law_laid
            have t1 : dTv (dOp2 inF (dOp2 ixF (dVar 4) (dC (.int 0))) (dVl (dCons (dC (.str "set")) (dCons (dC (.str "input")) dNil)))) [some B, some (.obj r), some (.int rs.length), some (.int last), some V, o5, o6, o7, o8, none] W = some (.ok false, W) := by
              subst hV
              simp [St.v]
            have t2 : dTv (dOp2 eqF (dOp2 ixF (dVar 4) (dC (.int 0))) (dC (.str "loop"))) [some B, some (.obj r), some (.int rs.length), some (.int last), some V, o5, o6, o7, o8, none] W = some (.ok true, W) := by
              subst hV
              simp [St.v]
            have st : ∀ X Y, dIfS (dTv (dOp2 inF (dOp2 ixF (dVar 4) (dC (.int 0))) (dVl (dCons (dC (.str "set")) (dCons (dC (.str "input")) dNil))))) X (dIfS (dTv (dOp2 eqF (dOp2 ixF (dVar 4) (dC (.int 0))) (dC (.str "loop")))) (dSeq (dSet 5 (dB lenF (dCons (dVar 1) dNil))) (dSeq (dApp (dVar 1) (dLst dNil)) (dSeq (dApp (dOp2 ixF (dVar 1) (dVar 3)) (dVar 5)) (dSeq (dAsg (gT 2 (gCons' (gN 6) (gCons' (gN 7) gNil'))) (dCall (G__law_laid n) [] (dCons (dOp2 ixF (dVar 4) (dC (.int 1))) (dCons (dVar 1) dNil)))) (dSeq (dApp (dVar 1) (dLst dNil)) (dSeq (dSub (dVar 1) (dVar 5) (dLst (dCons (dVar 6) (dCons (dOp2 subF (dB lenF (dCons (dVar 1) dNil)) (dC (.int 1))) dNil)))) (dApp (dOp2 ixF (dVar 1) (dVar 7)) (dVar 5)))))))) Y) [some B, some (.obj r), some (.int rs.length), some (.int last), some V, o5, o6, o7, o8, none] W = some (.nx [some B, some (.obj r), some (.int rs.length), some (.int last), some V, some (.int R.length), some (.int (R.length + 1 : Nat)), some (.int p.1), o8, none], S7) := fun X Y => by
              rw [if_no t1, if_yes t2, seq_nx (set_st (len_ed (hdv _) RW))]
              show dSeq _ _ [some B, some (.obj r), some (.int rs.length), some (.int last), some V, some (.int R.length), o6, o7, o8, none] W = _
              rw [seq_nx p1, seq_nx p2, seq_nx p4, seq_nx p5, seq_nx p6, p7]
            rw [seq_nx (st _ _)]
            exact f1)
      b.vs [some B, some (.obj r), some (.int rs.length), some (.int rs.length), none, none, none, none, none, none] S1 ⟨b, rs ++ [[]], rs.length, none, none, none, none, none, rfl, w, R1, by simp, by simp, rfl, by simp; omega, B1, rfl⟩
    obtain ⟨ρ', W', e, c, R, last, o4, o5, o6, o7, o8, ex, wc, RW, hl, hf, hk, hs, hBW, rfl⟩ := loop
    have hz : c = .nil := by
      cases c with
      | nil => rfl
      | cons _ _ => simp [Bk.vs] at ex
    subst hz
    unfold Bk.lay at hk
    rw [← hk]
    refine ⟨W', ?_, RW, hBW⟩
    have e0 := len_ed (ρ := [some B, some (.obj r), none, none, none, none, none, none, none, none]) (hdv _) R0
    show endD (dSeq _ _ [some B, some (.obj r), none, none, none, none, none, none, none, none] S) = _
    rw [seq_nx (set_st e0)]
    show endD (dSeq _ _ [some B, some (.obj r), some (.int rs.length), none, none, none, none, none, none, none] S) = _
    rw [seq_nx e1, seq_nx (set_st (S := S1) (S1 := S1) (ρ := [some B, some (.obj r), some (.int rs.length), none, none, none, none, none, none, none]) (d := dVar 2) (x := .int rs.length) (by simp))]
    subst hB
    simp [e]
end K08
set_option Elab.async false
set_option linter.all false
set_option maxRecDepth 100000
set_option maxHeartbeats 4000000
/-! k08, plain mathematics 18: a graph in the making. -/
namespace K08
open PySem DL
/-- a graph, its steps and its spots stand behind S0 -/
def GS (S0 : Store) (X Y : List Val) : Store := S0 ++ [.ins "Graph" ["steps", "spots"] [.obj (S0.length + 1), .obj (S0.length + 2)], .lst X, .lst Y]
section
variable {S0 : Store} {X Y X' Y' : List Val}
theorem gs_0 : (GS S0 X Y)[S0.length]? = some (.ins "Graph" ["steps", "spots"] [.obj (S0.length + 1), .obj (S0.length + 2)]) := by unfold GS; simp
theorem gs_1 : (GS S0 X Y)[S0.length + 1]? = some (.lst X) := by unfold GS; rw [List.getElem?_append_right (by omega)]; simp
theorem gs_2 : (GS S0 X Y)[S0.length + 2]? = some (.lst Y) := by unfold GS; rw [List.getElem?_append_right (by omega)]; simp
theorem gs_s1 : (GS S0 X Y).set (S0.length + 1) (.lst X') = GS S0 X' Y := by unfold GS; rw [List.set_append_right _ _ (by omega)]; simp
theorem gs_s2 : (GS S0 X Y).set (S0.length + 2) (.lst Y') = GS S0 X Y' := by unfold GS; rw [List.set_append_right _ _ (by omega)]; simp
theorem steps_ed {ρ : Slots} (h : dVar 0 ρ (GS S0 X Y) = some (.ok (.obj S0.length), GS S0 X Y)) : dFld "Graph" "steps" (dVar 0) ρ (GS S0 X Y) = some (.ok (.obj (S0.length + 1)), GS S0 X Y) := by
  rw [dFld_eq, h]
  simp [fldF_obj gs_0]
theorem spots_ed {ρ : Slots} (h : dVar 0 ρ (GS S0 X Y) = some (.ok (.obj S0.length), GS S0 X Y)) : dFld "Graph" "spots" (dVar 0) ρ (GS S0 X Y) = some (.ok (.obj (S0.length + 2)), GS S0 X Y) := by
  rw [dFld_eq, h]
  simp [fldF_obj gs_0]
theorem place_ok {spot : Val} (hx : X.length < 1000000) (hy : Y.length < 1000000) : F_Graph__put_place [.obj S0.length, spot] (GS S0 X Y) = some (.ok (.int X.length), GS S0 (X ++ [.vl []]) (Y ++ [spot])) := by
  unfold F_Graph__put_place
  rw [dDef_2]
  unfold b_Graph__put_place
  simp [fldF_obj gs_0, gs_1, gs_2, gs_s1, gs_s2, appE2_lst hx, appE2_lst hy]
end
/-- steps and rows -/
def StepR (x : Val) (row : List Nat) : Prop := ∃ zs : List (Nat × Val × Val), x = .vl (zs.map fun z => .tup [.int z.1, z.2.1, z.2.2]) ∧ row = zs.map (·.1) ∧ ∀ z ∈ zs, ∀ n, DL.closed n z.2.1 = true ∧ DL.closed n z.2.2 = true
structure Rel (X Y : List Val) (R : Rw) : Prop where
  len : X.length = R.length
  ylen : Y.length = R.length
  row : ∀ (k : Nat) (x : Val) (row : List Nat), X[k]? = some x → R[k]? = some row → StepR x row
  spot : ∀ y ∈ Y, ∀ n, DL.closed n y = true
theorem Rel.push {X Y : List Val} {R : Rw} {y : Val} (h : Rel X Y R) (hy : ∀ n, DL.closed n y = true) : Rel (X ++ [.vl []]) (Y ++ [y]) (R ++ [[]]) := by
  refine ⟨by simp [h.len], by simp [h.ylen], fun k x row hx hr => ?_, fun z hz n => ?_⟩
  · by_cases c : k < X.length
    · rw [List.getElem?_append_left c] at hx
      rw [List.getElem?_append_left (by rw [← h.len]; exact c)] at hr
      exact h.row k x row hx hr
    · have hk := (List.getElem?_eq_some_iff.mp hx).1
      simp at hk
      have e : k = X.length := by omega
      subst e
      simp at hx
      rw [h.len] at hr
      simp at hr
      subst hx hr
      exact ⟨[], rfl, rfl, by simp⟩
  · rcases List.mem_append.mp hz with hz | hz
    · exact h.spot z hz n
    · rw [List.mem_singleton.mp hz]; exact hy n
theorem Rel.set {X Y : List Val} {R : Rw} {j : Nat} {x : Val} {row : List Nat} (h : Rel X Y R) (hs : StepR x row) : Rel (X.set j x) Y (R.set j row) := by
  refine ⟨by simp [h.len], by simp [h.ylen], fun k z rw' hx hr => ?_, h.spot⟩
  by_cases c : j = k
  · subst c
    have h1 := (List.getElem?_eq_some_iff.mp hx).1
    have h2 := (List.getElem?_eq_some_iff.mp hr).1
    simp at h1 h2
    rw [List.getElem?_set_self (by omega)] at hx hr
    cases hx
    cases hr
    exact hs
  · rw [List.getElem?_set_ne c] at hx hr
    exact h.row k z rw' hx hr
end K08
set_option Elab.async false
set_option linter.all false
set_option maxRecDepth 100000
set_option maxHeartbeats 4000000
/-! k08, plain mathematics 19: a graph's steps are the layout. -/
namespace K08
open PySem DL
theorem kMeth_gs {S0 : Store} {X Y : List Val} {m : PySem.Str} {F : FD} {ds : AD} {ρ : Slots} (h1 : ¬ m = "steps") (h2 : ¬ m = "spots") : kMeth "Graph" m F ds ρ (.obj S0.length) (GS S0 X Y) = bindO (ds ρ (GS S0 X Y)) (kMeth2 F (.obj S0.length)) :=
  kMeth_of (insAt_obj gs_0) (by simp [h1, h2])
theorem graph_ok {ns : List PySem.Str} {S0 : Store} : ∀ {n : Nat},
    (∀ (d : Nat) (s : St) (X Y : List Val) (R : Rw) (path : List Val) (idx last : Nat), 2 * d + 1 ≤ n → s.wf ns d → Rel X Y R → last < R.length → R[last]? = some [] → R.length + s.sz < 1000000 → path.length + d ≤ 50 → (∀ n, closedL n path = true) →
      ∃ X' Y', G_Graph__put_statement n [.obj S0.length, s.v, .tup path, .int idx, .int last] (GS S0 X Y) = some (.ok (.int (s.lay last R).1), GS S0 X' Y') ∧ Rel X' Y' (s.lay last R).2) ∧
    (∀ (d : Nat) (b : Bk) (X Y : List Val) (R : Rw) (path : List Val), 2 * d + 2 ≤ n → b.wf ns d → Rel X Y R → R.length + 1 + b.sz < 1000000 → path.length + d ≤ 50 → (∀ n, closedL n path = true) → b.len ≤ 1000 →
      ∃ X' Y', G_Graph__put_block n [.obj S0.length, .tup b.vs, .tup path] (GS S0 X Y) = some (.ok (.tup [.int R.length, .int (b.put R).1]), GS S0 X' Y') ∧ Rel X' Y' (b.put R).2) := by
  intro n
  induction n with
  | zero => exact ⟨fun d s X Y R path idx last h => by omega, fun d b X Y R path h => by omega⟩
  | succ n ih =>
    refine ⟨fun d s X Y R path idx last h w rel hl hf hz hp hc => ?_, fun d b X Y R path h w rel hz hp hc hb => ?_⟩
    · rw [G_Graph__put_statement_succ, dDef_5]
      unfold b_Graph__put_statement
      have xl := rel.len
      have yl := rel.ylen
      cases s with
      | smp v =>
        have cl := fun n => St.closed (n := n) w
        have pk := fun k : Nat => place_ok (S0 := S0) (X := X) (Y := Y) (spot := .tup [.tup path, .int (k : Nat)]) (by omega) (by omega)
        have rl := (rel.push (y := .tup [.tup path, .int (idx + 1 : Nat)]) (fun n => by simp [DL.closed, closedL, hc n])).set (j := last) (x := .vl [.tup [.int X.length, .non, (St.smp v).v]]) (row := [R.length]) ⟨[(X.length, .non, (St.smp v).v)], rfl, by simp [xl], fun z hz n => by rw [List.mem_singleton.mp hz]; exact ⟨by simp [DL.closed], cl n⟩⟩
        refine ⟨_, _, ?_, by unfold St.lay; exact rl⟩
        have e := pk (idx + 1)
        have hi : L2.ixN (R.length + 1) (last : Int) = some last := ixN_nat (by omega)
        unfold St.wf at w
        simp only [Int.natCast_add, Int.natCast_one] at e
        rcases w with ⟨m, hm, rfl⟩ | ⟨m, hm, c, ts, rfl, g⟩
        · simp [St.v, kMeth_gs, e, fldF_obj gs_0, gs_1, gs_s1, hi, St.lay, xl]
        · simp [St.v, kMeth_gs, e, fldF_obj gs_0, gs_1, gs_s1, hi, St.lay, xl]
      | eit a b =>
        unfold St.wf at w
        have hsz : (St.eit a b).sz = 3 + a.sz + b.sz := by rw [St.sz]
        rw [hsz] at hz
        have P := a.put_laid R
        have pl := P.len
        have pn := P.new
        have ph := P.here
        simp only [List.length_append, List.length_cons, List.length_nil] at pl pn
        have Q := b.put_laid (a.put R).2
        have ql := Q.len
        have qn := Q.new
        have qh := Q.here
        simp only [List.length_append, List.length_cons, List.length_nil] at ql qn
        have hlay := lay_eit a b last R
        have hc2 : ∀ (i j n : Nat), closedL n (path ++ [.tup [.int i, .int j]]) = true := fun i j n => closedL_iff.mpr fun x hx => by
          rcases List.mem_append.mp hx with hx | hx
          · exact closedL_iff.mp (hc n) x hx
          · rw [List.mem_singleton.mp hx]; simp [DL.closed, closedL]
        obtain ⟨X1, Y1, e1, r1⟩ := ih.2 (d - 1) a X Y R (path ++ [.tup [.int idx, .int (0 : Nat)]]) (by omega) w.2.1 rel (by omega) (by simp; omega) (hc2 _ _) (by omega)
        obtain ⟨X2, Y2, e2, r2⟩ := ih.2 (d - 1) b X1 Y1 (a.put R).2 (path ++ [.tup [.int idx, .int (1 : Nat)]]) (by omega) w.2.2.1 r1 (by omega) (by simp; omega) (hc2 _ _) (by omega)
        generalize b.put (a.put R).2 = q at Q ql qn qh hlay e2 r2
        generalize a.put R = p at P pl pn ph Q ql qn qh hlay e1 e2 r1 r2
        dsimp only at hlay
        have x2 := r2.len
        have y2 := r2.ylen
        have e3 := place_ok (S0 := S0) (X := X2) (Y := Y2) (spot := .tup [.tup path, .int (idx + 1 : Nat)]) (by omega) (by omega)
        rw [x2] at e3
        have rl := (((r2.push (y := .tup [.tup path, .int (idx + 1 : Nat)]) (fun n => by simp [DL.closed, closedL, hc n])).set (j := last) (x := .vl [.tup [.int R.length, .int 1, .non], .tup [.int p.2.length, .int 0, .non]]) (row := [R.length, p.2.length]) ⟨[(R.length, .int 1, .non), (p.2.length, .int 0, .non)], rfl, rfl, fun z hz n => by
          rcases List.mem_cons.mp hz with rfl | hz
          · simp [DL.closed]
          · rw [List.mem_singleton.mp hz]; simp [DL.closed]⟩).set (j := p.1) (x := .vl [.tup [.int q.2.length, .non, .non]]) (row := [q.2.length]) ⟨[(q.2.length, .non, .non)], rfl, rfl, fun z hz n => by rw [List.mem_singleton.mp hz]; simp [DL.closed]⟩).set (j := q.1) (x := .vl [.tup [.int q.2.length, .non, .non]]) (row := [q.2.length]) ⟨[(q.2.length, .non, .non)], rfl, rfl, fun z hz n => by rw [List.mem_singleton.mp hz]; simp [DL.closed]⟩
        refine ⟨_, _, ?_, by rw [hlay]; exact rl⟩
        have h1 : L2.ixN (X2.length + 1) (last : Int) = some last := ixN_nat (by omega)
        have h2 : L2.ixN (X2.length + 1) (p.1 : Int) = some p.1 := ixN_nat (by omega)
        have h3 : L2.ixN (X2.length + 1) (q.1 : Int) = some q.1 := ixN_nat (by omega)
        have ht : ∀ (x : Val) (S : Store), kTup (path ++ [x]) S = some (.ok (.tup (path ++ [x])), S) := fun x S => kTup_of (by simp; omega)
        simp only [Int.natCast_add, Int.natCast_one] at e3
        replace e1 : G_Graph__put_block n [.obj S0.length, .tup a.vs, .tup (path ++ [.tup [.int idx, .int 0]])] (GS S0 X Y) = _ := e1
        replace e2 : G_Graph__put_block n [.obj S0.length, .tup b.vs, .tup (path ++ [.tup [.int idx, .int 1]])] (GS S0 X1 Y1) = _ := e2
        simp [St.v, kMeth_gs, e1, e2, e3, ht, fldF_obj gs_0, gs_1, gs_s1, h1, h2, h3, hlay]
      | lop a =>
        unfold St.wf at w
        have hsz : (St.lop a).sz = 3 + a.sz := by rw [St.sz]
        rw [hsz] at hz
        have P := a.put_laid (R ++ [[]])
        have pl := P.len
        have pn := P.new
        have ph := P.here
        simp only [List.length_append, List.length_cons, List.length_nil] at pl pn
        have hlay := lay_lop a last R
        have hp2 : a.lay (R.length + 1) (R ++ [[]] ++ [[]]) = a.put (R ++ [[]]) := by unfold Bk.put; simp
        rw [hp2] at hlay
        have hc2 : ∀ (i j n : Nat), closedL n (path ++ [.tup [.int i, .int j]]) = true := fun i j n => closedL_iff.mpr fun x hx => by
          rcases List.mem_append.mp hx with hx | hx
          · exact closedL_iff.mp (hc n) x hx
          · rw [List.mem_singleton.mp hx]; simp [DL.closed, closedL]
        have e0 := place_ok (S0 := S0) (X := X) (Y := Y) (spot := .non) (by omega) (by omega)
        rw [xl] at e0
        obtain ⟨X1, Y1, e1, r1⟩ := ih.2 (d - 1) a (X ++ [.vl []]) (Y ++ [.non]) (R ++ [[]]) (path ++ [.tup [.int idx, .int (0 : Nat)]]) (by omega) w.2.1 (rel.push fun n => by simp [DL.closed]) (by simp; omega) (by simp; omega) (hc2 _ _) (by omega)
        generalize a.put (R ++ [[]]) = p at P pl pn ph hlay e1 r1
        dsimp only at hlay
        have x1 := r1.len
        have y1 := r1.ylen
        have e3 := place_ok (S0 := S0) (X := X1) (Y := Y1) (spot := .tup [.tup path, .int (idx + 1 : Nat)]) (by omega) (by omega)
        rw [x1] at e3
        have rl := (((r1.push (y := .tup [.tup path, .int (idx + 1 : Nat)]) (fun n => by simp [DL.closed, closedL, hc n])).set (j := last) (x := .vl [.tup [.int R.length, .non, .non]]) (row := [R.length]) ⟨[(R.length, .non, .non)], rfl, rfl, fun z hz n => by rw [List.mem_singleton.mp hz]; simp [DL.closed]⟩).set (j := R.length) (x := .vl [.tup [.int (R.length + 1 : Nat), .int 1, .non], .tup [.int p.2.length, .int 0, .non]]) (row := [R.length + 1, p.2.length]) ⟨[(R.length + 1, .int 1, .non), (p.2.length, .int 0, .non)], rfl, rfl, fun z hz n => by
          rcases List.mem_cons.mp hz with rfl | hz
          · simp [DL.closed]
          · rw [List.mem_singleton.mp hz]; simp [DL.closed]⟩).set (j := p.1) (x := .vl [.tup [.int R.length, .non, .non]]) (row := [R.length]) ⟨[(R.length, .non, .non)], rfl, rfl, fun z hz n => by rw [List.mem_singleton.mp hz]; simp [DL.closed]⟩
        refine ⟨_, _, ?_, by rw [hlay]; exact rl⟩
        have h1 : L2.ixN (X1.length + 1) (last : Int) = some last := ixN_nat (by omega)
        have h2 : L2.ixN (X1.length + 1) (p.1 : Int) = some p.1 := ixN_nat (by omega)
        have h3 : L2.ixN (X1.length + 1) (R.length : Int) = some R.length := ixN_nat (by omega)
        have ht : ∀ (x : Val) (S : Store), kTup (path ++ [x]) S = some (.ok (.tup (path ++ [x])), S) := fun x S => kTup_of (by simp; omega)
        simp only [Int.natCast_add, Int.natCast_one] at e3
        simp only [List.length_append, List.length_cons, List.length_nil, Nat.zero_add, Int.natCast_add, Int.natCast_one] at e1
        replace e1 : G_Graph__put_block n [.obj S0.length, .tup a.vs, .tup (path ++ [.tup [.int idx, .int 0]])] (GS S0 (X ++ [.vl []]) (Y ++ [.non])) = _ := e1
        simp [St.v, kMeth_gs, e0, e1, e3, ht, fldF_obj gs_0, gs_1, gs_s1, h1, h2, h3, hlay]
    · rw [G_Graph__put_block_succ, dDef_3]
      unfold b_Graph__put_block
      have xl := rel.len
      have yl := rel.ylen
      have e0 := place_ok (S0 := S0) (X := X) (Y := Y) (spot := .tup [.tup path, .int 0]) (by omega) (by omega)
      rw [xl] at e0
      have r0 := rel.push (y := .tup [.tup path, .int 0]) (fun n => by simp [DL.closed, closedL, hc n])
      generalize hB : Val.tup b.vs = B
      have loop := forL_inv (chk := fun _ => True) (g := gT 2 (gCons' (gN 5) (gCons' (gN 6) gNil'))) (b := l1_Graph__put_block (G_Graph__put_statement n))
        (fun xs ρ W => ∃ (c : Bk) (k last : Nat) (X' Y' : List Val) (R' : Rw) (o5 o6 : Option Val), xs = (c.vs.zipIdx k).map (fun p => Val.tup [.int (p.2 : Nat), p.1]) ∧ c.wf ns d ∧ Rel X' Y' R' ∧ last < R'.length ∧ R'[last]? = some [] ∧ c.lay last R' = b.put R ∧ R'.length + c.sz < 1000000 ∧ W = GS S0 X' Y' ∧ ρ = [some (.obj S0.length), some B, some (.tup path), some (.int R.length), some (.int last), o5, o6])
        (fun _ _ _ _ => trivial) (by
          rintro x xs ρ W ⟨c, k, last, X', Y', R', o5, o6, ex, wc, rl, hl, hf, hk, hs, rfl, rfl⟩
          cases c with
          | nil => simp [Bk.vs] at ex
          | cons s c =>
            rw [Bk.vs, List.zipIdx_cons, List.map_cons] at ex
            obtain ⟨rfl, rfl⟩ := List.cons.inj ex
            unfold Bk.wf at wc
            rw [Bk.lay] at hk
            rw [Bk.sz] at hs
            have A := St.laid s hl hf
            have al := A.len
            obtain ⟨X2, Y2, e, r2⟩ := ih.1 d s X' Y' R' path k last (by omega) wc.1 rl hl hf (by omega) hp hc
            refine ⟨[some (.obj S0.length), some B, some (.tup path), some (.int R.length), some (.int last), some (.int k), some s.v], [some (.obj S0.length), some B, some (.tup path), some (.int R.length), some (.int (s.lay last R').1), some (.int k), some s.v], GS S0 X2 Y2, by simp, ?_, c, k + 1, (s.lay last R').1, X2, Y2, (s.lay last R').2, _, _, rfl, wc.2, r2, A.here, A.free, hk, by omega, rfl, rfl⟩
            simp [l1_Graph__put_block, kMeth_gs, e])
        (enumV b.vs) [some (.obj S0.length), some B, some (.tup path), some (.int R.length), some (.int R.length), none, none] (GS S0 (X ++ [.vl []]) (Y ++ [.tup [.tup path, .int 0]])) ⟨b, 0, R.length, _, _, R ++ [[]], none, none, rfl, w, r0, by simp, by simp, rfl, by simp; omega, rfl, rfl⟩
      obtain ⟨ρ', W', e, c, k, last, X', Y', R', o5, o6, ex, wc, rl, hl, hf, hk, hs, rfl, rfl⟩ := loop
      have hz : c = .nil := by
        cases c with
        | nil => rfl
        | cons _ _ => simp [Bk.vs] at ex
      subst hz
      rw [Bk.lay] at hk
      rw [← hk]
      refine ⟨X', Y', ?_, rl⟩
      subst hB
      simp [kMeth_gs, e0, e]
end K08
set_option Elab.async false
set_option linter.all false
set_option maxRecDepth 100000
set_option maxHeartbeats 4000000
/-! k08, plain mathematics 20: graphs and programs are made. -/
namespace K08
open PySem DL
theorem Rel.closed {X Y : List Val} {R : Rw} (h : Rel X Y R) (n : Nat) : closedL n X = true ∧ closedL n Y = true := by
  refine ⟨closedL_iff.mpr fun x hx => ?_, closedL_iff.mpr fun y hy => h.spot y hy n⟩
  obtain ⟨k, hk⟩ := List.getElem?_of_mem hx
  have hk2 := (List.getElem?_eq_some_iff.mp hk).1
  have hk3 : k < R.length := by rw [← h.len]; exact hk2
  obtain ⟨zs, rfl, _, hz⟩ := h.row k x R[k] hk (List.getElem?_eq_getElem hk3)
  rw [DL.closed]
  exact closedL_iff.mpr fun z hz' => by
    obtain ⟨w, hw, rfl⟩ := List.mem_map.mp hz'
    have := hz w hw n
    simp [DL.closed, closedL, this]
def gV (X Y : List Val) : Val := .vi "Graph" ["steps", "spots"] [.vl X, .vl Y]
theorem ginit_ok {ns : List PySem.Str} {S : Store} {b : Bk} (w : b.wf ns 2) (hl : b.len ≤ 6) : ∃ X Y, F_Graph__init [.obj S.length, .tup b.vs] (S ++ [.ins "Graph" [] []]) = some (.ok .non, GS S X Y) ∧ Rel X Y (b.put []).2 := by
  have sm := flat_small (by decide) (by omega) w
  have sz := b.sz_le
  obtain ⟨X, Y, e, r⟩ := (graph_ok (ns := ns) (S0 := S) (n := 30)).2 2 b [] [] [] [] (by decide) w ⟨rfl, rfl, by simp, by simp⟩ (by simp; omega) (by decide) (fun n => by simp [closedL]) (by omega)
  refine ⟨X, Y, ?_, r⟩
  unfold F_Graph__init
  rw [dDef_2]
  unfold b_Graph__init
  have g1 : ∀ a b : Ob, (S ++ [a, b])[S.length]? = some a := fun a b => by simp
  have g2 : ∀ a b c : Ob, (S ++ [a, b]).set S.length c = S ++ [c, b] := fun a b c => by rw [List.set_append_right _ _ (Nat.le_refl _)]; simp
  have g3 : ∀ a b c : Ob, (S ++ [a, b, c])[S.length]? = some a := fun a b c => by simp
  have g4 : ∀ a b c d : Ob, (S ++ [a, b, c]).set S.length d = S ++ [d, b, c] := fun a b c d => by rw [List.set_append_right _ _ (Nat.le_refl _)]; simp
  have hG : S ++ [.ins "Graph" ["steps", "spots"] [.obj (S.length + 1), .obj (S.length + 2)], .lst [], .lst []] = GS S [] [] := rfl
  have km := @kMeth_gs S [] [] "put_block" (G_Graph__put_block 30)
  have s1 : ∀ (x y : Val) (i : Nat) (S : Store) (ρ : Slots), setFE "Graph" "steps" ρ y i S (some (.ins "Graph" [] [])) = some (.nx ρ, S.set i (.ins "Graph" ["steps"] [y])) := fun x y i S ρ => setFE_ins (by decide)
  have s2 : ∀ (x y : Val) (i : Nat) (S : Store) (ρ : Slots), setFE "Graph" "spots" ρ y i S (some (.ins "Graph" ["steps"] [x])) = some (.nx ρ, S.set i (.ins "Graph" ["steps", "spots"] [x, y])) := fun x y i S ρ => by
    rw [setFE_ins (by simp)]
    simp
  simp [s1 .non, s2, g1, g2, g3, g4, hG, km, e]
theorem gcut_ok {S : Store} {X Y : List Val} {R : Rw} (r : Rel X Y R) : cutO S (some (.ok (.obj S.length), GS S X Y)) = some (.ok (gV X Y), S) := by
  refine cutO_frz (S := S) (S1 := S) (T := [.ins "Graph" ["steps", "spots"] [.obj (S.length + 1), .obj (S.length + 2)], .lst X, .lst Y]) rfl (fun i o h => .inl h) (frz_ins (Nat.le_refl _) gs_0 ?_)
  have c := r.closed S.length
  have f1 : frz S.length (GS S X Y) 19 (.obj (S.length + 1)) = some (.vl X) := frz_lst (by omega) gs_1 (frzL_id 18 X c.1)
  have f2 : frz S.length (GS S X Y) 19 (.obj (S.length + 2)) = some (.vl Y) := frz_lst (by omega) gs_2 (frzL_id 18 Y c.2)
  have e : frzL S.length (GS S X Y) 19 [] = some [] := by unfold frzL; rfl
  have e2 : frzL S.length (GS S X Y) 19 [.obj (S.length + 2)] = some [.vl Y] := by unfold frzL; rw [f2, e]
  show frzL S.length (GS S X Y) 19 [.obj (S.length + 1), .obj (S.length + 2)] = _
  unfold frzL
  rw [f1, e2]
theorem gmake_ok {ns : List PySem.Str} {S : Store} {ρ : Slots} {d : ED} {b : Bk} (w : b.wf ns 2) (hl : b.len ≤ 6) (hd : d ρ S = some (.ok (.tup b.vs), S)) : ∃ X Y, dCut (dMake "Graph" F_Graph__init (dCons d dNil)) ρ S = some (.ok (gV X Y), S) ∧ Rel X Y (b.put []).2 := by
  obtain ⟨X, Y, e, r⟩ := ginit_ok (S := S) w hl
  refine ⟨X, Y, ?_, r⟩
  simp [hd, e]
  exact gcut_ok r
end K08
set_option Elab.async false
set_option linter.all false
set_option maxRecDepth 100000
set_option maxHeartbeats 4000000
/-! k08, plain mathematics 21: a program is made. -/
namespace K08
open PySem DL
theorem dcL_nil {chk : Store → Prop} {g : GD} {tt : TD} {dk d : ED} {ρ : Slots} {S : Store} (hc : chk S) : dcL chk g tt dk d ρ [] S = some ([], S) := by unfold dcL; exact if_pos hc
theorem dcL_cons {chk : Store → Prop} {g : GD} {tt : TD} {dk d : ED} {ρ ρ1 : Slots} {S S1 S2 S3 S4 : Store} {x k y : Val} {j : L2.Key} {xs : List Val} {ys : List (L2.Key × Val)} (hc : chk S) (h1 : g x ρ = some ρ1) (h2 : tt ρ1 S = some (.ok true, S1)) (h3 : dk ρ1 S1 = some (.ok k, S2)) (h4 : d ρ1 S2 = some (.ok y, S3)) (hk : keyOf k = some j) (h5 : dcL chk g tt dk d ρ xs S3 = some (ys, S4)) :
    dcL chk g tt dk d ρ (x :: xs) S = some ((j, y) :: ys, S4) := by
  unfold dcL
  rw [if_pos hc, h1]
  simp only [h2, h3, h4, hk, h5]
def GrOk (b : Bk) (v : Val) : Prop := ∃ X Y, v = gV X Y ∧ Rel X Y (b.put []).2
inductive GrAll : List Hn → List Val → Prop where
  | nil : GrAll [] []
  | cons {h : Hn} {v : Val} {hs : List Hn} {vs : List Val} : GrOk h.b v → GrAll hs vs → GrAll (h :: hs) (v :: vs)
theorem GrOk.closed {b : Bk} {v : Val} (h : GrOk b v) (n : Nat) : DL.closed n v = true := by
  obtain ⟨X, Y, rfl, r⟩ := h
  have := r.closed n
  simp [gV, DL.closed, closedL, this]
theorem GrAll.closed {n : Nat} : ∀ {hs : List Hn} {vs : List Val}, GrAll hs vs → closedL n vs = true
  | _, _, .nil => by simp [closedL]
  | _, _, .cons a b => by unfold closedL; rw [a.closed n, b.closed]; rfl
theorem GrAll.len : ∀ {hs : List Hn} {vs : List Val}, GrAll hs vs → vs.length = hs.length
  | _, _, .nil => rfl
  | _, _, .cons a b => by simp [b.len]
def Pt.prog (p : Pt) (gs : List Val) (gm : Val) : Val := .vi "Program" ["content", "graphs", "main_graph"] [p.v, .vd (p.hs.map fun h => .inr h.nm) gs, gm]
theorem graphs_ok {sh : List PySem.Str} {W : Store} {ρ : Slots} (hρ : ∀ x, (ρ.set 4 (some x))[4]? = some (some x)) : ∀ hs : List Hn, (∀ h ∈ hs, h.Ok sh) → ∃ gs, dcL (fun _ => True) (gN 4) dYes (dOp2 ixF (dVar 4) (dC (.int 0))) (dCut (dMake "Graph" F_Graph__init (dCons (dOp2 ixF (dVar 4) (dC (.int 5))) dNil))) ρ (hs.map Hn.v) W = some ((hs.map fun h => (Sum.inr h.nm : L2.Key)).zip gs, W) ∧ GrAll hs gs
  | [], _ => ⟨[], by simp [dcL_nil], .nil⟩
  | h :: hs, ok => by
    obtain ⟨gs, e, all⟩ := graphs_ok hρ hs fun x hx => ok x (List.mem_cons_of_mem _ hx)
    have hok := ok h (List.mem_cons_self ..)
    have hv : dVar 4 (ρ.set 4 (some h.v)) W = some (.ok h.v, W) := by unfold dVar; simp only [hρ]
    obtain ⟨X, Y, eg, r⟩ := gmake_ok (S := W) (ρ := ρ.set 4 (some h.v)) (d := dOp2 ixF (dVar 4) (dC (.int 5))) hok.wf hok.len (by rw [dOp2_eq, hv]; simp [Hn.v])
    refine ⟨gV X Y :: gs, ?_, .cons ⟨X, Y, rfl, r⟩ all⟩
    rw [List.map_cons, List.map_cons, List.zip_cons_cons]
    exact dcL_cons (k := .str h.nm) trivial rfl rfl (by rw [dOp2_eq, hv]; simp [Hn.v]) eg rfl e
end K08
set_option Elab.async false
set_option linter.all false
set_option maxRecDepth 100000
set_option maxHeartbeats 4000000
/-! k08, plain mathematics 22: a program is made. -/
namespace K08
open PySem DL
theorem Hn.closed {sh : List PySem.Str} {h : Hn} (ok : h.Ok sh) (n : Nat) : DL.closed n h.v = true := by
  have c := Bk.closed (n := n) ok.wf
  have c2 : closedL n (h.own.map Val.str) = true := closedL_iff.mpr fun x hx => by
    obtain ⟨s, _, rfl⟩ := List.mem_map.mp hx
    simp [DL.closed]
  rcases ok.wait with q | q | q <;> simp [Hn.v, DL.closed, closedL, c, c2, q]
theorem strs_closed (n : Nat) (ss : List PySem.Str) : closedL n (ss.map Val.str) = true := closedL_iff.mpr fun x hx => by
  obtain ⟨s, _, rfl⟩ := List.mem_map.mp hx
  simp [DL.closed]
theorem Pt.closed {p : Pt} (ok : p.Ok) (n : Nat) : DL.closed n p.v = true := by
  have c := Bk.closed (n := n) ok.wf
  have ch : closedL n p.hv = true := closedL_iff.mpr fun x hx => by
    obtain ⟨h, hh, rfl⟩ := List.mem_map.mp hx
    exact Hn.closed (ok.hs h hh) n
  simp [Pt.v, Pt.main, DL.closed, closedL, c, ch, strs_closed]
theorem hs_len {p : Pt} (h : p.Ok) : 1 ≤ p.hs.length ∧ p.hs.length ≤ 2 ∧ (p.hs.map Hn.nm).Nodup := by
  have q : (p.hs.map Hn.nm).length = p.hs.length := List.length_map ..
  rcases h.nms with e | e <;> rw [e] at q <;> simp at q <;> refine ⟨by omega, by omega, by rw [e]; decide⟩
theorem zip_fst {α β : Type} : ∀ {xs : List α} {ys : List β}, xs.length = ys.length → (xs.zip ys).map (·.1) = xs ∧ (xs.zip ys).map (·.2) = ys
  | [], [], _ => ⟨rfl, rfl⟩
  | x :: xs, y :: ys, h => by
    have ih := zip_fst (xs := xs) (ys := ys) (by simpa using h)
    simp [ih.1, ih.2]
theorem pinit_ok {p : Pt} {S : Store} (ok : p.Ok) : ∃ gs gm, F_Program__init [.obj S.length, .tup (p.sh.map .str), p.main, .tup p.hv] (S ++ [.ins "Program" [] []]) = some (.ok .non, S ++ [.ins "Program" ["content", "graphs", "main_graph"] [p.v, .vd (p.hs.map fun h => .inr h.nm) gs, gm]]) ∧ GrAll p.hs gs ∧ GrOk p.b gm := by
  have hl := hs_len ok
  have g1 : ∀ a : Ob, (S ++ [a])[S.length]? = some a := fun a => by simp
  have g2 : ∀ a b : Ob, (S ++ [a]).set S.length b = S ++ [b] := fun a b => by rw [List.set_append_right _ _ (Nat.le_refl _)]; simp
  have s1 : ∀ (y : Val) (i : Nat) (S : Store) (ρ : Slots), setFE "Program" "content" ρ y i S (some (.ins "Program" [] [])) = some (.nx ρ, S.set i (.ins "Program" ["content"] [y])) := fun y i S ρ => setFE_ins (by decide)
  have s2 : ∀ (x y : Val) (i : Nat) (S : Store) (ρ : Slots), setFE "Program" "graphs" ρ y i S (some (.ins "Program" ["content"] [x])) = some (.nx ρ, S.set i (.ins "Program" ["content", "graphs"] [x, y])) := fun x y i S ρ => by
    rw [setFE_ins (by simp)]
    simp
  have s3 : ∀ (x y z : Val) (i : Nat) (S : Store) (ρ : Slots), setFE "Program" "main_graph" ρ z i S (some (.ins "Program" ["content", "graphs"] [x, y])) = some (.nx ρ, S.set i (.ins "Program" ["content", "graphs", "main_graph"] [x, y, z])) := fun x y z i S ρ => by
    rw [setFE_ins (by simp)]
    simp
  obtain ⟨gs, e1, all⟩ := graphs_ok (W := S ++ [.ins "Program" ["content"] [p.v]]) (ρ := [some (.obj S.length), some (.tup (p.sh.map .str)), some p.main, some (.tup p.hv), none]) (fun x => rfl) p.hs ok.hs
  have zz := zip_fst (xs := p.hs.map fun h => (Sum.inr h.nm : L2.Key)) (ys := gs) (by rw [all.len, List.length_map])
  have e2 : dcE (some ((p.hs.map fun h => (Sum.inr h.nm : L2.Key)).zip gs, S ++ [.ins "Program" ["content"] [p.v]])) = some (.ok (.vd (p.hs.map fun h => .inr h.nm) gs), S ++ [.ins "Program" ["content"] [p.v]]) := by
    have hlen : ((p.hs.map fun h => (Sum.inr h.nm : L2.Key)).zip gs).length ≤ 1000000 := by rw [List.length_zip, List.length_map]; omega
    have hnd : (((p.hs.map fun h => (Sum.inr h.nm : L2.Key)).zip gs).map (·.1)).Nodup := by
      rw [zz.1]
      have := List.Pairwise.map (S := fun a b : L2.Key => a ≠ b) (Sum.inr : PySem.Str → L2.Key) (fun a b hab e => hab (Sum.inr.inj e)) hl.2.2
      rw [List.map_map] at this
      exact this
    show (if _ then _ else _) = _
    rw [if_pos ⟨hlen, hnd⟩, zz.1, zz.2]
  obtain ⟨X, Y, e3, r⟩ := gmake_ok (S := S ++ [.ins "Program" ["content", "graphs"] [p.v, .vd (p.hs.map fun h => .inr h.nm) gs]]) (ρ := [some (.obj S.length), some (.tup (p.sh.map .str)), some p.main, some (.tup p.hv), none]) (d := dOp2 ixF (dVar 2) (dC (.int 2))) ok.wf ok.len (by simp [Pt.main])
  refine ⟨gs, gV X Y, ?_, all, ⟨X, Y, rfl, r⟩⟩
  have e0 : ∀ S, F_check_parts [.tup (p.sh.map .str), p.main, .tup p.hv] S = _ := fun S => check_ok ok
  unfold F_Program__init
  rw [dDef_4]
  unfold b_Program__init
  show endD (dSeq _ _ [some (.obj S.length), some (.tup (p.sh.map .str)), some p.main, some (.tup p.hv), none] (S ++ [.ins "Program" [] []])) = _
  have t0 : dExpr (dCall F_check_parts [] (dCons (dVar 1) (dCons (dVar 2) (dCons (dVar 3) dNil)))) [some (.obj S.length), some (.tup (p.sh.map .str)), some p.main, some (.tup p.hv), none] (S ++ [.ins "Program" [] []]) = some (.nx [some (.obj S.length), some (.tup (p.sh.map .str)), some p.main, some (.tup p.hv), none], S ++ [.ins "Program" [] []]) := by
    simp [e0]
  have t1 : dSetF "Program" "content" (dVar 0) (dTup (dCons (dVar 1) (dCons (dVar 2) (dCons (dVar 3) dNil)))) [some (.obj S.length), some (.tup (p.sh.map .str)), some p.main, some (.tup p.hv), none] (S ++ [.ins "Program" [] []]) = some (.nx [some (.obj S.length), some (.tup (p.sh.map .str)), some p.main, some (.tup p.hv), none], S ++ [.ins "Program" ["content"] [p.v]]) := by
    simp [g1, g2, s1, Pt.v]
  have t2 : dSetF "Program" "graphs" (dVar 0) (dDc (dSeqI (dVar 3)) (gN 4) dYes (dOp2 ixF (dVar 4) (dC (.int 0))) (dCut (dMake "Graph" F_Graph__init (dCons (dOp2 ixF (dVar 4) (dC (.int 5))) dNil))) [4]) [some (.obj S.length), some (.tup (p.sh.map .str)), some p.main, some (.tup p.hv), none] (S ++ [.ins "Program" ["content"] [p.v]]) = some (.nx [some (.obj S.length), some (.tup (p.sh.map .str)), some p.main, some (.tup p.hv), none], S ++ [.ins "Program" ["content", "graphs"] [p.v, .vd (p.hs.map fun h => .inr h.nm) gs]]) := by
    have q : dDc (dSeqI (dVar 3)) (gN 4) dYes (dOp2 ixF (dVar 4) (dC (.int 0))) (dCut (dMake "Graph" F_Graph__init (dCons (dOp2 ixF (dVar 4) (dC (.int 5))) dNil))) [4] [some (.obj S.length), some (.tup (p.sh.map .str)), some p.main, some (.tup p.hv), none] (S ++ [.ins "Program" ["content"] [p.v]]) = some (.ok (.vd (p.hs.map fun h => .inr h.nm) gs), S ++ [.ins "Program" ["content"] [p.v]]) := by
      rw [dDc_eq, dSeqI_eq]
      show bindO (kSeqI (.tup p.hv) _) _ = _
      rw [kSeqI_tup]
      show dcE (dcL (fun _ => True) _ _ _ _ _ (p.hs.map Hn.v) _) = _
      rw [← e2, ← e1]
      rfl
    rw [dSetF_eq, q]
    simp [g1, g2, s2]
  have t3 : dSetF "Program" "main_graph" (dVar 0) (dCut (dMake "Graph" F_Graph__init (dCons (dOp2 ixF (dVar 2) (dC (.int 2))) dNil))) [some (.obj S.length), some (.tup (p.sh.map .str)), some p.main, some (.tup p.hv), none] (S ++ [.ins "Program" ["content", "graphs"] [p.v, .vd (p.hs.map fun h => .inr h.nm) gs]]) = some (.nx [some (.obj S.length), some (.tup (p.sh.map .str)), some p.main, some (.tup p.hv), none], S ++ [.ins "Program" ["content", "graphs", "main_graph"] [p.v, .vd (p.hs.map fun h => .inr h.nm) gs, gV X Y]]) := by
    rw [dSetF_eq, e3]
    simp [g1, g2, s3]
  rw [seq_nx t0, seq_nx t1, seq_nx t2, t3]
  rfl
theorem pcut_ok {p : Pt} {S : Store} {gs : List Val} {gm : Val} (ok : p.Ok) (h1 : GrAll p.hs gs) (h2 : GrOk p.b gm) : cutO S (some (.ok (.obj S.length), S ++ [.ins "Program" ["content", "graphs", "main_graph"] [p.v, .vd (p.hs.map fun h => .inr h.nm) gs, gm]])) = some (.ok (p.prog gs gm), S) := by
  refine cutO_frz (S := S) (S1 := S) (T := [.ins "Program" ["content", "graphs", "main_graph"] [p.v, .vd (p.hs.map fun h => .inr h.nm) gs, gm]]) rfl (fun i o h => .inl h) (frz_ins (cl := "Program") (ns := ["content", "graphs", "main_graph"]) (xs := [p.v, .vd (p.hs.map fun h => .inr h.nm) gs, gm]) (Nat.le_refl _) (by simp) (frzL_id 19 _ ?_))
  have c1 := Pt.closed ok S.length
  have c2 := h1.closed (n := S.length)
  have c3 := h2.closed S.length
  simp [closedL, DL.closed, c1, c2, c3]
theorem pmake_ok {p : Pt} {S : Store} {ρ : Slots} {d1 d2 d3 : ED} (ok : p.Ok) (h1 : d1 ρ S = some (.ok (.tup (p.sh.map .str)), S)) (h2 : d2 ρ S = some (.ok p.main, S)) (h3 : d3 ρ S = some (.ok (.tup p.hv), S)) : ∃ gs gm, dCut (dMake "Program" F_Program__init (dCons d1 (dCons d2 (dCons d3 dNil)))) ρ S = some (.ok (p.prog gs gm), S) ∧ GrAll p.hs gs ∧ GrOk p.b gm := by
  obtain ⟨gs, gm, e, a, b⟩ := pinit_ok (S := S) ok
  refine ⟨gs, gm, ?_, a, b⟩
  simp [h1, h2, h3, e]
  exact pcut_ok ok a b
end K08
set_option Elab.async false
set_option linter.all false
set_option maxRecDepth 100000
set_option maxHeartbeats 4000000
/-! k08, plain mathematics 23: what a program tells. -/
namespace K08
open PySem DL
theorem GrAll.get : ∀ {hs : List Hn} {gs : List Val} {h : Hn}, GrAll hs gs → (hs.map Hn.nm).Nodup → h ∈ hs → ∃ g, dget (.inr h.nm) (hs.map fun h => (Sum.inr h.nm : L2.Key)) gs = some g ∧ GrOk h.b g
  | _, _, h, .nil, _, m => by simp at m
  | _, _, h, .cons (h := a) (hs := hs) (v := v) x y, nd, m => by
    rw [List.map_cons, List.nodup_cons] at nd
    rcases List.mem_cons.mp m with rfl | m
    · exact ⟨v, by simp [dget], x⟩
    · obtain ⟨g, e, ok⟩ := GrAll.get y nd.2 m
      refine ⟨g, ?_, ok⟩
      have ne : ¬ h.nm = a.nm := fun q => nd.1 (q ▸ List.mem_map_of_mem m)
      have ne2 : ¬ a.nm = h.nm := fun q => ne q.symm
      simp [dget, ne, ne2, e]
/-- an owner: its block, its rank -/
def Ow (p : Pt) (o : PySem.Str) (b : Bk) (rk : Int) : Prop := (o = "main" ∧ b = p.b ∧ rk = 0) ∨ ∃ h ∈ p.hs, o = h.nm ∧ b = h.b ∧ rk = h.rank
section
variable {p : Pt} {gs : List Val} {gm : Val} {S : Store} {o : PySem.Str} {b : Bk} {rk : Int}
theorem nm_main {h : Hn} (ok : h.Ok p.sh) : ¬ h.nm = "main" := by rcases ok.nm with e | e <;> rw [e] <;> simp
theorem fld_content : fldF "Program" "content" S (p.prog gs gm) = some p.v := by unfold Pt.prog; simp
theorem ix_v2 : ixF S p.v (.int 2) = some (.tup (p.hs.map Hn.v)) := by unfold Pt.v Pt.hv; simp
theorem ix_v1 : ixF S p.v (.int 1) = some p.main := by unfold Pt.v; simp
theorem ix_v0 : ixF S p.v (.int 0) = some (.tup (p.sh.map .str)) := by unfold Pt.v; simp
theorem ix_m2 : ixF S p.main (.int 2) = some (.tup p.b.vs) := by unfold Pt.main; simp
theorem graph_of_ok (ok : p.Ok) (ga : GrAll p.hs gs) (gk : GrOk p.b gm) (w : Ow p o b rk) : ∃ g, (∀ S : Store, F_graph_of [p.prog gs gm, .str o] S = some (.ok g, S)) ∧ GrOk b g := by
  rcases w with ⟨rfl, rfl, _⟩ | ⟨h, hh, rfl, rfl, _⟩
  · refine ⟨gm, fun S => ?_, gk⟩
    unfold F_graph_of
    rw [dDef_2]
    unfold b_graph_of Pt.prog
    simp
  · obtain ⟨g, e, k⟩ := ga.get (hs_len ok).2.2 hh
    refine ⟨g, fun S => ?_, k⟩
    have ne := nm_main (ok.hs h hh)
    unfold F_graph_of
    rw [dDef_2]
    unfold b_graph_of Pt.prog
    simp [ne, e]
theorem check_owner_ok (ok : p.Ok) (ga : GrAll p.hs gs) (w : Ow p o b rk) : F_check_owner [p.prog gs gm, .str o] S = some (.ok .non, S) := by
  rcases w with ⟨rfl, rfl, _⟩ | ⟨h, hh, rfl, rfl, _⟩
  · unfold F_check_owner
    rw [dDef_2]
    unfold b_check_owner Pt.prog
    simp
  · obtain ⟨g, e, k⟩ := ga.get (hs_len ok).2.2 hh
    have ne := nm_main (ok.hs h hh)
    have i : inD true S (.str h.nm) (.vd (p.hs.map fun h => (Sum.inr h.nm : L2.Key)) gs) = some (.bl false) := by
      show some (Val.bl (if true = true then !(dget (.inr h.nm) _ gs).isSome else _)) = _
      rw [e]
      rfl
    unfold F_check_owner
    rw [dDef_2]
    unfold b_check_owner Pt.prog
    simp [ne, i]
theorem places_ok (ok : p.Ok) (ga : GrAll p.hs gs) (gk : GrOk p.b gm) (w : Ow p o b rk) : F_places [p.prog gs gm, .str o] S = some (.ok (.int (b.put []).2.length), S) := by
  obtain ⟨g, e, X, Y, rfl, r⟩ := graph_of_ok ok ga gk w
  have c := check_owner_ok (gm := gm) (S := S) ok ga w
  have l := r.len
  unfold F_places
  rw [dDef_2]
  unfold b_places
  simp [c, e, gV, l]
theorem next_ok (ok : p.Ok) (ga : GrAll p.hs gs) (gk : GrOk p.b gm) (w : Ow p o b rk) {k : Nat} {row : List Nat} (hk : (b.put []).2[k]? = some row) (hz : row.length < 1000) : F_next_places [p.prog gs gm, .int k, .str o] S = some (.ok (.vl (vr row)), S) := by
  obtain ⟨g, e, X, Y, rfl, r⟩ := graph_of_ok ok ga gk w
  have c := check_owner_ok (gm := gm) (S := S) ok ga w
  have l := r.len
  have kl := (List.getElem?_eq_some_iff.mp hk).1
  have hx : X[k]? = some X[k] := List.getElem?_eq_getElem (by omega)
  obtain ⟨zs, ez, er, _⟩ := r.row k X[k] row hx hk
  rw [ez] at hx
  have cp : F_check_place [p.prog gs gm, .int k, .str o] S = some (.ok .non, S) := by
    have ib := is_between_ok (S := S) (i := k) (lo := 0) (hi := (X.length : Int) - 1) (by omega) (by omega)
    unfold F_check_place
    rw [dDef_3]
    unfold b_check_place
    simp [e, gV, ib]
  have lc : lcL (fun _ => True) (gT 3 (gCons' (gN 3) (gCons' (gN 4) (gCons' (gN 5) gNil')))) dYes (dVar 3) [some (p.prog gs gm), some (.int k), some (.str o), none, none, none] (zs.map fun z => Val.tup [.int z.1, z.2.1, z.2.2]) S = some (vr row, S) := by
    have := lcL_map (chk := fun _ => True) (g := gT 3 (gCons' (gN 3) (gCons' (gN 4) (gCons' (gN 5) gNil')))) (tt := dYes) (d := dVar 3) (ρ := [some (p.prog gs gm), some (.int k), some (.str o), none, none, none]) (S := S) trivial (fun v => match v with | .tup (t :: _) => t | _ => .non) (zs.map fun z => Val.tup [.int z.1, z.2.1, z.2.2]) (fun x hx => by
      obtain ⟨z, hz, rfl⟩ := List.mem_map.mp hx
      exact ⟨_, by rw [gT_3]; rfl, rfl, rfl⟩)
    rw [this, List.map_map, er]
    unfold vr
    rw [List.map_map]
    rfl
  have le : lcE (some (vr row, S)) = some (.ok (.vl (vr row)), S) := lcE_of (by unfold vr; rw [List.length_map]; omega)
  unfold F_next_places
  rw [dDef_3]
  unfold b_next_places
  simp [c, cp, e, gV, atI_nat, hx, lc, le]
theorem handler_find (ok : p.Ok) (ga : GrAll p.hs gs) : ∀ {hs : List Hn} {h : Hn} (P : Val) (o2 : Option Val), (∀ g ∈ hs, g.Ok p.sh) → (hs.map Hn.nm).Nodup → h ∈ hs → forL (fun _ => True) (gN 2) l1_Program__handler (hs.map Hn.v) [some P, some (.str h.nm), o2] S = some (.rt h.v, S)
  | [], h, P, o2, _, _, m => by simp at m
  | a :: hs, h, P, o2, oks, nd, m => by
    rw [List.map_cons, List.nodup_cons] at nd
    rcases List.mem_cons.mp m with rfl | m
    · rw [List.map_cons]
      exact forL_ret trivial rfl (by simp [l1_Program__handler, Hn.v])
    · have ne : ¬ a.nm = h.nm := fun q => nd.1 (q.symm ▸ List.mem_map_of_mem m)
      rw [List.map_cons, forL_cons (ρ1 := [some P, some (.str h.nm), some a.v]) (ρ2 := [some P, some (.str h.nm), some a.v]) (S2 := S) trivial rfl (by
        simp only [l1_Program__handler]
        have : dOp2 eqF (dOp2 ixF (dVar 2) (dC (.int 0))) (dVar 1) [some P, some (.str h.nm), some a.v] S = some (.ok (.bl false), S) := by simp [Hn.v, ne]
        rw [if_no]
        · rfl
        · rw [dAndT_eq]
          show bindO (bindO (dIsi "str" (dVar 1) _ S) kTv) _ = _
          simp [Hn.v, ne])]
      exact handler_find ok ga P _ (fun g hg => oks g (List.mem_cons_of_mem _ hg)) nd.2 m
theorem rank_ok (ok : p.Ok) (ga : GrAll p.hs gs) (w : Ow p o b rk) : F_rank_of [p.prog gs gm, .str o] S = some (.ok (.int rk), S) := by
  rcases w with ⟨rfl, rfl, rfl⟩ | ⟨h, hh, rfl, rfl, rfl⟩
  · unfold F_rank_of
    rw [dDef_2]
    unfold b_rank_of
    simp
  · have ne := nm_main (ok.hs h hh)
    have e := handler_find (S := S) ok ga (p.prog gs gm) none ok.hs (hs_len ok).2.2 hh
    have eh : F_Program__handler [p.prog gs gm, .str h.nm] S = some (.ok h.v, S) := by
      unfold F_Program__handler
      rw [dDef_2]
      unfold b_Program__handler
      simp [fld_content, ix_v2, e]
    have km : ∀ (m : PySem.Str) (F : FD) (ds : AD) (ρ : Slots), ¬ m = "content" → ¬ m = "graphs" → ¬ m = "main_graph" → kMeth "Program" m F ds ρ (p.prog gs gm) S = bindO (ds ρ S) (kMeth2 F (p.prog gs gm)) := fun m F ds ρ h1 h2 h3 => kMeth_of (S := S) (x := p.prog gs gm) rfl (by simp [h1, h2, h3])
    unfold F_rank_of
    rw [dDef_2]
    unfold b_rank_of
    simp [ne, km, eh]
    simp [Hn.v]
/-- names of handlers above a rank -/
def above (hs : List Hn) (rk : Int) : List PySem.Str := (hs.filter fun h => decide (rk < h.rank)).map Hn.nm
theorem above_lc {hs : List Hn} {ρ : Slots} {i : Nat} {g : GD} {tt : TD} {d : ED} (hg : ∀ h ∈ hs, ∃ ρ1, g h.v ρ = some ρ1 ∧ tt ρ1 S = some (.ok (decide (rk < h.rank)), S) ∧ d ρ1 S = some (.ok (.str h.nm), S)) : lcL (fun _ => True) g tt d ρ (hs.map Hn.v) S = some ((above hs rk).map .str, S) := by
  have := lcL_filter (chk := fun _ => True) (g := g) (tt := tt) (d := d) (ρ := ρ) (S := S) trivial (fun v => match v with | .tup (_ :: .int r :: _) => decide (rk < r) | _ => false) (fun v => match v with | .tup (n :: _) => n | _ => .non) (hs.map Hn.v) (fun x hx => by
    obtain ⟨h, hh, rfl⟩ := List.mem_map.mp hx
    obtain ⟨ρ1, a, b, c⟩ := hg h hh
    exact ⟨ρ1, a, b, fun _ => c⟩)
  rw [this, List.filter_map, List.map_map]
  unfold above
  rw [List.map_map]
  rfl
theorem comers_ok (ok : p.Ok) (ga : GrAll p.hs gs) (w : Ow p o b rk) : F_comers [p.prog gs gm, .str o] S = some (.ok (.vl ((above p.hs rk).map .str)), S) := by
  have c := check_owner_ok (gm := gm) (S := S) ok ga w
  have r := rank_ok (gm := gm) (S := S) ok ga w
  have hl := hs_len ok
  have lc : lcL (fun _ => True) (gN 3) (dTv (dOp2 (ltF fun i j => decide (j < i)) (dOp2 ixF (dVar 3) (dC (.int 1))) (dVar 2))) (dOp2 ixF (dVar 3) (dC (.int 0))) [some (p.prog gs gm), some (.str o), some (.int rk), none] (p.hs.map Hn.v) S = some ((above p.hs rk).map .str, S) := above_lc (i := 0) fun h hh => ⟨_, rfl, by simp [Hn.v], by simp [Hn.v]⟩
  have le : lcE (some ((above p.hs rk).map Val.str, S)) = some (.ok (.vl ((above p.hs rk).map .str)), S) := lcE_of (by
    unfold above
    rw [List.length_map, List.length_map]
    have := List.length_filter_le (fun h : Hn => decide (rk < h.rank)) p.hs
    omega)
  have cc : F_comers_of [p.prog gs gm, .str o] S = some (.ok (.vl ((above p.hs rk).map .str)), S) := by
    unfold F_comers_of
    rw [dDef_2]
    unfold b_comers_of
    simp [r, fld_content, ix_v2, lc, le]
  unfold F_comers
  rw [dDef_2]
  unfold b_comers
  simp [c, cc]
end
end K08
set_option Elab.async false
set_option linter.all false
set_option maxRecDepth 100000
set_option maxHeartbeats 4000000
/-! k08, plain mathematics 24: rows compared; an owner's graph holds. -/
namespace K08
open PySem DL
def Short (R : Rw) : Prop := ∀ row ∈ R, row.length ≤ 2
theorem Short.push {R : Rw} (h : Short R) : Short (R ++ [[]]) := fun row hr => by
  rcases List.mem_append.mp hr with hr | hr
  · exact h row hr
  · rw [List.mem_singleton.mp hr]; simp
theorem Short.set {R : Rw} {j : Nat} {x : List Nat} (h : Short R) (hx : x.length ≤ 2) : Short (R.set j x) := fun row hr => by
  rcases List.mem_or_eq_of_mem_set hr with hr | rfl
  · exact h row hr
  · exact hx
mutual
theorem St.short : ∀ (s : St) {last : Nat} {R : Rw}, Short R → Short (s.lay last R).2
  | .smp v, last, R, h => by unfold St.lay; exact h.push.set (by simp)
  | .eit a b, last, R, h => by
    unfold St.lay
    exact (((Bk.short b (Bk.short a h.push).push).push.set (by simp)).set (by simp)).set (by simp)
  | .lop a, last, R, h => by
    unfold St.lay
    exact (((Bk.short a h.push.push).push.set (by simp)).set (by simp)).set (by simp)
theorem Bk.short : ∀ (b : Bk) {last : Nat} {R : Rw}, Short R → Short (b.lay last R).2
  | .nil, last, R, h => by unfold Bk.lay; exact h
  | .cons s b, last, R, h => by unfold Bk.lay; exact Bk.short b (St.short s h)
end
theorem put_short (b : Bk) : Short (b.put []).2 := Bk.short b (Short.push (by intro r h; simp at h))
theorem put_len {ns : List PySem.Str} {b : Bk} (w : b.wf ns 2) (hl : b.len ≤ 6) : (b.put []).2.length = 1 + b.sz ∧ b.sz ≤ 375000 := by
  have sm := flat_small (by decide) (by omega) w
  have sz := b.sz_le
  have P := (b.put_laid []).len
  simp at P
  exact ⟨by omega, by omega⟩
/-! ### rows compared -/
def rowD (row : List Nat) : PyData := .list (row.map fun (n : Nat) => .int n)
theorem toPDs_map {α : Type} {S : Store} {n : Nat} {f : α → Val} {g : α → PyData} : ∀ xs : List α, (∀ x ∈ xs, toPD S n (f x) = some (g x)) → toPDs S n (xs.map f) = some (xs.map g)
  | [], _ => by simp [toPDs]
  | x :: xs, h => by
    have ih := toPDs_map xs fun y m => h y (List.mem_cons_of_mem _ m)
    rw [List.map_cons, List.map_cons, toPDs, h x (List.mem_cons_self ..), ih]
theorem toPDs_vr {S : Store} {n : Nat} (row : List Nat) : toPDs S n (vr row) = some (row.map fun (k : Nat) => PyData.int k) :=
  toPDs_map row fun x _ => by rw [toPD]
theorem toPD_vl {S : Store} {n : Nat} (R : Rw) : toPD S n (.vl (R.map fun row => .vl (vr row))) = some (.list (R.map rowD)) := by
  rw [toPD, toPDs_map (g := rowD) R fun row _ => by rw [toPD, toPDs_vr]; rfl]
  rfl
theorem toPDs_obj {S : Store} {n : Nat} : ∀ (ids : List Nat) (R : Rw), ids.length = R.length → (∀ (k i : Nat) (row : List Nat), ids[k]? = some i → R[k]? = some row → S[i]? = some (.lst (vr row))) → toPDs S (n + 1) (ids.map .obj) = some (R.map rowD)
  | [], [], _, _ => by simp [toPDs]
  | [], _ :: _, h, _ => by simp at h
  | _ :: _, [], h, _ => by simp at h
  | i :: ids, row :: R, hl, h => by
    have ih := toPDs_obj (n := n) ids R (by simpa using hl) fun k j rw' h1 h2 => h (k + 1) j rw' (by simpa using h1) (by simpa using h2)
    have h0 := h 0 i row rfl rfl
    have e : toPD S (n + 1) (.obj i) = some (rowD row) := by
      rw [toPD, h0]
      simp only
      rw [toPDs_vr]
      rfl
    rw [List.map_cons, List.map_cons, toPDs, e, ih]
theorem toPD_rows {n0 r : Nat} {S : Store} {R : Rw} (h : Rows n0 S r R) : toPD S 10 (.obj r) = some (.list (R.map rowD)) := by
  obtain ⟨ids, h1, _, _, _, _, h6, h7⟩ := h
  rw [toPD, h1]
  simp only
  rw [toPDs_obj (n := 8) ids R h6 h7]
  rfl
theorem lay_all : ∀ ds : List PyData, (∀ d ∈ ds, d.canLay0 = true) → PyData.canLayAll0 ds = true
  | [], _ => rfl
  | d :: ds, h => by
    unfold PyData.canLayAll0
    rw [h d (List.mem_cons_self ..), lay_all ds fun e m => h e (List.mem_cons_of_mem _ m)]
    rfl
theorem depth_all {n : Nat} : ∀ ds : List PyData, (∀ d ∈ ds, d.depth ≤ n) → PyData.depthAll ds ≤ n
  | [], _ => by simp [PyData.depthAll]
  | d :: ds, h => by
    have h1 := h d (List.mem_cons_self ..)
    have h2 := depth_all ds fun e m => h e (List.mem_cons_of_mem _ m)
    unfold PyData.depthAll
    omega
theorem rowD_ok (row : List Nat) : (rowD row).canLay0 = true ∧ (rowD row).depth ≤ 1 := by
  unfold rowD
  refine ⟨?_, ?_⟩
  · unfold PyData.canLay0
    exact lay_all _ fun d m => by
      obtain ⟨k, _, rfl⟩ := List.mem_map.mp m
      rfl
  · have := depth_all (n := 0) (row.map fun (k : Nat) => PyData.int k) fun d m => by
      obtain ⟨k, _, rfl⟩ := List.mem_map.mp m
      simp [PyData.depth]
    unfold PyData.depth
    omega
theorem rows_shaped (R : Rw) : SeqAt.shaped (.list (R.map rowD)) = true := by
  refine shaped_of (n := 2) ?_ ?_ (by decide)
  · unfold PyData.canLay0
    exact lay_all _ fun d m => by
      obtain ⟨row, _, rfl⟩ := List.mem_map.mp m
      exact (rowD_ok row).1
  · have := depth_all (n := 1) (R.map rowD) fun d m => by
      obtain ⟨row, _, rfl⟩ := List.mem_map.mp m
      exact (rowD_ok row).2
    unfold PyData.depth
    omega
theorem rows_eq {n0 r : Nat} {S : Store} {R : Rw} (h : Rows n0 S r R) : eqF S (.vl (R.map fun row => .vl (vr row))) (.obj r) = some (.bl true) ∧ neF S (.vl (R.map fun row => .vl (vr row))) (.obj r) = some (.bl false) := by
  have e := eqVal_of (S := S) (toPD_vl (n := 10) R) (toPD_rows h) (rows_shaped R) (by intro i j h; cases h) (by intro i j h; cases h) (by intro i j h; cases h)
  unfold eqF neF
  rw [e]
  exact ⟨rfl, rfl⟩
/-! ### all rows told -/
theorem lc_rows {g : GD} {d : ED} {ρ : Slots} {S : Store} {R : Rw} (h : ∀ (k : Nat) (row : List Nat), R[k]? = some row → ∃ ρ1, g (.int k) ρ = some ρ1 ∧ d ρ1 S = some (.ok (.vl (vr row)), S)) : lcL (fun _ => True) g dYes d ρ ((List.range R.length).map fun (k : Nat) => .int k) S = some (R.map fun row => .vl (vr row), S) := by
  have := lcL_map (chk := fun _ => True) (g := g) (tt := dYes) (d := d) (ρ := ρ) (S := S) trivial (fun v => match v with | .int k => .vl (vr (R.getD k.toNat [])) | _ => .non) ((List.range R.length).map fun (k : Nat) => .int k) (fun x hx => by
    obtain ⟨k, hk, rfl⟩ := List.mem_map.mp hx
    have hk := List.mem_range.mp hk
    obtain ⟨ρ1, a, b⟩ := h k R[k] (List.getElem?_eq_getElem hk)
    refine ⟨ρ1, a, rfl, ?_⟩
    simp only [Int.toNat_natCast, List.getD_eq_getElem?_getD, List.getElem?_eq_getElem hk, Option.getD_some]
    exact b)
  rw [this]
  congr 2
  apply List.ext_getElem
  · simp
  · intro k h1 h2
    have hk : k < R.length := by simpa using h1
    simp [hk]
theorem rows_nil (S : Store) : Rows S.length (S ++ [.lst []]) S.length [] := ⟨[], by simp, Nat.le_refl _, by simp, by simp, by simp, rfl, by simp⟩
theorem below_split {S S' : Store} (h : Below S.length (S ++ [.lst []]) S') : ∃ T, S' = S ++ T := by
  refine ⟨S'.drop S.length, ?_⟩
  have h1 := h.1
  simp at h1
  apply List.ext_getElem?
  intro j
  by_cases c : j < S.length
  · rw [h.2 j c, List.getElem?_append_left c, List.getElem?_append_left c]
  · rw [List.getElem?_append_right (by omega), List.getElem?_drop]
    congr 1
    omega
section
variable {p : Pt} {gs : List Val} {gm : Val} {S : Store} {o : PySem.Str} {b : Bk} {rk : Int}
theorem holds_ok (ok : p.Ok) (ga : GrAll p.hs gs) (gk : GrOk p.b gm) (w : Ow p o b rk) {ns : List PySem.Str} (wf : b.wf ns 2) (hl : b.len ≤ 6) : F__law_owner_holds [p.prog gs gm, .str o, .tup b.vs] S = some (.ok (.bl true), S) := by
  obtain ⟨pl, sz⟩ := put_len wf hl
  have sh := put_short b
  obtain ⟨S', e, R, B⟩ := laid_ok (n := 30) (d := 2) (b := b) (by decide) wf (rows_nil S) (by simp; omega)
  obtain ⟨T, rfl⟩ := below_split B
  have ep := places_ok (S := S ++ T) ok ga gk w
  have el := len_ed (n0 := S.length) (r := S.length) (S := S ++ T) (rs := (b.put []).2) (ρ := [none, some (.obj S.length)]) (fun S => rfl) R
  have ee := (rows_eq R).1
  have lc : ∀ r : Slots, lcL (fun _ => True) (gN 4) dYes (dCall F_next_places [] (dCons (dVar 0) (dCons (dVar 4) (dCons (dVar 1) dNil)))) (some (p.prog gs gm) :: some (.str o) :: some (.tup b.vs) :: some (.obj S.length) :: none :: r) ((List.range (b.put []).2.length).map fun (k : Nat) => .int k) (S ++ T) = some ((b.put []).2.map fun row => .vl (vr row), S ++ T) := fun r => lc_rows fun k row hk => ⟨_, rfl, by
    have := next_ok (S := S ++ T) ok ga gk w hk (Nat.lt_of_le_of_lt (sh row (List.mem_of_getElem? hk)) (by decide))
    simp [this]⟩
  have le : lcE (some ((b.put []).2.map fun row => Val.vl (vr row), S ++ T)) = _ := lcE_of (by rw [List.length_map]; omega)
  have er : kRange1 (.int (b.put []).2.length) (S ++ T) = _ := kRange1_nat (by omega)
  generalize (b.put []).2 = Q at *
  obtain ⟨ids, hR⟩ := R
  have h1 := hR.1
  have h6 := hR.2.2.2.2.2.1
  unfold F__law_owner_holds
  rw [cutF_eq, dDef_3]
  unfold b__law_owner_holds
  simp [e, ep, h1, h6, er, lc, le, ee]
  exact cutO_ok rfl (fun i o h => .inl h) rfl
end
end K08
set_option Elab.async false
set_option linter.all false
set_option maxRecDepth 100000
set_option maxHeartbeats 4000000
/-! k08, plain mathematics 25: loops. -/
namespace K08
open PySem DL
/-- all blocks of a program -/
def Pt.bks (p : Pt) : List Bk := p.b :: p.hs.map Hn.b
def isLoop (x : Val) : Bool := decide (word x = "loop")
def anyLoop (bs : List Bk) : Bool := bs.any fun b => b.flat.any isLoop
theorem wf_any {p : Pt} (ok : p.Ok) : ∀ b ∈ p.bks, ∃ ns, b.wf ns 2 ∧ b.len ≤ 6 := by
  intro b hb
  rcases List.mem_cons.mp hb with rfl | hb
  · exact ⟨_, ok.wf, ok.len⟩
  · obtain ⟨h, hh, rfl⟩ := List.mem_map.mp hb
    exact ⟨_, (ok.hs h hh).wf, (ok.hs h hh).len⟩
theorem lc2L_cons {chk : Store → Prop} {g g1 : GD} {tt tt1 : TD} {di1 : ID} {d : ED} {vs1 : List Nat} {ρ ρ1 : Slots} {S S1 S2 S3 S4 : Store} {x : Val} {xs ys zs : List Val} {t : Its} (hc : chk S) (h1 : g x ρ = some ρ1) (h2 : tt ρ1 S = some (.ok true, S1)) (h3 : di1 ρ1 S1 = some (.ok t, S2)) (h4 : lcL t.chk g1 tt1 d (wipeD ρ1 vs1) t.xs S2 = some (ys, S3)) (h5 : lc2L chk g tt di1 g1 tt1 d vs1 ρ xs S3 = some (zs, S4)) :
    lc2L chk g tt di1 g1 tt1 d vs1 ρ (x :: xs) S = some (ys ++ zs, S4) := by
  unfold lc2L
  rw [if_pos hc, h1]
  simp only [h2, h3, h4, h5]
theorem lc2L_nil {chk : Store → Prop} {g g1 : GD} {tt tt1 : TD} {di1 : ID} {d : ED} {vs1 : List Nat} {ρ : Slots} {S : Store} (hc : chk S) : lc2L chk g tt di1 g1 tt1 d vs1 ρ [] S = some ([], S) := by unfold lc2L; exact if_pos hc
theorem loops_lc2 {S : Store} {P B : Val} {r : Slots} : ∀ bs : List Bk, (∀ b ∈ bs, ∃ ns, b.wf ns 2 ∧ b.len ≤ 6) →
    lc2L (fun _ => True) (gN 2) dYes (dSeqI (dCall (G_statements_in 30) [] (dCons (dVar 2) dNil))) (gN 3) dYes (dOp2 eqF (dOp2 ixF (dVar 3) (dC (.int 0))) (dC (.str "loop"))) [3] (some P :: some B :: none :: none :: r) (bs.map fun b => .tup b.vs) S = some ((bs.flatMap Bk.flat).map fun x => .bl (isLoop x), S)
  | [], _ => lc2L_nil trivial
  | b :: bs, h => by
    have ih := loops_lc2 (S := S) (P := P) (B := B) (r := r) bs fun c m => h c (List.mem_cons_of_mem _ m)
    obtain ⟨ns, w, hl⟩ := h b (List.mem_cons_self ..)
    have e := flat_run (n := 30) (S := S) (by decide) (by decide) (by omega) w
    have hw := (Bk.cnt_flat (inP []) b w).2
    rw [List.map_cons, List.flatMap_cons, List.map_append]
    refine lc2L_cons (ρ1 := some P :: some B :: some (.tup b.vs) :: none :: r) (S1 := S) (S2 := S) (S3 := S) (t := ⟨b.flat, fun _ => True⟩) trivial rfl rfl (by simp [e]) ?_ ih
    exact lcL_map trivial (fun x => .bl (isLoop x)) b.flat fun x hx => by
      obtain ⟨k, q, rfl⟩ := hw x hx
      exact ⟨_, rfl, rfl, by simp [isLoop, word]; exact decide_eq_decide.mpr Iff.rfl⟩
theorem any_flat (bs : List Bk) : (bs.flatMap Bk.flat).any isLoop = anyLoop bs := by
  unfold anyLoop
  rw [List.any_flatMap]
theorem bks_vs (p : Pt) : p.bks.map (fun b => Val.tup b.vs) = Val.tup p.b.vs :: p.hs.map fun h => Val.tup h.b.vs := by
  unfold Pt.bks
  rw [List.map_cons, List.map_map]
  rfl
theorem flat_total : ∀ bs : List Bk, (∀ b ∈ bs, ∃ ns, b.wf ns 2 ∧ b.len ≤ 6) → (bs.flatMap Bk.flat).length ≤ bs.length * 125000
  | [], _ => by simp
  | b :: bs, h => by
    have ih := flat_total bs fun c m => h c (List.mem_cons_of_mem _ m)
    obtain ⟨ns, w, hl⟩ := h b (List.mem_cons_self ..)
    have := flat_small (by decide) (by omega) w
    rw [List.flatMap_cons, List.length_append, List.length_cons]
    omega
section
variable {p : Pt} {gs : List Val} {gm : Val} {S : Store}
theorem lc_blocks (ok : p.Ok) {g : GD} {d : ED} {ρ : Slots} (h : ∀ k : Hn, ∃ ρ1, g k.v ρ = some ρ1 ∧ d ρ1 S = some (.ok (.tup k.b.vs), S)) : lcL (fun _ => True) g dYes d ρ (p.hs.map Hn.v) S = some (p.hs.map fun h => .tup h.b.vs, S) := by
  have := lcL_map (chk := fun _ => True) (g := g) (tt := dYes) (d := d) (ρ := ρ) (S := S) trivial (fun v => match v with | .tup [_, _, _, _, _, b] => b | _ => .non) (p.hs.map Hn.v) (fun x hx => by
    obtain ⟨k, hk, rfl⟩ := List.mem_map.mp hx
    obtain ⟨ρ1, a, b⟩ := h k
    exact ⟨ρ1, a, rfl, b⟩)
  rw [this, List.map_map]
  rfl
theorem has_loops_ok (ok : p.Ok) : F_has_loops [p.prog gs gm] S = some (.ok (.bl (anyLoop p.bks)), S) := by
  have hl := hs_len ok
  have lc : lcL (fun _ => True) (gN 4) dYes (dOp2 ixF (dVar 4) (dC (.int 5))) [some (p.prog gs gm), none, none, none, none] (p.hs.map Hn.v) S = some (p.hs.map fun h => Val.tup h.b.vs, S) := lc_blocks ok fun k => ⟨_, rfl, by simp [Hn.v]⟩
  have le : lcE (some (p.hs.map fun h => Val.tup h.b.vs, S)) = some (.ok (.vl (p.hs.map fun h => Val.tup h.b.vs)), S) := lcE_of (by rw [List.length_map]; omega)
  have kv : kVl (Val.tup p.b.vs :: p.hs.map fun h => Val.tup h.b.vs) S = some (.ok (.vl (p.bks.map fun b => Val.tup b.vs)), S) := by rw [bks_vs]; exact kVl_of (by rw [List.length_cons, List.length_map]; omega)
  have l2 : ∀ r : Slots, _ := fun r => loops_lc2 (S := S) (P := p.prog gs gm) (B := .vl (p.bks.map fun b => Val.tup b.vs)) (r := r) p.bks (wf_any ok)
  have ft := flat_total p.bks (wf_any ok)
  have bl : p.bks.length ≤ 3 := by unfold Pt.bks; rw [List.length_cons, List.length_map]; omega
  have le2 : lcE (some ((p.bks.flatMap Bk.flat).map fun x => Val.bl (isLoop x), S)) = _ := lcE_of (by rw [List.length_map]; omega)
  have ea := anyF_map S isLoop (p.bks.flatMap Bk.flat)
  rw [any_flat] at ea
  unfold F_has_loops
  rw [dDef_1]
  unfold b_has_loops
  simp [fld_content, ix_v1, ix_v2, ix_m2, lc, le, kv, l2, le2, ea]
/-! ### the greatest count -/
theorem maxI_pos : ∀ {l : List Nat}, l ≠ [] → ∃ m : Nat, maxI (l.map fun (n : Nat) => (n : Int)) = some (m : Int) ∧ (0 < m ↔ ∃ n ∈ l, 0 < n)
  | [], h => absurd rfl h
  | [a], _ => ⟨a, rfl, by simp⟩
  | a :: b :: l, _ => by
    obtain ⟨m, e, q⟩ := maxI_pos (l := b :: l) (by simp)
    rw [List.map_cons, maxI, e]
    refine ⟨if m > a then m else a, ?_, ?_⟩
    · simp only
      by_cases h : m > a
      · rw [if_pos h, if_pos (by omega)]
      · rw [if_neg h, if_neg (by omega)]
    · constructor
      · intro h
        by_cases h2 : 0 < a
        · exact ⟨a, List.mem_cons_self .., h2⟩
        · rw [if_pos (by split at h <;> omega)] at h
          obtain ⟨n, h3, h4⟩ := q.mp h
          exact ⟨n, List.mem_cons_of_mem _ h3, h4⟩
      · rintro ⟨n, h1, h2⟩
        rcases List.mem_cons.mp h1 with rfl | h1
        · split <;> omega
        · have := q.mpr ⟨n, h1, h2⟩
          split <;> omega
theorem cnt_loop {ns : List PySem.Str} {d : Nat} {b : Bk} (w : b.wf ns d) : 0 < b.cnt (inP ["loop"]) ↔ b.flat.any isLoop = true := by
  rw [(Bk.cnt_flat _ b w).1, List.length_pos_iff_exists_mem, List.any_eq_true]
  constructor
  · rintro ⟨x, hx⟩
    rw [List.mem_filter] at hx
    exact ⟨x, hx.1, by have := hx.2; simpa [pw, inP, isLoop] using this⟩
  · rintro ⟨x, hx, h⟩
    exact ⟨x, List.mem_filter.mpr ⟨hx, by simpa [pw, inP, isLoop] using h⟩⟩
theorem max_loop (ok : p.Ok) : ∃ m : Nat, maxlF S [.vl (p.bks.map fun b => .int (b.cnt (inP ["loop"])))] = some (.int m) ∧ decide ((0 : Int) < m) = anyLoop p.bks := by
  obtain ⟨m, e, q⟩ := maxI_pos (l := p.bks.map fun b => b.cnt (inP ["loop"])) (by simp [Pt.bks])
  refine ⟨m, ?_, ?_⟩
  · show (((some (p.bks.map fun b => Val.int (b.cnt (inP ["loop"])))).bind intsOf).bind maxI).map Val.int = _
    have : (p.bks.map fun b => Val.int (b.cnt (inP ["loop"]))) = (p.bks.map fun b => ((b.cnt (inP ["loop"]) : Nat) : Int)).map Val.int := by rw [List.map_map]; rfl
    rw [this, Option.bind_some, intsOf_map, Option.bind_some]
    rw [List.map_map] at e
    have e2 : maxI (p.bks.map fun b => ((b.cnt (inP ["loop"]) : Nat) : Int)) = some (m : Int) := e
    rw [e2]
    rfl
  · rw [Bool.eq_iff_iff, decide_eq_true_iff]
    unfold anyLoop
    rw [List.any_eq_true]
    constructor
    · intro h
      obtain ⟨n, h1, h2⟩ := q.mp (by omega)
      obtain ⟨b, hb, rfl⟩ := List.mem_map.mp h1
      obtain ⟨ns, w, _⟩ := wf_any ok b hb
      exact ⟨b, hb, (cnt_loop w).mp h2⟩
    · rintro ⟨b, hb, h⟩
      obtain ⟨ns, w, _⟩ := wf_any ok b hb
      have := q.mpr ⟨_, List.mem_map_of_mem hb, (cnt_loop w).mpr h⟩
      omega
theorem lc_counts (ok : p.Ok) {g : GD} {d : ED} {ρ : Slots} (h : ∀ b ∈ p.bks, ∃ ρ1, g (.tup b.vs) ρ = some ρ1 ∧ d ρ1 S = some (.ok (.int (b.cnt (inP ["loop"]))), S)) : lcL (fun _ => True) g dYes d ρ (p.bks.map fun b => .tup b.vs) S = some (p.bks.map fun b => .int (b.cnt (inP ["loop"])), S) := by
  have aux : ∀ bs : List Bk, (∀ b ∈ bs, b ∈ p.bks) → lcL (fun _ => True) g dYes d ρ (bs.map fun b => .tup b.vs) S = some (bs.map fun b => .int (b.cnt (inP ["loop"])), S) := by
    intro bs
    induction bs with
    | nil => exact fun _ => lcL_nil trivial
    | cons b bs ih =>
      intro hb
      obtain ⟨ρ1, a, c⟩ := h b (hb b (List.mem_cons_self ..))
      rw [List.map_cons, List.map_cons]
      exact lcL_cons trivial a rfl c (ih fun x m => hb x (List.mem_cons_of_mem _ m))
  exact aux p.bks fun b m => m
end
end K08
set_option Elab.async false
set_option linter.all false
set_option maxRecDepth 100000
set_option maxHeartbeats 4000000
/-! k08, plain mathematics 26: the stream; two lists of names. -/
namespace K08
open PySem DL
theorem pow18 : ∃ T : Int, ∀ S, powF S (.int 10) (.int 18) = some (.int T) := ⟨10 ^ (18 : Int).toNat, fun S => by unfold powF; simp only; rw [if_pos (by decide)]⟩
theorem mul_b (S : Store) (i : Int) (c : Prop) [Decidable c] : mulF S (.int i) (.int (if c then 1 else 0)) = some (.int (i * if c then 1 else 0)) := by
    rw [mulF_int, if_pos]
    refine .inr ?_
    split <;> decide
theorem mul_1 (S : Store) (i : Int) : mulF S (.int 7919) (.int i) = some (.int (7919 * i)) := by rw [mulF_int, if_pos (.inl (by decide))]
theorem mul_2 (S : Store) (i : Int) : mulF S (.int 31) (.int i) = some (.int (31 * i)) := by rw [mulF_int, if_pos (.inl (by decide))]
theorem mul_3 (S : Store) (i : Int) : mulF S (.int i) (.int 48271) = some (.int (i * 48271)) := by rw [mulF_int, if_pos (.inr (by decide))]
theorem mul_k (S : Store) (i : Int) {k : Nat} (hk : k < 5) : mulF S (.int i) (.int k) = some (.int (i * k)) := by rw [mulF_int, if_pos (.inr (by omega))]
theorem mod_1 (S : Store) (i : Int) : modF S (.int i) (.int 2147483629) = some (.int (i % 2147483629)) := by rw [modF_int, if_pos (by decide)]
theorem mod_2 (S : Store) (i : Int) : modF S (.int i) (.int 2147483647) = some (.int (i % 2147483647)) := by rw [modF_int, if_pos (by decide)]
noncomputable def tailD : SD := (dSeq (dSet 3 (dB max2F (dCons (dVar 2) (dCons (dOp2 subF (dUn negF (dC (.int 1))) (dVar 2)) dNil)))) (dSeq (dSet 4 (dOp2 modF (dOp2 mulF (dOp2 addF (dOp2 addF (dOp2 addF (dOp2 modF (dVar 3) (dC (.int 2147483629))) (dOp2 mulF (dOp2 mulF (dC (.int 7919)) (dVar 1)) (dVar 1))) (dOp2 mulF (dC (.int 31)) (dVar 1))) (dC (.int 17))) (dC (.int 48271))) (dC (.int 2147483647)))) (dRet (dLst (dCons (dOp2 mulF (dVar 3) (dB intF (dCons (dOp2 (ltF fun i j => decide (j ≤ i)) (dVar 3) (dOp2 powF (dC (.int 10)) (dC (.int 18)))) dNil))) (dCons (dVar 4) dNil))))))
theorem stream_set3 {S : Store} {B : Val} {k : Nat} {cell : Int} : ∃ sz : Int, dSet 3 (dB max2F (dCons (dVar 2) (dCons (dOp2 subF (dUn negF (dC (.int 1))) (dVar 2)) dNil))) [some B, some (.int k), some (.int cell), none, none] S = some (.nx [some B, some (.int k), some (.int cell), some (.int sz), none], S) := by
  refine ⟨if -1 - cell > cell then -1 - cell else cell, ?_⟩
  simp
def IsI (d : ED) (ρ : Slots) (S : Store) : Prop := ∃ z : Int, d ρ S = some (.ok (.int z), S)
section
variable {d e : ED} {ρ : Slots} {S : Store}
theorem IsI.op {f : F2} (hd : IsI d ρ S) (he : IsI e ρ S) (h : ∀ i j : Int, ∃ z : Int, f S (.int i) (.int j) = some (.int z)) : IsI (dOp2 f d e) ρ S := by
  obtain ⟨i, hi⟩ := hd
  obtain ⟨j, hj⟩ := he
  obtain ⟨z, hz⟩ := h i j
  exact ⟨z, by rw [dOp2_eq, hi, bindO_ok, kOp2_eq, hj, bindO_ok, kOp2b_eq, hz]; rfl⟩
theorem IsI.opL {f : F2} {i : Int} (hd : d ρ S = some (.ok (.int i), S)) (he : IsI e ρ S) (h : ∀ j : Int, ∃ z : Int, f S (.int i) (.int j) = some (.int z)) : IsI (dOp2 f d e) ρ S := by
  obtain ⟨j, hj⟩ := he
  obtain ⟨z, hz⟩ := h j
  exact ⟨z, by rw [dOp2_eq, hd, bindO_ok, kOp2_eq, hj, bindO_ok, kOp2b_eq, hz]; rfl⟩
theorem IsI.opR {f : F2} {j : Int} (hd : IsI d ρ S) (he : e ρ S = some (.ok (.int j), S)) (h : ∀ i : Int, ∃ z : Int, f S (.int i) (.int j) = some (.int z)) : IsI (dOp2 f d e) ρ S := by
  obtain ⟨i, hi⟩ := hd
  obtain ⟨z, hz⟩ := h i
  exact ⟨z, by rw [dOp2_eq, hi, bindO_ok, kOp2_eq, he, bindO_ok, kOp2b_eq, hz]; rfl⟩
theorem addI (S : Store) (i j : Int) : ∃ z : Int, addF S (.int i) (.int j) = some (.int z) := ⟨_, addF_int S i j⟩
end
theorem stream_set4 {S : Store} {B : Val} {k : Nat} {cell sz : Int} (hk : k < 5) : ∃ z : Int, dSet 4 (dOp2 modF (dOp2 mulF (dOp2 addF (dOp2 addF (dOp2 addF (dOp2 modF (dVar 3) (dC (.int 2147483629))) (dOp2 mulF (dOp2 mulF (dC (.int 7919)) (dVar 1)) (dVar 1))) (dOp2 mulF (dC (.int 31)) (dVar 1))) (dC (.int 17))) (dC (.int 48271))) (dC (.int 2147483647))) [some B, some (.int k), some (.int cell), some (.int sz), none] S = some (.nx [some B, some (.int k), some (.int cell), some (.int sz), some (.int z)], S) := by
  have v3 : IsI (dVar 3) [some B, some (.int k), some (.int cell), some (.int sz), none] S := ⟨sz, rfl⟩
  have v1 : dVar 1 [some B, some (.int k), some (.int cell), some (.int sz), none] S = some (.ok (.int k), S) := rfl
  have q : IsI (dOp2 modF (dOp2 mulF (dOp2 addF (dOp2 addF (dOp2 addF (dOp2 modF (dVar 3) (dC (.int 2147483629))) (dOp2 mulF (dOp2 mulF (dC (.int 7919)) (dVar 1)) (dVar 1))) (dOp2 mulF (dC (.int 31)) (dVar 1))) (dC (.int 17))) (dC (.int 48271))) (dC (.int 2147483647))) [some B, some (.int k), some (.int cell), some (.int sz), none] S :=
    IsI.opR (IsI.opR (IsI.op (IsI.op (IsI.op (IsI.opR v3 rfl fun i => ⟨_, mod_1 S i⟩) (IsI.opR (IsI.opL rfl ⟨_, v1⟩ fun i => ⟨_, mul_1 S i⟩) v1 fun i => ⟨_, mul_k S i hk⟩) (addI S)) (IsI.opL rfl ⟨_, v1⟩ fun i => ⟨_, mul_2 S i⟩) (addI S)) ⟨_, rfl⟩ (addI S)) rfl fun i => ⟨_, mul_3 S i⟩) rfl fun i => ⟨_, mod_2 S i⟩
  obtain ⟨z, hz⟩ := q
  exact ⟨z, set_st hz⟩
theorem stream_ret {S : Store} {B : Val} {k : Nat} {cell sz z : Int} : ∃ a b : Int, dRet (dLst (dCons (dOp2 mulF (dVar 3) (dB intF (dCons (dOp2 (ltF fun i j => decide (j ≤ i)) (dVar 3) (dOp2 powF (dC (.int 10)) (dC (.int 18)))) dNil))) (dCons (dVar 4) dNil))) [some B, some (.int k), some (.int cell), some (.int sz), some (.int z)] S = some (.rt (.obj S.length), S ++ [.lst [.int a, .int b]]) := by
  obtain ⟨T, hp⟩ := pow18
  refine ⟨sz * (if decide (T ≤ sz) = true then 1 else 0), z, ?_⟩
  have hm := mul_b S sz (decide (T ≤ sz) = true)
  have h3 : dOp2 powF (dC (.int 10)) (dC (.int 18)) [some B, some (.int k), some (.int cell), some (.int sz), some (.int z)] S = some (.ok (.int T), S) := by
    rw [dOp2_eq, dC_eq, bindO_ok, kOp2_eq, dC_eq, bindO_ok, kOp2b_eq, hp]
    rfl
  generalize dOp2 powF (dC (.int 10)) (dC (.int 18)) = P at h3
  have h4 : dOp2 (ltF fun i j => decide (j ≤ i)) (dVar 3) P [some B, some (.int k), some (.int cell), some (.int sz), some (.int z)] S = some (.ok (.bl (decide (T ≤ sz))), S) := by
    simp [h3]
  generalize dOp2 (ltF fun i j => decide (j ≤ i)) (dVar 3) P = P2 at h4
  generalize decide (T ≤ sz) = tb at h4 hm
  have h5 : dOp2 mulF (dVar 3) (dB intF (dCons P2 dNil)) [some B, some (.int k), some (.int cell), some (.int sz), some (.int z)] S = some (.ok (.int (sz * if tb = true then 1 else 0)), S) := by
    rw [dOp2_eq]
    simp only [dVar_3, dVar_2, dVar_1, dVar_0, bindO_ok, kOp2_eq, dB_eq, dCons_eq, h4, kCons_eq, dNil_eq, kCons2_eq, kB_eq, intF_bl, ofO_some, kOp2b_eq, hm]
  generalize dOp2 mulF (dVar 3) (dB intF (dCons P2 dNil)) = P3 at h5
  simp [h5]
theorem tail_ok {S : Store} {B : Val} {k : Nat} {cell : Int} (hk : k < 5) : ∃ a b : Int, endD (tailD [some B, some (.int k), some (.int cell), none, none] S) = some (.ok (.obj S.length), S ++ [.lst [.int a, .int b]]) := by
  obtain ⟨sz, e1⟩ := stream_set3 (S := S) (B := B) (k := k) (cell := cell)
  obtain ⟨z, e2⟩ := stream_set4 (S := S) (B := B) (k := k) (cell := cell) (sz := sz) hk
  obtain ⟨a, b, e3⟩ := stream_ret (S := S) (B := B) (k := k) (cell := cell) (sz := sz) (z := z)
  refine ⟨a, b, ?_⟩
  unfold tailD
  rw [seq_nx e1, seq_nx e2, e3]
  rfl
theorem stream_ok {S : Store} {ns : List Int} {k : Nat} (hk : k < 5) : ∃ a b : Int, F__law_stream [.scr (ns.map .int), .int k] S = some (.ok (.obj S.length), S ++ [.lst [.int a, .int b]]) := by
  unfold F__law_stream
  rw [dDef_2]
  unfold b__law_stream
  by_cases h : k < ns.length
  · obtain ⟨a, b, e⟩ := tail_ok (S := S) (B := .scr (ns.map .int)) (cell := ns[k]) hk
    refine ⟨a, b, ?_⟩
    have h2 : (k : Int) < ns.length := by omega
    have t1 : dIfS (dTv (dOp2 ltSF (dVar 1) (dB lenF (dCons (dVar 0) dNil)))) (dSet 2 (dOp2 ixF (dVar 0) (dVar 1))) dSkip [some (.scr (ns.map .int)), some (.int k), some (.int 0), none, none] S = some (.nx [some (.scr (ns.map .int)), some (.int k), some (.int ns[k]), none, none], S) := by
      simp [h2, atI_nat, h]
    show endD (dSeq _ (dSeq _ tailD) [some (.scr (ns.map .int)), some (.int k), none, none, none] S) = _
    rw [seq_nx (set_st (by rfl))]
    show endD (dSeq _ tailD [some (.scr (ns.map .int)), some (.int k), some (.int 0), none, none] S) = _
    rw [seq_nx t1, e]
  · obtain ⟨a, b, e⟩ := tail_ok (S := S) (B := .scr (ns.map .int)) (cell := 0) hk
    refine ⟨a, b, ?_⟩
    have h2 : ¬ (k : Int) < ns.length := by omega
    have t1 : dIfS (dTv (dOp2 ltSF (dVar 1) (dB lenF (dCons (dVar 0) dNil)))) (dSet 2 (dOp2 ixF (dVar 0) (dVar 1))) dSkip [some (.scr (ns.map .int)), some (.int k), some (.int 0), none, none] S = some (.nx [some (.scr (ns.map .int)), some (.int k), some (.int 0), none, none], S) := by
      simp [h2]
    show endD (dSeq _ (dSeq _ tailD) [some (.scr (ns.map .int)), some (.int k), none, none, none] S) = _
    rw [seq_nx (set_st (by rfl))]
    show endD (dSeq _ tailD [some (.scr (ns.map .int)), some (.int k), some (.int 0), none, none] S) = _
    rw [seq_nx t1, e]
theorem names_ne {S : Store} {p : Pt} (ok : p.Ok) (rk : Int) : neF S (.vl ((above p.hs rk).map .str)) (.vl ((above p.hs rk).map .str)) = some (.bl false) := by
  have aux : ∀ ns : List PySem.Str, (∀ n ∈ ns, Nm n) → plainVs (ns.map Val.str) = true ∧ dpVs (ns.map Val.str) = 0 := by
    intro ns
    induction ns with
    | nil => intro _; simp [plainVs, dpVs]
    | cons n ns ih =>
      intro h
      obtain ⟨a, b⟩ := ih fun x m => h x (List.mem_cons_of_mem _ m)
      have := name_plain (h n (List.mem_cons_self ..))
      rw [List.map_cons]
      refine ⟨?_, ?_⟩
      · unfold plainVs
        rw [this, a]; rfl
      · unfold dpVs
        rw [b]; simp [dpV]
  obtain ⟨a, b⟩ := aux (above p.hs rk) (fun n hn => by
    unfold above at hn
    obtain ⟨h, hh, rfl⟩ := List.mem_map.mp hn
    rcases (ok.hs h (List.mem_filter.mp hh).1).nm with e | e <;> rw [e] <;> simp [Nm])
  exact neF_vl a (by omega)
theorem above_0 {p : Pt} (ok : p.Ok) : above p.hs 0 = p.hs.map Hn.nm := by
  unfold above
  rw [List.filter_eq_self.mpr]
  intro h hh
  have := (ok.hs h hh).rank
  exact decide_eq_true (by omega)
end K08
set_option Elab.async false
set_option linter.all false
set_option maxRecDepth 100000
set_option maxHeartbeats 4000000
/-! k08, plain mathematics 27: one turn of the law. -/
namespace K08
open PySem DL
section
variable {p : Pt} {gs : List Val} {gm : Val} {S : Store}
theorem l1_ok {r : Slots} {a0 a1 a2 a3 a6 a8 a9 : Option Val} (ok : p.Ok) (ga : GrAll p.hs gs) (gk : GrOk p.b gm) {h : Hn} (hh : h ∈ p.hs) : l1_law (a0 :: a1 :: a2 :: a3 :: some p.v :: some (p.prog gs gm) :: a6 :: some h.v :: a8 :: a9 :: none :: r) S = some (.nx (a0 :: a1 :: a2 :: a3 :: some p.v :: some (p.prog gs gm) :: a6 :: some h.v :: a8 :: a9 :: none :: r), S) := by
  have w : Ow p h.nm h.b h.rank := .inr ⟨h, hh, rfl, rfl, rfl⟩
  have e1 := holds_ok (S := S) ok ga gk w (ok.hs h hh).wf (ok.hs h hh).len
  have e2 := comers_ok (gm := gm) (S := S) ok ga w
  have e3 := names_ne (S := S) ok h.rank
  have lc : lcL (fun _ => True) (gN 10) (dTv (dOp2 (ltF fun i j => decide (j < i)) (dOp2 ixF (dVar 10) (dC (.int 1))) (dOp2 ixF (dVar 7) (dC (.int 1))))) (dOp2 ixF (dVar 10) (dC (.int 0))) (a0 :: a1 :: a2 :: a3 :: some p.v :: some (p.prog gs gm) :: a6 :: some h.v :: a8 :: a9 :: none :: r) (p.hs.map Hn.v) S = some ((above p.hs h.rank).map .str, S) := above_lc (i := 0) fun g hg => ⟨_, rfl, by simp [Hn.v], by simp [Hn.v]⟩
  have le : lcE (some ((above p.hs h.rank).map Val.str, S)) = some (.ok (.vl ((above p.hs h.rank).map .str)), S) := lcE_of (by
    unfold above
    rw [List.length_map, List.length_map]
    have := List.length_filter_le (fun g : Hn => decide (h.rank < g.rank)) p.hs
    have := hs_len ok
    omega)
  have i0 : ixF S h.v (.int 0) = some (.str h.nm) := by simp [Hn.v]
  have i5 : ixF S h.v (.int 5) = some (.tup h.b.vs) := by simp [Hn.v]
  unfold l1_law
  simp [e1, e2, e3, lc, le, i0, i5, ix_v2]
theorem loop_hs {a0 a1 a2 a3 a6 a7 a8 a9 a11 : Option Val} (ok : p.Ok) (ga : GrAll p.hs gs) (gk : GrOk p.b gm) : ∃ o7, forL (fun _ => True) (gN 7) l1_law (p.hs.map Hn.v) [a0, a1, a2, a3, some p.v, some (p.prog gs gm), a6, a7, a8, a9, none, a11] S = some (.nx [a0, a1, a2, a3, some p.v, some (p.prog gs gm), a6, o7, a8, a9, none, a11], S) := by
  have aux : ∀ (hs : List Hn) (a7 : Option Val), (∀ h ∈ hs, h ∈ p.hs) → ∃ o7, forL (fun _ => True) (gN 7) l1_law (hs.map Hn.v) [a0, a1, a2, a3, some p.v, some (p.prog gs gm), a6, a7, a8, a9, none, a11] S = some (.nx [a0, a1, a2, a3, some p.v, some (p.prog gs gm), a6, o7, a8, a9, none, a11], S) := by
    intro hs
    induction hs with
    | nil => exact fun a7 _ => ⟨a7, forL_nil trivial⟩
    | cons h hs ih =>
      intro a7 hh
      obtain ⟨o7, e⟩ := ih (some h.v) fun x m => hh x (List.mem_cons_of_mem _ m)
      refine ⟨o7, ?_⟩
      rw [List.map_cons, forL_cons trivial rfl (l1_ok ok ga gk (hh h (List.mem_cons_self ..)))]
      exact e
  exact aux p.hs a7 fun h m => m
end
theorem turn_ok {S : Store} {i : Nat} {a0 a1 a3 a4 a5 a6 a7 a8 : Option Val} (A : SA S i) : ∃ (S' : Store) (o4 o5 o6 o7 o8 : Option Val), l2_law [a0, a1, some (.obj i), a3, a4, a5, a6, a7, a8, none, none, none] S = some (.nx [a0, a1, some (.obj i), a3, o4, o5, o6, o7, o8, none, none, none], S') ∧ SA S' i := by
  obtain ⟨p, S1, e1, ok, u1⟩ := parts_ok A
  have A1 := A.su u1
  obtain ⟨gs, gm, e2, ga, gk⟩ := pmake_ok (S := S1) (ρ := [a0, a1, some (.obj i), a3, some p.v, a5, a6, a7, a8, none, none, none]) (d1 := dOp2 ixF (dVar 4) (dC (.int 0))) (d2 := dOp2 ixF (dVar 4) (dC (.int 1))) (d3 := dOp2 ixF (dVar 4) (dC (.int 2))) ok (by simp [ix_v0]) (by simp [ix_v1]) (by simp [ix_v2, Pt.hv])
  obtain ⟨pl, sz⟩ := put_len ok.wf ok.len
  have sh := put_short p.b
  obtain ⟨S2, e3, R, B⟩ := laid_ok (n := 30) (d := 2) (b := p.b) (by decide) ok.wf (rows_nil S1) (by simp; omega)
  have A2 : SA S2 i := by
    obtain ⟨a, b, h⟩ := id A1
    refine ⟨a, b, ?_⟩
    rw [B.2 i A1.lt, List.getElem?_append_left A1.lt]
    exact h
  have w : Ow p "main" p.b 0 := .inl ⟨rfl, rfl, rfl⟩
  have e4 := holds_ok (S := S2) ok ga gk w ok.wf ok.len
  have e5 := places_ok (S := S2) ok ga gk w
  have e6 := comers_ok (gm := gm) (S := S2) ok ga w
  have e7 := names_ne (S := S2) ok 0
  have hl := hs_len ok
  rw [above_0 ok] at e6 e7
  have lc1 : lcL (fun _ => True) (gN 7) dYes (dOp2 ixF (dVar 7) (dC (.int 0))) [a0, a1, some (.obj i), a3, some p.v, some (p.prog gs gm), some (.obj S1.length), none, a8, none, none, none] (p.hs.map Hn.v) S2 = some ((p.hs.map Hn.nm).map .str, S2) := by
    have := lcL_map (chk := fun _ => True) (g := gN 7) (tt := dYes) (d := dOp2 ixF (dVar 7) (dC (.int 0))) (ρ := [a0, a1, some (.obj i), a3, some p.v, some (p.prog gs gm), some (.obj S1.length), none, a8, none, none, none]) (S := S2) trivial (fun v => match v with | .tup (n :: _) => n | _ => .non) (p.hs.map Hn.v) (fun x hx => by
      obtain ⟨g, hg, rfl⟩ := List.mem_map.mp hx
      exact ⟨_, rfl, rfl, by simp [Hn.v]⟩)
    rw [this, List.map_map, List.map_map]
    rfl
  have le1 : lcE (some ((p.hs.map Hn.nm).map Val.str, S2)) = _ := lcE_of (by rw [List.length_map, List.length_map]; omega)
  obtain ⟨o7, e8⟩ := loop_hs (S := S2) (a0 := a0) (a1 := a1) (a2 := some (.obj i)) (a3 := a3) (a6 := some (.obj S1.length)) (a7 := a7) (a8 := a8) (a9 := none) (a11 := none) ok ga gk
  have lc2 : lcL (fun _ => True) (gN 7) dYes (dOp2 ixF (dVar 7) (dC (.int 5))) [a0, a1, some (.obj i), a3, some p.v, some (p.prog gs gm), some (.obj S1.length), none, a8, none, none, none] (p.hs.map Hn.v) S2 = some (p.hs.map fun h => Val.tup h.b.vs, S2) := lc_blocks ok fun k => ⟨_, rfl, by simp [Hn.v]⟩
  have le2 : lcE (some (p.hs.map fun h => Val.tup h.b.vs, S2)) = some (.ok (.vl (p.hs.map fun h => Val.tup h.b.vs)), S2) := lcE_of (by rw [List.length_map]; omega)
  have ad : addF S2 (.vl [.tup p.b.vs]) (.vl (p.hs.map fun h => Val.tup h.b.vs)) = some (.vl (p.bks.map fun b => Val.tup b.vs)) := by
    rw [bks_vs]
    show (if _ then _ else _) = _
    rw [if_pos (by simp; omega)]
    rfl
  have e9 := has_loops_ok (S := S2) (gs := gs) (gm := gm) ok
  obtain ⟨m, e10, e11⟩ := max_loop (S := S2) ok
  have lc3 : lcL (fun _ => True) (gN 11) dYes (dCall (G__law_count 30) [] (dCons (dVar 11) (dCons (dVl (dCons (dC (.str "loop")) dNil)) dNil))) [a0, a1, some (.obj i), a3, some p.v, some (p.prog gs gm), some (.obj S1.length), o7, some (.vl (p.bks.map fun b => Val.tup b.vs)), none, none, none] (p.bks.map fun b => Val.tup b.vs) S2 = some (p.bks.map fun b => Val.int (b.cnt (inP ["loop"])), S2) := lc_counts ok fun b hb => ⟨_, rfl, by
    obtain ⟨ns, w, _⟩ := wf_any ok b hb
    have := count_ok (S := S2) (ws := (["loop"] : List PySem.Str)) (n := 30) (by decide) w
    simp at this
    simp [this]⟩
  have bl : p.bks.length ≤ 3 := by unfold Pt.bks; rw [List.length_cons, List.length_map]; omega
  have le3 : lcE (some (p.bks.map fun b => Val.int (b.cnt (inP ["loop"])), S2)) = _ := lcE_of (by rw [List.length_map]; omega)
  have ne1 : neF S2 (.bl (anyLoop p.bks)) (.bl (decide ((0 : Int) < m))) = some (.bl false) := by
    rw [e11]
    show (some (decide (anyLoop p.bks = anyLoop p.bks))).map _ = _
    simp
  have ne1' : neF S2 (.bl (anyLoop p.bks)) (.bl (decide (0 < m))) = some (.bl false) := by
    have : decide (0 < m) = anyLoop p.bks := by rw [← e11]; exact decide_eq_decide.mpr (by omega)
    rw [this]
    show (some (decide (anyLoop p.bks = anyLoop p.bks))).map _ = _
    simp
  have lc4 : lcL (fun _ => True) (gN 9) dYes (dCall F_next_places [(.str "main")] (dCons (dVar 5) (dCons (dVar 9) dNil))) [a0, a1, some (.obj i), a3, some p.v, some (p.prog gs gm), some (.obj S1.length), o7, some (.vl (p.bks.map fun b => Val.tup b.vs)), none, none, none] ((List.range (p.b.put []).2.length).map fun (k : Nat) => .int k) S2 = some ((p.b.put []).2.map fun row => .vl (vr row), S2) := lc_rows fun k row hk => ⟨_, rfl, by
    have := next_ok (S := S2) ok ga gk w hk (Nat.lt_of_le_of_lt (sh row (List.mem_of_getElem? hk)) (by decide))
    simp [this]⟩
  have le4 : lcE (some ((p.b.put []).2.map fun row => Val.vl (vr row), S2)) = _ := lcE_of (by rw [List.length_map]; omega)
  have er : kRange1 (.int (p.b.put []).2.length) S2 = _ := kRange1_nat (by omega)
  have ne2 := (rows_eq R).2
  generalize (p.b.put []).2 = Q at *
  generalize (p.hs.map Hn.nm).map Val.str = NL at e6 e7 lc1 le1
  obtain ⟨ids, hR⟩ := R
  have h1 := hR.1
  have h6 := hR.2.2.2.2.2.1
  refine ⟨S2, some p.v, some (p.prog gs gm), some (.obj S1.length), o7, some (.vl (p.bks.map fun b => Val.tup b.vs)), ?_, A2⟩
  have t1 : dSet 4 (dCall F__law_parts [] (dCons (dVar 2) (dCons (dC (.int 2)) dNil))) [a0, a1, some (.obj i), a3, a4, a5, a6, a7, a8, none, none, none] S = some (.nx [a0, a1, some (.obj i), a3, some p.v, a5, a6, a7, a8, none, none, none], S1) := by simp [e1]
  unfold l2_law
  rw [seq_nx t1, dSeq_eq, dAsg_eq, dTup_eq, dCons_eq, e2]
  simp [e3, e4, e5, e6, e7, h1, h6, lc1, le1, e8, lc2, le2, ad, e9, e10, lc3, le3, ne1', lc4, le4, er, ne2, ix_v1, ix_v2, ix_m2]
end K08
set_option Elab.async false
set_option linter.all false
set_option maxRecDepth 100000
set_option maxHeartbeats 4000000
/-! k08: the law's denotation ends with True. -/
namespace K08
open PySem DL
theorem l3_ok {S : Store} {ns : List Int} {k : Nat} {a2 a3 a4 a5 a6 a7 a8 : Option Val} (hk : k < 5) : ∃ (S' : Store) (o2 o3 o4 o5 o6 o7 o8 : Option Val), l3_law [some (.scr (ns.map .int)), some (.int k), a2, a3, a4, a5, a6, a7, a8, none, none, none] S = some (.nx [some (.scr (ns.map .int)), some (.int k), o2, o3, o4, o5, o6, o7, o8, none, none, none], S') := by
  obtain ⟨a, b, e⟩ := stream_ok (S := S) (ns := ns) hk
  have A : SA (S ++ [.lst [.int a, .int b]]) S.length := ⟨a, b, by simp⟩
  have loop := forL_inv (chk := fun _ => True) (g := gN 3) (b := l2_law)
    (fun xs ρ W => SA W S.length ∧ ∃ o3 o4 o5 o6 o7 o8 : Option Val, ρ = [some (.scr (ns.map .int)), some (.int k), some (.obj S.length), o3, o4, o5, o6, o7, o8, none, none, none])
    (fun _ _ _ _ => trivial) (by
      rintro x xs ρ W ⟨A, o3, o4, o5, o6, o7, o8, rfl⟩
      obtain ⟨W', q4, q5, q6, q7, q8, e, A'⟩ := turn_ok (a0 := some (.scr (ns.map .int))) (a1 := some (.int k)) (a3 := some x) (a4 := o4) (a5 := o5) (a6 := o6) (a7 := o7) (a8 := o8) A
      exact ⟨_, _, W', rfl, e, A', _, _, _, _, _, _, rfl⟩)
    ((List.range 3).map fun (j : Nat) => Val.int j) [some (.scr (ns.map .int)), some (.int k), some (.obj S.length), a3, a4, a5, a6, a7, a8, none, none, none] (S ++ [.lst [.int a, .int b]]) ⟨A, _, _, _, _, _, _, rfl⟩
  obtain ⟨ρ', W', e2, _, o3, o4, o5, o6, o7, o8, rfl⟩ := loop
  refine ⟨W', some (.obj S.length), o3, o4, o5, o6, o7, o8, ?_⟩
  have er : kRange1 (.int 3) (S ++ [.lst [.int a, .int b]]) = _ := kRange1_nat (n := 3) (by decide)
  unfold l3_law
  simp only [dSeq_eq, dSet_eq, dCall_eq, dCons_eq, dNil_eq, dVar_0, dVar_1]
  simp [e, er]
  exact e2
theorem math (ns : List Int) (hn : ns.length ≤ 63) : ∃ S', F_law [.scr (ns.map .int)] [] = some (.ok (.bl true), S') := by
  have loop := forL_inv (chk := fun _ => True) (g := gN 1) (b := l3_law)
    (fun xs ρ W => (∀ x ∈ xs, ∃ k : Nat, x = .int k ∧ k < 5) ∧ ∃ o1 o2 o3 o4 o5 o6 o7 o8 : Option Val, ρ = [some (.scr (ns.map .int)), o1, o2, o3, o4, o5, o6, o7, o8, none, none, none])
    (fun _ _ _ _ => trivial) (by
      rintro x xs ρ W ⟨hx, o1, o2, o3, o4, o5, o6, o7, o8, rfl⟩
      obtain ⟨k, rfl, hk⟩ := hx x (List.mem_cons_self ..)
      obtain ⟨W', q2, q3, q4, q5, q6, q7, q8, e⟩ := l3_ok (S := W) (ns := ns) (a2 := o2) (a3 := o3) (a4 := o4) (a5 := o5) (a6 := o6) (a7 := o7) (a8 := o8) hk
      exact ⟨_, _, W', rfl, e, fun y hy => hx y (List.mem_cons_of_mem _ hy), _, _, _, _, _, _, _, _, rfl⟩)
  obtain ⟨N, hN, h5⟩ : ∃ N : Nat, (if (if ((ns.length : Int)) < 5 then (ns.length : Int) else 5) > 1 then (if ((ns.length : Int)) < 5 then (ns.length : Int) else 5) else 1) = (N : Int) ∧ N ≤ 5 := by
    by_cases h1 : (ns.length : Int) < 5
    · simp only [if_pos h1]
      by_cases h2 : (ns.length : Int) > 1
      · exact ⟨ns.length, by rw [if_pos h2], by omega⟩
      · exact ⟨1, by rw [if_neg h2]; rfl, by omega⟩
    · simp only [if_neg h1]
      exact ⟨5, by decide, by omega⟩
  obtain ⟨ρ', W', e, _, o1, o2, o3, o4, o5, o6, o7, o8, rfl⟩ := loop ((List.range N).map fun (j : Nat) => Val.int j) [some (.scr (ns.map .int)), none, none, none, none, none, none, none, none, none, none, none] [] ⟨fun x hx => by
    obtain ⟨k, hk, rfl⟩ := List.mem_map.mp hx
    exact ⟨k, rfl, by have := List.mem_range.mp hk; omega⟩, _, _, _, _, _, _, _, _, rfl⟩
  refine ⟨W', ?_⟩
  have er : kRange1 (.int N) [] = _ := kRange1_nat (n := N) (by omega)
  unfold F_law
  rw [dDef_1]
  unfold b_law
  simp only [dSeq_eq, dFor_eq, dRange1_eq, dB_eq, dCons_eq, dNil_eq, dC_eq, dVar_0]
  simp [hN, er, e]
end K08
set_option Elab.async false
set_option linter.all false
set_option maxRecDepth 100000
set_option maxHeartbeats 0
/-! The walk of duenotes_k08_places_and_steps. -/
namespace K08
open PySem PySem.Spec PyProof.Rows L2 DL
section statements
def top (i : Nat) : Stmt := PySem.Challenge.pw_duenotes_k08_places_and_steps.main.body.getD i (.Pass ⟨0, 0, 0, 0⟩)
abbrev s__law_stream : Stmt := (top 51)
abbrev s__law_count : Stmt := (top 57)
abbrev s__law_trimmed : Stmt := (top 58)
abbrev s__law_draw : Stmt := (top 52)
abbrev s__law_choose : Stmt := (top 53)
abbrev s__law_sum : Stmt := (top 54)
abbrev s__law_simple : Stmt := (top 55)
abbrev s__law_block : Stmt := (top 56)
abbrev s__law_handler : Stmt := (top 59)
abbrev s__law_parts : Stmt := (top 60)
abbrev s__law_laid : Stmt := (top 61)
abbrev s_is_name : Stmt := (top 6)
abbrev s_are_names : Stmt := (top 33)
abbrev s_is_variable : Stmt := (top 27)
abbrev s_is_told : Stmt := (top 34)
abbrev s_is_integer : Stmt := (top 4)
abbrev s_is_between : Stmt := (top 5)
abbrev s_is_factor : Stmt := (top 25)
abbrev s_is_sum : Stmt := (top 26)
abbrev s_is_statement : Stmt := (top 28)
abbrev s_is_block : Stmt := (top 29)
abbrev s_blocks_of : Stmt := (top 30)
abbrev s_statements_in : Stmt := (top 31)
abbrev s_has_size : Stmt := (top 32)
abbrev s_is_owner : Stmt := (top 35)
abbrev s_is_main : Stmt := (top 36)
abbrev s_is_handler : Stmt := (top 37)
abbrev s_check_parts : Stmt := (top 38)
abbrev s_Graph__put_place : Stmt := (inClass (top 39) 1)
abbrev s_Graph__put_block : Stmt := (inClass (top 39) 2)
abbrev s_Graph__put_statement : Stmt := (inClass (top 39) 3)
abbrev s_Graph__init : Stmt := (inClass (top 39) 0)
abbrev s_Program__init : Stmt := (inClass (top 40) 0)
abbrev s_check_owner : Stmt := (top 41)
abbrev s_Program__handler : Stmt := (inClass (top 40) 5)
abbrev s_rank_of : Stmt := (top 43)
abbrev s_comers_of : Stmt := (top 46)
abbrev s_comers : Stmt := (top 47)
abbrev s_has_loops : Stmt := (top 49)
abbrev s_graph_of : Stmt := (top 42)
abbrev s_places : Stmt := (top 45)
abbrev s_check_place : Stmt := (top 44)
abbrev s_next_places : Stmt := (top 48)
abbrev s__law_owner_holds : Stmt := (top 62)
abbrev s_law : Stmt := (top 63)
/-- what the top has written -/
structure Raw (K : PySem.W.Frag) (mg : MG) : Prop where
  r__law_stream : RawDef K mg "_law_stream" "_law_stream" s__law_stream
  r__law_count : RawDef K mg "_law_count" "_law_count" s__law_count
  r__law_trimmed : RawDef K mg "_law_trimmed" "_law_trimmed" s__law_trimmed
  r__law_draw : RawDef K mg "_law_draw" "_law_draw" s__law_draw
  r__law_choose : RawDef K mg "_law_choose" "_law_choose" s__law_choose
  r__law_sum : RawDef K mg "_law_sum" "_law_sum" s__law_sum
  r__law_simple : RawDef K mg "_law_simple" "_law_simple" s__law_simple
  r__law_block : RawDef K mg "_law_block" "_law_block" s__law_block
  r__law_handler : RawDef K mg "_law_handler" "_law_handler" s__law_handler
  r__law_parts : RawDef K mg "_law_parts" "_law_parts" s__law_parts
  r__law_laid : RawDef K mg "_law_laid" "_law_laid" s__law_laid
  r_is_name : RawDef K mg "is_name" "is_name" s_is_name
  r_are_names : RawDef K mg "are_names" "are_names" s_are_names
  r_is_variable : RawDef K mg "is_variable" "is_variable" s_is_variable
  r_is_told : RawDef K mg "is_told" "is_told" s_is_told
  r_is_integer : RawDef K mg "is_integer" "is_integer" s_is_integer
  r_is_between : RawDef K mg "is_between" "is_between" s_is_between
  r_is_factor : RawDef K mg "is_factor" "is_factor" s_is_factor
  r_is_sum : RawDef K mg "is_sum" "is_sum" s_is_sum
  r_is_statement : RawDef K mg "is_statement" "is_statement" s_is_statement
  r_is_block : RawDefD K mg "is_block" "is_block" s_is_block [(V.int 0)]
  r_blocks_of : RawDef K mg "blocks_of" "blocks_of" s_blocks_of
  r_statements_in : RawDef K mg "statements_in" "statements_in" s_statements_in
  r_has_size : RawDef K mg "has_size" "has_size" s_has_size
  r_is_owner : RawDef K mg "is_owner" "is_owner" s_is_owner
  r_is_main : RawDef K mg "is_main" "is_main" s_is_main
  r_is_handler : RawDef K mg "is_handler" "is_handler" s_is_handler
  r_check_parts : RawDef K mg "check_parts" "check_parts" s_check_parts
  r_Graph__put_place : RawMeth K mg "Graph" "put_place" "Graph.put_place" s_Graph__put_place
  r_Graph__put_block : RawMeth K mg "Graph" "put_block" "Graph.put_block" s_Graph__put_block
  r_Graph__put_statement : RawMeth K mg "Graph" "put_statement" "Graph.put_statement" s_Graph__put_statement
  r_Graph__init : RawInit K mg "Graph" "Graph.__init__" s_Graph__init
  r_Program__init : RawInit K mg "Program" "Program.__init__" s_Program__init
  r_check_owner : RawDef K mg "check_owner" "check_owner" s_check_owner
  r_Program__handler : RawMeth K mg "Program" "handler" "Program.handler" s_Program__handler
  r_rank_of : RawDef K mg "rank_of" "rank_of" s_rank_of
  r_comers_of : RawDef K mg "comers_of" "comers_of" s_comers_of
  r_comers : RawDefD K mg "comers" "comers" s_comers [(V.str "main")]
  r_has_loops : RawDef K mg "has_loops" "has_loops" s_has_loops
  r_graph_of : RawDef K mg "graph_of" "graph_of" s_graph_of
  r_places : RawDefD K mg "places" "places" s_places [(V.str "main")]
  r_check_place : RawDefD K mg "check_place" "check_place" s_check_place [(V.str "main")]
  r_next_places : RawDefD K mg "next_places" "next_places" s_next_places [(V.str "main")]
  r__law_owner_holds : RawDef K mg "_law_owner_holds" "_law_owner_holds" s__law_owner_holds
  r_law : RawDef K mg "law" "law" s_law
  f_Graph_spots : RawFld K mg "Graph" "spots"
  f_Graph_steps : RawFld K mg "Graph" "steps"
  f_Program_content : RawFld K mg "Program" "content"
  f_Program_graphs : RawFld K mg "Program" "graphs"
  f_Program_main_graph : RawFld K mg "Program" "main_graph"
  z_all : mg "all" = none
  z_any : mg "any" = none
  z_bool : mg "bool" = none
  z_enumerate : mg "enumerate" = none
  z_int : mg "int" = none
  z_isinstance : mg "isinstance" = none
  z_len : mg "len" = none
  z_max : mg "max" = none
  z_min : mg "min" = none
  z_range : mg "range" = none
  z_set : mg "set" = none
  z_sorted : mg "sorted" = none
  z_str : mg "str" = none
  z_tuple : mg "tuple" = none
  z_zip : mg "zip" = none
  g_HANDLER_SIZES : GC K mg "HANDLER_SIZES" (.tup [(.int 8), (.int 3)])
  g_LETTERS : GC K mg "LETTERS" (.str "abcdefghijklmnopqrstuvwxyz")
  g_MAIN : GC K mg "MAIN" (.str "main")
  g_MAIN_SIZES : GC K mg "MAIN_SIZES" (.tup [(.int 16), (.int 4)])
  g_MOST_FACTOR : GC K mg "MOST_FACTOR" (.int 1000000000000000000000000000000)
  g_MOST_HANDLERS : GC K mg "MOST_HANDLERS" (.int 3)
  g_MOST_LETTERS : GC K mg "MOST_LETTERS" (.int 8)
  g_MOST_LOCALS : GC K mg "MOST_LOCALS" (.int 2)
  g_MOST_NAMES : GC K mg "MOST_NAMES" (.int 4)
  g_MOST_NESTED : GC K mg "MOST_NESTED" (.int 3)
  g_MOST_RANK : GC K mg "MOST_RANK" (.int 3)
  g_MOST_SHARED : GC K mg "MOST_SHARED" (.int 3)
  g_MOST_WAIT : GC K mg "MOST_WAIT" (.int 500)
  g_WISHES : GC K mg "WISHES" (.tup [(.str "now"), (.str "late")])
  g_WORDS : GC K mg "WORDS" (.tup [(.str "shared"), (.str "local"), (.str "told"), (.str "handler"), (.str "rank"), (.str "now"), (.str "late"), (.str "wait"), (.str "main"), (.str "end"), (.str "set"), (.str "input"), (.str "either"), (.str "or"), (.str "loop")])
end statements
section proofs
variable {P : Program} {w : World} {K : PySem.W.Frag} {mg : MG} {base : Heap}
theorem sc__law_stream : FnScope ["script", "k", "cell", "size", "mixed"] ["script", "k"] (defScope s__law_stream) := ⟨rfl, rfl, rfl, by decide +kernel, rfl, by decide +kernel, by decide +kernel⟩
theorem kf__law_stream (R : Raw K mg)  {f : Addr} {fd : FuncData} (F : Fun K "_law_stream" "_law_stream" s__law_stream f fd) : FnOk P w K mg base (L2.CX P w) (0 + 1) f fd ["script", "k"] (spD K mg 2 (dDef 2 5 b__law_stream)) := by
  have S := sc__law_stream
  exact def_ok F S (by decide) fun cdv A outer s H E hr => (dss_cons (ds_set S.nd de_int) (dss_cons (ds_if (dt_cmp opr_lt op2_lt (dv 1) (de_callB opr_len opn_len R.z_len boot_len (da_cons (dv 0) da_nil))) (dss_one (ds_set S.nd (de_ix ix_seq op2_ix (dv 0) (dv 1)))) dss_nil) (dss_cons (ds_set S.nd (de_callB (call_max2 rfl) opn_max2 R.z_max PyProof.Rows.boot_max (da_cons (dv 2) (da_cons (de_op op_sub op2_sub (de_neg de_int) (dv 2)) da_nil)))) (dss_cons (ds_set S.nd (de_op op_mod op2_mod (de_op op_mul op2_mul (de_op opr_add op2_add (de_op opr_add op2_add (de_op opr_add op2_add (de_op op_mod op2_mod (dv 3) de_int) (de_op op_mul op2_mul (de_op op_mul op2_mul de_int (dv 1)) (dv 1))) (de_op op_mul op2_mul de_int (dv 1))) de_int) de_int) de_int)) (dss_one (ds_ret (de_lst (da_cons (de_op op_mul op2_mul (dv 3) (de_callT call_int1 opn_int R.z_int PyProof.Rows.boot_int (da_cons (de_cmp op_ge (op2_cmp fun i j => decide (j ≤ i)) (dv 3) (de_op op_pow op2_pow de_int de_int)) da_nil))) (da_cons (dv 4) da_nil)))))))))
theorem k__law_stream (R : Raw K mg)  : DefOk P w K mg base "_law_stream" (0 + 1) ["script", "k"] [] (dDef 2 5 b__law_stream) := by
  obtain ⟨f, fd, hm, F⟩ := R.r__law_stream
  have h : DefOk P w K mg base "_law_stream" (0 + 1) ["script", "k"] [] (dDef 2 5 b__law_stream) := ⟨arity_def, f, fd, hm, F.kp, ⟨[], [], F.binds fun _ _ _ _ _ _ us hl => match us, hl with | [_, _], _ => rfl, .nil, fun _ _ => .nil⟩, kf__law_stream R  F⟩
  exact h
theorem sc__law_count : FnScope ["block", "words", "many", "statement", "inner"] ["block", "words"] (defScope s__law_count) := ⟨rfl, rfl, rfl, by decide +kernel, rfl, by decide +kernel, by decide +kernel⟩
theorem kf__law_count {n : Nat} {r__law_count : FD} (R : Raw K mg) (h__law_count : DefOk P w K mg base "_law_count" (0 + n) ["block", "words"] [] r__law_count) {f : Addr} {fd : FuncData} (F : Fun K "_law_count" "_law_count" s__law_count f fd) : FnOk P w K mg base (L2.CX P w) (0 + n + 1) f fd ["block", "words"] (spD K mg 2 (dDef 2 5 (b__law_count r__law_count))) := by
  have S := sc__law_count
  exact def_ok F S (by decide) fun cdv A outer s H E hr => (dss_cons (ds_set S.nd de_int) (dss_cons (ds_for ownD rfl (di_seq (dv 0)) (dg_name S.nd) (dss_cons (ds_set S.nd (de_op opr_add op2_add (dv 2) (de_callT call_int1 opn_int R.z_int PyProof.Rows.boot_int (da_cons (de_cmp opr_in op2_in (de_ix ix_seq op2_ix (dv 3) de_int) (dv 1)) da_nil)))) (dss_one (ds_for ownD rfl (di_seq (de_sl (dv 3) (dp_some de_int) dp_none)) (dg_name S.nd) (dss_one (ds_if (dt_bool (dw_and (dt_cmp opr_notIn op2_notIn (de_ix ix_seq op2_ix (dv 3) de_int) (de_vl (da_cons de_str (da_cons de_str da_nil)))) (dw_and1 (dt_val (de_isi (by decide) R.z_isinstance R.z_tuple (by decide +kernel) (dv 4)))))) (dss_one (ds_set S.nd (de_op opr_add op2_add (dv 2) (de_c h__law_count hr passD (da_cons (dv 4) (da_cons (dv 1) da_nil)))))) dss_nil)))))) (dss_one (ds_ret (dv 2)))))
theorem k__law_count {n : Nat} {r__law_count : FD} (R : Raw K mg) (h__law_count : DefOk P w K mg base "_law_count" (0 + n) ["block", "words"] [] r__law_count) : DefOk P w K mg base "_law_count" (0 + n + 1) ["block", "words"] [] (dDef 2 5 (b__law_count r__law_count)) := by
  obtain ⟨f, fd, hm, F⟩ := R.r__law_count
  have h : DefOk P w K mg base "_law_count" (0 + n + 1) ["block", "words"] [] (dDef 2 5 (b__law_count r__law_count)) := ⟨arity_def, f, fd, hm, F.kp, ⟨[], [], F.binds fun _ _ _ _ _ _ us hl => match us, hl with | [_, _], _ => rfl, .nil, fun _ _ => .nil⟩, kf__law_count R h__law_count F⟩
  exact h
theorem kg__law_count (R : Raw K mg)  : ∀ n, DefOk P w K mg base "_law_count" (0 + n) ["block", "words"] [] (G__law_count n)
  | 0 => by
    exact (by obtain ⟨f, fd, hm, F⟩ := R.r__law_count; exact ⟨arity_none, f, fd, hm, F.kp, ⟨[], [], F.binds fun _ _ _ _ _ _ us hl => match us, hl with | [_, _], _ => rfl, .nil, fun _ _ => .nil⟩, none_ok⟩)
  | n + 1 => by
    have ih0 := kg__law_count R  n
    exact k__law_count R ih0
theorem sc__law_trimmed : FnScope ["block", "words", "most"] ["block", "words", "most"] (defScope s__law_trimmed) := ⟨rfl, rfl, rfl, by decide +kernel, rfl, by decide +kernel, by decide +kernel⟩
theorem kf__law_trimmed (R : Raw K mg) (h__law_count : DefOk P w K mg base "_law_count" 30 ["block", "words"] [] (G__law_count 30)) {f : Addr} {fd : FuncData} (F : Fun K "_law_trimmed" "_law_trimmed" s__law_trimmed f fd) : FnOk P w K mg base (L2.CX P w) (30 + 1) f fd ["block", "words", "most"] (spD K mg 3 (dDef 3 3 b__law_trimmed)) := by
  have S := sc__law_trimmed
  exact def_ok F S (by decide) fun cdv A outer s H E hr => (dss_cons (ds_while 200 ownD (dt_cmp op_gt (op2_cmp fun i j => decide (j < i)) (de_c h__law_count hr passD (da_cons (dv 0) (da_cons (dv 1) da_nil))) (dv 2)) (dss_one (ds_set S.nd (de_sl (dv 0) dp_none (dp_some (de_neg de_int)))))) (dss_one (ds_ret (dv 0))))
theorem k__law_trimmed (R : Raw K mg) (h__law_count : DefOk P w K mg base "_law_count" 30 ["block", "words"] [] (G__law_count 30)) : DefOk P w K mg base "_law_trimmed" (30 + 1) ["block", "words", "most"] [] (cutF (dDef 3 3 b__law_trimmed)) := by
  obtain ⟨f, fd, hm, F⟩ := R.r__law_trimmed
  have h : DefOk P w K mg base "_law_trimmed" (30 + 1) ["block", "words", "most"] [] (dDef 3 3 b__law_trimmed) := ⟨arity_def, f, fd, hm, F.kp, ⟨[], [], F.binds fun _ _ _ _ _ _ us hl => match us, hl with | [_, _, _], _ => rfl, .nil, fun _ _ => .nil⟩, kf__law_trimmed R h__law_count F⟩
  exact h.cut
theorem sc__law_draw : FnScope ["stream", "count", "result"] ["stream", "count"] (defScope s__law_draw) := ⟨rfl, rfl, rfl, by decide +kernel, rfl, by decide +kernel, by decide +kernel⟩
theorem kf__law_draw (R : Raw K mg)  {f : Addr} {fd : FuncData} (F : Fun K "_law_draw" "_law_draw" s__law_draw f fd) : FnOk P w K mg base (L2.CX P w) (0 + 1) f fd ["stream", "count"] (spD K mg 2 (dDef 2 3 b__law_draw)) := by
  have S := sc__law_draw
  exact def_ok F S (by decide) fun cdv A outer s H E hr => (dss_cons (ds_if (dt_cmp op_gt (op2_cmp fun i j => decide (j < i)) (de_ix ix_seq op2_ix (dv 0) de_int) de_int) (dss_cons (ds_set S.nd (de_op op_mod op2_mod (de_ix ix_seq op2_ix (dv 0) de_int) (dv 1))) (dss_cons (ds_sub (dv 0) de_int (de_op op_fdiv op2_fdiv (de_ix ix_seq op2_ix (dv 0) de_int) (dv 1))) (dss_one (ds_ret (dv 2))))) dss_nil) (dss_cons (ds_sub (dv 0) de_int (de_op op_mod op2_mod (de_op opr_add op2_add (de_op op_mul op2_mul (de_ix ix_seq op2_ix (dv 0) de_int) de_int) de_int) de_int)) (dss_one (ds_ret (de_op op_mod op2_mod (de_op op_fdiv op2_fdiv (de_op op_mod op2_mod (de_op op_mul op2_mul (de_ix ix_seq op2_ix (dv 0) de_int) (de_ix ix_seq op2_ix (dv 0) de_int)) de_int) de_int) (dv 1))))))
theorem k__law_draw (R : Raw K mg)  : DefOk P w K mg base "_law_draw" (0 + 1) ["stream", "count"] [] (dDef 2 3 b__law_draw) := by
  obtain ⟨f, fd, hm, F⟩ := R.r__law_draw
  have h : DefOk P w K mg base "_law_draw" (0 + 1) ["stream", "count"] [] (dDef 2 3 b__law_draw) := ⟨arity_def, f, fd, hm, F.kp, ⟨[], [], F.binds fun _ _ _ _ _ _ us hl => match us, hl with | [_, _], _ => rfl, .nil, fun _ _ => .nil⟩, kf__law_draw R  F⟩
  exact h
theorem sc__law_choose : FnScope ["stream", "items"] ["stream", "items"] (defScope s__law_choose) := ⟨rfl, rfl, rfl, by decide +kernel, rfl, by decide +kernel, by decide +kernel⟩
theorem kf__law_choose (R : Raw K mg) (h__law_draw : DefOk P w K mg base "_law_draw" 1 ["stream", "count"] [] F__law_draw) {f : Addr} {fd : FuncData} (F : Fun K "_law_choose" "_law_choose" s__law_choose f fd) : FnOk P w K mg base (L2.CX P w) (1 + 1) f fd ["stream", "items"] (spD K mg 2 (dDef 2 2 b__law_choose)) := by
  have S := sc__law_choose
  exact def_ok F S (by decide) fun cdv A outer s H E hr => (dss_one (ds_ret (de_ix ix_seq op2_ix (dv 1) (de_c h__law_draw hr passD (da_cons (dv 0) (da_cons (de_callB opr_len opn_len R.z_len boot_len (da_cons (dv 1) da_nil)) da_nil))))))
theorem k__law_choose (R : Raw K mg) (h__law_draw : DefOk P w K mg base "_law_draw" 1 ["stream", "count"] [] F__law_draw) : DefOk P w K mg base "_law_choose" (1 + 1) ["stream", "items"] [] (dDef 2 2 b__law_choose) := by
  obtain ⟨f, fd, hm, F⟩ := R.r__law_choose
  have h : DefOk P w K mg base "_law_choose" (1 + 1) ["stream", "items"] [] (dDef 2 2 b__law_choose) := ⟨arity_def, f, fd, hm, F.kp, ⟨[], [], F.binds fun _ _ _ _ _ _ us hl => match us, hl with | [_, _], _ => rfl, .nil, fun _ _ => .nil⟩, kf__law_choose R h__law_draw F⟩
  exact h
theorem sc__law_sum : FnScope ["stream", "names", "terms", "name"] ["stream", "names"] (defScope s__law_sum) := ⟨rfl, rfl, rfl, by decide +kernel, rfl, by decide +kernel, by decide +kernel⟩
theorem kf__law_sum (R : Raw K mg) (h__law_choose : DefOk P w K mg base "_law_choose" 2 ["stream", "items"] [] F__law_choose) (h__law_draw : DefOk P w K mg base "_law_draw" 1 ["stream", "count"] [] F__law_draw) {f : Addr} {fd : FuncData} (F : Fun K "_law_sum" "_law_sum" s__law_sum f fd) : FnOk P w K mg base (L2.CX P w) (2 + 1) f fd ["stream", "names"] (spD K mg 2 (dDef 2 4 b__law_sum)) := by
  have S := sc__law_sum
  exact def_ok F S (by decide) fun cdv A outer s H E hr => (dss_cons (ds_set S.nd (de_lst da_nil)) (dss_cons (ds_for ownD rfl (di_seq (de_sort R.z_sorted (da_cons (dv 1) da_nil))) (dg_name S.nd) (dss_one (ds_if (dt_cmp opr_lt op2_lt (de_c h__law_draw hr passD (da_cons (dv 0) (da_cons de_int da_nil))) de_int) (dss_one (ds_app (dv 2) (de_tup (da_cons (de_c h__law_choose hr passD (da_cons (dv 0) (da_cons (de_vl (da_cons de_int (da_cons de_int (da_cons de_int (da_cons (de_neg de_int) (da_cons de_int da_nil)))))) da_nil))) (da_cons (dv 3) da_nil))))) dss_nil))) (dss_one (ds_ret (de_tup (da_cons (de_c h__law_choose hr passD (da_cons (dv 0) (da_cons (de_vl (da_cons de_int (da_cons de_int (da_cons de_int (da_cons de_int (da_cons (de_neg de_int) da_nil)))))) da_nil))) (da_cons (de_callT call_tupF opn_tuple R.z_tuple PyProof.Rows.boot_tuple (da_cons (dv 2) da_nil)) da_nil)))))))
theorem k__law_sum (R : Raw K mg) (h__law_choose : DefOk P w K mg base "_law_choose" 2 ["stream", "items"] [] F__law_choose) (h__law_draw : DefOk P w K mg base "_law_draw" 1 ["stream", "count"] [] F__law_draw) : DefOk P w K mg base "_law_sum" (2 + 1) ["stream", "names"] [] (cutF (dDef 2 4 b__law_sum)) := by
  obtain ⟨f, fd, hm, F⟩ := R.r__law_sum
  have h : DefOk P w K mg base "_law_sum" (2 + 1) ["stream", "names"] [] (dDef 2 4 b__law_sum) := ⟨arity_def, f, fd, hm, F.kp, ⟨[], [], F.binds fun _ _ _ _ _ _ us hl => match us, hl with | [_, _], _ => rfl, .nil, fun _ _ => .nil⟩, kf__law_sum R h__law_choose h__law_draw F⟩
  exact h.cut
theorem sc__law_simple : FnScope ["stream", "names", "name", "way"] ["stream", "names"] (defScope s__law_simple) := ⟨rfl, rfl, rfl, by decide +kernel, rfl, by decide +kernel, by decide +kernel⟩
theorem kf__law_simple (R : Raw K mg) (h__law_sum : DefOk P w K mg base "_law_sum" 3 ["stream", "names"] [] F__law_sum) (h__law_choose : DefOk P w K mg base "_law_choose" 2 ["stream", "items"] [] F__law_choose) (h__law_draw : DefOk P w K mg base "_law_draw" 1 ["stream", "count"] [] F__law_draw) {f : Addr} {fd : FuncData} (F : Fun K "_law_simple" "_law_simple" s__law_simple f fd) : FnOk P w K mg base (L2.CX P w) (3 + 1) f fd ["stream", "names"] (spD K mg 2 (dDef 2 4 b__law_simple)) := by
  have S := sc__law_simple
  exact def_ok F S (by decide) fun cdv A outer s H E hr => (dss_cons (ds_set S.nd (de_c h__law_choose hr passD (da_cons (dv 0) (da_cons (dv 1) da_nil)))) (dss_cons (ds_set S.nd (de_c h__law_draw hr passD (da_cons (dv 0) (da_cons de_int da_nil)))) (dss_cons (ds_if (dt_cmp (opr_eq (hu_room hr)) op2_eq (dv 3) de_int) (dss_one (ds_ret (de_tup (da_cons de_str (da_cons (dv 2) da_nil))))) dss_nil) (dss_cons (ds_if (dt_cmp opr_lt op2_lt (dv 3) de_int) (dss_one (ds_ret (de_tup (da_cons de_str (da_cons (dv 2) (da_cons (de_tup (da_cons (de_c h__law_draw hr passD (da_cons (dv 0) (da_cons de_int da_nil))) (da_cons (de_tup (da_cons (de_tup (da_cons de_int (da_cons (dv 2) da_nil))) da_nil)) da_nil))) da_nil)))))) dss_nil) (dss_cons (ds_if (dt_cmp (opr_eq (hu_room hr)) op2_eq (dv 3) de_int) (dss_one (ds_ret (de_tup (da_cons de_str (da_cons (dv 2) (da_cons (de_tup (da_cons de_int (da_cons (de_tup (da_cons (de_tup (da_cons (de_c h__law_choose hr passD (da_cons (dv 0) (da_cons (de_vl (da_cons de_int (da_cons (de_neg de_int) (da_cons de_int da_nil)))) da_nil))) (da_cons (dv 2) da_nil))) da_nil)) da_nil))) da_nil)))))) dss_nil) (dss_one (ds_ret (de_tup (da_cons de_str (da_cons (dv 2) (da_cons (de_c h__law_sum hr passD (da_cons (dv 0) (da_cons (dv 1) da_nil))) da_nil)))))))))))
theorem k__law_simple (R : Raw K mg) (h__law_sum : DefOk P w K mg base "_law_sum" 3 ["stream", "names"] [] F__law_sum) (h__law_choose : DefOk P w K mg base "_law_choose" 2 ["stream", "items"] [] F__law_choose) (h__law_draw : DefOk P w K mg base "_law_draw" 1 ["stream", "count"] [] F__law_draw) : DefOk P w K mg base "_law_simple" (3 + 1) ["stream", "names"] [] (dDef 2 4 b__law_simple) := by
  obtain ⟨f, fd, hm, F⟩ := R.r__law_simple
  have h : DefOk P w K mg base "_law_simple" (3 + 1) ["stream", "names"] [] (dDef 2 4 b__law_simple) := ⟨arity_def, f, fd, hm, F.kp, ⟨[], [], F.binds fun _ _ _ _ _ _ us hl => match us, hl with | [_, _], _ => rfl, .nil, fun _ _ => .nil⟩, kf__law_simple R h__law_sum h__law_choose h__law_draw F⟩
  exact h
theorem sc__law_block : FnScope ["stream", "names", "size", "depth", "found", "turn", "way", "first", "second"] ["stream", "names", "size", "depth"] (defScope s__law_block) := ⟨rfl, rfl, rfl, by decide +kernel, rfl, by decide +kernel, by decide +kernel⟩
theorem kf__law_block {n : Nat} {r__law_block : FD} (R : Raw K mg) (h__law_draw : DefOk P w K mg base "_law_draw" 1 ["stream", "count"] [] F__law_draw) (h__law_block : DefOk P w K mg base "_law_block" (4 + n) ["stream", "names", "size", "depth"] [] r__law_block) (h__law_simple : DefOk P w K mg base "_law_simple" 4 ["stream", "names"] [] F__law_simple) {f : Addr} {fd : FuncData} (F : Fun K "_law_block" "_law_block" s__law_block f fd) : FnOk P w K mg base (L2.CX P w) (4 + n + 1) f fd ["stream", "names", "size", "depth"] (spD K mg 4 (dDef 4 9 (b__law_block r__law_block))) := by
  have S := sc__law_block
  exact def_ok F S (by decide) fun cdv A outer s H E hr => (dss_cons (ds_set S.nd (de_lst da_nil)) (dss_cons (ds_for ownD rfl (di_range1 R.z_range (de_c h__law_draw hr passD (da_cons (dv 0) (da_cons (de_op opr_add op2_add (dv 2) de_int) da_nil)))) (dg_name S.nd) (dss_cons (ds_set S.nd (de_c h__law_draw hr passD (da_cons (dv 0) (da_cons de_int da_nil)))) (dss_one (ds_if (dt_bool (dw_and (dt_cmp (opr_eq (hu_room hr)) op2_eq (dv 6) de_int) (dw_and1 (dt_cmp op_gt (op2_cmp fun i j => decide (j < i)) (dv 3) de_int)))) (dss_cons (ds_par rfl S.nd (by decide) (da_cons (de_c h__law_block hr passD (da_cons (dv 0) (da_cons (dv 1) (da_cons de_int (da_cons (de_op op_sub op2_sub (dv 3) de_int) da_nil))))) (da_cons (de_c h__law_block hr passD (da_cons (dv 0) (da_cons (dv 1) (da_cons de_int (da_cons (de_op op_sub op2_sub (dv 3) de_int) da_nil))))) da_nil))) (dss_one (ds_app (dv 4) (de_tup (da_cons de_str (da_cons (dv 7) (da_cons (dv 8) da_nil))))))) (dss_one (ds_if (dt_bool (dw_and (dt_cmp (opr_eq (hu_room hr)) op2_eq (dv 6) de_int) (dw_and1 (dt_cmp op_gt (op2_cmp fun i j => decide (j < i)) (dv 3) de_int)))) (dss_one (ds_app (dv 4) (de_tup (da_cons de_str (da_cons (de_c h__law_block hr passD (da_cons (dv 0) (da_cons (dv 1) (da_cons de_int (da_cons (de_op op_sub op2_sub (dv 3) de_int) da_nil))))) da_nil))))) (dss_one (ds_app (dv 4) (de_c h__law_simple hr passD (da_cons (dv 0) (da_cons (dv 1) da_nil))))))))))) (dss_one (ds_ret (de_callT call_tupF opn_tuple R.z_tuple PyProof.Rows.boot_tuple (da_cons (dv 4) da_nil))))))
theorem k__law_block {n : Nat} {r__law_block : FD} (R : Raw K mg) (h__law_draw : DefOk P w K mg base "_law_draw" 1 ["stream", "count"] [] F__law_draw) (h__law_block : DefOk P w K mg base "_law_block" (4 + n) ["stream", "names", "size", "depth"] [] r__law_block) (h__law_simple : DefOk P w K mg base "_law_simple" 4 ["stream", "names"] [] F__law_simple) : DefOk P w K mg base "_law_block" (4 + n + 1) ["stream", "names", "size", "depth"] [] (cutF (dDef 4 9 (b__law_block r__law_block))) := by
  obtain ⟨f, fd, hm, F⟩ := R.r__law_block
  have h : DefOk P w K mg base "_law_block" (4 + n + 1) ["stream", "names", "size", "depth"] [] (dDef 4 9 (b__law_block r__law_block)) := ⟨arity_def, f, fd, hm, F.kp, ⟨[], [], F.binds fun _ _ _ _ _ _ us hl => match us, hl with | [_, _, _, _], _ => rfl, .nil, fun _ _ => .nil⟩, kf__law_block R h__law_draw h__law_block h__law_simple F⟩
  exact h.cut
theorem kg__law_block (R : Raw K mg) (h__law_draw : DefOk P w K mg base "_law_draw" 1 ["stream", "count"] [] F__law_draw) (h__law_simple : DefOk P w K mg base "_law_simple" 4 ["stream", "names"] [] F__law_simple) : ∀ n, DefOk P w K mg base "_law_block" (4 + n) ["stream", "names", "size", "depth"] [] (G__law_block n)
  | 0 => by
    exact (by obtain ⟨f, fd, hm, F⟩ := R.r__law_block; exact ⟨arity_none, f, fd, hm, F.kp, ⟨[], [], F.binds fun _ _ _ _ _ _ us hl => match us, hl with | [_, _, _, _], _ => rfl, .nil, fun _ _ => .nil⟩, none_ok⟩)
  | n + 1 => by
    have ih0 := kg__law_block R h__law_draw h__law_simple n
    exact k__law_block R h__law_draw ih0 h__law_simple
theorem sc__law_handler : FnScope ["stream", "name", "shared", "depth", "own", "block", "wish", "wait"] ["stream", "name", "shared", "depth"] (defScope s__law_handler) := ⟨rfl, rfl, rfl, by decide +kernel, rfl, by decide +kernel, by decide +kernel⟩
theorem kf__law_handler (R : Raw K mg) (h__law_draw : DefOk P w K mg base "_law_draw" 1 ["stream", "count"] [] F__law_draw) (h__law_choose : DefOk P w K mg base "_law_choose" 2 ["stream", "items"] [] F__law_choose) (h__law_trimmed : DefOk P w K mg base "_law_trimmed" 31 ["block", "words", "most"] [] F__law_trimmed) (h__law_simple : DefOk P w K mg base "_law_simple" 4 ["stream", "names"] [] F__law_simple) (h__law_block : DefOk P w K mg base "_law_block" 34 ["stream", "names", "size", "depth"] [] (G__law_block 30)) {f : Addr} {fd : FuncData} (F : Fun K "_law_handler" "_law_handler" s__law_handler f fd) : FnOk P w K mg base (L2.CX P w) (34 + 1) f fd ["stream", "name", "shared", "depth"] (spD K mg 4 (dDef 4 8 b__law_handler)) := by
  have S := sc__law_handler
  exact def_ok F S (by decide) fun cdv A outer s H E hr => (dss_cons (ds_set S.nd (de_sl (de_tup (da_cons de_str (da_cons de_str da_nil))) dp_none (dp_some (de_c h__law_draw hr passD (da_cons (dv 0) (da_cons de_int da_nil)))))) (dss_cons (ds_set S.nd (de_op opr_add op2_add (de_tup (da_cons (de_c h__law_simple hr passD (da_cons (dv 0) (da_cons (de_op opr_add op2_add (dv 2) (dv 4)) da_nil))) da_nil)) (de_c h__law_block hr passD (da_cons (dv 0) (da_cons (de_op opr_add op2_add (dv 2) (dv 4)) (da_cons de_int (da_cons (dv 3) da_nil))))))) (dss_cons (ds_set S.nd (de_c h__law_trimmed hr passD (da_cons (de_c h__law_trimmed hr passD (da_cons (dv 5) (da_cons (de_vl (da_cons de_str (da_cons de_str da_nil))) (da_cons de_int da_nil)))) (da_cons (de_vl (da_cons de_str (da_cons de_str da_nil))) (da_cons de_int da_nil))))) (dss_cons (ds_par rfl S.nd (by decide) (da_cons (de_c h__law_choose hr passD (da_cons (dv 0) (da_cons (de_vl (da_cons de_str (da_cons de_str (da_cons de_str da_nil)))) da_nil))) (da_cons (de_c h__law_choose hr passD (da_cons (dv 0) (da_cons (de_vl (da_cons de_non (da_cons de_non (da_cons de_int (da_cons de_int da_nil))))) da_nil))) da_nil))) (dss_one (ds_ret (de_tup (da_cons (dv 1) (da_cons (de_op opr_add op2_add de_int (de_c h__law_draw hr passD (da_cons (dv 0) (da_cons de_int da_nil)))) (da_cons (dv 6) (da_cons (dv 7) (da_cons (dv 4) (da_cons (dv 5) da_nil)))))))))))))
theorem k__law_handler (R : Raw K mg) (h__law_draw : DefOk P w K mg base "_law_draw" 1 ["stream", "count"] [] F__law_draw) (h__law_choose : DefOk P w K mg base "_law_choose" 2 ["stream", "items"] [] F__law_choose) (h__law_trimmed : DefOk P w K mg base "_law_trimmed" 31 ["block", "words", "most"] [] F__law_trimmed) (h__law_simple : DefOk P w K mg base "_law_simple" 4 ["stream", "names"] [] F__law_simple) (h__law_block : DefOk P w K mg base "_law_block" 34 ["stream", "names", "size", "depth"] [] (G__law_block 30)) : DefOk P w K mg base "_law_handler" (34 + 1) ["stream", "name", "shared", "depth"] [] (dDef 4 8 b__law_handler) := by
  obtain ⟨f, fd, hm, F⟩ := R.r__law_handler
  have h : DefOk P w K mg base "_law_handler" (34 + 1) ["stream", "name", "shared", "depth"] [] (dDef 4 8 b__law_handler) := ⟨arity_def, f, fd, hm, F.kp, ⟨[], [], F.binds fun _ _ _ _ _ _ us hl => match us, hl with | [_, _, _, _], _ => rfl, .nil, fun _ _ => .nil⟩, kf__law_handler R h__law_draw h__law_choose h__law_trimmed h__law_simple h__law_block F⟩
  exact h
theorem sc__law_parts : FnScope ["stream", "depth", "shared", "own", "block", "handlers", "name"] ["stream", "depth"] (defScope s__law_parts) := ⟨rfl, rfl, rfl, by decide +kernel, rfl, by decide +kernel, by decide +kernel⟩
theorem kf__law_parts (R : Raw K mg) (h__law_draw : DefOk P w K mg base "_law_draw" 1 ["stream", "count"] [] F__law_draw) (h__law_handler : DefOk P w K mg base "_law_handler" 35 ["stream", "name", "shared", "depth"] [] F__law_handler) (h__law_trimmed : DefOk P w K mg base "_law_trimmed" 31 ["block", "words", "most"] [] F__law_trimmed) (h__law_block : DefOk P w K mg base "_law_block" 34 ["stream", "names", "size", "depth"] [] (G__law_block 30)) {f : Addr} {fd : FuncData} (F : Fun K "_law_parts" "_law_parts" s__law_parts f fd) : FnOk P w K mg base (L2.CX P w) (35 + 1) f fd ["stream", "depth"] (spD K mg 2 (dDef 2 7 b__law_parts)) := by
  have S := sc__law_parts
  exact def_ok F S (by decide) fun cdv A outer s H E hr => (dss_cons (ds_set S.nd (de_sl (de_tup (da_cons de_str (da_cons de_str (da_cons de_str da_nil)))) dp_none (dp_some (de_op opr_add op2_add de_int (de_c h__law_draw hr passD (da_cons (dv 0) (da_cons de_int da_nil))))))) (dss_cons (ds_set S.nd (de_sl (de_tup (da_cons de_str (da_cons de_str da_nil))) dp_none (dp_some (de_c h__law_draw hr passD (da_cons (dv 0) (da_cons de_int da_nil)))))) (dss_cons (ds_set S.nd (de_op opr_add op2_add (de_c h__law_block hr passD (da_cons (dv 0) (da_cons (de_op opr_add op2_add (dv 2) (dv 3)) (da_cons de_int (da_cons (dv 1) da_nil))))) (de_c h__law_block hr passD (da_cons (dv 0) (da_cons (de_op opr_add op2_add (dv 2) (dv 3)) (da_cons de_int (da_cons de_int da_nil))))))) (dss_cons (ds_set S.nd (de_c h__law_trimmed hr passD (da_cons (de_c h__law_trimmed hr passD (da_cons (dv 4) (da_cons (de_vl (da_cons de_str (da_cons de_str da_nil))) (da_cons de_int da_nil)))) (da_cons (de_vl (da_cons de_str (da_cons de_str da_nil))) (da_cons de_int da_nil))))) (dss_cons (ds_setLcV rfl S.nd (di_seq (de_sl (de_vl (da_cons de_str (da_cons de_str da_nil))) dp_none (dp_some (de_op opr_add op2_add de_int (de_c h__law_draw hr passD (da_cons (dv 0) (da_cons de_int da_nil))))))) (blkOk_by (N := ["stream", "depth", "shared", "own", "block", "handlers", "name"]) (sc := defScope s__law_parts) (own := [("name", 6)]) (by decide +kernel)) (fun _ _ _ _ _ => (dg_name S.nd)) (fun _ _ _ _ _ => dts_nil) (fun _ _ _ _ _ => (de_c h__law_handler hr pass0 (da_cons (dv 0) (da_cons (dv 6) (da_cons (dv 2) (da_cons (dv 1) da_nil))))))) (dss_one (ds_ret (de_tup (da_cons (dv 2) (da_cons (de_tup (da_cons (dv 3) (da_cons (de_sl (dv 3) dp_none (dp_some (de_c h__law_draw hr passD (da_cons (dv 0) (da_cons de_int da_nil))))) (da_cons (dv 4) da_nil)))) (da_cons (de_callT call_tupF opn_tuple R.z_tuple PyProof.Rows.boot_tuple (da_cons (dv 5) da_nil)) da_nil)))))))))))
theorem k__law_parts (R : Raw K mg) (h__law_draw : DefOk P w K mg base "_law_draw" 1 ["stream", "count"] [] F__law_draw) (h__law_handler : DefOk P w K mg base "_law_handler" 35 ["stream", "name", "shared", "depth"] [] F__law_handler) (h__law_trimmed : DefOk P w K mg base "_law_trimmed" 31 ["block", "words", "most"] [] F__law_trimmed) (h__law_block : DefOk P w K mg base "_law_block" 34 ["stream", "names", "size", "depth"] [] (G__law_block 30)) : DefOk P w K mg base "_law_parts" (35 + 1) ["stream", "depth"] [] (dDef 2 7 b__law_parts) := by
  obtain ⟨f, fd, hm, F⟩ := R.r__law_parts
  have h : DefOk P w K mg base "_law_parts" (35 + 1) ["stream", "depth"] [] (dDef 2 7 b__law_parts) := ⟨arity_def, f, fd, hm, F.kp, ⟨[], [], F.binds fun _ _ _ _ _ _ us hl => match us, hl with | [_, _], _ => rfl, .nil, fun _ _ => .nil⟩, kf__law_parts R h__law_draw h__law_handler h__law_trimmed h__law_block F⟩
  exact h
theorem sc__law_laid : FnScope ["block", "rows", "first", "last", "statement", "head", "start", "end", "ends", "one"] ["block", "rows"] (defScope s__law_laid) := ⟨rfl, rfl, rfl, by decide +kernel, rfl, by decide +kernel, by decide +kernel⟩
theorem kf__law_laid {n : Nat} {r__law_laid : FD} (R : Raw K mg) (h__law_laid : DefOk P w K mg base "_law_laid" (0 + n) ["block", "rows"] [] r__law_laid) {f : Addr} {fd : FuncData} (F : Fun K "_law_laid" "_law_laid" s__law_laid f fd) : FnOk P w K mg base (L2.CX P w) (0 + n + 1) f fd ["block", "rows"] (spD K mg 2 (dDef 2 10 (b__law_laid r__law_laid))) := by
  have S := sc__law_laid
  exact def_ok F S (by decide) fun cdv A outer s H E hr => (dss_cons (ds_set S.nd (de_callB opr_len opn_len R.z_len boot_len (da_cons (dv 1) da_nil))) (dss_cons (ds_app (dv 1) (de_lst da_nil)) (dss_cons (ds_set S.nd (dv 2)) (dss_cons (ds_for ownD rfl (di_seq (dv 0)) (dg_name S.nd) (dss_cons (ds_if (dt_cmp opr_in op2_in (de_ix ix_seq op2_ix (dv 4) de_int) (de_vl (da_cons de_str (da_cons de_str da_nil)))) (dss_cons (ds_app (dv 1) (de_lst da_nil)) (dss_one (ds_app (de_ix ix_seq op2_ix (dv 1) (dv 3)) (de_op op_sub op2_sub (de_callB opr_len opn_len R.z_len boot_len (da_cons (dv 1) da_nil)) de_int)))) (dss_one (ds_if (dt_cmp (opr_eq (hu_room hr)) op2_eq (de_ix ix_seq op2_ix (dv 4) de_int) de_str) (dss_cons (ds_set S.nd (de_callB opr_len opn_len R.z_len boot_len (da_cons (dv 1) da_nil))) (dss_cons (ds_app (dv 1) (de_lst da_nil)) (dss_cons (ds_app (de_ix ix_seq op2_ix (dv 1) (dv 3)) (dv 5)) (dss_cons (ds_asg (de_c h__law_laid hr passD (da_cons (de_ix ix_seq op2_ix (dv 4) de_int) (da_cons (dv 1) da_nil))) (dg_tup rfl (dgs_cons (dg_name S.nd) (dgs_cons (dg_name S.nd) dgs_nil)))) (dss_cons (ds_app (dv 1) (de_lst da_nil)) (dss_cons (ds_sub (dv 1) (dv 5) (de_lst (da_cons (dv 6) (da_cons (de_op op_sub op2_sub (de_callB opr_len opn_len R.z_len boot_len (da_cons (dv 1) da_nil)) de_int) da_nil)))) (dss_one (ds_app (de_ix ix_seq op2_ix (dv 1) (dv 7)) (dv 5))))))))) (dss_cons (ds_setLcV rfl S.nd (di_seq (de_sl (dv 4) (dp_some de_int) dp_none)) (blkOk_by (N := ["block", "rows", "first", "last", "statement", "head", "start", "end", "ends", "one"]) (sc := defScope s__law_laid) (own := [("one", 9)]) (by decide +kernel)) (fun _ _ _ _ _ => (dg_name S.nd)) (fun _ _ _ _ _ => dts_nil) (fun _ _ _ _ _ => (de_c h__law_laid hr pass0 (da_cons (dv 9) (da_cons (dv 1) da_nil))))) (dss_cons (ds_app (dv 1) (de_lst da_nil)) (dss_one (ds_for ownD rfl (di_seq (dv 8)) (dg_tup rfl (dgs_cons (dg_name S.nd) (dgs_cons (dg_name S.nd) dgs_nil))) (dss_cons (ds_app (de_ix ix_seq op2_ix (dv 1) (dv 3)) (dv 6)) (dss_one (ds_app (de_ix ix_seq op2_ix (dv 1) (dv 7)) (de_op op_sub op2_sub (de_callB opr_len opn_len R.z_len boot_len (da_cons (dv 1) da_nil)) de_int))))))))))) (dss_one (ds_set S.nd (de_op op_sub op2_sub (de_callB opr_len opn_len R.z_len boot_len (da_cons (dv 1) da_nil)) de_int))))) (dss_one (ds_ret (de_tup (da_cons (dv 2) (da_cons (dv 3) da_nil)))))))))
theorem k__law_laid {n : Nat} {r__law_laid : FD} (R : Raw K mg) (h__law_laid : DefOk P w K mg base "_law_laid" (0 + n) ["block", "rows"] [] r__law_laid) : DefOk P w K mg base "_law_laid" (0 + n + 1) ["block", "rows"] [] (dDef 2 10 (b__law_laid r__law_laid)) := by
  obtain ⟨f, fd, hm, F⟩ := R.r__law_laid
  have h : DefOk P w K mg base "_law_laid" (0 + n + 1) ["block", "rows"] [] (dDef 2 10 (b__law_laid r__law_laid)) := ⟨arity_def, f, fd, hm, F.kp, ⟨[], [], F.binds fun _ _ _ _ _ _ us hl => match us, hl with | [_, _], _ => rfl, .nil, fun _ _ => .nil⟩, kf__law_laid R h__law_laid F⟩
  exact h
theorem kg__law_laid (R : Raw K mg)  : ∀ n, DefOk P w K mg base "_law_laid" (0 + n) ["block", "rows"] [] (G__law_laid n)
  | 0 => by
    exact (by obtain ⟨f, fd, hm, F⟩ := R.r__law_laid; exact ⟨arity_none, f, fd, hm, F.kp, ⟨[], [], F.binds fun _ _ _ _ _ _ us hl => match us, hl with | [_, _], _ => rfl, .nil, fun _ _ => .nil⟩, none_ok⟩)
  | n + 1 => by
    have ih0 := kg__law_laid R  n
    exact k__law_laid R ih0
theorem sc_is_name : FnScope ["value", "letter"] ["value"] (defScope s_is_name) := ⟨rfl, rfl, rfl, by decide +kernel, rfl, by decide +kernel, by decide +kernel⟩
theorem kf_is_name (R : Raw K mg)  {f : Addr} {fd : FuncData} (F : Fun K "is_name" "is_name" s_is_name f fd) : FnOk P w K mg base (L2.CX P w) (0 + 1) f fd ["value"] (spD K mg 1 (dDef 1 2 b_is_name)) := by
  have S := sc_is_name
  exact def_ok F S (by decide) fun cdv A outer s H E hr => (dss_cons (ds_if (dt_bool (dw_or (dt_not (dt_val (de_isi (by decide) R.z_isinstance R.z_str (by decide +kernel) (dv 0)))) (dw_or (dt_not (dt_chain op_le (op2_cmp fun i j => decide (i ≤ j)) op_le (op2_cmp fun i j => decide (i ≤ j)) de_int (de_callB opr_len opn_len R.z_len boot_len (da_cons (dv 0) da_nil)) (de_gc R.g_MOST_LETTERS))) (dw_or1 (dt_cmp opr_in op2_in (dv 0) (de_gc R.g_WORDS)))))) (dss_one (ds_ret de_bl)) dss_nil) (dss_one (ds_ret (de_callB (cr_all rfl) opn_all R.z_all PyProof.Rows.boot_all (da_cons (de_lcV rfl S.nd (di_str (dv 0)) (blkOk_by (N := ["value", "letter"]) (sc := defScope s_is_name) (own := [("letter", 1)]) (by decide +kernel)) (fun _ _ _ _ _ => (dg_name S.nd)) (fun _ _ _ _ _ => dts_nil) (fun _ _ _ _ _ => (de_cmp opr_in op2_in (dv 1) (de_gc R.g_LETTERS)))) da_nil)))))
theorem k_is_name (R : Raw K mg)  : DefOk P w K mg base "is_name" (0 + 1) ["value"] [] (dDef 1 2 b_is_name) := by
  obtain ⟨f, fd, hm, F⟩ := R.r_is_name
  have h : DefOk P w K mg base "is_name" (0 + 1) ["value"] [] (dDef 1 2 b_is_name) := ⟨arity_def, f, fd, hm, F.kp, ⟨[], [], F.binds fun _ _ _ _ _ _ us hl => match us, hl with | [_], _ => rfl, .nil, fun _ _ => .nil⟩, kf_is_name R  F⟩
  exact h
theorem sc_are_names : FnScope ["value", "least", "most", "name"] ["value", "least", "most"] (defScope s_are_names) := ⟨rfl, rfl, rfl, by decide +kernel, rfl, by decide +kernel, by decide +kernel⟩
theorem kf_are_names (R : Raw K mg) (h_is_name : DefOk P w K mg base "is_name" 1 ["value"] [] F_is_name) {f : Addr} {fd : FuncData} (F : Fun K "are_names" "are_names" s_are_names f fd) : FnOk P w K mg base (L2.CX P w) (1 + 1) f fd ["value", "least", "most"] (spD K mg 3 (dDef 3 4 b_are_names)) := by
  have S := sc_are_names
  exact def_ok F S (by decide) fun cdv A outer s H E hr => (dss_cons (ds_if (dt_bool (dw_or (dt_not (dt_val (de_isi (by decide) R.z_isinstance R.z_tuple (by decide +kernel) (dv 0)))) (dw_or (dt_not (dt_chain op_le (op2_cmp fun i j => decide (i ≤ j)) op_le (op2_cmp fun i j => decide (i ≤ j)) (dv 1) (de_callB opr_len opn_len R.z_len boot_len (da_cons (dv 0) da_nil)) (dv 2))) (dw_or1 (dt_not (dt_val (de_callB (cr_all rfl) opn_all R.z_all PyProof.Rows.boot_all (da_cons (de_lcV rfl S.nd (di_seq (dv 0)) (blkOk_by (N := ["value", "least", "most", "name"]) (sc := defScope s_are_names) (own := [("name", 3)]) (by decide +kernel)) (fun _ _ _ _ _ => (dg_name S.nd)) (fun _ _ _ _ _ => dts_nil) (fun _ _ _ _ _ => (de_c h_is_name hr pass0 (da_cons (dv 3) da_nil)))) da_nil)))))))) (dss_one (ds_ret de_bl)) dss_nil) (dss_one (ds_ret (de_cmp (opr_eq (hu_room hr)) op2_eq (de_lenSet rfl R.z_len R.z_set (dv 0)) (de_callB opr_len opn_len R.z_len boot_len (da_cons (dv 0) da_nil))))))
theorem k_are_names (R : Raw K mg) (h_is_name : DefOk P w K mg base "is_name" 1 ["value"] [] F_is_name) : DefOk P w K mg base "are_names" (1 + 1) ["value", "least", "most"] [] (dDef 3 4 b_are_names) := by
  obtain ⟨f, fd, hm, F⟩ := R.r_are_names
  have h : DefOk P w K mg base "are_names" (1 + 1) ["value", "least", "most"] [] (dDef 3 4 b_are_names) := ⟨arity_def, f, fd, hm, F.kp, ⟨[], [], F.binds fun _ _ _ _ _ _ us hl => match us, hl with | [_, _, _], _ => rfl, .nil, fun _ _ => .nil⟩, kf_are_names R h_is_name F⟩
  exact h
theorem sc_is_variable : FnScope ["value", "names"] ["value", "names"] (defScope s_is_variable) := ⟨rfl, rfl, rfl, by decide +kernel, rfl, by decide +kernel, by decide +kernel⟩
theorem kf_is_variable (R : Raw K mg) (h_is_name : DefOk P w K mg base "is_name" 1 ["value"] [] F_is_name) {f : Addr} {fd : FuncData} (F : Fun K "is_variable" "is_variable" s_is_variable f fd) : FnOk P w K mg base (L2.CX P w) (1 + 1) f fd ["value", "names"] (spD K mg 2 (dDef 2 2 b_is_variable)) := by
  have S := sc_is_variable
  exact def_ok F S (by decide) fun cdv A outer s H E hr => (dss_one (ds_ret (de_and (de_c h_is_name hr passD (da_cons (dv 0) da_nil)) (de_one (de_cmp opr_in op2_in (dv 0) (dv 1))))))
theorem k_is_variable (R : Raw K mg) (h_is_name : DefOk P w K mg base "is_name" 1 ["value"] [] F_is_name) : DefOk P w K mg base "is_variable" (1 + 1) ["value", "names"] [] (dDef 2 2 b_is_variable) := by
  obtain ⟨f, fd, hm, F⟩ := R.r_is_variable
  have h : DefOk P w K mg base "is_variable" (1 + 1) ["value", "names"] [] (dDef 2 2 b_is_variable) := ⟨arity_def, f, fd, hm, F.kp, ⟨[], [], F.binds fun _ _ _ _ _ _ us hl => match us, hl with | [_, _], _ => rfl, .nil, fun _ _ => .nil⟩, kf_is_variable R h_is_name F⟩
  exact h
theorem sc_is_told : FnScope ["value", "local_names", "places", "name", "one", "other"] ["value", "local_names"] (defScope s_is_told) := ⟨rfl, rfl, rfl, by decide +kernel, rfl, by decide +kernel, by decide +kernel⟩
theorem kf_is_told (R : Raw K mg) (h_is_variable : DefOk P w K mg base "is_variable" 2 ["value", "names"] [] F_is_variable) {f : Addr} {fd : FuncData} (F : Fun K "is_told" "is_told" s_is_told f fd) : FnOk P w K mg base (L2.CX P w) (2 + 1) f fd ["value", "local_names"] (spD K mg 2 (dDef 2 6 b_is_told)) := by
  have S := sc_is_told
  exact def_ok F S (by decide) fun cdv A outer s H E hr => (dss_cons (ds_if (dt_bool (dw_or (dt_not (dt_val (de_isi (by decide) R.z_isinstance R.z_tuple (by decide +kernel) (dv 0)))) (dw_or1 (dt_not (dt_val (de_callB (cr_all rfl) opn_all R.z_all PyProof.Rows.boot_all (da_cons (de_lcV rfl S.nd (di_seq (dv 0)) (blkOk_by (N := ["value", "local_names", "places", "name", "one", "other"]) (sc := defScope s_is_told) (own := [("name", 3)]) (by decide +kernel)) (fun _ _ _ _ _ => (dg_name S.nd)) (fun _ _ _ _ _ => dts_nil) (fun _ _ _ _ _ => (de_c h_is_variable hr pass0 (da_cons (dv 3) (da_cons (dv 1) da_nil))))) da_nil))))))) (dss_one (ds_ret de_bl)) dss_nil) (dss_cons (ds_setLcV rfl S.nd (di_seq (dv 0)) (blkOk_by (N := ["value", "local_names", "places", "name", "one", "other"]) (sc := defScope s_is_told) (own := [("name", 3)]) (by decide +kernel)) (fun _ _ _ _ _ => (dg_name S.nd)) (fun _ _ _ _ _ => dts_nil) (fun _ _ _ _ _ => (de_tidx (dv 1) (da_cons (dv 3) da_nil)))) (dss_one (ds_ret (de_callB (cr_all rfl) opn_all R.z_all PyProof.Rows.boot_all (da_cons (de_lcV rfl S.nd (di_zip0 (by rfl) R.z_zip (da_cons (dv 2) (da_cons (de_sl (dv 2) (dp_some de_int) dp_none) da_nil))) (blkOk_by (N := ["value", "local_names", "places", "name", "one", "other"]) (sc := defScope s_is_told) (own := [("one", 4), ("other", 5)]) (by decide +kernel)) (fun _ _ _ _ _ => (dg_tup rfl (dgs_cons (dg_name S.nd) (dgs_cons (dg_name S.nd) dgs_nil)))) (fun _ _ _ _ _ => dts_nil) (fun _ _ _ _ _ => (de_cmp opr_lt op2_lt (dv 4) (dv 5)))) da_nil))))))
theorem k_is_told (R : Raw K mg) (h_is_variable : DefOk P w K mg base "is_variable" 2 ["value", "names"] [] F_is_variable) : DefOk P w K mg base "is_told" (2 + 1) ["value", "local_names"] [] (dDef 2 6 b_is_told) := by
  obtain ⟨f, fd, hm, F⟩ := R.r_is_told
  have h : DefOk P w K mg base "is_told" (2 + 1) ["value", "local_names"] [] (dDef 2 6 b_is_told) := ⟨arity_def, f, fd, hm, F.kp, ⟨[], [], F.binds fun _ _ _ _ _ _ us hl => match us, hl with | [_, _], _ => rfl, .nil, fun _ _ => .nil⟩, kf_is_told R h_is_variable F⟩
  exact h
theorem sc_is_integer : FnScope ["value"] ["value"] (defScope s_is_integer) := ⟨rfl, rfl, rfl, by decide +kernel, rfl, by decide +kernel, by decide +kernel⟩
theorem kf_is_integer (R : Raw K mg)  {f : Addr} {fd : FuncData} (F : Fun K "is_integer" "is_integer" s_is_integer f fd) : FnOk P w K mg base (L2.CX P w) (0 + 1) f fd ["value"] (spD K mg 1 (dDef 1 1 b_is_integer)) := by
  have S := sc_is_integer
  exact def_ok F S (by decide) fun cdv A outer s H E hr => (dss_one (ds_ret (de_and (de_isi (by decide) R.z_isinstance R.z_int (by decide +kernel) (dv 0)) (de_one (de_not (de_isi (by decide) R.z_isinstance R.z_bool (by decide +kernel) (dv 0)))))))
theorem k_is_integer (R : Raw K mg)  : DefOk P w K mg base "is_integer" (0 + 1) ["value"] [] (dDef 1 1 b_is_integer) := by
  obtain ⟨f, fd, hm, F⟩ := R.r_is_integer
  have h : DefOk P w K mg base "is_integer" (0 + 1) ["value"] [] (dDef 1 1 b_is_integer) := ⟨arity_def, f, fd, hm, F.kp, ⟨[], [], F.binds fun _ _ _ _ _ _ us hl => match us, hl with | [_], _ => rfl, .nil, fun _ _ => .nil⟩, kf_is_integer R  F⟩
  exact h
theorem sc_is_between : FnScope ["value", "least", "most"] ["value", "least", "most"] (defScope s_is_between) := ⟨rfl, rfl, rfl, by decide +kernel, rfl, by decide +kernel, by decide +kernel⟩
theorem kf_is_between (R : Raw K mg) (h_is_integer : DefOk P w K mg base "is_integer" 1 ["value"] [] F_is_integer) {f : Addr} {fd : FuncData} (F : Fun K "is_between" "is_between" s_is_between f fd) : FnOk P w K mg base (L2.CX P w) (1 + 1) f fd ["value", "least", "most"] (spD K mg 3 (dDef 3 3 b_is_between)) := by
  have S := sc_is_between
  exact def_ok F S (by decide) fun cdv A outer s H E hr => (dss_one (ds_ret (de_and (de_c h_is_integer hr passD (da_cons (dv 0) da_nil)) (de_one (de_chain op_le (op2_cmp fun i j => decide (i ≤ j)) op_le (op2_cmp fun i j => decide (i ≤ j)) (dv 1) (dv 0) (dv 2))))))
theorem k_is_between (R : Raw K mg) (h_is_integer : DefOk P w K mg base "is_integer" 1 ["value"] [] F_is_integer) : DefOk P w K mg base "is_between" (1 + 1) ["value", "least", "most"] [] (dDef 3 3 b_is_between) := by
  obtain ⟨f, fd, hm, F⟩ := R.r_is_between
  have h : DefOk P w K mg base "is_between" (1 + 1) ["value", "least", "most"] [] (dDef 3 3 b_is_between) := ⟨arity_def, f, fd, hm, F.kp, ⟨[], [], F.binds fun _ _ _ _ _ _ us hl => match us, hl with | [_, _, _], _ => rfl, .nil, fun _ _ => .nil⟩, kf_is_between R h_is_integer F⟩
  exact h
theorem sc_is_factor : FnScope ["value"] ["value"] (defScope s_is_factor) := ⟨rfl, rfl, rfl, by decide +kernel, rfl, by decide +kernel, by decide +kernel⟩
theorem kf_is_factor (R : Raw K mg) (h_is_between : DefOk P w K mg base "is_between" 2 ["value", "least", "most"] [] F_is_between) {f : Addr} {fd : FuncData} (F : Fun K "is_factor" "is_factor" s_is_factor f fd) : FnOk P w K mg base (L2.CX P w) (2 + 1) f fd ["value"] (spD K mg 1 (dDef 1 1 b_is_factor)) := by
  have S := sc_is_factor
  exact def_ok F S (by decide) fun cdv A outer s H E hr => (dss_one (ds_ret (de_c h_is_between hr passD (da_cons (dv 0) (da_cons (de_neg (de_gc R.g_MOST_FACTOR)) (da_cons (de_gc R.g_MOST_FACTOR) da_nil))))))
theorem k_is_factor (R : Raw K mg) (h_is_between : DefOk P w K mg base "is_between" 2 ["value", "least", "most"] [] F_is_between) : DefOk P w K mg base "is_factor" (2 + 1) ["value"] [] (dDef 1 1 b_is_factor) := by
  obtain ⟨f, fd, hm, F⟩ := R.r_is_factor
  have h : DefOk P w K mg base "is_factor" (2 + 1) ["value"] [] (dDef 1 1 b_is_factor) := ⟨arity_def, f, fd, hm, F.kp, ⟨[], [], F.binds fun _ _ _ _ _ _ us hl => match us, hl with | [_], _ => rfl, .nil, fun _ _ => .nil⟩, kf_is_factor R h_is_between F⟩
  exact h
theorem sc_is_sum : FnScope ["value", "names", "term", "used", "factor", "name", "one", "other"] ["value", "names"] (defScope s_is_sum) := ⟨rfl, rfl, rfl, by decide +kernel, rfl, by decide +kernel, by decide +kernel⟩
theorem kf_is_sum (R : Raw K mg) (h_is_name : DefOk P w K mg base "is_name" 1 ["value"] [] F_is_name) (h_is_factor : DefOk P w K mg base "is_factor" 3 ["value"] [] F_is_factor) {f : Addr} {fd : FuncData} (F : Fun K "is_sum" "is_sum" s_is_sum f fd) : FnOk P w K mg base (L2.CX P w) (3 + 1) f fd ["value", "names"] (spD K mg 2 (dDef 2 8 b_is_sum)) := by
  have S := sc_is_sum
  exact def_ok F S (by decide) fun cdv A outer s H E hr => (dss_cons (ds_if (dt_bool (dw_or (dt_not (dt_val (de_isi (by decide) R.z_isinstance R.z_tuple (by decide +kernel) (dv 0)))) (dw_or (dt_cmp (opr_ne (hu_room hr)) op2_ne (de_callB opr_len opn_len R.z_len boot_len (da_cons (dv 0) da_nil)) de_int) (dw_or (dt_not (dt_val (de_c h_is_factor hr passD (da_cons (de_ix ix_seq op2_ix (dv 0) de_int) da_nil)))) (dw_or1 (dt_not (dt_val (de_isi (by decide) R.z_isinstance R.z_tuple (by decide +kernel) (de_ix ix_seq op2_ix (dv 0) de_int))))))))) (dss_one (ds_ret de_bl)) dss_nil) (dss_cons (ds_for ownD rfl (di_seq (de_ix ix_seq op2_ix (dv 0) de_int)) (dg_name S.nd) (dss_cons (ds_if (dt_bool (dw_or (dt_not (dt_val (de_isi (by decide) R.z_isinstance R.z_tuple (by decide +kernel) (dv 2)))) (dw_or (dt_cmp (opr_ne (hu_room hr)) op2_ne (de_callB opr_len opn_len R.z_len boot_len (da_cons (dv 2) da_nil)) de_int) (dw_or (dt_not (dt_val (de_c h_is_factor hr passD (da_cons (de_ix ix_seq op2_ix (dv 2) de_int) da_nil)))) (dw_or1 (dt_cmp (opr_eq (hu_room hr)) op2_eq (de_ix ix_seq op2_ix (dv 2) de_int) de_int)))))) (dss_one (ds_ret de_bl)) dss_nil) (dss_one (ds_if (dt_bool (dw_or (dt_not (dt_val (de_c h_is_name hr passD (da_cons (de_ix ix_seq op2_ix (dv 2) de_int) da_nil)))) (dw_or1 (dt_cmp opr_notIn op2_notIn (de_ix ix_seq op2_ix (dv 2) de_int) (dv 1))))) (dss_one (ds_ret de_bl)) dss_nil)))) (dss_cons (ds_setLcV rfl S.nd (di_seq (de_ix ix_seq op2_ix (dv 0) de_int)) (blkOk_by (N := ["value", "names", "term", "used", "factor", "name", "one", "other"]) (sc := defScope s_is_sum) (own := [("factor", 4), ("name", 5)]) (by decide +kernel)) (fun _ _ _ _ _ => (dg_tup rfl (dgs_cons (dg_name S.nd) (dgs_cons (dg_name S.nd) dgs_nil)))) (fun _ _ _ _ _ => dts_nil) (fun _ _ _ _ _ => (dv 5))) (dss_one (ds_ret (de_callB (cr_all rfl) opn_all R.z_all PyProof.Rows.boot_all (da_cons (de_lcV rfl S.nd (di_zip0 (by rfl) R.z_zip (da_cons (dv 3) (da_cons (de_sl (dv 3) (dp_some de_int) dp_none) da_nil))) (blkOk_by (N := ["value", "names", "term", "used", "factor", "name", "one", "other"]) (sc := defScope s_is_sum) (own := [("one", 6), ("other", 7)]) (by decide +kernel)) (fun _ _ _ _ _ => (dg_tup rfl (dgs_cons (dg_name S.nd) (dgs_cons (dg_name S.nd) dgs_nil)))) (fun _ _ _ _ _ => dts_nil) (fun _ _ _ _ _ => (de_cmp opr_lt op2_lt (dv 6) (dv 7)))) da_nil)))))))
theorem k_is_sum (R : Raw K mg) (h_is_name : DefOk P w K mg base "is_name" 1 ["value"] [] F_is_name) (h_is_factor : DefOk P w K mg base "is_factor" 3 ["value"] [] F_is_factor) : DefOk P w K mg base "is_sum" (3 + 1) ["value", "names"] [] (dDef 2 8 b_is_sum) := by
  obtain ⟨f, fd, hm, F⟩ := R.r_is_sum
  have h : DefOk P w K mg base "is_sum" (3 + 1) ["value", "names"] [] (dDef 2 8 b_is_sum) := ⟨arity_def, f, fd, hm, F.kp, ⟨[], [], F.binds fun _ _ _ _ _ _ us hl => match us, hl with | [_, _], _ => rfl, .nil, fun _ _ => .nil⟩, kf_is_sum R h_is_name h_is_factor F⟩
  exact h
theorem sc_is_statement : FnScope ["value", "names", "inside", "name", "expression", "first", "second", "block"] ["value", "names", "inside"] (defScope s_is_statement) := ⟨rfl, rfl, rfl, by decide +kernel, rfl, by decide +kernel, by decide +kernel⟩
theorem kf_is_statement {n : Nat} {r_is_block : FD} (R : Raw K mg) (h_is_block : DefOk P w K mg base "is_block" (4 + n) ["value", "names", "inside"] [] r_is_block) (h_is_variable : DefOk P w K mg base "is_variable" 2 ["value", "names"] [] F_is_variable) (h_is_sum : DefOk P w K mg base "is_sum" 4 ["value", "names"] [] F_is_sum) {f : Addr} {fd : FuncData} (F : Fun K "is_statement" "is_statement" s_is_statement f fd) : FnOk P w K mg base (L2.CX P w) (4 + n + 1) f fd ["value", "names", "inside"] (spD K mg 3 (dDef 3 8 (b_is_statement r_is_block))) := by
  have S := sc_is_statement
  exact def_ok F S (by decide) fun cdv A outer s H E hr => (dss_cons (ds_if (dt_bool (dw_or (dt_not (dt_val (de_isi (by decide) R.z_isinstance R.z_tuple (by decide +kernel) (dv 0)))) (dw_or (dt_cmp (opr_eq (hu_room hr)) op2_eq (dv 0) (de_tup da_nil)) (dw_or1 (dt_not (dt_val (de_isi (by decide) R.z_isinstance R.z_str (by decide +kernel) (de_ix ix_seq op2_ix (dv 0) de_int)))))))) (dss_one (ds_ret de_bl)) dss_nil) (dss_one (ds_match (dv 0) (dmc_cons S.nd (dpt_seq rfl (dpts_cons dpt_word (dpts_cons dpt_cap (dpts_cons dpt_cap dpts_nil)))) (dss_one (ds_ret (de_and (de_c h_is_variable hr passD (da_cons (dv 3) (da_cons (dv 1) da_nil))) (de_one (de_c h_is_sum hr passD (da_cons (dv 4) (da_cons (dv 1) da_nil))))))) (dmc_cons S.nd (dpt_seq rfl (dpts_cons dpt_word (dpts_cons dpt_cap dpts_nil))) (dss_one (ds_ret (de_c h_is_variable hr passD (da_cons (dv 3) (da_cons (dv 1) da_nil))))) (dmc_cons S.nd (dpt_seq rfl (dpts_cons dpt_word (dpts_cons dpt_cap (dpts_cons dpt_cap dpts_nil)))) (dss_cons (ds_if (dt_bool (dw_or (dt_cmp op_ge (op2_cmp fun i j => decide (j ≤ i)) (dv 2) (de_gc R.g_MOST_NESTED)) (dw_or1 (dt_not (dt_val (de_c h_is_block hr passD (da_cons (dv 5) (da_cons (dv 1) (da_cons (de_op opr_add op2_add (dv 2) de_int) da_nil))))))))) (dss_one (ds_ret de_bl)) dss_nil) (dss_one (ds_ret (de_c h_is_block hr passD (da_cons (dv 6) (da_cons (dv 1) (da_cons (de_op opr_add op2_add (dv 2) de_int) da_nil))))))) (dmc_cons S.nd (dpt_seq rfl (dpts_cons dpt_word (dpts_cons dpt_cap dpts_nil))) (dss_one (ds_ret (de_and (de_cmp opr_lt op2_lt (dv 2) (de_gc R.g_MOST_NESTED)) (de_one (de_c h_is_block hr passD (da_cons (dv 7) (da_cons (dv 1) (da_cons (de_op opr_add op2_add (dv 2) de_int) da_nil)))))))) (dmc_cons S.nd dpt_any (dss_one (ds_ret de_bl)) dmc_nil))))))))
theorem k_is_statement {n : Nat} {r_is_block : FD} (R : Raw K mg) (h_is_block : DefOk P w K mg base "is_block" (4 + n) ["value", "names", "inside"] [] r_is_block) (h_is_variable : DefOk P w K mg base "is_variable" 2 ["value", "names"] [] F_is_variable) (h_is_sum : DefOk P w K mg base "is_sum" 4 ["value", "names"] [] F_is_sum) : DefOk P w K mg base "is_statement" (4 + n + 1) ["value", "names", "inside"] [] (dDef 3 8 (b_is_statement r_is_block)) := by
  obtain ⟨f, fd, hm, F⟩ := R.r_is_statement
  have h : DefOk P w K mg base "is_statement" (4 + n + 1) ["value", "names", "inside"] [] (dDef 3 8 (b_is_statement r_is_block)) := ⟨arity_def, f, fd, hm, F.kp, ⟨[], [], F.binds fun _ _ _ _ _ _ us hl => match us, hl with | [_, _, _], _ => rfl, .nil, fun _ _ => .nil⟩, kf_is_statement R h_is_block h_is_variable h_is_sum F⟩
  exact h
theorem sc_is_block : FnScope ["value", "names", "inside", "statement"] ["value", "names", "inside"] (defScope s_is_block) := ⟨rfl, rfl, rfl, by decide +kernel, rfl, by decide +kernel, by decide +kernel⟩
theorem kf_is_block {n : Nat} {r_is_statement : FD} (R : Raw K mg) (h_is_statement : DefOk P w K mg base "is_statement" (4 + n) ["value", "names", "inside"] [] r_is_statement) {f : Addr} {fd : FuncData} (F : FunD K "is_block" "is_block" (defArgs s_is_block) (defBody s_is_block) (defScope s_is_block) [(V.int 0)] [] f fd) : FnOk P w K mg base (L2.CX P w) (4 + n + 1) f fd ["value", "names", "inside"] (spD K mg 3 (dDef 3 4 (b_is_block r_is_statement))) := by
  have S := sc_is_block
  exact def_okD F S (by decide) fun cdv A outer s H E hr => (dss_cons (ds_if (dt_not (dt_val (de_isi (by decide) R.z_isinstance R.z_tuple (by decide +kernel) (dv 0)))) (dss_one (ds_ret de_bl)) dss_nil) (dss_one (ds_ret (de_callB (cr_all rfl) opn_all R.z_all PyProof.Rows.boot_all (da_cons (de_lcV rfl S.nd (di_seq (dv 0)) (blkOk_by (N := ["value", "names", "inside", "statement"]) (sc := defScope s_is_block) (own := [("statement", 3)]) (by decide +kernel)) (fun _ _ _ _ _ => (dg_name S.nd)) (fun _ _ _ _ _ => dts_nil) (fun _ _ _ _ _ => (de_c h_is_statement hr pass0 (da_cons (dv 3) (da_cons (dv 1) (da_cons (dv 2) da_nil)))))) da_nil)))))
theorem k_is_block {n : Nat} {r_is_statement : FD} (R : Raw K mg) (h_is_statement : DefOk P w K mg base "is_statement" (4 + n) ["value", "names", "inside"] [] r_is_statement) : DefOk P w K mg base "is_block" (4 + n + 1) ["value", "names", "inside"] [] (dDef 3 4 (b_is_block r_is_statement)) := by
  obtain ⟨f, fd, hm, F⟩ := R.r_is_block
  obtain ⟨ds, hd, hb⟩ := F.binds1 (ps := ["value", "names", "inside"]) 3 1 (by decide) (by decide) fun T _ _ _ _ _ _ us its hl hi => match us, its, hl, hi with | [_, _, _], [_], _, _ => ⟨_, rfl, rfl⟩
  have h : DefOk P w K mg base "is_block" (4 + n + 1) ["value", "names", "inside"] [] (dDef 3 4 (b_is_block r_is_statement)) := ⟨arity_def, f, fd, hm, F.kp, ⟨_, ds, hb, hd, fun _ _ => .nil⟩, kf_is_block R h_is_statement F⟩
  exact h
theorem k_is_block_1 {n : Nat} {r_is_statement : FD} (R : Raw K mg) (h_is_statement : DefOk P w K mg base "is_statement" (4 + n) ["value", "names", "inside"] [] r_is_statement) : DefOk P w K mg base "is_block" (4 + n + 1) ["value", "names", "inside"] [(.int 0)] (dDef 3 4 (b_is_block r_is_statement)) := by
  obtain ⟨f, fd, hm, F⟩ := R.r_is_block
  obtain ⟨ds, hd, hb⟩ := F.binds1 (ps := ["value", "names", "inside"]) 2 0 (by decide) (by decide) fun T _ _ _ _ _ _ us its hl hi => match us, its, hl, hi with | [_, _], [_], _, _ => ⟨_, rfl, rfl⟩
  have h : DefOk P w K mg base "is_block" (4 + n + 1) ["value", "names", "inside"] [(.int 0)] (dDef 3 4 (b_is_block r_is_statement)) := ⟨arity_def, f, fd, hm, F.kp, ⟨_, ds, hb, hd, fun _ _ => .cons (by constructor) (.nil)⟩, kf_is_block R h_is_statement F⟩
  exact h
theorem kg_is_statement (R : Raw K mg) (h_is_variable : DefOk P w K mg base "is_variable" 2 ["value", "names"] [] F_is_variable) (h_is_sum : DefOk P w K mg base "is_sum" 4 ["value", "names"] [] F_is_sum) : ∀ n, DefOk P w K mg base "is_statement" (4 + n) ["value", "names", "inside"] [] (G_is_statement n) ∧ DefOk P w K mg base "is_block" (4 + n) ["value", "names", "inside"] [] (G_is_block n) ∧ DefOk P w K mg base "is_block" (4 + n) ["value", "names", "inside"] [(.int 0)] (G_is_block n)
  | 0 => by
    exact ⟨(by obtain ⟨f, fd, hm, F⟩ := R.r_is_statement; exact ⟨arity_none, f, fd, hm, F.kp, ⟨[], [], F.binds fun _ _ _ _ _ _ us hl => match us, hl with | [_, _, _], _ => rfl, .nil, fun _ _ => .nil⟩, none_ok⟩), (by obtain ⟨f, fd, hm, F⟩ := R.r_is_block; obtain ⟨ds, hd, hb⟩ := F.binds1 (ps := ["value", "names", "inside"]) 3 1 (by decide) (by decide) fun T _ _ _ _ _ _ us its hl hi => (match us, its, hl, hi with | [_, _, _], [_], _, _ => ⟨_, rfl, rfl⟩); exact ⟨arity_none, f, fd, hm, F.kp, ⟨_, ds, hb, hd, fun _ _ => .nil⟩, none_ok⟩), (by obtain ⟨f, fd, hm, F⟩ := R.r_is_block; obtain ⟨ds, hd, hb⟩ := F.binds1 (ps := ["value", "names", "inside"]) 2 0 (by decide) (by decide) fun T _ _ _ _ _ _ us its hl hi => (match us, its, hl, hi with | [_, _], [_], _, _ => ⟨_, rfl, rfl⟩); exact ⟨arity_none, f, fd, hm, F.kp, ⟨_, ds, hb, hd, fun _ _ => .cons (by constructor) (.nil)⟩, none_ok⟩)⟩
  | n + 1 => by
    obtain ⟨ih0, ih1, ih2⟩ := kg_is_statement R h_is_variable h_is_sum n
    exact ⟨k_is_statement R ih1 h_is_variable h_is_sum, k_is_block R ih0, k_is_block_1 R ih0⟩
theorem sc_blocks_of : FnScope ["statement", "first", "second", "block"] ["statement"] (defScope s_blocks_of) := ⟨rfl, rfl, rfl, by decide +kernel, rfl, by decide +kernel, by decide +kernel⟩
theorem kf_blocks_of (R : Raw K mg)  {f : Addr} {fd : FuncData} (F : Fun K "blocks_of" "blocks_of" s_blocks_of f fd) : FnOk P w K mg base (L2.CX P w) (0 + 1) f fd ["statement"] (spD K mg 1 (dDef 1 4 b_blocks_of)) := by
  have S := sc_blocks_of
  exact def_ok F S (by decide) fun cdv A outer s H E hr => (dss_one (ds_match (dv 0) (dmc_cons S.nd (dpt_seq rfl (dpts_cons dpt_word (dpts_cons dpt_cap (dpts_cons dpt_cap dpts_nil)))) (dss_one (ds_ret (de_vl (da_cons (dv 1) (da_cons (dv 2) da_nil))))) (dmc_cons S.nd (dpt_seq rfl (dpts_cons dpt_word (dpts_cons dpt_cap dpts_nil))) (dss_one (ds_ret (de_vl (da_cons (dv 3) da_nil)))) (dmc_cons S.nd dpt_any (dss_one (ds_ret (de_vl da_nil))) dmc_nil)))))
theorem k_blocks_of (R : Raw K mg)  : DefOk P w K mg base "blocks_of" (0 + 1) ["statement"] [] (dDef 1 4 b_blocks_of) := by
  obtain ⟨f, fd, hm, F⟩ := R.r_blocks_of
  have h : DefOk P w K mg base "blocks_of" (0 + 1) ["statement"] [] (dDef 1 4 b_blocks_of) := ⟨arity_def, f, fd, hm, F.kp, ⟨[], [], F.binds fun _ _ _ _ _ _ us hl => match us, hl with | [_], _ => rfl, .nil, fun _ _ => .nil⟩, kf_blocks_of R  F⟩
  exact h
theorem sc_statements_in : FnScope ["block", "found", "statement", "inner"] ["block"] (defScope s_statements_in) := ⟨rfl, rfl, rfl, by decide +kernel, rfl, by decide +kernel, by decide +kernel⟩
theorem kf_statements_in {n : Nat} {r_statements_in : FD} (R : Raw K mg) (h_blocks_of : DefOk P w K mg base "blocks_of" 1 ["statement"] [] F_blocks_of) (h_statements_in : DefOk P w K mg base "statements_in" (1 + n) ["block"] [] r_statements_in) {f : Addr} {fd : FuncData} (F : Fun K "statements_in" "statements_in" s_statements_in f fd) : FnOk P w K mg base (L2.CX P w) (1 + n + 1) f fd ["block"] (spD K mg 1 (dDef 1 4 (b_statements_in r_statements_in))) := by
  have S := sc_statements_in
  exact def_ok F S (by decide) fun cdv A outer s H E hr => (dss_cons (ds_set S.nd (de_lst da_nil)) (dss_cons (ds_for ownD rfl (di_seq (dv 0)) (dg_name S.nd) (dss_cons (ds_app (dv 1) (dv 2)) (dss_one (ds_for ownD rfl (di_seq (de_c h_blocks_of hr passD (da_cons (dv 2) da_nil))) (dg_name S.nd) (dss_one (ds_ext (dv 1) (de_c h_statements_in hr passD (da_cons (dv 3) da_nil)))))))) (dss_one (ds_ret (dv 1)))))
theorem k_statements_in {n : Nat} {r_statements_in : FD} (R : Raw K mg) (h_blocks_of : DefOk P w K mg base "blocks_of" 1 ["statement"] [] F_blocks_of) (h_statements_in : DefOk P w K mg base "statements_in" (1 + n) ["block"] [] r_statements_in) : DefOk P w K mg base "statements_in" (1 + n + 1) ["block"] [] (cutF (dDef 1 4 (b_statements_in r_statements_in))) := by
  obtain ⟨f, fd, hm, F⟩ := R.r_statements_in
  have h : DefOk P w K mg base "statements_in" (1 + n + 1) ["block"] [] (dDef 1 4 (b_statements_in r_statements_in)) := ⟨arity_def, f, fd, hm, F.kp, ⟨[], [], F.binds fun _ _ _ _ _ _ us hl => match us, hl with | [_], _ => rfl, .nil, fun _ _ => .nil⟩, kf_statements_in R h_blocks_of h_statements_in F⟩
  exact h.cut
theorem kg_statements_in (R : Raw K mg) (h_blocks_of : DefOk P w K mg base "blocks_of" 1 ["statement"] [] F_blocks_of) : ∀ n, DefOk P w K mg base "statements_in" (1 + n) ["block"] [] (G_statements_in n)
  | 0 => by
    exact (by obtain ⟨f, fd, hm, F⟩ := R.r_statements_in; exact ⟨arity_none, f, fd, hm, F.kp, ⟨[], [], F.binds fun _ _ _ _ _ _ us hl => match us, hl with | [_], _ => rfl, .nil, fun _ _ => .nil⟩, none_ok⟩)
  | n + 1 => by
    have ih0 := kg_statements_in R h_blocks_of n
    exact k_statements_in R h_blocks_of ih0
theorem sc_has_size : FnScope ["block", "sizes", "words", "simple", "branching", "statement", "word"] ["block", "sizes"] (defScope s_has_size) := ⟨rfl, rfl, rfl, by decide +kernel, rfl, by decide +kernel, by decide +kernel⟩
theorem kf_has_size (R : Raw K mg) (h_statements_in : DefOk P w K mg base "statements_in" 31 ["block"] [] (G_statements_in 30)) {f : Addr} {fd : FuncData} (F : Fun K "has_size" "has_size" s_has_size f fd) : FnOk P w K mg base (L2.CX P w) (31 + 1) f fd ["block", "sizes"] (spD K mg 2 (dDef 2 7 b_has_size)) := by
  have S := sc_has_size
  exact def_ok F S (by decide) fun cdv A outer s H E hr => (dss_cons (ds_setLcV rfl S.nd (di_seq (de_c h_statements_in hr passD (da_cons (dv 0) da_nil))) (blkOk_by (N := ["block", "sizes", "words", "simple", "branching", "statement", "word"]) (sc := defScope s_has_size) (own := [("statement", 5)]) (by decide +kernel)) (fun _ _ _ _ _ => (dg_name S.nd)) (fun _ _ _ _ _ => dts_nil) (fun _ _ _ _ _ => (de_ix ix_seq op2_ix (dv 5) de_int))) (dss_cons (ds_set S.nd (de_callB opr_len opn_len R.z_len boot_len (da_cons (de_lcV rfl S.nd (di_seq (dv 2)) (blkOk_by (N := ["block", "sizes", "words", "simple", "branching", "statement", "word"]) (sc := defScope s_has_size) (own := [("word", 6)]) (by decide +kernel)) (fun _ _ _ _ _ => (dg_name S.nd)) (fun _ _ _ _ _ => (dts_one (dt_cmp opr_in op2_in (dv 6) (de_tup (da_cons de_str (da_cons de_str da_nil)))))) (fun _ _ _ _ _ => (dv 6))) da_nil))) (dss_cons (ds_set S.nd (de_callB opr_len opn_len R.z_len boot_len (da_cons (de_lcV rfl S.nd (di_seq (dv 2)) (blkOk_by (N := ["block", "sizes", "words", "simple", "branching", "statement", "word"]) (sc := defScope s_has_size) (own := [("word", 6)]) (by decide +kernel)) (fun _ _ _ _ _ => (dg_name S.nd)) (fun _ _ _ _ _ => (dts_one (dt_cmp opr_in op2_in (dv 6) (de_tup (da_cons de_str (da_cons de_str da_nil)))))) (fun _ _ _ _ _ => (dv 6))) da_nil))) (dss_one (ds_ret (de_and (de_cmp op_le (op2_cmp fun i j => decide (i ≤ j)) (dv 3) (de_ix ix_seq op2_ix (dv 1) de_int)) (de_one (de_cmp op_le (op2_cmp fun i j => decide (i ≤ j)) (dv 4) (de_ix ix_seq op2_ix (dv 1) de_int)))))))))
theorem k_has_size (R : Raw K mg) (h_statements_in : DefOk P w K mg base "statements_in" 31 ["block"] [] (G_statements_in 30)) : DefOk P w K mg base "has_size" (31 + 1) ["block", "sizes"] [] (dDef 2 7 b_has_size) := by
  obtain ⟨f, fd, hm, F⟩ := R.r_has_size
  have h : DefOk P w K mg base "has_size" (31 + 1) ["block", "sizes"] [] (dDef 2 7 b_has_size) := ⟨arity_def, f, fd, hm, F.kp, ⟨[], [], F.binds fun _ _ _ _ _ _ us hl => match us, hl with | [_, _], _ => rfl, .nil, fun _ _ => .nil⟩, kf_has_size R h_statements_in F⟩
  exact h
theorem sc_is_owner : FnScope ["local_names", "told", "block", "shared", "sizes"] ["local_names", "told", "block", "shared", "sizes"] (defScope s_is_owner) := ⟨rfl, rfl, rfl, by decide +kernel, rfl, by decide +kernel, by decide +kernel⟩
theorem kf_is_owner (R : Raw K mg) (h_is_block_1 : DefOk P w K mg base "is_block" 34 ["value", "names", "inside"] [(.int 0)] (G_is_block 30)) (h_has_size : DefOk P w K mg base "has_size" 32 ["block", "sizes"] [] F_has_size) (h_is_told : DefOk P w K mg base "is_told" 3 ["value", "local_names"] [] F_is_told) (h_are_names : DefOk P w K mg base "are_names" 2 ["value", "least", "most"] [] F_are_names) {f : Addr} {fd : FuncData} (F : Fun K "is_owner" "is_owner" s_is_owner f fd) : FnOk P w K mg base (L2.CX P w) (34 + 1) f fd ["local_names", "told", "block", "shared", "sizes"] (spD K mg 5 (dDef 5 5 b_is_owner)) := by
  have S := sc_is_owner
  exact def_ok F S (by decide) fun cdv A outer s H E hr => (dss_cons (ds_if (dt_bool (dw_or (dt_not (dt_val (de_c h_are_names hr passD (da_cons (dv 0) (da_cons de_int (da_cons (de_gc R.g_MOST_LOCALS) da_nil)))))) (dw_or1 (dt_not (dt_val (de_c h_are_names hr passD (da_cons (de_op opr_add op2_add (dv 3) (dv 0)) (da_cons de_int (da_cons (de_gc R.g_MOST_NAMES) da_nil))))))))) (dss_one (ds_ret de_bl)) dss_nil) (dss_cons (ds_if (dt_not (dt_val (de_c h_is_told hr passD (da_cons (dv 1) (da_cons (dv 0) da_nil))))) (dss_one (ds_ret de_bl)) dss_nil) (dss_one (ds_ret (de_and (de_c h_is_block_1 hr passD (da_cons (dv 2) (da_cons (de_op opr_add op2_add (dv 3) (dv 0)) da_nil))) (de_one (de_c h_has_size hr passD (da_cons (dv 2) (da_cons (dv 4) da_nil)))))))))
theorem k_is_owner (R : Raw K mg) (h_is_block_1 : DefOk P w K mg base "is_block" 34 ["value", "names", "inside"] [(.int 0)] (G_is_block 30)) (h_has_size : DefOk P w K mg base "has_size" 32 ["block", "sizes"] [] F_has_size) (h_is_told : DefOk P w K mg base "is_told" 3 ["value", "local_names"] [] F_is_told) (h_are_names : DefOk P w K mg base "are_names" 2 ["value", "least", "most"] [] F_are_names) : DefOk P w K mg base "is_owner" (34 + 1) ["local_names", "told", "block", "shared", "sizes"] [] (dDef 5 5 b_is_owner) := by
  obtain ⟨f, fd, hm, F⟩ := R.r_is_owner
  have h : DefOk P w K mg base "is_owner" (34 + 1) ["local_names", "told", "block", "shared", "sizes"] [] (dDef 5 5 b_is_owner) := ⟨arity_def, f, fd, hm, F.kp, ⟨[], [], F.binds fun _ _ _ _ _ _ us hl => match us, hl with | [_, _, _, _, _], _ => rfl, .nil, fun _ _ => .nil⟩, kf_is_owner R h_is_block_1 h_has_size h_is_told h_are_names F⟩
  exact h
theorem sc_is_main : FnScope ["value", "shared"] ["value", "shared"] (defScope s_is_main) := ⟨rfl, rfl, rfl, by decide +kernel, rfl, by decide +kernel, by decide +kernel⟩
theorem kf_is_main (R : Raw K mg) (h_is_owner : DefOk P w K mg base "is_owner" 35 ["local_names", "told", "block", "shared", "sizes"] [] F_is_owner) {f : Addr} {fd : FuncData} (F : Fun K "is_main" "is_main" s_is_main f fd) : FnOk P w K mg base (L2.CX P w) (35 + 1) f fd ["value", "shared"] (spD K mg 2 (dDef 2 2 b_is_main)) := by
  have S := sc_is_main
  exact def_ok F S (by decide) fun cdv A outer s H E hr => (dss_cons (ds_if (dt_bool (dw_or (dt_not (dt_val (de_isi (by decide) R.z_isinstance R.z_tuple (by decide +kernel) (dv 0)))) (dw_or1 (dt_cmp (opr_ne (hu_room hr)) op2_ne (de_callB opr_len opn_len R.z_len boot_len (da_cons (dv 0) da_nil)) de_int)))) (dss_one (ds_ret de_bl)) dss_nil) (dss_one (ds_ret (de_c h_is_owner hr passD (da_cons (de_ix ix_seq op2_ix (dv 0) de_int) (da_cons (de_ix ix_seq op2_ix (dv 0) de_int) (da_cons (de_ix ix_seq op2_ix (dv 0) de_int) (da_cons (dv 1) (da_cons (de_gc R.g_MAIN_SIZES) da_nil)))))))))
theorem k_is_main (R : Raw K mg) (h_is_owner : DefOk P w K mg base "is_owner" 35 ["local_names", "told", "block", "shared", "sizes"] [] F_is_owner) : DefOk P w K mg base "is_main" (35 + 1) ["value", "shared"] [] (dDef 2 2 b_is_main) := by
  obtain ⟨f, fd, hm, F⟩ := R.r_is_main
  have h : DefOk P w K mg base "is_main" (35 + 1) ["value", "shared"] [] (dDef 2 2 b_is_main) := ⟨arity_def, f, fd, hm, F.kp, ⟨[], [], F.binds fun _ _ _ _ _ _ us hl => match us, hl with | [_, _], _ => rfl, .nil, fun _ _ => .nil⟩, kf_is_main R h_is_owner F⟩
  exact h
theorem sc_is_handler : FnScope ["value", "shared"] ["value", "shared"] (defScope s_is_handler) := ⟨rfl, rfl, rfl, by decide +kernel, rfl, by decide +kernel, by decide +kernel⟩
theorem kf_is_handler (R : Raw K mg) (h_is_owner : DefOk P w K mg base "is_owner" 35 ["local_names", "told", "block", "shared", "sizes"] [] F_is_owner) (h_is_between : DefOk P w K mg base "is_between" 2 ["value", "least", "most"] [] F_is_between) (h_is_name : DefOk P w K mg base "is_name" 1 ["value"] [] F_is_name) {f : Addr} {fd : FuncData} (F : Fun K "is_handler" "is_handler" s_is_handler f fd) : FnOk P w K mg base (L2.CX P w) (35 + 1) f fd ["value", "shared"] (spD K mg 2 (dDef 2 2 b_is_handler)) := by
  have S := sc_is_handler
  exact def_ok F S (by decide) fun cdv A outer s H E hr => (dss_cons (ds_if (dt_bool (dw_or (dt_not (dt_val (de_isi (by decide) R.z_isinstance R.z_tuple (by decide +kernel) (dv 0)))) (dw_or (dt_cmp (opr_ne (hu_room hr)) op2_ne (de_callB opr_len opn_len R.z_len boot_len (da_cons (dv 0) da_nil)) de_int) (dw_or1 (dt_not (dt_val (de_c h_is_name hr passD (da_cons (de_ix ix_seq op2_ix (dv 0) de_int) da_nil)))))))) (dss_one (ds_ret de_bl)) dss_nil) (dss_cons (ds_if (dt_bool (dw_or (dt_not (dt_val (de_c h_is_between hr passD (da_cons (de_ix ix_seq op2_ix (dv 0) de_int) (da_cons de_int (da_cons (de_gc R.g_MOST_RANK) da_nil)))))) (dw_or (dt_not (dt_val (de_isi (by decide) R.z_isinstance R.z_str (by decide +kernel) (de_ix ix_seq op2_ix (dv 0) de_int)))) (dw_or1 (dt_cmp opr_notIn op2_notIn (de_ix ix_seq op2_ix (dv 0) de_int) (de_gc R.g_WISHES)))))) (dss_one (ds_ret de_bl)) dss_nil) (dss_cons (ds_if (dt_bool (dw_and (dt_cmp op_notN op2_notN (de_ix ix_seq op2_ix (dv 0) de_int) de_non) (dw_and1 (dt_not (dt_val (de_c h_is_between hr passD (da_cons (de_ix ix_seq op2_ix (dv 0) de_int) (da_cons de_int (da_cons (de_gc R.g_MOST_WAIT) da_nil))))))))) (dss_one (ds_ret de_bl)) dss_nil) (dss_one (ds_ret (de_c h_is_owner hr passD (da_cons (de_ix ix_seq op2_ix (dv 0) de_int) (da_cons (de_tup da_nil) (da_cons (de_ix ix_seq op2_ix (dv 0) de_int) (da_cons (dv 1) (da_cons (de_gc R.g_HANDLER_SIZES) da_nil)))))))))))
theorem k_is_handler (R : Raw K mg) (h_is_owner : DefOk P w K mg base "is_owner" 35 ["local_names", "told", "block", "shared", "sizes"] [] F_is_owner) (h_is_between : DefOk P w K mg base "is_between" 2 ["value", "least", "most"] [] F_is_between) (h_is_name : DefOk P w K mg base "is_name" 1 ["value"] [] F_is_name) : DefOk P w K mg base "is_handler" (35 + 1) ["value", "shared"] [] (dDef 2 2 b_is_handler) := by
  obtain ⟨f, fd, hm, F⟩ := R.r_is_handler
  have h : DefOk P w K mg base "is_handler" (35 + 1) ["value", "shared"] [] (dDef 2 2 b_is_handler) := ⟨arity_def, f, fd, hm, F.kp, ⟨[], [], F.binds fun _ _ _ _ _ _ us hl => match us, hl with | [_, _], _ => rfl, .nil, fun _ _ => .nil⟩, kf_is_handler R h_is_owner h_is_between h_is_name F⟩
  exact h
theorem sc_check_parts : FnScope ["shared", "main", "handlers", "index", "handler"] ["shared", "main", "handlers"] (defScope s_check_parts) := ⟨rfl, rfl, rfl, by decide +kernel, rfl, by decide +kernel, by decide +kernel⟩
theorem kf_check_parts (R : Raw K mg) (h_is_handler : DefOk P w K mg base "is_handler" 36 ["value", "shared"] [] F_is_handler) (h_is_main : DefOk P w K mg base "is_main" 36 ["value", "shared"] [] F_is_main) (h_are_names : DefOk P w K mg base "are_names" 2 ["value", "least", "most"] [] F_are_names) {f : Addr} {fd : FuncData} (F : Fun K "check_parts" "check_parts" s_check_parts f fd) : FnOk P w K mg base (L2.CX P w) (36 + 1) f fd ["shared", "main", "handlers"] (spD K mg 3 (dDef 3 5 b_check_parts)) := by
  have S := sc_check_parts
  exact def_ok F S (by decide) fun cdv A outer s H E hr => (dss_cons (ds_if (dt_not (dt_val (de_c h_are_names hr passD (da_cons (dv 0) (da_cons de_int (da_cons (de_gc R.g_MOST_SHARED) da_nil)))))) (dss_one ds_never) dss_nil) (dss_cons (ds_if (dt_not (dt_val (de_c h_is_main hr passD (da_cons (dv 1) (da_cons (dv 0) da_nil))))) (dss_one ds_never) dss_nil) (dss_cons (ds_if (dt_bool (dw_or (dt_not (dt_val (de_isi (by decide) R.z_isinstance R.z_tuple (by decide +kernel) (dv 2)))) (dw_or1 (dt_not (dt_chain op_le (op2_cmp fun i j => decide (i ≤ j)) op_le (op2_cmp fun i j => decide (i ≤ j)) de_int (de_callB opr_len opn_len R.z_len boot_len (da_cons (dv 2) da_nil)) (de_gc R.g_MOST_HANDLERS)))))) (dss_one ds_never) dss_nil) (dss_cons (ds_for ownD rfl (di_enum (by rfl) R.z_enumerate (da_cons (dv 2) da_nil)) (dg_tup rfl (dgs_cons (dg_name S.nd) (dgs_cons (dg_name S.nd) dgs_nil))) (dss_one (ds_if (dt_not (dt_val (de_c h_is_handler hr passD (da_cons (dv 4) (da_cons (dv 0) da_nil))))) (dss_one ds_never) dss_nil))) (dss_one (ds_if (dt_cmp (opr_ne (hu_room hr)) op2_ne (de_lenSCV R.z_len rfl S.nd (di_seq (dv 2)) (blkOk_by (N := ["shared", "main", "handlers", "index", "handler"]) (sc := defScope s_check_parts) (own := [("handler", 4)]) (by decide +kernel)) (fun _ _ _ _ _ => (dg_name S.nd)) (fun _ _ _ _ _ => dts_nil) (fun _ _ _ _ _ => (de_ix ix_seq op2_ix (dv 4) de_int))) (de_callB opr_len opn_len R.z_len boot_len (da_cons (dv 2) da_nil))) (dss_one ds_never) dss_nil))))))
theorem k_check_parts (R : Raw K mg) (h_is_handler : DefOk P w K mg base "is_handler" 36 ["value", "shared"] [] F_is_handler) (h_is_main : DefOk P w K mg base "is_main" 36 ["value", "shared"] [] F_is_main) (h_are_names : DefOk P w K mg base "are_names" 2 ["value", "least", "most"] [] F_are_names) : DefOk P w K mg base "check_parts" (36 + 1) ["shared", "main", "handlers"] [] (dDef 3 5 b_check_parts) := by
  obtain ⟨f, fd, hm, F⟩ := R.r_check_parts
  have h : DefOk P w K mg base "check_parts" (36 + 1) ["shared", "main", "handlers"] [] (dDef 3 5 b_check_parts) := ⟨arity_def, f, fd, hm, F.kp, ⟨[], [], F.binds fun _ _ _ _ _ _ us hl => match us, hl with | [_, _, _], _ => rfl, .nil, fun _ _ => .nil⟩, kf_check_parts R h_is_handler h_is_main h_are_names F⟩
  exact h
theorem sc_Graph__put_place : FnScope ["self", "spot"] ["self", "spot"] (defScope s_Graph__put_place) := ⟨rfl, rfl, rfl, by decide +kernel, rfl, by decide +kernel, by decide +kernel⟩
theorem kf_Graph__put_place (R : Raw K mg)  {f : Addr} {fd : FuncData} (F : Fun K "put_place" "Graph.put_place" s_Graph__put_place f fd) : FnOk P w K mg base (L2.CX P w) (0 + 1) f fd ["self", "spot"] (spD K mg 2 (dDef 2 2 b_Graph__put_place)) := by
  have S := sc_Graph__put_place
  exact def_ok F S (by decide) fun cdv A outer s H E hr => (dss_cons (ds_app (de_fld (RawFld.ok R.f_Graph_steps) (dv 0)) (de_vl da_nil)) (dss_cons (ds_app (de_fld (RawFld.ok R.f_Graph_spots) (dv 0)) (dv 1)) (dss_one (ds_ret (de_op op_sub op2_sub (de_callB opr_len opn_len R.z_len boot_len (da_cons (de_fld (RawFld.ok R.f_Graph_steps) (dv 0)) da_nil)) de_int)))))
theorem k_Graph__put_place (R : Raw K mg)  : MethOk P w K mg base "Graph" "put_place" (0 + 1) ["self", "spot"] (dDef 2 2 b_Graph__put_place) := by
  obtain ⟨C, f, fd, hm, hc, M, F⟩ := R.r_Graph__put_place
  have h : MethOk P w K mg base "Graph" "put_place" (0 + 1) ["self", "spot"] (dDef 2 2 b_Graph__put_place) := ⟨arity_def, C, f, fd, hm, hc, M, F.binds fun _ _ _ _ _ _ us hl => match us, hl with | [_, _], _ => rfl, kf_Graph__put_place R  F⟩
  exact h
theorem sc_Graph__put_block : FnScope ["self", "block", "path", "first", "last", "index", "statement"] ["self", "block", "path"] (defScope s_Graph__put_block) := ⟨rfl, rfl, rfl, by decide +kernel, rfl, by decide +kernel, by decide +kernel⟩
theorem kf_Graph__put_block {n : Nat} {r_Graph__put_statement : FD} (R : Raw K mg) (h_Graph__put_statement : MethOk P w K mg base "Graph" "put_statement" (1 + n) ["self", "statement", "path", "index", "before"] r_Graph__put_statement) (h_Graph__put_place : MethOk P w K mg base "Graph" "put_place" 1 ["self", "spot"] F_Graph__put_place) {f : Addr} {fd : FuncData} (F : Fun K "put_block" "Graph.put_block" s_Graph__put_block f fd) : FnOk P w K mg base (L2.CX P w) (1 + n + 1) f fd ["self", "block", "path"] (spD K mg 3 (dDef 3 7 (b_Graph__put_block r_Graph__put_statement))) := by
  have S := sc_Graph__put_block
  exact def_ok F S (by decide) fun cdv A outer s H E hr => (dss_cons (ds_set S.nd (de_m h_Graph__put_place hr passesD (dv 0) (da_cons (de_tup (da_cons (dv 2) (da_cons de_int da_nil))) da_nil))) (dss_cons (ds_set S.nd (dv 3)) (dss_cons (ds_for ownD rfl (di_enum (by rfl) R.z_enumerate (da_cons (dv 1) da_nil)) (dg_tup rfl (dgs_cons (dg_name S.nd) (dgs_cons (dg_name S.nd) dgs_nil))) (dss_one (ds_set S.nd (de_m h_Graph__put_statement hr passesD (dv 0) (da_cons (dv 6) (da_cons (dv 2) (da_cons (dv 5) (da_cons (dv 4) da_nil)))))))) (dss_one (ds_ret (de_tup (da_cons (dv 3) (da_cons (dv 4) da_nil))))))))
theorem k_Graph__put_block {n : Nat} {r_Graph__put_statement : FD} (R : Raw K mg) (h_Graph__put_statement : MethOk P w K mg base "Graph" "put_statement" (1 + n) ["self", "statement", "path", "index", "before"] r_Graph__put_statement) (h_Graph__put_place : MethOk P w K mg base "Graph" "put_place" 1 ["self", "spot"] F_Graph__put_place) : MethOk P w K mg base "Graph" "put_block" (1 + n + 1) ["self", "block", "path"] (dDef 3 7 (b_Graph__put_block r_Graph__put_statement)) := by
  obtain ⟨C, f, fd, hm, hc, M, F⟩ := R.r_Graph__put_block
  have h : MethOk P w K mg base "Graph" "put_block" (1 + n + 1) ["self", "block", "path"] (dDef 3 7 (b_Graph__put_block r_Graph__put_statement)) := ⟨arity_def, C, f, fd, hm, hc, M, F.binds fun _ _ _ _ _ _ us hl => match us, hl with | [_, _, _], _ => rfl, kf_Graph__put_block R h_Graph__put_statement h_Graph__put_place F⟩
  exact h
theorem sc_Graph__put_statement : FnScope ["self", "statement", "path", "index", "before", "first", "second", "one", "two", "behind", "block", "head", "inner"] ["self", "statement", "path", "index", "before"] (defScope s_Graph__put_statement) := ⟨rfl, rfl, rfl, by decide +kernel, rfl, by decide +kernel, by decide +kernel⟩
theorem kf_Graph__put_statement {n : Nat} {r_Graph__put_block : FD} (R : Raw K mg) (h_Graph__put_place : MethOk P w K mg base "Graph" "put_place" 1 ["self", "spot"] F_Graph__put_place) (h_Graph__put_block : MethOk P w K mg base "Graph" "put_block" (1 + n) ["self", "block", "path"] r_Graph__put_block) {f : Addr} {fd : FuncData} (F : Fun K "put_statement" "Graph.put_statement" s_Graph__put_statement f fd) : FnOk P w K mg base (L2.CX P w) (1 + n + 1) f fd ["self", "statement", "path", "index", "before"] (spD K mg 5 (dDef 5 13 (b_Graph__put_statement r_Graph__put_block))) := by
  have S := sc_Graph__put_statement
  exact def_ok F S (by decide) fun cdv A outer s H E hr => (dss_cons (ds_match (dv 1) (dmc_cons S.nd (dpt_seq rfl (dpts_cons dpt_word (dpts_cons dpt_cap (dpts_cons dpt_cap dpts_nil)))) (dss_cons (ds_set S.nd (de_m h_Graph__put_block hr passesD (dv 0) (da_cons (dv 5) (da_cons (de_tup (da_star (dv 2) (da_cons (de_tup (da_cons (dv 3) (da_cons de_int da_nil))) da_nil))) da_nil)))) (dss_cons (ds_set S.nd (de_m h_Graph__put_block hr passesD (dv 0) (da_cons (dv 6) (da_cons (de_tup (da_star (dv 2) (da_cons (de_tup (da_cons (dv 3) (da_cons de_int da_nil))) da_nil))) da_nil)))) (dss_cons (ds_set S.nd (de_m h_Graph__put_place hr passesD (dv 0) (da_cons (de_tup (da_cons (dv 2) (da_cons (de_op opr_add op2_add (dv 3) de_int) da_nil))) da_nil))) (dss_cons (ds_sub (de_fld (RawFld.ok R.f_Graph_steps) (dv 0)) (dv 4) (de_vl (da_cons (de_tup (da_cons (de_ix ix_seq op2_ix (dv 7) de_int) (da_cons de_int (da_cons de_non da_nil)))) (da_cons (de_tup (da_cons (de_ix ix_seq op2_ix (dv 8) de_int) (da_cons de_int (da_cons de_non da_nil)))) da_nil)))) (dss_cons (ds_sub (de_fld (RawFld.ok R.f_Graph_steps) (dv 0)) (de_ix ix_seq op2_ix (dv 7) de_int) (de_vl (da_cons (de_tup (da_cons (dv 9) (da_cons de_non (da_cons de_non da_nil)))) da_nil))) (dss_one (ds_sub (de_fld (RawFld.ok R.f_Graph_steps) (dv 0)) (de_ix ix_seq op2_ix (dv 8) de_int) (de_vl (da_cons (de_tup (da_cons (dv 9) (da_cons de_non (da_cons de_non da_nil)))) da_nil))))))))) (dmc_cons S.nd (dpt_seq rfl (dpts_cons dpt_word (dpts_cons dpt_cap dpts_nil))) (dss_cons (ds_set S.nd (de_m h_Graph__put_place hr passesD (dv 0) (da_cons de_non da_nil))) (dss_cons (ds_set S.nd (de_m h_Graph__put_block hr passesD (dv 0) (da_cons (dv 10) (da_cons (de_tup (da_star (dv 2) (da_cons (de_tup (da_cons (dv 3) (da_cons de_int da_nil))) da_nil))) da_nil)))) (dss_cons (ds_set S.nd (de_m h_Graph__put_place hr passesD (dv 0) (da_cons (de_tup (da_cons (dv 2) (da_cons (de_op opr_add op2_add (dv 3) de_int) da_nil))) da_nil))) (dss_cons (ds_sub (de_fld (RawFld.ok R.f_Graph_steps) (dv 0)) (dv 4) (de_vl (da_cons (de_tup (da_cons (dv 11) (da_cons de_non (da_cons de_non da_nil)))) da_nil))) (dss_cons (ds_sub (de_fld (RawFld.ok R.f_Graph_steps) (dv 0)) (dv 11) (de_vl (da_cons (de_tup (da_cons (de_ix ix_seq op2_ix (dv 12) de_int) (da_cons de_int (da_cons de_non da_nil)))) (da_cons (de_tup (da_cons (dv 9) (da_cons de_int (da_cons de_non da_nil)))) da_nil)))) (dss_one (ds_sub (de_fld (RawFld.ok R.f_Graph_steps) (dv 0)) (de_ix ix_seq op2_ix (dv 12) de_int) (de_vl (da_cons (de_tup (da_cons (dv 11) (da_cons de_non (da_cons de_non da_nil)))) da_nil))))))))) (dmc_cons S.nd dpt_any (dss_cons (ds_set S.nd (de_m h_Graph__put_place hr passesD (dv 0) (da_cons (de_tup (da_cons (dv 2) (da_cons (de_op opr_add op2_add (dv 3) de_int) da_nil))) da_nil))) (dss_one (ds_sub (de_fld (RawFld.ok R.f_Graph_steps) (dv 0)) (dv 4) (de_vl (da_cons (de_tup (da_cons (dv 9) (da_cons de_non (da_cons (dv 1) da_nil)))) da_nil))))) dmc_nil)))) (dss_one (ds_ret (dv 9))))
theorem k_Graph__put_statement {n : Nat} {r_Graph__put_block : FD} (R : Raw K mg) (h_Graph__put_place : MethOk P w K mg base "Graph" "put_place" 1 ["self", "spot"] F_Graph__put_place) (h_Graph__put_block : MethOk P w K mg base "Graph" "put_block" (1 + n) ["self", "block", "path"] r_Graph__put_block) : MethOk P w K mg base "Graph" "put_statement" (1 + n + 1) ["self", "statement", "path", "index", "before"] (dDef 5 13 (b_Graph__put_statement r_Graph__put_block)) := by
  obtain ⟨C, f, fd, hm, hc, M, F⟩ := R.r_Graph__put_statement
  have h : MethOk P w K mg base "Graph" "put_statement" (1 + n + 1) ["self", "statement", "path", "index", "before"] (dDef 5 13 (b_Graph__put_statement r_Graph__put_block)) := ⟨arity_def, C, f, fd, hm, hc, M, F.binds fun _ _ _ _ _ _ us hl => match us, hl with | [_, _, _, _, _], _ => rfl, kf_Graph__put_statement R h_Graph__put_place h_Graph__put_block F⟩
  exact h
theorem kg_Graph__put_block (R : Raw K mg) (h_Graph__put_place : MethOk P w K mg base "Graph" "put_place" 1 ["self", "spot"] F_Graph__put_place) : ∀ n, MethOk P w K mg base "Graph" "put_block" (1 + n) ["self", "block", "path"] (G_Graph__put_block n) ∧ MethOk P w K mg base "Graph" "put_statement" (1 + n) ["self", "statement", "path", "index", "before"] (G_Graph__put_statement n)
  | 0 => by
    exact ⟨(by obtain ⟨C, f, fd, hm, hc, M, F⟩ := R.r_Graph__put_block; exact ⟨arity_none, C, f, fd, hm, hc, M, F.binds fun _ _ _ _ _ _ us hl => match us, hl with | [_, _, _], _ => rfl, none_ok⟩), (by obtain ⟨C, f, fd, hm, hc, M, F⟩ := R.r_Graph__put_statement; exact ⟨arity_none, C, f, fd, hm, hc, M, F.binds fun _ _ _ _ _ _ us hl => match us, hl with | [_, _, _, _, _], _ => rfl, none_ok⟩)⟩
  | n + 1 => by
    obtain ⟨ih0, ih1⟩ := kg_Graph__put_block R h_Graph__put_place n
    exact ⟨k_Graph__put_block R ih1 h_Graph__put_place, k_Graph__put_statement R h_Graph__put_place ih0⟩
theorem sc_Graph__init : FnScope ["self", "block"] ["self", "block"] (defScope s_Graph__init) := ⟨rfl, rfl, rfl, by decide +kernel, rfl, by decide +kernel, by decide +kernel⟩
theorem kf_Graph__init (R : Raw K mg) (h_Graph__put_block : MethOk P w K mg base "Graph" "put_block" 31 ["self", "block", "path"] (G_Graph__put_block 30)) {f : Addr} {fd : FuncData} (F : Fun K "__init__" "Graph.__init__" s_Graph__init f fd) : FnOk P w K mg base (L2.CX P w) (31 + 1) f fd ["self", "block"] (spD K mg 2 (dDef 2 2 b_Graph__init)) := by
  have S := sc_Graph__init
  exact def_ok F S (by decide) fun cdv A outer s H E hr => (dss_cons (ds_setF (RawFld.ok R.f_Graph_steps) (dv 0) (de_lst da_nil)) (dss_cons (ds_setF (RawFld.ok R.f_Graph_spots) (dv 0) (de_lst da_nil)) (dss_one (ds_expr (de_m h_Graph__put_block hr passesD (dv 0) (da_cons (dv 1) (da_cons (de_tup da_nil) da_nil)))))))
theorem k_Graph__init (R : Raw K mg) (h_Graph__put_block : MethOk P w K mg base "Graph" "put_block" 31 ["self", "block", "path"] (G_Graph__put_block 30)) : InitOk P w K mg base "Graph" (31 + 1) ["self", "block"] (dDef 2 2 b_Graph__init) := by
  obtain ⟨C, f, fd, hm, M, F⟩ := R.r_Graph__init
  exact ⟨arity_def, C, f, fd, hm, M, F.binds fun _ _ _ _ _ _ us hl => match us, hl with | [_, _], _ => rfl, kf_Graph__init R h_Graph__put_block F⟩
theorem sc_Program__init : FnScope ["self", "shared", "main", "handlers", "handler"] ["self", "shared", "main", "handlers"] (defScope s_Program__init) := ⟨rfl, rfl, rfl, by decide +kernel, rfl, by decide +kernel, by decide +kernel⟩
theorem kf_Program__init (R : Raw K mg) (h_Graph__init : InitOk P w K mg base "Graph" 32 ["self", "block"] F_Graph__init) (h_check_parts : DefOk P w K mg base "check_parts" 37 ["shared", "main", "handlers"] [] F_check_parts) {f : Addr} {fd : FuncData} (F : Fun K "__init__" "Program.__init__" s_Program__init f fd) : FnOk P w K mg base (L2.CX P w) (37 + 1) f fd ["self", "shared", "main", "handlers"] (spD K mg 4 (dDef 4 5 b_Program__init)) := by
  have S := sc_Program__init
  exact def_ok F S (by decide) fun cdv A outer s H E hr => (dss_cons (ds_expr (de_c h_check_parts hr passD (da_cons (dv 1) (da_cons (dv 2) (da_cons (dv 3) da_nil))))) (dss_cons (ds_setF (RawFld.ok R.f_Program_content) (dv 0) (de_tup (da_cons (dv 1) (da_cons (dv 2) (da_cons (dv 3) da_nil))))) (dss_cons (ds_setF (RawFld.ok R.f_Program_graphs) (dv 0) (de_dcV rfl S.nd (di_seq (dv 3)) (blkOk_by (N := ["self", "shared", "main", "handlers", "handler"]) (sc := defScope s_Program__init) (own := [("handler", 4)]) (by decide +kernel)) (fun _ _ _ _ _ => (dg_name S.nd)) (fun _ _ _ _ _ => dts_nil) (fun _ _ _ _ _ => (de_ix ix_seq op2_ix (dv 4) de_int)) (fun _ _ _ _ _ => (de_cut (de_k (E := fun _ _ _ => False) h_Graph__init hr passes0 (da_cons (de_ix ix_seq op2_ix (dv 4) de_int) da_nil)))))) (dss_one (ds_setF (RawFld.ok R.f_Program_main_graph) (dv 0) (de_cut (de_k h_Graph__init hr passesD (da_cons (de_ix ix_seq op2_ix (dv 2) de_int) da_nil))))))))
theorem k_Program__init (R : Raw K mg) (h_Graph__init : InitOk P w K mg base "Graph" 32 ["self", "block"] F_Graph__init) (h_check_parts : DefOk P w K mg base "check_parts" 37 ["shared", "main", "handlers"] [] F_check_parts) : InitOk P w K mg base "Program" (37 + 1) ["self", "shared", "main", "handlers"] (dDef 4 5 b_Program__init) := by
  obtain ⟨C, f, fd, hm, M, F⟩ := R.r_Program__init
  exact ⟨arity_def, C, f, fd, hm, M, F.binds fun _ _ _ _ _ _ us hl => match us, hl with | [_, _, _, _], _ => rfl, kf_Program__init R h_Graph__init h_check_parts F⟩
theorem sc_check_owner : FnScope ["program", "owner"] ["program", "owner"] (defScope s_check_owner) := ⟨rfl, rfl, rfl, by decide +kernel, rfl, by decide +kernel, by decide +kernel⟩
theorem kf_check_owner (R : Raw K mg)  {f : Addr} {fd : FuncData} (F : Fun K "check_owner" "check_owner" s_check_owner f fd) : FnOk P w K mg base (L2.CX P w) (0 + 1) f fd ["program", "owner"] (spD K mg 2 (dDef 2 2 b_check_owner)) := by
  have S := sc_check_owner
  exact def_ok F S (by decide) fun cdv A outer s H E hr => (dss_one (ds_if (dt_bool (dw_or (dt_not (dt_val (de_isi (by decide) R.z_isinstance R.z_str (by decide +kernel) (dv 1)))) (dw_or1 (dt_bool (dw_and (dt_cmp (opr_ne (hu_room hr)) op2_ne (dv 1) (de_gc R.g_MAIN)) (dw_and1 (dt_inD (neg := true) (hu_room hr) (dv 1) (de_fld (RawFld.ok R.f_Program_graphs) (dv 0))))))))) (dss_one ds_never) dss_nil))
theorem k_check_owner (R : Raw K mg)  : DefOk P w K mg base "check_owner" (0 + 1) ["program", "owner"] [] (dDef 2 2 b_check_owner) := by
  obtain ⟨f, fd, hm, F⟩ := R.r_check_owner
  have h : DefOk P w K mg base "check_owner" (0 + 1) ["program", "owner"] [] (dDef 2 2 b_check_owner) := ⟨arity_def, f, fd, hm, F.kp, ⟨[], [], F.binds fun _ _ _ _ _ _ us hl => match us, hl with | [_, _], _ => rfl, .nil, fun _ _ => .nil⟩, kf_check_owner R  F⟩
  exact h
theorem sc_Program__handler : FnScope ["self", "name", "handler"] ["self", "name"] (defScope s_Program__handler) := ⟨rfl, rfl, rfl, by decide +kernel, rfl, by decide +kernel, by decide +kernel⟩
theorem kf_Program__handler (R : Raw K mg)  {f : Addr} {fd : FuncData} (F : Fun K "handler" "Program.handler" s_Program__handler f fd) : FnOk P w K mg base (L2.CX P w) (0 + 1) f fd ["self", "name"] (spD K mg 2 (dDef 2 3 b_Program__handler)) := by
  have S := sc_Program__handler
  exact def_ok F S (by decide) fun cdv A outer s H E hr => (dss_cons (ds_for ownD rfl (di_seq (de_ix ix_seq op2_ix (de_fld (RawFld.ok R.f_Program_content) (dv 0)) de_int)) (dg_name S.nd) (dss_one (ds_if (dt_bool (dw_and (dt_val (de_isi (by decide) R.z_isinstance R.z_str (by decide +kernel) (dv 1))) (dw_and1 (dt_cmp (opr_eq (hu_room hr)) op2_eq (de_ix ix_seq op2_ix (dv 2) de_int) (dv 1))))) (dss_one (ds_ret (dv 2))) dss_nil))) (dss_one ds_never))
theorem k_Program__handler (R : Raw K mg)  : MethOk P w K mg base "Program" "handler" (0 + 1) ["self", "name"] (dDef 2 3 b_Program__handler) := by
  obtain ⟨C, f, fd, hm, hc, M, F⟩ := R.r_Program__handler
  have h : MethOk P w K mg base "Program" "handler" (0 + 1) ["self", "name"] (dDef 2 3 b_Program__handler) := ⟨arity_def, C, f, fd, hm, hc, M, F.binds fun _ _ _ _ _ _ us hl => match us, hl with | [_, _], _ => rfl, kf_Program__handler R  F⟩
  exact h
theorem sc_rank_of : FnScope ["program", "owner"] ["program", "owner"] (defScope s_rank_of) := ⟨rfl, rfl, rfl, by decide +kernel, rfl, by decide +kernel, by decide +kernel⟩
theorem kf_rank_of (R : Raw K mg) (h_Program__handler : MethOk P w K mg base "Program" "handler" 1 ["self", "name"] F_Program__handler) {f : Addr} {fd : FuncData} (F : Fun K "rank_of" "rank_of" s_rank_of f fd) : FnOk P w K mg base (L2.CX P w) (1 + 1) f fd ["program", "owner"] (spD K mg 2 (dDef 2 2 b_rank_of)) := by
  have S := sc_rank_of
  exact def_ok F S (by decide) fun cdv A outer s H E hr => (dss_one (ds_ret (de_if (dt_cmp (opr_eq (hu_room hr)) op2_eq (dv 1) (de_gc R.g_MAIN)) de_int (de_ix ix_seq op2_ix (de_m h_Program__handler hr passesD (dv 0) (da_cons (dv 1) da_nil)) de_int))))
theorem k_rank_of (R : Raw K mg) (h_Program__handler : MethOk P w K mg base "Program" "handler" 1 ["self", "name"] F_Program__handler) : DefOk P w K mg base "rank_of" (1 + 1) ["program", "owner"] [] (dDef 2 2 b_rank_of) := by
  obtain ⟨f, fd, hm, F⟩ := R.r_rank_of
  have h : DefOk P w K mg base "rank_of" (1 + 1) ["program", "owner"] [] (dDef 2 2 b_rank_of) := ⟨arity_def, f, fd, hm, F.kp, ⟨[], [], F.binds fun _ _ _ _ _ _ us hl => match us, hl with | [_, _], _ => rfl, .nil, fun _ _ => .nil⟩, kf_rank_of R h_Program__handler F⟩
  exact h
theorem sc_comers_of : FnScope ["program", "owner", "rank", "handler"] ["program", "owner"] (defScope s_comers_of) := ⟨rfl, rfl, rfl, by decide +kernel, rfl, by decide +kernel, by decide +kernel⟩
theorem kf_comers_of (R : Raw K mg) (h_rank_of : DefOk P w K mg base "rank_of" 2 ["program", "owner"] [] F_rank_of) {f : Addr} {fd : FuncData} (F : Fun K "comers_of" "comers_of" s_comers_of f fd) : FnOk P w K mg base (L2.CX P w) (2 + 1) f fd ["program", "owner"] (spD K mg 2 (dDef 2 4 b_comers_of)) := by
  have S := sc_comers_of
  exact def_ok F S (by decide) fun cdv A outer s H E hr => (dss_cons (ds_set S.nd (de_c h_rank_of hr passD (da_cons (dv 0) (da_cons (dv 1) da_nil)))) (dss_one (ds_ret (de_lcV rfl S.nd (di_seq (de_ix ix_seq op2_ix (de_fld (RawFld.ok R.f_Program_content) (dv 0)) de_int)) (blkOk_by (N := ["program", "owner", "rank", "handler"]) (sc := defScope s_comers_of) (own := [("handler", 3)]) (by decide +kernel)) (fun _ _ _ _ _ => (dg_name S.nd)) (fun _ _ _ _ _ => (dts_one (dt_cmp op_gt (op2_cmp fun i j => decide (j < i)) (de_ix ix_seq op2_ix (dv 3) de_int) (dv 2)))) (fun _ _ _ _ _ => (de_ix ix_seq op2_ix (dv 3) de_int))))))
theorem k_comers_of (R : Raw K mg) (h_rank_of : DefOk P w K mg base "rank_of" 2 ["program", "owner"] [] F_rank_of) : DefOk P w K mg base "comers_of" (2 + 1) ["program", "owner"] [] (dDef 2 4 b_comers_of) := by
  obtain ⟨f, fd, hm, F⟩ := R.r_comers_of
  have h : DefOk P w K mg base "comers_of" (2 + 1) ["program", "owner"] [] (dDef 2 4 b_comers_of) := ⟨arity_def, f, fd, hm, F.kp, ⟨[], [], F.binds fun _ _ _ _ _ _ us hl => match us, hl with | [_, _], _ => rfl, .nil, fun _ _ => .nil⟩, kf_comers_of R h_rank_of F⟩
  exact h
theorem sc_comers : FnScope ["program", "owner"] ["program", "owner"] (defScope s_comers) := ⟨rfl, rfl, rfl, by decide +kernel, rfl, by decide +kernel, by decide +kernel⟩
theorem kf_comers (R : Raw K mg) (h_comers_of : DefOk P w K mg base "comers_of" 3 ["program", "owner"] [] F_comers_of) (h_check_owner : DefOk P w K mg base "check_owner" 1 ["program", "owner"] [] F_check_owner) {f : Addr} {fd : FuncData} (F : FunD K "comers" "comers" (defArgs s_comers) (defBody s_comers) (defScope s_comers) [(V.str "main")] [] f fd) : FnOk P w K mg base (L2.CX P w) (3 + 1) f fd ["program", "owner"] (spD K mg 2 (dDef 2 2 b_comers)) := by
  have S := sc_comers
  exact def_okD F S (by decide) fun cdv A outer s H E hr => (dss_cons (ds_expr (de_c h_check_owner hr passD (da_cons (dv 0) (da_cons (dv 1) da_nil)))) (dss_one (ds_ret (de_c h_comers_of hr passD (da_cons (dv 0) (da_cons (dv 1) da_nil))))))
theorem k_comers (R : Raw K mg) (h_comers_of : DefOk P w K mg base "comers_of" 3 ["program", "owner"] [] F_comers_of) (h_check_owner : DefOk P w K mg base "check_owner" 1 ["program", "owner"] [] F_check_owner) : DefOk P w K mg base "comers" (3 + 1) ["program", "owner"] [] (dDef 2 2 b_comers) := by
  obtain ⟨f, fd, hm, F⟩ := R.r_comers
  obtain ⟨ds, hd, hb⟩ := F.binds1 (ps := ["program", "owner"]) 2 1 (by decide) (by decide) fun T _ _ _ _ _ _ us its hl hi => match us, its, hl, hi with | [_, _], [_], _, _ => ⟨_, rfl, rfl⟩
  have h : DefOk P w K mg base "comers" (3 + 1) ["program", "owner"] [] (dDef 2 2 b_comers) := ⟨arity_def, f, fd, hm, F.kp, ⟨_, ds, hb, hd, fun _ _ => .nil⟩, kf_comers R h_comers_of h_check_owner F⟩
  exact h
theorem k_comers_1 (R : Raw K mg) (h_comers_of : DefOk P w K mg base "comers_of" 3 ["program", "owner"] [] F_comers_of) (h_check_owner : DefOk P w K mg base "check_owner" 1 ["program", "owner"] [] F_check_owner) : DefOk P w K mg base "comers" (3 + 1) ["program", "owner"] [(.str "main")] (dDef 2 2 b_comers) := by
  obtain ⟨f, fd, hm, F⟩ := R.r_comers
  obtain ⟨ds, hd, hb⟩ := F.binds1 (ps := ["program", "owner"]) 1 0 (by decide) (by decide) fun T _ _ _ _ _ _ us its hl hi => match us, its, hl, hi with | [_], [_], _, _ => ⟨_, rfl, rfl⟩
  have h : DefOk P w K mg base "comers" (3 + 1) ["program", "owner"] [(.str "main")] (dDef 2 2 b_comers) := ⟨arity_def, f, fd, hm, F.kp, ⟨_, ds, hb, hd, fun _ _ => .cons (by constructor) (.nil)⟩, kf_comers R h_comers_of h_check_owner F⟩
  exact h
theorem sc_has_loops : FnScope ["program", "blocks", "block", "statement", "handler"] ["program"] (defScope s_has_loops) := ⟨rfl, rfl, rfl, by decide +kernel, rfl, by decide +kernel, by decide +kernel⟩
theorem kf_has_loops (R : Raw K mg) (h_statements_in : DefOk P w K mg base "statements_in" 31 ["block"] [] (G_statements_in 30)) {f : Addr} {fd : FuncData} (F : Fun K "has_loops" "has_loops" s_has_loops f fd) : FnOk P w K mg base (L2.CX P w) (31 + 1) f fd ["program"] (spD K mg 1 (dDef 1 5 b_has_loops)) := by
  have S := sc_has_loops
  exact def_ok F S (by decide) fun cdv A outer s H E hr => (dss_cons (ds_set S.nd (de_vl (da_cons (de_ix ix_seq op2_ix (de_ix ix_seq op2_ix (de_fld (RawFld.ok R.f_Program_content) (dv 0)) de_int) de_int) (da_star (de_lcV rfl S.nd (di_seq (de_ix ix_seq op2_ix (de_fld (RawFld.ok R.f_Program_content) (dv 0)) de_int)) (blkOk_by (N := ["program", "blocks", "block", "statement", "handler"]) (sc := defScope s_has_loops) (own := [("handler", 4)]) (by decide +kernel)) (fun _ _ _ _ _ => (dg_name S.nd)) (fun _ _ _ _ _ => dts_nil) (fun _ _ _ _ _ => (de_ix ix_seq op2_ix (dv 4) de_int))) da_nil)))) (dss_one (ds_ret (de_callB (cr_any rfl) opn_any R.z_any PyProof.Rows.boot_any (da_cons (de_lc2V (vs1 := [3]) rfl S.nd (di_seq (dv 1)) (blkOk_by (N := ["program", "blocks", "block", "statement", "handler"]) (sc := defScope s_has_loops) (own := [("block", 2), ("statement", 3)]) (by decide +kernel)) (by decide) (fun _ _ _ _ _ => (dg_name S.nd)) (fun _ _ _ _ _ => dts_nil) (fun _ _ _ _ _ => (di_seq (de_c h_statements_in hr pass0 (da_cons (dv 2) da_nil)))) (fun _ _ _ _ _ => (dg_name S.nd)) (fun _ _ _ _ _ => dts_nil) (fun _ _ _ _ _ => (de_cmp (opr_eq (hu_room hr)) op2_eq (de_ix ix_seq op2_ix (dv 3) de_int) de_str))) da_nil)))))
theorem k_has_loops (R : Raw K mg) (h_statements_in : DefOk P w K mg base "statements_in" 31 ["block"] [] (G_statements_in 30)) : DefOk P w K mg base "has_loops" (31 + 1) ["program"] [] (dDef 1 5 b_has_loops) := by
  obtain ⟨f, fd, hm, F⟩ := R.r_has_loops
  have h : DefOk P w K mg base "has_loops" (31 + 1) ["program"] [] (dDef 1 5 b_has_loops) := ⟨arity_def, f, fd, hm, F.kp, ⟨[], [], F.binds fun _ _ _ _ _ _ us hl => match us, hl with | [_], _ => rfl, .nil, fun _ _ => .nil⟩, kf_has_loops R h_statements_in F⟩
  exact h
theorem sc_graph_of : FnScope ["program", "owner"] ["program", "owner"] (defScope s_graph_of) := ⟨rfl, rfl, rfl, by decide +kernel, rfl, by decide +kernel, by decide +kernel⟩
theorem kf_graph_of (R : Raw K mg)  {f : Addr} {fd : FuncData} (F : Fun K "graph_of" "graph_of" s_graph_of f fd) : FnOk P w K mg base (L2.CX P w) (0 + 1) f fd ["program", "owner"] (spD K mg 2 (dDef 2 2 b_graph_of)) := by
  have S := sc_graph_of
  exact def_ok F S (by decide) fun cdv A outer s H E hr => (dss_one (ds_ret (de_if (dt_cmp (opr_eq (hu_room hr)) op2_eq (dv 1) (de_gc R.g_MAIN)) (de_fld (RawFld.ok R.f_Program_main_graph) (dv 0)) (de_ixd (hu_room hr) (de_fld (RawFld.ok R.f_Program_graphs) (dv 0)) (dv 1)))))
theorem k_graph_of (R : Raw K mg)  : DefOk P w K mg base "graph_of" (0 + 1) ["program", "owner"] [] (dDef 2 2 b_graph_of) := by
  obtain ⟨f, fd, hm, F⟩ := R.r_graph_of
  have h : DefOk P w K mg base "graph_of" (0 + 1) ["program", "owner"] [] (dDef 2 2 b_graph_of) := ⟨arity_def, f, fd, hm, F.kp, ⟨[], [], F.binds fun _ _ _ _ _ _ us hl => match us, hl with | [_, _], _ => rfl, .nil, fun _ _ => .nil⟩, kf_graph_of R  F⟩
  exact h
theorem sc_places : FnScope ["program", "owner"] ["program", "owner"] (defScope s_places) := ⟨rfl, rfl, rfl, by decide +kernel, rfl, by decide +kernel, by decide +kernel⟩
theorem kf_places (R : Raw K mg) (h_graph_of : DefOk P w K mg base "graph_of" 1 ["program", "owner"] [] F_graph_of) (h_check_owner : DefOk P w K mg base "check_owner" 1 ["program", "owner"] [] F_check_owner) {f : Addr} {fd : FuncData} (F : FunD K "places" "places" (defArgs s_places) (defBody s_places) (defScope s_places) [(V.str "main")] [] f fd) : FnOk P w K mg base (L2.CX P w) (1 + 1) f fd ["program", "owner"] (spD K mg 2 (dDef 2 2 b_places)) := by
  have S := sc_places
  exact def_okD F S (by decide) fun cdv A outer s H E hr => (dss_cons (ds_expr (de_c h_check_owner hr passD (da_cons (dv 0) (da_cons (dv 1) da_nil)))) (dss_one (ds_ret (de_callB opr_len opn_len R.z_len boot_len (da_cons (de_fld (RawFld.ok R.f_Graph_steps) (de_c h_graph_of hr passD (da_cons (dv 0) (da_cons (dv 1) da_nil)))) da_nil)))))
theorem k_places (R : Raw K mg) (h_graph_of : DefOk P w K mg base "graph_of" 1 ["program", "owner"] [] F_graph_of) (h_check_owner : DefOk P w K mg base "check_owner" 1 ["program", "owner"] [] F_check_owner) : DefOk P w K mg base "places" (1 + 1) ["program", "owner"] [] (dDef 2 2 b_places) := by
  obtain ⟨f, fd, hm, F⟩ := R.r_places
  obtain ⟨ds, hd, hb⟩ := F.binds1 (ps := ["program", "owner"]) 2 1 (by decide) (by decide) fun T _ _ _ _ _ _ us its hl hi => match us, its, hl, hi with | [_, _], [_], _, _ => ⟨_, rfl, rfl⟩
  have h : DefOk P w K mg base "places" (1 + 1) ["program", "owner"] [] (dDef 2 2 b_places) := ⟨arity_def, f, fd, hm, F.kp, ⟨_, ds, hb, hd, fun _ _ => .nil⟩, kf_places R h_graph_of h_check_owner F⟩
  exact h
theorem k_places_1 (R : Raw K mg) (h_graph_of : DefOk P w K mg base "graph_of" 1 ["program", "owner"] [] F_graph_of) (h_check_owner : DefOk P w K mg base "check_owner" 1 ["program", "owner"] [] F_check_owner) : DefOk P w K mg base "places" (1 + 1) ["program", "owner"] [(.str "main")] (dDef 2 2 b_places) := by
  obtain ⟨f, fd, hm, F⟩ := R.r_places
  obtain ⟨ds, hd, hb⟩ := F.binds1 (ps := ["program", "owner"]) 1 0 (by decide) (by decide) fun T _ _ _ _ _ _ us its hl hi => match us, its, hl, hi with | [_], [_], _, _ => ⟨_, rfl, rfl⟩
  have h : DefOk P w K mg base "places" (1 + 1) ["program", "owner"] [(.str "main")] (dDef 2 2 b_places) := ⟨arity_def, f, fd, hm, F.kp, ⟨_, ds, hb, hd, fun _ _ => .cons (by constructor) (.nil)⟩, kf_places R h_graph_of h_check_owner F⟩
  exact h
theorem sc_check_place : FnScope ["program", "place", "owner"] ["program", "place", "owner"] (defScope s_check_place) := ⟨rfl, rfl, rfl, by decide +kernel, rfl, by decide +kernel, by decide +kernel⟩
theorem kf_check_place (R : Raw K mg) (h_is_between : DefOk P w K mg base "is_between" 2 ["value", "least", "most"] [] F_is_between) (h_graph_of : DefOk P w K mg base "graph_of" 1 ["program", "owner"] [] F_graph_of) {f : Addr} {fd : FuncData} (F : FunD K "check_place" "check_place" (defArgs s_check_place) (defBody s_check_place) (defScope s_check_place) [(V.str "main")] [] f fd) : FnOk P w K mg base (L2.CX P w) (2 + 1) f fd ["program", "place", "owner"] (spD K mg 3 (dDef 3 3 b_check_place)) := by
  have S := sc_check_place
  exact def_okD F S (by decide) fun cdv A outer s H E hr => (dss_one (ds_if (dt_not (dt_val (de_c h_is_between hr passD (da_cons (dv 1) (da_cons de_int (da_cons (de_op op_sub op2_sub (de_callB opr_len opn_len R.z_len boot_len (da_cons (de_fld (RawFld.ok R.f_Graph_steps) (de_c h_graph_of hr passD (da_cons (dv 0) (da_cons (dv 2) da_nil)))) da_nil)) de_int) da_nil)))))) (dss_one ds_never) dss_nil))
theorem k_check_place (R : Raw K mg) (h_is_between : DefOk P w K mg base "is_between" 2 ["value", "least", "most"] [] F_is_between) (h_graph_of : DefOk P w K mg base "graph_of" 1 ["program", "owner"] [] F_graph_of) : DefOk P w K mg base "check_place" (2 + 1) ["program", "place", "owner"] [] (dDef 3 3 b_check_place) := by
  obtain ⟨f, fd, hm, F⟩ := R.r_check_place
  obtain ⟨ds, hd, hb⟩ := F.binds1 (ps := ["program", "place", "owner"]) 3 1 (by decide) (by decide) fun T _ _ _ _ _ _ us its hl hi => match us, its, hl, hi with | [_, _, _], [_], _, _ => ⟨_, rfl, rfl⟩
  have h : DefOk P w K mg base "check_place" (2 + 1) ["program", "place", "owner"] [] (dDef 3 3 b_check_place) := ⟨arity_def, f, fd, hm, F.kp, ⟨_, ds, hb, hd, fun _ _ => .nil⟩, kf_check_place R h_is_between h_graph_of F⟩
  exact h
theorem sc_next_places : FnScope ["program", "place", "owner", "to", "choice", "statement"] ["program", "place", "owner"] (defScope s_next_places) := ⟨rfl, rfl, rfl, by decide +kernel, rfl, by decide +kernel, by decide +kernel⟩
theorem kf_next_places (R : Raw K mg) (h_graph_of : DefOk P w K mg base "graph_of" 1 ["program", "owner"] [] F_graph_of) (h_check_place : DefOk P w K mg base "check_place" 3 ["program", "place", "owner"] [] F_check_place) (h_check_owner : DefOk P w K mg base "check_owner" 1 ["program", "owner"] [] F_check_owner) {f : Addr} {fd : FuncData} (F : FunD K "next_places" "next_places" (defArgs s_next_places) (defBody s_next_places) (defScope s_next_places) [(V.str "main")] [] f fd) : FnOk P w K mg base (L2.CX P w) (3 + 1) f fd ["program", "place", "owner"] (spD K mg 3 (dDef 3 6 b_next_places)) := by
  have S := sc_next_places
  exact def_okD F S (by decide) fun cdv A outer s H E hr => (dss_cons (ds_expr (de_c h_check_owner hr passD (da_cons (dv 0) (da_cons (dv 2) da_nil)))) (dss_cons (ds_expr (de_c h_check_place hr passD (da_cons (dv 0) (da_cons (dv 1) (da_cons (dv 2) da_nil))))) (dss_one (ds_ret (de_lcV rfl S.nd (di_seq (de_ix ix_seq op2_ix (de_fld (RawFld.ok R.f_Graph_steps) (de_c h_graph_of hr passD (da_cons (dv 0) (da_cons (dv 2) da_nil)))) (dv 1))) (blkOk_by (N := ["program", "place", "owner", "to", "choice", "statement"]) (sc := defScope s_next_places) (own := [("to", 3), ("choice", 4), ("statement", 5)]) (by decide +kernel)) (fun _ _ _ _ _ => (dg_tup rfl (dgs_cons (dg_name S.nd) (dgs_cons (dg_name S.nd) (dgs_cons (dg_name S.nd) dgs_nil))))) (fun _ _ _ _ _ => dts_nil) (fun _ _ _ _ _ => (dv 3)))))))
theorem k_next_places (R : Raw K mg) (h_graph_of : DefOk P w K mg base "graph_of" 1 ["program", "owner"] [] F_graph_of) (h_check_place : DefOk P w K mg base "check_place" 3 ["program", "place", "owner"] [] F_check_place) (h_check_owner : DefOk P w K mg base "check_owner" 1 ["program", "owner"] [] F_check_owner) : DefOk P w K mg base "next_places" (3 + 1) ["program", "place", "owner"] [] (dDef 3 6 b_next_places) := by
  obtain ⟨f, fd, hm, F⟩ := R.r_next_places
  obtain ⟨ds, hd, hb⟩ := F.binds1 (ps := ["program", "place", "owner"]) 3 1 (by decide) (by decide) fun T _ _ _ _ _ _ us its hl hi => match us, its, hl, hi with | [_, _, _], [_], _, _ => ⟨_, rfl, rfl⟩
  have h : DefOk P w K mg base "next_places" (3 + 1) ["program", "place", "owner"] [] (dDef 3 6 b_next_places) := ⟨arity_def, f, fd, hm, F.kp, ⟨_, ds, hb, hd, fun _ _ => .nil⟩, kf_next_places R h_graph_of h_check_place h_check_owner F⟩
  exact h
theorem k_next_places_1 (R : Raw K mg) (h_graph_of : DefOk P w K mg base "graph_of" 1 ["program", "owner"] [] F_graph_of) (h_check_place : DefOk P w K mg base "check_place" 3 ["program", "place", "owner"] [] F_check_place) (h_check_owner : DefOk P w K mg base "check_owner" 1 ["program", "owner"] [] F_check_owner) : DefOk P w K mg base "next_places" (3 + 1) ["program", "place", "owner"] [(.str "main")] (dDef 3 6 b_next_places) := by
  obtain ⟨f, fd, hm, F⟩ := R.r_next_places
  obtain ⟨ds, hd, hb⟩ := F.binds1 (ps := ["program", "place", "owner"]) 2 0 (by decide) (by decide) fun T _ _ _ _ _ _ us its hl hi => match us, its, hl, hi with | [_, _], [_], _, _ => ⟨_, rfl, rfl⟩
  have h : DefOk P w K mg base "next_places" (3 + 1) ["program", "place", "owner"] [(.str "main")] (dDef 3 6 b_next_places) := ⟨arity_def, f, fd, hm, F.kp, ⟨_, ds, hb, hd, fun _ _ => .cons (by constructor) (.nil)⟩, kf_next_places R h_graph_of h_check_place h_check_owner F⟩
  exact h
theorem sc__law_owner_holds : FnScope ["program", "owner", "block", "rows", "place"] ["program", "owner", "block"] (defScope s__law_owner_holds) := ⟨rfl, rfl, rfl, by decide +kernel, rfl, by decide +kernel, by decide +kernel⟩
theorem kf__law_owner_holds (R : Raw K mg) (h_next_places : DefOk P w K mg base "next_places" 4 ["program", "place", "owner"] [] F_next_places) (h_places : DefOk P w K mg base "places" 2 ["program", "owner"] [] F_places) (h__law_laid : DefOk P w K mg base "_law_laid" 30 ["block", "rows"] [] (G__law_laid 30)) {f : Addr} {fd : FuncData} (F : Fun K "_law_owner_holds" "_law_owner_holds" s__law_owner_holds f fd) : FnOk P w K mg base (L2.CX P w) (30 + 1) f fd ["program", "owner", "block"] (spD K mg 3 (dDef 3 5 b__law_owner_holds)) := by
  have S := sc__law_owner_holds
  exact def_ok F S (by decide) fun cdv A outer s H E hr => (dss_cons (ds_set S.nd (de_lst da_nil)) (dss_cons (ds_expr (de_c h__law_laid hr passD (da_cons (dv 2) (da_cons (dv 3) da_nil)))) (dss_cons (ds_if (dt_cmp (opr_ne (hu_room hr)) op2_ne (de_c h_places hr passD (da_cons (dv 0) (da_cons (dv 1) da_nil))) (de_callB opr_len opn_len R.z_len boot_len (da_cons (dv 3) da_nil))) (dss_one (ds_ret de_bl)) dss_nil) (dss_one (ds_ret (de_cmp (opr_eq (hu_room hr)) op2_eq (de_lcV rfl S.nd (di_range1 R.z_range (de_callB opr_len opn_len R.z_len boot_len (da_cons (dv 3) da_nil))) (blkOk_by (N := ["program", "owner", "block", "rows", "place"]) (sc := defScope s__law_owner_holds) (own := [("place", 4)]) (by decide +kernel)) (fun _ _ _ _ _ => (dg_name S.nd)) (fun _ _ _ _ _ => dts_nil) (fun _ _ _ _ _ => (de_c h_next_places hr pass0 (da_cons (dv 0) (da_cons (dv 4) (da_cons (dv 1) da_nil)))))) (dv 3)))))))
theorem k__law_owner_holds (R : Raw K mg) (h_next_places : DefOk P w K mg base "next_places" 4 ["program", "place", "owner"] [] F_next_places) (h_places : DefOk P w K mg base "places" 2 ["program", "owner"] [] F_places) (h__law_laid : DefOk P w K mg base "_law_laid" 30 ["block", "rows"] [] (G__law_laid 30)) : DefOk P w K mg base "_law_owner_holds" (30 + 1) ["program", "owner", "block"] [] (cutF (dDef 3 5 b__law_owner_holds)) := by
  obtain ⟨f, fd, hm, F⟩ := R.r__law_owner_holds
  have h : DefOk P w K mg base "_law_owner_holds" (30 + 1) ["program", "owner", "block"] [] (dDef 3 5 b__law_owner_holds) := ⟨arity_def, f, fd, hm, F.kp, ⟨[], [], F.binds fun _ _ _ _ _ _ us hl => match us, hl with | [_, _, _], _ => rfl, .nil, fun _ _ => .nil⟩, kf__law_owner_holds R h_next_places h_places h__law_laid F⟩
  exact h.cut
theorem sc_law : FnScope ["script", "k", "stream", "turn", "parts", "program", "rows", "handler", "blocks", "place", "other", "block"] ["script"] (defScope s_law) := ⟨rfl, rfl, rfl, by decide +kernel, rfl, by decide +kernel, by decide +kernel⟩
theorem kf_law (R : Raw K mg) (h_next_places_1 : DefOk P w K mg base "next_places" 4 ["program", "place", "owner"] [(.str "main")] F_next_places) (h_has_loops : DefOk P w K mg base "has_loops" 32 ["program"] [] F_has_loops) (h__law_count : DefOk P w K mg base "_law_count" 30 ["block", "words"] [] (G__law_count 30)) (h_comers : DefOk P w K mg base "comers" 4 ["program", "owner"] [] F_comers) (h__law_owner_holds : DefOk P w K mg base "_law_owner_holds" 31 ["program", "owner", "block"] [] F__law_owner_holds) (h_comers_1 : DefOk P w K mg base "comers" 4 ["program", "owner"] [(.str "main")] F_comers) (h_places_1 : DefOk P w K mg base "places" 2 ["program", "owner"] [(.str "main")] F_places) (h__law_laid : DefOk P w K mg base "_law_laid" 30 ["block", "rows"] [] (G__law_laid 30)) (h_Program__init : InitOk P w K mg base "Program" 38 ["self", "shared", "main", "handlers"] F_Program__init) (h__law_parts : DefOk P w K mg base "_law_parts" 36 ["stream", "depth"] [] F__law_parts) (h__law_stream : DefOk P w K mg base "_law_stream" 1 ["script", "k"] [] F__law_stream) {f : Addr} {fd : FuncData} (F : Fun K "law" "law" s_law f fd) : FnOk P w K mg base (L2.CX P w) (39 + 1) f fd ["script"] (spD K mg 1 (dDef 1 12 b_law)) := by
  have S := sc_law
  exact def_ok F S (by decide) fun cdv A outer s H E hr => (dss_cons (ds_for ownD rfl (di_range1 R.z_range (de_callB (call_max2 rfl) opn_max2 R.z_max PyProof.Rows.boot_max (da_cons de_int (da_cons (de_callB (call_min2 rfl) opn_min2 R.z_min PyProof.Rows.boot_min (da_cons de_int (da_cons (de_callB opr_len opn_len R.z_len boot_len (da_cons (dv 0) da_nil)) da_nil))) da_nil)))) (dg_name S.nd) (dss_cons (ds_set S.nd (de_c h__law_stream hr passD (da_cons (dv 0) (da_cons (dv 1) da_nil)))) (dss_one (ds_for ownD rfl (di_range1 R.z_range de_int) (dg_name S.nd) (dss_cons (ds_set S.nd (de_c h__law_parts hr passD (da_cons (dv 2) (da_cons de_int da_nil)))) (dss_cons (ds_asg (de_tup (da_cons (de_cut (de_k h_Program__init hr passesD (da_cons (de_ix ix_seq op2_ix (dv 4) de_int) (da_cons (de_ix ix_seq op2_ix (dv 4) de_int) (da_cons (de_ix ix_seq op2_ix (dv 4) de_int) da_nil))))) (da_cons (de_lst da_nil) da_nil))) (dg_tup rfl (dgs_cons (dg_name S.nd) (dgs_cons (dg_name S.nd) dgs_nil)))) (dss_cons (ds_expr (de_c h__law_laid hr passD (da_cons (de_ix ix_seq op2_ix (de_ix ix_seq op2_ix (dv 4) de_int) de_int) (da_cons (dv 6) da_nil)))) (dss_cons (ds_if (dt_bool (dw_or (dt_not (dt_val (de_c h__law_owner_holds hr passD (da_cons (dv 5) (da_cons de_str (da_cons (de_ix ix_seq op2_ix (de_ix ix_seq op2_ix (dv 4) de_int) de_int) da_nil)))))) (dw_or1 (dt_cmp (opr_ne (hu_room hr)) op2_ne (de_c h_places_1 hr passD (da_cons (dv 5) da_nil)) (de_callB opr_len opn_len R.z_len boot_len (da_cons (dv 6) da_nil)))))) (dss_one (ds_ret de_bl)) dss_nil) (dss_cons (ds_if (dt_cmp (opr_ne (hu_room hr)) op2_ne (de_c h_comers_1 hr passD (da_cons (dv 5) da_nil)) (de_lcV rfl S.nd (di_seq (de_ix ix_seq op2_ix (dv 4) de_int)) (blkOk_by (N := ["script", "k", "stream", "turn", "parts", "program", "rows", "handler", "blocks", "place", "other", "block"]) (sc := defScope s_law) (own := [("handler", 7)]) (by decide +kernel)) (fun _ _ _ _ _ => (dg_name S.nd)) (fun _ _ _ _ _ => dts_nil) (fun _ _ _ _ _ => (de_ix ix_seq op2_ix (dv 7) de_int)))) (dss_one (ds_ret de_bl)) dss_nil) (dss_cons (ds_for ownD rfl (di_seq (de_ix ix_seq op2_ix (dv 4) de_int)) (dg_name S.nd) (dss_cons (ds_if (dt_not (dt_val (de_c h__law_owner_holds hr passD (da_cons (dv 5) (da_cons (de_ix ix_seq op2_ix (dv 7) de_int) (da_cons (de_ix ix_seq op2_ix (dv 7) de_int) da_nil)))))) (dss_one (ds_ret de_bl)) dss_nil) (dss_one (ds_if (dt_cmp (opr_ne (hu_room hr)) op2_ne (de_c h_comers hr passD (da_cons (dv 5) (da_cons (de_ix ix_seq op2_ix (dv 7) de_int) da_nil))) (de_lcV rfl S.nd (di_seq (de_ix ix_seq op2_ix (dv 4) de_int)) (blkOk_by (N := ["script", "k", "stream", "turn", "parts", "program", "rows", "handler", "blocks", "place", "other", "block"]) (sc := defScope s_law) (own := [("other", 10)]) (by decide +kernel)) (fun _ _ _ _ _ => (dg_name S.nd)) (fun _ _ _ _ _ => (dts_one (dt_cmp op_gt (op2_cmp fun i j => decide (j < i)) (de_ix ix_seq op2_ix (dv 10) de_int) (de_ix ix_seq op2_ix (dv 7) de_int)))) (fun _ _ _ _ _ => (de_ix ix_seq op2_ix (dv 10) de_int)))) (dss_one (ds_ret de_bl)) dss_nil)))) (dss_cons (ds_set S.nd (de_op opr_add op2_add (de_vl (da_cons (de_ix ix_seq op2_ix (de_ix ix_seq op2_ix (dv 4) de_int) de_int) da_nil)) (de_lcV rfl S.nd (di_seq (de_ix ix_seq op2_ix (dv 4) de_int)) (blkOk_by (N := ["script", "k", "stream", "turn", "parts", "program", "rows", "handler", "blocks", "place", "other", "block"]) (sc := defScope s_law) (own := [("handler", 7)]) (by decide +kernel)) (fun _ _ _ _ _ => (dg_name S.nd)) (fun _ _ _ _ _ => dts_nil) (fun _ _ _ _ _ => (de_ix ix_seq op2_ix (dv 7) de_int))))) (dss_cons (ds_if (dt_cmp (opr_ne (hu_room hr)) op2_ne (de_c h_has_loops hr passD (da_cons (dv 5) da_nil)) (de_cmp op_gt (op2_cmp fun i j => decide (j < i)) (de_callB (cr_max rfl) opn_maxl R.z_max PyProof.Rows.boot_max (da_cons (de_lcV rfl S.nd (di_seq (dv 8)) (blkOk_by (N := ["script", "k", "stream", "turn", "parts", "program", "rows", "handler", "blocks", "place", "other", "block"]) (sc := defScope s_law) (own := [("block", 11)]) (by decide +kernel)) (fun _ _ _ _ _ => (dg_name S.nd)) (fun _ _ _ _ _ => dts_nil) (fun _ _ _ _ _ => (de_c h__law_count hr pass0 (da_cons (dv 11) (da_cons (de_vl (da_cons de_str da_nil)) da_nil))))) da_nil)) de_int)) (dss_one (ds_ret de_bl)) dss_nil) (dss_one (ds_if (dt_cmp (opr_ne (hu_room hr)) op2_ne (de_lcV rfl S.nd (di_range1 R.z_range (de_callB opr_len opn_len R.z_len boot_len (da_cons (dv 6) da_nil))) (blkOk_by (N := ["script", "k", "stream", "turn", "parts", "program", "rows", "handler", "blocks", "place", "other", "block"]) (sc := defScope s_law) (own := [("place", 9)]) (by decide +kernel)) (fun _ _ _ _ _ => (dg_name S.nd)) (fun _ _ _ _ _ => dts_nil) (fun _ _ _ _ _ => (de_c h_next_places_1 hr pass0 (da_cons (dv 5) (da_cons (dv 9) da_nil))))) (dv 6)) (dss_one (ds_ret de_bl)) dss_nil)))))))))))))) (dss_one (ds_ret de_bl)))
theorem k_law (R : Raw K mg) (h_next_places_1 : DefOk P w K mg base "next_places" 4 ["program", "place", "owner"] [(.str "main")] F_next_places) (h_has_loops : DefOk P w K mg base "has_loops" 32 ["program"] [] F_has_loops) (h__law_count : DefOk P w K mg base "_law_count" 30 ["block", "words"] [] (G__law_count 30)) (h_comers : DefOk P w K mg base "comers" 4 ["program", "owner"] [] F_comers) (h__law_owner_holds : DefOk P w K mg base "_law_owner_holds" 31 ["program", "owner", "block"] [] F__law_owner_holds) (h_comers_1 : DefOk P w K mg base "comers" 4 ["program", "owner"] [(.str "main")] F_comers) (h_places_1 : DefOk P w K mg base "places" 2 ["program", "owner"] [(.str "main")] F_places) (h__law_laid : DefOk P w K mg base "_law_laid" 30 ["block", "rows"] [] (G__law_laid 30)) (h_Program__init : InitOk P w K mg base "Program" 38 ["self", "shared", "main", "handlers"] F_Program__init) (h__law_parts : DefOk P w K mg base "_law_parts" 36 ["stream", "depth"] [] F__law_parts) (h__law_stream : DefOk P w K mg base "_law_stream" 1 ["script", "k"] [] F__law_stream) : DefOk P w K mg base "law" (39 + 1) ["script"] [] (dDef 1 12 b_law) := by
  obtain ⟨f, fd, hm, F⟩ := R.r_law
  have h : DefOk P w K mg base "law" (39 + 1) ["script"] [] (dDef 1 12 b_law) := ⟨arity_def, f, fd, hm, F.kp, ⟨[], [], F.binds fun _ _ _ _ _ _ us hl => match us, hl with | [_], _ => rfl, .nil, fun _ _ => .nil⟩, kf_law R h_next_places_1 h_has_loops h__law_count h_comers h__law_owner_holds h_comers_1 h_places_1 h__law_laid h_Program__init h__law_parts h__law_stream F⟩
  exact h
/-- every def that the law reaches -/
theorem all (R : Raw K mg) {f : Addr} {fd : FuncData} (F : Fun K "law" "law" s_law f fd) : FnOk P w K mg base (L2.CX P w) 40 f fd ["script"] (spD K mg 1 F_law) := by
  have h__law_stream : DefOk P w K mg base "_law_stream" 1 ["script", "k"] [] F__law_stream := k__law_stream R 
  have h__law_count := kg__law_count (P := P) (w := w) (base := base) R  30
  have h__law_trimmed : DefOk P w K mg base "_law_trimmed" 31 ["block", "words", "most"] [] F__law_trimmed := k__law_trimmed R h__law_count
  have h__law_draw : DefOk P w K mg base "_law_draw" 1 ["stream", "count"] [] F__law_draw := k__law_draw R 
  have h__law_choose : DefOk P w K mg base "_law_choose" 2 ["stream", "items"] [] F__law_choose := k__law_choose R h__law_draw
  have h__law_sum : DefOk P w K mg base "_law_sum" 3 ["stream", "names"] [] F__law_sum := k__law_sum R h__law_choose h__law_draw
  have h__law_simple : DefOk P w K mg base "_law_simple" 4 ["stream", "names"] [] F__law_simple := k__law_simple R h__law_sum h__law_choose h__law_draw
  have h__law_block := kg__law_block (P := P) (w := w) (base := base) R h__law_draw h__law_simple 30
  have h__law_handler : DefOk P w K mg base "_law_handler" 35 ["stream", "name", "shared", "depth"] [] F__law_handler := k__law_handler R h__law_draw h__law_choose h__law_trimmed h__law_simple h__law_block
  have h__law_parts : DefOk P w K mg base "_law_parts" 36 ["stream", "depth"] [] F__law_parts := k__law_parts R h__law_draw h__law_handler h__law_trimmed h__law_block
  have h__law_laid := kg__law_laid (P := P) (w := w) (base := base) R  30
  have h_is_name : DefOk P w K mg base "is_name" 1 ["value"] [] F_is_name := k_is_name R 
  have h_are_names : DefOk P w K mg base "are_names" 2 ["value", "least", "most"] [] F_are_names := k_are_names R h_is_name
  have h_is_variable : DefOk P w K mg base "is_variable" 2 ["value", "names"] [] F_is_variable := k_is_variable R h_is_name
  have h_is_told : DefOk P w K mg base "is_told" 3 ["value", "local_names"] [] F_is_told := k_is_told R h_is_variable
  have h_is_integer : DefOk P w K mg base "is_integer" 1 ["value"] [] F_is_integer := k_is_integer R 
  have h_is_between : DefOk P w K mg base "is_between" 2 ["value", "least", "most"] [] F_is_between := k_is_between R h_is_integer
  have h_is_factor : DefOk P w K mg base "is_factor" 3 ["value"] [] F_is_factor := k_is_factor R h_is_between
  have h_is_sum : DefOk P w K mg base "is_sum" 4 ["value", "names"] [] F_is_sum := k_is_sum R h_is_name h_is_factor
  obtain ⟨h_is_statement, h_is_block, h_is_block_1⟩ := kg_is_statement (P := P) (w := w) (base := base) R h_is_variable h_is_sum 30
  have h_blocks_of : DefOk P w K mg base "blocks_of" 1 ["statement"] [] F_blocks_of := k_blocks_of R 
  have h_statements_in := kg_statements_in (P := P) (w := w) (base := base) R h_blocks_of 30
  have h_has_size : DefOk P w K mg base "has_size" 32 ["block", "sizes"] [] F_has_size := k_has_size R h_statements_in
  have h_is_owner : DefOk P w K mg base "is_owner" 35 ["local_names", "told", "block", "shared", "sizes"] [] F_is_owner := k_is_owner R h_is_block_1 h_has_size h_is_told h_are_names
  have h_is_main : DefOk P w K mg base "is_main" 36 ["value", "shared"] [] F_is_main := k_is_main R h_is_owner
  have h_is_handler : DefOk P w K mg base "is_handler" 36 ["value", "shared"] [] F_is_handler := k_is_handler R h_is_owner h_is_between h_is_name
  have h_check_parts : DefOk P w K mg base "check_parts" 37 ["shared", "main", "handlers"] [] F_check_parts := k_check_parts R h_is_handler h_is_main h_are_names
  have h_Graph__put_place : MethOk P w K mg base "Graph" "put_place" 1 ["self", "spot"] F_Graph__put_place := k_Graph__put_place R 
  obtain ⟨h_Graph__put_block, h_Graph__put_statement⟩ := kg_Graph__put_block (P := P) (w := w) (base := base) R h_Graph__put_place 30
  have h_Graph__init : InitOk P w K mg base "Graph" 32 ["self", "block"] F_Graph__init := k_Graph__init R h_Graph__put_block
  have h_Program__init : InitOk P w K mg base "Program" 38 ["self", "shared", "main", "handlers"] F_Program__init := k_Program__init R h_Graph__init h_check_parts
  have h_check_owner : DefOk P w K mg base "check_owner" 1 ["program", "owner"] [] F_check_owner := k_check_owner R 
  have h_Program__handler : MethOk P w K mg base "Program" "handler" 1 ["self", "name"] F_Program__handler := k_Program__handler R 
  have h_rank_of : DefOk P w K mg base "rank_of" 2 ["program", "owner"] [] F_rank_of := k_rank_of R h_Program__handler
  have h_comers_of : DefOk P w K mg base "comers_of" 3 ["program", "owner"] [] F_comers_of := k_comers_of R h_rank_of
  have h_comers : DefOk P w K mg base "comers" 4 ["program", "owner"] [] F_comers := k_comers R h_comers_of h_check_owner
  have h_comers_1 : DefOk P w K mg base "comers" 4 ["program", "owner"] [(.str "main")] F_comers := k_comers_1 R h_comers_of h_check_owner
  have h_has_loops : DefOk P w K mg base "has_loops" 32 ["program"] [] F_has_loops := k_has_loops R h_statements_in
  have h_graph_of : DefOk P w K mg base "graph_of" 1 ["program", "owner"] [] F_graph_of := k_graph_of R 
  have h_places : DefOk P w K mg base "places" 2 ["program", "owner"] [] F_places := k_places R h_graph_of h_check_owner
  have h_places_1 : DefOk P w K mg base "places" 2 ["program", "owner"] [(.str "main")] F_places := k_places_1 R h_graph_of h_check_owner
  have h_check_place : DefOk P w K mg base "check_place" 3 ["program", "place", "owner"] [] F_check_place := k_check_place R h_is_between h_graph_of
  have h_next_places : DefOk P w K mg base "next_places" 4 ["program", "place", "owner"] [] F_next_places := k_next_places R h_graph_of h_check_place h_check_owner
  have h_next_places_1 : DefOk P w K mg base "next_places" 4 ["program", "place", "owner"] [(.str "main")] F_next_places := k_next_places_1 R h_graph_of h_check_place h_check_owner
  have h__law_owner_holds : DefOk P w K mg base "_law_owner_holds" 31 ["program", "owner", "block"] [] F__law_owner_holds := k__law_owner_holds R h_next_places h_places h__law_laid
  exact kf_law R h_next_places_1 h_has_loops h__law_count h_comers h__law_owner_holds h_comers_1 h_places_1 h__law_laid h_Program__init h__law_parts h__law_stream F
end proofs
end K08
set_option Elab.async false
set_option linter.all false
set_option maxRecDepth 100000
set_option pp.maxSteps 300
set_option pp.deepTerms false
namespace K08
open PySem PySem.Spec PyProof.Rows L2 DL
theorem fin {P : Program} {w : World} {K : PySem.W.Frag} {mg : MG} {h : Heap} {fa : Addr} (KX : K.In h) (hmg : mg "law" = some (.ref fa))
    (r__law_stream : RawDef K mg "_law_stream" "_law_stream" s__law_stream)
    (r__law_count : RawDef K mg "_law_count" "_law_count" s__law_count)
    (r__law_trimmed : RawDef K mg "_law_trimmed" "_law_trimmed" s__law_trimmed)
    (r__law_draw : RawDef K mg "_law_draw" "_law_draw" s__law_draw)
    (r__law_choose : RawDef K mg "_law_choose" "_law_choose" s__law_choose)
    (r__law_sum : RawDef K mg "_law_sum" "_law_sum" s__law_sum)
    (r__law_simple : RawDef K mg "_law_simple" "_law_simple" s__law_simple)
    (r__law_block : RawDef K mg "_law_block" "_law_block" s__law_block)
    (r__law_handler : RawDef K mg "_law_handler" "_law_handler" s__law_handler)
    (r__law_parts : RawDef K mg "_law_parts" "_law_parts" s__law_parts)
    (r__law_laid : RawDef K mg "_law_laid" "_law_laid" s__law_laid)
    (r_is_name : RawDef K mg "is_name" "is_name" s_is_name)
    (r_are_names : RawDef K mg "are_names" "are_names" s_are_names)
    (r_is_variable : RawDef K mg "is_variable" "is_variable" s_is_variable)
    (r_is_told : RawDef K mg "is_told" "is_told" s_is_told)
    (r_is_integer : RawDef K mg "is_integer" "is_integer" s_is_integer)
    (r_is_between : RawDef K mg "is_between" "is_between" s_is_between)
    (r_is_factor : RawDef K mg "is_factor" "is_factor" s_is_factor)
    (r_is_sum : RawDef K mg "is_sum" "is_sum" s_is_sum)
    (r_is_statement : RawDef K mg "is_statement" "is_statement" s_is_statement)
    (r_is_block : RawDefD K mg "is_block" "is_block" s_is_block [(V.int 0)])
    (r_blocks_of : RawDef K mg "blocks_of" "blocks_of" s_blocks_of)
    (r_statements_in : RawDef K mg "statements_in" "statements_in" s_statements_in)
    (r_has_size : RawDef K mg "has_size" "has_size" s_has_size)
    (r_is_owner : RawDef K mg "is_owner" "is_owner" s_is_owner)
    (r_is_main : RawDef K mg "is_main" "is_main" s_is_main)
    (r_is_handler : RawDef K mg "is_handler" "is_handler" s_is_handler)
    (r_check_parts : RawDef K mg "check_parts" "check_parts" s_check_parts)
    (r_Graph__put_place : RawMeth K mg "Graph" "put_place" "Graph.put_place" s_Graph__put_place)
    (r_Graph__put_block : RawMeth K mg "Graph" "put_block" "Graph.put_block" s_Graph__put_block)
    (r_Graph__put_statement : RawMeth K mg "Graph" "put_statement" "Graph.put_statement" s_Graph__put_statement)
    (r_Graph__init : RawInit K mg "Graph" "Graph.__init__" s_Graph__init)
    (r_Program__init : RawInit K mg "Program" "Program.__init__" s_Program__init)
    (r_check_owner : RawDef K mg "check_owner" "check_owner" s_check_owner)
    (r_Program__handler : RawMeth K mg "Program" "handler" "Program.handler" s_Program__handler)
    (r_rank_of : RawDef K mg "rank_of" "rank_of" s_rank_of)
    (r_comers_of : RawDef K mg "comers_of" "comers_of" s_comers_of)
    (r_comers : RawDefD K mg "comers" "comers" s_comers [(V.str "main")])
    (r_has_loops : RawDef K mg "has_loops" "has_loops" s_has_loops)
    (r_graph_of : RawDef K mg "graph_of" "graph_of" s_graph_of)
    (r_places : RawDefD K mg "places" "places" s_places [(V.str "main")])
    (r_check_place : RawDefD K mg "check_place" "check_place" s_check_place [(V.str "main")])
    (r_next_places : RawDefD K mg "next_places" "next_places" s_next_places [(V.str "main")])
    (r__law_owner_holds : RawDef K mg "_law_owner_holds" "_law_owner_holds" s__law_owner_holds)
    (r_law : RawDef K mg "law" "law" s_law)
    (f_Graph_spots : RawFld K mg "Graph" "spots")
    (f_Graph_steps : RawFld K mg "Graph" "steps")
    (f_Program_content : RawFld K mg "Program" "content")
    (f_Program_graphs : RawFld K mg "Program" "graphs")
    (f_Program_main_graph : RawFld K mg "Program" "main_graph")
    (z_all : mg "all" = none)
    (z_any : mg "any" = none)
    (z_bool : mg "bool" = none)
    (z_enumerate : mg "enumerate" = none)
    (z_int : mg "int" = none)
    (z_isinstance : mg "isinstance" = none)
    (z_len : mg "len" = none)
    (z_max : mg "max" = none)
    (z_min : mg "min" = none)
    (z_range : mg "range" = none)
    (z_set : mg "set" = none)
    (z_sorted : mg "sorted" = none)
    (z_str : mg "str" = none)
    (z_tuple : mg "tuple" = none)
    (z_zip : mg "zip" = none)
    (g_HANDLER_SIZES : GC K mg "HANDLER_SIZES" (.tup [(.int 8), (.int 3)]))
    (g_LETTERS : GC K mg "LETTERS" (.str "abcdefghijklmnopqrstuvwxyz"))
    (g_MAIN : GC K mg "MAIN" (.str "main"))
    (g_MAIN_SIZES : GC K mg "MAIN_SIZES" (.tup [(.int 16), (.int 4)]))
    (g_MOST_FACTOR : GC K mg "MOST_FACTOR" (.int 1000000000000000000000000000000))
    (g_MOST_HANDLERS : GC K mg "MOST_HANDLERS" (.int 3))
    (g_MOST_LETTERS : GC K mg "MOST_LETTERS" (.int 8))
    (g_MOST_LOCALS : GC K mg "MOST_LOCALS" (.int 2))
    (g_MOST_NAMES : GC K mg "MOST_NAMES" (.int 4))
    (g_MOST_NESTED : GC K mg "MOST_NESTED" (.int 3))
    (g_MOST_RANK : GC K mg "MOST_RANK" (.int 3))
    (g_MOST_SHARED : GC K mg "MOST_SHARED" (.int 3))
    (g_MOST_WAIT : GC K mg "MOST_WAIT" (.int 500))
    (g_WISHES : GC K mg "WISHES" (.tup [(.str "now"), (.str "late")]))
    (g_WORDS : GC K mg "WORDS" (.tup [(.str "shared"), (.str "local"), (.str "told"), (.str "handler"), (.str "rank"), (.str "now"), (.str "late"), (.str "wait"), (.str "main"), (.str "end"), (.str "set"), (.str "input"), (.str "either"), (.str "or"), (.str "loop")]))
    : ∃ fd : FuncData, (∀ (s : PySem.Shared) (u : Value), BindsTo s fd ⟨[u], []⟩ [("script", u)]) ∧ ∀ base : Heap, FnOk P w K mg base (L2.CX P w) 40 fa fd ["script"] (spD K mg 1 F_law) := by
  have R : Raw K mg := ⟨r__law_stream, r__law_count, r__law_trimmed, r__law_draw, r__law_choose, r__law_sum, r__law_simple, r__law_block, r__law_handler, r__law_parts, r__law_laid, r_is_name, r_are_names, r_is_variable, r_is_told, r_is_integer, r_is_between, r_is_factor, r_is_sum, r_is_statement, r_is_block, r_blocks_of, r_statements_in, r_has_size, r_is_owner, r_is_main, r_is_handler, r_check_parts, r_Graph__put_place, r_Graph__put_block, r_Graph__put_statement, r_Graph__init, r_Program__init, r_check_owner, r_Program__handler, r_rank_of, r_comers_of, r_comers, r_has_loops, r_graph_of, r_places, r_check_place, r_next_places, r__law_owner_holds, r_law, f_Graph_spots, f_Graph_steps, f_Program_content, f_Program_graphs, f_Program_main_graph, z_all, z_any, z_bool, z_enumerate, z_int, z_isinstance, z_len, z_max, z_min, z_range, z_set, z_sorted, z_str, z_tuple, z_zip, g_HANDLER_SIZES, g_LETTERS, g_MAIN, g_MAIN_SIZES, g_MOST_FACTOR, g_MOST_HANDLERS, g_MOST_LETTERS, g_MOST_LOCALS, g_MOST_NAMES, g_MOST_NESTED, g_MOST_RANK, g_MOST_SHARED, g_MOST_WAIT, g_WISHES, g_WORDS⟩
  obtain ⟨f, fd, hm, F⟩ := R.r_law
  rw [hmg] at hm
  cases hm
  have F2 := F
  obtain ⟨oc, od, kV, doc, pm, an, cdv, ct, osl, rfl, lk, hcd⟩ := F2.ex
  exact ⟨_, fun s u => .of_eq rfl, fun base => all R F⟩
end K08
open PySem PySem.W PyProof.Rows DL
set_option maxRecDepth 100000 in
set_option maxHeartbeats 0 in
theorem PySem.Challenge.cw_duenotes_k08_places_and_steps_holds : PySem.Challenge.rw_duenotes_k08_places_and_steps.Holds := by
  w_on; o_law; k_head; (case hw => w_witness2)
  k_fill
  refine DL.walkD (l := PySem.Challenge.rw_duenotes_k08_places_and_steps) (k := 40) (F := K08.F_law) rfl rfl ⟨rfl, by decide, by decide⟩ (fun w h Y => PySem.W.kIn_of Y) K08.math ?F
  case F =>
    intro w mg fa h KX G hmg
    refine' K08.fin KX hmg ?r__law_stream ?r__law_count ?r__law_trimmed ?r__law_draw ?r__law_choose ?r__law_sum ?r__law_simple ?r__law_block ?r__law_handler ?r__law_parts ?r__law_laid ?r_is_name ?r_are_names ?r_is_variable ?r_is_told ?r_is_integer ?r_is_between ?r_is_factor ?r_is_sum ?r_is_statement ?r_is_block ?r_blocks_of ?r_statements_in ?r_has_size ?r_is_owner ?r_is_main ?r_is_handler ?r_check_parts ?r_Graph__put_place ?r_Graph__put_block ?r_Graph__put_statement ?r_Graph__init ?r_Program__init ?r_check_owner ?r_Program__handler ?r_rank_of ?r_comers_of ?r_comers ?r_has_loops ?r_graph_of ?r_places ?r_check_place ?r_next_places ?r__law_owner_holds ?r_law ?f_Graph_spots ?f_Graph_steps ?f_Program_content ?f_Program_graphs ?f_Program_main_graph ?z_all ?z_any ?z_bool ?z_enumerate ?z_int ?z_isinstance ?z_len ?z_max ?z_min ?z_range ?z_set ?z_sorted ?z_str ?z_tuple ?z_zip ?g_HANDLER_SIZES ?g_LETTERS ?g_MAIN ?g_MAIN_SIZES ?g_MOST_FACTOR ?g_MOST_HANDLERS ?g_MOST_LETTERS ?g_MOST_LOCALS ?g_MOST_NAMES ?g_MOST_NESTED ?g_MOST_RANK ?g_MOST_SHARED ?g_MOST_WAIT ?g_WISHES ?g_WORDS
    (case r__law_stream => clear hmg; refine' raw_def KX G ?a ?l ?co ?k; (case a => k_is); (case l => k_is); (case co => k_is); (case k => k_is))
    (case r__law_count => clear hmg; refine' raw_def KX G ?a ?l ?co ?k; (case a => k_is); (case l => k_is); (case co => k_is); (case k => k_is))
    (case r__law_trimmed => clear hmg; refine' raw_def KX G ?a ?l ?co ?k; (case a => k_is); (case l => k_is); (case co => k_is); (case k => k_is))
    (case r__law_draw => clear hmg; refine' raw_def KX G ?a ?l ?co ?k; (case a => k_is); (case l => k_is); (case co => k_is); (case k => k_is))
    (case r__law_choose => clear hmg; refine' raw_def KX G ?a ?l ?co ?k; (case a => k_is); (case l => k_is); (case co => k_is); (case k => k_is))
    (case r__law_sum => clear hmg; refine' raw_def KX G ?a ?l ?co ?k; (case a => k_is); (case l => k_is); (case co => k_is); (case k => k_is))
    (case r__law_simple => clear hmg; refine' raw_def KX G ?a ?l ?co ?k; (case a => k_is); (case l => k_is); (case co => k_is); (case k => k_is))
    (case r__law_block => clear hmg; refine' raw_def KX G ?a ?l ?co ?k; (case a => k_is); (case l => k_is); (case co => k_is); (case k => k_is))
    (case r__law_handler => clear hmg; refine' raw_def KX G ?a ?l ?co ?k; (case a => k_is); (case l => k_is); (case co => k_is); (case k => k_is))
    (case r__law_parts => clear hmg; refine' raw_def KX G ?a ?l ?co ?k; (case a => k_is); (case l => k_is); (case co => k_is); (case k => k_is))
    (case r__law_laid => clear hmg; refine' raw_def KX G ?a ?l ?co ?k; (case a => k_is); (case l => k_is); (case co => k_is); (case k => k_is))
    (case r_is_name => clear hmg; refine' raw_def KX G ?a ?l ?co ?k; (case a => k_is); (case l => k_is); (case co => k_is); (case k => k_is))
    (case r_are_names => clear hmg; refine' raw_def KX G ?a ?l ?co ?k; (case a => k_is); (case l => k_is); (case co => k_is); (case k => k_is))
    (case r_is_variable => clear hmg; refine' raw_def KX G ?a ?l ?co ?k; (case a => k_is); (case l => k_is); (case co => k_is); (case k => k_is))
    (case r_is_told => clear hmg; refine' raw_def KX G ?a ?l ?co ?k; (case a => k_is); (case l => k_is); (case co => k_is); (case k => k_is))
    (case r_is_integer => clear hmg; refine' raw_def KX G ?a ?l ?co ?k; (case a => k_is); (case l => k_is); (case co => k_is); (case k => k_is))
    (case r_is_between => clear hmg; refine' raw_def KX G ?a ?l ?co ?k; (case a => k_is); (case l => k_is); (case co => k_is); (case k => k_is))
    (case r_is_factor => clear hmg; refine' raw_def KX G ?a ?l ?co ?k; (case a => k_is); (case l => k_is); (case co => k_is); (case k => k_is))
    (case r_is_sum => clear hmg; refine' raw_def KX G ?a ?l ?co ?k; (case a => k_is); (case l => k_is); (case co => k_is); (case k => k_is))
    (case r_is_statement => clear hmg; refine' raw_def KX G ?a ?l ?co ?k; (case a => k_is); (case l => k_is); (case co => k_is); (case k => k_is))
    (case r_is_block => clear hmg; refine' raw_defd KX G ?a ?l ?co ?k ?lt ?r; (case a => k_is); (case l => k_is); (case co => k_is); (case k => k_is); (case lt => k_is); (case r => exact ⟨_, rfl⟩))
    (case r_blocks_of => clear hmg; refine' raw_def KX G ?a ?l ?co ?k; (case a => k_is); (case l => k_is); (case co => k_is); (case k => k_is))
    (case r_statements_in => clear hmg; refine' raw_def KX G ?a ?l ?co ?k; (case a => k_is); (case l => k_is); (case co => k_is); (case k => k_is))
    (case r_has_size => clear hmg; refine' raw_def KX G ?a ?l ?co ?k; (case a => k_is); (case l => k_is); (case co => k_is); (case k => k_is))
    (case r_is_owner => clear hmg; refine' raw_def KX G ?a ?l ?co ?k; (case a => k_is); (case l => k_is); (case co => k_is); (case k => k_is))
    (case r_is_main => clear hmg; refine' raw_def KX G ?a ?l ?co ?k; (case a => k_is); (case l => k_is); (case co => k_is); (case k => k_is))
    (case r_is_handler => clear hmg; refine' raw_def KX G ?a ?l ?co ?k; (case a => k_is); (case l => k_is); (case co => k_is); (case k => k_is))
    (case r_check_parts => clear hmg; refine' raw_def KX G ?a ?l ?co ?k; (case a => k_is); (case l => k_is); (case co => k_is); (case k => k_is))
    (case r_Graph__put_place => clear hmg; refine' raw_meth KX G ?a ?pg ?hd ?po ?sa ?fi ?fn ?l ?co ?k; (case a => k_is); (case pg => k_is); (case hd => k_is); (case po => k_is); (case sa => k_is); (case fi => k_is); (case fn => k_is); (case l => k_is); (case co => k_is); (case k => k_is))
    (case r_Graph__put_block => clear hmg; refine' raw_meth KX G ?a ?pg ?hd ?po ?sa ?fi ?fn ?l ?co ?k; (case a => k_is); (case pg => k_is); (case hd => k_is); (case po => k_is); (case sa => k_is); (case fi => k_is); (case fn => k_is); (case l => k_is); (case co => k_is); (case k => k_is))
    (case r_Graph__put_statement => clear hmg; refine' raw_meth KX G ?a ?pg ?hd ?po ?sa ?fi ?fn ?l ?co ?k; (case a => k_is); (case pg => k_is); (case hd => k_is); (case po => k_is); (case sa => k_is); (case fi => k_is); (case fn => k_is); (case l => k_is); (case co => k_is); (case k => k_is))
    (case r_Graph__init => clear hmg; refine' raw_init KX G ?a ?mk ?fi ?fn ?kc ?l ?co ?k; (case a => k_is); (case mk => k_is); (case fi => k_is); (case fn => k_is); (case kc => k_is); (case l => k_is); (case co => k_is); (case k => k_is))
    (case r_Program__init => clear hmg; refine' raw_init KX G ?a ?mk ?fi ?fn ?kc ?l ?co ?k; (case a => k_is); (case mk => k_is); (case fi => k_is); (case fn => k_is); (case kc => k_is); (case l => k_is); (case co => k_is); (case k => k_is))
    (case r_check_owner => clear hmg; refine' raw_def KX G ?a ?l ?co ?k; (case a => k_is); (case l => k_is); (case co => k_is); (case k => k_is))
    (case r_Program__handler => clear hmg; refine' raw_meth KX G ?a ?pg ?hd ?po ?sa ?fi ?fn ?l ?co ?k; (case a => k_is); (case pg => k_is); (case hd => k_is); (case po => k_is); (case sa => k_is); (case fi => k_is); (case fn => k_is); (case l => k_is); (case co => k_is); (case k => k_is))
    (case r_rank_of => clear hmg; refine' raw_def KX G ?a ?l ?co ?k; (case a => k_is); (case l => k_is); (case co => k_is); (case k => k_is))
    (case r_comers_of => clear hmg; refine' raw_def KX G ?a ?l ?co ?k; (case a => k_is); (case l => k_is); (case co => k_is); (case k => k_is))
    (case r_comers => clear hmg; refine' raw_defd KX G ?a ?l ?co ?k ?lt ?r; (case a => k_is); (case l => k_is); (case co => k_is); (case k => k_is); (case lt => k_is); (case r => exact ⟨_, rfl⟩))
    (case r_has_loops => clear hmg; refine' raw_def KX G ?a ?l ?co ?k; (case a => k_is); (case l => k_is); (case co => k_is); (case k => k_is))
    (case r_graph_of => clear hmg; refine' raw_def KX G ?a ?l ?co ?k; (case a => k_is); (case l => k_is); (case co => k_is); (case k => k_is))
    (case r_places => clear hmg; refine' raw_defd KX G ?a ?l ?co ?k ?lt ?r; (case a => k_is); (case l => k_is); (case co => k_is); (case k => k_is); (case lt => k_is); (case r => exact ⟨_, rfl⟩))
    (case r_check_place => clear hmg; refine' raw_defd KX G ?a ?l ?co ?k ?lt ?r; (case a => k_is); (case l => k_is); (case co => k_is); (case k => k_is); (case lt => k_is); (case r => exact ⟨_, rfl⟩))
    (case r_next_places => clear hmg; refine' raw_defd KX G ?a ?l ?co ?k ?lt ?r; (case a => k_is); (case l => k_is); (case co => k_is); (case k => k_is); (case lt => k_is); (case r => exact ⟨_, rfl⟩))
    (case r__law_owner_holds => clear hmg; refine' raw_def KX G ?a ?l ?co ?k; (case a => k_is); (case l => k_is); (case co => k_is); (case k => k_is))
    (case r_law => clear hmg; refine' raw_def KX G ?a ?l ?co ?k; (case a => k_is); (case l => k_is); (case co => k_is); (case k => k_is))
    (case f_Graph_spots => clear hmg; refine' raw_fld KX G ?a ?pg ?hd ?po ?sa ?nf; (case a => k_is); (case pg => k_is); (case hd => k_is); (case po => k_is); (case sa => k_is); (case nf => k_is))
    (case f_Graph_steps => clear hmg; refine' raw_fld KX G ?a ?pg ?hd ?po ?sa ?nf; (case a => k_is); (case pg => k_is); (case hd => k_is); (case po => k_is); (case sa => k_is); (case nf => k_is))
    (case f_Program_content => clear hmg; refine' raw_fld KX G ?a ?pg ?hd ?po ?sa ?nf; (case a => k_is); (case pg => k_is); (case hd => k_is); (case po => k_is); (case sa => k_is); (case nf => k_is))
    (case f_Program_graphs => clear hmg; refine' raw_fld KX G ?a ?pg ?hd ?po ?sa ?nf; (case a => k_is); (case pg => k_is); (case hd => k_is); (case po => k_is); (case sa => k_is); (case nf => k_is))
    (case f_Program_main_graph => clear hmg; refine' raw_fld KX G ?a ?pg ?hd ?po ?sa ?nf; (case a => k_is); (case pg => k_is); (case hd => k_is); (case po => k_is); (case sa => k_is); (case nf => k_is))
    (case z_all => clear hmg; refine' mg_none_of KX G ?a; (case a => k_is))
    (case z_any => clear hmg; refine' mg_none_of KX G ?a; (case a => k_is))
    (case z_bool => clear hmg; refine' mg_none_of KX G ?a; (case a => k_is))
    (case z_enumerate => clear hmg; refine' mg_none_of KX G ?a; (case a => k_is))
    (case z_int => clear hmg; refine' mg_none_of KX G ?a; (case a => k_is))
    (case z_isinstance => clear hmg; refine' mg_none_of KX G ?a; (case a => k_is))
    (case z_len => clear hmg; refine' mg_none_of KX G ?a; (case a => k_is))
    (case z_max => clear hmg; refine' mg_none_of KX G ?a; (case a => k_is))
    (case z_min => clear hmg; refine' mg_none_of KX G ?a; (case a => k_is))
    (case z_range => clear hmg; refine' mg_none_of KX G ?a; (case a => k_is))
    (case z_set => clear hmg; refine' mg_none_of KX G ?a; (case a => k_is))
    (case z_sorted => clear hmg; refine' mg_none_of KX G ?a; (case a => k_is))
    (case z_str => clear hmg; refine' mg_none_of KX G ?a; (case a => k_is))
    (case z_tuple => clear hmg; refine' mg_none_of KX G ?a; (case a => k_is))
    (case z_zip => clear hmg; refine' mg_none_of KX G ?a; (case a => k_is))
    (case g_HANDLER_SIZES => clear hmg; refine' raw_tup (us := [_, _]) (vs := [L2.V.int 8, L2.V.int 3]) KX G ?a ?l ?ho ?hz ?r ?rv; (case a => k_is); (case l => k_is); (case ho => exact rfl); (case hz => decide); (case r => exact (.cons ⟨_, rfl⟩ (.cons ⟨_, rfl⟩ .nil))); (case rv => exact fun _ _ => (.cons (by constructor) (.cons (by constructor) .nil))))
    (case g_LETTERS => clear hmg; refine' raw_str KX G ?a; (case a => k_is))
    (case g_MAIN => clear hmg; refine' raw_str KX G ?a; (case a => k_is))
    (case g_MAIN_SIZES => clear hmg; refine' raw_tup (us := [_, _]) (vs := [L2.V.int 16, L2.V.int 4]) KX G ?a ?l ?ho ?hz ?r ?rv; (case a => k_is); (case l => k_is); (case ho => exact rfl); (case hz => decide); (case r => exact (.cons ⟨_, rfl⟩ (.cons ⟨_, rfl⟩ .nil))); (case rv => exact fun _ _ => (.cons (by constructor) (.cons (by constructor) .nil))))
    (case g_MOST_FACTOR => clear hmg; refine' raw_int KX G ?a; (case a => k_is))
    (case g_MOST_HANDLERS => clear hmg; refine' raw_int KX G ?a; (case a => k_is))
    (case g_MOST_LETTERS => clear hmg; refine' raw_int KX G ?a; (case a => k_is))
    (case g_MOST_LOCALS => clear hmg; refine' raw_int KX G ?a; (case a => k_is))
    (case g_MOST_NAMES => clear hmg; refine' raw_int KX G ?a; (case a => k_is))
    (case g_MOST_NESTED => clear hmg; refine' raw_int KX G ?a; (case a => k_is))
    (case g_MOST_RANK => clear hmg; refine' raw_int KX G ?a; (case a => k_is))
    (case g_MOST_SHARED => clear hmg; refine' raw_int KX G ?a; (case a => k_is))
    (case g_MOST_WAIT => clear hmg; refine' raw_int KX G ?a; (case a => k_is))
    (case g_WISHES => clear hmg; refine' raw_tup (us := [_, _]) (vs := [L2.V.str "now", L2.V.str "late"]) KX G ?a ?l ?ho ?hz ?r ?rv; (case a => k_is); (case l => k_is); (case ho => exact rfl); (case hz => decide); (case r => exact (.cons ⟨_, rfl⟩ (.cons ⟨_, rfl⟩ .nil))); (case rv => exact fun _ _ => (.cons (by constructor) (.cons (by constructor) .nil))))
    (case g_WORDS => clear hmg; refine' raw_tup (us := [_, _, _, _, _, _, _, _, _, _, _, _, _, _, _]) (vs := [L2.V.str "shared", L2.V.str "local", L2.V.str "told", L2.V.str "handler", L2.V.str "rank", L2.V.str "now", L2.V.str "late", L2.V.str "wait", L2.V.str "main", L2.V.str "end", L2.V.str "set", L2.V.str "input", L2.V.str "either", L2.V.str "or", L2.V.str "loop"]) KX G ?a ?l ?ho ?hz ?r ?rv; (case a => k_is); (case l => k_is); (case ho => exact rfl); (case hz => decide); (case r => exact (.cons ⟨_, rfl⟩ (.cons ⟨_, rfl⟩ (.cons ⟨_, rfl⟩ (.cons ⟨_, rfl⟩ (.cons ⟨_, rfl⟩ (.cons ⟨_, rfl⟩ (.cons ⟨_, rfl⟩ (.cons ⟨_, rfl⟩ (.cons ⟨_, rfl⟩ (.cons ⟨_, rfl⟩ (.cons ⟨_, rfl⟩ (.cons ⟨_, rfl⟩ (.cons ⟨_, rfl⟩ (.cons ⟨_, rfl⟩ (.cons ⟨_, rfl⟩ .nil)))))))))))))))); (case rv => exact fun _ _ => (.cons (by constructor) (.cons (by constructor) (.cons (by constructor) (.cons (by constructor) (.cons (by constructor) (.cons (by constructor) (.cons (by constructor) (.cons (by constructor) (.cons (by constructor) (.cons (by constructor) (.cons (by constructor) (.cons (by constructor) (.cons (by constructor) (.cons (by constructor) (.cons (by constructor) .nil)))))))))))))))))
