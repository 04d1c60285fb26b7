import PyProof.Rows.All
import Wide.All
import OpenK.AllK
import Wide.FinOn
import HandS.ForMost
import HandS.Exc
import HandS.TupAny
import HandS.TupMul
import HandS.HeadHook1
import HandS.WordsExc
import HandS.Defaults
import HandS.CallSlots
import HandS.TryOnly
import HandS.ExcOwn
import HandS.Flow
import HandS.Wide
import HandS.ExcIs
import KE.KDictKeyed
import HandS.RaiseMore
import HandS.Comp
import HandS.Iter
import HandS.More
import HandS.Style
import HandS.Ends
import HandS.EndBits
import HandS.HeadEnd
import HandS.Deep
import HandS.Text
import HandS.Head0
import HandS.Head1
import HandS.Head2
import HandS.HeadHook2
import HandS.IsInst
import HandS.FStr
import KE.KDictWalk
import KE.KDictDisplayH
import HandS.NoneIn
import HandS.MakeKwOnly
import KE.KRevSl
import HandS.Strs
import PySem.Challenge.RW_lentslots_k13_whole_walk_of_deeds
set_option Elab.async false
set_option linter.all false
set_option maxRecDepth 100000
set_option maxHeartbeats 8000000
/-! Vi0: a new tuple's own object is known: it has no dict. -/
namespace Vi
open PySem PySem.Spec PyProof.Rows L2
/-- what follows a new tuple -/
def NewT (H : Hp) (Q : VK) (xs : List V) : Prop := ∀ (p : Addr) (ob : Obj), H p = none → ob.dict = none → Q (.ref p) (upd H p (.frz ob (.tup xs)))
section
variable {X : Cx} {pins : List (Addr × Obj)} {σ : L2.St} {H : Hp} {s : Shared} {Q : VK} {xs : List V}
theorem laidT (I : L2.Inv X pins σ H s) {its : List Value} {t' : Nat} (hz : xs.length ≤ sizeLine) (r : Vals xs its) (q : NewT H Q xs) :
    EP X pins σ Q (.ref s.heap.objs.size) { s with heap := s.heap.push { cls := .type "tuple", data := .seq its.toArray }, toks := t' } := by
  have hf : H s.heap.objs.size = none := I.hok.fresh (Nat.le_refl _)
  refine ⟨.ref s.heap.objs.size, _, I.laid (t' := t') (o := .frz { cls := .type "tuple", data := .seq its.toArray } (.tup xs)) (fun b u e => Heap.get?_push_of_some _ e) (Nat.le_refl _) ?_, rfl, q _ _ hf rfl⟩
  exact ⟨Heap.get?_push_size _ rfl, hz, its, r, IsTup.new _ _⟩
/-- (a, b) -/
def tTupF (t : TA) : TE := fun σ H Q => t σ H fun xs H1 => xs.length ≤ sizeLine ∧ NewT H1 Q xs
theorem pe_tupF {es : List Expr} {t : TA} {k : Nat} {pos : Pos} (h : PA X es t) : PE X (.Tuple es k pos) (tTupF t) :=
  ⟨fun pins s σ H Q I hq => wpAny_Tuple_spliced (thn (h.run pos pins s σ H _ I hq) fun us s1 ⟨xs, H1, I1, r, z, q⟩ => ⟨by rw [← r.length]; exact z, laidT I1 (t' := s1.toks) z r q⟩)⟩
/-- a + b, neither empty -/
theorem op_catF : OpR X (binaryOp .Add) (fun x y H Q => ∃ a b xs ys, x = .ref a ∧ y = .ref b ∧ SqT X.K H a xs ∧ SqT X.K H b ys ∧ xs ≠ [] ∧ ys ≠ [] ∧ xs.length + ys.length ≤ sizeLine ∧ NewT H Q (xs ++ ys)) := by
  rintro pins s σ H x y v u Q I rx ry ⟨a, b, xs, ys, rfl, rfl, ha, hb, hx, hy, hz, q⟩
  cases rx
  cases ry
  obtain ⟨_, r1, p1, _⟩ := I.tuple ha
  obtain ⟨_, r2, p2, _⟩ := I.tuple hb
  exact HT.cat_tup p1 p2 (fun z => hx (r1.nil_iff.mp z)) (fun z => absurd (r2.nil_iff.mp z) hy) (fun _ => laidT I (t' := s.toks) (by rw [List.length_append]; exact hz) (r1.append r2) q) (by rw [← r1.length, ← r2.length]; exact hz)
/-- t[a:b], not the whole -/
theorem sl_tupF : SlR X (fun x lo hi H Q => ∃ a xs, x = .ref a ∧ SqT X.K H a xs ∧ ¬ (HT.sIx xs.length 0 lo = 0 ∧ HT.sIx xs.length xs.length hi = xs.length) ∧ NewT H Q (cutV xs lo hi)) := by
  rintro pins s σ H x v vl vu lo hi sl Q I rx hs pl pu ⟨a, xs, rfl, hx, hw, q⟩
  cases rx
  obtain ⟨its, r, ht, hz⟩ := I.tuple hx
  have hlen : its.toArray.size = xs.length := (List.size_toArray).trans r.length.symm
  refine ⟨"tuple", _, slot_tuple_getitem.lookup, ht.typeIs, HT.getItem_tuple_cut ht hs pl pu (by rw [hlen]; exact hw) ?_ (by rw [hlen]; exact hz)⟩
  rw [hlen]
  exact laidT I (t' := s.toks) (Nat.le_trans (cutV_length xs lo hi) hz) ((r.drop (HT.sIx xs.length 0 lo)).take (HT.sIx xs.length xs.length hi - HT.sIx xs.length 0 lo)) q
/-- tuple(a list) -/
theorem call_tupF : CallR X (.type "tuple") (fun xs H Q => ∃ p ys, xs = [.ref p] ∧ SqL X.K H p ys ∧ NewT H Q ys) := by
  rintro pins s σ H xs us Q I r ⟨p, ys, rfl, hq, q⟩
  obtain ⟨u, rfl, rx⟩ := vals1 r
  cases rx
  obtain ⟨its, r', pl, hz⟩ := I.list hq
  have hlen := r'.length
  exact call_tuple_list pl.isList (fun h' kp => laidT (I.kept (h' := h') (t' := s.toks) kp) (t' := s.toks) hz r' q) (by simp only [List.size_toArray]; omega)
/-- divmod(a, b) -/
theorem call_divF : CallR X (.builtin "divmod") (fun xs H Q => ∃ i j, xs = [.int i, .int j] ∧ CDiv i j ∧ NewT H Q [.int (i / j), .int (i % j)]) := by
  rintro pins s σ H xs us Q I r ⟨i, j, rfl, ⟨h1, h2⟩, q⟩
  obtain ⟨u, w', rfl, ⟨t, rfl⟩, ⟨t', rfl⟩⟩ := vals2 r
  refine divmod_int (by omega) ?_ (.inl (PyProof.noPylong_small (by omega)))
  rw [Int.fdiv_eq_ediv_of_nonneg i (by omega), Int.fmod_eq_emod_of_nonneg i (by omega)]
  exact laidT I (xs := [.int (i / j), .int (i % j)]) (its := [.int (i / j) s.toks, .int (i % j) (s.toks + 1)]) (by simp only [List.length_cons, List.length_nil]; rw [sizeLine_eq]; decide) (.cons ⟨_, rfl⟩ (.cons ⟨_, rfl⟩ .nil)) q
/-- t * k, k from 2 on -/
theorem op_repF : OpR X (binaryOp .Mult) (fun x y H Q => ∃ l k xs, x = .ref l ∧ y = .int k ∧ SqT X.K H l xs ∧ xs ≠ [] ∧ 2 ≤ k ∧ k ≤ 1000 ∧ xs.length ≤ 1000 ∧ NewT H Q (List.replicate k.toNat xs).flatten) := by
  rintro pins s σ H x y v u Q I rx ry ⟨l, k, xs, rfl, rfl, hT, hne, h1, h2, hz, q⟩
  cases rx
  obtain ⟨t, rfl⟩ := ry
  obtain ⟨its, r, ⟨⟨cls, dd, data, sl⟩, ho, hc, n, hd⟩, hs⟩ := I.tuple hT
  dsimp only at hc hd
  subst hc hd
  have e1 : its.length = xs.length := r.length.symm
  have e2 : its.toArray.size = xs.length := (List.size_toArray).trans e1
  have hi : its.toArray.isEmpty = false := by
    cases its with
    | nil => exact absurd (List.length_eq_zero_iff.mp e1.symm) hne
    | cons _ _ => rfl
  have big : k.toNat * xs.length ≤ 1000000 := Nat.le_trans (Nat.mul_le_mul (show k.toNat ≤ 1000 by omega) hz) (by decide)
  have big2 : ((its.toArray.size : Nat) : Int) * k ≤ 1000000 := by
    have z : (((its.toArray.size * k.toNat : Nat)) : Int) = ((its.toArray.size : Nat) : Int) * k := by rw [Int.natCast_mul, Int.toNat_of_nonneg (by omega)]
    rw [← z, e2, Nat.mul_comm]
    exact Int.ofNat_le.mpr big
  have n1 : ¬ (k < -(2 ^ 63)) ∧ ¬ (k ≥ 2 ^ 63) ∧ ¬ (k ≤ 0) ∧ k ≠ 1 := ⟨by omega, by omega, by omega, by omega⟩
  have fl : (List.replicate k.toNat its).flatten.length ≤ sizeLine := by
    rw [lm_len_rep_flat, e1, sizeLine_eq]
    omega
  have wp := tuple_mulW l its.toArray n dd sl k t (by simp only [n1, decide_false, Bool.or_false]) (by rw [hi, Bool.false_or]; exact beq_eq_false_iff_ne.mpr n1.2.2.2) (by rw [hi, Bool.or_false]; exact decide_eq_false n1.2.2.1)
    (by omega) (by unfold Builtin.Tuple.tupleTooMany; rw [sizeLine_eq]; exact decide_eq_false (by omega)) (by rw [size_rep, List.size_toArray]; exact fl)
  refine wpAny_binaryOp_repeat_ref (T := "tuple") (U := "int") (by decide) ⟨_, ho, rfl⟩ (fun s' => typeIs_int s' k t) noFill_tuple_mul PySem.F.fills_int_mul PySem.F.slot_int_rmul repeat_tuple PySem.F.slot_int_index.lookup ?_
  refine call_meets PySem.F.slot_int_rmul (typeIs_int s k t) PySem.F.entry_int_rmul (PySem.F.args_int_rmul_2 _ _) (int_rmul_tuple k t l its.toArray n dd sl) ⟨ho, rfl, ⟨_, ho, rfl⟩, ?_⟩
  refine call_meets PySem.F.slot_tuple_mul ⟨_, ho, rfl⟩ PySem.F.entry_tuple_mul (PySem.F.args_tuple_mul_2 _ _) wp ⟨ho, ?_⟩
  rw [size_rep]
  exact laidT I (t' := s.toks) (by rw [lm_len_rep_flat, sizeLine_eq]; omega) (r.rep k.toNat) q
end
end Vi

/-! Vi1: values as trees over the hand layer: U, worlds, what stands for what. -/
namespace Vi
open PySem PySem.Spec PyProof.Rows L2
/-- the World that all stands in -/
class WW where
  w : World
variable [WW]

/-- a value as a tree; scr: the script; ref: a shared list by its number -/
inductive U where
  | non | bl (b : Bool) | int (i : Int) | str (x : Str) | tup (us : List U) | lst (us : List U) | scr (ns : List Int) | ref (i : Nat) | ty (n : String) | err (x : Str) | ecl (x : Str) | dic (ks vs : List U) | erf (x f : Str) (u : U)
/-- what a slot holds, what an expression gives: a value, or a list that nothing else names -/
inductive Sv where
  | val (u : U) | own (us : List U) | dic (ks vs : List U)
/-- who may write at an address -/
inductive Ow where
  | frz | tmp | obj (i : Nat) | slot (k : Nat)
  deriving DecidableEq
structure Wd where
  own : Addr → Option Ow
  mp : List Addr
/-- a shared object -/
inductive Ob where
  | lst (us : List U)
/-- an exception: its class by name, its field -/
structure Ex where
  cls : Str
  arg : Option (Str × U) := none
abbrev En := List (Option Sv)
abbrev Hv := List Ob

def Wd.put (W : Wd) (p : Addr) (w : Option Ow) : Wd := ⟨fun a => if a = p then w else W.own a, W.mp⟩
theorem Wd.put_same {W : Wd} {p : Addr} {w : Option Ow} : (W.put p w).own p = w := if_pos rfl
theorem Wd.put_ne {W : Wd} {p a : Addr} {w : Option Ow} (h : a ≠ p) : (W.put p w).own a = W.own a := if_neg h

/-- a dict -/
def isDO : HO → Prop
  | .dK _ => True
  | .ext _ => True
  | _ => False
/-- what stays: frozen lists, tuples, locked things, the shared objects' numbers -/
structure LeP (W : Wd) (H : Hp) (W' : Wd) (H' : Hp) : Prop where
  fr : ∀ a o, H a = some o → W.own a = some .frz → W'.own a = some .frz ∧ (H' a = some o ∨ (isDO o ∧ ∃ od, H' a = some (.frz od o)))
  tp : ∀ a vs, H a = some (.tup vs) → H' a = some (.tup vs)
  fz : ∀ a o u, H a = some (.frz o u) → H' a = some (.frz o u)
  mp : ∃ l, W'.mp = W.mp ++ l
  ob : ∀ i a, W.mp[i]? = some a → W.own a = some (.obj i) → W'.own a = some (.obj i)
/-- .. and all that is there and that nobody here owns -/
structure LeW (W : Wd) (H : Hp) (W' : Wd) (H' : Hp) : Prop extends LeP W H W' H' where
  st : ∀ a o, H a = some o → W.own a = none → W'.own a = none ∧ H' a = some o
theorem LeP.at_ {W W' : Wd} {H H' : Hp} (l : LeP W H W' H') {i : Nat} {a : Addr} (h : W.mp[i]? = some a) : W'.mp[i]? = some a := by
  obtain ⟨m, e⟩ := l.mp
  rw [e, List.getElem?_append_left (List.getElem?_eq_some_iff.mp h).1]
  exact h
theorem LeP.frl {W W' : Wd} {H H' : Hp} (l : LeP W H W' H') {a : Addr} {vs : List V} (h : H a = some (.lst vs)) (n : W.own a = some .frz) : W'.own a = some .frz ∧ H' a = some (.lst vs) := by
  obtain ⟨n1, h1 | ⟨z, _⟩⟩ := l.fr _ _ h n
  · exact ⟨n1, h1⟩
  · exact z.elim
theorem LeP.frx {W W' : Wd} {H H' : Hp} (l : LeP W H W' H') {a : Addr} {vs : List (Str × V)} (h : H a = some (.xd vs)) (n : W.own a = some .frz) : W'.own a = some .frz ∧ H' a = some (.xd vs) := by
  obtain ⟨n1, h1 | ⟨z, _⟩⟩ := l.fr _ _ h n
  · exact ⟨n1, h1⟩
  · exact z.elim
theorem LeP.refl {W : Wd} {H : Hp} : LeP W H W H := ⟨fun _ _ h n => ⟨n, .inl h⟩, fun _ _ h => h, fun _ _ _ h => h, ⟨[], by simp⟩, fun _ _ _ h => h⟩
theorem LeW.refl {W : Wd} {H : Hp} : LeW W H W H := ⟨.refl, fun _ _ h n => ⟨n, h⟩⟩
theorem LeP.trans {W W1 W2 : Wd} {H H1 H2 : Hp} (a : LeP W H W1 H1) (b : LeP W1 H1 W2 H2) : LeP W H W2 H2 where
  fr := fun c o h n => by
    obtain ⟨n1, h1 | ⟨z, od, h1⟩⟩ := a.fr c o h n
    · exact b.fr c o h1 n1
    · refine ⟨?_, .inr ⟨z, od, b.fz c od o h1⟩⟩
      obtain ⟨n2, _⟩ := b.fr c _ h1 n1
      exact n2
  tp := fun c vs h => b.tp c vs (a.tp c vs h)
  fz := fun c o u h => b.fz c o u (a.fz c o u h)
  mp := by
    obtain ⟨l, e⟩ := a.mp
    obtain ⟨m, e'⟩ := b.mp
    exact ⟨l ++ m, by rw [e', e, List.append_assoc]⟩
  ob := fun i c h n => b.ob i c (a.at_ h) (a.ob i c h n)
theorem LeW.trans {W W1 W2 : Wd} {H H1 H2 : Hp} (a : LeW W H W1 H1) (b : LeW W1 H1 W2 H2) : LeW W H W2 H2 :=
  ⟨a.toLeP.trans b.toLeP, fun c o h n => let ⟨n1, h1⟩ := a.st c o h n; b.st c o h1 n1⟩

/-! ### what stands for what -/
def TupS (K : PySem.W.Frag) (H : Hp) (a : Addr) (vs : List V) : Prop := (∃ o : Obj, o.dict = none ∧ H a = some (.frz o (.tup vs))) ∨ ∃ (o : Obj) (its : Array Value) (n : Nat), K.lookup a = some o ∧ o.cls = .type "tuple" ∧ o.dict = none ∧ o.data = .seq its n ∧ its.size ≤ sizeLine ∧ Vals vs its.toList
/-- the script: locked, or one of the module's own objects -/
def ScrS (K : PySem.W.Frag) (H : Hp) (a : Addr) (vs : List V) : Prop := (∃ o, H a = some (.frz o (.lst vs))) ∨ ∃ (o : Obj) (its : Array Value) (n : Nat), K.lookup a = some o ∧ o.cls = .type "list" ∧ o.dict = none ∧ o.data = .seq its n ∧ its.size ≤ sizeLine ∧ Vals vs its.toList
/-- an error class of one's own, with what is asked of it and of its objects -/
def eclB (K : PySem.W.Frag) (x : Str) : Bool := (He.Fa.exc x).ok K && (He.eqO (PySem.W.findIn K (.ref (He.ga K x)) "__getattribute__") (some (some (.builtin "BaseException.__getattribute__"))) && (He.eqO (PySem.W.findIn K (.ref (He.ga K x)) "__getattr__") (some none) &&
  (PySem.W.hasDictIn K (He.ga K x) && (He.eqO (PySem.W.findIn K (.ref (He.ga K x)) "__class__") (some (some (.builtin "object.__class__"))) && (He.eqO (PySem.W.specialIn K (.builtin "object.__class__") "__get__") (some (some (.builtin "getset_descriptor.__get__"))) &&
  (decide (PySem.W.takesIn K (.builtin "object.__class__") = some true) && (decide (PySem.W.mroIn K (He.ga K x) (.type "object") = some true) && ((["int", "bool", "str", "tuple", "list"].all fun b => decide (PySem.W.kitOne K (.ref (He.ga K x)) (.type b) = some false)) &&
  (decide (PySem.W.exmOne K (.ref (He.ga K x)) (.ref (He.ga K "SlotError")) = some true) && decide (PySem.W.kitOne K (.ref (He.ga K x)) (.ref (He.ga K x)) = some true))))))))))
/-- an error object, made and not raised -/
def ErrS (K : PySem.W.Frag) (H : Hp) (a : Addr) (x : Str) : Prop := ∃ oe vs, H a = some (.frz oe (.own a)) ∧ oe.cls = .ref (He.ga K x) ∧ oe.dict = none ∧ oe.data = .fields vs
-- a key as the library has it
mutual
def nkU : U → Option NestedKey
  | .non => some .none
  | .bl b => some (.num (if b = true then 1 else 0))
  | .int i => some (.num i)
  | .str x => some (.text x)
  | .tup us => (nkUs us).map .tup
  | _ => none
def nkUs : List U → Option (List NestedKey)
  | [] => some []
  | u :: us => match nkU u, nkUs us with
    | some k, some ks => some (k :: ks)
    | _, _ => none
end
def kU : Key → U
  | .inl i => .int i
  | .inr x => .str x
/-- a dict whose keys are tuples of any depth, at a -/
def DnO (a : Addr) (xs : List (NestedKey × Addr × V)) : HO := .ext fun h => (a == sysModules) = false ∧ ∃ ys : List (NestedKey × Addr × Value),
  Paired (fun p q => p.1 = q.1 ∧ p.2.1 = q.2.1 ∧ RelV p.2.2 q.2.2) xs ys ∧ ∃ o es ep, h.get? a = some o ∧ o.ExactDict ∧ o.data = .dict es ep ∧
  es.toList = ys.map (fun x => (⟨x.1.hash WW.w, .ref x.2.1, x.2.2⟩ : DictEntry)) ∧ (ys.map (·.1)).Nodup
/-- the dict o at a has the keys ks, kv, with the values vv -/
def DicS (a : Addr) (ks : List U) (kv vv : List V) (o : HO) : Prop :=
  (∃ kvs : List (Key × V), o = .dK kvs ∧ kv = kvs.map (fun p => kV p.1) ∧ vv = kvs.map (·.2) ∧ ks = kvs.map (fun p => kU p.1)) ∨
  (∃ xs : List (NestedKey × Addr × V), xs ≠ [] ∧ xs.length ≤ sizeLine ∧ (∀ x ∈ xs, x.1.depth ≤ 8) ∧ o = DnO a xs ∧ kv = xs.map (fun x => V.ref x.2.1) ∧ vv = xs.map (·.2.2) ∧ ks.map nkU = xs.map fun x => some x.1)
theorem DicS.isD {a : Addr} {ks : List U} {kv vv : List V} {o : HO} (d : DicS a ks kv vv o) : isDO o := by
  rcases d with ⟨_, rfl, _⟩ | ⟨_, _, _, _, rfl, _⟩
  · exact trivial
  · exact trivial
theorem isDO.mut {o : HO} (d : isDO o) : Mut (some o) := by
  cases o with
  | dK _ => exact trivial
  | ext _ => exact trivial
  | _ => exact d.elim
/-- an error object of a class of one's own, with one field -/
def ErrF (K : PySem.W.Frag) (H : Hp) (a d : Addr) (x : Str) : Prop := ∃ oe vs, H a = some (.frz oe (.own a)) ∧ oe.cls = .ref (He.ga K x) ∧ oe.dict = some d ∧ oe.data = .fields vs
mutual
inductive RV (K : PySem.W.Frag) (W : Wd) (H : Hp) : U → V → Prop
  | non : RV K W H .non .non
  | bl (b : Bool) : RV K W H (.bl b) (.bl b)
  | int (i : Int) : RV K W H (.int i) (.int i)
  | str (x : Str) : RV K W H (.str x) (.str x)
  | ty (n : String) : RV K W H (.ty n) (.ty n)
  | tup {us : List U} {a : Addr} {vs : List V} : TupS K H a vs → RVs K W H us vs → RV K W H (.tup us) (.ref a)
  | lst {us : List U} {a : Addr} {vs : List V} : W.own a = some .frz → H a = some (.lst vs) → RVs K W H us vs → RV K W H (.lst us) (.ref a)
  | scr {ns : List Int} {a : Addr} : ScrS K H a (ns.map V.int) → RV K W H (.scr ns) (.ref a)
  | ref {i : Nat} {a : Addr} : W.mp[i]? = some a → W.own a = some (.obj i) → RV K W H (.ref i) (.ref a)
  | err {x : Str} {a : Addr} : ErrS K H a x → eclB K x = true → RV K W H (.err x) (.ref a)
  | ecl {x : Str} {a : Addr} : a = He.ga K x → eclB K x = true → RV K W H (.ecl x) (.ref a)
  | dic {ks vs : List U} {a : Addr} {o : HO} {kv vv : List V} : (W.own a = some .frz ∧ H a = some o) ∨ (∃ od, H a = some (.frz od o)) → DicS a ks kv vv o → RVs K W H ks kv → RVs K W H vs vv → RV K W H (.dic ks vs) (.ref a)
  | erf {x f : Str} {u : U} {v : V} {a d : Addr} : ErrF K H a d x → eclB K x = true → W.own d = some .frz → H d = some (.xd [(f, v)]) → RV K W H u v → RV K W H (.erf x f u) (.ref a)
inductive RVs (K : PySem.W.Frag) (W : Wd) (H : Hp) : List U → List V → Prop
  | nil : RVs K W H [] []
  | cons {u : U} {v : V} {us : List U} {vs : List V} : RV K W H u v → RVs K W H us vs → RVs K W H (u :: us) (v :: vs)
end
section
variable {K : PySem.W.Frag} {W W' : Wd} {H H' : Hp} {a : Addr} {vs : List V}
theorem TupS.le (l : LeP W H W' H') (h : TupS K H a vs) : TupS K H' a vs := by
  rcases h with ⟨o, d, h⟩ | h
  · exact .inl ⟨o, d, l.fz _ _ _ h⟩
  · exact .inr h
theorem ScrS.le (l : LeP W H W' H') (h : ScrS K H a vs) : ScrS K H' a vs := by
  rcases h with ⟨o, h⟩ | h
  · exact .inl ⟨o, l.fz _ _ _ h⟩
  · exact .inr h
theorem ScrS.sq (h : ScrS K H a vs) : SqL K H a vs := by
  rcases h with h | h
  · exact .inl (.inr h)
  · exact .inr h
theorem ErrS.le {x : Str} (l : LeP W H W' H') (h : ErrS K H a x) : ErrS K H' a x := by
  obtain ⟨oe, us, e, r⟩ := h
  exact ⟨oe, us, l.fz _ _ _ e, r⟩
theorem ErrF.le {x : Str} {d : Addr} (l : LeP W H W' H') (h : ErrF K H a d x) : ErrF K H' a d x := by
  obtain ⟨oe, us, e, r⟩ := h
  exact ⟨oe, us, l.fz _ _ _ e, r⟩
theorem dic_le {o : HO} (l : LeP W H W' H') (d : isDO o) (h : (W.own a = some .frz ∧ H a = some o) ∨ (∃ od, H a = some (.frz od o))) : (W'.own a = some .frz ∧ H' a = some o) ∨ (∃ od, H' a = some (.frz od o)) := by
  rcases h with ⟨n, h⟩ | ⟨od, h⟩
  · obtain ⟨n1, h1 | ⟨_, od, h1⟩⟩ := l.fr _ _ h n
    · exact .inl ⟨n1, h1⟩
    · exact .inr ⟨od, h1⟩
  · exact .inr ⟨od, l.fz _ _ _ h⟩
theorem TupS.sq (h : TupS K H a vs) : SqT K H a vs := by
  rcases h with ⟨o, _, h⟩ | ⟨o, its, n, h1, h2, _, h3, h4, h5⟩
  · exact .inl (.inr ⟨o, h⟩)
  · exact .inr ⟨o, its, n, h1, h2, h3, h4, h5⟩
/-- a tuple is one in the heap, and has no dict -/
theorem TupS.plain {X : Cx} {pins : List (Addr × Obj)} {σ : L2.St} {s : Shared} (I : L2.Inv X pins σ H s) (h : TupS X.K H a vs) : s.TypeIs (.ref a) "tuple" ∧ ∃ ob, s.heap.get? a = some ob ∧ ob.dict = none := by
  rcases h with ⟨o, d, h⟩ | ⟨o, its, n, h1, h2, d, _⟩
  · obtain ⟨g, _, _, _, t⟩ := I.hok _ _ h
    exact ⟨t.typeIs, o, g, d⟩
  · exact ⟨⟨o, I.kIn a o h1, h2⟩, o, I.kIn a o h1, d⟩
end
mutual
theorem RV.le {K : PySem.W.Frag} {W W' : Wd} {H H' : Hp} (l : LeP W H W' H') : ∀ {u : U} {v : V}, RV K W H u v → RV K W' H' u v
  | _, _, .non => .non
  | _, _, .bl b => .bl b
  | _, _, .int i => .int i
  | _, _, .str x => .str x
  | _, _, .ty n => .ty n
  | _, _, .tup h r => .tup (h.le l) (RVs.le l r)
  | _, _, .lst n h r => .lst (l.frl h n).1 (l.frl h n).2 (RVs.le l r)
  | _, _, .scr h => .scr (h.le l)
  | _, _, .ref h o => .ref (l.at_ h) (l.ob _ _ h o)
  | _, _, .err h c => .err (h.le l) c
  | _, _, .ecl e c => .ecl e c
  | _, _, .dic h d r s => .dic (dic_le l d.isD h) d (RVs.le l r) (RVs.le l s)
  | _, _, .erf h c n x r => .erf (h.le l) c (l.frx x n).1 (l.frx x n).2 (RV.le l r)
theorem RVs.le {K : PySem.W.Frag} {W W' : Wd} {H H' : Hp} (l : LeP W H W' H') : ∀ {us : List U} {vs : List V}, RVs K W H us vs → RVs K W' H' us vs
  | _, _, .nil => .nil
  | _, _, .cons a b => .cons (RV.le l a) (RVs.le l b)
end
section
variable {K : PySem.W.Frag} {W W' : Wd} {H H' : Hp}
theorem RVs.length : ∀ {us : List U} {vs : List V}, RVs K W H us vs → us.length = vs.length
  | _, _, .nil => rfl
  | _, _, .cons _ b => congrArg Nat.succ (RVs.length b)
theorem RVs.get : ∀ {us : List U} {vs : List V} {i : Nat} {u : U}, RVs K W H us vs → us[i]? = some u → ∃ v, vs[i]? = some v ∧ RV K W H u v
  | _, _, _, _, .nil, e => by simp at e
  | _, _, 0, _, .cons r _, e => by simp at e; subst e; exact ⟨_, rfl, r⟩
  | _, _, i + 1, u, .cons _ t, e => by
    obtain ⟨v, h1, h2⟩ := RVs.get (i := i) (u := u) t (by simpa using e)
    exact ⟨v, by simpa using h1, h2⟩
theorem RVs.append : ∀ {us us' : List U} {vs vs' : List V}, RVs K W H us vs → RVs K W H us' vs' → RVs K W H (us ++ us') (vs ++ vs')
  | _, _, _, _, .nil, s => s
  | _, _, _, _, .cons r t, s => .cons r (RVs.append t s)
theorem RVs.take : ∀ {us : List U} {vs : List V} (n : Nat), RVs K W H us vs → RVs K W H (us.take n) (vs.take n)
  | _, _, 0, _ => .nil
  | _, _, _ + 1, .nil => .nil
  | _, _, n + 1, .cons r t => .cons r (RVs.take n t)
theorem RVs.drop : ∀ {us : List U} {vs : List V} (n : Nat), RVs K W H us vs → RVs K W H (us.drop n) (vs.drop n)
  | _, _, 0, r => r
  | _, _, _ + 1, .nil => .nil
  | _, _, n + 1, .cons _ t => RVs.drop n t
theorem RVs.set {u : U} {v : V} (r : RV K W H u v) : ∀ {us : List U} {vs : List V} (i : Nat), RVs K W H us vs → RVs K W H (us.set i u) (vs.set i v)
  | _, _, _, .nil => .nil
  | _, _, 0, .cons _ t => .cons r t
  | _, _, i + 1, .cons q t => .cons q (RVs.set r i t)
theorem RVs.reverse : ∀ {us : List U} {vs : List V}, RVs K W H us vs → RVs K W H us.reverse vs.reverse
  | _, _, .nil => .nil
  | _, _, .cons r t => by
    rw [List.reverse_cons, List.reverse_cons]
    exact RVs.append (RVs.reverse t) (.cons r .nil)
end

def RSv (K : PySem.W.Frag) (W : Wd) (H : Hp) (w : Ow) : Sv → V → Prop
  | .val u, v => RV K W H u v
  | .own us, v => ∃ a vs, v = .ref a ∧ W.own a = some w ∧ H a = some (.lst vs) ∧ RVs K W H us vs
  | .dic ks us, v => ∃ a o kv vv, v = .ref a ∧ W.own a = some w ∧ H a = some o ∧ DicS a ks kv vv o ∧ RVs K W H ks kv ∧ RVs K W H us vv
def RO (K : PySem.W.Frag) (W : Wd) (H : Hp) (a : Addr) : Ob → Prop
  | .lst us => ∃ vs, H a = some (.lst vs) ∧ RVs K W H us vs

/-- the shared objects -/
structure SimH (K : PySem.W.Frag) (W : Wd) (h : Hv) (H : Hp) : Prop where
  len : W.mp.length = h.length
  objs : ∀ i o, h[i]? = some o → ∃ a, W.mp[i]? = some a ∧ W.own a = some (.obj i) ∧ RO K W H a o
  dom : ∀ a w, W.own a = some w → ∃ o, H a = some o
structure Sim (K : PySem.W.Frag) (W : Wd) (env : En) (h : Hv) (σ : L2.St) (H : Hp) : Prop where
  sh : SimH K W h H
  len : env.length = σ.length
  slots : ∀ k sv, env[k]? = some (some sv) → ∃ v, σ[k]? = some (some v) ∧ RSv K W H (.slot k) sv v

section
variable {K : PySem.W.Frag} {W W' : Wd} {H H' : Hp} {h : Hv} {env : En} {σ : L2.St} {p : Addr} {o : HO} {w w' : Ow}
/-- the world moves at one address alone: p is new, or owned and not frozen (and no shared object, or still that) -/
structure At (W : Wd) (H : Hp) (p : Addr) (w' : Option Ow) : Prop where
  ow : (H p = none ∧ W.own p = none) ∨ ∃ w, W.own p = some w ∧ w ≠ .frz
  ls : H p = none ∨ ∃ o, H p = some o ∧ Mut (some o)
  ob : ∀ i, W.own p = some (.obj i) → w' = some (.obj i)
theorem At.le (q : At W H p (some w')) (hH : ∀ a, a ≠ p → H' a = H a) : LeW W H (W.put p (some w')) H' where
  st := fun a u e n => by
    have ne : a ≠ p := fun z => by
      subst z
      rcases q.ow with ⟨h1, _⟩ | ⟨w, h1, _⟩
      · rw [h1] at e; cases e
      · rw [h1] at n; cases n
    exact ⟨by rw [Wd.put_ne ne]; exact n, by rw [hH a ne]; exact e⟩
  fr := fun a u e n => by
    have ne : a ≠ p := fun z => by
      subst z
      rcases q.ow with ⟨h1, _⟩ | ⟨w, h1, h2⟩
      · rw [h1] at e; cases e
      · rw [h1] at n; cases n; exact h2 rfl
    exact ⟨by rw [Wd.put_ne ne]; exact n, .inl (by rw [hH a ne]; exact e)⟩
  tp := fun a vs e => by
    have ne : a ≠ p := fun z => by
      subst z
      rcases q.ls with h1 | ⟨w, h1, m⟩
      · rw [h1] at e; cases e
      · rw [h1] at e; cases e; exact m.elim
    rw [hH a ne]; exact e
  fz := fun a o vs e => by
    have ne : a ≠ p := fun z => by
      subst z
      rcases q.ls with h1 | ⟨w, h1, m⟩
      · rw [h1] at e; cases e
      · rw [h1] at e; cases e; exact m.elim
    rw [hH a ne]; exact e
  mp := ⟨[], by simp [Wd.put]⟩
  ob := fun i a _ n => by
    by_cases e : a = p
    · subst e
      rw [Wd.put_same]
      exact q.ob i n
    · rw [Wd.put_ne e]; exact n
theorem At.new (S : SimH K W h H) (e : H p = none) : At W H p (some w') := by
  have n : W.own p = none := by
    cases q : W.own p with
    | none => rfl
    | some w =>
      obtain ⟨o, e'⟩ := S.dom p w q
      rw [e] at e'; cases e'
  exact ⟨.inl ⟨e, n⟩, .inl e, fun i z => by rw [n] at z; cases z⟩
theorem At.tmp {vs : List V} (e : W.own p = some .tmp) (l : H p = some (.lst vs)) : At W H p (some w') := ⟨.inr ⟨_, e, fun z => by cases z⟩, .inr ⟨_, l, trivial⟩, fun i z => by rw [e] at z; cases z⟩
theorem At.slot {k : Nat} {vs : List V} (e : W.own p = some (.slot k)) (l : H p = some (.lst vs)) : At W H p (some w') := ⟨.inr ⟨_, e, fun z => by cases z⟩, .inr ⟨_, l, trivial⟩, fun i z => by rw [e] at z; cases z⟩
theorem At.obj {i : Nat} {vs : List V} (e : W.own p = some (.obj i)) (l : H p = some (.lst vs)) : At W H p (some (.obj i)) := ⟨.inr ⟨_, e, fun z => by cases z⟩, .inr ⟨_, l, trivial⟩, fun j z => by rw [e] at z; cases z; rfl⟩

theorem SimH.step (S : SimH K W h H) (q : At W H p (some w')) (hno : ∀ i, W.own p ≠ some (.obj i)) (hH : ∀ a, a ≠ p → H' a = H a) (hp : ∃ o, H' p = some o) : SimH K (W.put p (some w')) h H' where
  len := S.len
  objs := fun i o e => by
    obtain ⟨a, m, n, r⟩ := S.objs i o e
    have ne : a ≠ p := fun z => by subst z; exact hno i n
    refine ⟨a, m, by rw [Wd.put_ne ne]; exact n, ?_⟩
    cases o with
    | lst us =>
      obtain ⟨vs, e1, rv⟩ := r
      exact ⟨vs, by rw [hH a ne]; exact e1, rv.le (q.le hH).toLeP⟩
  dom := fun a w e => by
    by_cases z : a = p
    · subst z; exact hp
    · rw [Wd.put_ne z] at e
      rw [hH a z]
      exact S.dom a w e
theorem Sim.step (S : Sim K W env h σ H) (q : At W H p (some w')) (hno : ∀ i, W.own p ≠ some (.obj i)) (hns : ∀ k, W.own p ≠ some (.slot k)) (hH : ∀ a, a ≠ p → H' a = H a) (hp : ∃ o, H' p = some o) : Sim K (W.put p (some w')) env h σ H' where
  sh := S.sh.step q hno hH hp
  len := S.len
  slots := fun k sv e => by
    obtain ⟨v, e1, r⟩ := S.slots k sv e
    refine ⟨v, e1, ?_⟩
    cases sv with
    | val u => exact RV.le (q.le hH).toLeP r
    | own us =>
      obtain ⟨a, vs, rfl, n, ea, rv⟩ := r
      have ne : a ≠ p := fun z => by subst z; exact hns k n
      exact ⟨a, vs, rfl, by rw [Wd.put_ne ne]; exact n, by rw [hH a ne]; exact ea, rv.le (q.le hH).toLeP⟩
    | dic ks us =>
      obtain ⟨a, o, kv, vv, rfl, n, ea, ds, r1, r2⟩ := r
      have ne : a ≠ p := fun z => by subst z; exact hns k n
      exact ⟨a, o, kv, vv, rfl, by rw [Wd.put_ne ne]; exact n, by rw [hH a ne]; exact ea, ds, r1.le (q.le hH).toLeP, r2.le (q.le hH).toLeP⟩
/-- a new object, ours for the moment (or frozen) -/
theorem Sim.alloc (S : Sim K W env h σ H) (e : H p = none) (o : HO) (w' : Ow) : Sim K (W.put p (some w')) env h σ (upd H p o) ∧ LeW W H (W.put p (some w')) (upd H p o) := by
  have q : At W H p (some w') := At.new S.sh e
  have n : W.own p = none := by
    rcases q.ow with ⟨_, n⟩ | ⟨w, n, _⟩
    · exact n
    · obtain ⟨o, e'⟩ := S.sh.dom p w n
      rw [e] at e'; cases e'
  exact ⟨S.step q (fun i z => by rw [n] at z; cases z) (fun i z => by rw [n] at z; cases z) (fun a ne => upd_ne ne) ⟨o, upd_same⟩, q.le fun a ne => upd_ne ne⟩
/-- .. nobody's: a tuple -/
theorem LeW.none_ (S : SimH K W h H) (e : H p = none) (o : HO) : LeW W H W (upd H p o) where
  st := fun a u ea n => ⟨n, by rw [upd_ne (fun z => by subst z; rw [e] at ea; cases ea)]; exact ea⟩
  fr := fun a u ea n => ⟨n, .inl (by rw [upd_ne (fun z => by subst z; rw [e] at ea; cases ea)]; exact ea)⟩
  tp := fun a u ea => by rw [upd_ne (fun z => by subst z; rw [e] at ea; cases ea)]; exact ea
  fz := fun a u _ ea => by rw [upd_ne (fun z => by subst z; rw [e] at ea; cases ea)]; exact ea
  mp := ⟨[], by simp⟩
  ob := fun _ _ _ n => n
theorem SimH.none_ (S : SimH K W h H) (e : H p = none) (o : HO) : SimH K W h (upd H p o) where
  len := S.len
  objs := fun i ob eo => by
    obtain ⟨a, m, n, r⟩ := S.objs i ob eo
    obtain ⟨z, ez⟩ := S.dom a _ n
    have ne : a ≠ p := fun q => by subst q; rw [e] at ez; cases ez
    refine ⟨a, m, n, ?_⟩
    cases ob with
    | lst us =>
      obtain ⟨vs, e1, rv⟩ := r
      exact ⟨vs, by rw [upd_ne ne]; exact e1, rv.le (LeW.none_ S e o).toLeP⟩
  dom := fun a w ea => by
    by_cases z : a = p
    · subst z; exact ⟨o, upd_same⟩
    · rw [upd_ne z]; exact S.dom a w ea
theorem Sim.none_ (S : Sim K W env h σ H) (e : H p = none) (o : HO) : Sim K W env h σ (upd H p o) where
  sh := S.sh.none_ e o
  len := S.len
  slots := fun k sv es => by
    obtain ⟨v, e1, r⟩ := S.slots k sv es
    refine ⟨v, e1, ?_⟩
    cases sv with
    | val u => exact RV.le (LeW.none_ S.sh e o).toLeP r
    | own us =>
      obtain ⟨a, vs, rfl, n, ea, rv⟩ := r
      have ne : a ≠ p := fun q => by subst q; rw [e] at ea; cases ea
      exact ⟨a, vs, rfl, n, by rw [upd_ne ne]; exact ea, rv.le (LeW.none_ S.sh e o).toLeP⟩
    | dic ks us =>
      obtain ⟨a, o2, kv, vv, rfl, n, ea, ds, r1, r2⟩ := r
      have ne : a ≠ p := fun q => by subst q; rw [e] at ea; cases ea
      exact ⟨a, o2, kv, vv, rfl, n, by rw [upd_ne ne]; exact ea, ds, r1.le (LeW.none_ S.sh e o).toLeP, r2.le (LeW.none_ S.sh e o).toLeP⟩
theorem SimH.own_none (S : SimH K W h H) (e : H p = none) : W.own p = none := by
  cases q : W.own p with
  | none => rfl
  | some w =>
    obtain ⟨o, e'⟩ := S.dom p w q
    rw [e] at e'; cases e'
/-- what an expression gave becomes a frozen value -/
@[simp] def Sv.u : Sv → U
  | .val u => u
  | .own us => .lst us
  | .dic ks us => .dic ks us
theorem At.tmpO {o : HO} (e : W.own p = some .tmp) (l : H p = some o) (m : Mut (some o)) : At W H p (some w') := ⟨.inr ⟨_, e, fun z => by cases z⟩, .inr ⟨_, l, m⟩, fun i z => by rw [e] at z; cases z⟩
theorem At.slotO {k : Nat} {o : HO} (e : W.own p = some (.slot k)) (l : H p = some o) (m : Mut (some o)) : At W H p (some w') := ⟨.inr ⟨_, e, fun z => by cases z⟩, .inr ⟨_, l, m⟩, fun i z => by rw [e] at z; cases z⟩
theorem Sim.freeze (S : Sim K W env h σ H) {sv : Sv} {v : V} (r : RSv K W H .tmp sv v) : ∃ W', Sim K W' env h σ H ∧ LeW W H W' H ∧ RV K W' H sv.u v := by
  cases sv with
  | val u => exact ⟨W, S, .refl, r⟩
  | own us =>
    obtain ⟨a, vs, rfl, n, ea, rv⟩ := r
    have q : At W H a (some .frz) := .tmp n ea
    have l : LeW W H (W.put a (some .frz)) H := q.le fun _ _ => rfl
    refine ⟨_, S.step q (fun i z => by rw [n] at z; cases z) (fun i z => by rw [n] at z; cases z) (fun _ _ => rfl) ⟨_, ea⟩, l, ?_⟩
    exact .lst Wd.put_same ea (rv.le l.toLeP)
  | dic ks us =>
    obtain ⟨a, o, kv, vv, rfl, n, ea, ds, r1, r2⟩ := r
    have q : At W H a (some .frz) := .tmpO n ea ds.isD.mut
    have l : LeW W H (W.put a (some .frz)) H := q.le fun _ _ => rfl
    refine ⟨_, S.step q (fun i z => by rw [n] at z; cases z) (fun i z => by rw [n] at z; cases z) (fun _ _ => rfl) ⟨_, ea⟩, l, ?_⟩
    exact .dic (.inl ⟨Wd.put_same, ea⟩) ds (r1.le l.toLeP) (r2.le l.toLeP)
/-- a value is stored in a slot -/
theorem Sim.store (S : Sim K W env h σ H) {k : Nat} {u : U} {v : V} (hk : k < env.length) (r : RV K W H u v) : Sim K W (env.set k (some (.val u))) h (σ.set k (some v)) H where
  sh := S.sh
  len := by simpa using S.len
  slots := fun j sv e => by
    by_cases z : j = k
    · subst z
      rw [List.getElem?_set_self hk] at e
      cases e
      exact ⟨v, List.getElem?_set_self (by rw [← S.len]; exact hk), r⟩
    · rw [List.getElem?_set_ne (Ne.symm z)] at e
      rw [List.getElem?_set_ne (Ne.symm z)]
      exact S.slots j sv e
end
end Vi

/-! Vi2: programs over trees: what they ask (u..), and that they tell what the text does (we_.., wt_.., ws_..). -/
namespace Vi
open PySem PySem.Spec PyProof.Rows L2
variable [WW]

/-- where one stands: the written part, the classes' places by name, the wish about exceptions -/
structure Lx where
  K : PySem.W.Frag
  ga : Str → Addr
  wx : WX
abbrev UM (α : Type) := En → Hv → (α → En → Hv → Prop) → (Ex → En → Hv → Prop) → Prop
abbrev UE := UM Sv
abbrev UT := UM Bool
abbrev UA := UM (List U)
structure UD where
  nx : En → Hv → Prop
  rt : Sv → En → Hv → Prop
  er : Ex → En → Hv → Prop
  bk : En → Hv → Prop := fun _ _ => False
  ct : En → Hv → Prop := fun _ _ => False
abbrev US := En → Hv → UD → Prop

def ExR (K : PySem.W.Frag) (ga : Str → Addr) (W : Wd) (H : Hp) (ex : Ex) (cls : Value) (d : Option Addr) : Prop :=
  cls = .ref (ga ex.cls) ∧ (ex.arg = none → d = none) ∧ ∀ f u, ex.arg = some (f, u) → ∃ dd v, d = some dd ∧ H dd = some (.xd [(f, v)]) ∧ RV K W H u v
/-- what follows, for every world from here on -/
structure Cont {α β : Type} (L : Lx) (R : Wd → Hp → α → β → Prop) (W : Wd) (H : Hp) (σ : L2.St) (Po : α → En → Hv → Prop) (Pe : Ex → En → Hv → Prop) (Q : β → Hp → Prop) : Prop where
  ok : ∀ W' x env' h' y H', LeW W H W' H' → Sim L.K W' env' h' σ H' → R W' H' x y → Po x env' h' → Q y H'
  er : ∀ W' ex env' h' H' cls d, LeW W H W' H' → Sim L.K W' env' h' σ H' → ExR L.K L.ga W' H' ex cls d → Pe ex env' h' → L.wx cls d σ H'
theorem Cont.le {α β : Type} {L : Lx} {R : Wd → Hp → α → β → Prop} {W W1 : Wd} {H H1 : Hp} {σ : L2.St} {Po : α → En → Hv → Prop} {Pe : Ex → En → Hv → Prop} {Q : β → Hp → Prop} (c : Cont L R W H σ Po Pe Q) (l : LeW W H W1 H1) : Cont L R W1 H1 σ Po Pe Q :=
  ⟨fun W' x env' h' y H' l' => c.ok W' x env' h' y H' (l.trans l'), fun W' ex env' h' H' cls d l' => c.er W' ex env' h' H' cls d (l.trans l')⟩
def lg {α β : Type} (L : Lx) (R : Wd → Hp → α → β → Prop) (t : UM α) : L2.St → Hp → (β → Hp → Prop) → Prop := fun σ H Q =>
  ∃ W env h Po Pe, Sim L.K W env h σ H ∧ t env h Po Pe ∧ Cont L R W H σ Po Pe Q
abbrev RT (L : Lx) : Wd → Hp → Sv → V → Prop := fun W H sv v => RSv L.K W H .tmp sv v
abbrev RB : Wd → Hp → Bool → Bool → Prop := fun _ _ b c => b = c
abbrev RA (L : Lx) : Wd → Hp → List U → List V → Prop := fun W H us vs => RVs L.K W H us vs
def WE (X : Cx) (L : Lx) (e : Expr) (t : UE) : Prop := PE X e (lg L (RT L) t)
def WT (X : Cx) (L : Lx) (e : Expr) (t : UT) : Prop := PT X e (lg L RB t)
def WTw (X : Cx) (L : Lx) (e : Expr) (t : UT) : Prop := PW X e (lg L RB t)
def WA (X : Cx) (L : Lx) (es : List Expr) (t : UA) : Prop := PA X es (lg L (RA L) t)
/-- what follows a statement -/
structure SCont (L : Lx) (W : Wd) (H : Hp) (P : UD) (D : Ends) : Prop where
  nx : ∀ W' env' h' σ' H', LeW W H W' H' → Sim L.K W' env' h' σ' H' → P.nx env' h' → D.nx σ' H'
  bk : ∀ W' env' h' σ' H', LeW W H W' H' → Sim L.K W' env' h' σ' H' → P.bk env' h' → D.bk σ' H'
  ct : ∀ W' env' h' σ' H', LeW W H W' H' → Sim L.K W' env' h' σ' H' → P.ct env' h' → D.ct σ' H'
  rt : ∀ W' sv env' h' σ' v H', LeW W H W' H' → Sim L.K W' env' h' σ' H' → RSv L.K W' H' .tmp sv v → P.rt sv env' h' → D.rt v H'
  er : ∀ W' ex env' h' σ' H' cls d, LeW W H W' H' → Sim L.K W' env' h' σ' H' → ExR L.K L.ga W' H' ex cls d → P.er ex env' h' → L.wx cls d σ' H'
theorem SCont.le {L : Lx} {W W1 : Wd} {H H1 : Hp} {P : UD} {D : Ends} (c : SCont L W H P D) (l : LeW W H W1 H1) : SCont L W1 H1 P D :=
  ⟨fun W' env' h' σ' H' l' => c.nx W' env' h' σ' H' (l.trans l'), fun W' env' h' σ' H' l' => c.bk W' env' h' σ' H' (l.trans l'), fun W' env' h' σ' H' l' => c.ct W' env' h' σ' H' (l.trans l'),
   fun W' sv env' h' σ' v H' l' => c.rt W' sv env' h' σ' v H' (l.trans l'), fun W' ex env' h' σ' H' cls d l' => c.er W' ex env' h' σ' H' cls d (l.trans l')⟩
def ls (L : Lx) (t : US) : TS := fun D σ H => ∃ W env h P, Sim L.K W env h σ H ∧ t env h P ∧ SCont L W H P D
def WS (X : Cx) (L : Lx) (s : Stmt) (t : US) : Prop := PS X s (ls L t)
def WSs (X : Cx) (L : Lx) (s : List Stmt) (t : US) : Prop := PSs X s (ls L t)

section
variable {X : Cx}
theorem PE.wk {e : Expr} {t t' : TE} (h : PE X e t) (w : ∀ σ H Q, t' σ H Q → t σ H Q) : PE X e t' := ⟨fun pins s σ H Q I q => h.run pins s σ H Q I (w _ _ _ q)⟩
theorem PT.wk {e : Expr} {t t' : TT} (h : PT X e t) (w : ∀ σ H Q, t' σ H Q → t σ H Q) : PT X e t' := ⟨fun pins s σ H Q I q => h.run pins s σ H Q I (w _ _ _ q)⟩
theorem PW.wk {e : Expr} {t t' : TT} (h : PW X e t) (w : ∀ σ H Q, t' σ H Q → t σ H Q) : PW X e t' := ⟨fun wh pins s σ H Q I q => h.run wh pins s σ H Q I (w _ _ _ q)⟩
theorem PA.wk {e : List Expr} {t t' : TA} (h : PA X e t) (w : ∀ σ H Q, t' σ H Q → t σ H Q) : PA X e t' := ⟨fun p pins s σ H Q I q => h.run p pins s σ H Q I (w _ _ _ q)⟩
theorem PS.wk {e : Stmt} {t t' : TS} (h : PS X e t) (w : ∀ D σ H, t' D σ H → t D σ H) : PS X e t' := ⟨fun pins s σ H D I q => h.run pins s σ H D I (w _ _ _ q)⟩
theorem PSs.wk {e : List Stmt} {t t' : TS} (h : PSs X e t) (w : ∀ D σ H, t' D σ H → t D σ H) : PSs X e t' := ⟨fun pins s σ H D I q => h.run pins s σ H D I (w _ _ _ q)⟩
end

/-! ### names and constants -/
@[simp] def uVal (u : U) : UE := fun env h Po _ => Po (.val u) env h
@[simp] def uVar (k : Nat) : UE := fun env h Po _ => match env[k]? with
  | some (some (.val u)) => Po (.val u) env h
  | some (some (.own us)) => Po (.val (.lst us)) (env.set k (some (.val (.lst us)))) h
  | some (some (.dic ks us)) => Po (.val (.dic ks us)) (env.set k (some (.val (.dic ks us)))) h
  | _ => False
section
variable {X : Cx} {L : Lx} {pos : Pos}
theorem Sim.thaw {K : PySem.W.Frag} {W : Wd} {env : En} {h : Hv} {σ : L2.St} {H : Hp} (S : Sim K W env h σ H) {k : Nat} {us : List U} (e : env[k]? = some (some (.own us))) :
    ∃ W' v, Sim K W' (env.set k (some (.val (.lst us)))) h σ H ∧ LeW W H W' H ∧ σ[k]? = some (some v) ∧ RV K W' H (.lst us) v := by
  obtain ⟨v, e1, a, vs, rfl, n, ea, rv⟩ := S.slots k _ e
  have q : At W H a (some .frz) := .slot n ea
  have l : LeW W H (W.put a (some .frz)) H := q.le fun _ _ => rfl
  have hk : k < env.length := (List.getElem?_eq_some_iff.mp e).1
  have r : RV K (W.put a (some .frz)) H (.lst us) (.ref a) := .lst Wd.put_same ea (rv.le l.toLeP)
  refine ⟨_, _, ⟨S.sh.step q (fun i z => by rw [n] at z; cases z) (fun _ _ => rfl) ⟨_, ea⟩, by simpa using S.len, fun j sv ej => ?_⟩, l, e1, r⟩
  by_cases z : j = k
  · subst z
    rw [List.getElem?_set_self hk] at ej
    cases ej
    exact ⟨_, e1, r⟩
  · rw [List.getElem?_set_ne (Ne.symm z)] at ej
    obtain ⟨v, e2, r2⟩ := S.slots j sv ej
    refine ⟨v, e2, ?_⟩
    cases sv with
    | val u => exact RV.le l.toLeP r2
    | own us2 =>
      obtain ⟨a2, vs2, rfl, n2, ea2, rv2⟩ := r2
      have ne : a2 ≠ a := fun q => by
        subst q
        rw [n] at n2
        cases n2
        exact z rfl
      exact ⟨a2, vs2, rfl, by rw [Wd.put_ne ne]; exact n2, ea2, rv2.le l.toLeP⟩
    | dic ks2 us2 =>
      obtain ⟨a2, o2, kv2, vv2, rfl, n2, ea2, ds2, r3, r4⟩ := r2
      have ne : a2 ≠ a := fun q => by
        subst q
        rw [n] at n2
        cases n2
        exact z rfl
      exact ⟨a2, o2, kv2, vv2, rfl, by rw [Wd.put_ne ne]; exact n2, ea2, ds2, r3.le l.toLeP, r4.le l.toLeP⟩
theorem Sim.thawD {K : PySem.W.Frag} {W : Wd} {env : En} {h : Hv} {σ : L2.St} {H : Hp} (S : Sim K W env h σ H) {k : Nat} {ks us : List U} (e : env[k]? = some (some (.dic ks us))) :
    ∃ W' v, Sim K W' (env.set k (some (.val (.dic ks us)))) h σ H ∧ LeW W H W' H ∧ σ[k]? = some (some v) ∧ RV K W' H (.dic ks us) v := by
  obtain ⟨v, e1, a, o, kv, vv, rfl, n, ea, ds, rk, rv⟩ := S.slots k _ e
  have q : At W H a (some .frz) := .slotO n ea ds.isD.mut
  have l : LeW W H (W.put a (some .frz)) H := q.le fun _ _ => rfl
  have hk : k < env.length := (List.getElem?_eq_some_iff.mp e).1
  have r : RV K (W.put a (some .frz)) H (.dic ks us) (.ref a) := .dic (.inl ⟨Wd.put_same, ea⟩) ds (rk.le l.toLeP) (rv.le l.toLeP)
  refine ⟨_, _, ⟨S.sh.step q (fun i z => by rw [n] at z; cases z) (fun _ _ => rfl) ⟨_, ea⟩, by simpa using S.len, fun j sv ej => ?_⟩, l, e1, r⟩
  by_cases z : j = k
  · subst z
    rw [List.getElem?_set_self hk] at ej
    cases ej
    exact ⟨_, e1, r⟩
  · rw [List.getElem?_set_ne (Ne.symm z)] at ej
    obtain ⟨v, e2, r2⟩ := S.slots j sv ej
    refine ⟨v, e2, ?_⟩
    cases sv with
    | val u => exact RV.le l.toLeP r2
    | own us2 =>
      obtain ⟨a2, vs2, rfl, n2, ea2, rv2⟩ := r2
      have ne : a2 ≠ a := fun q => by
        subst q
        rw [n] at n2
        cases n2
        exact z rfl
      exact ⟨a2, vs2, rfl, by rw [Wd.put_ne ne]; exact n2, ea2, rv2.le l.toLeP⟩
    | dic ks2 us2 =>
      obtain ⟨a2, o2, kv2, vv2, rfl, n2, ea2, ds2, r3, r4⟩ := r2
      have ne : a2 ≠ a := fun q => by
        subst q
        rw [n] at n2
        cases n2
        exact z rfl
      exact ⟨a2, o2, kv2, vv2, rfl, by rw [Wd.put_ne ne]; exact n2, ea2, ds2, r3.le l.toLeP, r4.le l.toLeP⟩
theorem we_var {k : Nat} {x : Str} (h : PE X (.Name x pos) (tVar k)) : WE X L (.Name x pos) (uVar k) := by
  refine PE.wk h fun σ H Q ⟨W, env, h, Po, Pe, S, ht, c⟩ => ?_
  unfold uVar at ht
  split at ht
  · rename_i u e
    obtain ⟨v, e1, r⟩ := S.slots k _ e
    exact ⟨v, e1, c.ok W (.val u) env h v H .refl S r ht⟩
  · rename_i us e
    obtain ⟨W', v, S', l, e1, r⟩ := S.thaw e
    exact ⟨v, e1, c.ok W' _ _ h v H l S' (show RSv L.K W' H .tmp (.val (.lst us)) v from r) ht⟩
  · rename_i ks us e
    obtain ⟨W', v, S', l, e1, r⟩ := S.thawD e
    exact ⟨v, e1, c.ok W' _ _ h v H l S' (show RSv L.K W' H .tmp (.val (.dic ks us)) v from r) ht⟩
  · exact ht.elim
theorem we_const {e : Expr} {u : U} {v : V} (h : PE X e (tC v)) (r : ∀ W H, RV L.K W H u v) : WE X L e (uVal u) :=
  PE.wk h fun σ H Q ⟨W, env, h, Po, Pe, S, ht, c⟩ => c.ok W (.val u) env h v H .refl S (r W H) ht
theorem we_int {i : Int} {j : Nat} : WE X L (.Constant (.int i) j pos) (uVal (.int i)) := we_const pe_int fun _ _ => .int i
theorem we_str {i : Str} {j : Nat} : WE X L (.Constant (.str i) j pos) (uVal (.str i)) := we_const pe_str fun _ _ => .str i
theorem we_bl {i : Bool} {j : Nat} : WE X L (.Constant (.bool i) j pos) (uVal (.bl i)) := we_const pe_bl fun _ _ => .bl i
theorem we_non {j : Nat} : WE X L (.Constant .none j pos) (uVal .non) := we_const pe_non fun _ _ => .non
end

/-! ### operators by values -/
abbrev UB := List U → Hv → (Sv → Hv → Prop) → Prop
abbrev UO := U → U → Hv → (Sv → Hv → Prop) → Prop
/-- what follows an operation -/
abbrev OCont (K : PySem.W.Frag) (W : Wd) (H : Hp) (env : En) (σ : L2.St) (P : Sv → Hv → Prop) (Q : VK) : Prop :=
  ∀ W' sv h' v H', LeW W H W' H' → Sim K W' env h' σ H' → RSv K W' H' .tmp sv v → P sv h' → Q v H'
def lo (K : PySem.W.Frag) (f : UO) : R2 := fun x y H Q => ∃ W env h σ u w P, Sim K W env h σ H ∧ RV K W H u x ∧ RV K W H w y ∧ f u w h P ∧ OCont K W H env σ P Q
def lb (K : PySem.W.Frag) (f : UB) : List V → Hp → VK → Prop := fun xs H Q => ∃ W env h σ us P, Sim K W env h σ H ∧ RVs K W H us xs ∧ f us h P ∧ OCont K W H env σ P Q
@[simp] def uBin (f : UO) (a b : UE) : UE := fun env h Po Pe => a env h (fun x env1 h1 => b env1 h1 (fun y env2 h2 => f x.u y.u h2 (fun sv h3 => Po sv env2 h3)) Pe) Pe
section
variable {X : Cx} {L : Lx} {pos : Pos} {a b : Expr} {ta tb : UE} {f : UO}
/-- two operands, then an operation by values -/
theorem lg_bin {σ : L2.St} {H : Hp} {Q : VK} (h : lg L (RT L) (uBin f ta tb) σ H Q) : tOp (lo L.K f) (lg L (RT L) ta) (lg L (RT L) tb) σ H Q := by
  obtain ⟨W, env, h, Po, Pe, S, ht, c⟩ := h
  refine ⟨W, env, h, _, _, S, ht, ⟨fun W1 x env1 h1 v1 H1 l1 S1 r1 q1 => ?_, c.er⟩⟩
  obtain ⟨W1', S1', l1', rv1⟩ := S1.freeze r1
  have c1 := c.le (l1.trans l1')
  refine ⟨W1', env1, h1, _, _, S1', q1, ⟨fun W2 y env2 h2 v2 H2 l2 S2 r2 q2 => ?_, c1.er⟩⟩
  obtain ⟨W2', S2', l2', rv2⟩ := S2.freeze r2
  have c2 := c1.le (l2.trans l2')
  exact ⟨W2', env2, h2, σ, x.u, y.u, _, S2', rv1.le (l2.trans l2').toLeP, rv2, q2, fun W3 sv h3 v3 H3 l3 S3 r3 q3 => c2.ok W3 sv env2 h3 v3 H3 l3 S3 r3 q3⟩
theorem we_bin {op : Operator} (ho : OpR X (binaryOp op) (lo L.K f)) (ha : WE X L a ta) (hb : WE X L b tb) : WE X L (.BinOp a op b pos) (uBin f ta tb) :=
  PE.wk (pe_op ho ha hb) fun _ _ _ => lg_bin
theorem we_cmp {op : CmpOp} (ho : OpR X (compareOp op) (lo L.K f)) (ha : WE X L a ta) (hb : WE X L b tb) (hm : behindInMarks op b = false) : WE X L (.Compare a [op] [b] pos) (uBin f ta tb) :=
  PE.wk (pe_cmpR ho ha hb hm) fun _ _ _ => lg_bin
theorem we_ix (ho : IxR X (lo L.K f)) (ha : WE X L a ta) (hb : WE X L b tb) (hs : PlainIx b) : WE X L (.Subscript a b pos) (uBin f ta tb) :=
  PE.wk (pe_ix ho ha hb hs) fun _ _ _ => lg_bin
end

/-! ### tests -/
@[simp] def svB : Sv → (Bool → Prop) → Prop
  | .val (.bl b), P => P b
  | _, _ => False
/-- a value that is True or False, as a test -/
@[simp] def uB (t : UE) : UT := fun env h Po Pe => t env h (fun sv env1 h1 => svB sv fun b => Po b env1 h1) Pe
section
variable {X : Cx} {L : Lx} {pos : Pos} {a b : Expr} {ta tb : UE} {f : UO} {A B : UT} {rest : List Expr}
theorem svB.at_ {K : PySem.W.Frag} {W : Wd} {H : Hp} {sv : Sv} {v : V} {P : Bool → Prop} (h : svB sv P) (r : RSv K W H .tmp sv v) : ∃ b, v = .bl b ∧ P b := by
  cases sv with
  | own us => exact h.elim
  | dic _ _ => exact h.elim
  | val u =>
    cases u with
    | bl b =>
      have r' : RV K W H (.bl b) v := r
      cases r'
      exact ⟨b, rfl, h⟩
    | _ => exact h.elim
theorem lg_B {t : UE} {σ : L2.St} {H : Hp} {Q : Bool → Hp → Prop} (h : lg L RB (uB t) σ H Q) : lg L (RT L) t σ H fun x H1 => ∃ c, x = .bl c ∧ Q c H1 := by
  obtain ⟨W, env, h, Po, Pe, S, ht, c⟩ := h
  refine ⟨W, env, h, _, _, S, ht, ⟨fun W1 x env1 h1 v1 H1 l1 S1 r1 q1 => ?_, c.er⟩⟩
  obtain ⟨b, rfl, q⟩ := q1.at_ r1
  exact ⟨b, rfl, c.ok W1 b env1 h1 b H1 l1 S1 rfl q⟩
theorem wt_val {e : Expr} {t : UE} (h : WE X L e t) (he : ∀ whole, isTrue e X.env whole = (do let v ← whole; standAt e.pos; holding [v] (truthy v)) := by intro _; rfl) : WT X L e (uB t) :=
  PT.wk (pt_val h he) fun _ _ _ => lg_B
theorem wt_cmp {op : CmpOp} (ho : OpR X (compareOp op) (lo L.K f)) (ha : WE X L a ta) (hb : WE X L b tb) (hm : behindInMarks op b = false) : WT X L (.Compare a [op] [b] pos) (uB (uBin f ta tb)) :=
  PT.wk (pt_cmpR ho ha hb hm) fun _ _ _ h => lg_bin (lg_B h)
@[simp] def uAnd (t u : UT) : UT := fun env h Po Pe => t env h (fun c env1 h1 => if c = true then u env1 h1 Po Pe else Po false env1 h1) Pe
@[simp] def uOr (t u : UT) : UT := fun env h Po Pe => t env h (fun c env1 h1 => if c = true then Po true env1 h1 else u env1 h1 Po Pe) Pe
@[simp] def uNot (t : UT) : UT := fun env h Po Pe => t env h (fun c env1 h1 => Po (!c) env1 h1) Pe
theorem wt_and1 (ha : WT X L a A) : WTw X L (.BoolOp .And [a] pos) A := pw_and1 ha
theorem wt_or1 (ha : WT X L a A) : WTw X L (.BoolOp .Or [a] pos) A := pw_or1 ha
theorem wt_and (ha : WT X L a A) (hb : WTw X L (.BoolOp .And (b :: rest) pos) B) : WTw X L (.BoolOp .And (a :: b :: rest) pos) (uAnd A B) := by
  refine PW.wk (pw_and ha hb) fun σ H Q ⟨W, env, h, Po, Pe, S, ht, c⟩ => ?_
  refine ⟨W, env, h, _, _, S, ht, ⟨fun W1 x env1 h1 y H1 l1 S1 r1 q1 => ?_, c.er⟩⟩
  cases r1
  cases x with
  | true => exact ⟨W1, env1, h1, Po, Pe, S1, q1, c.le l1⟩
  | false => exact c.ok W1 false env1 h1 false H1 l1 S1 rfl q1
theorem wt_or (ha : WT X L a A) (hb : WTw X L (.BoolOp .Or (b :: rest) pos) B) : WTw X L (.BoolOp .Or (a :: b :: rest) pos) (uOr A B) := by
  refine PW.wk (pw_or ha hb) fun σ H Q ⟨W, env, h, Po, Pe, S, ht, c⟩ => ?_
  refine ⟨W, env, h, _, _, S, ht, ⟨fun W1 x env1 h1 y H1 l1 S1 r1 q1 => ?_, c.er⟩⟩
  cases r1
  cases x with
  | false => exact ⟨W1, env1, h1, Po, Pe, S1, q1, c.le l1⟩
  | true => exact c.ok W1 true env1 h1 true H1 l1 S1 rfl q1
theorem wt_bool {e : Expr} (h : WTw X L e A) : WT X L e A := PW.pt h
theorem wt_not (ha : WT X L a A) : WT X L (.UnaryOp .Not a pos) (uNot A) := by
  refine PT.wk (pt_not ha) fun σ H Q ⟨W, env, h, Po, Pe, S, ht, c⟩ => ?_
  refine ⟨W, env, h, _, _, S, ht, ⟨fun W1 x env1 h1 y H1 l1 S1 r1 q1 => ?_, c.er⟩⟩
  cases r1
  exact c.ok W1 (!x) env1 h1 _ H1 l1 S1 rfl q1
/-- and, or, not as values that are True or False -/
@[simp] def uV (t : UT) : UE := fun env h Po Pe => t env h (fun c env1 h1 => Po (.val (.bl c)) env1 h1) Pe
theorem we_one {op : BoolOp} {t : UE} (h : WE X L a t) : WE X L (.BoolOp op [a] pos) (uV (uB t)) := by
  refine PE.wk (pe_one h) fun σ H Q ⟨W, env, h, Po, Pe, S, ht, c⟩ => ?_
  refine ⟨W, env, h, _, _, S, ht, ⟨fun W1 x env1 h1 y H1 l1 S1 r1 q1 => ?_, c.er⟩⟩
  obtain ⟨b, rfl, q⟩ := q1.at_ r1
  exact c.ok W1 (.val (.bl b)) env1 h1 _ H1 l1 S1 (.bl b) q
theorem lg_V {e : Expr} {t : UT} {σ : L2.St} {H : Hp} {Q : VK} (h : lg L (RT L) (uV t) σ H Q) : lg L RB t σ H fun c H1 => Q (.bl c) H1 := by
  obtain ⟨W, env, h, Po, Pe, S, ht, c⟩ := h
  refine ⟨W, env, h, _, _, S, ht, ⟨fun W1 x env1 h1 y H1 l1 S1 r1 q1 => ?_, c.er⟩⟩
  cases r1
  exact c.ok W1 (.val (.bl x)) env1 h1 _ H1 l1 S1 (.bl x) q1
theorem we_and {t : UE} (ha : WE X L a t) (hb : WE X L (.BoolOp .And (b :: rest) pos) (uV B)) : WE X L (.BoolOp .And (a :: b :: rest) pos) (uV (uAnd (uB t) B)) := by
  refine PE.wk (pe_and ha hb) fun σ H Q ⟨W, env, h, Po, Pe, S, ht, c⟩ => ?_
  refine ⟨W, env, h, _, _, S, ht, ⟨fun W1 x env1 h1 y H1 l1 S1 r1 q1 => ?_, c.er⟩⟩
  obtain ⟨k, rfl, q⟩ := q1.at_ r1
  refine ⟨k, rfl, ?_⟩
  cases k with
  | true => exact ⟨W1, env1, h1, Po, Pe, S1, q, c.le l1⟩
  | false => exact c.ok W1 (.val (.bl false)) env1 h1 _ H1 l1 S1 (.bl false) q
theorem we_or {t : UE} (ha : WE X L a t) (hb : WE X L (.BoolOp .Or (b :: rest) pos) (uV B)) : WE X L (.BoolOp .Or (a :: b :: rest) pos) (uV (uOr (uB t) B)) := by
  refine PE.wk (pe_or ha hb) fun σ H Q ⟨W, env, h, Po, Pe, S, ht, c⟩ => ?_
  refine ⟨W, env, h, _, _, S, ht, ⟨fun W1 x env1 h1 y H1 l1 S1 r1 q1 => ?_, c.er⟩⟩
  obtain ⟨k, rfl, q⟩ := q1.at_ r1
  refine ⟨k, rfl, ?_⟩
  cases k with
  | false => exact ⟨W1, env1, h1, Po, Pe, S1, q, c.le l1⟩
  | true => exact c.ok W1 (.val (.bl true)) env1 h1 _ H1 l1 S1 (.bl true) q
theorem we_not {t : UE} (ha : WE X L a t) : WE X L (.UnaryOp .Not a pos) (uV (uNot (uB t))) := by
  refine PE.wk (pe_not ha) fun σ H Q ⟨W, env, h, Po, Pe, S, ht, c⟩ => ?_
  refine ⟨W, env, h, _, _, S, ht, ⟨fun W1 x env1 h1 y H1 l1 S1 r1 q1 => ?_, c.er⟩⟩
  obtain ⟨k, rfl, q⟩ := q1.at_ r1
  exact ⟨k, rfl, c.ok W1 (.val (.bl (!k))) env1 h1 _ H1 l1 S1 (.bl _) q⟩
@[simp] def uIfE (t : UT) (x y : UE) : UE := fun env h Po Pe => t env h (fun c env1 h1 => if c = true then x env1 h1 Po Pe else y env1 h1 Po Pe) Pe
theorem we_ifE {c : Expr} (hc : WT X L c A) (ha : WE X L a ta) (hb : WE X L b tb) : WE X L (.IfExp c a b pos) (uIfE A ta tb) := by
  refine PE.wk (pe_ifExp hc ha hb) fun σ H Q ⟨W, env, h, Po, Pe, S, ht, c⟩ => ?_
  refine ⟨W, env, h, _, _, S, ht, ⟨fun W1 x env1 h1 y H1 l1 S1 r1 q1 => ?_, c.er⟩⟩
  cases r1
  cases x with
  | true => exact ⟨W1, env1, h1, Po, Pe, S1, q1, c.le l1⟩
  | false => exact ⟨W1, env1, h1, Po, Pe, S1, q1, c.le l1⟩
end

/-! ### several expressions; displays; calls of what is built in -/
@[simp] def uNil : UA := fun env h Po _ => Po [] env h
@[simp] def uCons (t : UE) (r : UA) : UA := fun env h Po Pe => t env h (fun x env1 h1 => r env1 h1 (fun xs env2 h2 => Po (x.u :: xs) env2 h2) Pe) Pe
@[simp] def uApp (f : UB) (t : UA) : UE := fun env h Po Pe => t env h (fun us env1 h1 => f us h1 fun sv h2 => Po sv env1 h2) Pe
@[simp] def bTup : UB := fun us h P => us.length ≤ sizeLine ∧ P (.val (.tup us)) h
@[simp] def bLst : UB := fun us h P => us.length ≤ sizeLine ∧ P (.own us) h
section
variable {X : Cx} {L : Lx} {pos : Pos} {e : Expr} {es : List Expr} {t : UE} {r : UA} {f : UB}
theorem wa_nil : WA X L [] uNil := PA.wk pa_nil fun σ H Q ⟨W, env, h, Po, Pe, S, ht, c⟩ => c.ok W [] env h [] H .refl S .nil ht
theorem wa_cons (ha : WE X L e t) (hr : WA X L es r) (hs : starEach (e :: es) X.env = (false, eval e X.env) :: starEach es X.env := by rfl) : WA X L (e :: es) (uCons t r) := by
  refine PA.wk (pa_cons ha hr hs) fun σ H Q ⟨W, env, h, Po, Pe, S, ht, c⟩ => ?_
  refine ⟨W, env, h, _, _, S, ht, ⟨fun W1 x env1 h1 v1 H1 l1 S1 r1 q1 => ?_, c.er⟩⟩
  obtain ⟨W1', S1', l1', rv1⟩ := S1.freeze r1
  have c1 := c.le (l1.trans l1')
  exact ⟨W1', env1, h1, _, _, S1', q1, ⟨fun W2 xs env2 h2 vs H2 l2 S2 r2 q2 => c1.ok W2 _ env2 h2 _ H2 l2 S2 (.cons (rv1.le l2.toLeP) r2) q2, c1.er⟩⟩
theorem lg_app {σ : L2.St} {H : Hp} {Q : VK} (h : lg L (RT L) (uApp f r) σ H Q) : lg L (RA L) r σ H fun vs H1 => lb L.K f vs H1 Q := by
  obtain ⟨W, env, h, Po, Pe, S, ht, c⟩ := h
  refine ⟨W, env, h, _, _, S, ht, ⟨fun W1 us env1 h1 vs H1 l1 S1 r1 q1 => ?_, c.er⟩⟩
  exact ⟨W1, env1, h1, σ, us, _, S1, r1, q1, fun W2 sv h2 v2 H2 l2 S2 r2 q2 => (c.le l1).ok W2 sv env1 h2 v2 H2 l2 S2 r2 q2⟩
theorem we_tup {k : Nat} (hr : WA X L es r) : WE X L (.Tuple es k pos) (uApp bTup r) := by
  refine PE.wk (pe_tupF hr) fun σ H Q h => ?_
  obtain ⟨W, env, h, Po, Pe, S, ht, c⟩ := h
  refine ⟨W, env, h, _, _, S, ht, ⟨fun W1 us env1 h1 vs H1 l1 S1 r1 q1 => ?_, c.er⟩⟩
  refine ⟨by rw [← r1.length]; exact q1.1, fun p ob hp hd => ?_⟩
  have l2 := LeW.none_ S1.sh hp (.frz ob (.tup vs))
  exact c.ok W1 (.val (.tup us)) env1 h1 _ _ (l1.trans l2) (S1.none_ hp _) (.tup (.inl ⟨ob, hd, upd_same⟩) (r1.le l2.toLeP)) q1.2
theorem we_lst (hr : WA X L es r) : WE X L (.List es pos) (uApp bLst r) := by
  refine PE.wk (pe_lst hr) fun σ H Q h => ?_
  obtain ⟨W, env, h, Po, Pe, S, ht, c⟩ := h
  refine ⟨W, env, h, _, _, S, ht, ⟨fun W1 us env1 h1 vs H1 l1 S1 r1 q1 => ?_, c.er⟩⟩
  refine ⟨by rw [← r1.length]; exact q1.1, fun p hp => ?_⟩
  obtain ⟨S2, l2⟩ := S1.alloc hp (.lst vs) .tmp
  exact c.ok _ (.own us) env1 h1 _ _ (l1.trans l2) S2 ⟨p, vs, rfl, Wd.put_same, upd_same, r1.le l2.toLeP⟩ q1.2
theorem we_callB {id : String} {x : Str} {p : Pos} (hc : CallR X (.builtin id) (lb L.K f)) (hg : Gl X x) (hm : X.mg x = none) (hv : bootBuiltins x = some (.builtin id)) (ha : WA X L (e :: es) r) (hn : x ≠ "__name__" := by decide) (hdb : (x == ("__debug__" : Str)) = false := by decide)
    (he : starEach (e :: es) X.env = (false, eval e X.env) :: starEach es X.env := by rfl) (hpl : (backTo pos (starEach es X.env)).any (·.1) = false := by rfl) : WE X L (.Call (.Name x p) (e :: es) [] pos) (uApp f r) :=
  PE.wk (pe_callB hc hg hm hv ha hn hdb he hpl) fun _ _ _ h => lg_app h
theorem we_callTy {T : String} {x : Str} {p : Pos} (hc : CallR X (.type T) (lb L.K f)) (hg : Gl X x) (hm : X.mg x = none) (hv : bootBuiltins x = some (.type T)) (ha : WA X L (e :: es) r) (hn : x ≠ "__name__" := by decide) (hdb : (x == ("__debug__" : Str)) = false := by decide)
    (he : starEach (e :: es) X.env = (false, eval e X.env) :: starEach es X.env := by rfl) (hpl : (backTo pos (starEach es X.env)).any (·.1) = false := by rfl) : WE X L (.Call (.Name x p) (e :: es) [] pos) (uApp f r) :=
  PE.wk (pe_callTy hc hg hm hv ha hn hdb he hpl) fun _ _ _ h => lg_app h
end

/-! ### statements -/
@[simp] def uNext : US := fun env h P => P.nx env h
@[simp] def uSeq (t u : US) : US := fun env h P => t env h { P with nx := fun env1 h1 => u env1 h1 P }
@[simp] def uBreak : US := fun env h P => P.bk env h
@[simp] def uCont : US := fun env h P => P.ct env h
@[simp] def uDrop (t : UE) : US := fun env h P => t env h (fun _ env1 h1 => P.nx env1 h1) P.er
@[simp] def uRet (t : UE) : US := fun env h P => t env h P.rt P.er
@[simp] def uRetN : US := fun env h P => P.rt (.val .non) env h
@[simp] def uIf (c : UT) (t u : US) : US := fun env h P => c env h (fun b env1 h1 => if b = true then t env1 h1 P else u env1 h1 P) P.er
/-- name = value, frozen | as it comes | as a shared list -/
@[simp] def uSet (k : Nat) (t : UE) : US := fun env h P => t env h (fun sv env1 h1 => k < env1.length ∧ P.nx (env1.set k (some (.val sv.u))) h1) P.er
@[simp] def uSetO (k : Nat) (t : UE) : US := fun env h P => t env h (fun sv env1 h1 => k < env1.length ∧ P.nx (env1.set k (some sv)) h1) P.er
@[simp] def uSetR (k : Nat) (t : UE) : US := fun env h P => t env h (fun sv env1 h1 => match sv with
  | .own us => k < env1.length ∧ P.nx (env1.set k (some (.val (.ref h1.length)))) (h1 ++ [.lst us])
  | _ => False) P.er
section
variable {X : Cx} {L : Lx} {pos : Pos} {st : Stmt} {rest : List Stmt} {t u : US} {e : Expr} {te : UE}
theorem SCont.ret {W : Wd} {H : Hp} {P : UD} {D : Ends} (c : SCont L W H P D) {σ : L2.St} : Cont L (RT L) W H σ P.rt P.er D.rt :=
  ⟨fun W' x env' h' y H' l S r q => c.rt W' x env' h' σ y H' l S r q, fun W' ex env' h' H' cls d l S r q => c.er W' ex env' h' σ H' cls d l S r q⟩
theorem wss_nil : WSs X L [] uNext := PSs.wk pss_nil fun D σ H ⟨W, env, h, P, S, ht, c⟩ => c.nx W env h σ H .refl S ht
theorem wss_cons (h1 : WS X L st t) (h2 : WSs X L rest u) : WSs X L (st :: rest) (uSeq t u) := by
  refine PSs.wk (pss_cons h1 h2) fun D σ H ⟨W, env, h, P, S, ht, c⟩ => ?_
  exact ⟨W, env, h, _, S, ht, ⟨fun W' env' h' σ' H' l S' q => ⟨W', env', h', P, S', q, c.le l⟩, c.bk, c.ct, c.rt, c.er⟩⟩
theorem wss_one (h1 : WS X L st t) : WSs X L [st] t := pss_one h1
theorem ws_pass : WS X L (.Pass pos) uNext := PS.wk ps_pass fun D σ H ⟨W, env, h, P, S, ht, c⟩ => c.nx W env h σ H .refl S ht
theorem ws_break : WS X L (.Break pos) uBreak := PS.wk ps_break fun D σ H ⟨W, env, h, P, S, ht, c⟩ => c.bk W env h σ H .refl S ht
theorem ws_continue : WS X L (.Continue pos) uCont := PS.wk ps_continue fun D σ H ⟨W, env, h, P, S, ht, c⟩ => c.ct W env h σ H .refl S ht
theorem ws_expr (he : WE X L e te) (hs : swapsWith e none pos.line X.env = pure false := by rfl) : WS X L (.Expr e pos) (uDrop te) := by
  refine PS.wk (ps_expr he hs) fun D σ H ⟨W, env, h, P, S, ht, c⟩ => ?_
  exact ⟨W, env, h, _, _, S, ht, ⟨fun W1 x env1 h1 y H1 l1 S1 r1 q1 => c.nx W1 env1 h1 σ H1 l1 S1 q1, c.ret.er⟩⟩
theorem ws_ret (he : WE X L e te) : WS X L (.Return (some e) pos) (uRet te) := by
  refine PS.wk (ps_ret he) fun D σ H ⟨W, env, h, P, S, ht, c⟩ => ?_
  exact ⟨W, env, h, _, _, S, ht, c.ret⟩
theorem ws_retN : WS X L (.Return none pos) uRetN := PS.wk ps_retN fun D σ H ⟨W, env, h, P, S, ht, c⟩ => c.rt W (.val .non) env h σ .non H .refl S (show RV L.K W H .non .non from .non) ht
theorem ws_if {c : Expr} {a b : List Stmt} {tc : UT} (hc : WT X L c tc) (ha : WSs X L a t) (hb : WSs X L b u) : WS X L (.If c a b pos) (uIf tc t u) := by
  refine PS.wk (ps_if hc ha hb) fun D σ H ⟨W, env, h, P, S, ht, c⟩ => ?_
  refine ⟨W, env, h, _, _, S, ht, ⟨fun W1 x env1 h1 y H1 l1 S1 r1 q1 => ?_, c.ret.er⟩⟩
  cases r1
  cases x with
  | true => exact ⟨W1, env1, h1, P, S1, q1, c.le l1⟩
  | false => exact ⟨W1, env1, h1, P, S1, q1, c.le l1⟩
theorem ws_set {k : Nat} {x : Str} {pos' : Pos} (hp : PS X (.Assign [.Name x pos'] e pos) (tAsg (lg L (RT L) te) (gName k))) : WS X L (.Assign [.Name x pos'] e pos) (uSet k te) := by
  refine PS.wk hp fun D σ H ⟨W, env, h, P, S, ht, c⟩ => ?_
  refine ⟨W, env, h, _, _, S, ht, ⟨fun W1 x env1 h1 y H1 l1 S1 r1 q1 => ?_, c.ret.er⟩⟩
  obtain ⟨W1', S1', l1', rv1⟩ := S1.freeze r1
  exact c.nx W1' _ h1 _ H1 (l1.trans l1') (S1'.store q1.1 rv1) q1.2
theorem Sim.storeO {K : PySem.W.Frag} {W : Wd} {env : En} {h : Hv} {σ : L2.St} {H : Hp} (S : Sim K W env h σ H) {k : Nat} {us : List U} {v : V} (hk : k < env.length) (r : RSv K W H .tmp (.own us) v) :
    ∃ W', Sim K W' (env.set k (some (.own us))) h (σ.set k (some v)) H ∧ LeW W H W' H := by
  obtain ⟨a, vs, rfl, n, ea, rv⟩ := r
  have q : At W H a (some (.slot k)) := .tmp n ea
  have l : LeW W H (W.put a (some (.slot k))) H := q.le fun _ _ => rfl
  have S1 := S.step q (fun i z => by rw [n] at z; cases z) (fun i z => by rw [n] at z; cases z) (fun _ _ => rfl) ⟨_, ea⟩
  refine ⟨_, ⟨S1.sh, by simpa using S.len, fun j sv e => ?_⟩, l⟩
  by_cases z : j = k
  · subst z
    rw [List.getElem?_set_self hk] at e
    cases e
    exact ⟨_, List.getElem?_set_self (by rw [← S.len]; exact hk), a, vs, rfl, Wd.put_same, ea, rv.le l.toLeP⟩
  · rw [List.getElem?_set_ne (Ne.symm z)] at e
    rw [List.getElem?_set_ne (Ne.symm z)]
    exact S1.slots j sv e
theorem Sim.storeD {K : PySem.W.Frag} {W : Wd} {env : En} {h : Hv} {σ : L2.St} {H : Hp} (S : Sim K W env h σ H) {k : Nat} {ks us : List U} {v : V} (hk : k < env.length) (r : RSv K W H .tmp (.dic ks us) v) :
    ∃ W', Sim K W' (env.set k (some (.dic ks us))) h (σ.set k (some v)) H ∧ LeW W H W' H := by
  obtain ⟨a, o, kv, vv, rfl, n, ea, ds, rk, rv⟩ := r
  have q : At W H a (some (.slot k)) := .tmpO n ea ds.isD.mut
  have l : LeW W H (W.put a (some (.slot k))) H := q.le fun _ _ => rfl
  have S1 := S.step q (fun i z => by rw [n] at z; cases z) (fun i z => by rw [n] at z; cases z) (fun _ _ => rfl) ⟨_, ea⟩
  refine ⟨_, ⟨S1.sh, by simpa using S.len, fun j sv e => ?_⟩, l⟩
  by_cases z : j = k
  · subst z
    rw [List.getElem?_set_self hk] at e
    cases e
    exact ⟨_, List.getElem?_set_self (by rw [← S.len]; exact hk), a, o, kv, vv, rfl, Wd.put_same, ea, ds, rk.le l.toLeP, rv.le l.toLeP⟩
  · rw [List.getElem?_set_ne (Ne.symm z)] at e
    rw [List.getElem?_set_ne (Ne.symm z)]
    exact S1.slots j sv e
theorem ws_setO {k : Nat} {x : Str} {pos' : Pos} (hp : PS X (.Assign [.Name x pos'] e pos) (tAsg (lg L (RT L) te) (gName k))) : WS X L (.Assign [.Name x pos'] e pos) (uSetO k te) := by
  refine PS.wk hp fun D σ H ⟨W, env, h, P, S, ht, c⟩ => ?_
  refine ⟨W, env, h, _, _, S, ht, ⟨fun W1 sv env1 h1 y H1 l1 S1 r1 q1 => ?_, c.ret.er⟩⟩
  cases sv with
  | val u => exact c.nx W1 _ h1 _ H1 l1 (S1.store q1.1 r1) q1.2
  | own us =>
    obtain ⟨W2, S2, l2⟩ := S1.storeO q1.1 r1
    exact c.nx W2 _ h1 _ H1 (l1.trans l2) S2 q1.2
  | dic ks us =>
    obtain ⟨W2, S2, l2⟩ := S1.storeD q1.1 r1
    exact c.nx W2 _ h1 _ H1 (l1.trans l2) S2 q1.2
/-- a list of one's own becomes a shared object -/
theorem Sim.share {K : PySem.W.Frag} {W : Wd} {env : En} {h : Hv} {σ : L2.St} {H : Hp} (S : Sim K W env h σ H) {us : List U} {v : V} (r : RSv K W H .tmp (.own us) v) :
    ∃ W', Sim K W' env (h ++ [.lst us]) σ H ∧ LeW W H W' H ∧ RV K W' H (.ref h.length) v := by
  obtain ⟨a, vs, rfl, n, ea, rv⟩ := r
  have hne : ∀ b w, W.own b = some w → w ≠ .tmp → b ≠ a := fun b w e z q => by subst q; rw [n] at e; cases e; exact z rfl
  have own : ∀ b, b ≠ a → (⟨fun b => if b = a then some (.obj h.length) else W.own b, W.mp ++ [a]⟩ : Wd).own b = W.own b := fun b ne => if_neg ne
  have l : LeW W H ⟨fun b => if b = a then some (.obj h.length) else W.own b, W.mp ++ [a]⟩ H := by
    refine ⟨⟨fun b o e f => ⟨?_, .inl e⟩, fun _ _ e => e, fun _ _ _ e => e, ⟨[a], rfl⟩, fun i b m f => ?_⟩, fun b o e f => ⟨?_, e⟩⟩
    · rw [own b (hne b _ f (by intro z; cases z))]; exact f
    · rw [own b (hne b _ f (by intro z; cases z))]; exact f
    · rw [own b (fun q => by subst q; rw [n] at f; cases f)]; exact f
  have RVl : ∀ {us vs}, RVs K W H us vs → RVs K ⟨fun b => if b = a then some (.obj h.length) else W.own b, W.mp ++ [a]⟩ H us vs := fun r => r.le l.toLeP
  refine ⟨_, ⟨⟨?_, fun i o e => ?_, fun b w e => ?_⟩, S.len, fun k sv e => ?_⟩, l, .ref (i := h.length) ?_ (if_pos rfl)⟩
  · simp [S.sh.len]
  · by_cases z : i < h.length
    · rw [List.getElem?_append_left z] at e
      obtain ⟨b, m, nb, ro⟩ := S.sh.objs i o e
      refine ⟨b, l.at_ m, l.ob i b m nb, ?_⟩
      cases o with
      | lst us' =>
        obtain ⟨vs', e1, r1⟩ := ro
        exact ⟨vs', e1, RVl r1⟩
    · have hi : i = h.length := by
        have := (List.getElem?_eq_some_iff.mp e).1
        simp at this
        omega
      subst hi
      have eo : o = .lst us := by simpa using e.symm
      subst eo
      refine ⟨a, ?_, if_pos rfl, vs, ea, RVl rv⟩
      rw [← S.sh.len]
      simp
  · by_cases z : b = a
    · subst z; exact ⟨_, ea⟩
    · rw [own b z] at e
      exact S.sh.dom b w e
  · obtain ⟨v, e1, r1⟩ := S.slots k sv e
    refine ⟨v, e1, ?_⟩
    cases sv with
    | val u => exact RV.le l.toLeP r1
    | own us2 =>
      obtain ⟨b, vs2, rfl, nb, eb, rb⟩ := r1
      exact ⟨b, vs2, rfl, by rw [own b (hne b _ nb (by intro z; cases z))]; exact nb, eb, RVl rb⟩
    | dic ks2 us2 =>
      obtain ⟨b, o2, kv2, vv2, rfl, nb, eb, ds2, r3, r4⟩ := r1
      exact ⟨b, o2, kv2, vv2, rfl, by rw [own b (hne b _ nb (by intro z; cases z))]; exact nb, eb, ds2, RVl r3, RVl r4⟩
  · rw [← S.sh.len]
    simp
theorem ws_setR {k : Nat} {x : Str} {pos' : Pos} (hp : PS X (.Assign [.Name x pos'] e pos) (tAsg (lg L (RT L) te) (gName k))) : WS X L (.Assign [.Name x pos'] e pos) (uSetR k te) := by
  refine PS.wk hp fun D σ H ⟨W, env, h, P, S, ht, c⟩ => ?_
  refine ⟨W, env, h, _, _, S, ht, ⟨fun W1 sv env1 h1 y H1 l1 S1 r1 q1 => ?_, c.ret.er⟩⟩
  cases sv with
  | val u => exact q1.elim
  | dic _ _ => exact q1.elim
  | own us =>
    obtain ⟨W2, S2, l2, r2⟩ := S1.share r1
    exact c.nx W2 _ _ _ H1 (l1.trans l2) (S2.store q1.1 r2) q1.2
end
end Vi

/-! Vi3: targets, loops, comprehensions, calls of defs, a def's promise. -/
namespace Vi
open PySem PySem.Spec PyProof.Rows L2
variable [WW]

/-! ### targets -/
abbrev UG := U → En → Hv → (En → Hv → Prop) → Prop
/-- alike but at the places ks -/
def SameOff (ks : List Nat) (σ σ' : L2.St) : Prop := σ.length = σ'.length ∧ ∀ j, j ∉ ks → σ[j]? = σ'[j]?
theorem SameOff.refl {ks : List Nat} {σ : L2.St} : SameOff ks σ σ := ⟨rfl, fun _ _ => rfl⟩
theorem SameOff.trans {ks : List Nat} {σ σ1 σ2 : L2.St} (a : SameOff ks σ σ1) (b : SameOff ks σ1 σ2) : SameOff ks σ σ2 := ⟨a.1.trans b.1, fun j h => (a.2 j h).trans (b.2 j h)⟩
theorem SameOff.set {ks : List Nat} {σ : L2.St} {k : Nat} {x : Option V} (h : k ∈ ks) : SameOff ks σ (σ.set k x) := ⟨by simp, fun j hj => by
  have ne : k ≠ j := fun z => by subst z; exact hj h
  rw [List.getElem?_set_ne ne]⟩
def lgG (L : Lx) (ks : List Nat) (g : UG) : TG := fun v σ H Q => ∃ W env h u P, Sim L.K W env h σ H ∧ RV L.K W H u v ∧ g u env h P ∧ ∀ env' h' σ', Sim L.K W env' h' σ' H → SameOff ks σ σ' → P env' h' → Q σ' H
def WG (X : Cx) (L : Lx) (tg : Expr) (ks : List Nat) (g : UG) : Prop := PG X tg (lgG L ks g)
@[simp] def gN (k : Nat) : UG := fun u env h Q => k < env.length ∧ Q (env.set k (some (.val u))) h
@[simp] def setsU : List Nat → List U → En → Hv → (En → Hv → Prop) → Prop
  | [], [], env, h, Q => Q env h
  | k :: ks, u :: us, env, h, Q => k < env.length ∧ setsU ks us (env.set k (some (.val u))) h Q
  | _, _, _, _, _ => False
@[simp] def gT (ks : List Nat) : UG := fun u env h Q => match u with
  | .tup us => setsU ks us env h Q
  | _ => False
theorem PG.wk {X : Cx} {e : Expr} {t t' : TG} (h : PG X e t) (w : ∀ v σ H Q, t' v σ H Q → t v σ H Q) : PG X e t' := ⟨fun pins s σ H v u Q I r q => h.run pins s σ H v u Q I r (w _ _ _ _ q)⟩
section
variable {X : Cx} {L : Lx} {pos : Pos}
theorem wg_name {k : Nat} {x : Str} (h : PG X (.Name x pos) (gName k)) : WG X L (.Name x pos) [k] (gN k) := by
  refine PG.wk h fun v σ H Q ⟨W, env, h, u, P, S, r, ht, c⟩ => ?_
  exact c _ h _ (S.store ht.1 r) (.set (by simp)) ht.2
/-- the slots of names, from the left -/
def gNames : List Nat → TGs
  | [] => gNil
  | k :: ks => gCons (gName k) (gNames ks)
theorem sets_ok {K : PySem.W.Frag} {W : Wd} {all : List Nat} : ∀ {ks : List Nat} {us : List U} {vs : List V} {env : En} {h : Hv} {σ : L2.St} {H : Hp} {P : En → Hv → Prop} {Q : L2.St → Hp → Prop}, (∀ k ∈ ks, k ∈ all) → Sim K W env h σ H → RVs K W H us vs → setsU ks us env h P →
    (∀ env' h' σ', Sim K W env' h' σ' H → SameOff all σ σ' → P env' h' → Q σ' H) → gNames ks vs σ H Q
  | [], [], _, _, _, _, _, _, _, _, S, .nil, ht, c => ⟨rfl, c _ _ _ S .refl ht⟩
  | k :: ks, u :: us, _, _, _, _, _, _, _, hk, S, .cons r rs, ht, c => ⟨_, _, rfl, sets_ok (fun j hj => hk j (List.mem_cons_of_mem _ hj)) (S.store ht.1 r) rs ht.2 fun env' h' σ' S' o q => c env' h' σ' S' ((SameOff.set (hk k (List.mem_cons_self ..))).trans o) q⟩
  | [], _ :: _, _, _, _, _, _, _, _, _, _, _, ht, _ => ht.elim
  | _ :: _, [], _, _, _, _, _, _, _, _, _, _, ht, _ => ht.elim
theorem setsU_len {ks : List Nat} {us : List U} {env : En} {h : Hv} {P : En → Hv → Prop} (ht : setsU ks us env h P) : us.length = ks.length := by
  induction ks generalizing us env with
  | nil =>
    cases us with
    | nil => rfl
    | cons u us => exact ht.elim
  | cons k ks ih =>
    cases us with
    | nil => exact ht.elim
    | cons u us => exact congrArg Nat.succ (ih ht.2)
theorem wg_tup {es : List Expr} {j : Nat} {ks : List Nat} (hc : X.calm = true) (hK : L.K = X.K) (h : PGs X es (gNames ks)) (hn : (assignEach es X.env).length = ks.length := by rfl) (hst : (assignEach es X.env).findIdx? (·.1) = none := by rfl) : WG X L (.Tuple es j pos) ks (gT ks) := by
  refine PG.wk (pg_tup (n := ks.length) hc h hn hst) fun v σ H Q ⟨W, env, h, u, P, S, r, ht, c⟩ => ?_
  cases u with
  | tup us =>
    cases r with
    | tup hq rs => exact ⟨_, _, rfl, hK ▸ hq.sq, by rw [← rs.length]; exact setsU_len ht, sets_ok (fun _ z => z) S rs ht c⟩
  | _ => exact ht.elim
end
@[simp] def uAsg (g : UG) (t : UE) : US := fun env h P => t env h (fun sv env1 h1 => g sv.u env1 h1 P.nx) P.er
theorem ws_asg {X : Cx} {L : Lx} {pos : Pos} {tg e : Expr} {te : UE} {ks : List Nat} {g : UG} (he : WE X L e te) (hg : WG X L tg ks g) (hs : swapsWithSole [tg] e pos.line X.env = pure false := by rfl) (hw : swappedStores [tg] e X.env = pure none := by rfl)
    (h1 : (assignEach [tg] X.env).map (·.2) = [assign tg X.env] := by rfl) : WS X L (.Assign [tg] e pos) (uAsg g te) := by
  refine PS.wk (ps_asg he hg hs hw h1) fun D σ H ⟨W, env, h, P, S, ht, c⟩ => ?_
  refine ⟨W, env, h, _, _, S, ht, ⟨fun W1 x env1 h1 y H1 l1 S1 r1 q1 => ?_, c.ret.er⟩⟩
  obtain ⟨W1', S1', l1', rv1⟩ := S1.freeze r1
  exact ⟨W1', env1, h1, x.u, _, S1', rv1, q1, fun env' h' σ' S' _ q => c.nx W1' env' h' σ' H1 (l1.trans l1') S' q⟩

/-! ### what is walked -/
/-- J walks the items us, whatever comes behind -/
def Wk (K : PySem.W.Frag) (W : Wd) (H : Hp) (us : List U) (J : It) : Prop := ∀ W' H', LeW W H W' H' → ∀ i,
  (us.length ≤ i → J.stop i H') ∧ (∀ u, us[i]? = some u → J.go i H' ∧ ∀ x H'', J.yld i H' x H'' → LeW W' H' W' H'' ∧ (∀ env h σ, Sim K W' env h σ H' → Sim K W' env h σ H'') ∧ RV K W' H'' u x)
def WI (X : Cx) (L : Lx) (tg iter : Expr) (t : UM (List U)) : Prop := PI X tg iter (lg L (Wk L.K) t)
theorem PI.wk {X : Cx} {tg e : Expr} {t t' : TI} (h : PI X tg e t) (w : ∀ σ H Q, t' σ H Q → t σ H Q) : PI X tg e t' := ⟨fun pins s σ H Q I q => h.run pins s σ H Q I (w _ _ _ q)⟩
section
variable {X : Cx} {L : Lx} {pos : Pos} {tg : Expr}
/-- a list or a tuple -/
theorem pi_any {l : Expr} {tl : TE} (hl : PE X l tl) : PI X tg l (fun σ H R => tl σ H fun x H1 => ∃ a, x = .ref a ∧ (((∃ xs, SqL X.K H1 a xs) ∧ R (Itl X.K a) H1) ∨ ((∃ xs, SqT X.K H1 a xs) ∧ R (Itt X.K a) H1))) := by
  refine ⟨fun pins s σ H R I h => ?_⟩
  refine thn (hl.run pins s σ H _ I h) fun v s1 ⟨x, H1, I1, r1, q1⟩ => ?_
  obtain ⟨a, e, q1⟩ := q1
  subst e
  cases r1
  rcases q1 with ⟨⟨xs, hq⟩, q⟩ | ⟨⟨xs, hq⟩, q⟩
  · obtain ⟨its, rv, p, hz⟩ := I1.list hq
    refine wpAny_pyIter_list p.isList ?_
    refine ⟨s1.heap.objs.size, [s1.heap.objs.size], _, _, H1, rfl, I1.kept (t' := s1.toks) fun b o e => Heap.get?_push_of_some _ e, turn_list a _, ⟨_, Heap.get?_push_size _ rfl, rfl, rfl⟩, fun b hb => ?_, q⟩
    have e : b = s1.heap.objs.size := by simpa using hb
    subst e
    exact I1.fpOk (Nat.le_refl _) (I1.hok.fresh (Nat.le_refl _))
  · obtain ⟨its, rv, p, hz⟩ := I1.tuple hq
    refine wpAny_pyIter_tuple (show s1.heap.IsTuple a its.toArray from p) ?_
    refine ⟨s1.heap.objs.size, [s1.heap.objs.size], _, _, H1, rfl, I1.kept (t' := s1.toks) fun b o e => Heap.get?_push_of_some _ e, turn_tuple a _, ⟨_, Heap.get?_push_size _ rfl, rfl, rfl⟩, fun b hb => ?_, q⟩
    have e : b = s1.heap.objs.size := by simpa using hb
    subst e
    exact I1.fpOk (Nat.le_refl _) (I1.hok.fresh (Nat.le_refl _))
/-- the items of a list or tuple -/
@[simp] def itemsU : U → (List U → Prop) → Prop
  | .lst us, P => P us
  | .tup us, P => P us
  | .scr ns, P => P (ns.map U.int)
  | _, _ => False
@[simp] def uItems (t : UE) : UM (List U) := fun env h Po Pe => t env h (fun sv env1 h1 => itemsU sv.u fun us => Po us env1 h1) Pe
theorem RVs.ints {K : PySem.W.Frag} {W : Wd} {H : Hp} : ∀ ns : List Int, RVs K W H (ns.map U.int) (ns.map V.int)
  | [] => .nil
  | n :: ns => .cons (.int n) (RVs.ints ns)
theorem wk_list {K : PySem.W.Frag} {W : Wd} {H : Hp} {us : List U} {vs : List V} {a : Addr} (st : ∀ W' H', LeW W H W' H' → SqL K H' a vs) (r : RVs K W H us vs) : Wk K W H us (Itl K a) := fun W' H' l i => by
  have h1 := st W' H' l
  refine ⟨fun hi => ⟨vs, h1, by rw [← r.length]; exact hi⟩, fun u e => ?_⟩
  obtain ⟨v, ev, rv⟩ := r.get e
  refine ⟨⟨vs, v, h1, ev⟩, fun x H'' ⟨e1, e2⟩ => ?_⟩
  subst e1
  have ex := e2 vs h1
  rw [ev] at ex
  cases ex
  exact ⟨.refl, fun _ _ _ S => S, rv.le l.toLeP⟩
theorem wk_tup {K : PySem.W.Frag} {W : Wd} {H : Hp} {us : List U} {vs : List V} {a : Addr} (st : ∀ W' H', LeW W H W' H' → SqT K H' a vs) (r : RVs K W H us vs) : Wk K W H us (Itt K a) := fun W' H' l i => by
  have h1 := st W' H' l
  refine ⟨fun hi => ⟨vs, h1, by rw [← r.length]; exact hi⟩, fun u e => ?_⟩
  obtain ⟨v, ev, rv⟩ := r.get e
  refine ⟨⟨vs, v, h1, ev⟩, fun x H'' ⟨e1, e2⟩ => ?_⟩
  subst e1
  have ex := e2 vs h1
  rw [ev] at ex
  cases ex
  exact ⟨.refl, fun _ _ _ S => S, rv.le l.toLeP⟩
theorem wi_any {l : Expr} {t : UE} (hK : L.K = X.K) (hl : WE X L l t) : WI X L tg l (uItems t) := by
  refine PI.wk (pi_any hl) fun σ H R ⟨W, env, h, Po, Pe, S, ht, c⟩ => ?_
  refine ⟨W, env, h, _, _, S, ht, ⟨fun W1 sv env1 h1 v1 H1 l1 S1 r1 q1 => ?_, c.er⟩⟩
  obtain ⟨W1', S1', l1', rv1⟩ := S1.freeze r1
  generalize sv.u = u at rv1 q1
  rw [← hK]
  cases rv1 with
  | lst n e rs => exact ⟨_, rfl, .inl ⟨⟨_, .inl (.inl e)⟩, c.ok W1' _ env1 h1 _ H1 (l1.trans l1') S1' (wk_list (fun W' H' l => .inl (.inl (l.frl e n).2)) rs) q1⟩⟩
  | tup e rs => exact ⟨_, rfl, .inr ⟨⟨_, e.sq⟩, c.ok W1' _ env1 h1 _ H1 (l1.trans l1') S1' (wk_tup (fun W' H' l => (e.le l.toLeP).sq) rs) q1⟩⟩
  | scr e => exact ⟨_, rfl, .inl ⟨⟨_, e.sq⟩, c.ok W1' _ env1 h1 _ H1 (l1.trans l1') S1' (wk_list (fun W' H' l => (e.le l.toLeP).sq) (RVs.ints _)) q1⟩⟩
  | _ => exact q1.elim
/-- range(n), range(a, b) -/
def rangeU (lo : Int) (n : Nat) : List U := (List.range n).map fun (k : Nat) => U.int (lo + k)
@[simp] def bRange1 : List U → (List U → Prop) → Prop
  | [.int j], P => -(2 ^ 62) ≤ j ∧ j < 2 ^ 62 ∧ P (rangeU 0 j.toNat)
  | _, _ => False
@[simp] def bRange2 : List U → (List U → Prop) → Prop
  | [.int i, .int j], P => (-(2 ^ 62) ≤ i ∧ i < 2 ^ 62 ∧ -(2 ^ 62) ≤ j ∧ j < 2 ^ 62) ∧ P (rangeU i (j - i).toNat)
  | _, _ => False
@[simp] def uIter (f : List U → (List U → Prop) → Prop) (t : UA) : UM (List U) := fun env h Po Pe => t env h (fun us env1 h1 => f us fun xs => Po xs env1 h1) Pe
theorem wk_range {K : PySem.W.Frag} {W : Wd} {H : Hp} {lo : Int} {n : Nat} : Wk K W H (rangeU lo n) (Itr lo n) := fun W' H' l i => by
  unfold rangeU
  refine ⟨fun hi => show n ≤ i by simpa using hi, fun u e => ?_⟩
  have hi : i < n := by
    have := (List.getElem?_eq_some_iff.mp e).1
    simpa using this
  have eu : u = U.int (lo + i) := by
    rw [List.getElem?_map, List.getElem?_range hi] at e
    exact (Option.some.inj e).symm
  subst eu
  refine ⟨hi, fun x H'' ⟨e1, e2⟩ => ?_⟩
  subst e1 e2
  exact ⟨.refl, fun _ _ _ S => S, .int _⟩
theorem RVs.one {K : PySem.W.Frag} {W : Wd} {H : Hp} {u : U} {vs : List V} (r : RVs K W H [u] vs) : ∃ v, vs = [v] ∧ RV K W H u v := by
  cases r with
  | cons a b =>
    cases b
    exact ⟨_, rfl, a⟩
theorem RVs.two {K : PySem.W.Frag} {W : Wd} {H : Hp} {u w : U} {vs : List V} (r : RVs K W H [u, w] vs) : ∃ v x, vs = [v, x] ∧ RV K W H u v ∧ RV K W H w x := by
  cases r with
  | cons a b =>
    obtain ⟨x, rfl, c⟩ := RVs.one b
    exact ⟨_, x, rfl, a, c⟩
theorem RV.int_ {K : PySem.W.Frag} {W : Wd} {H : Hp} {i : Int} {v : V} (r : RV K W H (.int i) v) : v = .int i := by cases r; rfl
theorem RV.str_ {K : PySem.W.Frag} {W : Wd} {H : Hp} {i : Str} {v : V} (r : RV K W H (.str i) v) : v = .str i := by cases r; rfl
theorem RV.bl_ {K : PySem.W.Frag} {W : Wd} {H : Hp} {i : Bool} {v : V} (r : RV K W H (.bl i) v) : v = .bl i := by cases r; rfl
theorem RV.non_ {K : PySem.W.Frag} {W : Wd} {H : Hp} {v : V} (r : RV K W H .non v) : v = .non := by cases r; rfl
theorem wi_range1 {a : Expr} {ta : UA} {p : Pos} (hg : Gl X "range") (hm : X.mg "range" = none) (ha : WA X L [a] ta) (hs : starEach [a] X.env = [(false, eval a X.env)] := by rfl) : WI X L tg (.Call (.Name "range" p) [a] [] pos) (uIter bRange1 ta) := by
  refine PI.wk (pi_range1 hg hm ha hs) fun σ H R ⟨W, env, h, Po, Pe, S, ht, c⟩ => ?_
  refine ⟨W, env, h, _, _, S, ht, ⟨fun W1 us env1 h1 vs H1 l1 S1 r1 q1 => ?_, c.er⟩⟩
  unfold bRange1 at q1
  split at q1
  · obtain ⟨v, rfl, r⟩ := RVs.one r1
    cases r.int_
    exact ⟨_, rfl, q1.1, q1.2.1, c.ok W1 _ env1 h1 _ H1 l1 S1 wk_range q1.2.2⟩
  · exact q1.elim
theorem wi_range2 {a b : Expr} {ta : UA} {p : Pos} (hg : Gl X "range") (hm : X.mg "range" = none) (ha : WA X L [a, b] ta) (hs : starEach [a, b] X.env = [(false, eval a X.env), (false, eval b X.env)] := by rfl) (hs2 : starEach [b] X.env = [(false, eval b X.env)] := by rfl) :
    WI X L tg (.Call (.Name "range" p) [a, b] [] pos) (uIter bRange2 ta) := by
  refine PI.wk (pi_range2 hg hm ha hs hs2) fun σ H R ⟨W, env, h, Po, Pe, S, ht, c⟩ => ?_
  refine ⟨W, env, h, _, _, S, ht, ⟨fun W1 us env1 h1 vs H1 l1 S1 r1 q1 => ?_, c.er⟩⟩
  unfold bRange2 at q1
  split at q1
  · obtain ⟨v, w, rfl, r, r'⟩ := RVs.two r1
    cases r.int_
    cases r'.int_
    exact ⟨_, _, rfl, q1.1, c.ok W1 _ env1 h1 _ H1 l1 S1 wk_range q1.2⟩
  · exact q1.elim
end

/-! ### for, while -/
def forU (g : UG) (b : US) (P : UD) : List U → En → Hv → Prop
  | [], env, h => P.nx env h
  | u :: us, env, h => g u env h fun env1 h1 => b env1 h1 { nx := forU g b P us, rt := P.rt, er := P.er, bk := P.nx, ct := forU g b P us }
@[simp] def uFor (ti : UM (List U)) (g : UG) (b : US) : US := fun env h P => ti env h (fun us env1 h1 => forU g b P us env1 h1) P.er
def whileU (c : UT) (b : US) (P : UD) : Nat → En → Hv → Prop
  | 0, _, _ => False
  | n + 1, env, h => c env h (fun t env1 h1 => if t = true then b env1 h1 { nx := whileU c b P n, rt := P.rt, er := P.er, bk := P.nx, ct := whileU c b P n } else P.nx env1 h1) P.er
def uWhile (c : UT) (b : US) : US := fun env h P => ∃ n, whileU c b P n env h
section
variable {X : Cx} {L : Lx} {pos : Pos} {tg : Expr}
theorem ws_for {iter : Expr} {body : List Stmt} {ti : UM (List U)} {ks : List Nat} {g : UG} {b : US} (hp : PassesOwn (model X.prog X.w) X.A X.env X.xe) (hc : X.calm = true) (hi : WI X L tg iter ti) (hg : WG X L tg ks g) (hb : WSs X L body b)
    (hs : ∀ x, foldedSetIterable iter X.env x = pure x := by intro _; rfl) : WS X L (.For tg iter body [] pos) (uFor ti g b) := by
  refine PS.wk (ps_for hp hc hi hg hb hs) fun D σ H ⟨W, env, h, P, S, ht, c⟩ => ?_
  refine ⟨W, env, h, _, _, S, ht, ⟨fun W1 us env1 h1 J H1 l1 S1 wk q1 => ?_, c.ret.er⟩⟩
  refine ⟨fun i m σ' H' => m = us.length - i ∧ i ≤ us.length ∧ ∃ W' env' h', LeW W1 H1 W' H' ∧ Sim L.K W' env' h' σ' H' ∧ forU g b P (us.drop i) env' h', ⟨us.length, by simp, Nat.zero_le _, W1, env1, h1, .refl, S1, q1⟩, ?_⟩
  rintro i m σ' H' ⟨rfl, hi, W', env', h', l', S', q'⟩
  by_cases hlt : i < us.length
  · obtain ⟨go, yl⟩ := (wk W' H' l' i).2 us[i] (by simp [hlt])
    refine .inr ⟨go, fun σ2 H2 => ∃ W2 env2 h2, LeW W1 H1 W2 H2 ∧ Sim L.K W2 env2 h2 σ2 H2 ∧ forU g b P (us.drop (i + 1)) env2 h2, fun σ2 H2 ⟨W2, env2, h2, l2, S2, q2⟩ => ⟨us.length - (i + 1), by omega, rfl, hlt, W2, env2, h2, l2, S2, q2⟩, fun x H2 y => ?_⟩
    obtain ⟨l2, S2, rv⟩ := yl x H2 y
    rw [List.drop_eq_getElem_cons hlt] at q'
    refine ⟨W', env', h', _, _, S2 _ _ _ S', rv, q', fun env3 h3 σ3 S3 _ q3 => ?_⟩
    have l3 : LeW W H W' H2 := (l1.trans l').trans l2
    exact ⟨W', env3, h3, _, S3, q3, ⟨fun W4 env4 h4 σ4 H4 l4 S4 q4 => ⟨W4, env4, h4, (l'.trans l2).trans l4, S4, q4⟩, fun W4 env4 h4 σ4 H4 l4 S4 q4 => c.nx W4 env4 h4 σ4 H4 (l3.trans l4) S4 q4,
      fun W4 env4 h4 σ4 H4 l4 S4 q4 => ⟨W4, env4, h4, (l'.trans l2).trans l4, S4, q4⟩, (c.le l3).rt, (c.le l3).er⟩⟩
  · have e : i = us.length := by omega
    subst e
    refine .inl ⟨(wk W' H' l' _).1 (Nat.le_refl _), ?_⟩
    rw [List.drop_length] at q'
    exact c.nx W' env' h' σ' H' (l1.trans l') S' q'
theorem ws_while {t : Expr} {body : List Stmt} {tt : UT} {b : US} (hp : PassesOwn (model X.prog X.w) X.A X.env X.xe) (hc : WT X L t tt) (hb : WSs X L body b) : WS X L (.While t body [] pos) (uWhile tt b) := by
  refine PS.wk (ps_while hp hc hb) fun D σ H ⟨W, env, h, P, S, ⟨n, ht⟩, c⟩ => ?_
  refine ⟨fun m σ' H' => ∃ W' env' h', LeW W H W' H' ∧ Sim L.K W' env' h' σ' H' ∧ whileU tt b P m env' h', ⟨n, W, env, h, .refl, S, ht⟩, ?_⟩
  rintro m σ' H' ⟨W', env', h', l', S', q'⟩
  cases m with
  | zero => exact q'.elim
  | succ m =>
    refine ⟨W', env', h', _, _, S', q', ⟨fun W1 x env1 h1 y H1 l1 S1 r1 q1 => ?_, (c.le l').ret.er⟩⟩
    cases r1
    cases x with
    | false => exact c.nx W1 env1 h1 σ' H1 (l'.trans l1) S1 q1
    | true =>
      refine ⟨fun σ2 H2 => ∃ W2 env2 h2, LeW W H W2 H2 ∧ Sim L.K W2 env2 h2 σ2 H2 ∧ whileU tt b P m env2 h2, fun σ2 H2 z => ⟨m, Nat.lt_succ_self m, z⟩, ?_⟩
      have l2 := l'.trans l1
      exact ⟨W1, env1, h1, _, S1, q1, ⟨fun W4 env4 h4 σ4 H4 l4 S4 q4 => ⟨W4, env4, h4, l2.trans l4, S4, q4⟩, fun W4 env4 h4 σ4 H4 l4 S4 q4 => c.nx W4 env4 h4 σ4 H4 (l2.trans l4) S4 q4,
        fun W4 env4 h4 σ4 H4 l4 S4 q4 => ⟨W4, env4, h4, l2.trans l4, S4, q4⟩, (c.le l2).rt, (c.le l2).er⟩⟩
end

/-! ### a def's promise -/
abbrev FS := List U → Hv → (Sv → Hv → Prop) → (Ex → Hv → Prop) → Prop
structure FCont (K : PySem.W.Frag) (ga : Str → Addr) (W : Wd) (H : Hp) (Po : Sv → Hv → Prop) (Pe : Ex → Hv → Prop) (Q : VK) (E : XK) : Prop where
  ok : ∀ W' sv h' v H', LeW W H W' H' → SimH K W' h' H' → RSv K W' H' .tmp sv v → Po sv h' → Q v H'
  er : ∀ W' ex h' H' cls d, LeW W H W' H' → SimH K W' h' H' → ExR K ga W' H' ex cls d → Pe ex h' → E cls d H'
def spF (K : PySem.W.Frag) (ga : Str → Addr) (n : Nat) (f : FS) : Sp := fun vs H Q E => vs.length = n ∧ ∃ W us h Po Pe, SimH K W h H ∧ (∀ a k, W.own a ≠ some (Ow.slot k)) ∧ RVs K W H us vs ∧ f us h Po Pe ∧ FCont K ga W H Po Pe Q E
def Wd.clean (W : Wd) : Wd := ⟨fun a => match W.own a with
  | some (.slot _) => none
  | some .tmp => none
  | o => o, W.mp⟩
/-- the caller's slots given back -/
def Wd.back (W W1 : Wd) : Wd := ⟨fun a => match W.own a with
  | some (.slot k) => some (.slot k)
  | _ => (match W1.own a with
    | some (.slot _) => none
    | o => o), W1.mp⟩
section
variable {K : PySem.W.Frag} {W W1 : Wd} {H H1 : Hp} {h h1 : Hv} {env : En} {σ : L2.St}
theorem clean_frz {a : Addr} : W.clean.own a = some .frz ↔ W.own a = some .frz := by
  unfold Wd.clean
  show (match W.own a with | some (.slot _) => none | some .tmp => none | o => o) = _ ↔ _
  split <;> simp_all
theorem clean_obj {a : Addr} {i : Nat} : W.clean.own a = some (.obj i) ↔ W.own a = some (.obj i) := by
  show (match W.own a with | some (.slot _) => none | some .tmp => none | o => o) = _ ↔ _
  split <;> simp_all
theorem clean_none {a : Addr} (e : W.own a = none) : W.clean.own a = none := by
  show (match W.own a with | some (.slot _) => none | some .tmp => none | o => o) = _
  rw [e]
theorem clean_slot {a : Addr} {k : Nat} (e : W.own a = some (.slot k)) : W.clean.own a = none := by
  show (match W.own a with | some (.slot _) => none | some .tmp => none | o => o) = _
  rw [e]
theorem LeP.clean : LeP W H W.clean H := ⟨fun a o e n => ⟨clean_frz.mpr n, .inl e⟩, fun _ _ e => e, fun _ _ _ e => e, ⟨[], by simp [Wd.clean]⟩, fun i a _ n => clean_obj.mpr n⟩
theorem SimH.clean (S : SimH K W h H) : SimH K W.clean h H where
  len := S.len
  objs := fun i o e => by
    obtain ⟨a, m, n, r⟩ := S.objs i o e
    refine ⟨a, m, clean_obj.mpr n, ?_⟩
    cases o with
    | lst us =>
      obtain ⟨vs, e1, rv⟩ := r
      exact ⟨vs, e1, rv.le LeP.clean⟩
  dom := fun a w e => by
    have : ∃ w', W.own a = some w' := by
      cases q : W.own a with
      | none => rw [clean_none q] at e; cases e
      | some w' => exact ⟨w', rfl⟩
    obtain ⟨w', e'⟩ := this
    exact S.dom a w' e'
theorem clean_noslot (a : Addr) (k : Nat) : W.clean.own a ≠ some (.slot k) := by
  show (match W.own a with | some (.slot _) => none | some .tmp => none | o => o) ≠ _
  split <;> simp_all
theorem back_slot {a : Addr} {k : Nat} (e : W.own a = some (.slot k)) : (W.back W1).own a = some (.slot k) := by
  show (match W.own a with | some (.slot k) => some (Ow.slot k) | _ => (match W1.own a with | some (.slot _) => none | o => o)) = _
  rw [e]
theorem back_else {a : Addr} (e : ∀ k, W.own a ≠ some (.slot k)) (e1 : ∀ k, W1.own a ≠ some (.slot k)) : (W.back W1).own a = W1.own a := by
  show (match W.own a with | some (.slot k) => some (Ow.slot k) | _ => (match W1.own a with | some (.slot _) => none | o => o)) = _
  split
  · rename_i k q; exact absurd q (e k)
  · split
    · rename_i k q; exact absurd q (e1 k)
    · rfl
/-- behind a call -/
theorem back_ok (S : Sim K W env h σ H) (l : LeW W.clean H W1 H1) (S1 : SimH K W1 h1 H1) : LeP W1 H1 (W.back W1) H1 ∧ LeW W H (W.back W1) H1 ∧ Sim K (W.back W1) env h1 σ H1 := by
  -- an address of a caller's slot is nobody's for the callee
  have ns : ∀ {a : Addr} {k : Nat}, W.own a = some (.slot k) → W1.own a = none := fun {a k} e => by
    obtain ⟨o, eo⟩ := S.sh.dom a _ e
    exact (l.st a o eo (clean_slot e)).1
  have own1 : ∀ {a} {w : Ow}, W1.own a = some w → (∀ k, w ≠ Ow.slot k) → (W.back W1).own a = some w := fun {a w} e hw => by
    rw [back_else (fun k q => by rw [ns q] at e; cases e) (fun k q => by rw [e] at q; cases q; exact hw k rfl)]
    exact e
  have p1 : LeP W1 H1 (W.back W1) H1 := ⟨fun a o e n => ⟨own1 n (fun _ z => by cases z), .inl e⟩, fun _ _ e => e, fun _ _ _ e => e, ⟨[], by simp [Wd.back]⟩, fun i a _ n => own1 n (fun _ z => by cases z)⟩
  have le : LeW W H (W.back W1) H1 := by
    refine ⟨⟨fun a o e n => ?_, l.tp, l.fz, l.mp, fun i a m n => ?_⟩, fun a o e n => ?_⟩
    · obtain ⟨n1, e1⟩ := l.fr a o e (clean_frz.mpr n)
      exact ⟨own1 n1 (fun _ z => by cases z), e1⟩
    · exact own1 (l.ob i a m (clean_obj.mpr n)) (fun _ z => by cases z)
    · obtain ⟨n1, e1⟩ := l.st a o e (clean_none n)
      refine ⟨?_, e1⟩
      rw [back_else (fun k q => by rw [n] at q; cases q) (fun k q => by rw [n1] at q; cases q)]
      exact n1
  refine ⟨p1, le, ⟨⟨S1.len, fun i o e => ?_, fun a w e => ?_⟩, S.len, fun k sv e => ?_⟩⟩
  · obtain ⟨a, m, n, r⟩ := S1.objs i o e
    refine ⟨a, m, own1 n (fun _ z => by cases z), ?_⟩
    cases o with
    | lst us =>
      obtain ⟨vs, e1, rv⟩ := r
      exact ⟨vs, e1, rv.le p1⟩
  · by_cases z : ∃ k, W.own a = some (.slot k)
    · obtain ⟨k, z⟩ := z
      obtain ⟨o, eo⟩ := S.sh.dom a _ z
      exact ⟨o, (l.st a o eo (clean_slot z)).2⟩
    · by_cases z1 : ∃ k, W1.own a = some (.slot k)
      · obtain ⟨k, z1⟩ := z1
        exact S1.dom a _ z1
      · rw [back_else (fun k q => z ⟨k, q⟩) (fun k q => z1 ⟨k, q⟩)] at e
        exact S1.dom a w e
  · obtain ⟨v, e1, r⟩ := S.slots k sv e
    refine ⟨v, e1, ?_⟩
    cases sv with
    | val u => exact RV.le le.toLeP r
    | own us =>
      obtain ⟨a, vs, rfl, n, ea, rv⟩ := r
      exact ⟨a, vs, rfl, back_slot n, (l.st a _ ea (clean_slot n)).2, rv.le le.toLeP⟩
    | dic ks us =>
      obtain ⟨a, o, kv, vv, rfl, n, ea, ds, r1, r2⟩ := r
      exact ⟨a, o, kv, vv, rfl, back_slot n, (l.st a _ ea (clean_slot n)).2, ds, r1.le le.toLeP, r2.le le.toLeP⟩
theorem RSv.back (p : LeP W1 H1 (W.back W1) H1) (S : Sim K W env h σ H) (l : LeW W.clean H W1 H1) {sv : Sv} {v : V} (r : RSv K W1 H1 .tmp sv v) : RSv K (W.back W1) H1 .tmp sv v := by
  cases sv with
  | val u => exact RV.le p r
  | own us =>
    obtain ⟨a, vs, rfl, n, ea, rv⟩ := r
    refine ⟨a, vs, rfl, ?_, ea, rv.le p⟩
    rw [back_else (fun k q => ?_) (fun k q => by rw [n] at q; cases q)]
    · exact n
    · obtain ⟨o, eo⟩ := S.sh.dom a _ q
      rw [(l.st a o eo (clean_slot q)).1] at n
      cases n
  | dic ks us =>
    obtain ⟨a, o, kv, vv, rfl, n, ea, ds, r1, r2⟩ := r
    refine ⟨a, o, kv, vv, rfl, ?_, ea, ds, r1.le p, r2.le p⟩
    rw [back_else (fun k q => ?_) (fun k q => by rw [n] at q; cases q)]
    · exact n
    · obtain ⟨o, eo⟩ := S.sh.dom a _ q
      rw [(l.st a o eo (clean_slot q)).1] at n
      cases n
theorem ExR.le {ga : Str → Addr} {W W' : Wd} (p : LeP W H1 W' H1) {ex : Ex} {cls : Value} {d : Option Addr} (r : ExR K ga W H1 ex cls d) : ExR K ga W' H1 ex cls d :=
  ⟨r.1, r.2.1, fun f u e => let ⟨dd, v, e1, e2, rv⟩ := r.2.2 f u e; ⟨dd, v, e1, e2, rv.le p⟩⟩
end
/-- f(e, ..): D: the defaults that fill up -/
@[simp] def uCall (n : Nat) (f : FS) (D : List U) (t : UA) : UE := fun env h Po Pe => t env h (fun us env1 h1 => (us ++ D).length = n ∧ f (us ++ D) h1 (fun sv h2 => Po sv env1 h2) (fun ex h2 => Pe ex env1 h2)) Pe
section
variable {X : Cx} {L : Lx} {pos : Pos}
/-- the callee's promise, from what the caller knows -/
theorem sp_of {n : Nat} {f : FS} {W : Wd} {env : En} {h : Hv} {σ : L2.St} {H : Hp} {us : List U} {vs : List V} {Po : Sv → En → Hv → Prop} {Pe : Ex → En → Hv → Prop} {Q : VK} (S : Sim L.K W env h σ H) (r : RVs L.K W H us vs) (hn : vs.length = n)
    (hf : f us h (fun sv h2 => Po sv env h2) (fun ex h2 => Pe ex env h2)) (c : Cont L (RT L) W H σ Po Pe Q) : spF L.K L.ga n f vs H Q (fun cls d H' => L.wx cls d σ H') := by
  refine ⟨hn, W.clean, us, h, _, _, S.sh.clean, clean_noslot, r.le LeP.clean, hf, ⟨fun W1 sv h1 v H1 l S1 rv q => ?_, fun W1 ex h1 H1 cls d l S1 rx q => ?_⟩⟩
  · obtain ⟨p1, l1, S2⟩ := back_ok S l S1
    exact c.ok _ sv env h1 v H1 l1 S2 (RSv.back p1 S l rv) q
  · obtain ⟨p1, l1, S2⟩ := back_ok S l S1
    exact c.er _ ex env h1 H1 cls d l1 S2 (rx.le p1) q
/-- as FnOk, where no repr is under way around -/
structure FnG (P : Program) (w : World) (K : PySem.W.Frag) (mg : Str → Option Value) (base : Heap) (k : Nat) (f : Addr) (fd : FuncData) (ps : List Str) (sp : Sp) : Prop where
  len : ∀ vs H Q E, sp vs H Q E → vs.length = ps.length
  run : ∀ (A : Around) (outer : List Env) (s : Shared) (H : Hp) (args : Args) (us : List Value) (vs : List V) (Q : VK) (E : XK), Room k A → A.guards = some [] → Env0 P w K mg base A outer s H → BindsTo s fd args (ps.zip us) →
    Vals vs us → sp vs H Q E → codeAny (model P w) A (.call (.ref f) args) (CR (L2.CX P w) outer P w H s Q E) s
theorem FnG.mono {P : Program} {w : World} {K : PySem.W.Frag} {mg : Str → Option Value} {base : Heap} {j k : Nat} {f : Addr} {fd : FuncData} {ps : List Str} {sp : Sp} (F : FnG P w K mg base j f fd ps sp) (h : j ≤ k) : FnG P w K mg base k f fd ps sp :=
  ⟨F.len, fun A outer s H args us vs Q E hr => F.run A outer s H args us vs Q E (hr.mono h)⟩
section
variable {k : Nat} {f : Addr} {fd : FuncData} {ps : List Str} {sp : Sp} {dvs : List V} {ds : List Value} {E : L2.St → XK}
/-- the callee runs: args bind to all -/
theorem run_fnG {pins : List (Addr × Obj)} {σ : L2.St} {H : Hp} {s : Shared} {Q : VK} {args : Args} {all : List Value} {vs : List V} (F : FnG X.prog X.w X.K X.mg X.base k f fd ps sp) (hr : Room k X.A) (hgd : X.A.guards = some []) (hx : PassesAt (L2.CX X.prog X.w) X σ (E σ))
    (I : Inv X pins σ H s) (hb : all.length = ps.length → BindsTo s fd args (ps.zip all)) (r : Vals vs all) (h : sp vs H Q (E σ)) : codeAny (model X.prog X.w) X.A (.call (.ref f) args) (fun r s' => match r with
      | .ok (.ret u) => EP X pins σ Q u s'
      | .ok _ => False
      | .error e => X.xe e s') s := by
  have go := F.run X.A X.stack s H args all vs Q (E σ) hr hgd I.env0 (hb (r.length.symm.trans (F.len _ _ _ _ h))) r h
  refine codeAny_mono go fun res s2 q => ?_
  match res, q with
  | .error e, q => exact hx pins H s e s2 I q
  | .ok (.ret u), q => exact I.after q
  | .ok .next, q => exact q.elim
  | .ok .brk, q => exact q.elim
  | .ok .cont, q => exact q.elim
theorem pe_callG {x : Str} {p : Pos} {e : Expr} {es : List Expr} {t : TA} (F : FnG X.prog X.w X.K X.mg X.base k f fd ps sp) (hr : Room k X.A) (hgd : X.A.guards = some []) (hg : Gl X x) (hm : X.mg x = some (.ref f)) (hk : PySem.W.keepIn X.K (.ref f) = true) (hb : L2.Binds X.K fd ps ds)
    (hd : Vals dvs ds) (hx : ∀ σ, PassesAt (L2.CX X.prog X.w) X σ (E σ)) (ha : PA X (e :: es) t) (hdb : (x == ("__debug__" : Str)) = false := by decide) (he : starEach (e :: es) X.env = (false, eval e X.env) :: starEach es X.env := by rfl)
    (hpl : (backTo pos (starEach es X.env)).any (·.1) = false := by rfl) : PE X (.Call (.Name x p) (e :: es) [] pos) (tCallSD sp dvs E t) := by
  constructor
  intro pins s σ H Q I h
  apply wpAny_Call_Name_kw
  apply ld_glob I hg hm _ hdb
  refine PySem.W.callWith_K (h₀ := X.base) I.ok.mod.kin hk (thn (ha.run pos pins s σ H _ I h) fun us s1 z => ?_) he hpl
  obtain ⟨vs, H1, I1, r, q⟩ := z
  refine ⟨I1.kIn, wpAny_call (codeAny_mono (run_fnG (all := us ++ ds) F hr hgd (hx σ) I1 (fun hl => hb s1 us I1.kIn hl) (r.append hd) q) fun res s2 q2 => ?_)⟩
  match res, q2 with
  | .error e, q2 => exact q2
  | .ok (.ret u), q2 => exact q2
  | .ok .next, q2 => exact q2.elim
  | .ok .brk, q2 => exact q2.elim
  | .ok .cont, q2 => exact q2.elim
/-- f(e, .., k = v, ..), perhaps no positional one -/
theorem pe_callGK {n : Nat} {ks : List Str} {g : List Value → List Value → List Value} {gV : List V → List V → List V} {x : Str} {p : Pos} {e : Expr} {es : List Expr} {kws : List Keyword} {t tk : TA} (F : FnG X.prog X.w X.K X.mg X.base k f fd ps sp) (hr : Room k X.A) (hgd : X.A.guards = some []) (hg : Gl X x) (hm : X.mg x = some (.ref f))
    (hk : PySem.W.keepIn X.K (.ref f) = true) (hb : KBn X.K fd ps n ks g gV) (hx : ∀ σ, PassesAt (L2.CX X.prog X.w) X σ (E σ)) (ha : PA X (e :: es) t) (hkw : PK X kws tk) (hall : (backToKw pos (keywordEach kws X.env)).all (·.1.isSome) = true := by rfl)
    (hks : (backToKw pos (keywordEach kws X.env)).filterMap (·.1) = ks := by rfl) (hdb : (x == ("__debug__" : Str)) = false := by decide) (he : starEach (e :: es) X.env = (false, eval e X.env) :: starEach es X.env := by rfl)
    (hpl : ((backTo pos (starEach (e :: es) X.env)).any (·.1) || (backToKw pos (keywordEach kws X.env)).any (·.1.isNone)) = false := by rfl) :
    PE X (.Call (.Name x p) (e :: es) kws pos) (fun σ H Q => t σ H fun vs H1 => tk σ H1 fun zs H2 => vs.length = n ∧ zs.length = ks.length ∧ sp (gV vs zs) H2 Q (E σ)) := by
  constructor
  intro pins s σ H Q I h
  apply wpAny_Call_Name_kw
  apply ld_glob I hg hm _ hdb
  refine PySem.W.callWith_KW (h₀ := X.base) I.ok.mod.kin hk hall (thn (ha.run pos pins s σ H _ I h) fun us s1 z => ?_) hpl he
  obtain ⟨vs, H1, I1, r, q⟩ := z
  refine thn (hkw.run pos pins s1 σ H1 _ I1 q) fun ws s2 z2 => ?_
  obtain ⟨zs, H2, I2, rz, l1, l2, q2⟩ := z2
  refine ⟨I2.kIn, ?_⟩
  rw [hks]
  refine wpAny_call (codeAny_mono (run_fnG (all := g us ws) F hr hgd (hx σ) I2 (fun _ => hb.to s2 us ws I2.kIn (r.length.symm.trans l1) (rz.length.symm.trans l2)) (hb.rel r rz) q2) fun res s3 q3 => ?_)
  match res, q3 with
  | .error e, q3 => exact q3
  | .ok (.ret u), q3 => exact q3
  | .ok .next, q3 => exact q3.elim
  | .ok .brk, q3 => exact q3.elim
  | .ok .cont, q3 => exact q3.elim
theorem pe_callGK0 {ks : List Str} {g : List Value → List Value → List Value} {gV : List V → List V → List V} {x : Str} {p : Pos} {kws : List Keyword} {tk : TA} (F : FnG X.prog X.w X.K X.mg X.base k f fd ps sp) (hr : Room k X.A) (hgd : X.A.guards = some []) (hg : Gl X x) (hm : X.mg x = some (.ref f))
    (hk : PySem.W.keepIn X.K (.ref f) = true) (hb : KBn X.K fd ps 0 ks g gV) (hx : ∀ σ, PassesAt (L2.CX X.prog X.w) X σ (E σ)) (hkw : PK X kws tk) (hall : (backToKw pos (keywordEach kws X.env)).all (·.1.isSome) = true := by rfl)
    (hks : (backToKw pos (keywordEach kws X.env)).filterMap (·.1) = ks := by rfl) (hdb : (x == ("__debug__" : Str)) = false := by decide)
    (hpl : (backToKw pos (keywordEach kws X.env)).any (·.1.isNone) = false := by rfl) :
    PE X (.Call (.Name x p) [] kws pos) (fun σ H Q => tk σ H fun zs H2 => zs.length = ks.length ∧ sp (gV [] zs) H2 Q (E σ)) := by
  constructor
  intro pins s σ H Q I h
  apply wpAny_Call_Name_kw
  apply ld_glob I hg hm _ hdb
  refine PySem.W.callWith_KW0 (h₀ := X.base) I.ok.mod.kin hk hall (thn (hkw.run pos pins s σ H _ I h) fun ws s2 z2 => ?_) hpl
  obtain ⟨zs, H2, I2, rz, l2, q2⟩ := z2
  refine ⟨I2.kIn, ?_⟩
  rw [hks]
  refine wpAny_call (codeAny_mono (run_fnG (all := g [] ws) F hr hgd (hx σ) I2 (fun _ => hb.to s2 [] ws I2.kIn rfl (rz.length.symm.trans l2)) (hb.rel .nil rz) q2) fun res s3 q3 => ?_)
  match res, q3 with
  | .error e, q3 => exact q3
  | .ok (.ret u), q3 => exact q3
  | .ok .next, q3 => exact q3.elim
  | .ok .brk, q3 => exact q3.elim
  | .ok .cont, q3 => exact q3.elim
end
theorem we_call {k n : Nat} {fa : Addr} {fd : FuncData} {ps : List Str} {f : FS} {D : List U} {dvs : List V} {ds : List Value} {x : Str} {p : Pos} {e : Expr} {es : List Expr} {t : UA} (F : FnG X.prog X.w X.K X.mg X.base k fa fd ps (spF L.K L.ga n f)) (hr : Room k X.A) (hgd : X.A.guards = some []) (hg : Gl X x) (hm : X.mg x = some (.ref fa))
    (hk : PySem.W.keepIn X.K (.ref fa) = true) (hb : L2.Binds X.K fd ps ds) (hd : Vals dvs ds) (hD : ∀ W H, RVs L.K W H D dvs) (tk : Takes X L.wx) (ha : WA X L (e :: es) t)
    (hdb : (x == ("__debug__" : Str)) = false := by decide) (he : starEach (e :: es) X.env = (false, eval e X.env) :: starEach es X.env := by rfl) (hpl : (backTo pos (starEach es X.env)).any (·.1) = false := by rfl) : WE X L (.Call (.Name x p) (e :: es) [] pos) (uCall n f D t) := by
  refine PE.wk (pe_callG (E := fun σ cls d H => L.wx cls d σ H) F hr hgd hg hm hk hb hd (fun σ => passAt tk σ) ha hdb he hpl) fun σ H Q ⟨W, env, h, Po, Pe, S, ht, c⟩ => ?_
  refine ⟨W, env, h, _, _, S, ht, ⟨fun W1 us env1 h1 vs H1 l1 S1 r1 q1 => ?_, c.er⟩⟩
  have rr := RVs.append r1 (hD W1 H1)
  exact sp_of S1 rr (rr.length.symm.trans q1.1) q1.2 (c.le l1)
/-- keywords' values -/
def WK (X : Cx) (L : Lx) (kws : List Keyword) (t : UA) : Prop := PK X kws (lg L (RA L) t)
theorem PK.wk {kws : List Keyword} {t t' : TA} (h : PK X kws t) (w : ∀ σ H Q, t' σ H Q → t σ H Q) : PK X kws t' := ⟨fun p pins s σ H Q I q => h.run p pins s σ H Q I (w _ _ _ q)⟩
theorem wk_nil : WK X L [] uNil := PK.wk pk_nil fun σ H Q ⟨W, env, h, Po, Pe, S, ht, c⟩ => c.ok W [] env h [] H .refl S .nil ht
theorem wk_cons {e : Expr} {kws : List Keyword} {nm : Option Str} {kpos : Pos} {t : UE} {r : UA} (ha : WE X L e t) (hr : WK X L kws r) : WK X L (⟨nm, e, kpos⟩ :: kws) (uCons t r) := by
  refine PK.wk (pk_cons ha hr) fun σ H Q ⟨W, env, h, Po, Pe, S, ht, c⟩ => ?_
  refine ⟨W, env, h, _, _, S, ht, ⟨fun W1 x env1 h1 v1 H1 l1 S1 r1 q1 => ?_, c.er⟩⟩
  obtain ⟨W1', S1', l1', rv1⟩ := S1.freeze r1
  have c1 := c.le (l1.trans l1')
  exact ⟨W1', env1, h1, _, _, S1', q1, ⟨fun W2 xs env2 h2 vs H2 l2 S2 r2 q2 => c1.ok W2 _ env2 h2 _ H2 l2 S2 (.cons (rv1.le l2.toLeP) r2) q2, c1.er⟩⟩
/-- where each parameter comes from: a positional value, a keyword's, a default -/
inductive Src where
  | pos (i : Nat) | kw (i : Nat) | dfl (u : U)
def Src.u (us ws : List U) : Src → U
  | .pos i => us.getD i .non
  | .kw i => ws.getD i .non
  | .dfl u => u
/-- f(e, .., k = v, ..) -/
@[simp] def uCallK (n : Nat) (f : FS) (np nk : Nat) (g : List U → List U → List U) (t tk : UA) : UE := fun env h Po Pe => t env h (fun us env1 h1 => tk env1 h1 (fun ws env2 h2 => us.length = np ∧ ws.length = nk ∧ (g us ws).length = n ∧ f (g us ws) h2 (fun sv h3 => Po sv env2 h3) (fun ex h3 => Pe ex env2 h3)) Pe) Pe
theorem we_callK {k n np nk : Nat} {fa : Addr} {fd : FuncData} {ps ks : List Str} {f : FS} {g : List Value → List Value → List Value} {gV : List V → List V → List V} {gU : List U → List U → List U} {x : Str} {p : Pos} {e : Expr} {es : List Expr} {kws : List Keyword} {t tk : UA}
    (F : FnG X.prog X.w X.K X.mg X.base k fa fd ps (spF L.K L.ga n f)) (hr : Room k X.A) (hgd : X.A.guards = some []) (hg : Gl X x) (hm : X.mg x = some (.ref fa)) (hk : PySem.W.keepIn X.K (.ref fa) = true) (hb : KBn X.K fd ps np ks g gV)
    (hG : ∀ {W : Wd} {H : Hp} {us ws : List U} {vs zs : List V}, RVs L.K W H us vs → RVs L.K W H ws zs → us.length = np → ws.length = nk → RVs L.K W H (gU us ws) (gV vs zs)) (hnk : ks.length = nk) (tk' : Takes X L.wx) (ha : WA X L (e :: es) t) (hkw : WK X L kws tk)
    (hall : (backToKw pos (keywordEach kws X.env)).all (·.1.isSome) = true := by rfl)
    (hks : (backToKw pos (keywordEach kws X.env)).filterMap (·.1) = ks := by rfl) (hdb : (x == ("__debug__" : Str)) = false := by decide) (he : starEach (e :: es) X.env = (false, eval e X.env) :: starEach es X.env := by rfl)
    (hpl : ((backTo pos (starEach (e :: es) X.env)).any (·.1) || (backToKw pos (keywordEach kws X.env)).any (·.1.isNone)) = false := by rfl) :
    WE X L (.Call (.Name x p) (e :: es) kws pos) (uCallK n f np nk gU t tk) := by
  subst hnk
  refine PE.wk (pe_callGK (E := fun σ cls d H => L.wx cls d σ H) F hr hgd hg hm hk hb (fun σ => passAt tk' σ) ha hkw hall hks hdb he hpl) fun σ H Q ⟨W, env, h, Po, Pe, S, ht, c⟩ => ?_
  refine ⟨W, env, h, _, _, S, ht, ⟨fun W1 us env1 h1 vs H1 l1 S1 r1 q1 => ?_, c.er⟩⟩
  have c1 := c.le l1
  refine ⟨W1, env1, h1, _, _, S1, q1, ⟨fun W2 ws env2 h2 zs H2 l2 S2 r2 q2 => ?_, c1.er⟩⟩
  have r1' : RVs L.K W2 H2 us vs := RVs.le l2.toLeP r1
  have rr := hG r1' r2 q2.1 q2.2.1
  exact ⟨r1.length.symm.trans q2.1, r2.length.symm.trans q2.2.1, sp_of S2 rr (rr.length.symm.trans q2.2.2.1) q2.2.2.2 (c1.le l2)⟩
theorem we_callK0 {k n nk : Nat} {fa : Addr} {fd : FuncData} {ps ks : List Str} {f : FS} {g : List Value → List Value → List Value} {gV : List V → List V → List V} {gU : List U → List U → List U} {x : Str} {p : Pos} {kws : List Keyword} {tk : UA}
    (F : FnG X.prog X.w X.K X.mg X.base k fa fd ps (spF L.K L.ga n f)) (hr : Room k X.A) (hgd : X.A.guards = some []) (hg : Gl X x) (hm : X.mg x = some (.ref fa)) (hk : PySem.W.keepIn X.K (.ref fa) = true) (hb : KBn X.K fd ps 0 ks g gV)
    (hG : ∀ {W : Wd} {H : Hp} {us ws : List U} {vs zs : List V}, RVs L.K W H us vs → RVs L.K W H ws zs → us.length = 0 → ws.length = nk → RVs L.K W H (gU us ws) (gV vs zs)) (hnk : ks.length = nk) (tk' : Takes X L.wx) (hkw : WK X L kws tk)
    (hall : (backToKw pos (keywordEach kws X.env)).all (·.1.isSome) = true := by rfl)
    (hks : (backToKw pos (keywordEach kws X.env)).filterMap (·.1) = ks := by rfl) (hdb : (x == ("__debug__" : Str)) = false := by decide)
    (hpl : (backToKw pos (keywordEach kws X.env)).any (·.1.isNone) = false := by rfl) :
    WE X L (.Call (.Name x p) [] kws pos) (uCallK n f 0 nk gU uNil tk) := by
  subst hnk
  refine PE.wk (pe_callGK0 (E := fun σ cls d H => L.wx cls d σ H) F hr hgd hg hm hk hb (fun σ => passAt tk' σ) hkw hall hks hdb hpl) fun σ H Q ⟨W, env, h, Po, Pe, S, ht, c⟩ => ?_
  refine ⟨W, env, h, _, _, S, ht, ⟨fun W2 ws env2 h2 zs H2 l2 S2 r2 q2 => ?_, c.er⟩⟩
  have rr := hG .nil r2 rfl q2.2.1
  exact ⟨r2.length.symm.trans q2.2.1, sp_of S2 rr (rr.length.symm.trans q2.2.2.1) q2.2.2.2 (c.le l2)⟩
end

/-! ### a def keeps its promise -/
def startE (N : List Str) (us : List U) : En := us.map (fun u => some (.val u)) ++ List.replicate (N.length - us.length) none
theorem sim_start {K : PySem.W.Frag} {W : Wd} {h : Hv} {H : Hp} {N : List Str} {us : List U} {vs : List V} (S : SimH K W h H) (r : RVs K W H us vs) : Sim K W (startE N us) h (L2.start N vs) H := by
  have hl := r.length
  refine ⟨S, by simp [startE, L2.start, hl], fun k sv e => ?_⟩
  unfold startE at e
  by_cases hk : k < us.length
  · rw [List.getElem?_append_left (by simpa using hk), List.getElem?_map] at e
    obtain ⟨v, ev, rv⟩ := r.get (i := k) (u := us[k]) (by simp [hk])
    rw [show us[k]? = some us[k] by simp [hk]] at e
    cases e
    refine ⟨v, ?_, rv⟩
    unfold L2.start
    rw [List.getElem?_append_left (by simpa [hl] using hk), List.getElem?_map, ev]
    rfl
  · rw [List.getElem?_append_right (by simpa using hk), List.getElem?_replicate] at e
    split at e
    · cases e
    · cases e
/-- the body's ends, for the caller's wishes -/
abbrev bodyD (Po : Sv → Hv → Prop) (Pe : Ex → Hv → Prop) : UD := { nx := fun _ h' => Po (.val .non) h', rt := fun sv _ h' => Po sv h', er := fun ex _ h' => Pe ex h' }
theorem fn_ok {P : Program} {w : World} {K : PySem.W.Frag} {mg : Str → Option Value} {base : Heap} {ga : Str → Addr} {k : Nat} {fa : Addr} {fd : FuncData} {x qual : Str} {params : Arguments} {body : List Stmt} {scope : Scope} {dvs : List V} {kws : List (Str × V)} {N ps : List Str} {f : FS} {t : US}
    (F : FunD K x qual params body scope dvs kws fa fd) (S : FnScope N ps scope)
    (der : ∀ (cdv : Value) (A : Around) (outer : List Env) (s : Shared) (H : Hp) (E : XK), Room k (A.deeper (envOfC qual scope s.heap.objs.size fa cdv)) → A.guards = some [] →
      WSs (cxOf (L2.CX P w) P w K mg base N qual scope fa cdv A outer s H E) ⟨K, ga, fun cls d _ H => E cls d H⟩ body t)
    (conf : ∀ us h Po Pe, us.length = ps.length → f us h Po Pe → t (startE N us) h (bodyD Po Pe)) : FnG P w K mg base (k + 1) fa fd ps (spF K ga ps.length f) := by
  obtain ⟨oc, od, dV, kV, doc, pm, an, cdv, ct, osl, e, lk, hcd, _, _⟩ := F.ex
  subst e
  constructor
  · exact fun vs H Q E q => q.1
  intro A outer s H args us vs Q E hr hgd e0 hb r hsp
  have hl : vs.length = ps.length := hsp.1
  have inK : K.In s.heap := e0.mod.kin.keeps fun b o q => (e0.bs b o q).1
  have lim : s.heap.NoLimit := e0.mod.nolimit.keeps fun b o q => (e0.bs b o q).1
  have kinds : ∀ y ∈ ps.zip us, scope.names.lookup y.1 = some .local ∨ (scope.names.lookup y.1 = some .cell ∧ ((cellsFrom (s.heap.objs.size + 1) scope.names []).lookup y.1).isSome = true) := by
    intro y hy
    obtain ⟨n, v⟩ := y
    rcases S.par n (List.of_mem_zip hy).1 with q | q
    · exact .inl q
    · exact .inr ⟨q, PySem.W.cellsFrom_some _ _ _ (.inl q)⟩
  refine codeAny_call_function hr.depth (inK _ _ lk) rfl S.co S.gen rfl (PySem.W.codeRec_of inK hcd) (hb _ _ _ _ ?_)
  refine wpAny_newFunctionEnv_cells S.kind kinds fun env henv s1 x => ?_
  subst henv
  refine ⟨lim.keeps x.toInCall.keep, codeAny_func ?_⟩
  have D := der cdv A outer s H E (hr.deeper _) hgd
  have J : Inv (cxOf (L2.CX P w) P w K mg base N qual scope fa cdv A outer s H E) [] (L2.start N vs) H s1 := inv_start S hr.hd e0 hl r x
  obtain ⟨_, W, us', h, Po, Pe, SH, ns, rr, hf, fc⟩ := hsp
  have want : ls ⟨K, ga, fun cls d _ H => E cls d H⟩ t { nx := fun _ H' => Q .non H', rt := Q } (L2.start N vs) H := by
    refine ⟨W, startE N us', h, _, sim_start SH rr, conf us' h Po Pe (rr.length.trans hl) hf, ⟨fun W' env' h' σ' H' l S' q => fc.ok W' (.val .non) h' .non H' l S'.sh .non q, fun _ _ _ _ _ _ _ z => z.elim, fun _ _ _ _ _ _ _ z => z.elim,
      fun W' sv env' h' σ' v H' l S' rv q => fc.ok W' sv h' v H' l S'.sh rv q, fun W' ex env' h' σ' H' cls d l S' rx q => fc.er W' ex h' H' cls d l S'.sh rx q⟩⟩
  refine wpAny_mono (D.run [] s1 (L2.start N vs) H _ J want) (fun fl s2 q => ?_) fun e s2 q => q
  match fl, q with
  | .ret u, ⟨v, σ', H', J', rv, q⟩ => exact ⟨v, H', J'.os, J'.bare, J'.base, J'.hok, rv, q⟩
  | .next, ⟨σ', H', J', q⟩ => exact ⟨.non, H', J'.os, J'.bare, J'.base, J'.hok, rfl, q⟩
  | .brk, ⟨_, _, _, q⟩ => exact q.elim
  | .cont, ⟨_, _, _, q⟩ => exact q.elim
end Vi

/-! Vi4: operators and what is built in, by trees. -/
namespace Vi
open PySem PySem.Spec PyProof.Rows L2
variable [WW]
section
variable {X : Cx} {K : PySem.W.Frag}
theorem OpR.wk {f : Value → Value → Sem Value} {r r' : R2} (h : OpR X f r) (w : ∀ x y H Q, r' x y H Q → r x y H Q) : OpR X f r' := fun pins s σ H x y v u Q I rx ry q => h pins s σ H x y v u Q I rx ry (w _ _ _ _ q)
theorem IxR.wk {r r' : R2} (h : IxR X r) (w : ∀ x y H Q, r' x y H Q → r x y H Q) : IxR X r' := fun a b pins s σ H x y v u Q I rx ry q hs => h a b pins s σ H x y v u Q I rx ry (w _ _ _ _ q) hs
theorem CallR.wk {f : Value} {r r' : List V → Hp → VK → Prop} (h : CallR X f r) (w : ∀ x H Q, r' x H Q → r x H Q) : CallR X f r' := fun pins s σ H x v Q I rx q => h pins s σ H x v Q I rx (w _ _ _ q)
theorem CallR.or {f : Value} {r r' : List V → Hp → VK → Prop} (h : CallR X f r) (h' : CallR X f r') : CallR X f (fun x H Q => r x H Q ∨ r' x H Q) := by
  intro pins s σ H x us Q I rx q
  rcases q with q | q
  · exact h pins s σ H x us Q I rx q
  · exact h' pins s σ H x us Q I rx q
theorem PSet.wk {r r' : TSet} (h : PSet X r) (w : ∀ o i v H Q, r' o i v H Q → r o i v H Q) : PSet X r' := fun pins s σ H o i v ov iv u Q I a b c q => h pins s σ H o i v ov iv u Q I a b c (w _ _ _ _ _ q)

/-- a plain value is given -/
theorem OCont.val {W : Wd} {H : Hp} {env : En} {h : Hv} {σ : L2.St} {P : Sv → Hv → Prop} {Q : VK} (c : OCont K W H env σ P Q) (S : Sim K W env h σ H) {u : U} {v : V} (r : RV K W H u v) (q : P (.val u) h) : Q v H := c W (.val u) h v H .refl S r q
/-- a new tuple is given -/
theorem OCont.tup {W : Wd} {H : Hp} {env : En} {h : Hv} {σ : L2.St} {P : Sv → Hv → Prop} {Q : VK} (c : OCont K W H env σ P Q) (S : Sim K W env h σ H) {us : List U} {vs : List V} (r : RVs K W H us vs) (q : P (.val (.tup us)) h) : NewT H Q vs := fun p ob hp hd => by
  have l := LeW.none_ S.sh hp (.frz ob (.tup vs))
  exact c W (.val (.tup us)) h _ _ l (S.none_ hp _) (.tup (.inl ⟨ob, hd, upd_same⟩) (r.le l.toLeP)) q
/-- a new list is given -/
theorem OCont.lst {W : Wd} {H : Hp} {env : En} {h : Hv} {σ : L2.St} {P : Sv → Hv → Prop} {Q : VK} (c : OCont K W H env σ P Q) (S : Sim K W env h σ H) {us : List U} {vs : List V} (r : RVs K W H us vs) (q : P (.own us) h) {p : Addr} (hp : H p = none) : Q (.ref p) (upd H p (.lst vs)) := by
  obtain ⟨S2, l⟩ := S.alloc hp (.lst vs) .tmp
  exact c _ (.own us) h _ _ l S2 ⟨p, vs, rfl, Wd.put_same, upd_same, r.le l.toLeP⟩ q

/-! ### + - * // % ** -/
/-- a list and another, either of them the script -/
def rCatL (K : PySem.W.Frag) : R2 := fun x y H Q => ∃ l b xs zs, x = .ref l ∧ y = .ref b ∧ SqL K H l xs ∧ SqL K H b zs ∧ xs.length + zs.length ≤ sizeLine ∧ ∀ p, H p = none → Q (.ref p) (upd H p (.lst (xs ++ zs)))
theorem op_catL : OpR X (binaryOp .Add) (rCatL X.K) := by
  intro pins s σ H x y v u Q I rx ry h
  obtain ⟨l, b, xs, zs, rfl, rfl, hH, hB, hz, q⟩ := h
  cases rx
  cases ry
  obtain ⟨its, r, ⟨⟨cls, dd, data, sl⟩, n, ho, hc, hdd, hd⟩, z⟩ := I.list hH
  obtain ⟨its2, r2, ⟨⟨cls2, dd2, data2, sl2⟩, n2, ho2, hc2, hdd2, hd2⟩, z2⟩ := I.list hB
  simp only at hc hd hc2 hd2
  subst hc hd hc2 hd2
  have e : its.toArray ++ its2.toArray = (its ++ its2).toArray := by simp
  have l1 := r.length
  have l2 := r2.length
  refine concat_meets ⟨_, ho, rfl⟩ ⟨_, ho2, rfl⟩ noFill_list_add seq_list_add PySem.F.slot_list_add PySem.F.entry_list_add (PySem.F.args_list_add_2 _ _) (list_addW l b its.toArray its2.toArray n n2 dd dd2 sl sl2 (by simp; omega)) ⟨ho, ho2, ?_⟩
  rw [e]
  exact ⟨.ref _, _, I.lnew (t' := s.toks) (r.append r2) (by rw [List.length_append]; omega), rfl, q _ I.fresh⟩
@[simp] def bAdd : UO := fun u w h P => match u, w with
  | .int i, .int j => P (.val (.int (i + j))) h
  | .str x, .str y => x.length + y.length ≤ sizeLine ∧ P (.val (.str (x ++ y))) h
  | .tup a, .tup b => a.length + b.length ≤ sizeLine ∧ P (.val (.tup (a ++ b))) h
  | .lst a, .lst b => a.length + b.length ≤ sizeLine ∧ P (.own (a ++ b)) h
  | .scr a, .lst b => a.length + b.length ≤ sizeLine ∧ P (.own (a.map U.int ++ b)) h
  | .lst a, .scr b => a.length + b.length ≤ sizeLine ∧ P (.own (a ++ b.map U.int)) h
  | _, _ => False
theorem op_addU : OpR X (binaryOp .Add) (lo X.K bAdd) := by
  refine OpR.wk (op_add.or (op_add_str.or ((op_catA.or op_catF).or op_catL))) fun x y H Q ⟨W, env, h, σ, u, w, P, S, ru, rw_, ht, c⟩ => ?_
  unfold bAdd at ht
  split at ht
  · cases ru; cases rw_
    exact .inl ⟨_, _, rfl, rfl, c.val S (.int _) ht⟩
  · cases ru; cases rw_
    exact .inr (.inl ⟨_, _, rfl, rfl, ht.1, c.val S (.str _) ht.2⟩)
  · rename_i a b
    have ru0 := ru
    have rw0 := rw_
    cases ru with
    | tup h1 r1 =>
      cases rw_ with
      | tup h2 r2 =>
        have e1 := r1.length
        have e2 := r2.length
        by_cases hn : a = [] ∨ b = []
        case neg =>
          have n1 : a ≠ [] := fun z => hn (.inl z)
          have n2 : b ≠ [] := fun z => hn (.inr z)
          exact .inr (.inr (.inl (.inr ⟨_, _, _, _, rfl, rfl, h1.sq, h2.sq, fun z => n1 (List.length_eq_zero_iff.mp (by rw [e1, z]; rfl)), fun z => n2 (List.length_eq_zero_iff.mp (by rw [e2, z]; rfl)), by rw [← e1, ← e2]; exact ht.1, c.tup S (r1.append r2) ht.2⟩)))
        refine .inr (.inr (.inl (.inl ⟨_, _, _, _, rfl, rfl, h1.sq, h2.sq, by rw [← e1, ← e2]; exact ht.1, fun z => ?_, fun _ z => ?_, fun z1 z2 => ?_⟩)))
        rotate_left 2
        · exfalso
          rcases hn with z | z
          · exact z1 (List.length_eq_zero_iff.mp (by rw [← e1, z]; rfl))
          · exact z2 (List.length_eq_zero_iff.mp (by rw [← e2, z]; rfl))
        · have ea : a = [] := List.length_eq_zero_iff.mp (by rw [e1, z]; rfl)
          subst ea
          exact c.val S rw0 ht.2
        · have ea : b = [] := List.length_eq_zero_iff.mp (by rw [e2, z]; rfl)
          subst ea
          rw [List.append_nil] at ht
          exact c.val S ru0 ht.2
  · cases ru with
    | lst n1 h1 r1 =>
      cases rw_ with
      | lst n2 h2 r2 =>
        exact .inr (.inr (.inr ⟨_, _, _, _, rfl, rfl, .inl (.inl h1), .inl (.inl h2), by rw [← r1.length, ← r2.length]; exact ht.1, fun p hp => c.lst S (r1.append r2) ht.2 hp⟩))
  · cases ru with
    | scr h1 =>
      cases rw_ with
      | lst n2 h2 r2 =>
        exact .inr (.inr (.inr ⟨_, _, _, _, rfl, rfl, h1.sq, .inl (.inl h2), by rw [List.length_map, ← r2.length]; exact ht.1, fun p hp => c.lst S ((RVs.ints _).append r2) ht.2 hp⟩))
  · cases ru with
    | lst n1 h1 r1 =>
      cases rw_ with
      | scr h2 =>
        exact .inr (.inr (.inr ⟨_, _, _, _, rfl, rfl, .inl (.inl h1), h2.sq, by rw [List.length_map, ← r1.length]; exact ht.1, fun p hp => c.lst S (r1.append (RVs.ints _)) ht.2 hp⟩))
  · exact ht.elim
/-- an operation of two ints -/
@[simp] def bInt2 (C : Int → Int → Prop) (g : Int → Int → Int) : UO := fun u w h P => match u, w with
  | .int i, .int j => C i j ∧ P (.val (.int (g i j))) h
  | _, _ => False
theorem op_int2 {f : Value → Value → Sem Value} {C : Int → Int → Prop} {g : Int → Int → Int} (ho : OpR X f (rI C fun i j => .int (g i j))) : OpR X f (lo X.K (bInt2 C g)) := by
  refine OpR.wk ho fun x y H Q ⟨W, env, h, σ, u, w, P, S, ru, rw_, ht, c⟩ => ?_
  unfold bInt2 at ht
  split at ht
  · cases ru; cases rw_
    exact ⟨_, _, rfl, rfl, ht.1, c.val S (.int _) ht.2⟩
  · exact ht.elim
@[simp] def bSub : UO := bInt2 (fun _ _ => True) fun i j => i - j
theorem op_subU : OpR X (binaryOp .Sub) (lo X.K bSub) := op_int2 (OpR.wk op_sub fun x y H Q ⟨i, j, a, b, _, q⟩ => ⟨i, j, a, b, q⟩)
@[simp] def bFdiv : UO := bInt2 CDivW fun i j => i / j
theorem op_fdivU : OpR X (binaryOp .FloorDiv) (lo X.K bFdiv) := op_int2 op_fdivW
@[simp] def bMod : UO := bInt2 (fun _ j => 0 < j) fun i j => i % j
theorem op_modU : OpR X (binaryOp .Mod) (lo X.K bMod) := op_int2 op_mod
@[simp] def bPow : UO := bInt2 CPow fun i j => i ^ j.toNat
theorem op_powU : OpR X (binaryOp .Pow) (lo X.K bPow) := op_int2 op_pow
@[simp] def bMul : UO := fun u w h P => match u, w with
  | .int i, .int j => (CMul i j ∨ CMulW i j) ∧ P (.val (.int (i * j))) h
  | .lst a, .int k => -(2 ^ 63) ≤ k ∧ k < 2 ^ 63 ∧ a.length * k.toNat ≤ sizeLine ∧ P (.own (List.replicate k.toNat a).flatten) h
  | _, _ => False
theorem RVs.rep {W : Wd} {H : Hp} {us : List U} {vs : List V} (r : RVs K W H us vs) : ∀ n : Nat, RVs K W H (List.replicate n us).flatten (List.replicate n vs).flatten
  | 0 => .nil
  | n + 1 => by
    rw [List.replicate_succ, List.replicate_succ, List.flatten_cons, List.flatten_cons]
    exact r.append (RVs.rep r n)
theorem op_mulU : OpR X (binaryOp .Mult) (lo X.K bMul) := by
  refine OpR.wk (op_mul.or (op_mulW.or op_rep)) fun x y H Q ⟨W, env, h, σ, u, w, P, S, ru, rw_, ht, c⟩ => ?_
  unfold bMul at ht
  split at ht
  · cases ru; cases rw_
    rcases ht with ⟨ht | ht, q⟩
    · exact .inl ⟨_, _, rfl, rfl, ht, c.val S (.int _) q⟩
    · exact .inr (.inl ⟨_, _, rfl, rfl, ht, c.val S (.int _) q⟩)
  · cases rw_
    cases ru with
    | lst n1 h1 r1 =>
      exact .inr (.inr ⟨_, _, _, rfl, rfl, h1, ht.1, ht.2.1, by rw [← r1.length]; exact ht.2.2.1, fun p hp => c.lst S (r1.rep _) ht.2.2.2 hp⟩)
  · exact ht.elim

/-! ### comparisons -/
@[simp] def bIntC (g : Int → Int → Bool) : UO := fun u w h P => match u, w with
  | .int i, .int j => P (.val (.bl (g i j))) h
  | _, _ => False
theorem op_intC {f : Value → Value → Sem Value} {g : Int → Int → Bool} (ho : OpR X f (rI0 fun i j => .bl (g i j))) : OpR X f (lo X.K (bIntC g)) := by
  refine OpR.wk ho fun x y H Q ⟨W, env, h, σ, u, w, P, S, ru, rw_, ht, c⟩ => ?_
  unfold bIntC at ht
  split at ht
  · cases ru; cases rw_
    exact ⟨_, _, rfl, rfl, c.val S (.bl _) ht⟩
  · exact ht.elim
@[simp] def bLt : UO := bIntC fun i j => decide (i < j)
@[simp] def bLe : UO := bIntC fun i j => decide (i ≤ j)
@[simp] def bGt : UO := bIntC fun i j => decide (j < i)
@[simp] def bGe : UO := bIntC fun i j => decide (j ≤ i)
theorem op_ltU : OpR X (compareOp .Lt) (lo X.K bLt) := op_intC op_lt
theorem op_leU : OpR X (compareOp .LtE) (lo X.K bLe) := op_intC op_le
theorem op_gtU : OpR X (compareOp .Gt) (lo X.K bGt) := op_intC op_gt
theorem op_geU : OpR X (compareOp .GtE) (lo X.K bGe) := op_intC op_ge
mutual
def toD : U → Option PyData
  | .non => some .none
  | .bl b => some (.bool b)
  | .int i => some (.int i)
  | .str x => some (.str x)
  | .tup us => (toDs us).map .tuple
  | .lst us => (toDs us).map .list
  | .scr ns => some (.list (ns.map .int))
  | _ => none
def toDs : List U → Option (List PyData)
  | [] => some []
  | u :: us => match toD u, toDs us with
    | some d, some ds => some (d :: ds)
    | _, _ => none
end
theorem DpAll.ints {H : Hp} : ∀ ns : List Int, DpAll K H (ns.map V.int) (ns.map PyData.int)
  | [] => .nil
  | n :: ns => .cons (.int n) (DpAll.ints ns)
mutual
theorem RV.dp {W : Wd} {H : Hp} : ∀ {u : U} {v : V} {d : PyData}, RV K W H u v → toD u = some d → Dp K H v d
  | _, _, _, .non, e => by cases e; exact .non
  | _, _, _, .bl b, e => by cases e; exact .bl b
  | _, _, _, .int b, e => by cases e; exact .int b
  | _, _, _, .str b, e => by cases e; exact .str b
  | _, _, _, .ty b, e => by cases e
  | _, _, _, .tup (us := us) h r, e => by
    unfold toD at e
    cases q : toDs us with
    | none => rw [q] at e; cases e
    | some ds =>
      rw [q] at e
      cases e
      exact .tup h.sq (RVs.dp r q)
  | _, _, _, .lst (us := us) n h r, e => by
    unfold toD at e
    cases q : toDs us with
    | none => rw [q] at e; cases e
    | some ds =>
      rw [q] at e
      cases e
      exact .lst (.inl (.inl h)) (RVs.dp r q)
  | _, _, _, .scr (ns := ns) h, e => by
    cases e
    exact .lst h.sq (DpAll.ints ns)
  | _, _, _, .ref _ _, e => by cases e
  | _, _, _, .err _ _, e => by cases e
  | _, _, _, .ecl _ _, e => by cases e
  | _, _, _, .dic _ _ _ _, e => by cases e
  | _, _, _, .erf _ _ _ _ _, e => by cases e
theorem RVs.dp {W : Wd} {H : Hp} : ∀ {us : List U} {vs : List V} {ds : List PyData}, RVs K W H us vs → toDs us = some ds → DpAll K H vs ds
  | _, _, _, .nil, e => by cases e; exact .nil
  | _, _, _, .cons (u := u) (us := us) a b, e => by
    unfold toDs at e
    cases q : toD u with
    | none => rw [q] at e; cases e
    | some d =>
      cases q2 : toDs us with
      | none => rw [q, q2] at e; cases e
      | some ds =>
        rw [q, q2] at e
        cases e
        exact .cons (RV.dp a q) (RVs.dp b q2)
end
/-- a scalar -/
def flatS : U → Option V
  | .non => some .non
  | .bl b => some (.bl b)
  | .int i => some (.int i)
  | .str x => some (.str x)
  | _ => none
/-- == of data of any depth -/
def eqD? (u w : U) : Option Bool := match toD u, toD w with
  | some d, some e => if SeqAt.shaped d && SeqAt.shaped e then some (PyData.eqv d e) else none
  | _, _ => none
/-- == -/
def eqU? : U → U → Option Bool
  | .str x, .str y => some (decide (x = y))
  | .int i, .int j => some (decide (i = j))
  | .bl i, .bl j => some (decide (i = j))
  | .str _, .non => some false
  | .non, .str _ => some false
  | u, w => eqD? u w
@[simp] def bEq : UO := fun u w h P => match eqU? u w with
  | some b => P (.val (.bl b)) h
  | none => False
@[simp] def bNe : UO := fun u w h P => match eqU? u w with
  | some b => P (.val (.bl (!b))) h
  | none => False
theorem eqD?_some {u w : U} {b : Bool} (h : eqD? u w = some b) : ∃ d e, toD u = some d ∧ toD w = some e ∧ SeqAt.shaped d = true ∧ SeqAt.shaped e = true ∧ b = PyData.eqv d e := by
  unfold eqD? at h
  split at h
  · rename_i d e h1 h2
    split at h
    · rename_i h3
      simp only [Bool.and_eq_true] at h3
      cases h
      exact ⟨d, e, h1, h2, h3.1, h3.2, rfl⟩
    · cases h
  · cases h
/-- by scalars, or by data -/
theorem eqU?_some {u w : U} {b : Bool} (h : eqU? u w = some b) : (∃ x y, flatS u = some x ∧ flatS w = some y ∧ scal x y = true ∧ b = decide (x = y)) ∨ ∃ d e, toD u = some d ∧ toD w = some e ∧ SeqAt.shaped d = true ∧ SeqAt.shaped e = true ∧ b = PyData.eqv d e := by
  unfold eqU? at h
  split at h
  · cases h; exact .inl ⟨_, _, rfl, rfl, rfl, by simp⟩
  · cases h; exact .inl ⟨_, _, rfl, rfl, rfl, by simp⟩
  · cases h; exact .inl ⟨_, _, rfl, rfl, rfl, by simp⟩
  · cases h; exact .inl ⟨_, _, rfl, rfl, rfl, by simp⟩
  · cases h; exact .inl ⟨_, _, rfl, rfl, rfl, by simp⟩
  · exact .inr (eqD?_some h)
theorem RV.flatS {W : Wd} {H : Hp} {u : U} {v w : V} (r : RV K W H u v) (e : Vi.flatS u = some w) : v = w := by
  cases r <;> first | (cases e; rfl) | cases e
theorem op_eqU (hu : X.A.units + 64 < cLine) : OpR X (compareOp .Eq) (lo X.K bEq) := by
  refine OpR.wk (op_eq.or (op_eqD hu)) fun x y H Q ⟨W, env, h, σ, u, w, P, S, ru, rw_, ht, c⟩ => ?_
  unfold bEq at ht
  split at ht
  · rename_i b eb
    rcases eqU?_some eb with ⟨x, y, h1, h2, h3, rfl⟩ | ⟨d, e, h1, h2, h3, h4, rfl⟩
    · cases ru.flatS h1
      cases rw_.flatS h2
      exact .inl ⟨h3, c.val S (.bl _) ht⟩
    · exact .inr ⟨d, e, ru.dp h1, rw_.dp h2, h3, h4, c.val S (.bl _) ht⟩
  · exact ht.elim
theorem op_neU (hu : X.A.units + 64 < cLine) : OpR X (compareOp .NotEq) (lo X.K bNe) := by
  refine OpR.wk (op_ne.or (op_neD hu)) fun x y H Q ⟨W, env, h, σ, u, w, P, S, ru, rw_, ht, c⟩ => ?_
  unfold bNe at ht
  split at ht
  · rename_i b eb
    rcases eqU?_some eb with ⟨x, y, h1, h2, h3, rfl⟩ | ⟨d, e, h1, h2, h3, h4, rfl⟩
    · cases ru.flatS h1
      cases rw_.flatS h2
      exact .inl ⟨h3, c.val S (.bl _) ht⟩
    · exact .inr ⟨d, e, ru.dp h1, rw_.dp h2, h3, h4, c.val S (.bl _) ht⟩
  · exact ht.elim
/-- a flat value -/
@[simp] def flatU : U → Option V
  | .non => some .non
  | .bl b => some (.bl b)
  | .int i => some (.int i)
  | .str x => some (.str x)
  | _ => none
@[simp] def flatUs : List U → Option (List V)
  | [] => some []
  | u :: us => match flatU u, flatUs us with
    | some v, some vs => some (v :: vs)
    | _, _ => none
theorem RV.flat {W : Wd} {H : Hp} {u : U} {v w : V} (r : RV K W H u v) (e : flatU u = some w) : v = w ∧ flatV v = true := by
  cases r <;> first | (cases e; exact ⟨rfl, rfl⟩) | cases e
theorem RVs.flat {W : Wd} {H : Hp} : ∀ {us : List U} {vs ws : List V}, RVs K W H us vs → flatUs us = some ws → vs = ws ∧ vs.all flatV = true
  | _, _, _, .nil, e => by cases e; exact ⟨rfl, rfl⟩
  | _, _, _, .cons (u := u) (us := us) a b, e => by
    unfold flatUs at e
    cases q : flatU u with
    | none => rw [q] at e; cases e
    | some v =>
      cases q2 : flatUs us with
      | none => rw [q, q2] at e; cases e
      | some vs =>
        rw [q, q2] at e
        cases e
        obtain ⟨h1, h2⟩ := a.flat q
        obtain ⟨h3, h4⟩ := RVs.flat b q2
        exact ⟨by rw [h1, h3], by rw [List.all_cons, h2, h4]; rfl⟩
@[simp] def seqU : U → Option (List U)
  | .tup us => some us
  | .lst us => some us
  | _ => none
/-- x in a list or tuple of flat values -/
def inU? (u w : U) : Option Bool := match flatU u, (seqU w).bind flatUs with
  | some v, some vs => some (inV v vs)
  | _, _ => none
@[simp] def bIn (neg : Bool) : UO := fun u w h P => match inU? u w with
  | some b => P (.val (.bl (if neg then !b else b))) h
  | none => False
theorem rIn_of {neg : Bool} {x y : V} {H : Hp} {Q : VK} (h : lo K (bIn neg) x y H Q) : rIn K neg x y H Q := by
  obtain ⟨W, env, h, σ, u, w, P, S, ru, rw_, ht, c⟩ := h
  unfold bIn at ht
  split at ht
  · rename_i b e
    unfold inU? at e
    split at e
    · rename_i v vs h1 h2
      cases e
      obtain ⟨ev, fv⟩ := ru.flat h1
      subst ev
      cases rw_ with
      | tup hq r =>
        obtain ⟨e2, f2⟩ := r.flat h2
        subst e2
        exact ⟨_, _, rfl, .inr hq.sq, fv, f2, c.val S (.bl _) ht⟩
      | lst n hq r =>
        obtain ⟨e2, f2⟩ := r.flat h2
        subst e2
        exact ⟨_, _, rfl, .inl (.inl (.inl hq)), fv, f2, c.val S (.bl _) ht⟩
      | _ => cases h2
    · cases e
  · exact ht.elim
theorem op_inU : OpR X (compareOp .In) (lo X.K (bIn false)) := OpR.wk op_in_seq fun _ _ _ _ => rIn_of
theorem op_notInU : OpR X (compareOp .NotIn) (lo X.K (bIn true)) := OpR.wk op_notIn_seq fun _ _ _ _ => rIn_of
/-- is None -/
@[simp] def isNon : U → Bool
  | .non => true
  | _ => false
@[simp] def bIsN (neg : Bool) : UO := fun u w h P => match w with
  | .non => P (.val (.bl (if neg then !isNon u else isNon u))) h
  | _ => False
theorem RV.isNon {W : Wd} {H : Hp} {u : U} {v : V} (r : RV K W H u v) : decide (v = .non) = Vi.isNon u := by
  cases r <;> rfl
theorem op_isNU : OpR X (compareOp .Is) (lo X.K (bIsN false)) := by
  refine OpR.wk op_isN fun x y H Q ⟨W, env, h, σ, u, w, P, S, ru, rw_, ht, c⟩ => ?_
  unfold bIsN at ht
  split at ht
  · refine ⟨rw_.non_, ?_⟩
    rw [ru.isNon]
    exact c.val S (.bl _) ht
  · exact ht.elim
theorem op_notNU : OpR X (compareOp .IsNot) (lo X.K (bIsN true)) := by
  refine OpR.wk op_notN fun x y H Q ⟨W, env, h, σ, u, w, P, S, ru, rw_, ht, c⟩ => ?_
  unfold bIsN at ht
  split at ht
  · refine ⟨rw_.non_, ?_⟩
    rw [ru.isNon]
    exact c.val S (.bl _) ht
  · exact ht.elim

/-! ### subscripts -/
def obL (h : Hv) (i : Nat) : Option (List U) := match h[i]? with
  | some (.lst us) => some us
  | _ => none
/-- a list's, a tuple's items as they stand -/
@[simp] def itemsAt (h : Hv) : U → Option (List U)
  | .tup us => some us
  | .lst us => some us
  | .scr ns => some (ns.map U.int)
  | .ref i => obL h i
  | _ => none
theorem obL_at {W : Wd} {H : Hp} {h : Hv} {i : Nat} {us : List U} {a : Addr} (S : SimH K W h H) (e : obL h i = some us) (m : W.mp[i]? = some a) : W.own a = some (.obj i) ∧ ∃ vs, H a = some (.lst vs) ∧ RVs K W H us vs := by
  unfold obL at e
  split at e
  · rename_i us' e1
    cases e
    obtain ⟨b, m1, n, vs, e2, r⟩ := S.objs i _ e1
    rw [m] at m1
    cases m1
    exact ⟨n, vs, e2, r⟩
  · cases e
theorem RV.items {W : Wd} {H : Hp} {h : Hv} {u : U} {v : V} {us : List U} (S : SimH K W h H) (r : RV K W H u v) (e : itemsAt h u = some us) : ∃ a vs, v = .ref a ∧ (SqL K H a vs ∨ SqT K H a vs) ∧ RVs K W H us vs := by
  cases r with
  | tup hq r => cases e; exact ⟨_, _, rfl, .inr hq.sq, r⟩
  | lst n hq r => cases e; exact ⟨_, _, rfl, .inl (.inl (.inl hq)), r⟩
  | scr hq => cases e; exact ⟨_, _, rfl, .inl hq.sq, RVs.ints _⟩
  | ref m n =>
    obtain ⟨_, vs, e2, r⟩ := obL_at S e m
    exact ⟨_, vs, rfl, .inl (.inl (.inl e2)), r⟩
  | _ => cases e
theorem RVs.atI {W : Wd} {H : Hp} {us : List U} {vs : List V} {i : Int} {u : U} (r : RVs K W H us vs) (e : L2.atI us i = some u) : ∃ v, L2.atI vs i = some v ∧ RV K W H u v := by
  unfold L2.atI at e ⊢
  rw [← r.length]
  cases q : ixN us.length i with
  | none => rw [q] at e; cases e
  | some j =>
    rw [q] at e
    exact r.get e
@[simp] def bIx : UO := fun u w h P => match w with
  | .int i => (match itemsAt h u with
    | some us => (match L2.atI us i with
      | some x => P (.val x) h
      | none => False)
    | none => (match u with
      | .str z => z.length ≤ sizeLine ∧ (match L2.atI z.cps.toList i with
        | some c => P (.val (.str ⟨#[c]⟩)) h
        | none => False)
      | _ => False))
  | _ => False
theorem ix_U : IxR X (lo X.K bIx) := by
  refine IxR.wk ix_seq fun x y H Q ⟨W, env, h, σ, u, w, P, S, ru, rw_, ht, c⟩ => ?_
  unfold bIx at ht
  split at ht
  · cases rw_
    split at ht
    · rename_i us e
      split at ht
      · rename_i z ez
        obtain ⟨a, vs, rfl, hq, r⟩ := ru.items S.sh e
        obtain ⟨v, ev, rv⟩ := r.atI ez
        rcases hq with hq | hq
        · exact .inl ⟨a, vs, _, v, rfl, rfl, hq, ev, c.val S rv ht⟩
        · exact .inr (.inl ⟨a, vs, _, v, rfl, rfl, hq, ev, c.val S rv ht⟩)
      · exact ht.elim
    · split at ht
      · rename_i z _
        obtain ⟨hz, ht⟩ := ht
        split at ht
        · rename_i cc ec
          cases ru
          exact .inr (.inr ⟨z, _, cc, rfl, rfl, hz, ec, c.val S (.str _) ht⟩)
        · exact ht.elim
      · exact ht.elim
  · exact ht.elim
end
end Vi

/-! Vi5: lists that change, slices, what is built in, comprehensions. -/
namespace Vi
open PySem PySem.Spec PyProof.Rows L2
variable [WW]

/-! ### a list at its owner changes -/
section
variable {K : PySem.W.Frag} {W : Wd} {H : Hp} {h : Hv} {env : En} {σ : L2.St}
/-- what stands at a changes, its owner stays -/
theorem SimH.upd_ {a : Addr} {w : Ow} {o o' : HO} (S : SimH K W h H) (n : W.own a = some w) (hf : w ≠ .frz) (ea : H a = some o) (mu : Mut (some o)) : LeW W H W (upd H a o') := by
  have ne : ∀ b o, H b = some o → ¬ Mut (some o) → b ≠ a := fun b o e z q => by subst q; rw [ea] at e; cases e; exact z mu
  refine ⟨⟨fun b o e f => ⟨f, .inl ?_⟩, fun b u e => ?_, fun b o u e => ?_, ⟨[], by simp⟩, fun _ _ _ f => f⟩, fun b o e f => ⟨f, ?_⟩⟩
  · rw [upd_ne (fun q => by subst q; rw [n] at f; cases f; exact hf rfl)]; exact e
  · rw [upd_ne (ne b _ e (fun z => z))]; exact e
  · rw [upd_ne (ne b _ e (fun z => z))]; exact e
  · rw [upd_ne (fun q => by subst q; rw [n] at f; cases f)]; exact e
theorem Sim.upd_any {k : Nat} {sv' : Sv} {a : Addr} {o o' : HO} (S : Sim K W env h σ H) (hk : k < env.length) (ev : σ[k]? = some (some (.ref a))) (n : W.own a = some (.slot k)) (ea : H a = some o) (mu : Mut (some o))
    (new : RSv K W (upd H a o') (.slot k) sv' (.ref a)) : Sim K W (env.set k (some sv')) h σ (upd H a o') ∧ LeW W H W (upd H a o') := by
  have l : LeW W H W (upd H a o') := S.sh.upd_ n (fun z => by cases z) ea mu
  refine ⟨⟨⟨S.sh.len, fun i o eo => ?_, fun b w eb => ?_⟩, by simpa using S.len, fun j sv ej => ?_⟩, l⟩
  · obtain ⟨b, m, nb, ro⟩ := S.sh.objs i o eo
    refine ⟨b, m, nb, ?_⟩
    cases o with
    | lst us2 =>
      obtain ⟨vs2, e3, r3⟩ := ro
      exact ⟨vs2, by rw [upd_ne (fun q => by subst q; rw [n] at nb; cases nb)]; exact e3, r3.le l.toLeP⟩
  · by_cases z : b = a
    · subst z; exact ⟨_, upd_same⟩
    · rw [upd_ne z]; exact S.sh.dom b w eb
  · by_cases z : j = k
    · subst z
      rw [List.getElem?_set_self hk] at ej
      cases ej
      exact ⟨_, ev, new⟩
    · rw [List.getElem?_set_ne (Ne.symm z)] at ej
      obtain ⟨v, e3, r3⟩ := S.slots j sv ej
      refine ⟨v, e3, ?_⟩
      cases sv with
      | val u => exact RV.le l.toLeP r3
      | own us2 =>
        obtain ⟨b, vs2, rfl, nb, eb, rb⟩ := r3
        have ne : b ≠ a := fun q => by
          subst q
          rw [n] at nb
          cases nb
          exact z rfl
        exact ⟨b, vs2, rfl, nb, by rw [upd_ne ne]; exact eb, rb.le l.toLeP⟩
      | dic ks2 us2 =>
        obtain ⟨b, o2, kv2, vv2, rfl, nb, eb, ds, r4, r5⟩ := r3
        have ne : b ≠ a := fun q => by
          subst q
          rw [n] at nb
          cases nb
          exact z rfl
        exact ⟨b, o2, kv2, vv2, rfl, nb, by rw [upd_ne ne]; exact eb, ds, r4.le l.toLeP, r5.le l.toLeP⟩
theorem Sim.upd_slot {k : Nat} {us us' : List U} {vs' : List V} {a : Addr} (S : Sim K W env h σ H) (e : env[k]? = some (some (.own us))) (ev : σ[k]? = some (some (.ref a))) (r' : RVs K W H us' vs') :
    Sim K W (env.set k (some (.own us'))) h σ (upd H a (.lst vs')) ∧ LeW W H W (upd H a (.lst vs')) := by
  obtain ⟨v, e1, b, vs, e2, n, ea, rv⟩ := S.slots k _ e
  rw [ev] at e1
  cases e1
  cases e2
  have l : LeW W H W (upd H a (.lst vs')) := S.sh.upd_ n (fun z => by cases z) ea trivial
  exact S.upd_any (List.getElem?_eq_some_iff.mp e).1 ev n ea trivial ⟨a, vs', rfl, n, upd_same, r'.le l.toLeP⟩
theorem Sim.upd_obj {i : Nat} {us us' : List U} {vs' : List V} {a : Addr} (S : Sim K W env h σ H) (e : obL h i = some us) (m : W.mp[i]? = some a) (r' : RVs K W H us' vs') :
    Sim K W env (h.set i (.lst us')) σ (upd H a (.lst vs')) ∧ LeW W H W (upd H a (.lst vs')) := by
  obtain ⟨n, vs, ea, rv⟩ := obL_at S.sh e m
  have l : LeW W H W (upd H a (.lst vs')) := S.sh.upd_ n (fun z => by cases z) ea trivial
  have hi : i < h.length := by
    unfold obL at e
    split at e
    · rename_i e1; exact (List.getElem?_eq_some_iff.mp e1).1
    · cases e
  refine ⟨⟨⟨by simpa using S.sh.len, fun j o eo => ?_, fun b w eb => ?_⟩, S.len, fun j sv ej => ?_⟩, l⟩
  · by_cases z : j = i
    · subst z
      rw [List.getElem?_set_self hi] at eo
      cases eo
      exact ⟨a, m, n, vs', upd_same, r'.le l.toLeP⟩
    · rw [List.getElem?_set_ne (Ne.symm z)] at eo
      obtain ⟨b, mb, nb, ro⟩ := S.sh.objs j o eo
      have ne : b ≠ a := fun q => by
        subst q
        rw [n] at nb
        cases nb
        exact z rfl
      refine ⟨b, mb, nb, ?_⟩
      cases o with
      | lst us2 =>
        obtain ⟨vs2, e3, r3⟩ := ro
        exact ⟨vs2, by rw [upd_ne ne]; exact e3, r3.le l.toLeP⟩
  · by_cases z : b = a
    · subst z; exact ⟨_, upd_same⟩
    · rw [upd_ne z]; exact S.sh.dom b w eb
  · obtain ⟨v, e3, r3⟩ := S.slots j sv ej
    refine ⟨v, e3, ?_⟩
    cases sv with
    | val u => exact RV.le l.toLeP r3
    | own us2 =>
      obtain ⟨b, vs2, rfl, nb, eb, rb⟩ := r3
      exact ⟨b, vs2, rfl, nb, by rw [upd_ne (fun q => by subst q; rw [n] at nb; cases nb)]; exact eb, rb.le l.toLeP⟩
    | dic ks2 us2 =>
      obtain ⟨b, o2, kv2, vv2, rfl, nb, eb, ds, r4, r5⟩ := r3
      exact ⟨b, o2, kv2, vv2, rfl, nb, by rw [upd_ne (fun q => by subst q; rw [n] at nb; cases nb)]; exact eb, ds, r4.le l.toLeP, r5.le l.toLeP⟩
theorem Sim.own_at {k : Nat} {us : List U} (S : Sim K W env h σ H) (e : env[k]? = some (some (.own us))) : ∃ a vs, σ[k]? = some (some (.ref a)) ∧ H a = some (.lst vs) ∧ RVs K W H us vs := by
  obtain ⟨v, e1, a, vs, rfl, n, ea, rv⟩ := S.slots k _ e
  exact ⟨a, vs, e1, ea, rv⟩
end

/-! ### methods of a list that a name owns -/
abbrev UMt := List U → List U → (U → List U → Prop) → Prop
@[simp] def uMt (k : Nat) (f : UMt) (t : UA) : UE := fun env h Po Pe => (∃ us, env[k]? = some (some (.own us))) ∧ t env h (fun args env1 h1 => match env1[k]? with
  | some (some (.own us)) => f us args fun u us' => Po (.val u) (env1.set k (some (.own us'))) h1
  | _ => False) Pe
/-- the method's rule, by trees -/
def MtU (X : Cx) (id : String) (f : UMt) : Prop := MtR X id fun x vs H Q => ∃ K W us args a xs, x = .ref a ∧ H a = some (.lst xs) ∧ RVs K W H us xs ∧ RVs K W H args vs ∧ ∃ P, f us args P ∧ ∀ u us' v vs', RV K W H u v → RVs K W H us' vs' → P u us' → Q v (upd H a (.lst vs'))
section
variable {X : Cx} {L : Lx}
theorem we_mt {k : Nat} {f : UMt} {e : Expr} {es : List Expr} {x name : Str} {p apos cpos : Pos} {t : UA} {id : String} (hK : L.K = X.K) (slot : Slot "list" name id) (hty : typeOf (.builtin id) = pure (.type "method_descriptor")) (hm : MtU X id f)
    (hx : PE X (.Name x p) (tVar k)) (ha : WA X L (e :: es) t)
    (hbase : attributeBase (.Name x p) name X.env (eval (.Name x p) X.env) = eval (.Name x p) X.env := by rfl)
    (hfew : ((backTo cpos (starEach (e :: es) X.env)).all (fun x => !x.1) && (backToKw cpos (keywordEach [] X.env)).all (fun x => x.1.isSome) && decide ((e :: es).length + ([] : List Keyword).length + (if ([] : List Keyword).isEmpty then 0 else 1) < 30)) = true := by rfl)
    (hline : (apos.endLine == cpos.line) = true := by rfl) (hs : starEach (e :: es) X.env = (false, eval e X.env) :: starEach es X.env := by rfl) (hplain : (backTo cpos (starEach es X.env)).any (·.1) = false := by rfl) :
    WE X L (.Call (.Attribute (.Name x p) name apos) (e :: es) [] cpos) (uMt k f t) := by
  refine PE.wk (pe_bm PySem.F.plainAttrs_list slot hty hm hx ha hbase hfew hline hs hplain) fun σ H Q ⟨W, env, h, Po, Pe, S, ⟨⟨us0, e0⟩, ht⟩, c⟩ => ?_
  obtain ⟨a, vs0, ev, ea, _⟩ := S.own_at e0
  refine ⟨_, ev, .inl ⟨rfl, vs0, .inl (.inl ea)⟩, W, env, h, _, _, S, ht, ⟨fun W1 args env1 h1 avs H1 l1 S1 r1 q1 => ?_, c.er⟩⟩
  split at q1
  · rename_i us e1
    obtain ⟨b, vs, ev1, eb, rv⟩ := S1.own_at e1
    rw [ev] at ev1
    cases ev1
    refine ⟨L.K, W1, us, args, a, vs, rfl, eb, rv, r1, _, q1, fun u us' v vs' ru rus q => ?_⟩
    obtain ⟨S2, l2⟩ := S1.upd_slot e1 ev rus
    exact c.ok W1 (.val u) _ h1 v _ (l1.trans l2) S2 (RV.le l2.toLeP ru) q
  · exact q1.elim
theorem we_mt0 {k : Nat} {f : UMt} {x name : Str} {p apos cpos : Pos} {id : String} (hK : L.K = X.K) (slot : Slot "list" name id) (hty : typeOf (.builtin id) = pure (.type "method_descriptor")) (hm : MtU X id f)
    (hx : PE X (.Name x p) (tVar k))
    (hbase : attributeBase (.Name x p) name X.env (eval (.Name x p) X.env) = eval (.Name x p) X.env := by rfl)
    (hline : (apos.endLine == cpos.line) = true := by rfl) :
    WE X L (.Call (.Attribute (.Name x p) name apos) [] [] cpos) (uMt k f uNil) := by
  refine PE.wk (pe_bm0 PySem.F.plainAttrs_list slot hty hm hx hbase hline) fun σ H Q ⟨W, env, h, Po, Pe, S, ⟨⟨us0, e0⟩, q1⟩, c⟩ => ?_
  obtain ⟨a, vs0, ev, ea, rv⟩ := S.own_at e0
  refine ⟨_, ev, .inl ⟨rfl, vs0, .inl (.inl ea)⟩, ?_⟩
  have q2 : f us0 [] fun u us' => Po (.val u) (env.set k (some (.own us'))) h := by
    have q3 := q1
    unfold uNil at q3
    simp only [e0] at q3
    exact q3
  refine ⟨L.K, W, us0, [], a, vs0, rfl, ea, rv, .nil, _, q2, fun u us' v vs' ru rus q => ?_⟩
  obtain ⟨S2, l2⟩ := S.upd_slot e0 ev rus
  exact c.ok W (.val u) _ h v _ l2 S2 (RV.le l2.toLeP ru) q
@[simp] def fAppend : UMt := fun us args P => match args with
  | [u] => us.length < sizeLine ∧ P .non (us ++ [u])
  | _ => False
theorem mtU_append : MtU X "list.append" fAppend := by
  intro pins s σ H x xs v us Q I rx rs q
  obtain ⟨K, W, as, args, a, ys, rfl, ea, rv, ra, P, hf, c⟩ := q
  unfold fAppend at hf
  split at hf
  · obtain ⟨y, rfl, ry⟩ := RVs.one ra
    exact mt_append pins s σ H _ _ v us Q I rx rs ⟨a, ys, y, rfl, rfl, ea, by rw [← rv.length]; exact hf.1, c _ _ _ _ .non (rv.append (.cons ry .nil)) hf.2⟩
  · exact hf.elim
@[simp] def fInsert : UMt := fun us args P => match args with
  | [.int i, u] => us.length < sizeLine ∧ 0 ≤ i ∧ i < 2 ^ 63 ∧ P .non (us.take i.toNat ++ [u] ++ us.drop i.toNat)
  | _ => False
theorem mtU_insert : MtU X "list.insert" fInsert := by
  intro pins s σ H x xs v us Q I rx rs q
  obtain ⟨K, W, as, args, a, ys, rfl, ea, rv, ra, P, hf, c⟩ := q
  unfold fInsert at hf
  split at hf
  · obtain ⟨y, z, rfl, ry, rz⟩ := RVs.two ra
    cases ry.int_
    exact mt_insert pins s σ H _ _ v us Q I rx rs ⟨a, ys, _, z, rfl, rfl, ea, by rw [← rv.length]; exact hf.1, hf.2.1, hf.2.2.1, c _ _ _ _ .non (((rv.take _).append (.cons rz .nil)).append (rv.drop _)) hf.2.2.2⟩
  · exact hf.elim
end

/-! ### x[i] = e -/
/-- a list that a name owns, or a shared one -/
@[simp] def setAt (k : Nat) (i : U) (u : U) (env : En) (h : Hv) (Q : En → Hv → Prop) : Prop := match i, env[k]? with
  | .int i, some (some (.own us)) => (match ixN us.length i with
    | some j => Q (env.set k (some (.own (us.set j u)))) h
    | none => False)
  | .int i, some (some (.val (.ref r))) => (match obL h r with
    | some us => (match ixN us.length i with
      | some j => Q env (h.set r (.lst (us.set j u)))
      | none => False)
    | none => False)
  | _, _ => False
@[simp] def uSetIx (k : Nat) (ti te : UE) : US := fun env h P => te env h (fun sv env1 h1 => (∃ x, env1[k]? = some (some x)) ∧ ti env1 h1 (fun iv env2 h2 => setAt k iv.u sv.u env2 h2 P.nx) P.er) P.er
section
variable {X : Cx} {L : Lx}
/-- the store, by values -/
theorem setAt_ok {k : Nat} {i u : U} {W : Wd} {env : En} {h : Hv} {σ : L2.St} {H : Hp} {iv y : V} {P : En → Hv → Prop} (S : Sim L.K W env h σ H) (ri : RV L.K W H i iv) (ru : RV L.K W H u y) (q : setAt k i u env h P) :
    ∃ a xs z j, σ[k]? = some (some (.ref a)) ∧ iv = .int z ∧ H a = some (.lst xs) ∧ ixN xs.length z = some j ∧ ∃ env' h', Sim L.K W env' h' σ (upd H a (.lst (xs.set j y))) ∧ LeW W H W (upd H a (.lst (xs.set j y))) ∧ P env' h' := by
  unfold setAt at q
  split at q
  · rename_i z us e
    obtain ⟨a, vs, ev, ea, rv⟩ := S.own_at e
    split at q
    · rename_i j ej
      cases ri.int_
      obtain ⟨S2, l2⟩ := S.upd_slot e ev (rv.set ru j)
      exact ⟨a, vs, _, j, ev, rfl, ea, by rw [← rv.length]; exact ej, _, _, S2, l2, q⟩
    · exact q.elim
  · rename_i z r e
    obtain ⟨v, ev, rr⟩ := S.slots k _ e
    cases ri.int_
    split at q
    · rename_i us eo
      split at q
      · rename_i j ej
        cases rr with
        | ref m n =>
          obtain ⟨_, vs, ea, rv⟩ := obL_at S.sh eo m
          obtain ⟨S2, l2⟩ := S.upd_obj eo m (rv.set ru j)
          exact ⟨_, vs, _, j, ev, rfl, ea, by rw [← rv.length]; exact ej, _, _, S2, l2, q⟩
      · exact q.elim
    · exact q.elim
  · exact q.elim
theorem ws_setIx {k : Nat} {x : Str} {p pos pos' : Pos} {i e : Expr} {ti te : UE} (he : WE X L e te) (hx : PE X (.Name x p) (tVar k)) (hi : WE X L i ti) (hs : swapsWithSole [.Subscript (.Name x p) i pos'] e pos.line X.env = pure false := by rfl)
    (hw : swappedStores [.Subscript (.Name x p) i pos'] e X.env = pure none := by rfl) (h1 : (assignEach [.Subscript (.Name x p) i pos'] X.env).map (·.2) = [assign (.Subscript (.Name x p) i pos') X.env] := by rfl)
    (hsub : ∀ v, assign (.Subscript (.Name x p) i pos') X.env v = (do
      let ov ← holding [v] (eval (.Name x p) X.env)
      let iv ← holding [v, ov] (eval i X.env)
      standAt pos'
      holding [v, ov, iv] (setItem ov iv v)
      release [v, ov, iv] []) := by intro _; rfl) : WS X L (.Assign [.Subscript (.Name x p) i pos'] e pos) (uSetIx k ti te) := by
  refine PS.wk (ps_asg he (pg_sub hx hi set_list hsub) hs hw h1) fun D σ H ⟨W, env, h, P, S, ht, c⟩ => ?_
  refine ⟨W, env, h, _, _, S, ht, ⟨fun W1 sv env1 h1 y H1 l1 S1 r1 q1 => ?_, c.ret.er⟩⟩
  obtain ⟨W1', S1', l1', rv1⟩ := S1.freeze r1
  have c1 := c.le (l1.trans l1')
  obtain ⟨⟨x0, e0⟩, q1⟩ := q1
  obtain ⟨v, ev, _⟩ := S1'.slots k x0 e0
  refine ⟨v, ev, W1', env1, h1, _, _, S1', q1, ⟨fun W2 iv env2 h2 z H2 l2 S2 r2 q2 => ?_, c1.ret.er⟩⟩
  obtain ⟨W2', S2', l2', rv2⟩ := S2.freeze r2
  obtain ⟨a, xs, n, j, ev2, e3, ea, ej, env', h', S3, l3, q3⟩ := setAt_ok S2' rv2 (rv1.le (l2.trans l2').toLeP) q2
  rw [ev] at ev2
  cases ev2
  exact ⟨a, xs, n, j, rfl, e3, ea, ej, c1.nx W2' env' h' σ _ ((l2.trans l2').trans l3) S3 q3⟩
/-- x[i] += e, x a shared list -/
@[simp] def getAt (k : Nat) (i : U) (env : En) (h : Hv) (Q : U → Prop) : Prop := match i, env[k]? with
  | .int i, some (some (.own us)) => (match L2.atI us i with
    | some u => Q u
    | none => False)
  | .int i, some (some (.val (.ref r))) => (match obL h r with
    | some us => (match L2.atI us i with
      | some u => Q u
      | none => False)
    | none => False)
  | _, _ => False
theorem get_list : PGet X (rIxL X.K) := by
  intro pins s σ H o i ov iv Q I ro ri q
  obtain ⟨a, xs, n, y, rfl, rfl, hq, hy, q⟩ := q
  cases ro
  obtain ⟨t, rfl⟩ := ri
  obtain ⟨its, rv, pl, hz⟩ := I.list hq
  obtain ⟨j, g1, g2, g3, g4, g5⟩ := atI_get hy
  obtain ⟨w, ew, rw'⟩ := rv.get g2
  have hl := rv.length
  have hn := line63
  by_cases h0 : 0 ≤ n
  · have hj : n.toNat = j := Option.some.inj ((seqIndex_of h0 g5).symm.trans g1)
    exact wpAny_getItem_list pl.isList h0 (by omega) (x := w) (by rw [hj]; simpa using ew) ⟨y, H, I, rw', q⟩
  · have hj : (n + (its.toArray.size : Int)).toNat = j := by
      have g1' := g1
      rw [seqIndex_neg (by omega) g4] at g1'
      rw [List.size_toArray, ← hl]
      exact Option.some.inj g1'
    exact wpAny_getItem_list_neg pl.isList (by omega) (by rw [List.size_toArray]; omega) (by omega) (x := w) (by rw [hj]; simpa using ew) ⟨y, H, I, rw', q⟩
/-- an operator in its in-place form, by trees -/
def IpU (X : Cx) (op : Operator) (f : UO) : Prop := PIp X op (lo X.K f)
theorem ip_addU : IpU X .Add (bInt2 (fun _ _ => True) fun i j => i + j) := by
  intro pins s σ H x y v u Q I rx ry q
  obtain ⟨W, env, h, σ', a, b, P, S, ra, rb, ht, c⟩ := q
  unfold bInt2 at ht
  split at ht
  · cases ra; cases rb
    exact ip_add pins s σ H _ _ v u Q I rx ry ⟨_, _, rfl, rfl, c.val S (.int _) ht.2⟩
  · exact ht.elim
theorem ip_subU : IpU X .Sub bSub := by
  intro pins s σ H x y v u Q I rx ry q
  obtain ⟨W, env, h, σ', a, b, P, S, ra, rb, ht, c⟩ := q
  unfold bSub bInt2 at ht
  split at ht
  · cases ra; cases rb
    exact ip_sub pins s σ H _ _ v u Q I rx ry ⟨_, _, rfl, rfl, c.val S (.int _) ht.2⟩
  · exact ht.elim
@[simp] def uAug (k : Nat) (f : UO) (te : UE) : US := fun env h P => match env[k]? with
  | some (some (.val u)) => te env h (fun sv env1 h1 => f u sv.u h1 fun z h2 => k < env1.length ∧ P.nx (env1.set k (some (.val z.u))) h2) P.er
  | _ => False
theorem ws_aug {k : Nat} {x : Str} {pos pos' : Pos} {e : Expr} {te : UE} {op : Operator} {f : UO} (hp : PS X (.AugAssign (.Name x pos') op e pos) (tAug k (lg L (RT L) te) (lo X.K f))) (hK : L.K = X.K) : WS X L (.AugAssign (.Name x pos') op e pos) (uAug k f te) := by
  refine PS.wk hp fun D σ H ⟨W, env, h, P, S, ht, c⟩ => ?_
  unfold uAug at ht
  split at ht
  · rename_i u e0
    obtain ⟨v, ev, rv⟩ := S.slots k _ e0
    refine ⟨v, ev, W, env, h, _, _, S, ht, ⟨fun W1 sv env1 h1 y H1 l1 S1 r1 q1 => ?_, c.ret.er⟩⟩
    obtain ⟨W1', S1', l1', rv1⟩ := S1.freeze r1
    have c1 := c.le (l1.trans l1')
    have rv0 : RV L.K W H u v := rv
    rw [← hK]
    refine ⟨W1', env1, h1, σ, u, sv.u, _, S1', rv0.le (l1.trans l1').toLeP, rv1, q1, fun W3 z h3 v3 H3 l3 S3 r3 q3 => ?_⟩
    obtain ⟨W4, S4, l4, r4⟩ := S3.freeze r3
    exact c1.nx W4 _ h3 _ H3 (l3.trans l4) (S4.store q3.1 r4) q3.2
  · exact ht.elim
/-- x[i] op= e -/
@[simp] def uAugIx (k : Nat) (f : UO) (ti te : UE) : US := fun env h P => (∃ x, env[k]? = some (some x)) ∧ ti env h (fun iv env1 h1 => getAt k iv.u env1 h1 fun old => te env1 h1 (fun sv env2 h2 => f old sv.u h2 fun z h3 => setAt k iv.u z.u env2 h3 P.nx) P.er) P.er
theorem getAt_ok {k : Nat} {i : U} {W : Wd} {env : En} {h : Hv} {σ : L2.St} {H : Hp} {iv : V} {Q : U → Prop} (S : Sim L.K W env h σ H) (ri : RV L.K W H i iv) (q : getAt k i env h Q) :
    ∃ a xs z y u, σ[k]? = some (some (.ref a)) ∧ iv = .int z ∧ H a = some (.lst xs) ∧ L2.atI xs z = some y ∧ RV L.K W H u y ∧ Q u := by
  unfold getAt at q
  split at q
  · rename_i z us e
    obtain ⟨a, vs, ev, ea, rv⟩ := S.own_at e
    split at q
    · rename_i u eu
      cases ri.int_
      obtain ⟨y, ey, ry⟩ := rv.atI eu
      exact ⟨a, vs, _, y, u, ev, rfl, ea, ey, ry, q⟩
    · exact q.elim
  · rename_i z r e
    obtain ⟨v, ev, rr⟩ := S.slots k _ e
    cases ri.int_
    split at q
    · rename_i us eo
      split at q
      · rename_i u eu
        cases rr with
        | ref m n =>
          obtain ⟨_, vs, ea, rv⟩ := obL_at S.sh eo m
          obtain ⟨y, ey, ry⟩ := rv.atI eu
          exact ⟨_, vs, _, y, u, ev, rfl, ea, ey, ry, q⟩
      · exact q.elim
    · exact q.elim
  · exact q.elim
theorem ws_augIx {k : Nat} {x : Str} {p pos tpos : Pos} {i e : Expr} {ti te : UE} {op : Operator} {f : UO} (hK : L.K = X.K) (hx : PE X (.Name x p) (tVar k)) (hi : WE X L i ti) (he : WE X L e te) (hf : IpU X op f)
    (ha : ∀ ov iv new, augStore i ov iv new = (do holding [new, ov, iv] (setItem ov iv new); release [new, ov, iv] []; pure .next) := by intros; rfl) : WS X L (.AugAssign (.Subscript (.Name x p) i tpos) op e pos) (uAugIx k f ti te) := by
  refine PS.wk (ps_augS hx hi get_list he hf set_list ha) fun D σ H ⟨W, env, h, P, S, ⟨⟨x0, e0⟩, ht⟩, c⟩ => ?_
  obtain ⟨v, ev, _⟩ := S.slots k x0 e0
  refine ⟨v, ev, W, env, h, _, _, S, ht, ⟨fun W1 iv env1 h1 y1 H1 l1 S1 r1 q1 => ?_, c.ret.er⟩⟩
  obtain ⟨W1', S1', l1', rv1⟩ := S1.freeze r1
  have c1 := c.le (l1.trans l1')
  obtain ⟨a, xs, z, y, u, ev2, e3, ea, ey, ry, q2⟩ := getAt_ok S1' rv1 q1
  rw [ev] at ev2
  cases ev2
  subst e3
  refine ⟨a, xs, z, y, rfl, rfl, .inl (.inl ea), ey, ?_⟩
  refine ⟨W1', env1, h1, _, _, S1', q2, ⟨fun W2 sv env2 h2 y2 H2 l2 S2 r2 q3 => ?_, c1.ret.er⟩⟩
  obtain ⟨W2', S2', l2', rv2⟩ := S2.freeze r2
  have c2 := c1.le (l2.trans l2')
  rw [← hK]
  refine ⟨W2', env2, h2, σ, u, sv.u, _, S2', ry.le (l2.trans l2').toLeP, rv2, q3, fun W3 nz h3 v3 H3 l3 S3 r3 q4 => ?_⟩
  obtain ⟨W4, S4, l4, r4⟩ := S3.freeze r3
  obtain ⟨a', xs', z', j, ev3, e4, ea', ej, env', h', S5, l5, q5⟩ := setAt_ok S4 (rv1.le (((l2.trans l2').trans l3).trans l4).toLeP) r4 q4
  rw [ev] at ev3
  cases ev3
  cases e4
  exact ⟨a, xs', z, j, rfl, rfl, ea', ej, c2.nx W4 env' h' σ _ ((l3.trans l4).trans l5) S5 q5⟩
end
end Vi

/-! Vi6: slices, what is built in, comprehensions. -/
namespace Vi
open PySem PySem.Spec PyProof.Rows L2
variable [WW]

/-! ### slices -/
def cutU {α : Type} (xs : List α) (lo hi : Option Int) : List α := (xs.drop (HT.sIx xs.length 0 lo)).take (HT.sIx xs.length xs.length hi - HT.sIx xs.length 0 lo)
abbrev USl := U → Option Int → Option Int → Hv → (Sv → Hv → Prop) → Prop
/-- a written end of a slice -/
@[simp] def uNoP : UM (Option Int) := fun env h Po _ => Po none env h
@[simp] def svI : Sv → (Int → Prop) → Prop
  | .val (.int i), P => P i
  | _, _ => False
@[simp] def uP (t : UE) : UM (Option Int) := fun env h Po Pe => t env h (fun sv env1 h1 => svI sv fun i => Po (some i) env1 h1) Pe
@[simp] def uSl (f : USl) (t : UE) (tl th : UM (Option Int)) : UE := fun env h Po Pe => t env h (fun sv env1 h1 => tl env1 h1 (fun lo env2 h2 => th env2 h2 (fun hi env3 h3 => f sv.u lo hi h3 fun r h4 => Po r env3 h4) Pe) Pe) Pe
abbrev RP : Wd → Hp → Option Int → Option Int → Prop := fun _ _ a b => a = b
def WP (X : Cx) (L : Lx) (e : Option Expr) (t : UM (Option Int)) : Prop := PO X e (lg L RP t)
@[simp] def bSl : USl := fun u lo hi h P => match u with
  | .tup us => P (.val (.tup (cutU us lo hi))) h
  | .lst us => P (.own (cutU us lo hi)) h
  | .scr ns => P (.own (cutU (ns.map U.int) lo hi)) h
  | _ => False
section
variable {X : Cx} {L : Lx} {K : PySem.W.Frag}
theorem PO.wk {e : Option Expr} {t t' : TO} (h : PO X e t) (w : ∀ σ H Q, t' σ H Q → t σ H Q) : PO X e t' := ⟨fun pins s σ H Q I q => h.run pins s σ H Q I (w _ _ _ q)⟩
theorem wp_none : WP X L none uNoP := PO.wk po_none fun σ H Q ⟨W, env, h, Po, Pe, S, ht, c⟩ => c.ok W none env h none H .refl S rfl ht
theorem wp_some {e : Expr} {t : UE} (h : WE X L e t) : WP X L (some e) (uP t) := by
  refine PO.wk (po_some h) fun σ H Q ⟨W, env, h, Po, Pe, S, ht, c⟩ => ?_
  refine ⟨W, env, h, _, _, S, ht, ⟨fun W1 sv env1 h1 y H1 l1 S1 r1 q1 => ?_, c.er⟩⟩
  unfold svI at q1
  split at q1
  · have r2 : RV L.K W1 H1 (.int _) y := r1
    cases r2.int_
    exact ⟨_, rfl, c.ok W1 _ env1 h1 _ H1 l1 S1 rfl q1⟩
  · exact q1.elim
/-- a slice by values, by trees -/
def lsl (K : PySem.W.Frag) (f : USl) : V → Option Int → Option Int → Hp → VK → Prop := fun x lo hi H Q => ∃ W env h σ u P, Sim K W env h σ H ∧ RV K W H u x ∧ f u lo hi h P ∧ OCont K W H env σ P Q
theorem we_sl {f : USl} {e : Expr} {lo hi : Option Expr} {t : UE} {tl th : UM (Option Int)} {p2 pos : Pos} (hr : SlR X (lsl L.K f)) (he : WE X L e t) (hl : WP X L lo tl) (hu : WP X L hi th) : WE X L (.Subscript e (.Slice lo hi none p2) pos) (uSl f t tl th) := by
  refine PE.wk (pe_slice hr he hl hu) fun σ H Q ⟨W, env, h, Po, Pe, S, ht, c⟩ => ?_
  refine ⟨W, env, h, _, _, S, ht, ⟨fun W1 sv env1 h1 y H1 l1 S1 r1 q1 => ?_, c.er⟩⟩
  obtain ⟨W1', S1', l1', rv1⟩ := S1.freeze r1
  have c1 := c.le (l1.trans l1')
  refine ⟨W1', env1, h1, _, _, S1', q1, ⟨fun W2 a env2 h2 b H2 l2 S2 r2 q2 => ?_, c1.er⟩⟩
  cases r2
  have c2 := c1.le l2
  refine ⟨W2, env2, h2, _, _, S2, q2, ⟨fun W3 a' env3 h3 b' H3 l3 S3 r3 q3 => ?_, c2.er⟩⟩
  cases r3
  exact ⟨W3, env3, h3, σ, sv.u, _, S3, rv1.le (l2.trans l3).toLeP, q3, fun W4 r h4 v4 H4 l4 S4 r4 q4 => (c2.le l3).ok W4 r env3 h4 v4 H4 l4 S4 r4 q4⟩
theorem RVs.cut {W : Wd} {H : Hp} {us : List U} {vs : List V} (r : RVs K W H us vs) (lo hi : Option Int) : RVs K W H (cutU us lo hi) (cutV vs lo hi) := by
  unfold cutU cutV
  rw [r.length]
  exact (r.drop _).take _
theorem SlR.wk {r r' : V → Option Int → Option Int → Hp → VK → Prop} (h : SlR X r) (w : ∀ x lo hi H Q, r' x lo hi H Q → r x lo hi H Q) : SlR X r' := fun pins s σ H x v vl vu lo hi sl Q I rx hs pl pu q => h pins s σ H x v vl vu lo hi sl Q I rx hs pl pu (w _ _ _ _ _ q)
theorem cutU_all {α : Type} {xs : List α} {lo hi : Option Int} (h : HT.sIx xs.length 0 lo = 0 ∧ HT.sIx xs.length xs.length hi = xs.length) : cutU xs lo hi = xs := by
  unfold cutU
  rw [h.1, h.2]
  simp
theorem sl_U : SlR X (lsl X.K bSl) := by
  refine SlR.wk (sl_list.or (sl_tupA.or sl_tupF)) fun x lo hi H Q ⟨W, env, h, σ, u, P, S, ru, ht, c⟩ => ?_
  unfold bSl at ht
  split at ht
  · rename_i us
    have ru0 := ru
    cases ru with
    | tup hq r =>
      have el := r.length
      by_cases z : HT.sIx us.length 0 lo = 0 ∧ HT.sIx us.length us.length hi = us.length
      · refine .inr (.inl ⟨_, _, rfl, hq.sq, fun _ => ?_, fun z' => absurd (by rw [← el]; exact z) z'⟩)
        rw [cutU_all z] at ht
        exact c.val S ru0 ht
      · exact .inr (.inr ⟨_, _, rfl, hq.sq, by rw [← el]; exact z, c.tup S (r.cut lo hi) ht⟩)
  · cases ru with
    | lst n e r => exact .inl ⟨_, _, rfl, .inl (.inl e), fun p hp => c.lst S (r.cut lo hi) ht hp⟩
  · cases ru with
    | scr e => exact .inl ⟨_, _, rfl, e.sq, fun p hp => c.lst S ((RVs.ints _).cut lo hi) ht hp⟩
  · exact ht.elim
end

/-! ### what is built in -/
section
variable {X : Cx} {K : PySem.W.Frag}
@[simp] def bLen : UB := fun us h P => match us with
  | [u] => (match itemsAt h u with
    | some xs => P (.val (.int (xs.length : Int))) h
    | none => (match u with
      | .str z => z.length ≤ sizeLine ∧ P (.val (.int (z.length : Int))) h
      | _ => False))
  | _ => False
theorem call_lenU : CallR X (.builtin "len") (lb X.K bLen) := by
  refine CallR.wk (Vi.CallR.or call_len_seq call_len_str) fun xs H Q ⟨W, env, h, σ, us, P, S, r, ht, c⟩ => ?_
  unfold bLen at ht
  split at ht
  · rename_i u
    obtain ⟨v, rfl, ru⟩ := RVs.one r
    split at ht
    · rename_i ys e
      obtain ⟨a, vs, rfl, hq, rs⟩ := ru.items S.sh e
      refine .inl ⟨a, vs, rfl, hq, ?_⟩
      rw [← rs.length]
      exact c.val S (.int _) ht
    · split at ht
      · cases ru
        exact .inr ⟨_, rfl, ht.1, c.val S (.int _) ht.2⟩
      · exact ht.elim
  · exact ht.elim
@[simp] def bInt : UB := fun us h P => match us with
  | [.int i] => P (.val (.int i)) h
  | [.bl b] => P (.val (.int (if b then 1 else 0))) h
  | [.str a] => (match PySem.intText? a with
    | some n => a.length ≤ 640 ∧ P (.val (.int n)) h
    | none => False)
  | _ => False
theorem call_intU : CallR X (.type "int") (lb X.K bInt) := by
  refine CallR.wk (Vi.CallR.or call_int1 L2.call_int_str) fun xs H Q ⟨W, env, h, σ, us, P, S, r, ht, c⟩ => ?_
  unfold bInt at ht
  split at ht
  · obtain ⟨v, rfl, ru⟩ := RVs.one r
    cases ru
    exact .inl (.inl ⟨_, rfl, c.val S (.int _) ht⟩)
  · obtain ⟨v, rfl, ru⟩ := RVs.one r
    cases ru
    exact .inl (.inr ⟨_, rfl, c.val S (.int _) ht⟩)
  · obtain ⟨v, rfl, ru⟩ := RVs.one r
    cases ru
    split at ht
    · rename_i n e
      exact .inr ⟨_, n, rfl, e, ht.1, c.val S (.int _) ht.2⟩
    · exact ht.elim
  · exact ht.elim
@[simp] def bTuple : UB := fun us h P => match us with
  | [u] => (match seqU u with
    | some xs => P (.val (.tup xs)) h
    | none => False)
  | _ => False
theorem call_tupleU : CallR X (.type "tuple") (lb X.K bTuple) := by
  refine CallR.wk (call_tuple_of.or call_tupF) fun xs H Q ⟨W, env, h, σ, us, P, S, r, ht, c⟩ => ?_
  unfold bTuple at ht
  split at ht
  · obtain ⟨v, rfl, ru⟩ := RVs.one r
    split at ht
    · rename_i e
      have ru0 := ru
      cases ru with
      | tup hq rs => cases e; exact .inl ⟨_, _, rfl, .inr ⟨hq.sq, c.val S ru0 ht⟩⟩
      | lst n hq rs => cases e; exact .inr ⟨_, _, rfl, .inl (.inl hq), c.tup S rs ht⟩
      | _ => cases e
    · exact ht.elim
  · exact ht.elim
@[simp] def bList : UB := fun us h P => match us with
  | [u] => (match itemsAt h u with
    | some xs => P (.own xs) h
    | none => False)
  | _ => False
theorem call_listU : CallR X (.type "list") (lb X.K bList) := by
  refine CallR.wk call_list_of fun xs H Q ⟨W, env, h, σ, us, P, S, r, ht, c⟩ => ?_
  unfold bList at ht
  split at ht
  · obtain ⟨v, rfl, ru⟩ := RVs.one r
    split at ht
    · rename_i e
      obtain ⟨a, vs, rfl, hq, rs⟩ := ru.items S.sh e
      exact ⟨a, vs, rfl, hq, fun p hp => c.lst S rs ht hp⟩
    · exact ht.elim
  · exact ht.elim
/-- max, min of two ints -/
@[simp] def bMax : UB := fun us h P => match us with
  | [.int i, .int j] => P (.val (.int (if j > i then j else i))) h
  | _ => False
@[simp] def bMin : UB := fun us h P => match us with
  | [.int i, .int j] => P (.val (.int (if j < i then j else i))) h
  | _ => False
theorem call_maxU (hc : X.calm = true) : CallR X (.builtin "max") (lb X.K bMax) := by
  refine CallR.wk (call_max2 hc) fun xs H Q ⟨W, env, h, σ, us, P, S, r, ht, c⟩ => ?_
  unfold bMax at ht
  split at ht
  · obtain ⟨v, w, rfl, ru, rw_⟩ := RVs.two r
    cases ru; cases rw_
    exact ⟨_, _, rfl, c.val S (.int _) ht⟩
  · exact ht.elim
theorem call_minU (hc : X.calm = true) : CallR X (.builtin "min") (lb X.K bMin) := by
  refine CallR.wk (call_min2 hc) fun xs H Q ⟨W, env, h, σ, us, P, S, r, ht, c⟩ => ?_
  unfold bMin at ht
  split at ht
  · obtain ⟨v, w, rfl, ru, rw_⟩ := RVs.two r
    cases ru; cases rw_
    exact ⟨_, _, rfl, c.val S (.int _) ht⟩
  · exact ht.elim
/-- repr of data -/
def reprU (u : U) : Option Str := match toD u with
  | some d => if d.showable && !d.hasDict && decide (d.depth ≤ 60) && decide (d.shown.length ≤ sizeLine) then some d.shown else none
  | none => none
@[simp] def bRepr : UB := fun us h P => match us with
  | [u] => (match reprU u with
    | some x => P (.val (.str x)) h
    | none => False)
  | _ => False
theorem call_reprU (hg : X.A.guards = some []) (hu : X.A.units + 64 < cLine) : CallR X (.builtin "repr") (lb X.K bRepr) := by
  intro pins s σ H xs us Q I r q
  obtain ⟨W, env, h, σ', ws, P, S, rr, ht, c⟩ := q
  unfold bRepr at ht
  split at ht
  · rename_i u
    obtain ⟨v, rfl, ru⟩ := RVs.one rr
    split at ht
    · rename_i x ex
      unfold reprU at ex
      split at ex
      · rename_i d ed
        split at ex
        · rename_i hc
          simp only [Bool.and_eq_true, decide_eq_true_eq, Bool.not_eq_true'] at hc
          obtain ⟨⟨⟨hs, hd⟩, hdp⟩, hz⟩ := hc
          cases ex
          obtain ⟨w, rfl, rx⟩ := vals1 r
          have fin : ∀ (h' : Heap) (u' : Tok) (tk : Nat), (∀ b o, s.heap.get? b = some o → h'.get? b = some o) → EP X pins σ Q (.str d.shown u') { s with heap := h', toks := tk } := fun h' u' tk hk =>
            ⟨.str d.shown, H, I.kept (h' := h') (t' := tk) hk, ⟨u', rfl⟩, c.val S (.str _) ht⟩
          obtain ⟨as, rd⟩ := Dp.reads I d v w (ru.dp ed) rx
          cases rd with
          | none => exact PySem.P.repr_of_none (fin s.heap _ _ fun _ _ e => e)
          | bool b => exact PySem.P.repr_of_bool (by cases b <;> exact fin s.heap _ _ fun _ _ e => e)
          | int i t => exact PySem.P.repr_of_int (by simpa [PyData.showable] using hs) (fin s.heap _ _ fun _ _ e => e)
          | str z t => exact PySem.P.repr_of_str (fin s.heap _ _ fun _ _ e => e) (by simpa [PyData.shown] using hz)
          | list h1 h2 h3 h4 => exact PySem.repr_of_reads' (.list h1 h2 h3 h4) hs (fun z => by rw [hd] at z; cases z) hg (by omega) (fun _ _ e => e) (fun h' u' tk hk => fin h' u' tk hk) hz
          | tuple h1 h2 h3 h4 => exact PySem.repr_of_reads' (.tuple h1 h2 h3 h4) hs (fun z => by rw [hd] at z; cases z) hg (by omega) (fun _ _ e => e) (fun h' u' tk hk => fin h' u' tk hk) hz
          | dict h1 h2 h3 h4 h5 => simp [PyData.hasDict] at hd
        · cases ex
      · cases ex
    · exact ht.elim
  · exact ht.elim
end
end Vi

/-! Vi7: comprehensions; a list that a name owns, read; the end of a law. -/
namespace Vi
open PySem PySem.Spec PyProof.Rows L2
variable [WW]

/-! ### comprehensions -/
@[simp] def wipeE (env : En) : List Nat → En
  | [] => env
  | v :: vs => (wipeE env vs).set v none
/-- behind the block: its own names as they were -/
@[simp] def restoreE (env0 env1 : En) : List Nat → En
  | [] => env1
  | v :: vs => (restoreE env0 env1 vs).set v (match env0[v]? with
    | some (some (.val u)) => some (.val u)
    | _ => none)
@[simp] def noEx : Ex → En → Hv → Prop := fun _ _ _ => False
def compU (g : UG) (tt : UT) (te : UE) (vs : List Nat) (Po : List U → En → Hv → Prop) : List U → List U → En → Hv → Prop
  | [], acc, env, h => Po acc env h
  | u :: us, acc, env, h => g u env h fun env1 h1 => tt env1 h1 (fun b env2 h2 => if b = true then te env2 h2 (fun sv env3 h3 => acc.length < sizeLine ∧ compU g tt te vs Po us (acc ++ [sv.u]) (wipeE env3 vs) h3) noEx
    else compU g tt te vs Po us acc (wipeE env2 vs) h2) noEx
@[simp] def uLc (ti : UM (List U)) (g : UG) (tt : UT) (te : UE) (vs : List Nat) : UE := fun env h Po Pe => ti env h (fun us env1 h1 => compU g tt te vs (fun acc env2 h2 => Po (.own acc) (restoreE env1 env2 vs) h2) us [] (wipeE env1 vs) h1) Pe
@[simp] def uYes : UT := fun env h Po _ => Po true env h
section
variable {K : PySem.W.Frag} {W : Wd} {H : Hp} {h : Hv} {env env0 env1 : En} {σ σ' : L2.St}
theorem wipeE_length : ∀ vs : List Nat, (wipeE env vs).length = env.length
  | [] => rfl
  | v :: vs => by unfold wipeE; rw [List.length_set, wipeE_length vs]
theorem wipeE_get {k : Nat} {sv : Sv} : ∀ {vs : List Nat}, (wipeE env vs)[k]? = some (some sv) → env[k]? = some (some sv) ∧ k ∉ vs
  | [], e => ⟨e, by simp⟩
  | v :: vs, e => by
    unfold wipeE at e
    by_cases z : k = v
    · subst z
      rw [List.getElem?_set] at e
      split at e
      · split at e <;> cases e
      · rename_i q; exact absurd rfl q
    · rw [List.getElem?_set_ne (Ne.symm z)] at e
      obtain ⟨h1, h2⟩ := wipeE_get e
      exact ⟨h1, by simp [z, h2]⟩
theorem wipe_get {k : Nat} : ∀ {vs : List Nat}, k ∉ vs → (wipe σ vs)[k]? = σ[k]?
  | [], _ => rfl
  | v :: vs, e => by
    unfold wipe
    rw [List.getElem?_set_ne (fun z => e (by simp [z]))]
    exact wipe_get (fun z => e (by simp [z]))
theorem Sim.wipe (S : Sim K W env h σ H) (vs : List Nat) : Sim K W (wipeE env vs) h (L2.wipe σ vs) H := by
  refine ⟨S.sh, by rw [wipeE_length, wipe_length, S.len], fun k sv e => ?_⟩
  obtain ⟨e1, e2⟩ := wipeE_get e
  obtain ⟨v, e3, r⟩ := S.slots k sv e1
  exact ⟨v, by rw [wipe_get e2]; exact e3, r⟩
theorem wipe_off {ks vs : List Nat} (hk : ∀ k ∈ ks, k ∈ vs) (o : SameOff ks σ σ') : L2.wipe σ' vs = L2.wipe σ vs := by
  have key : ∀ ws : List Nat, ∀ j, (j ∈ ws ∨ σ'[j]? = σ[j]?) → (L2.wipe σ' ws)[j]? = (L2.wipe σ ws)[j]? := by
    intro ws
    induction ws with
    | nil => intro j hj; rcases hj with z | z; cases z; exact z
    | cons w ws ih =>
      intro j hj
      unfold L2.wipe
      by_cases z : j = w
      · subst z
        rw [List.getElem?_set, List.getElem?_set, if_pos rfl, if_pos rfl, wipe_length, wipe_length, o.1]
      · rw [List.getElem?_set_ne (Ne.symm z), List.getElem?_set_ne (Ne.symm z)]
        exact ih j (hj.imp (fun q => (List.mem_cons.mp q).resolve_left z) fun q => q)
  apply List.ext_getElem?
  intro j
  by_cases z : j ∈ vs
  · exact key vs j (.inl z)
  · exact key vs j (.inr (o.2 j fun q => z (hk j q)).symm)
theorem wipe_wipe (vs : List Nat) : L2.wipe (L2.wipe σ vs) vs = L2.wipe σ vs :=
  wipe_off (ks := vs) (fun _ z => z) ⟨(wipe_length σ vs).symm, fun j hj => (wipe_get hj).symm⟩
theorem restoreE_length : ∀ vs : List Nat, (restoreE env0 env1 vs).length = env1.length
  | [] => rfl
  | v :: vs => by unfold restoreE; rw [List.length_set, restoreE_length vs]
theorem restoreE_get {k : Nat} {sv : Sv} : ∀ {vs : List Nat}, (restoreE env0 env1 vs)[k]? = some (some sv) → (k ∉ vs ∧ env1[k]? = some (some sv)) ∨ ∃ u, sv = .val u ∧ env0[k]? = some (some (.val u))
  | [], e => .inl ⟨by simp, e⟩
  | v :: vs, e => by
    unfold restoreE at e
    by_cases z : k = v
    · subst z
      rw [List.getElem?_set, if_pos rfl] at e
      split at e
      · split at e
        · rename_i u eu
          cases e
          exact .inr ⟨u, rfl, eu⟩
        · cases e
      · cases e
    · rw [List.getElem?_set_ne (Ne.symm z)] at e
      rcases restoreE_get e with ⟨h1, h2⟩ | h1
      · exact .inl ⟨by simp [z, h1], h2⟩
      · exact .inr h1
theorem Sim.restore {W1 : Wd} {H1 : Hp} {h1 : Hv} {vs : List Nat} (S0 : Sim K W env0 h σ H) (l : LeW W H W1 H1) (S1 : Sim K W1 env1 h1 (L2.wipe σ vs) H1) : Sim K W1 (restoreE env0 env1 vs) h1 σ H1 := by
  refine ⟨S1.sh, by rw [restoreE_length, S1.len, wipe_length], fun k sv e => ?_⟩
  rcases restoreE_get e with ⟨hk, e1⟩ | ⟨u, rfl, e1⟩
  · obtain ⟨v, ev, r⟩ := S1.slots k sv e1
    rw [wipe_get hk] at ev
    exact ⟨v, ev, r⟩
  · obtain ⟨v, ev, r⟩ := S0.slots k _ e1
    exact ⟨v, ev, RV.le l.toLeP r⟩
/-- what stands at a list that nobody owns yet changes: all else stays -/
theorem Sim.upd0 {D : Addr} {xs ys : List V} (S : Sim K W env h σ H) (n : W.own D = none) (e : H D = some (.lst xs)) : LeP W H W (upd H D (.lst ys)) ∧ Sim K W env h σ (upd H D (.lst ys)) := by
  have ne : ∀ b w, W.own b = some w → b ≠ D := fun b w q z => by subst z; rw [n] at q; cases q
  have l : LeP W H W (upd H D (.lst ys)) := by
    refine ⟨fun b o eb f => ⟨f, .inl (by rw [upd_ne (ne b _ f)]; exact eb)⟩, fun b vs eb => ?_, fun b o u eb => ?_, ⟨[], by simp⟩, fun _ _ _ f => f⟩
    · rw [upd_ne (fun z => by subst z; rw [e] at eb; cases eb)]; exact eb
    · rw [upd_ne (fun z => by subst z; rw [e] at eb; cases eb)]; exact eb
  refine ⟨l, ⟨⟨S.sh.len, fun i o eo => ?_, fun a w ea => ?_⟩, S.len, fun k sv es => ?_⟩⟩
  · obtain ⟨a, m, na, r⟩ := S.sh.objs i o eo
    refine ⟨a, m, na, ?_⟩
    cases o with
    | lst us =>
      obtain ⟨vs, e1, rv⟩ := r
      exact ⟨vs, by rw [upd_ne (ne a _ na)]; exact e1, rv.le l⟩
  · by_cases z : a = D
    · subst z; exact ⟨_, upd_same⟩
    · rw [upd_ne z]; exact S.sh.dom a w ea
  · obtain ⟨v, e1, r⟩ := S.slots k sv es
    refine ⟨v, e1, ?_⟩
    cases sv with
    | val u => exact RV.le l r
    | own us =>
      obtain ⟨a, vs, rfl, na, ea, rv⟩ := r
      exact ⟨a, vs, rfl, na, by rw [upd_ne (ne a _ na)]; exact ea, rv.le l⟩
    | dic ks us =>
      obtain ⟨a, o, kv, vv, rfl, na, ea, ds, r1, r2⟩ := r
      exact ⟨a, o, kv, vv, rfl, na, by rw [upd_ne (ne a _ na)]; exact ea, ds, r1.le l, r2.le l⟩
theorem LeW.upd0 {W0 : Wd} {H0 : Hp} {D : Addr} {xs ys : List V} (l : LeW W0 H0 W H) (n0 : H0 D = none) (n : W.own D = none) (e : H D = some (.lst xs)) : LeW W0 H0 W (upd H D (.lst ys)) := by
  refine ⟨⟨fun b o eb f => ?_, fun b vs eb => ?_, fun b o u eb => ?_, l.mp, l.ob⟩, fun b o eb f => ?_⟩
  · have ne : b ≠ D := fun z => by subst z; rw [n0] at eb; cases eb
    rw [upd_ne ne]; exact l.fr b o eb f
  · have ne : b ≠ D := fun z => by subst z; rw [n0] at eb; cases eb
    rw [upd_ne ne]; exact l.tp b vs eb
  · have ne : b ≠ D := fun z => by subst z; rw [n0] at eb; cases eb
    rw [upd_ne ne]; exact l.fz b o u eb
  · have ne : b ≠ D := fun z => by subst z; rw [n0] at eb; cases eb
    rw [upd_ne ne]; exact l.st b o eb f
end
/-- the block's tests -/
def WTs (X : Cx) (L : Lx) (ifs : List Expr) (t : UT) : Prop := PTs X ifs (lg L RB t)
section
variable {X : Cx} {L : Lx}
theorem PTs.wk {e : List Expr} {t t' : TT} (h : PTs X e t) (w : ∀ σ H Q, t' σ H Q → t σ H Q) : PTs X e t' := ⟨fun pins s σ H Q I q => h.run pins s σ H Q I (w _ _ _ q)⟩
theorem wts_nil : WTs X L [] uYes := PTs.wk pts_nil fun σ H Q ⟨W, env, h, Po, Pe, S, ht, c⟩ => c.ok W true env h true H .refl S rfl ht
theorem wts_one {c : Expr} {t : UT} (h : WT X L c t) : WTs X L [c] t := pts_one h
/-- where no exception is wished for -/
abbrev Lx.nox (L : Lx) : Lx := ⟨L.K, L.ga, fun _ _ _ _ => False⟩
theorem takes_nox {X : Cx} {L : Lx} : Takes X L.nox.wx := takes0
theorem lg_lc {tg iter : Expr} {ti : UM (List U)} {ks vs : List Nat} {g : UG} {tt : UT} {te : UE} (hks : ∀ k ∈ ks, k ∈ vs) {σ : L2.St} {H : Hp} {Q : VK} (h : lg L (RT L) (uLc ti g tt te vs) σ H Q) :
    tLc (lg L (Wk L.K) ti) (lgG L.nox ks g) (lg L.nox RB tt) (lg L.nox (RT L.nox) te) vs σ H Q := by
  obtain ⟨W, env, h, Po, Pe, S, hti, c⟩ := h
  refine ⟨W, env, h, _, _, S, hti, ⟨fun W1 us env1 h1 J H1 l1 S1 wk q1 => ?_, c.er⟩⟩
  intro D hD
  have nD : W1.own D = none := S1.sh.own_none hD
  have lD := LeW.none_ S1.sh hD (.lst [])
  refine ⟨fun i m H' => m = us.length - i ∧ i ≤ us.length ∧ ∃ W' env' h' acc accV, LeW W1 H1 W' H' ∧ Sim L.K W' env' h' (L2.wipe σ vs) H' ∧ W'.own D = none ∧ H' D = some (.lst accV) ∧ RVs L.K W' H' acc accV ∧
    compU g tt te vs (fun acc env2 h2 => Po (.own acc) (restoreE env1 env2 vs) h2) (us.drop i) acc env' h', ⟨us.length, by simp, Nat.zero_le _, W1, wipeE env1 vs, h1, [], [], lD, (S1.wipe vs).none_ hD _, nD, upd_same, .nil, q1⟩, ?_⟩
  rintro i m H' ⟨rfl, hi, W', env', h', acc, accV, l', S', n', eD, ra, q'⟩
  by_cases hlt : i < us.length
  · obtain ⟨go, yl⟩ := (wk W' H' l' i).2 us[i] (by simp [hlt])
    rw [List.drop_eq_getElem_cons hlt] at q'
    refine .inr ⟨go, fun H2 => ∃ W2 env2 h2 acc2 accV2, LeW W1 H1 W2 H2 ∧ Sim L.K W2 env2 h2 (L2.wipe σ vs) H2 ∧ W2.own D = none ∧ H2 D = some (.lst accV2) ∧ RVs L.K W2 H2 acc2 accV2 ∧
      compU g tt te vs (fun acc env2 h2 => Po (.own acc) (restoreE env1 env2 vs) h2) (us.drop (i + 1)) acc2 env2 h2, fun H2 z => ⟨us.length - (i + 1), by omega, rfl, hlt, z⟩, fun x H2 y => ?_⟩
    obtain ⟨l2, S2, rv⟩ := yl x H2 y
    refine ⟨W', env', h', _, _, S2 _ _ _ S', rv, q', fun env3 h3 σ3 S3 off q3 => ?_⟩
    have ew : L2.wipe σ3 vs = L2.wipe σ vs := (wipe_off hks off).trans (wipe_wipe vs)
    refine ⟨ew, W', env3, h3, _, _, S3, q3, ⟨fun W4 b env4 h4 b' H4 l4 S4 rb q4 => ?_, fun _ _ _ _ _ _ _ _ _ _ z => z.elim⟩⟩
    cases rb
    have l24 := l2.trans l4
    have l14 := l'.trans l24
    obtain ⟨n4, e4⟩ := l24.st D _ eD n'
    have ra4 := ra.le l24.toLeP
    cases b with
    | false =>
      rw [if_neg Bool.false_ne_true] at q4 ⊢
      have S5 := S4.wipe vs
      rw [ew] at S5
      exact ⟨W4, _, h4, acc, accV, l14, S5, n4, e4, ra4, q4⟩
    | true =>
      rw [if_pos rfl] at q4 ⊢
      refine ⟨W4, env4, h4, _, _, S4, q4, ⟨fun W5 sv env5 h5 v H5 l5 S5 r5 q5 => ?_, fun _ _ _ _ _ _ _ _ _ _ z => z.elim⟩⟩
      obtain ⟨W6, S6, l6, r6⟩ := S5.freeze r5
      have l56 := l5.trans l6
      obtain ⟨n6, e6⟩ := l56.st D _ e4 n4
      have l16 := l14.trans l56
      obtain ⟨lp, S7⟩ := S6.upd0 (ys := accV ++ [v]) n6 e6
      have S8 := S7.wipe vs
      rw [ew] at S8
      have ra6 := (ra4.le l56.toLeP)
      refine ⟨accV, e6, by rw [← ra.length]; exact q5.1, W6, _, h5, _, _, l16.upd0 hD n6 e6, S8, n6, upd_same, (ra6.le lp).append (.cons (r6.le lp) .nil), q5.2⟩
  · have e : i = us.length := by omega
    subst e
    refine .inl ⟨(wk W' H' l' _).1 (Nat.le_refl _), ?_⟩
    rw [List.drop_length] at q'
    have S2 : Sim L.K W' (restoreE env1 env' vs) h' σ H' := S1.restore l' S'
    -- the new list is ours
    have hne : ∀ b w, W'.own b = some w → b ≠ D := fun b w q z => by subst z; rw [n'] at q; cases q
    have lp : LeP W' H' (W'.put D (some .tmp)) H' := ⟨fun b o eb f => ⟨by rw [Wd.put_ne (hne b _ f)]; exact f, .inl eb⟩, fun _ _ e => e, fun _ _ _ e => e, ⟨[], by simp [Wd.put]⟩, fun i b _ f => by rw [Wd.put_ne (hne b _ f)]; exact f⟩
    have lw : LeW W1 H1 (W'.put D (some .tmp)) H' := by
      refine ⟨l'.toLeP.trans lp, fun b o eb f => ?_⟩
      have ne : b ≠ D := fun z => by subst z; rw [hD] at eb; cases eb
      rw [Wd.put_ne ne]
      exact l'.st b o eb f
    refine c.ok (W'.put D (some .tmp)) (.own acc) _ h' (.ref D) H' (l1.trans lw) ⟨⟨S2.sh.len, fun j o eo => ?_, fun a w ea => ?_⟩, S2.len, fun k sv es => ?_⟩ ⟨D, accV, rfl, Wd.put_same, eD, ra.le lp⟩ q'
    · obtain ⟨a, m, na, r⟩ := S2.sh.objs j o eo
      refine ⟨a, m, by rw [Wd.put_ne (hne a _ na)]; exact na, ?_⟩
      cases o with
      | lst us2 =>
        obtain ⟨vs2, e3, r3⟩ := r
        exact ⟨vs2, e3, r3.le lp⟩
    · by_cases z : a = D
      · subst z; exact ⟨_, eD⟩
      · rw [Wd.put_ne z] at ea; exact S2.sh.dom a w ea
    · obtain ⟨v, e1, r⟩ := S2.slots k sv es
      refine ⟨v, e1, ?_⟩
      cases sv with
      | val u => exact RV.le lp r
      | own us2 =>
        obtain ⟨a, vs2, rfl, na, ea, rv⟩ := r
        exact ⟨a, vs2, rfl, by rw [Wd.put_ne (hne a _ na)]; exact na, ea, rv.le lp⟩
      | dic ks2 us2 =>
        obtain ⟨a, o2, kv2, vv2, rfl, na, ea, ds, r3, r4⟩ := r
        exact ⟨a, o2, kv2, vv2, rfl, by rw [Wd.put_ne (hne a _ na)]; exact na, ea, ds, r3.le lp, r4.le lp⟩
theorem we_lc {elt tg iter : Expr} {ifs : List Expr} {scope : Scope} {own : List (Str × Nat)} {pos : Pos} {ti : UM (List U)} {ks : List Nat} {g : UG} {tt : UT} {te : UE} (hc : X.calm = true) (hN : X.N.Nodup) (hi : WI X L tg iter ti) (ok : BlkOk X.N X.env.scope scope own) (hks : ∀ k ∈ ks, k ∈ own.map (·.2))
    (hg : ∀ (s : Shared) (H : Hp) (C : Addr) (cl : List (Str × Addr)) (fp : List Addr), WG (X.blk s H scope (compEnvC scope cl C X.env) fp) L.nox tg ks g) (ht : ∀ (s : Shared) (H : Hp) (C : Addr) (cl : List (Str × Addr)) (fp : List Addr), WTs (X.blk s H scope (compEnvC scope cl C X.env) fp) L.nox ifs tt)
    (he : ∀ (s : Shared) (H : Hp) (C : Addr) (cl : List (Str × Addr)) (fp : List Addr), WE (X.blk s H scope (compEnvC scope cl C X.env) fp) L.nox elt te) (hs : ∀ x, foldedSetIterable iter X.env x = pure x := by intro _; rfl) :
    WE X L (.ListComp elt [⟨tg, iter, ifs, 0⟩] scope pos) (uLc ti g tt te (own.map (·.2))) :=
  PE.wk (pe_lc hc hN hi ok hg ht he hs) fun _ _ _ h => lg_lc (tg := tg) (iter := iter) hks h
/-- name = [..] on one line, the name a plain local -/
theorem ps_lcU {i : Nat} {y : Str} {py : Pos} {elt tg iter : Expr} {ifs : List Expr} {scope : Scope} {own : List (Str × Nat)} {pos spos : Pos} {ti : UM (List U)} {ks : List Nat} {g : UG} {tt : UT} {te : UE} (hc : X.calm = true) (hN : X.N.Nodup) (hy : X.N[i]? = some y) (hyl : X.env.scope.names.lookup y = some .local)
    (hsw : swapsWith (.ListComp elt [⟨tg, iter, ifs, 0⟩] scope pos) (some (.Name y py)) spos.line X.env = pure true) (hi : WI X L tg iter ti) (ok : BlkOk X.N X.env.scope scope own) (hks : ∀ k ∈ ks, k ∈ own.map (·.2))
    (hg : ∀ (s : Shared) (H : Hp) (C : Addr) (cl : List (Str × Addr)) (fp : List Addr), WG (X.blk s H scope (compEnvC scope cl C X.env) fp) L.nox tg ks g) (ht : ∀ (s : Shared) (H : Hp) (C : Addr) (cl : List (Str × Addr)) (fp : List Addr), WTs (X.blk s H scope (compEnvC scope cl C X.env) fp) L.nox ifs tt)
    (he : ∀ (s : Shared) (H : Hp) (C : Addr) (cl : List (Str × Addr)) (fp : List Addr), WE (X.blk s H scope (compEnvC scope cl C X.env) fp) L.nox elt te) (hs : ∀ x, foldedSetIterable iter X.env x = pure x := by intro _; rfl) :
    PS X (.Assign [.Name y py] (.ListComp elt [⟨tg, iter, ifs, 0⟩] scope pos) spos) (tAsg (lg L (RT L) (uLc ti g tt te (own.map (·.2)))) (gName i)) :=
  PS.wk (ps_setLc hc hN hy hyl hsw hi ok hg ht he hs) fun D σ H h => lg_lc (tg := tg) (iter := iter) hks h
end
end Vi

/-! Vi8: a list that a name owns, read; the end of a law. -/
namespace Vi
open PySem PySem.Spec PyProof.Rows L2
variable [WW]

/-! ### a list that a name owns, read where it stands -/
@[simp] def ownAt (env : En) (k : Nat) (Q : List U → Prop) : Prop := match env[k]? with
  | some (some (.own us)) => Q us
  | _ => False
@[simp] def uLenO (k : Nat) : UE := fun env h Po _ => ownAt env k fun us => Po (.val (.int (us.length : Int))) env h
@[simp] def uIxO (k : Nat) (ti : UE) : UE := fun env h Po Pe => (∃ us, env[k]? = some (some (.own us))) ∧ ti env h (fun iv env1 h1 => ownAt env1 k fun us => match iv.u with
  | .int i => (match L2.atI us i with
    | some u => Po (.val u) env1 h1
    | none => False)
  | _ => False) Pe
/-- x == e, x != e -/
@[simp] def uEqO (k : Nat) (neg : Bool) (tb : UE) : UE := fun env h Po Pe => (∃ us, env[k]? = some (some (.own us))) ∧ tb env h (fun sv env1 h1 => ownAt env1 k fun us => match eqD? (.lst us) sv.u with
  | some b => Po (.val (.bl (if neg then !b else b))) env1 h1
  | none => False) Pe
@[simp] def uInO (k : Nat) (neg : Bool) (te : UE) : UE := fun env h Po Pe => te env h (fun sv env1 h1 => ownAt env1 k fun us => match inU? sv.u (.lst us) with
  | some b => Po (.val (.bl (if neg then !b else b))) env1 h1
  | none => False) Pe
section
variable {X : Cx} {L : Lx} {K : PySem.W.Frag}
theorem ownAt_ok {W : Wd} {env : En} {h : Hv} {σ : L2.St} {H : Hp} {k : Nat} {Q : List U → Prop} (S : Sim K W env h σ H) (q : ownAt env k Q) : ∃ us a vs, env[k]? = some (some (.own us)) ∧ σ[k]? = some (some (.ref a)) ∧ H a = some (.lst vs) ∧ RVs K W H us vs ∧ Q us := by
  unfold ownAt at q
  split at q
  · rename_i us e
    obtain ⟨a, vs, e1, e2, e3⟩ := S.own_at e
    exact ⟨us, a, vs, e, e1, e2, e3, q⟩
  · exact q.elim
theorem we_lenO {k : Nat} {x : Str} {p p2 pos : Pos} (hK : L.K = X.K) (hx : PE X (.Name x p) (tVar k)) (hg : Gl X "len") (hm : X.mg "len" = none) (he : starEach [.Name x p] X.env = [(false, eval (.Name x p) X.env)] := by rfl) :
    WE X L (.Call (.Name "len" p2) [.Name x p] [] pos) (uLenO k) := by
  refine PE.wk (pe_callB call_len_seq hg hm PySem.boot_len (pa_cons hx pa_nil he) (he := he) (hpl := rfl)) fun σ H Q ⟨W, env, h, Po, Pe, S, ht, c⟩ => ?_
  obtain ⟨us, a, vs, e, ev, ea, rv, q⟩ := ownAt_ok S ht
  refine ⟨_, ev, a, vs, rfl, .inl (.inl (.inl ea)), ?_⟩
  rw [← rv.length]
  exact c.ok W (.val (.int us.length)) env h _ H .refl S (.int _) q
theorem we_ixO {k : Nat} {x : Str} {p pos : Pos} {i : Expr} {ti : UE} (hK : L.K = X.K) (hx : PE X (.Name x p) (tVar k)) (hi : WE X L i ti) (hs : PlainIx i) : WE X L (.Subscript (.Name x p) i pos) (uIxO k ti) := by
  refine PE.wk (pe_ix ix_list hx hi hs) fun σ H Q ⟨W, env, h, Po, Pe, S, ⟨⟨us0, e0⟩, ht⟩, c⟩ => ?_
  obtain ⟨a, vs0, ev, ea, _⟩ := S.own_at e0
  refine ⟨_, ev, W, env, h, _, _, S, ht, ⟨fun W1 iv env1 h1 y H1 l1 S1 r1 q1 => ?_, c.er⟩⟩
  obtain ⟨us, b, vs, e1, ev1, eb, rv, q⟩ := ownAt_ok S1 q1
  rw [ev] at ev1
  cases ev1
  split at q
  · rename_i z ez
    split at q
    · rename_i u eu
      cases iv with
      | own _ => cases ez
      | dic _ _ => cases ez
      | val w =>
        cases ez
        have r2 : RV L.K W1 H1 (.int z) y := r1
        cases r2.int_
        obtain ⟨v, ev2, rr⟩ := rv.atI eu
        exact ⟨a, vs, z, v, rfl, rfl, .inl (.inl eb), ev2, c.ok W1 (.val u) env1 h1 v H1 l1 S1 rr q⟩
    · exact q.elim
  · exact q.elim
theorem lg_eqO {k : Nat} {neg : Bool} {tb : UE} {σ : L2.St} {H : Hp} {Q : VK} (hK : L.K = X.K) (h : lg L (RT L) (uEqO k neg tb) σ H Q) : tOp (fun x y H Q => ∃ d e, Dp X.K H x d ∧ Dp X.K H y e ∧ SeqAt.shaped d = true ∧ SeqAt.shaped e = true ∧ Q (.bl (if neg then !PyData.eqv d e else PyData.eqv d e)) H) (tVar k) (lg L (RT L) tb) σ H Q := by
  obtain ⟨W, env, h, Po, Pe, S, ⟨⟨us0, e0⟩, ht⟩, c⟩ := h
  obtain ⟨a, vs0, ev, ea, _⟩ := S.own_at e0
  refine ⟨_, ev, W, env, h, _, _, S, ht, ⟨fun W1 sv env1 h1 y H1 l1 S1 r1 q1 => ?_, c.er⟩⟩
  obtain ⟨W2, S2, l2, r2⟩ := S1.freeze r1
  obtain ⟨us, b, vs, e1, ev1, eb, rv, q⟩ := ownAt_ok S2 q1
  rw [ev] at ev1
  cases ev1
  split at q
  · rename_i b eb2
    obtain ⟨d, e, h1', h2', h3, h4, rfl⟩ := eqD?_some eb2
    have hd : Dp L.K H1 (.ref a) d := by
      unfold toD at h1'
      cases z : toDs us with
      | none => rw [z] at h1'; cases h1'
      | some ds =>
        rw [z] at h1'
        cases h1'
        exact .lst (.inl (.inl eb)) (rv.dp z)
    rw [← hK]
    exact ⟨d, e, hd, r2.dp h2', h3, h4, c.ok W2 (.val (.bl _)) env1 h1 _ H1 (l1.trans l2) S2 (.bl _) q⟩
  · exact q.elim
theorem we_eqO {k : Nat} {x : Str} {p pos : Pos} {b : Expr} {tb : UE} (hK : L.K = X.K) (hu : X.A.units + 64 < cLine) (hx : PE X (.Name x p) (tVar k)) (hb : WE X L b tb) : WE X L (.Compare (.Name x p) [.Eq] [b] pos) (uEqO k false tb) :=
  PE.wk (pe_cmpR (op_eqD hu) hx hb (nomark _)) fun _ _ _ h => lg_eqO hK h
theorem we_neO {k : Nat} {x : Str} {p pos : Pos} {b : Expr} {tb : UE} (hK : L.K = X.K) (hu : X.A.units + 64 < cLine) (hx : PE X (.Name x p) (tVar k)) (hb : WE X L b tb) : WE X L (.Compare (.Name x p) [.NotEq] [b] pos) (uEqO k true tb) :=
  PE.wk (pe_cmpR (op_neD hu) hx hb (nomark _)) fun _ _ _ h => lg_eqO hK h
theorem wt_eqO {k : Nat} {x : Str} {p pos : Pos} {b : Expr} {tb : UE} (hK : L.K = X.K) (hu : X.A.units + 64 < cLine) (hx : PE X (.Name x p) (tVar k)) (hb : WE X L b tb) : WT X L (.Compare (.Name x p) [.Eq] [b] pos) (uB (uEqO k false tb)) :=
  PT.wk (pt_cmpR (op_eqD hu) hx hb (nomark _)) fun _ _ _ h => lg_eqO hK (lg_B h)
theorem wt_neO {k : Nat} {x : Str} {p pos : Pos} {b : Expr} {tb : UE} (hK : L.K = X.K) (hu : X.A.units + 64 < cLine) (hx : PE X (.Name x p) (tVar k)) (hb : WE X L b tb) : WT X L (.Compare (.Name x p) [.NotEq] [b] pos) (uB (uEqO k true tb)) :=
  PT.wk (pt_cmpR (op_neD hu) hx hb (nomark _)) fun _ _ _ h => lg_eqO hK (lg_B h)
theorem lg_inO {k : Nat} {neg : Bool} {te : UE} {σ : L2.St} {H : Hp} {Q : VK} (h : lg L (RT L) (uInO k neg te) σ H Q) : tOp (rIn L.K neg) (lg L (RT L) te) (tVar k) σ H Q := by
  obtain ⟨W, env, h, Po, Pe, S, ht, c⟩ := h
  refine ⟨W, env, h, _, _, S, ht, ⟨fun W1 sv env1 h1 y H1 l1 S1 r1 q1 => ?_, c.er⟩⟩
  obtain ⟨W2, S2, l2, r2⟩ := S1.freeze r1
  obtain ⟨us, b, vs, e1, ev1, eb, rv, q⟩ := ownAt_ok S2 q1
  refine ⟨_, ev1, ?_⟩
  split at q
  · rename_i b2 e2
    unfold inU? at e2
    split at e2
    · rename_i v ws h1' h2'
      cases e2
      obtain ⟨ev, fv⟩ := r2.flat h1'
      subst ev
      obtain ⟨e3, f3⟩ := rv.flat h2'
      subst e3
      exact ⟨b, _, rfl, .inl (.inl (.inl eb)), fv, f3, c.ok W2 (.val (.bl _)) env1 h1 _ H1 (l1.trans l2) S2 (.bl _) q⟩
    · cases e2
  · exact q.elim
theorem we_inO {k : Nat} {x : Str} {p pos : Pos} {a : Expr} {ta : UE} (hK : L.K = X.K) (ha : WE X L a ta) (hx : PE X (.Name x p) (tVar k)) (hm : behindInMarks .In (.Name x p) = false := by rfl) : WE X L (.Compare a [.In] [.Name x p] pos) (uInO k false ta) :=
  PE.wk (pe_cmpR op_in_seq ha hx hm) fun _ _ _ h => by rw [← hK]; exact lg_inO h
theorem we_notInO {k : Nat} {x : Str} {p pos : Pos} {a : Expr} {ta : UE} (hK : L.K = X.K) (ha : WE X L a ta) (hx : PE X (.Name x p) (tVar k)) (hm : behindInMarks .NotIn (.Name x p) = false := by rfl) : WE X L (.Compare a [.NotIn] [.Name x p] pos) (uInO k true ta) :=
  PE.wk (pe_cmpR op_notIn_seq ha hx hm) fun _ _ _ h => by rw [← hK]; exact lg_inO h
theorem wt_inO {k : Nat} {x : Str} {p pos : Pos} {a : Expr} {ta : UE} (hK : L.K = X.K) (ha : WE X L a ta) (hx : PE X (.Name x p) (tVar k)) (hm : behindInMarks .In (.Name x p) = false := by rfl) : WT X L (.Compare a [.In] [.Name x p] pos) (uB (uInO k false ta)) :=
  PT.wk (pt_cmpR op_in_seq ha hx hm) fun _ _ _ h => by rw [← hK]; exact lg_inO (lg_B h)
theorem wt_notInO {k : Nat} {x : Str} {p pos : Pos} {a : Expr} {ta : UE} (hK : L.K = X.K) (ha : WE X L a ta) (hx : PE X (.Name x p) (tVar k)) (hm : behindInMarks .NotIn (.Name x p) = false := by rfl) : WT X L (.Compare a [.NotIn] [.Name x p] pos) (uB (uInO k true ta)) :=
  PT.wk (pt_cmpR op_notIn_seq ha hx hm) fun _ _ _ h => by rw [← hK]; exact lg_inO (lg_B h)
/-- is, is not between truth values -/
@[simp] def bIsB (neg : Bool) : UO := fun u w h P => match u, w with
  | .bl a, .bl b => P (.val (.bl (if neg then !decide (a = b) else decide (a = b)))) h
  | _, _ => False
theorem op_isBU : OpR X (compareOp .Is) (lo X.K (bIsB false)) := by
  refine OpR.wk op_isBl fun x y H Q ⟨W, env, h, σ, u, w, P, S, ru, rw_, ht, c⟩ => ?_
  unfold bIsB at ht
  split at ht
  · cases ru; cases rw_
    exact ⟨_, _, rfl, rfl, c.val S (.bl _) ht⟩
  · exact ht.elim
theorem op_isNotBU : OpR X (compareOp .IsNot) (lo X.K (bIsB true)) := by
  refine OpR.wk op_notBl fun x y H Q ⟨W, env, h, σ, u, w, P, S, ru, rw_, ht, c⟩ => ?_
  unfold bIsB at ht
  split at ht
  · cases ru; cases rw_
    exact ⟨_, _, rfl, rfl, c.val S (.bl _) ht⟩
  · exact ht.elim
/-- a module's value -/
theorem we_glo {x : Str} {u : U} {v : V} {a : Value} {pos : Pos} (hg : Gl X x) (hm : X.mg x = some a) (r : RelV v a) (rv : ∀ W H, RV L.K W H u v) (hd : (x == ("__debug__" : Str)) = false := by decide) : WE X L (.Name x pos) (uVal u) :=
  we_const (pe_glob hg hm r hd) rv
end

/-! ### the end of a law -/
section
open PySem.W
variable {P : Program} {w : World} {K : PySem.W.Frag} {mg mb : Str → Option Value} {k : Nat} {fa a : Addr} {fd : FuncData} {x : Str} {ga : Str → Addr} {f : FS} {s1 : Shared} {vs : List Value} {ns : List Int}
/-- from an abstract heap that has at most the script -/
theorem law_at (KX : K.In s1.heap) (hns : s1.heap.Ns mainGlobals mg) (hb : s1.heap.Ns builtinsNs mb) (hbb : ∀ x : Str, x ≠ "__name__" → mb x = bootBuiltins x) (hlim : s1.heap.NoLimit) (hg : s1.gens = #[]) (ha : s1.heap.get? a = some { cls := .type "list", data := .seq vs.toArray }) (hr : Room k callerA)
    (F : ∀ base : Heap, K.In base → base.Ns mainGlobals mg → FnG P w K mg base k fa fd [x] (spF K ga 1 f)) (hbind : ∀ (s : Shared) (u : Value), BindsTo s fd ⟨[u], []⟩ [(x, u)])
    (hf : f [.scr ns] [] (fun sv _ => sv = .val (.bl true)) fun _ _ => False) (H : Hp) (hO : Only H) (hS : ScrS K H a (ns.map V.int)) (hok : HOk P w H s1.heap) (hA : ∀ b, H b ≠ none → b = a) (hK : H a ≠ none → K.lookup a = none) :
    codeAny (model P w) callerA (.call (.ref fa) ⟨[.ref a], []⟩) (fun r s' => r = .ok (.ret (.bool true)) ∧ OldK s1.heap s'.heap ∧ s'.os = s1.os ∧ AllBare s'.gens) s1 := by
  have outOf : ∀ {b : Addr} {o : Obj}, s1.heap.get? b = some o → (∀ its n, o.data ≠ .seq its n) → H b = none := by
    intro b o e d
    rcases hO b with z | ⟨ob, xs, z⟩
    · exact z
    · have eb := hA b (by rw [z]; exact fun q => by cases q)
      subst eb
      rw [ha] at e
      cases e
      exact absurd rfl (d _ _)
  have nsOf : ∀ {b : Addr} {m : Str → Option Value}, s1.heap.Ns b m → (hidT s1.heap H).Ns b m := by
    intro b m z
    obtain ⟨o, es, ep, e, d, r⟩ := z
    exact ⟨o, es, ep, hidT_get e (outOf e fun its n q => by rw [d] at q; cases q), d, r⟩
  have inB : K.In (hidT s1.heap H) := by
    intro b o e
    refine hidT_get (KX b o e) ?_
    by_cases z : H b = none
    · exact z
    · have eb := hA b z
      subst eb
      rw [hK z] at e
      cases e
  obtain ⟨mc, lim1, lim2⟩ := hlim
  have M : Mod K mg (hidT s1.heap H) := ⟨inB, nsOf hns, ⟨mb, nsOf hb, hbb⟩, ⟨mc, nsOf lim1, lim2⟩⟩
  have e0 : Env0 P w K mg (hidT s1.heap H) callerA [] s1 H := ⟨rfl, M, fun b o e => of_hidT e, Nat.le_of_eq (hidT_size _ _), trivial, fun b z => (by cases z), hok, .of_eq hg⟩
  let W0 : Wd := ⟨fun _ => none, []⟩
  have S0 : SimH K W0 [] H := ⟨rfl, fun i o e => by simp at e, fun b w e => by cases e⟩
  have want : spF K ga 1 f [.ref a] H (fun v _ => v = .bl true) fun _ _ _ => False := by
    refine ⟨rfl, W0, [.scr ns], [], _, _, S0, (fun b k e => by cases e), RVs.cons (.scr hS) .nil, hf, ⟨fun W' sv h' v H' _ _ r q => ?_, fun _ _ _ _ _ _ _ _ _ q => q⟩⟩
    subst q
    exact RV.bl_ r
  refine codeAny_mono ((F _ inB (nsOf hns)).run callerA [] s1 H ⟨[.ref a], []⟩ [.ref a] [.ref a] _ _ hr rfl e0 (hbind s1 (.ref a)) (.cons rfl .nil) want) fun res s2 z => ?_
  match res, z with
  | .ok .next, z => exact z.elim
  | .ok .brk, z => exact z.elim
  | .ok .cont, z => exact z.elim
  | .error e, ⟨_, _, _, _, _, _, _, _, _, _, _, _, q⟩ => exact q.elim
  | .ok (.ret u), ⟨v, H', os, bare, un, hok', r', q⟩ =>
    have q' : v = .bl true := q
    subst q'
    have eu : u = Value.bool true := r'
    subst eu
    refine ⟨rfl, OldK.of_keep fun b o e => ?_, os, bare⟩
    rcases hO b with z | ⟨ob, xs, z⟩
    · exact un.keep b o e z (by intro c; cases c) (by simp)
    · obtain ⟨g1, _⟩ := hok b _ z
      obtain ⟨g2, _⟩ := hok' b _ (un.frzs b ob _ z)
      rw [g1] at e
      cases e
      exact g2
theorem law_run (KX : K.In s1.heap) (hns : s1.heap.Ns mainGlobals mg) (hb : s1.heap.Ns builtinsNs mb) (hbb : ∀ x : Str, x ≠ "__name__" → mb x = bootBuiltins x) (hlim : s1.heap.NoLimit) (hg : s1.gens = #[]) (ha : s1.heap.get? a = some { cls := .type "list", data := .seq vs.toArray }) (hi : IntsAre vs ns) (hl : ns.length ≤ sizeLine) (hr : Room k callerA)
    (F : ∀ base : Heap, K.In base → base.Ns mainGlobals mg → FnG P w K mg base k fa fd [x] (spF K ga 1 f)) (hbind : ∀ (s : Shared) (u : Value), BindsTo s fd ⟨[u], []⟩ [(x, u)])
    (hf : f [.scr ns] [] (fun sv _ => sv = .val (.bl true)) fun _ _ => False) :
    codeAny (model P w) callerA (.call (.ref fa) ⟨[.ref a], []⟩) (fun r s' => r = .ok (.ret (.bool true)) ∧ OldK s1.heap s'.heap ∧ s'.os = s1.os ∧ AllBare s'.gens) s1 := by
  have go := law_at (vs := vs) KX hns hb hbb hlim hg ha hr F hbind hf
  cases hk : K.lookup a with
  | some o =>
    have e := KX a o hk
    rw [ha] at e
    cases e
    exact go (fun _ => none) (fun _ => .inl rfl) (.inr ⟨_, vs.toArray, _, hk, rfl, rfl, rfl, by rw [List.size_toArray, hi.length]; exact hl, by simpa using vals_ints hi⟩) (fun b u z => by cases z) (fun b z => absurd rfl z) (fun z => absurd rfl z)
  | none =>
    have at_ : ∀ b, (upd (fun _ => none) a (.frz { cls := .type "list", data := .seq vs.toArray } (.lst (ns.map V.int))) : Hp) b ≠ none → b = a := by
      intro b z
      by_cases q : b = a
      · exact q
      · rw [upd_ne q] at z; exact absurd rfl z
    refine go (upd (fun _ => none) a (.frz { cls := .type "list", data := .seq vs.toArray } (.lst (ns.map V.int)))) (fun b => ?_) (.inl ⟨_, upd_same⟩) (fun b u z => ?_) at_ (fun _ => hk)
    · by_cases q : b = a
      · subst q; exact .inr ⟨_, _, upd_same⟩
      · exact .inl (upd_ne q)
    · by_cases q : b = a
      · subst q
        rw [upd_same] at z
        cases z
        exact ⟨ha, by rw [List.length_map]; exact hl, vs, _, vals_ints hi, ha⟩
      · rw [upd_ne q] at z
        cases z
omit [WW] in
theorem law_end {l : OpenLaw} {q : Program} {loose : List Str} {XP : (Str → Option Value) → Heap → Prop} {YP : World → Heap → Prop} {d : DefRec} (hn : l.most = some 63) (hdf : d.params.defaults = []) (hr : Room k callerA)
    (F : ∀ (w : World) (mg : Str → Option Value) (fa : Addr) (h : Heap), YP w h → h.Ns mainGlobals mg → mg d.name = some (.ref fa) → ∃ (K : PySem.W.Frag) (fd : FuncData) (ga : Str → Addr) (f : FS), K.In h ∧ (∀ (s : Shared) (u : Value), BindsTo s fd ⟨[u], []⟩ [(x, u)]) ∧
      (∀ ns : List Int, ns.length ≤ 63 → (∀ z ∈ ns, Builtin.Int.intBits z ≤ 1048576) → f [.scr ns] [] (fun sv _ => sv = .val (.bl true)) fun _ _ => False) ∧ ∀ base : Heap, K.In base → base.Ns mainGlobals mg → FnG l.prog w K mg base k fa fd [x] (@spF ⟨w⟩ K ga 1 f)) :
    WalkO q loose XP YP l.row.toRowW d [] (fun f vs => PySem.call f vs) := by
  refine Att.attach_callB hn hdf fun w s0 s1 mg mb fa o pm cd doc a vs ns G Y ho hd hcd hmg hobj hints hlen hbits hg => ?_
  obtain ⟨K, fd, ga, f, KX, hb, hf, hF⟩ := F w mg fa _ Y G.T.g hmg
  letI : WW := ⟨w⟩
  exact law_run KX G.T.g G.T.b G.T.builtins G.T.nolimit hg hobj hints (Nat.le_trans hlen (by decide)) hr hF hb (hf ns hlen hbits)
end
end Vi

/-! Vi9: isinstance, minus, the written part read by a check, the Hook. -/
namespace Vi
open PySem PySem.Spec PyProof.Rows L2
variable [WW]

section
variable {X : Cx} {L : Lx} {K : PySem.W.Frag}
/-- a built-in class's name as a value -/
theorem we_ty {x : Str} {n : String} {pos : Pos} (hg : Gl X x) (hm : X.mg x = none) (hv : bootBuiltins x = some (.type n)) (hn : x ≠ "__name__" := by decide) (hd : (x == ("__debug__" : Str)) = false := by decide) : WE X L (.Name x pos) (uVal (.ty n)) :=
  we_const (pe_bltn (v := .ty n) hg hm hv rfl hn hd) fun _ _ => .ty n
@[simp] def tyU : U → Option String
  | .non => some "NoneType"
  | .bl _ => some "bool"
  | .int _ => some "int"
  | .str _ => some "str"
  | .tup _ => some "tuple"
  | .lst _ => some "list"
  | .scr _ => some "list"
  | .ref _ => some "list"
  | .err _ => some "error"
  | _ => none
def clsNames : List String := ["int", "bool", "str", "tuple", "list", "NoneType"]
/-- isinstance of one of these types -/
def isT (a b : String) : Bool := a == b || (a == "bool" && b == "int")
theorem isT_kit : ∀ a ∈ clsNames, ∀ b ∈ ["int", "bool", "str", "tuple", "list"], kitB a b = some (isT a b) := by decide +kernel
theorem tyU_mem {u : U} {a : String} (h : tyU u = some a) (n : ¬ a = "error") : a ∈ clsNames := by
  cases u <;> first | (cases h; decide) | (cases h; exact absurd rfl n) | cases h
theorem isT_err : ∀ b ∈ ["int", "bool", "str", "tuple", "list"], isT "error" b = false := by decide +kernel
/-- what is asked of an error's class -/
theorem eclB_ok {K : PySem.W.Frag} {x : Str} (c : eclB K x = true) : (He.Fa.exc x).ok K = true ∧ L2.ExcC K (He.ga K x) ∧ ∀ b ∈ ["int", "bool", "str", "tuple", "list"], PySem.W.kitOne K (.ref (He.ga K x)) (.type b) = some false := by
  unfold eclB at c
  simp only [Bool.and_eq_true, List.all_eq_true, decide_eq_true_eq] at c
  obtain ⟨c0, c1, c2, c3, c4, c5, c6, c7, c8, _⟩ := c
  have cs := (He.exc_ok c0).2.2.1
  exact ⟨c0, ⟨He.eqO_ok c1, He.eqO_ok c2, cs, c3, He.eqO_ok c4, He.eqO_ok c5, c6, c7⟩, c8⟩
theorem eclB_sup {K : PySem.W.Frag} {x : Str} (c : eclB K x = true) : PySem.W.exmOne K (.ref (He.ga K x)) (.ref (He.ga K "SlotError")) = some true ∧ PySem.W.kitOne K (.ref (He.ga K x)) (.ref (He.ga K x)) = some true := by
  unfold eclB at c
  simp only [Bool.and_eq_true, List.all_eq_true, decide_eq_true_eq] at c
  exact c.2.2.2.2.2.2.2.2.2
theorem RV.tyX {W : Wd} {H : Hp} {h : Hv} {u : U} {v : V} {a : String} (S : SimH K W h H) (r : RV K W H u v) (e : tyU u = some a) (ne : ¬ a = "error") : TyX K H v (.type a) := by
  cases r with
  | non => cases e; exact .base .non
  | bl b => cases e; exact .base (.bl b)
  | int b => cases e; exact .base (.int b)
  | str b => cases e; exact .base (.str b)
  | ty b => cases e
  | err _ _ => cases e; exact absurd rfl ne
  | ecl _ _ => cases e
  | dic _ _ _ _ => cases e
  | erf _ _ _ _ _ => cases e
  | tup hq r =>
    cases e
    rcases hq with ⟨_, _, hq⟩ | ⟨o, its, n, hk, hc, _⟩
    · exact .fTuple hq
    · exact .kTuple hk hc
  | lst n hq r => cases e; exact .base (.lst hq)
  | scr hq =>
    cases e
    rcases hq with ⟨o, hq⟩ | ⟨o, its, n, hk, hc, _⟩
    · exact .base (.frz hq)
    · exact .kList hk hc
  | ref m n =>
    rename_i i p
    cases e
    have hi : i < h.length := by
      rw [← S.len]
      exact (List.getElem?_eq_some_iff.mp m).1
    cases q : h[i]? with
    | none =>
      have := List.getElem?_eq_none_iff.mp q
      omega
    | some ob =>
      obtain ⟨b, m2, n2, ro⟩ := S.objs _ _ q
      rw [m] at m2
      cases m2
      cases ob with
      | lst us =>
        obtain ⟨vs, e3, _⟩ := ro
        exact .base (.lst e3)
@[simp] def bIsi : UB := fun us h P => match us with
  | [u, .ty T] => (match tyU u with
    | some a => T ∈ ["int", "bool", "str", "tuple", "list"] ∧ P (.val (.bl (isT a T))) h
    | none => False)
  | _ => False
theorem call_isiU : CallR X (.builtin "isinstance") (lb X.K bIsi) := by
  intro pins s σ H xs us Q I r q
  obtain ⟨W, env, h, σ', ws, P, S, rr, ht, c⟩ := q
  unfold bIsi at ht
  split at ht
  · rename_i uu T
    obtain ⟨v, w, rfl, ru, rw_⟩ := RVs.two rr
    split at ht
    · rename_i a ea
      cases rw_
      by_cases ne : a = "error"
      · cases ru with
        | err he hc =>
          subst ne
          rename_i x b
          obtain ⟨oe, vs, e1, e2, e3, e4⟩ := he
          obtain ⟨_, C, k⟩ := eclB_ok hc
          obtain ⟨u1, u2, rfl, r1, r2⟩ := vals2 r
          cases r1
          have er : u2 = Value.type T := (L2.ClsV.ty T).eq r2
          subst er
          have g := (I.hok _ _ e1).1
          have J : PySem.W.InstAt s.heap b oe (He.ga X.K x) none := by
            obtain ⟨oc, od, oda, osl⟩ := oe
            dsimp only at e2 e3 e4
            subst e2 e3 e4
            exact ⟨g, rfl, rfl, trivial⟩
          have hF : isT "error" T = false := isT_err T ht.1
          rw [hF] at ht
          exact PySem.W.kia_one (PySem.W.handS_kitx_exc C.hg C.hk C.hs C.hd C.ha C.hn C.ht C.hm) I.kIn J (k T ht.1) (fun z => nomatch z) fun tk => ⟨.bl false, H, I.kept (t' := tk) fun _ _ z => z, rfl, c.val S (.bl _) ht.2⟩
        | ref _ _ => cases ea; exact absurd ne (by decide)
        | scr _ => cases ea; exact absurd ne (by decide)
        | lst _ _ _ => cases ea; exact absurd ne (by decide)
        | tup _ _ => cases ea; exact absurd ne (by decide)
        | ecl _ _ => cases ea
        | dic _ _ _ _ => cases ea
        | erf _ _ _ _ _ => cases ea
        | ty _ => cases ea
        | non => cases ea; exact absurd ne (by decide)
        | bl _ => cases ea; exact absurd ne (by decide)
        | int _ => cases ea; exact absurd ne (by decide)
        | str _ => cases ea; exact absurd ne (by decide)
      · exact call_isi pins s σ H _ us Q I r ⟨v, _, _, _, _, rfl, .ty _, ru.tyX S.sh ea ne, kit_ty (isT_kit a (tyU_mem ea ne) _ ht.1), c.val S (.bl _) ht.2⟩
    · exact ht.elim
  · exact ht.elim
@[simp] def uNeg (t : UE) : UE := fun env h Po Pe => t env h (fun sv env1 h1 => svI sv fun i => Po (.val (.int (-i))) env1 h1) Pe
theorem we_neg {a : Expr} {t : UE} {pos : Pos} (ha : WE X L a t) : WE X L (.UnaryOp .USub a pos) (uNeg t) := by
  refine PE.wk (pe_un un_neg ha) fun σ H Q ⟨W, env, h, Po, Pe, S, ht, c⟩ => ?_
  refine ⟨W, env, h, _, _, S, ht, ⟨fun W1 sv env1 h1 y H1 l1 S1 r1 q1 => ?_, c.er⟩⟩
  unfold svI at q1
  split at q1
  · have r2 : RV L.K W1 H1 (.int _) y := r1
    cases r2.int_
    exact ⟨_, rfl, c.ok W1 (.val (.int _)) env1 h1 _ H1 l1 S1 (.int _) q1⟩
  · exact q1.elim
end

/-! ### the written part, by a check -/
mutual
def cB (K : PySem.W.Frag) : U → Value → Bool
  | .non, v => match v with
    | .none => true
    | _ => false
  | .bl b, v => match v with
    | .bool c => b == c
    | _ => false
  | .int i, v => match v with
    | .int j _ => decide (i = j)
    | _ => false
  | .str x, v => match v with
    | .str y _ => decide (x = y)
    | _ => false
  | .tup us, v => match v with
    | .ref a => (match K.lookup a with
      | some ⟨.type c, none, .seq its _, _⟩ => decide (c = "tuple") && (decide (its.size ≤ sizeLine) && cBs K us its.toList)
      | _ => false)
    | _ => false
  | .ecl x, v => match v with
    | .ref a => decide (a = He.ga K x) && eclB K x
    | _ => false
  | _, _ => false
def cBs (K : PySem.W.Frag) : List U → List Value → Bool
  | [], vs => match vs with
    | [] => true
    | _ => false
  | u :: us, vs => match vs with
    | v :: vs => cB K u v && cBs K us vs
    | _ => false
end
mutual
theorem cB_ok {K : PySem.W.Frag} : ∀ {u : U} {a : Value}, cB K u a = true → ∃ v, RelV v a ∧ ∀ W H, RV K W H u v
  | .non, a, h => by
    unfold cB at h
    split at h
    · exact ⟨.non, rfl, fun _ _ => .non⟩
    · cases h
  | .bl b, a, h => by
    unfold cB at h
    split at h
    · cases eq_of_beq h
      exact ⟨.bl b, rfl, fun _ _ => .bl b⟩
    · cases h
  | .int i, a, h => by
    unfold cB at h
    split at h
    · cases of_decide_eq_true h
      exact ⟨.int i, ⟨_, rfl⟩, fun _ _ => .int i⟩
    · cases h
  | .str x, a, h => by
    unfold cB at h
    split at h
    · cases of_decide_eq_true h
      exact ⟨.str x, ⟨_, rfl⟩, fun _ _ => .str x⟩
    · cases h
  | .tup us, a, h => by
    unfold cB at h
    split at h
    · rename_i p
      split at h
      · rename_i c its n sl ek
        simp only [Bool.and_eq_true, decide_eq_true_eq] at h
        obtain ⟨ec, ez, hs⟩ := h
        obtain ⟨vs, rv, rr⟩ := cBs_ok hs
        subst ec
        exact ⟨.ref p, rfl, fun W H => .tup (.inr ⟨_, its, n, ek, rfl, rfl, rfl, ez, rv⟩) (rr W H)⟩
      · cases h
    · cases h
  | .lst _, _, h => by simp [cB] at h
  | .scr _, _, h => by simp [cB] at h
  | .ref _, _, h => by simp [cB] at h
  | .ty _, _, h => by simp [cB] at h
  | .err _, _, h => by simp [cB] at h
  | .dic _ _, _, h => by simp [cB] at h
  | .erf _ _ _, _, h => by simp [cB] at h
  | .ecl x, a, h => by
    unfold cB at h
    split at h
    · simp only [Bool.and_eq_true, decide_eq_true_eq] at h
      exact ⟨.ref _, rfl, fun W H => .ecl h.1 h.2⟩
    · cases h
theorem cBs_ok {K : PySem.W.Frag} : ∀ {us : List U} {as : List Value}, cBs K us as = true → ∃ vs, Vals vs as ∧ ∀ W H, RVs K W H us vs
  | [], as, h => by
    unfold cBs at h
    split at h
    · exact ⟨[], .nil, fun _ _ => .nil⟩
    · cases h
  | u :: us, as, h => by
    unfold cBs at h
    split at h
    · simp only [Bool.and_eq_true] at h
      obtain ⟨v, r1, r2⟩ := cB_ok h.1
      obtain ⟨vs, r3, r4⟩ := cBs_ok h.2
      exact ⟨v :: vs, .cons r1 r3, fun W H => .cons (r2 W H) (r4 W H)⟩
    · cases h
end
/-- the module's name x holds u -/
def gB (K : PySem.W.Frag) (p : Str × U) : Bool := match PySem.W.nsIn K mainGlobals p.1 with
  | some (some a) => cB K p.2 a
  | _ => false
theorem gB_ok {K : PySem.W.Frag} {h : Heap} {mg : Str → Option Value} (X : K.In h) (G : h.Ns mainGlobals mg) {x : Str} {u : U} (c : gB K (x, u) = true) : ∃ a v, mg x = some a ∧ RelV v a ∧ ∀ W H, RV K W H u v := by
  unfold gB at c
  split at c
  · rename_i a e
    obtain ⟨v, r, rr⟩ := cB_ok c
    exact ⟨a, v, PySem.W.mg_of X G e, r, rr⟩
  · cases c
/-! ### the Hook: facts by names, constants, defs -/
def obsV (fa : List He.Fa) (cs : List (Str × U)) (fn : List He.DefD) (K : PySem.W.Frag) : He.AlD := ((fa.all fun f => f.ok K) && ((cs.all fun p => gB K p) && fn.all fun d => d.ok K), fn.map fun d => He.fnW K d.at_)
def SaysV (fa : List He.Fa) (cs : List (Str × U)) (fn : List He.DefD) (K : PySem.W.Frag) : Prop := obsV fa cs fn K = (true, fn.map He.DefD.val)
def obsVG (n : Nat) (fa : List He.Fa) (cs : List (Str × U)) (fn : List He.DefD) (g : Addr → Option Obj) : He.AlD := obsV fa cs fn (He.frG g (He.asD g n))
def hookV (n : Nat) (fa : List He.Fa) (cs : List (Str × U)) (fn : List He.DefD) : PySem.W.Hook where
  α := He.AlD
  obs := fun s => obsVG n fa cs fn s.heap.get?
  val := fun _ => (true, fn.map He.DefD.val)
  says := fun _ h => ∃ K : PySem.W.Frag, K.In h ∧ SaysV fa cs fn K
  of := fun _ _ e => ⟨_, He.frG_in, e⟩
  keeps := fun _ _ _ ⟨K, hK, c⟩ k => ⟨K, PySem.W.Frag.In.keeps hK k, c⟩
theorem obsVG_eq {n : Nat} {fa : List He.Fa} {cs : List (Str × U)} {fn : List He.DefD} {g : Addr → Option Obj} {s : Shared} (h : ∀ a, g a = s.heap.get? a) : obsVG n fa cs fn g = (hookV n fa cs fn).obs s := by
  have e : g = s.heap.get? := funext h
  rw [e]
  rfl
/-- what a law's defs lean on -/
structure Tx (fa : List He.Fa) (cs : List (Str × U)) (fn : List He.DefD) (K : PySem.W.Frag) (mg : Str → Option Value) : Prop where
  says : SaysV fa cs fn K
  at_ : ∃ h : Heap, K.In h ∧ h.Ns mainGlobals mg
section
variable {fa : List He.Fa} {cs : List (Str × U)} {fn : List He.DefD} {K : PySem.W.Frag} {mg : Str → Option Value}
theorem SaysV.parts (c : SaysV fa cs fn K) : (∀ f ∈ fa, He.Fa.ok K f = true) ∧ (∀ p ∈ cs, gB K p = true) ∧ ∀ d ∈ fn, He.DefD.ok K d = true := by
  have e : ((fa.all fun f => f.ok K) && ((cs.all fun p => gB K p) && fn.all fun d => d.ok K)) = true := congrArg (fun z : He.AlD => z.1) c
  simp only [Bool.and_eq_true, List.all_eq_true] at e
  exact ⟨e.1, e.2.1, e.2.2⟩
theorem Tx.fact (T : Tx fa cs fn K mg) (i : Nat) {f : He.Fa} (h : fa[i]? = some f := by rfl) : f.ok K = true := T.says.parts.1 f (List.mem_of_getElem? h)
theorem Tx.glo (T : Tx fa cs fn K mg) (i : Nat) {x : Str} (h : fa[i]? = some (.glo x) := by rfl) : mg x = some (.ref (He.ga K x)) := by
  obtain ⟨hp, a, b⟩ := T.at_
  exact He.glo_ok a b (T.fact i h)
theorem Tx.free (T : Tx fa cs fn K mg) (i : Nat) {x : Str} (h : fa[i]? = some (.free x) := by rfl) : mg x = none := by
  obtain ⟨hp, a, b⟩ := T.at_
  exact He.free_ok a b (T.fact i h)
theorem Tx.cst (T : Tx fa cs fn K mg) (i : Nat) {x : Str} {u : U} (h : cs[i]? = some (x, u) := by rfl) : ∃ a v, mg x = some a ∧ RelV v a ∧ ∀ W H, RV K W H u v := by
  obtain ⟨hp, a, b⟩ := T.at_
  exact gB_ok a b (T.says.parts.2.1 _ (List.mem_of_getElem? h))
theorem Tx.def_ (T : Tx fa cs fn K mg) (i : Nat) {d : He.DefD} (h : fn[i]? = some d := by rfl) : ∃ fd, FunD K d.name d.qual d.params d.body d.scope (d.dvs K) (d.kws K) (He.fAd K d.at_) fd := by
  have c := T.says
  have e : fn.map (fun d => He.fnW K d.at_) = fn.map He.DefD.val := congrArg (fun z : He.AlD => z.2) c
  have e2 : (fn.map fun d => He.fnW K d.at_)[i]? = (fn.map He.DefD.val)[i]? := by rw [e]
  rw [List.getElem?_map, List.getElem?_map, h] at e2
  exact He.DefD.funD (Option.some.inj e2) (c.parts.2.2 d (List.mem_of_getElem? h))
end
end Vi

/-! Vi10: raise, pop, two names at once. -/
namespace Vi
open PySem PySem.Spec PyProof.Rows L2
variable [WW]
@[simp] def uRaise (x : Str) : US := fun env h P => P.er ⟨x, none⟩ env h
section
variable {X : Cx} {L : Lx} {K : PySem.W.Frag}
theorem ws_raise {x m : Str} {j : Nat} {p p2 pos pos2 : Pos} (hc : X.calm = true) (tk : Takes X L.wx) (q : PySem.W.excIn X.K (L.ga x) He.veBase "ValueError.__new__" = true) (gC : X.mg x = some (.ref (L.ga x))) (kC : PySem.W.keepIn X.K (.ref (L.ga x)) = true)
    (r : Raises X (.ref (L.ga x))) (hg : Gl X x) (hdb : (x == ("__debug__" : Str)) = false := by decide) : WS X L (.Raise (some (.Call (.Name x p) [.Constant (.str m) j p2] [] pos)) none pos2) (uRaise x) := by
  refine PS.wk (ps_raise hc tk (pmk_own PySem.F.excBase_ValueError q gC kC r hg hdb)) fun D σ H ⟨W, env, h, P, S, ht, c⟩ => ?_
  exact c.er W ⟨x, none⟩ env h σ H _ none .refl S ⟨rfl, fun _ => rfl, fun f u e => by cases e⟩ ht
@[simp] def fPop : UMt := fun us args P => match args with
  | [] => (match us[us.length - 1]? with
    | some u => P u us.dropLast
    | none => False)
  | [.int i] => us.length ≤ sizeLine ∧ (match ixN us.length i with
    | some k => (match us[k]? with
      | some u => P u (us.eraseIdx k)
      | none => False)
    | none => False)
  | _ => False
theorem RVs.dropLast {W : Wd} {H : Hp} {us : List U} {vs : List V} (r : RVs K W H us vs) : RVs K W H us.dropLast vs.dropLast := by
  rw [List.dropLast_eq_take, List.dropLast_eq_take, r.length]
  exact r.take _
theorem RVs.erase {W : Wd} {H : Hp} : ∀ {us : List U} {vs : List V} (k : Nat), RVs K W H us vs → RVs K W H (us.eraseIdx k) (vs.eraseIdx k)
  | _, _, _, .nil => .nil
  | _, _, 0, .cons _ t => t
  | _, _, k + 1, .cons a t => .cons a (RVs.erase k t)
theorem mtU_pop : MtU X "list.pop" fPop := by
  intro pins s σ H x xs v us Q I rx rs q
  obtain ⟨K, W, as, args, a, ys, rfl, ea, rv, ra, P, hf, c⟩ := q
  unfold fPop at hf
  split at hf
  · cases ra
    split at hf
    · rename_i u eu
      obtain ⟨y, ey, ry⟩ := rv.get eu
      rw [rv.length] at ey
      exact mt_pop pins s σ H _ _ v us Q I rx rs ⟨a, ys, y, rfl, rfl, ea, ey, c _ _ _ _ ry rv.dropLast hf⟩
    · exact hf.elim
  · obtain ⟨y, rfl, ry⟩ := RVs.one ra
    cases ry.int_
    obtain ⟨hz, hf⟩ := hf
    split at hf
    · rename_i k ek
      split at hf
      · rename_i u eu
        obtain ⟨y, ey, ry⟩ := rv.get eu
        rw [rv.length] at ek hz
        obtain ⟨h1, h2, h3, h4⟩ := ixN_seq ek
        have hn := line63
        exact mt_popAt pins s σ H _ _ v us Q I rx rs ⟨a, ys, _, k, y, rfl, rfl, ea, by omega, by omega, h1, ey, c _ _ _ _ ry (rv.erase k) hf⟩
      · exact hf.elim
    · exact hf.elim
  · exact hf.elim
/-- a, b = x, y with plain local names -/
@[simp] def uPar2 (i j : Nat) (t : UA) : US := fun env h P => t env h (fun us env1 h1 => match us with
  | [u, w] => i < env1.length ∧ j < env1.length ∧ P.nx ((env1.set i (some (.val u))).set j (some (.val w))) h1
  | _ => False) P.er
theorem ws_par2 {i j : Nat} {s : Stmt} {t : UA} (hp : PS X s (tPar i j (lg L (RA L) t))) : WS X L s (uPar2 i j t) := by
  refine PS.wk hp fun D σ H ⟨W, env, h, P, S, ht, c⟩ => ?_
  refine ⟨W, env, h, _, _, S, ht, ⟨fun W1 us env1 h1 vs H1 l1 S1 r1 q1 => ?_, c.ret.er⟩⟩
  split at q1
  · obtain ⟨v, w, rfl, rv, rw_⟩ := RVs.two r1
    refine ⟨v, w, rfl, c.nx W1 _ h1 _ H1 l1 ((S1.store q1.1 rv).store (by simpa using q1.2.1) rw_) q1.2.2⟩
  · exact q1.elim
theorem vals_getD {us : List Value} {vs : List V} (r : Vals vs us) (i : Nat) : RelV (vs.getD i .non) (us.getD i .none) := by
  cases e : vs[i]? with
  | none =>
    have e2 := Vals.none_of r e
    rw [List.getD_eq_getElem?_getD, List.getD_eq_getElem?_getD, e, e2]
    rfl
  | some v =>
    obtain ⟨u, eu, ru⟩ := Vals.get r e
    rw [List.getD_eq_getElem?_getD, List.getD_eq_getElem?_getD, e, eu]
    exact ru
theorem rvs_getD {W : Wd} {H : Hp} {us : List U} {vs : List V} (r : RVs K W H us vs) (i : Nat) : RV K W H (us.getD i .non) (vs.getD i .non) := by
  cases e : us[i]? with
  | none =>
    have e2 : vs[i]? = none := by
      rw [List.getElem?_eq_none_iff] at e ⊢
      rw [← r.length]
      exact e
    rw [List.getD_eq_getElem?_getD, List.getD_eq_getElem?_getD, e, e2]
    exact .non
  | some v =>
    obtain ⟨u, eu, ru⟩ := r.get e
    rw [List.getD_eq_getElem?_getD, List.getD_eq_getElem?_getD, e, eu]
    exact ru
end
end Vi

/-! Vi11: facts for simp. -/
namespace Vi
open PySem PySem.Spec PyProof.Rows L2
variable [WW]
theorem flatUs_strs : ∀ l : List Str, flatUs (l.map U.str) = some (l.map V.str)
  | [] => rfl
  | x :: l => by simp [flatUs, flatU, flatUs_strs l]
theorem inV_strs (x : Str) : ∀ l : List Str, inV (.str x) (l.map V.str) = decide (x ∈ l)
  | [] => rfl
  | y :: l => by
    have ih := inV_strs x l
    unfold inV at ih ⊢
    rw [List.map_cons, List.any_cons, ih]
    by_cases h : y = x
    · subst h; simp [eqV]
    · have h' : ¬ x = y := fun z => h z.symm
      simp [eqV, h, h']
theorem inU_tup (x : Str) (l : List Str) : inU? (.str x) (.tup (l.map U.str)) = some (decide (x ∈ l)) := by
  unfold inU?
  simp only [flatU, seqU, Option.bind_some, flatUs_strs, inV_strs]
theorem inU_lst (x : Str) (l : List Str) : inU? (.str x) (.lst (l.map U.str)) = some (decide (x ∈ l)) := by
  unfold inU?
  simp only [flatU, seqU, Option.bind_some, flatUs_strs, inV_strs]
@[simp] theorem eqU_str (x y : Str) : eqU? (.str x) (.str y) = some (decide (x = y)) := rfl
@[simp] theorem eqU_int (x y : Int) : eqU? (.int x) (.int y) = some (decide (x = y)) := rfl
@[simp] theorem eqU_bl (x y : Bool) : eqU? (.bl x) (.bl y) = some (decide (x = y)) := rfl
end Vi

/-! Vi12: values that repr shows within its limits. -/
namespace Vi
open PySem PySem.Spec PyProof.Rows L2
variable [WW]
/-- data whose text has at most n signs, at most k deep -/
def ShB (u : U) (n k : Nat) : Prop := ∃ d, toD u = some d ∧ d.showable = true ∧ d.hasDict = false ∧ d.depth ≤ k ∧ d.shown.length ≤ n
def ShBs (us : List U) (n k : Nat) : Prop := ∃ ds, toDs us = some ds ∧ PyData.showableAll ds = true ∧ PyData.hasDictAll ds = false ∧ PyData.depthAll ds ≤ k ∧ ds.length = us.length ∧ ((PyData.shownAll ds).map (·.length)).sum ≤ n * us.length ∧ (PyData.shownAll ds).length = us.length
theorem ShB.some {u : U} {n k : Nat} (h : ShB u n k) (hn : n ≤ sizeLine) (hk : k ≤ 60) : ∃ x, reprU u = some x := by
  obtain ⟨d, e, h1, h2, h3, h4⟩ := h
  refine ⟨d.shown, ?_⟩
  unfold reprU
  rw [e]
  have a : d.depth ≤ 60 := by omega
  have b : d.shown.length ≤ sizeLine := by omega
  simp [h1, h2, a, b]
theorem ShB.mono {u : U} {n k n' k' : Nat} (h : ShB u n k) (hn : n ≤ n') (hk : k ≤ k') : ShB u n' k' := by
  obtain ⟨d, e, h1, h2, h3, h4⟩ := h
  exact ⟨d, e, h1, h2, by omega, by omega⟩
theorem sh_str {x : Str} {n : Nat} (h : (reprText x).length ≤ n) : ShB (.str x) n 0 := ⟨.str x, rfl, rfl, rfl, Nat.le_refl _, h⟩
theorem sh_bl {b : Bool} : ShB (.bl b) 5 0 := ⟨.bool b, rfl, rfl, rfl, Nat.le_refl _, by cases b <;> decide⟩
theorem sh_non : ShB .non 5 0 := ⟨.none, rfl, rfl, rfl, Nat.le_refl _, by decide⟩
theorem sh_int {i : Int} {k : Nat} (hk : k ≤ 1919) (h : i.natAbs.log2 ≤ k) : ShB (.int i) (k + 2) 0 := by
  refine ⟨.int i, rfl, ?_, rfl, Nat.le_refl _, ?_⟩
  · simp only [PyData.showable, decide_eq_true_eq]; omega
  · have e := int_text_length_le (a := i) (k := k + 1) (by omega) (by omega)
    show (PySem.Str.ofString (toString i)).length ≤ _
    rw [PySem.ofString_length]
    omega
theorem shs_of {n k : Nat} : ∀ {us : List U}, (∀ u ∈ us, ShB u n k) → ShBs us n k
  | [], _ => ⟨[], rfl, rfl, rfl, Nat.zero_le _, rfl, by simp [PyData.shownAll], rfl⟩
  | u :: us, h => by
    obtain ⟨d, e, h1, h2, h3, h4⟩ := h u (List.mem_cons_self ..)
    obtain ⟨ds, es, g1, g2, g3, g4, g5, g6⟩ := shs_of (us := us) fun w hw => h w (List.mem_cons_of_mem _ hw)
    refine ⟨d :: ds, ?_, ?_, ?_, ?_, ?_, ?_, ?_⟩
    · simp only [toDs, e, es]
    · simp only [PyData.showableAll, h1, g1, Bool.and_self]
    · simp only [PyData.hasDictAll, h2, g2, Bool.or_self]
    · simp only [PyData.depthAll]; omega
    · simp [g4]
    · simp only [PyData.shownAll, List.map_cons, List.sum_cons, List.length_cons, Nat.mul_add, Nat.mul_one]; omega
    · simp [PyData.shownAll, g6]
theorem ShBs.tup {us : List U} {n k : Nat} (h : ShBs us n k) : ShB (.tup us) ((n + 2) * us.length + 3) (k + 1) := by
  obtain ⟨ds, es, g1, g2, g3, g4, g5, g6⟩ := h
  refine ⟨.tuple ds, ?_, g1, g2, ?_, ?_⟩
  · simp only [toD, es, Option.map_some]
  · simp only [PyData.depth]; omega
  · simp only [PyData.shown]
    have e := tupleText_len_le (PyData.shownAll ds)
    rw [g6] at e
    rw [Nat.add_mul]; omega
theorem ShBs.lst {us : List U} {n k : Nat} (h : ShBs us n k) : ShB (.lst us) ((n + 2) * us.length + 3) (k + 1) := by
  obtain ⟨ds, es, g1, g2, g3, g4, g5, g6⟩ := h
  refine ⟨.list ds, ?_, g1, g2, ?_, ?_⟩
  · simp only [toD, es, Option.map_some]
  · simp only [PyData.depth]; omega
  · simp only [PyData.shown]
    have e := listText_len_le (PyData.shownAll ds)
    rw [g6] at e
    rw [Nat.add_mul]; omega
end Vi

/-! Vi13: loops with an invariant, the pot, bounds of bits. -/
namespace Vi
open PySem PySem.Spec PyProof.Rows L2
variable [WW]
theorem forU_inv {g : UG} {b : US} {P : UD} (I : En → Hv → Prop) (last : ∀ e h, I e h → P.nx e h) : ∀ (l : List U), (∀ u ∈ l, ∀ e h F, I e h → (∀ e h, I e h → F e h) → g u e h fun e1 h1 => b e1 h1 { nx := F, rt := P.rt, er := P.er, bk := P.nx, ct := F }) → ∀ e h, I e h → forU g b P l e h
  | [], _, e, h, i => last e h i
  | u :: us, st, e, h, i => st u (List.mem_cons_self ..) e h _ i fun e1 h1 i1 => forU_inv I last us (fun w hw => st w (List.mem_cons_of_mem _ hw)) e1 h1 i1
/-- .. the invariant with the place -/
theorem forU_ix' {g : UG} {b : US} {P : UD} (I : Nat → En → Hv → Prop) : ∀ (l : List U) (k : Nat), (∀ e h, I (k + l.length) e h → P.nx e h) → (∀ j u, l[j]? = some u → ∀ e h F, I (k + j) e h → (∀ e h, I (k + j + 1) e h → F e h) → g u e h fun e1 h1 => b e1 h1 { nx := F, rt := P.rt, er := P.er, bk := P.nx, ct := F }) → ∀ e h, I k e h → forU g b P l e h
  | [], k, last, _, e, h, i => last e h (by simpa using i)
  | u :: us, k, last, st, e, h, i => by
    refine st 0 u (by simp) e h _ (by simpa using i) fun e1 h1 i1 => ?_
    refine forU_ix' I us (k + 1) (fun e h i => last e h ?_) (fun j w hw e h F i0 hF => st (j + 1) w (by simpa using hw) e h F ?_ fun e h i2 => hF e h ?_) e1 h1 (by simpa using i1)
    · rw [List.length_cons, show k + (us.length + 1) = k + 1 + us.length by omega]; exact i
    · rw [show k + (j + 1) = k + 1 + j by omega]; exact i0
    · rw [show k + 1 + j + 1 = k + (j + 1) + 1 by omega]; exact i2
theorem forU_ix {g : UG} {b : US} {P : UD} (I : Nat → En → Hv → Prop) {l : List U} (last : ∀ e h, I l.length e h → P.nx e h) (st : ∀ j u, l[j]? = some u → ∀ e h F, I j e h → (∀ e h, I (j + 1) e h → F e h) → g u e h fun e1 h1 => b e1 h1 { nx := F, rt := P.rt, er := P.er, bk := P.nx, ct := F }) {e : En} {h : Hv} (i : I 0 e h) : forU g b P l e h :=
  forU_ix' I l 0 (fun e h i => last e h (by simpa using i)) (fun j u hu e h F i0 hF => st j u hu e h F (by simpa using i0) fun e h i1 => hF e h (by simpa using i1)) e h i
/-- a comprehension: what holds of each item, what is kept; as many as walked -/
theorem compU_inv {g : UG} {tt : UT} {te : UE} {vs : List Nat} {Po : List U → En → Hv → Prop} (I : List U → En → Hv → Prop) (last : ∀ acc e h, I acc e h → Po acc e h) : ∀ (l : List U), (∀ u ∈ l, ∀ acc e h (F : List U → En → Hv → Prop), I acc e h → (∀ acc e h, I acc e h → F acc e h) → g u e h fun env1 h1 => tt env1 h1 (fun b env2 h2 => if b = true then te env2 h2 (fun sv env3 h3 => acc.length < sizeLine ∧ F (acc ++ [sv.u]) (wipeE env3 vs) h3) noEx else F acc (wipeE env2 vs) h2) noEx) → ∀ acc e h, I acc e h → compU g tt te vs Po l acc e h
  | [], _, acc, e, h, i => last acc e h i
  | u :: us, st, acc, e, h, i => st u (List.mem_cons_self ..) acc e h _ i fun a1 e1 h1 i1 => compU_inv I last us (fun w hw => st w (List.mem_cons_of_mem _ hw)) a1 e1 h1 i1
theorem compU_ix' {g : UG} {tt : UT} {te : UE} {vs : List Nat} {Po : List U → En → Hv → Prop} (I : Nat → List U → En → Hv → Prop) : ∀ (l : List U) (k : Nat), (∀ acc e h, I (k + l.length) acc e h → Po acc e h) → (∀ j u, l[j]? = some u → ∀ acc e h (F : List U → En → Hv → Prop), I (k + j) acc e h → (∀ acc e h, I (k + j + 1) acc e h → F acc e h) → g u e h fun env1 h1 => tt env1 h1 (fun b env2 h2 => if b = true then te env2 h2 (fun sv env3 h3 => acc.length < sizeLine ∧ F (acc ++ [sv.u]) (wipeE env3 vs) h3) noEx else F acc (wipeE env2 vs) h2) noEx) → ∀ acc e h, I k acc e h → compU g tt te vs Po l acc e h
  | [], k, last, _, acc, e, h, i => last acc e h (by simpa using i)
  | u :: us, k, last, st, acc, e, h, i => by
    refine st 0 u (by simp) acc e h _ (by simpa using i) fun a1 e1 h1 i1 => ?_
    refine compU_ix' I us (k + 1) (fun a e h i => last a e h ?_) (fun j w hw a e h F i0 hF => st (j + 1) w (by simpa using hw) a e h F ?_ fun a e h i2 => hF a e h ?_) a1 e1 h1 (by simpa using i1)
    · rw [List.length_cons, show k + (us.length + 1) = k + 1 + us.length by omega]; exact i
    · rw [show k + (j + 1) = k + 1 + j by omega]; exact i0
    · rw [show k + 1 + j + 1 = k + (j + 1) + 1 by omega]; exact i2
theorem compU_ix {g : UG} {tt : UT} {te : UE} {vs : List Nat} {Po : List U → En → Hv → Prop} (I : Nat → List U → En → Hv → Prop) {l : List U} (last : ∀ acc e h, I l.length acc e h → Po acc e h) (st : ∀ j u, l[j]? = some u → ∀ acc e h (F : List U → En → Hv → Prop), I j acc e h → (∀ acc e h, I (j + 1) acc e h → F acc e h) → g u e h fun env1 h1 => tt env1 h1 (fun b env2 h2 => if b = true then te env2 h2 (fun sv env3 h3 => acc.length < sizeLine ∧ F (acc ++ [sv.u]) (wipeE env3 vs) h3) noEx else F acc (wipeE env2 vs) h2) noEx) {acc : List U} {e : En} {h : Hv} (i : I 0 acc e h) : compU g tt te vs Po l acc e h :=
  compU_ix' I l 0 (fun a e h i => last a e h (by simpa using i)) (fun j u hu a e h F i0 hF => st j u hu a e h F (by simpa using i0) fun a e h i1 => hF a e h (by simpa using i1)) acc e h i
theorem rangeU_len (lo : Int) (n : Nat) : (rangeU lo n).length = n := by simp [rangeU]
theorem rangeU_at {lo : Int} {n j : Nat} {u : U} (h : (rangeU lo n)[j]? = some u) : j < n ∧ u = .int (lo + j) := by
  unfold rangeU at h
  rw [List.getElem?_map] at h
  by_cases hj : j < n
  · rw [List.getElem?_range hj] at h
    exact ⟨hj, by simpa using h.symm⟩
  · rw [List.getElem?_eq_none (by simpa using hj)] at h
    cases h
/-! ### bits -/
def LB (i : Int) (k : Nat) : Prop := i.natAbs < 2 ^ k
theorem LB.mul {i j : Int} {k m : Nat} (a : LB i k) (b : LB j m) : LB (i * j) (k + m) := by
  unfold LB at *
  rw [Int.natAbs_mul, Nat.pow_add]
  rcases Nat.eq_zero_or_pos j.natAbs with z | z
  · rw [z, Nat.mul_zero]; exact Nat.mul_pos (Nat.two_pow_pos _) (Nat.two_pow_pos _)
  · exact Nat.lt_of_lt_of_le (Nat.mul_lt_mul_of_pos_right a z) (Nat.mul_le_mul_left _ (Nat.le_of_lt b))
theorem LB.add {i j : Int} {k : Nat} (a : LB i k) (b : LB j k) : LB (i + j) (k + 1) := by
  unfold LB at *
  have := Int.natAbs_add_le i j
  rw [Nat.pow_succ]; omega
theorem LB.mono {i : Int} {k m : Nat} (a : LB i k) (h : k ≤ m) : LB i m := Nat.lt_of_lt_of_le a (Nat.pow_le_pow_right (by decide) h)
theorem LB.log {i : Int} {k : Nat} (a : LB i k) : i.natAbs.log2 ≤ k := by
  unfold LB at a
  by_cases z : i.natAbs = 0
  · rw [z]; simp
  · exact Nat.le_of_lt ((Nat.log2_lt z).mpr a)
theorem cmul_l {i j : Int} (h : -(2 ^ 64) < i ∧ i < 2 ^ 64) : CMul i j ∨ CMulW i j := .inl (.inl h)
theorem cmul_r {i j : Int} (h : -(2 ^ 64) < j ∧ j < 2 ^ 64) : CMul i j ∨ CMulW i j := .inl (.inr h)
theorem cmul_w {i j : Int} {k m : Nat} (a : LB i k) (b : LB j m) (h : k + m < 1000000) : CMul i j ∨ CMulW i j := by
  have := a.log; have := b.log
  exact .inr (show i.natAbs.log2 + j.natAbs.log2 < 1000000 by omega)
/-! ### the pot -/
/-- at i stands a pot that was drawn from at most k times -/
def PotAt (h : Hv) (i k : Nat) : Prop := ∃ a b n : Int, h[i]? = some (.lst [.int a, .int b, .int n]) ∧ 0 ≤ b ∧ b < 2 ^ 60 ∧ 0 ≤ n ∧ n ≤ k
theorem PotAt.mono {h : Hv} {i k m : Nat} (p : PotAt h i k) (hk : k ≤ m) : PotAt h i m := by
  obtain ⟨a, b, n, e, h1, h2, h3, h4⟩ := p
  exact ⟨a, b, n, e, h1, h2, h3, by omega⟩
/-- the rest of the heap stays -/
def Rest (i : Nat) (h h' : Hv) : Prop := h'.length = h.length ∧ ∀ j, j ≠ i → h'[j]? = h[j]?
theorem Rest.refl {i : Nat} {h : Hv} : Rest i h h := ⟨rfl, fun _ _ => rfl⟩
theorem Rest.trans {i : Nat} {h h1 h2 : Hv} (a : Rest i h h1) (b : Rest i h1 h2) : Rest i h h2 := ⟨b.1.trans a.1, fun j hj => (b.2 j hj).trans (a.2 j hj)⟩
theorem Rest.set {i : Nat} {h : Hv} {o : Ob} : Rest i h (h.set i o) := ⟨List.length_set, fun j hj => List.getElem?_set_ne (fun z => hj z.symm)⟩
theorem obL_of {h : Hv} {i : Nat} {us : List U} (e : h[i]? = some (.lst us)) : obL h i = some us := by unfold obL; rw [e]
theorem lt_of_at {h : Hv} {i : Nat} {o : Ob} (e : h[i]? = some o) : i < h.length := (List.getElem?_eq_some_iff.mp e).1
theorem obL_set {h : Hv} {i : Nat} {us : List U} (e : i < h.length) : obL (h.set i (.lst us)) i = some us := obL_of (by rw [List.getElem?_set_self e])
end Vi

/-! Vi14: an error object made as a value. -/
namespace Vi
open PySem PySem.Spec PyProof.Rows L2
variable [WW]
@[simp] def uErr (x : Str) : UE := fun env h Po _ => Po (.val (.err x)) env h
section
variable {X : Cx} {L : Lx}
/-- a new thing at a free place, tracked -/
theorem hok_new {P : Program} {w : World} {H : Hp} {h h' : Heap} {a : Addr} {o : HO} (x : HOk P w H h) (k : ∀ b u, h.get? b = some u → h'.get? b = some u) (hn : H a = none) (new : ObjOk P w (upd H a o) h' a o) : HOk P w (upd H a o) h' := by
  intro b u e
  by_cases hb : b = a
  · subst hb
    rw [upd_same] at e
    cases e
    exact new
  · rw [upd_ne hb] at e
    refine (x b u e).stay (fun c v _ q => k c v q) (fun c q => ?_) (fun c xs q => ?_)
    · rw [upd_ne (ne_of_none q hn)]; exact q
    · rw [upd_ne (ne_of_none q hn)]; exact q
theorem un_new {fs ex : List Addr} {H : Hp} {h h' : Heap} {a : Addr} {o : HO} (k : ∀ b u, h.get? b = some u → h'.get? b = some u) (hg : h.get? a = none) (hn : H a = none) : Un fs ex H (upd H a o) h h' where
  keep := fun b ob e _ _ _ => k b ob e
  slot := fun b ob e _ _ => fun _ => ⟨ob.slots, k b ob e⟩
  free := fun b ob e n _ => by
    rw [upd_ne (fun z => by subst z; rw [hg] at e; cases e)]
    exact n
  there := fun b ob e _ => ⟨ob, k b ob e⟩
  tups := fun b xs e => by rw [upd_ne (ne_of_none e hn)]; exact e
  frzs := fun b ob z e => by rw [upd_ne (ne_of_none e hn)]; exact e
  tbls := fun b ps e => ⟨#[], by rw [upd_ne (ne_of_none e hn), e]; simp⟩
theorem we_err {x m : Str} {j : Nat} {p p2 pos : Pos} (q : eclB X.K x = true) (hK : L.K = X.K) (gC : X.mg x = some (.ref (He.ga X.K x))) (hg : Gl X x) (hdb : (x == ("__debug__" : Str)) = false := by decide) : WE X L (.Call (.Name x p) [.Constant (.str m) j p2] [] pos) (uErr x) := by
  obtain ⟨c0, _, _⟩ := eclB_ok q
  obtain ⟨c1, c2, c3, c4⟩ := He.exc_ok c0
  refine ⟨fun pins s σ H Q I ht => ?_⟩
  obtain ⟨W, env, h, Po, Pe, S, ht, c⟩ := ht
  have mk := pmk_own (j := j) (p := p) (p2 := p2) (pos := pos) (m := m) PySem.F.excBase_ValueError c1 gC c2 (raises_own c3 c4) hg hdb
  refine wpAny_mono (mk pins s σ H (fun cls d H' => cls = .ref (He.ga X.K x) ∧ d = none ∧ H' = H) I ⟨rfl, rfl, rfl⟩) (fun u s' mp => ?_) (fun _ _ z => z)
  obtain ⟨a, oe, vs, sI, H', cls, d, rfl, J, k, hne, he, hz, hd, _, na, os, ag, _, rfl, rfl, rfl⟩ := mp
  obtain ⟨S2, l2⟩ : Sim L.K W env h σ (upd H' a (.frz oe (.own a))) ∧ LeW W H' W (upd H' a (.frz oe (.own a))) := ⟨S.none_ na _, .none_ S.sh na _⟩
  have new : ObjOk X.prog X.w (upd H' a (.frz oe (.own a))) s'.heap a (.frz oe (.own a)) := ⟨he, oe, he⟩
  refine ⟨.ref a, _, J.call' (ch := []) os (un_new k hne na) (hok_new J.hok k na new) ag (fun _ z => by cases z), rfl, ?_⟩
  refine c.ok W (.val (.err x)) env h _ _ l2 S2 (.err ⟨oe, vs, upd_same, by rw [hK]; exact hz.1, hz.2, hd⟩ (by rw [hK]; exact q)) ht
end
@[simp] def uChn (f g : UO) (a b c : UE) : UE := fun env h Po Pe => a env h (fun x env1 h1 => b env1 h1 (fun y env2 h2 => f x.u y.u h2 (fun sv h3 => svB sv fun k => if k = true then c env2 h3 (fun z env4 h4 => g y.u z.u h4 (fun sv h5 => Po sv env4 h5)) Pe else Po (.val (.bl false)) env2 h3)) Pe) Pe
section
variable {X : Cx} {L : Lx} {pos : Pos} {a b c : Expr} {ta tb tc : UE} {f g : UO}
theorem lg_chn {σ : L2.St} {H : Hp} {Q : VK} (h : lg L (RT L) (uChn f g ta tb tc) σ H Q) : tChain (lo L.K f) (lo L.K g) (lg L (RT L) ta) (lg L (RT L) tb) (lg L (RT L) tc) σ H Q := by
  obtain ⟨W, env, h, Po, Pe, S, ht, c⟩ := h
  refine ⟨W, env, h, _, _, S, ht, ⟨fun W1 x env1 h1 v1 H1 l1 S1 r1 q1 => ?_, c.er⟩⟩
  obtain ⟨W1', S1', l1', rv1⟩ := S1.freeze r1
  have c1 := c.le (l1.trans l1')
  refine ⟨W1', env1, h1, _, _, S1', q1, ⟨fun W2 y env2 h2 v2 H2 l2 S2 r2 q2 => ?_, c1.er⟩⟩
  obtain ⟨W2', S2', l2', rv2⟩ := S2.freeze r2
  have c2 := c1.le (l2.trans l2')
  refine ⟨W2', env2, h2, σ, x.u, y.u, _, S2', rv1.le (l2.trans l2').toLeP, rv2, q2, fun W3 sv h3 v3 H3 l3 S3 r3 q3 => ?_⟩
  obtain ⟨k, rfl, q4⟩ := q3.at_ r3
  refine ⟨k, rfl, ?_⟩
  have c3 := c2.le l3
  cases k with
  | false => exact c3.ok W3 (.val (.bl false)) env2 h3 _ H3 .refl S3 (.bl _) q4
  | true =>
    refine ⟨W3, env2, h3, _, _, S3, q4, ⟨fun W4 z env4 h4 v4 H4 l4 S4 r4 q5 => ?_, c3.er⟩⟩
    obtain ⟨W4', S4', l4', rv4⟩ := S4.freeze r4
    have c4 := c3.le (l4.trans l4')
    exact ⟨W4', env4, h4, σ, y.u, z.u, _, S4', rv2.le (l3.trans (l4.trans l4')).toLeP, rv4, q5, fun W5 sv h5 v5 H5 l5 S5 r5 q6 => c4.ok W5 sv env4 h5 v5 H5 l5 S5 r5 q6⟩
theorem we_chn {o o' : CmpOp} (ho : OpR X (compareOp o) (lo L.K f)) (hg : OpR X (compareOp o') (lo L.K g)) (ha : WE X L a ta) (hb : WE X L b tb) (hc : WE X L c tc)
    (hm : lastMarks [o, o'] [b, c] = false := by with_unfolding_all rfl) : WE X L (.Compare a [o, o'] [b, c] pos) (uChn f g ta tb tc) :=
  PE.wk (pe_chain ho hg ha hb hc hm) fun _ _ _ => lg_chn
theorem wt_chn {o o' : CmpOp} (ho : OpR X (compareOp o) (lo L.K f)) (hg : OpR X (compareOp o') (lo L.K g)) (ha : WE X L a ta) (hb : WE X L b tb) (hc : WE X L c tc)
    (hm : lastMarks [o, o'] [b, c] = false := by with_unfolding_all rfl) : WT X L (.Compare a [o, o'] [b, c] pos) (uB (uChn f g ta tb tc)) :=
  PT.wk (pt_chain ho hg ha hb hc hm) fun _ _ _ h => lg_chn (lg_B h)
end
theorem Tx.ecl {fa : List He.Fa} {cs : List (Str × U)} {fn : List He.DefD} {K : PySem.W.Frag} {mg : Str → Option Value} (T : Tx fa cs fn K mg) (i : Nat) {x : Str} (h : cs[i]? = some (x, .ecl x) := by rfl) : eclB K x = true ∧ mg x = some (.ref (He.ga K x)) := by
  obtain ⟨a, v, m, r, rr⟩ := T.cst i h
  have z := rr ⟨fun _ => none, []⟩ (fun _ => none)
  cases z with
  | ecl e c =>
    subst e
    exact ⟨c, by rw [m, (show a = .ref _ from r)]⟩
end Vi

/-! Vi15: divmod, the first place of a value in a list, lists of ints. -/
namespace Vi
open PySem PySem.Spec PyProof.Rows L2
variable [WW]
@[simp] def bDivmod : UB := fun us h P => match us with
  | [.int i, .int j] => CDiv i j ∧ P (.val (.tup [.int (i / j), .int (i % j)])) h
  | _ => False
theorem call_divmodU {X : Cx} {K : PySem.W.Frag} (hK : K = X.K) : CallR X (.builtin "divmod") (lb K bDivmod) := by
  refine CallR.wk call_divF fun xs H Q ⟨W, env, h, σ, us, P, S, r, ht, c⟩ => ?_
  unfold bDivmod at ht
  split at ht
  · obtain ⟨v, w, rfl, ru, rw_⟩ := RVs.two r
    cases ru
    cases rw_
    exact ⟨_, _, rfl, ht.1, c.tup S (.cons (.int _) (.cons (.int _) .nil)) ht.2⟩
  · exact ht.elim
/-- x.index(e), x a name of a list that stays -/
@[simp] def uIdx (k : Nat) (r : UA) : UE := fun env h Po Pe => ∃ us vs, env[k]? = some (some (.val (.lst us))) ∧ flatUs us = some vs ∧ r env h (fun args env1 h1 => match args with
  | [u] => ∃ v j z, flatU u = some v ∧ vs[j]? = some z ∧ eqV z v = true ∧ (∀ (m : Nat) (z' : V), m < j → vs[m]? = some z' → eqV z' v = false) ∧ Po (.val (.int (j : Nat))) env1 h1
  | _ => False) Pe
theorem we_idx {X : Cx} {L : Lx} {k : Nat} {e : Expr} {x : Str} {p apos cpos : Pos} {r : UA} (hK : L.K = X.K)
    (hx : PE X (.Name x p) (tVar k)) (hA : WA X L [e] r)
    (hbase : attributeBase (.Name x p) "index" X.env (eval (.Name x p) X.env) = eval (.Name x p) X.env := by rfl)
    (hfew : ((backTo cpos (starEach [e] X.env)).all (fun x => !x.1) && (backToKw cpos (keywordEach [] X.env)).all (fun x => x.1.isSome) && decide ([e].length + ([] : List Keyword).length + (if ([] : List Keyword).isEmpty then 0 else 1) < 30)) = true := by rfl)
    (hline : (apos.endLine == cpos.line) = true := by rfl) (hs : starEach [e] X.env = (false, eval e X.env) :: starEach [] X.env := by rfl) (hplain : (backTo cpos (starEach [] X.env)).any (·.1) = false := by rfl) :
    WE X L (.Call (.Attribute (.Name x p) "index" apos) [e] [] cpos) (uIdx k r) := by
  refine PE.wk (pe_bm PySem.F.plainAttrs_list PySem.F.slot_list_index PySem.F.type_list_index mt_index hx hA hbase hfew hline hs hplain) fun σ H Q ⟨W, env, h, Po, Pe, S, ⟨us, vs, e0, ef, ht⟩, c⟩ => ?_
  obtain ⟨v, ev, rv⟩ := S.slots k _ e0
  have rv' : RV L.K W H (.lst us) v := rv
  cases rv' with
  | lst n ea rs =>
    rename_i a ws
    obtain ⟨e1, e2⟩ := rs.flat ef
    subst e1
    refine ⟨_, ev, .inl ⟨rfl, ws, .inl (.inl ea)⟩, W, env, h, _, _, S, ht, ⟨fun W1 args env1 h1 avs H1 l1 S1 r1 q1 => ?_, c.er⟩⟩
    split at q1
    · obtain ⟨y, rfl, ry⟩ := RVs.one r1
      obtain ⟨vv, j, z, f1, f2, f3, f4, f5⟩ := q1
      obtain ⟨g1, g2⟩ := ry.flat f1
      subst g1
      have ea1 := (l1.toLeP.frl ea n).2
      exact ⟨a, ws, y, j, z, rfl, rfl, .inl (.inl ea1), g2, e2, f2, f3, f4, c.ok W1 (.val (.int j)) env1 h1 _ H1 l1 S1 (.int _) f5⟩
    · exact q1.elim
/-! ### lists of ints -/
def intsU (ns : List Int) : U := .lst (ns.map U.int)
theorem toDs_ints : ∀ ns : List Int, toDs (ns.map U.int) = some (ns.map PyData.int)
  | [] => rfl
  | n :: ns => by simp [toDs, toD, toDs_ints ns]
theorem flatUs_ints : ∀ ns : List Int, flatUs (ns.map U.int) = some (ns.map V.int)
  | [] => rfl
  | n :: ns => by simp [flatUs_ints ns]
theorem shaped_ints (ns : List Int) : SeqAt.shaped (.list (ns.map PyData.int)) = true := by
  have h1 : ∀ ns : List Int, PyData.canLayAll0 (ns.map PyData.int) = true := fun ns => by
    induction ns with
    | nil => rfl
    | cons n ns ih => simp [PyData.canLayAll0, PyData.canLay0, ih]
  have h2 : ∀ ns : List Int, PyData.depthAll (ns.map PyData.int) = 0 := fun ns => by
    induction ns with
    | nil => rfl
    | cons n ns ih => simp [PyData.depthAll, PyData.depth, ih]
  simp [SeqAt.shaped, PyData.canLay0, PyData.depth, h1, h2]
theorem eqU_ints_nil (ns : List Int) : eqU? (.lst (ns.map U.int)) (.lst []) = some ns.isEmpty := by
  show eqD? _ _ = _
  have e : toD (.lst (ns.map U.int)) = some (.list (ns.map PyData.int)) := by simp [toD, toDs_ints]
  have s2 := shaped_ints []
  simp only [List.map_nil] at s2
  unfold eqD?
  rw [e]
  simp only [toD, toDs, Option.map_some, shaped_ints, s2, Bool.and_self, if_true]
  cases ns <;> rfl
end Vi

/-! Vi16: a tuple so many times, data in a tuple of data. -/
namespace Vi
open PySem PySem.Spec PyProof.Rows L2
variable [WW]
/-- x in a tuple, by data -/
def inD? (u w : U) : Option Bool := match toD u, toD w with
  | some d, some (.tuple ds) => if SeqAt.shaped d && SeqAt.shaped (.tuple ds) then some (ds.any fun z => PyData.eqv z d) else none
  | _, _ => none
@[simp] def bInD (neg : Bool) : UO := fun u w h P => match inD? u w with
  | some b => P (.val (.bl (if neg then !b else b))) h
  | none => False
section
variable {X : Cx}
theorem inD_ok {u w : U} {b : Bool} (h : inD? u w = some b) : ∃ d ds, toD u = some d ∧ toD w = some (.tuple ds) ∧ SeqAt.shaped d = true ∧ SeqAt.shaped (.tuple ds) = true ∧ b = ds.any fun z => PyData.eqv z d := by
  unfold inD? at h
  split at h
  · rename_i d ds h1 h2
    split at h
    · rename_i h3
      simp only [Bool.and_eq_true] at h3
      cases h
      exact ⟨d, ds, h1, h2, h3.1, h3.2, rfl⟩
    · cases h
  · cases h
theorem op_inDU (hu : X.A.units + 64 + 1 < cLine) : OpR X (compareOp .In) (lo X.K (bInD false)) := by
  intro pins s σ H x y v u Q I rx ry q
  obtain ⟨W, env, h, σ', uu, ww, P, S, ru, rw_, ht, c⟩ := q
  unfold bInD at ht
  split at ht
  · rename_i b e
    obtain ⟨d, ds, h1, h2, h3, h4, rfl⟩ := inD_ok e
    obtain ⟨as, r1⟩ := Dp.reads I d x v (ru.dp h1) rx
    obtain ⟨bs, r2⟩ := Dp.reads I (.tuple ds) y u (rw_.dp h2) ry
    exact SeqAt.in_tuple_reads r2 r1 (SeqAt.canLay_of_shaped h4) (SeqAt.canLay_of_shaped h3) (room_in_shaped h3 hu) ⟨.bl _, H, I, rfl, c.val S (.bl _) ht⟩
  · exact ht.elim
/-- a tuple once is itself -/
theorem tuple_one (l : Addr) (items : Array Value) (n : Nat) (dd : Option Addr) (sl : Array (Option Value)) (u : Tok) :
    Meets (Builtin.«tuple.__mul__» ⟨[.ref l, .int 1 u], []⟩) (fun _ R s => s.heap.get? l = some { cls := .type "tuple", dict := dd, data := .seq items n, slots := sl } ∧ R (.ok (.ret (Value.ref l))) s) :=
  .of_wp fun prog w A R s h => by
    obtain ⟨hp, g, d, tk, os⟩ := s
    obtain ⟨hl, h⟩ := h
    have f1 := AutoSeq1.idx_int
    wp_walk using wpAny_loadPart' hl
    exact ⟨_, rfl, h⟩
theorem op_oneT : OpR X (binaryOp .Mult) (fun x y H Q => ∃ l xs, x = V.ref l ∧ y = V.int 1 ∧ SqT X.K H l xs ∧ Q (V.ref l) H) := by
  intro pins s σ H x y v u Q I rx ry h
  obtain ⟨l, xs, rfl, rfl, hT, q⟩ := h
  cases rx
  obtain ⟨t, rfl⟩ := ry
  obtain ⟨its, r, ⟨⟨cls, dd, data, sl⟩, ho, hc, n, hd⟩, hs⟩ := I.tuple hT
  simp only at hc hd
  subst hc hd
  have fin : EP X pins σ Q (.ref l) s := ⟨.ref l, H, I, rfl, q⟩
  exact wpAny_binaryOp_repeat_ref (T := "tuple") (U := "int") (by decide) ⟨_, ho, rfl⟩ (fun s' => typeIs_int s' 1 t) noFill_tuple_mul PySem.F.fills_int_mul PySem.F.slot_int_rmul repeat_tuple PySem.F.slot_int_index.lookup
    (call_meets PySem.F.slot_int_rmul (typeIs_int s 1 t) PySem.F.entry_int_rmul (PySem.F.args_int_rmul_2 _ _) (int_rmul_tuple 1 t l its.toArray n dd sl)
      ⟨ho, rfl, ⟨_, ho, rfl⟩, call_meets PySem.F.slot_tuple_mul ⟨_, ho, rfl⟩ PySem.F.entry_tuple_mul (PySem.F.args_tuple_mul_2 _ _) (tuple_one l its.toArray n dd sl t) ⟨ho, fin⟩⟩)
/-- .. not at all: a new empty one -/
theorem tuple_zero (l : Addr) (a : Value) (items : List Value) (n : Nat) (dd : Option Addr) (sl : Array (Option Value)) (u : Tok) :
    Meets (Builtin.«tuple.__mul__» ⟨[.ref l, .int 0 u], []⟩) (fun _ R s => s.heap.get? l = some { cls := .type "tuple", dict := dd, data := .seq (a :: items).toArray n, slots := sl } ∧
      R (.ok (.ret (Value.ref s.heap.objs.size))) { s with heap := s.heap.push { cls := Value.type "tuple", data := Data.seq #[] }, toks := s.toks }) :=
  .of_wp fun prog w A R s h => by
    obtain ⟨hp, g, d, tk, os⟩ := s
    obtain ⟨hl, h⟩ := h
    have f1 := AutoSeq1.idx_int
    wp_walk using wpAny_loadPart' hl
    exact ⟨_, rfl, h⟩
theorem op_zeroT : OpR X (binaryOp .Mult) (fun x y H Q => ∃ l xs, x = V.ref l ∧ y = V.int 0 ∧ SqT X.K H l xs ∧ xs ≠ [] ∧ NewT H Q []) := by
  intro pins s σ H x y v u Q I rx ry h
  obtain ⟨l, xs, rfl, rfl, hT, hne, q⟩ := h
  cases rx
  obtain ⟨t, rfl⟩ := ry
  obtain ⟨its, r, ⟨⟨cls, dd, data, sl⟩, ho, hc, n, hd⟩, hs⟩ := I.tuple hT
  simp only at hc hd
  subst hc hd
  cases its with
  | nil =>
    have e : xs.length = 0 := r.length
    exact absurd (List.length_eq_zero_iff.mp e) hne
  | cons a its =>
    have fin : EP X pins σ Q (.ref s.heap.objs.size) { s with heap := s.heap.push { cls := Value.type "tuple", data := Data.seq #[] }, toks := s.toks } :=
      laidT I (its := []) (Nat.zero_le _) .nil q
    exact wpAny_binaryOp_repeat_ref (T := "tuple") (U := "int") (by decide) ⟨_, ho, rfl⟩ (fun s' => typeIs_int s' 0 t) noFill_tuple_mul PySem.F.fills_int_mul PySem.F.slot_int_rmul repeat_tuple PySem.F.slot_int_index.lookup
      (call_meets PySem.F.slot_int_rmul (typeIs_int s 0 t) PySem.F.entry_int_rmul (PySem.F.args_int_rmul_2 _ _) (int_rmul_tuple 0 t l (a :: its).toArray n dd sl)
        ⟨ho, rfl, ⟨_, ho, rfl⟩, call_meets PySem.F.slot_tuple_mul ⟨_, ho, rfl⟩ PySem.F.entry_tuple_mul (PySem.F.args_tuple_mul_2 _ _) (tuple_zero l a its n dd sl t) ⟨ho, fin⟩⟩)
@[simp] def bMulT : UO := fun u w h P => match u, w with
  | .tup a, .int k => a ≠ [] ∧ 0 ≤ k ∧ k ≤ 1000 ∧ a.length ≤ 1000 ∧ P (.val (.tup (List.replicate k.toNat a).flatten)) h
  | _, _ => False
theorem op_mulTU : OpR X (binaryOp .Mult) (lo X.K bMulT) := by
  refine OpR.wk ((op_oneT.or op_zeroT).or op_repF) fun x y H Q ⟨W, env, h, σ, u, w, P, S, ru, rw_, ht, c⟩ => ?_
  unfold bMulT at ht
  split at ht
  · rename_i a k
    obtain ⟨h1, h2, h3, h4, q⟩ := ht
    have ru0 := ru
    cases rw_
    cases ru with
    | tup hq r =>
      by_cases hk : k = 1
      · subst hk
        refine .inl (.inl ⟨_, _, rfl, rfl, hq.sq, c.val S ru0 ?_⟩)
        simpa using q
      by_cases hk0 : k = 0
      · subst hk0
        refine .inl (.inr ⟨_, _, rfl, rfl, hq.sq, fun z => h1 (List.length_eq_zero_iff.mp (by rw [r.length, z]; rfl)), ?_⟩)
        exact c.tup S .nil (by simpa using q)
      · refine .inr ⟨_, _, _, rfl, rfl, hq.sq, fun z => h1 (List.length_eq_zero_iff.mp (by rw [r.length, z]; rfl)), by omega, h3, by rw [← r.length]; exact h4, ?_⟩
        exact c.tup S (r.rep k.toNat) q
  · exact ht.elim
end
theorem room5 {k : Nat} {A : Around} (r : Room k A) : A.units + 64 + 1 < cLine := by
  have := r.un
  omega
/-- a constant that is a default: the default's address is the global's -/
theorem Tx.cstA {fa : List He.Fa} {cs : List (Str × U)} {fn : List He.DefD} {K : PySem.W.Frag} {mg : Str → Option Value} (T : Tx fa cs fn K mg) (i j : Nat) {x : Str} {u : U} (h : cs[i]? = some (x, u) := by rfl) (hj : fa[j]? = some (.glo x) := by rfl) : ∀ W H, RV K W H u (.ref (He.ga K x)) := by
  obtain ⟨a, v, m, r, rr⟩ := T.cst i h
  have e := T.glo j hj
  rw [m] at e
  cases e
  cases v with
  | ref b =>
    have z : Value.ref (He.ga K x) = Value.ref b := r
    cases z
    exact rr
  | non => cases (show Value.ref _ = Value.none from r)
  | bl b => cases (show Value.ref _ = Value.bool b from r)
  | int b => obtain ⟨t, z⟩ := (show ∃ t, Value.ref _ = Value.int b t from r); cases z
  | str b => obtain ⟨t, z⟩ := (show ∃ t, Value.ref _ = Value.str b t from r); cases z
  | byt b => exact absurd r (by unfold L2.RelV; rintro ⟨_, z⟩; cases z)
  | flt b => exact absurd r (by unfold L2.RelV; rintro ⟨_, z⟩; cases z)
  | ty b => cases (show Value.ref _ = Value.type b from r)
end Vi

/-! Vi17: data that are equal to themselves; data within the limits of ==. -/
namespace Vi
open PySem PySem.Spec PyProof.Rows L2
variable [WW]
/-- data at most k deep, its texts sound -/
def Shp (u : U) (k : Nat) : Prop := ∃ d, toD u = some d ∧ d.canLay0 = true ∧ d.depth ≤ k
theorem Shp.mono {u : U} {k m : Nat} (h : Shp u k) (z : k ≤ m) : Shp u m := by
  obtain ⟨d, e, h1, h2⟩ := h
  exact ⟨d, e, h1, by omega⟩
theorem shp_int (i : Int) : Shp (.int i) 0 := ⟨.int i, rfl, rfl, Nat.le_refl _⟩
theorem shp_bl (b : Bool) : Shp (.bl b) 0 := ⟨.bool b, rfl, rfl, Nat.le_refl _⟩
theorem shp_str {x : Str} (h : PyData.strOk x = true) : Shp (.str x) 0 := ⟨.str x, rfl, by simp [PyData.canLay0, h], Nat.le_refl _⟩
theorem shps {k : Nat} : ∀ {us : List U}, (∀ u ∈ us, Shp u k) → ∃ ds, toDs us = some ds ∧ PyData.canLayAll0 ds = true ∧ PyData.depthAll ds ≤ k
  | [], _ => ⟨[], rfl, rfl, Nat.zero_le _⟩
  | u :: us, h => by
    obtain ⟨d, e, h1, h2⟩ := h u (List.mem_cons_self ..)
    obtain ⟨ds, es, g1, g2⟩ := shps (us := us) fun w hw => h w (List.mem_cons_of_mem _ hw)
    refine ⟨d :: ds, by simp only [toDs, e, es], by simp only [PyData.canLayAll0, h1, g1, Bool.and_self], ?_⟩
    simp only [PyData.depthAll]
    omega
theorem shp_tup {us : List U} {k : Nat} (h : ∀ u ∈ us, Shp u k) : Shp (.tup us) (k + 1) := by
  obtain ⟨ds, es, g1, g2⟩ := shps h
  exact ⟨.tuple ds, by simp only [toD, es, Option.map_some], by simpa only [PyData.canLay0] using g1, by simp only [PyData.depth]; omega⟩
theorem shp_lst {us : List U} {k : Nat} (h : ∀ u ∈ us, Shp u k) : Shp (.lst us) (k + 1) := by
  obtain ⟨ds, es, g1, g2⟩ := shps h
  exact ⟨.list ds, by simp only [toD, es, Option.map_some], by simpa only [PyData.canLay0] using g1, by simp only [PyData.depth]; omega⟩
theorem eqD_same {u : U} {k : Nat} (h : Shp u k) (hk : k ≤ 64) : eqD? u u = some true := by
  obtain ⟨d, e, h1, h2⟩ := h
  have s : SeqAt.shaped d = true := by simp [SeqAt.shaped, h1]; omega
  unfold eqD?
  rw [e]
  simp [s, SeqAt.eqv_refl d h1]
end Vi

/-! Vi18: a caught error that is kept as a value behind its suite. -/
namespace Vi
open PySem PySem.Spec PyProof.Rows L2
variable [WW]
section
variable {X : Cx} {pins : List (Addr × Obj)} {σ : L2.St} {H : Hp} {s : Shared}
/-- an object that stands in the heap and is new since the def's begin: told from here on -/
theorem inv_told {a : Addr} {oe : Obj} {vs : Array Value} (I : L2.Inv X pins σ H s) (he : s.heap.get? a = some oe) (hd : oe.data = .fields vs) (na : H a = none) (nl : a ≠ X.env.locals) (n0 : X.s_0.heap.get? a = none) (np : ∀ p ∈ X.pn ++ pins, p.1 ≠ a) :
    L2.Inv X pins σ (upd H a (.frz oe (.own a))) s where
  ok := I.ok
  os := I.os
  bare := I.bare
  base := {
    keep := I.base.keep
    slot := I.base.slot
    free := fun b o e n hx => by
      rw [upd_ne (fun z => by subst z; rw [n0] at e; cases e)]
      exact I.base.free b o e n hx
    there := I.base.there
    tups := fun b xs e => by
      have q := I.base.tups b xs e
      rw [upd_ne (ne_of_none q na)]; exact q
    frzs := fun b o u e => by
      have q := I.base.frzs b o u e
      rw [upd_ne (ne_of_none q na)]; exact q
    tbls := fun b ps e => by
      obtain ⟨m, q⟩ := I.base.tbls b ps e
      exact ⟨m, by rw [upd_ne (ne_of_none q na)]; exact q⟩ }
  loc := I.loc
  cell := I.cell
  free := by rw [upd_ne (Ne.symm nl)]; exact I.free
  freeC := fun x c e => by
    have q := I.freeC x c e
    rw [upd_ne (fun z => ?_)]
    · exact q
    · subst z
      obtain ⟨v, o, ho, hc⟩ := I.cell x c e
      rw [he] at ho
      cases ho
      rw [hd] at hc
      cases hc
  pin := fun p hp => by
    obtain ⟨q1, q2, q3⟩ := I.pin p hp
    exact ⟨q1, by rw [upd_ne (np p hp)]; exact q2, q3⟩
  hok := hok_new I.hok (fun _ _ e => e) na ⟨he, oe, he⟩
  len := I.len
/-- what is asked where the body's error comes: caught, it is kept as a told object -/
def wKeep (K : PySem.W.Frag) (c : Value) (i : Nat) (ts : Addr → Value → Option Addr → TS) (Wo : WX) (D : Ends) : WX := fun cls d σ H =>
  ∃ b, PySem.W.exmOne K cls c = some b ∧ (b = false → Wo cls d σ H) ∧ (b = true → ∀ a oe, H a = none → oe.cls = cls → oe.dict = d → (∃ vs, oe.data = .fields vs) →
    ts a cls d ⟨fun σ1 H1 => D.nx (σ1.set i none) (upd H1 a (.frz oe (.own a))), fun _ _ => False, fun _ _ => False, fun _ _ => False⟩ (σ.set i (some (.ref a))) H)
theorem ps_try_keep {x n : Str} {c : Value} {i : Nat} {body rest : List Stmt} {st : Stmt} {np p1 p2 : Pos} {tb : WX → TS} {ts : Addr → Value → Option Addr → TS} {Wo : WX}
    (hex : X.ex = []) (hs : X.stack = X.env :: X.outer) (hf : X.env.frame = some X.env.locals) (hN : X.N.Nodup) (hi : X.N[i]? = some n) (hln : X.env.kindOf n = some .local) (hc : Names X x c) (tk : Takes X Wo)
    (hb : ∀ (W : WX) (pn : List (Addr × Obj)) (xe : Value → Shared → Prop), Takes (X.tr pn xe) W → PassesOwn (model X.prog X.w) X.A X.env xe → PSs (X.tr pn xe) body (tb W))
    (hsu : ∀ (a : Addr) (oe : Obj) (cls : Value) (d : Option Addr) (pn : List (Addr × Obj)), PSs (X.suite a ((a, oe) :: pn)) (st :: rest) (ts a cls d)) :
    PS X (.Try body [.ExceptHandler (some (.Name x np)) (some n) (st :: rest) p2] [] [] p1) (fun D σ H => tb (wKeep X.K c i ts Wo D) D σ H) := by
  constructor
  intro pins s0 σ0 H0 D I0 h0
  have ok := I0.ok
  have hfr : X.A.frames = some (X.env :: X.outer) := by
    rw [← hs]
    exact ok.frames
  apply wpAny_Try_except
  have B0 := hb (wKeep X.K c i ts Wo D) (X.pn ++ pins) (fun e t1 => wpAny (model X.prog X.w) X.A (noteFrame e X.env) (fun _ t2 => wpAny (model X.prog X.w) X.A (setFlight e none)
      (fun _ t3 => wpAny (model X.prog X.w) X.A (handleBy e X.env [.ExceptHandler (some (.Name x np)) (some n) (st :: rest) p2]) (SP X pins D) X.xe t3) X.xe t2) X.xe t1) ?tk PassesOwn.looking
  case tk =>
    rintro u s' ⟨a, B, sI, pins', σ', H', cls, d, rfl, J', nb, up, sky, na, os, ag, b, hb1, hno, hyes⟩
    have J := J'.ofTry ok
    have sky' := sky
    rw [show (X.tr (X.pn ++ pins) _).stack = X.env :: X.outer from hs] at sky'
    refine Sky.land Zc.steady hfr hf sky' fun h3 fl3 up3 => ?_
    have J3 : L2.Inv X pins σ' H' { s' with heap := h3 } := J.landed nb fl3.1 (up.trans up3) os ag
    obtain ⟨oe3, vs3, he3, hz3, hd3⟩ := fl3.there
    have nfr : a ∉ frs (X.env :: X.outer) := fun hm => by
      obtain ⟨_, o1, g1, g2⟩ := fl3.2.2.1.mem hm
      rw [he3] at g1
      cases g1
      exact g2 _ hd3
    have nl : a ≠ X.env.locals := fun z => nfr (List.mem_filterMap.mpr ⟨X.env, List.mem_cons_self, by rw [z]; exact hf⟩)
    have nF : a ∉ X.fs := fun hm => by
      obtain ⟨e, m1, m2⟩ := List.mem_filterMap.mp hm
      exact nfr (List.mem_filterMap.mpr ⟨e, List.mem_cons_of_mem _ m1, m2⟩)
    have nB : B.get? a = none := fl3.2.1
    have notIn : ∀ o, ¬ sI.heap.get? a = some o := fun o e => by
      have := nb a o e (by rw [hs]; exact nfr)
      rw [nB] at this
      cases this
    refine wpAny_handleBy_cons (codeAny_handlers_test ?_) (by intro q; cases q)
    have S3 := J3.suite he3 hd3 na nl nF
    have LT : PySem.W.Looks (model X.prog X.w) h3 (typeOf (.ref a)) cls := fun A Q E s k q => by
      apply wpAny_typeOf_ref (k _ _ he3)
      rw [hz3.1]
      exact q
    have LM := PySem.W.exm_one (M := model X.prog X.w) J3.kIn LT hb1
    have name_ok : ∀ {Q E : Value → Shared → Prop}, Q c { s' with heap := h3 } → wpAny (model X.prog X.w) (X.A.mark (some (.ref a))) (eval (.Name x np) X.env) Q E { s' with heap := h3 } := by
      intro Q E q
      rcases hc with ⟨g1, g2, g3 | ⟨g3, g4, g5⟩⟩
      · exact ld_glob (X := X.suite a ((a, oe3) :: (X.pn ++ pins))) S3 g1 g3 q g2
      · exact ld_blt (X := X.suite a ((a, oe3) :: (X.pn ++ pins))) S3 g1 g3 g4 q g5 g2
    apply name_ok
    apply LM.here
    cases b with
    | false =>
      show wpAny _ X.A (handleBy (.ref a) X.env []) _ _ _
      apply wpAny_handleBy_nil
      have fl := fl3
      obtain ⟨_, _, _, o5, v5, T5, oT5, t5, e5, _, d5, f5, _⟩ := fl
      unfold PySem.passOn
      apply wpAny_bind
      apply wpAny_field e5 d5 f5
      rw [if_neg (show ¬ ((Value.ref T5 == Value.none) = true) by simp)]
      have out : wpAny (model X.prog X.w) X.A (setFlight (.ref a) X.env.frame) (fun _ t4 => wpAny (model X.prog X.w) X.A (throw (.ref a) : Sem Flow) (SP X pins D) X.xe t4) X.xe { s' with heap := h3 } := by
        rw [hf]
        refine HandSPX.setFlight_upZ fl3 fun h4 hh4 up4 => wpAny_throw (tk _ _ ?_)
        refine ⟨a, B, sI, pins, σ', H', cls, d, rfl, J, nb, (up.trans up3).trans up4, ?_, na, os, ag, hno rfl⟩
        rw [hs]
        exact .inr (.inr hh4)
      first
        | exact wpAny_bind out
        | exact wpAny_bind (wpAny_pure (wpAny_bind out))
    | true =>
      apply codeAny_handlers_suite_as
      refine HandSPX.lands_againZ fl3 fun h4 fl4 up4 => ?_
      have J4 : L2.Inv X pins σ' H' { s' with heap := h4 } := J.landed nb fl4.1 ((up.trans up3).trans up4) os ag
      obtain ⟨oe, vs4, he4, hz4, hd4⟩ := fl4.there
      refine store_ok (X := X.suite a ((a, oe) :: (X.pn ++ pins))) (v := .ref a) (J4.suite he4 hd4 na nl nF) hN hi (.inl hln) rfl (fun s5 S5 => ?_) (.inr hln)
      refine wpAny_mono ((hsu a oe cls d (X.pn ++ pins)).run [] s5 _ H' _ S5 (hyes rfl a oe na hz4.1 hz4.2 ⟨_, hd4⟩)) (fun f s6 hsp => ?_) (fun _ _ z => z.elim)
      cases f with
      | next =>
        obtain ⟨σ6, H6, S6, q6⟩ := hsp
        have pa := S6.pin (a, oe) (List.mem_append_left _ List.mem_cons_self)
        have U6 := S6.unsuite ok
        have t6 := inv_told U6 pa.1 hd4 pa.2.1 nl (by
          cases e : X.s_0.heap.get? a with
          | none => rfl
          | some o =>
            by_cases hx : a ∈ X.ex
            · rw [hex] at hx
              cases hx
            · obtain ⟨o', e'⟩ := J.base.there a o e hx
              exact absurd e' (notIn o')) (fun p hp z => by
          have := (J.pin p hp).1
          rw [z] at this
          exact notIn _ this)
        exact gone_ok t6 hN hi hln fun s7 J7 => ⟨_, _, J7, q6⟩
      | brk =>
        obtain ⟨_, _, _, q6⟩ := hsp
        exact q6.elim
      | cont =>
        obtain ⟨_, _, _, q6⟩ := hsp
        exact q6.elim
      | ret u =>
        obtain ⟨_, _, _, _, _, q6⟩ := hsp
        exact q6.elim
  refine wpAny_mono (B0.run [] s0 σ0 H0 D (I0.toTry _) h0) (fun f s1 hsp => ?_) (fun e s1 he => he)
  cases f with
  | next =>
    obtain ⟨σ1, H1, J1, q⟩ := hsp
    exact wpAny_execs_nil ⟨σ1, H1, J1.ofTry ok, q⟩
  | brk =>
    obtain ⟨σ1, H1, J1, q⟩ := hsp
    exact ⟨σ1, H1, J1.ofTry ok, q⟩
  | cont =>
    obtain ⟨σ1, H1, J1, q⟩ := hsp
    exact ⟨σ1, H1, J1.ofTry ok, q⟩
  | ret u =>
    obtain ⟨v, σ1, H1, J1, r, q⟩ := hsp
    exact ⟨v, σ1, H1, J1.ofTry ok, r, q⟩
end
/-! ### try: .. except SlotError as e: caught = e -/
@[simp] def uTry (xs : List Str) (i j : Nat) (b : US) : US := fun env h P => i ≠ j ∧ b env h ⟨P.nx, P.rt, fun ex env1 h1 => ex.arg = none ∧ ex.cls ∈ xs ∧ i < env1.length ∧ j < env1.length ∧ P.nx ((env1.set j (some (.val (.err ex.cls)))).set i none) h1, P.bk, P.ct⟩
theorem Sim.clear {K : PySem.W.Frag} {W : Wd} {env : En} {h : Hv} {σ σ1 : L2.St} {H : Hp} (S : Sim K W env h σ H) {i : Nat} (hl : σ1.length = σ.length) (hk : ∀ k, k ≠ i → σ1[k]? = σ[k]?) : Sim K W (env.set i none) h σ1 H where
  sh := S.sh
  len := by rw [List.length_set, S.len, hl]
  slots := fun k sv e => by
    by_cases z : k = i
    · subst z
      by_cases hk2 : k < env.length
      · rw [List.getElem?_set_self hk2] at e
        cases e
      · rw [List.getElem?_eq_none (by simpa using hk2)] at e
        cases e
    · rw [List.getElem?_set_ne (Ne.symm z)] at e
      rw [hk k z]
      exact S.slots k sv e
section
variable {X : Cx} {L : Lx}
theorem ws_try {xs : List Str} {n y : Str} {i j : Nat} {body : List Stmt} {np p1 p2 p3 p4 p5 : Pos} {b : US}
    (hx : ∀ x ∈ xs, eclB L.K x = true) (hK : L.K = X.K) (hga : L.ga = He.ga L.K) (hex : X.ex = []) (hs : X.stack = X.env :: X.outer) (hf : X.env.frame = some X.env.locals) (hN : X.N.Nodup) (hi : X.N[i]? = some n) (hln : X.env.kindOf n = some .local)
    (hc : Names X "SlotError" (.ref (L.ga "SlotError"))) (tk : Takes X L.wx)
    (hb : ∀ (W : WX) (pn : List (Addr × Obj)) (xe : Value → Shared → Prop), Takes (X.tr pn xe) W → PassesOwn (model X.prog X.w) X.A X.env xe → WSs (X.tr pn xe) ⟨L.K, L.ga, W⟩ body b)
    (hsu : ∀ (a : Addr) (oe : Obj) (cls : Value) (d : Option Addr) (pn : List (Addr × Obj)), PSs (X.suite a ((a, oe) :: pn)) [.Assign [.Name y p4] (.Name n p5) p3] (tAsg (tVar i) (gName j))) :
    WS X L (.Try body [.ExceptHandler (some (.Name "SlotError" np)) (some n) [.Assign [.Name y p4] (.Name n p5) p3] p2] [] [] p1) (uTry xs i j b) := by
  refine PS.wk (ps_try_keep (tb := fun W => ls ⟨L.K, L.ga, W⟩ b) hex hs hf hN hi hln hc tk hb hsu) fun D σ H ⟨W, env, h, P, S, ⟨nij, ht⟩, c⟩ => ?_
  refine ⟨W, env, h, _, S, ht, ⟨c.nx, c.bk, c.ct, c.rt, fun W1 ex env1 h1 σ1 H1 cls d l1 S1 x1 q1 => ?_⟩⟩
  obtain ⟨ea, em, li, lj, q⟩ := q1
  have hc1 := hx _ em
  obtain ⟨g1, g2⟩ := eclB_sup hc1
  refine ⟨true, ?_, (fun z => by cases z), fun _ a oe na z1 z2 z3 => ?_⟩
  · rw [x1.1, hga, ← hK]
    exact g1
  · have l2 : i < σ1.length := by rw [← S1.len]; exact li
    refine ⟨.ref a, List.getElem?_set_self l2, ?_⟩
    obtain ⟨vs3, z3'⟩ := z3
    have dn : d = none := x1.2.1 ea
    have lj1 : j < σ1.length := by rw [← S1.len]; exact lj
    have S2 := S1.none_ na (.frz oe (.own a))
    have le2 : LeW W1 H1 W1 (upd H1 a (.frz oe (.own a))) := .none_ S1.sh na _
    have rv : RV L.K W1 (upd H1 a (.frz oe (.own a))) (.err ex.cls) (.ref a) := .err ⟨oe, vs3, upd_same, by rw [z1, x1.1, hga], by rw [z2, dn], z3'⟩ hc1
    have S3 := S2.store lj rv
    refine c.nx W1 _ h1 _ _ (l1.trans le2) (S3.clear (σ1 := ((σ1.set i (some (.ref a))).set j (some (.ref a))).set i none) (i := i) (by simp) fun k hk => ?_) q
    rw [List.getElem?_set_ne (Ne.symm hk)]
    by_cases hj : k = j
    · subst hj
      rw [List.getElem?_set_self lj1, List.getElem?_set_self (by rw [List.length_set]; exact lj1)]
    · rw [List.getElem?_set_ne (Ne.symm hj), List.getElem?_set_ne (Ne.symm hj), List.getElem?_set_ne (Ne.symm hk)]
end
/-- isinstance of an error and its own class -/
@[simp] def bIse : UB := fun us h P => match us with
  | [.err x, .ecl y] => x = y ∧ P (.val (.bl true)) h
  | _ => False
section
variable {X : Cx}
theorem call_iseU : CallR X (.builtin "isinstance") (lb X.K bIse) := by
  intro pins s σ H xs us Q I r q
  obtain ⟨W, env, h, σ', ws, P, S, rr, ht, c⟩ := q
  unfold bIse at ht
  split at ht
  · rename_i x y
    obtain ⟨rfl, ht⟩ := ht
    obtain ⟨v, w, rfl, ru, rw_⟩ := RVs.two rr
    cases ru with
    | err he hc =>
      rename_i b
      cases rw_ with
      | ecl ea _ =>
        rename_i a2
        subst ea
        obtain ⟨oe, vs, e1, e2, e3, e4⟩ := he
        obtain ⟨_, C, _⟩ := eclB_ok hc
        obtain ⟨_, k⟩ := eclB_sup hc
        obtain ⟨u1, u2, rfl, r1, r2⟩ := vals2 r
        cases r1
        cases r2
        have g := (I.hok _ _ e1).1
        have J : PySem.W.InstAt s.heap b oe (He.ga X.K x) none := by
          obtain ⟨oc, od, oda, osl⟩ := oe
          dsimp only at e2 e3 e4
          subst e2 e3 e4
          exact ⟨g, rfl, rfl, trivial⟩
        exact PySem.W.kia_one (PySem.W.handS_kitx_exc C.hg C.hk C.hs C.hd C.ha C.hn C.ht C.hm) I.kIn J k (fun z => nomatch z) fun tk => ⟨.bl true, H, I.kept (t' := tk) fun _ _ z => z, rfl, c.val S (.bl _) ht⟩
  · exact ht.elim
end
end Vi

/-! Vi19: texts joined and split. -/
namespace Vi
open PySem PySem.Spec PyProof.Rows L2
variable [WW]
/-- the texts of a list or tuple -/
def strsU : U → Option (List U)
  | .lst us => some us
  | .tup us => some us
  | _ => none
/-- all are texts -/
def allStr : List U → Option (List Str)
  | [] => some []
  | .str x :: us => (match allStr us with
    | some xs => some (x :: xs)
    | none => none)
  | _ :: _ => none
theorem allStr_map : ∀ xs : List Str, allStr (xs.map U.str) = some xs
  | [] => rfl
  | x :: xs => by simp [allStr, allStr_map xs]
theorem allStr_app : ∀ {us ws : List U} {xs ys : List Str}, allStr us = some xs → allStr ws = some ys → allStr (us ++ ws) = some (xs ++ ys)
  | [], ws, xs, ys, h, g => by
    cases h
    exact g
  | u :: us, ws, xs, ys, h, g => by
    cases u with
    | str x =>
      simp only [allStr] at h
      split at h
      · rename_i zs e
        cases h
        simp only [List.cons_append, allStr, allStr_app e g]
      · cases h
    | _ => simp [allStr] at h
theorem RVs.strs {K : PySem.W.Frag} {W : Wd} {H : Hp} : ∀ {us : List U} {vs : List V} {xs : List Str}, RVs K W H us vs → allStr us = some xs → vs = xs.map V.str
  | [], vs, xs, r, h => by
    cases h
    cases r
    rfl
  | u :: us, vs, xs, r, h => by
    cases u with
    | str x =>
      simp only [allStr] at h
      split at h
      · rename_i zs e
        cases h
        cases r with
        | cons a b =>
          cases a
          rw [RVs.strs b e]
          rfl
      · cases h
    | _ => simp [allStr] at h
@[simp] def uJoin (t te : UE) : UE := fun env h Po Pe => t env h (fun sv env1 h1 => match sv.u with
  | .str a => te env1 h1 (fun sw env2 h2 => match strsU sw.u with
    | some us => (match allStr us with
      | some ys => (ys.map (·.length)).sum + ys.length * a.length ≤ 16777216 ∧ Po (.val (.str (Txt.join a ys))) env2 h2
      | none => False)
    | none => False) Pe
  | _ => False) Pe
@[simp] def uSplit (t te : UE) : UE := fun env h Po Pe => t env h (fun sv env1 h1 => match sv.u with
  | .str a => te env1 h1 (fun sw env2 h2 => match sw.u with
    | .str b => (b.length == 0) = false ∧ a.length + 2 ≤ sizeLine ∧ Po (.own ((Txt.split a b).map U.str)) env2 h2
    | _ => False) Pe
  | _ => False) Pe
section
variable {X : Cx} {L : Lx} {o e : Expr} {t te : UE} {apos pos : Pos}
theorem RVs.of_strs {K : PySem.W.Frag} {W : Wd} {H : Hp} : ∀ xs : List Str, RVs K W H (xs.map U.str) (xs.map V.str)
  | [] => .nil
  | x :: xs => .cons (.str x) (RVs.of_strs xs)
theorem we_join (hK : L.K = X.K) (ho : WE X L o t) (he : WE X L e te) (hs : starEach [e] X.env = [(false, eval e X.env)] := by rfl) (hbase : attributeBase o "join" X.env (eval o X.env) = eval o X.env := by rfl) (hline : (apos.endLine == pos.line) = true := by rfl) :
    WE X L (.Call (.Attribute o "join" apos) [e] [] pos) (uJoin t te) := by
  refine PE.wk (L2.pe_join ho he hs hbase hline) fun σ H Q ⟨W, env, h, Po, Pe, S, ht, c⟩ => ?_
  refine ⟨W, env, h, _, _, S, ht, ⟨fun W1 sv env1 h1 v H1 l1 S1 r1 q1 => ?_, c.er⟩⟩
  obtain ⟨W1', S1', l1', rv1⟩ := S1.freeze r1
  split at q1
  · rename_i a ea
    rw [ea] at rv1
    cases rv1
    refine ⟨⟨a, rfl⟩, W1', env1, h1, _, _, S1', q1, ⟨fun W2 sw env2 h2 w H2 l2 S2 r2 q2 => ?_, (c.le (l1.trans l1')).er⟩⟩
    obtain ⟨W2', S2', l2', rv2⟩ := S2.freeze r2
    have c2 := (c.le (l1.trans l1')).le (l2.trans l2')
    split at q2
    · rename_i us e1
      split at q2
      · rename_i ys e2
        have fin := c2.ok W2' (.val (.str (Txt.join a ys))) env2 h2 (.str (Txt.join a ys)) H2 .refl S2' (.str _) q2.2
        generalize sw.u = u at e1 rv2
        cases u with
        | lst us' =>
          cases e1
          cases rv2 with
          | lst n ea rs =>
            have := rs.strs e2
            subst this
            exact ⟨a, _, ys, rfl, rfl, .inl (.inl (.inl ea)), q2.1, fin⟩
        | tup us' =>
          cases e1
          cases rv2 with
          | tup ht rs =>
            have := rs.strs e2
            subst this
            exact ⟨a, _, ys, rfl, rfl, .inr (hK ▸ ht.sq), q2.1, fin⟩
        | _ => cases e1
      · exact q2.elim
    · exact q2.elim
  · exact q1.elim
theorem we_split (hK : L.K = X.K) (ho : WE X L o t) (he : WE X L e te) (hs : starEach [e] X.env = [(false, eval e X.env)] := by rfl) (hbase : attributeBase o "split" X.env (eval o X.env) = eval o X.env := by rfl) (hline : (apos.endLine == pos.line) = true := by rfl) :
    WE X L (.Call (.Attribute o "split" apos) [e] [] pos) (uSplit t te) := by
  refine PE.wk (L2.pe_split ho he hs hbase hline) fun σ H Q ⟨W, env, h, Po, Pe, S, ht, c⟩ => ?_
  refine ⟨W, env, h, _, _, S, ht, ⟨fun W1 sv env1 h1 v H1 l1 S1 r1 q1 => ?_, c.er⟩⟩
  obtain ⟨W1', S1', l1', rv1⟩ := S1.freeze r1
  split at q1
  · rename_i a ea
    rw [ea] at rv1
    cases rv1
    refine ⟨⟨a, rfl⟩, W1', env1, h1, _, _, S1', q1, ⟨fun W2 sw env2 h2 w H2 l2 S2 r2 q2 => ?_, (c.le (l1.trans l1')).er⟩⟩
    obtain ⟨W2', S2', l2', rv2⟩ := S2.freeze r2
    have c2 := (c.le (l1.trans l1')).le (l2.trans l2')
    split at q2
    · rename_i b eb
      rw [eb] at rv2
      cases rv2
      refine ⟨a, b, rfl, rfl, q2.1, q2.2.1, fun p hp => ?_⟩
      obtain ⟨S3, l3⟩ := S2'.alloc hp (.lst ((Txt.split a b).map V.str)) .tmp
      exact c2.ok _ (.own _) env2 h2 _ _ l3 S3 ⟨p, _, rfl, Wd.put_same, upd_same, RVs.of_strs _⟩ q2.2.2
    · exact q2.elim
  · exact q1.elim
end
/-- a statement that is never reached -/
def uStuck : US := fun _ _ _ => False
theorem uStuck_iff {env : En} {h : Hv} {P : UD} : uStuck env h P ↔ False := Iff.rfl
theorem ws_stuck {X : Cx} {L : Lx} {s : Stmt} : WS X L s uStuck := ⟨fun _ _ _ _ _ _ q => by
  obtain ⟨_, _, _, _, _, z, _⟩ := q
  exact z.elim⟩
theorem we_ecl {X : Cx} {L : Lx} {x : Str} {p : Pos} (q : eclB L.K x = true ∧ X.mg x = some (.ref (He.ga L.K x))) (hg : Gl X x) (hd : (x == ("__debug__" : Str)) = false := by decide) : WE X L (.Name x p) (uVal (.ecl x)) :=
  we_glo hg q.2 (v := .ref (He.ga L.K x)) rfl (fun _ _ => .ecl rfl q.1) hd
end Vi

/-! Vi20: str(x), the signs of a text. -/
namespace Vi
open PySem PySem.Spec PyProof.Rows L2
variable [WW]
/-- an int as a text -/
def numU (i : Int) : Str := Str.ofString (toString i)
@[simp] def bStr : UB := fun us h P => match us with
  | [.int i] => i.natAbs.log2 < 1920 ∧ P (.val (.str (numU i))) h
  | [.str a] => P (.val (.str a)) h
  | _ => False
section
variable {X : Cx} {L : Lx}
theorem call_strU : CallR X (.type "str") (lb X.K bStr) := by
  refine CallR.wk (Vi.CallR.or L2.call_str_int SkE.call_str_str) fun xs H Q ⟨W, env, h, σ, us, P, S, r, ht, c⟩ => ?_
  unfold bStr at ht
  split at ht
  · obtain ⟨v, rfl, ru⟩ := RVs.one r
    cases ru
    exact .inl ⟨_, rfl, ht.1, c.val S (.str _) ht.2⟩
  · obtain ⟨v, rfl, ru⟩ := RVs.one r
    cases ru
    exact .inr ⟨_, rfl, c.val S (.str _) ht⟩
  · exact ht.elim
/-- one sign in a text -/
@[simp] def bInS (neg : Bool) : UO := fun u w h P => match u, w with
  | .str x, .str z => (match x.cps.toList with
    | [c] => P (.val (.bl (if neg then !decide (c ∈ z.cps.toList) else decide (c ∈ z.cps.toList)))) h
    | _ => False)
  | _, _ => False
theorem op_inSU : OpR X (compareOp .In) (lo X.K (bInS false)) := by
  refine OpR.wk L2.op_in_sign fun x y H Q ⟨W, env, h, σ, u, w, P, S, ru, rw_, ht, c⟩ => ?_
  unfold bInS at ht
  split at ht
  · rename_i a z
    split at ht
    · rename_i k e
      cases ru
      cases rw_
      have ea : a = ⟨#[k]⟩ := by
        obtain ⟨⟨l⟩⟩ := a
        have e' : l = [k] := e
        rw [e']
      exact ⟨k, z, by rw [ea], rfl, c.val S (.bl _) ht⟩
    · exact ht.elim
  · exact ht.elim
theorem op_notInSU : OpR X (compareOp .NotIn) (lo X.K (bInS true)) := by
  refine OpR.wk L2.op_notIn_sign fun x y H Q ⟨W, env, h, σ, u, w, P, S, ru, rw_, ht, c⟩ => ?_
  unfold bInS at ht
  split at ht
  · rename_i a z
    split at ht
    · rename_i k e
      cases ru
      cases rw_
      have ea : a = ⟨#[k]⟩ := by
        obtain ⟨⟨l⟩⟩ := a
        have e' : l = [k] := e
        rw [e']
      exact ⟨k, z, by rw [ea], rfl, c.val S (.bl _) ht⟩
    · exact ht.elim
  · exact ht.elim
/-- the signs of a text -/
def signsU (x : Str) : List U := x.cps.toList.map fun c => U.str ⟨#[c]⟩
@[simp] def uSigns (t : UE) : UM (List U) := fun env h Po Pe => t env h (fun sv env1 h1 => match sv.u with
  | .str x => Po (signsU x) env1 h1
  | _ => False) Pe
theorem wk_str {K : PySem.W.Frag} {W : Wd} {H : Hp} {x : Str} : Wk K W H (signsU x) (L2.Its x) := fun W' H' l i => by
  unfold signsU
  refine ⟨fun hi => ?_, fun u e => ?_⟩
  · show x.cps.size ≤ i
    simpa using hi
  · rw [List.getElem?_map] at e
    cases q : x.cps.toList[i]? with
    | none => rw [q] at e; cases e
    | some c =>
      rw [q] at e
      cases e
      have q' : x.cps[i]? = some c := by rw [← Array.getElem?_toList]; exact q
      refine ⟨?_, fun v H'' ⟨e1, c', e2, e3⟩ => ?_⟩
      · show i < x.cps.size
        have := (List.getElem?_eq_some_iff.mp q).1
        simpa using this
      · subst e1
        subst e3
        rw [q'] at e2
        cases e2
        exact ⟨.refl, fun _ _ _ S => S, .str _⟩
theorem wi_str {l tg : Expr} {t : UE} (hl : WE X L l t) : WI X L tg l (uSigns t) := by
  refine PI.wk (L2.pi_str hl) fun σ H R ⟨W, env, h, Po, Pe, S, ht, c⟩ => ?_
  refine ⟨W, env, h, _, _, S, ht, ⟨fun W1 sv env1 h1 v1 H1 l1 S1 r1 q1 => ?_, c.er⟩⟩
  obtain ⟨W1', S1', l1', rv1⟩ := S1.freeze r1
  split at q1
  · rename_i x ex
    rw [ex] at rv1
    cases rv1
    exact ⟨x, rfl, c.ok W1' _ env1 h1 _ H1 (l1.trans l1') S1' wk_str q1⟩
  · exact q1.elim
end
end Vi

/-! Vi21: f-strings, methods of a shared list, the parts of a list. -/
namespace Vi
open PySem PySem.Spec PyProof.Rows L2
variable [WW]
/-- {x}: a text or an int -/
@[simp] def uFmt (t : UE) : UE := fun env h Po Pe => t env h (fun sv env1 h1 => match sv.u with
  | .str y => y.length ≤ sizeLine ∧ Po (.val (.str y)) env1 h1
  | .int i => i.natAbs.log2 < 1920 ∧ Po (.val (.str (numU i))) env1 h1
  | _ => False) Pe
/-- the parts, one behind the other -/
@[simp] def uJs : List UE → Str → UE
  | [], acc => fun env h Po _ => Po (.val (.str acc)) env h
  | t :: ts, acc => fun env h Po Pe => t env h (fun sv env1 h1 => match sv.u with
    | .str y => (acc ++ y).length ≤ sizeLine ∧ uJs ts (acc ++ y) env1 h1 Po Pe
    | _ => False) Pe
section
variable {X : Cx} {L : Lx} {pos : Pos}
theorem we_fmt {e : Expr} {t : UE} (he : WE X L e t) : WE X L (.FormattedValue e (-1) none pos) (uFmt t) := by
  refine PE.wk (L2.pe_fmt he) fun σ H Q ⟨W, env, h, Po, Pe, S, ht, c⟩ => ?_
  refine ⟨W, env, h, _, _, S, ht, ⟨fun W1 sv env1 h1 v H1 l1 S1 r1 q1 => ?_, c.er⟩⟩
  obtain ⟨W1', S1', l1', rv1⟩ := S1.freeze r1
  split at q1
  · rename_i y e1
    rw [e1] at rv1
    cases rv1
    exact .inl ⟨y, rfl, q1.1, (c.le (l1.trans l1')).ok W1' (.val (.str y)) env1 h1 _ H1 .refl S1' (.str _) q1.2⟩
  · rename_i i e1
    rw [e1] at rv1
    cases rv1
    exact .inr ⟨i, rfl, q1.1, (c.le (l1.trans l1')).ok W1' (.val (.str (numU i))) env1 h1 _ H1 .refl S1' (.str _) q1.2⟩
  · exact q1.elim
theorem js_ok : ∀ {ts : List UE} {acc : Str} {W : Wd} {env : En} {h : Hv} {Po : Sv → En → Hv → Prop} {Pe : Ex → En → Hv → Prop} {σ : L2.St} {H : Hp} {Q : VK}, Sim L.K W env h σ H → uJs ts acc env h Po Pe → Cont L (RT L) W H σ Po Pe Q →
    L2.tJs (ts.map fun t => lg L (RT L) t) acc σ H fun out H1 => Q (.str out) H1
  | [], acc, W, env, h, Po, Pe, σ, H, Q, S, ht, c => c.ok W (.val (.str acc)) env h _ H .refl S (.str _) ht
  | t :: ts, acc, W, env, h, Po, Pe, σ, H, Q, S, ht, c => by
    refine ⟨W, env, h, _, _, S, ht, ⟨fun W1 sv env1 h1 v H1 l1 S1 r1 q1 => ?_, c.er⟩⟩
    obtain ⟨W1', S1', l1', rv1⟩ := S1.freeze r1
    split at q1
    · rename_i y e1
      rw [e1] at rv1
      cases rv1
      exact ⟨y, rfl, q1.1, js_ok S1' q1.2 (c.le (l1.trans l1'))⟩
    · exact q1.elim
def WJ (X : Cx) (L : Lx) (es : List Expr) (ts : List UE) : Prop := L2.PJ X es (ts.map fun t => lg L (RT L) t)
theorem wj_nil : WJ X L [] [] := .nil
theorem wj_cons {e : Expr} {es : List Expr} {t : UE} {ts : List UE} (h : WE X L e t) (r : WJ X L es ts) : WJ X L (e :: es) (t :: ts) := .cons h r
theorem we_js {v1 v2 : Expr} {rest : List Expr} {ts : List UE} (h : WJ X L (v1 :: v2 :: rest) ts) : WE X L (.JoinedStr (v1 :: v2 :: rest) pos) (uJs ts Str.empty) :=
  PE.wk (L2.pe_joined h) fun _ _ _ ⟨_, _, _, _, _, S, ht, c⟩ => js_ok S ht c
/-- x.m(e, ..), x a shared list -/
@[simp] def uMtR (k : Nat) (f : UMt) (t : UA) : UE := fun env h Po Pe => (∃ r us, env[k]? = some (some (.val (.ref r))) ∧ obL h r = some us) ∧ t env h (fun args env1 h1 => match env1[k]? with
  | some (some (.val (.ref r))) => (match obL h1 r with
    | some us => f us args fun u us' => Po (.val u) env1 (h1.set r (.lst us'))
    | none => False)
  | _ => False) Pe
theorem we_mtR {k : Nat} {f : UMt} {e : Expr} {es : List Expr} {x name : Str} {p apos cpos : Pos} {t : UA} {id : String} (hK : L.K = X.K) (slot : Slot "list" name id) (hty : typeOf (.builtin id) = pure (.type "method_descriptor")) (hm : MtU X id f)
    (hx : PE X (.Name x p) (tVar k)) (ha : WA X L (e :: es) t)
    (hbase : attributeBase (.Name x p) name X.env (eval (.Name x p) X.env) = eval (.Name x p) X.env := by rfl)
    (hfew : ((backTo cpos (starEach (e :: es) X.env)).all (fun x => !x.1) && (backToKw cpos (keywordEach [] X.env)).all (fun x => x.1.isSome) && decide ((e :: es).length + ([] : List Keyword).length + (if ([] : List Keyword).isEmpty then 0 else 1) < 30)) = true := by rfl)
    (hline : (apos.endLine == cpos.line) = true := by rfl) (hs : starEach (e :: es) X.env = (false, eval e X.env) :: starEach es X.env := by rfl) (hplain : (backTo cpos (starEach es X.env)).any (·.1) = false := by rfl) :
    WE X L (.Call (.Attribute (.Name x p) name apos) (e :: es) [] cpos) (uMtR k f t) := by
  refine PE.wk (pe_bm PySem.F.plainAttrs_list slot hty hm hx ha hbase hfew hline hs hplain) fun σ H Q ⟨W, env, h, Po, Pe, S, ⟨⟨r0, us0, e0, o0⟩, ht⟩, c⟩ => ?_
  obtain ⟨v0, ev, rr0⟩ := S.slots k _ e0
  have rr0' : RV L.K W H (.ref r0) v0 := rr0
  cases rr0' with
  | ref m0 n0 =>
    rename_i a
    obtain ⟨_, vs0, ea0, _⟩ := obL_at S.sh o0 m0
    refine ⟨_, ev, .inl ⟨rfl, vs0, .inl (.inl ea0)⟩, W, env, h, _, _, S, ht, ⟨fun W1 args env1 h1 avs H1 l1 S1 r1 q1 => ?_, c.er⟩⟩
    split at q1
    · rename_i r e1
      obtain ⟨v1, ev1, rr1⟩ := S1.slots k _ e1
      rw [ev] at ev1
      cases ev1
      have rr1' : RV L.K W1 H1 (.ref r) (.ref a) := rr1
      cases rr1' with
      | ref m1 n1 =>
        split at q1
        · rename_i us o1
          obtain ⟨_, vs, ea, rv⟩ := obL_at S1.sh o1 m1
          refine ⟨L.K, W1, us, args, a, vs, rfl, ea, rv, r1, _, q1, fun u us' v vs' ru rus q => ?_⟩
          obtain ⟨S2, l2⟩ := S1.upd_obj o1 m1 rus
          exact c.ok W1 (.val u) _ _ v _ (l1.trans l2) S2 (RV.le l2.toLeP ru) q
        · exact q1.elim
    · exact q1.elim
/-- a, b, .. = a list -/
@[simp] def gL (ks : List Nat) : UG := fun u env h Q => match u with
  | .lst us => setsU ks us env h Q
  | .ref r => (match obL h r with
    | some us => setsU ks us env h Q
    | none => False)
  | _ => False
theorem wg_lst {es : List Expr} {j : Nat} {ks : List Nat} (hc : X.calm = true) (hK : L.K = X.K) (h : PGs X es (gNames ks)) (hn : (assignEach es X.env).length = ks.length := by rfl) (hst : (assignEach es X.env).findIdx? (·.1) = none := by rfl) : WG X L (.Tuple es j pos) ks (gL ks) := by
  refine PG.wk (pg_lst (n := ks.length) hc h hn hst) fun v σ H Q ⟨W, env, h, u, P, S, r, ht, c⟩ => ?_
  cases u with
  | lst us =>
    cases r with
    | lst n e rs => exact ⟨_, _, rfl, .inl (.inl e), by rw [← rs.length]; exact setsU_len ht, sets_ok (fun _ z => z) S rs ht c⟩
  | ref i =>
    simp only [gL] at ht
    split at ht
    · rename_i us o
      cases r with
      | ref m n =>
        obtain ⟨_, vs, ea, rv⟩ := obL_at S.sh o m
        exact ⟨_, vs, rfl, .inl (.inl ea), by rw [← rv.length]; exact setsU_len ht, sets_ok (fun _ z => z) S rv ht c⟩
    · exact ht.elim
  | _ => exact ht.elim
end
end Vi

/-! Vi22: a new list stored in a shared list, repr of a shared list. -/
namespace Vi
open PySem PySem.Spec PyProof.Rows L2
variable [WW]
/-- x[i] = a new list, x a shared list: the new one is shared, too -/
@[simp] def uSetIxR (k : Nat) (ti te : UE) : US := fun env h P => te env h (fun sv env1 h1 => match sv with
  | .own us => (∃ x, env1[k]? = some (some x)) ∧ ti env1 (h1 ++ [.lst us]) (fun iv env2 h2 => setAt k iv.u (.ref h1.length) env2 h2 P.nx) P.er
  | _ => False) P.er
@[simp] def bReprR : UB := fun us h P => match us with
  | [.ref r] => (match obL h r with
    | some xs => (match reprU (.lst xs) with
      | some x => P (.val (.str x)) h
      | none => False)
    | none => False)
  | _ => False
section
variable {X : Cx} {L : Lx}
theorem ws_setIxR {k : Nat} {x : Str} {p pos pos' : Pos} {i e : Expr} {ti te : UE} (he : WE X L e te) (hx : PE X (.Name x p) (tVar k)) (hi : WE X L i ti) (hs : swapsWithSole [.Subscript (.Name x p) i pos'] e pos.line X.env = pure false := by rfl)
    (hw : swappedStores [.Subscript (.Name x p) i pos'] e X.env = pure none := by rfl) (h1 : (assignEach [.Subscript (.Name x p) i pos'] X.env).map (·.2) = [assign (.Subscript (.Name x p) i pos') X.env] := by rfl)
    (hsub : ∀ v, assign (.Subscript (.Name x p) i pos') X.env v = (do
      let ov ← holding [v] (eval (.Name x p) X.env)
      let iv ← holding [v, ov] (eval i X.env)
      standAt pos'
      holding [v, ov, iv] (setItem ov iv v)
      release [v, ov, iv] []) := by intro _; rfl) : WS X L (.Assign [.Subscript (.Name x p) i pos'] e pos) (uSetIxR k ti te) := by
  refine PS.wk (ps_asg he (pg_sub hx hi set_list hsub) hs hw h1) fun D σ H ⟨W, env, h, P, S, ht, c⟩ => ?_
  refine ⟨W, env, h, _, _, S, ht, ⟨fun W1 sv env1 h1 y H1 l1 S1 r1 q1 => ?_, c.ret.er⟩⟩
  cases sv with
  | val u => exact q1.elim
  | dic _ _ => exact q1.elim
  | own us =>
    obtain ⟨W1', S1', l1', rv1⟩ := S1.share r1
    have c1 := c.le (l1.trans l1')
    obtain ⟨⟨x0, e0⟩, q1⟩ := q1
    obtain ⟨v, ev, _⟩ := S1'.slots k x0 e0
    refine ⟨v, ev, W1', env1, _, _, _, S1', q1, ⟨fun W2 iv env2 h2 z H2 l2 S2 r2 q2 => ?_, c1.ret.er⟩⟩
    obtain ⟨W2', S2', l2', rv2⟩ := S2.freeze r2
    obtain ⟨a, xs, n, j, ev2, e3, ea, ej, env', h', S3, l3, q3⟩ := setAt_ok S2' rv2 (rv1.le (l2.trans l2').toLeP) q2
    rw [ev] at ev2
    cases ev2
    exact ⟨a, xs, n, j, rfl, e3, ea, ej, c1.nx W2' env' h' σ _ ((l2.trans l2').trans l3) S3 q3⟩
theorem call_reprRU (hg : X.A.guards = some []) (hu : X.A.units + 64 < cLine) : CallR X (.builtin "repr") (lb X.K bReprR) := by
  intro pins s σ H xs us Q I r q
  obtain ⟨W, env, h, σ', ws, P, S, rr, ht, c⟩ := q
  unfold bReprR at ht
  split at ht
  · rename_i i
    obtain ⟨v, rfl, ru⟩ := RVs.one rr
    split at ht
    · rename_i xs' eo
      split at ht
      · rename_i x ex
        unfold reprU at ex
        split at ex
        · rename_i d ed
          split at ex
          · rename_i hc
            simp only [Bool.and_eq_true, decide_eq_true_eq, Bool.not_eq_true'] at hc
            obtain ⟨⟨⟨hs, hd⟩, hdp⟩, hz⟩ := hc
            cases ex
            obtain ⟨w, rfl, rx⟩ := vals1 r
            have fin : ∀ (h' : Heap) (u' : Tok) (tk : Nat), (∀ b o, s.heap.get? b = some o → h'.get? b = some o) → EP X pins σ Q (.str d.shown u') { s with heap := h', toks := tk } := fun h' u' tk hk =>
              ⟨.str d.shown, H, I.kept (h' := h') (t' := tk) hk, ⟨u', rfl⟩, c.val S (.str _) ht⟩
            cases ru with
            | ref m n =>
              rename_i a
              obtain ⟨_, vs, ea, rv⟩ := obL_at S.sh eo m
              have dp : Dp X.K H (.ref a) d := by
                simp only [toD] at ed
                obtain ⟨ds, eds, rfl⟩ := Option.map_eq_some_iff.mp ed
                exact .lst (.inl (.inl ea)) (rv.dp eds)
              obtain ⟨as, rd⟩ := Dp.reads I d (.ref a) w dp rx
              cases rd with
              | list h1 h2 h3 h4 => exact PySem.repr_of_reads' (.list h1 h2 h3 h4) hs (fun z => by rw [hd] at z; cases z) hg (by omega) (fun _ _ e => e) (fun h' u' tk hk => fin h' u' tk hk) hz
              | tuple h1 h2 h3 h4 => exact PySem.repr_of_reads' (.tuple h1 h2 h3 h4) hs (fun z => by rw [hd] at z; cases z) hg (by omega) (fun _ _ e => e) (fun h' u' tk hk => fin h' u' tk hk) hz
              | dict h1 h2 h3 h4 h5 => simp [PyData.hasDict] at hd
              | none => exact PySem.P.repr_of_none (fin s.heap _ _ fun _ _ e => e)
              | bool b => exact PySem.P.repr_of_bool (by cases b <;> exact fin s.heap _ _ fun _ _ e => e)
              | int i t => exact PySem.P.repr_of_int (by simpa [PyData.showable] using hs) (fin s.heap _ _ fun _ _ e => e)
              | str z t => exact PySem.P.repr_of_str (fin s.heap _ _ fun _ _ e => e) (by simpa [PyData.shown] using hz)
          · cases ex
        · cases ex
      · exact ht.elim
    · exact ht.elim
  · exact ht.elim
end
end Vi

/-! Vi23: dicts. -/
namespace Vi
open PySem PySem.Spec PyProof.Rows L2
variable [WW]
section
variable {X : Cx} {pins : List (Addr × Obj)} {σ : L2.St} {H : Hp} {s : Shared} {W : Wd}
/-! ### a tree as a key -/
mutual
theorem RV.key (I : L2.Inv X pins σ H s) : ∀ {u : U} {v : V} {a : Value} {k : NestedKey}, RV X.K W H u v → RelV v a → nkU u = some k → NestedIs s.heap k a
  | _, _, _, _, .non, r, e => by
    cases e
    obtain rfl := show _ = Value.none from r
    exact .none
  | _, _, _, _, .bl b, r, e => by
    cases e
    obtain rfl := show _ = Value.bool b from r
    exact .bool rfl
  | _, _, _, _, .int i, r, e => by
    cases e
    obtain ⟨t, rfl⟩ := show ∃ t, _ = Value.int i t from r
    exact .int i t
  | _, _, _, _, .str x, r, e => by
    cases e
    obtain ⟨t, rfl⟩ := show ∃ t, _ = Value.str x t from r
    exact .text x t
  | _, _, _, _, .ty _, r, e => by cases e
  | _, _, _, _, .tup (us := us) (vs := vs) h rs, r, e => by
    obtain rfl := show _ = Value.ref _ from r
    obtain ⟨ks, e1, rfl⟩ := Option.map_eq_some_iff.mp (show (nkUs us).map NestedKey.tup = _ from e)
    obtain ⟨its, rv, ⟨o, ho, hc, n, hd⟩, _⟩ := I.tuple h.sq
    exact .tup ho hc hd (by simpa using RVs.keys I rs rv e1)
  | _, _, _, _, .lst _ _ _, r, e => by cases e
  | _, _, _, _, .scr _, r, e => by cases e
  | _, _, _, _, .ref _ _, r, e => by cases e
  | _, _, _, _, .err _ _, r, e => by cases e
  | _, _, _, _, .ecl _ _, r, e => by cases e
  | _, _, _, _, .dic _ _ _ _, r, e => by cases e
  | _, _, _, _, .erf _ _ _ _ _, r, e => by cases e
theorem RVs.keys (I : L2.Inv X pins σ H s) : ∀ {us : List U} {vs : List V} {as : List Value} {ks : List NestedKey}, RVs X.K W H us vs → Vals vs as → nkUs us = some ks → NestedAll s.heap ks as
  | _, _, _, _, .nil, r, e => by cases e; cases r; exact .nil
  | _, _, _, _, .cons (u := u) (us := us) a b, r, e => by
    cases r with
    | cons r1 r2 =>
      unfold nkUs at e
      cases q : nkU u with
      | none => rw [q] at e; cases e
      | some k =>
        cases q2 : nkUs us with
        | none => rw [q, q2] at e; cases e
        | some ks =>
          rw [q, q2] at e
          cases e
          exact .cons (RV.key I a r1 q) (RVs.keys I b r2 q2)
end
end
/-! ### what a dict holds -/
def dicAt : List U → List U → NestedKey → Option U
  | u :: us, v :: vs, k => if nkU u = some k then some v else dicAt us vs k
  | _, _, _ => none
def dicHas (ks : List U) (k : NestedKey) : Bool := ks.any fun u => decide (nkU u = some k)
def putV : List U → List U → NestedKey → U → List U
  | u :: us, v :: vs, k, x => (if nkU u = some k then x else v) :: putV us vs k x
  | _, vs, _, _ => vs
def putKs (ks : List U) (k : NestedKey) (u : U) : List U := if dicHas ks k then ks else ks ++ [u]
def putVs (ks vs : List U) (k : NestedKey) (x : U) : List U := if dicHas ks k then putV ks vs k x else vs ++ [x]
def isSc : U → Bool
  | .int _ => true
  | .str _ => true
  | _ => false
def isTp : U → Bool
  | .tup _ => true
  | _ => false
/-- the key u suits the keys that stand there -/
def keyOk (ks : List U) (u : U) : Prop := (isSc u = true ∧ ∀ k ∈ ks, isSc k = true) ∨ (isTp u = true ∧ ∀ k ∈ ks, isTp k = true)
def nkK : Key → NestedKey
  | .inl i => .num i
  | .inr x => .text x
theorem nkU_kU (k : Key) : nkU (kU k) = some (nkK k) := by cases k <;> rfl
theorem nkK_inj {a b : Key} (e : nkK a = nkK b) : a = b := by
  cases a <;> cases b <;> cases e <;> rfl
theorem nkU_kU_eq (k j : Key) : (nkU (kU k) = some (nkK j)) ↔ k = j := by
  rw [nkU_kU]
  exact ⟨fun e => nkK_inj (Option.some.inj e), fun e => by rw [e]⟩
theorem isSc_kU {u : U} (h : isSc u = true) : ∃ k : Key, u = kU k := by
  cases u with
  | int i => exact ⟨.inl i, rfl⟩
  | str x => exact ⟨.inr x, rfl⟩
  | _ => cases h
theorem RV.kU_ {K : PySem.W.Frag} {W : Wd} {H : Hp} {k : Key} {v : V} (r : RV K W H (kU k) v) : v = kV k := by
  cases k with
  | inl i => cases r; rfl
  | inr x => cases r; rfl
/-- what is found stands for what is found -/
def Fnd (K : PySem.W.Frag) (W : Wd) (H : Hp) : Option U → Option V → Prop
  | some u, some v => RV K W H u v
  | none, none => True
  | _, _ => False
theorem Fnd.isSome {K : PySem.W.Frag} {W : Wd} {H : Hp} {a : Option U} {b : Option V} (f : Fnd K W H a b) : a.isSome = b.isSome := by
  cases a <;> cases b <;> first | rfl | exact f.elim
theorem fnd_K {K : PySem.W.Frag} {W : Wd} {H : Hp} (key : Key) : ∀ {kvs : List (Key × V)} {vs : List U}, RVs K W H vs (kvs.map (·.2)) → Fnd K W H (dicAt (kvs.map fun p => kU p.1) vs (nkK key)) (valV kvs key)
  | [], vs, r => by
    cases r
    exact trivial
  | p :: kvs, _, r => by
    cases r with
    | @cons u _ us _ a b =>
      by_cases e : p.1 = key
      · rw [valV_pos e]
        show Fnd K W H (if nkU (kU p.1) = some (nkK key) then some u else _) _
        rw [if_pos ((nkU_kU_eq _ _).mpr e)]
        exact a
      · rw [valV_neg e]
        show Fnd K W H (if nkU (kU p.1) = some (nkK key) then some u else _) _
        rw [if_neg (fun z => e ((nkU_kU_eq _ _).mp z))]
        exact fnd_K key b
abbrev YP (xs : List (NestedKey × Addr × V)) (ys : List (NestedKey × Addr × Value)) : Prop := Paired (fun p q => p.1 = q.1 ∧ p.2.1 = q.2.1 ∧ RelV p.2.2 q.2.2) xs ys
theorem fnd_N {K : PySem.W.Frag} {W : Wd} {H : Hp} (key : NestedKey) : ∀ {xs : List (NestedKey × Addr × V)} {ys : List (NestedKey × Addr × Value)} {ks vs : List U}, YP xs ys → ks.map nkU = xs.map (fun x => some x.1) → RVs K W H vs (xs.map (·.2.2)) →
    ∃ r : Option V, Fnd K W H (dicAt ks vs key) r ∧ RelO r ((atKey ys key).map (·.2))
  | _, _, ks, vs, .nil, e, r => by
    cases ks with
    | nil => exact ⟨none, by cases r; exact trivial, trivial⟩
    | cons _ _ => simp at e
  | _, _, ks, vs, .cons (a := a) (b := b) (l₂ := bs) h t, e, r => by
    cases ks with
    | nil => simp at e
    | cons u us =>
      cases r with
      | @cons x _ xs _ r1 r2 =>
        rw [List.map_cons, List.map_cons, List.cons.injEq] at e
        obtain ⟨e1, e2⟩ := e
        by_cases q : a.1 = key
        · refine ⟨some a.2.2, ?_, ?_⟩
          · show Fnd K W H (if nkU u = some key then some x else _) _
            rw [if_pos (by rw [e1, q])]
            exact r1
          · have : (atKey (b :: bs) key) = some b.2 := by simp [atKey, ← h.1, q]
            rw [this]
            exact h.2.2
        · obtain ⟨o, f1, f2⟩ := fnd_N key (ks := us) t e2 r2
          refine ⟨o, ?_, ?_⟩
          · show Fnd K W H (if nkU u = some key then some x else _) _
            rw [if_neg (fun z => q (by rw [e1] at z; exact Option.some.inj z))]
            exact f1
          · have : (atKey (b :: bs) key) = atKey bs key := by simp [atKey, ← h.1, q]
            rw [this]
            exact f2
theorem dicHas_isSome : ∀ {ks vs : List U} {k : NestedKey}, ks.length = vs.length → dicHas ks k = (dicAt ks vs k).isSome
  | [], [], _, _ => rfl
  | [], _ :: _, _, e => by simp at e
  | _ :: _, [], _, e => by simp at e
  | u :: us, v :: vs, k, e => by
    show (decide (nkU u = some k) || dicHas us k) = (if nkU u = some k then some v else dicAt us vs k).isSome
    by_cases q : nkU u = some k
    · simp [q]
    · simp [q]
      exact dicHas_isSome (by simpa using e)
/-! ### the dict in the heap -/
section
variable {X : Cx} {pins : List (Addr × Obj)} {σ : L2.St} {H : Hp} {s : Shared} {W : Wd} {a : Addr} {o : HO} {ks vs : List U} {kv vv : List V} {u : U} {x : V} {ax : Value} {k : NestedKey}
theorem dn_heap (hw : X.w = WW.w) (I : L2.Inv X pins σ H s) {xs : List (NestedKey × Addr × V)} (hx : Rd H a (DnO a xs)) (hd : ∀ x ∈ xs, x.1.depth ≤ 8) (ek : kv = xs.map (fun x => V.ref x.2.1)) (en : ks.map nkU = xs.map fun x => some x.1)
    (rk : RVs X.K W H ks kv) : (a == sysModules) = false ∧ ∃ ys, YP xs ys ∧ s.heap.DictOfH (nestedKind X.prog X.w) a ys := by
  obtain ⟨⟨hs, ys, hp, ob, es, ep, h1, h2, h3, h4, h5⟩, zz⟩ := hx.ok I.hok
  clear zz
  refine ⟨hs, ys, hp, ob, es, ep, h1, h2, h3, ?_, ?_, h5⟩
  · rw [h4]
    refine List.map_congr_left fun x _ => ?_
    show (⟨x.1.hash WW.w, .ref x.2.1, x.2.2⟩ : DictEntry) = ⟨x.1.hash X.w, .ref x.2.1, x.2.2⟩
    rw [hw]
  · -- the keys
    clear h1 h2 h3 h4 h5 hx
    subst ek
    induction hp generalizing ks with
    | nil => intro x hx; cases hx
    | @cons p q ps qs h t ih =>
      cases ks with
      | nil => simp at en
      | cons u us =>
        rw [List.map_cons, List.map_cons, List.cons.injEq] at en
        rw [List.map_cons] at rk
        cases rk with
        | cons r1 r2 =>
          intro x hx
          rcases List.mem_cons.mp hx with e | hx
          · subst e
            refine ⟨?_, by rw [← h.1]; exact hd _ List.mem_cons_self⟩
            have := r1.key I (a := .ref x.2.1) (k := x.1) (by rw [h.2.1]; rfl) (by rw [en.1, h.1])
            exact this
          · exact ih (fun x hx => hd x (List.mem_cons_of_mem _ hx)) en.2 r2 x hx
/-- the dict at a answers for the key u -/
structure DicAns (X : Cx) (pins : List (Addr × Obj)) (σ : L2.St) (H : Hp) (s : Shared) (W : Wd) (a : Addr) (ax : Value) (f : Option U) : Prop where
  ty : s.TypeIs (.ref a) "dict"
  nod : ∀ b, Value.ref a = .ref b → ∃ ob, s.heap.get? b = some ob ∧ ob.dict = none
  at_ : ∃ r : Option V, Fnd X.K W H f r ∧
    (∀ (A : Around) (E : Value → Shared → Prop) (Q : Value → Shared → Prop), A.units + 16 < cLine → (∀ s', L2.Inv X pins σ H s' → Q (.bool r.isSome) s') → wpAny (model X.prog X.w) A (compareOp .In ax (.ref a)) Q E s) ∧
    (∀ (A : Around) (E : Value → Shared → Prop) (Q : Value → Shared → Prop), A.units + 16 < cLine → (∀ s', L2.Inv X pins σ H s' → Q (.bool (!r.isSome)) s') → wpAny (model X.prog X.w) A (compareOp .NotIn ax (.ref a)) Q E s) ∧
    (∀ (A : Around) (E : Value → Shared → Prop) (Q : Value → Shared → Prop) (v : V), A.units + 16 < cLine → r = some v → (∀ w' s', L2.Inv X pins σ H s' → RelV v w' → Q w' s') → wpAny (model X.prog X.w) A (getItem (.ref a) ax) Q E s) ∧
    (∀ (A : Around) (E : Value → Shared → Prop) (Q : Value → Shared → Prop) (d : V) (ad : Value), A.units + 16 < cLine → RelV d ad → (∀ w' s', L2.Inv X pins σ H s' → RelV (r.getD d) w' → Q w' s') → wpAny (model X.prog X.w) A (call (.builtin "dict.get") [.ref a, ax, ad]) Q E s) ∧
    (∀ (A : Around) (E : Value → Shared → Prop) (Q : Value → Shared → Prop), A.units + 16 < cLine → (∀ w' s', L2.Inv X pins σ H s' → RelV (r.getD .non) w' → Q w' s') → wpAny (model X.prog X.w) A (call (.builtin "dict.get") [.ref a, ax]) Q E s)
theorem room8 {A : Around} (h : A.units + 16 < cLine) : A.in1.units + 8 < cLine := by
  have : A.in1.units ≤ A.units + 1 := Nat.le_refl _
  omega
/-- by the library's kind of nested keys -/
theorem dic_ansN (hw : X.w = WW.w) (I : L2.Inv X pins σ H s) {ys : List (NestedKey × Addr × Value)} {b : Addr} {r : Option V} {f : Option U} (hsm : (a == sysModules) = false) (dd : s.heap.DictOfH (nestedKind X.prog X.w) a ys)
    (hb : (nestedKind X.prog X.w).is s.heap k b) (f1 : Fnd X.K W H f r) (f2 : RelO r ((atKey ys k).map (·.2))) : DicAns X pins σ H s W a (.ref b) f := by
  have dk : s.heap.DictKeyed (nestedKind X.prog X.w) a (pairsH ys) := ⟨ys, dd, rfl⟩
  rw [← valueAt_pairsH] at f2
  refine ⟨dd.typeIs, ?_, r, f1, ?_, ?_, ?_, ?_, ?_⟩
  · intro c e
    cases e
    obtain ⟨ob, _, _, h1, h2, _⟩ := dd
    exact ⟨ob, h1, h2.2.1⟩
  · intro A E Q hu q
    refine in_keyed (knd := nestedKind X.prog X.w) (room8 hu) hb hsm dk ?_
    rw [← f2.isSome_eq]
    exact q _ (I.tok _)
  · intro A E Q hu q
    refine notIn_keyed (knd := nestedKind X.prog X.w) (room8 hu) hb hsm dk ?_
    rw [← f2.isSome_eq]
    exact q _ (I.tok _)
  · intro A E Q v hu e q
    subst e
    obtain ⟨w', hw', rw'⟩ := RelO.some_of (v := v) f2
    exact getItem_keyed (knd := nestedKind X.prog X.w) (room8 hu) hb dk hw' (q w' _ (I.tok _) rw')
  · intro A E Q d ad hu rd q
    exact getOr_keyed (knd := nestedKind X.prog X.w) (room8 hu) hb hsm dk (q _ _ (I.tok _) (f2.getD rd))
  · intro A E Q hu q
    exact get_keyed (knd := nestedKind X.prog X.w) (room8 hu) hb hsm dk (q _ _ (I.tok _) (f2.getD rfl))
theorem dic_ans (hw : X.w = WW.w) (I : L2.Inv X pins σ H s) (hx : Rd H a o) (ds : DicS a ks kv vv o) (rk : RVs X.K W H ks kv) (rv : RVs X.K W H vs vv) (ru : RV X.K W H u x) (rx : RelV x ax) (hk : nkU u = some k) (hd : k.depth ≤ 8) (ok : keyOk ks u) :
    DicAns X pins σ H s W a ax (dicAt ks vs k) := by
  rcases ds with ⟨kvs, rfl, rfl, rfl, rfl⟩ | ⟨xs, hne, hz, hdp, rfl, rfl, rfl, en⟩
  · by_cases hsc : isSc u = true
    · obtain ⟨key, rfl⟩ := isSc_kU hsc
      rw [nkU_kU] at hk
      cases hk
      have ex := ru.kU_
      subst ex
      have g : DGet H a (kV key) (valV kvs key) := .inl ⟨kvs, key, hx, rfl, rfl⟩
      refine ⟨dict_typeIs I g, dict_noDict I g, valV kvs key, fnd_K key rv, ?_, ?_, ?_, ?_, ?_⟩
      · intro A E Q hu q; exact d_in (by omega) I g rx q
      · intro A E Q hu q; exact d_notIn (by omega) I g rx q
      · intro A E Q v hu e q; exact d_getItem (by omega) I (by rw [e] at g; exact g) rx q
      · intro A E Q d ad hu rd q; exact d_get2 (by omega) I g rx rd q
      · intro A E Q hu q; exact d_get1 (by omega) I g rx q
    · have ht : isTp u = true ∧ ∀ k ∈ kvs.map (fun p => kU p.1), isTp k = true := by
        rcases ok with ⟨z, _⟩ | z
        · exact absurd z hsc
        · exact z
      have e0 : kvs = [] := by
        cases kvs with
        | nil => rfl
        | cons p _ =>
          have := ht.2 (kU p.1) (by simp)
          cases hp : p.1 <;> (rw [hp] at this; cases this)
      subst e0
      cases rk
      cases rv
      obtain ⟨z, hsm, _, rel, dd⟩ := dk_rd I.hok hx
      cases rel
      obtain ⟨ob, es, ep, h1, h2, h3, h4⟩ := dd
      have dd2 : s.heap.DictOfH (nestedKind X.prog X.w) a [] := ⟨ob, es, ep, h1, h2, h3, (by
        have z := h4.2.1
        generalize es.toList = l at z
        cases z
        rfl), (fun x hx => by cases hx), List.nodup_nil⟩
      cases u with
      | tup us =>
        cases ru with
        | tup h rs =>
          obtain rfl := show _ = Value.ref _ from rx
          exact dic_ansN (r := none) hw I hsm dd2 ⟨RV.key I (.tup h rs) rx hk, hd⟩ trivial trivial
      | _ => exact absurd ht.1 (by simp [isTp])
  · have ht : isTp u = true := by
      rcases ok with ⟨_, z⟩ | z
      · exfalso
        cases ks with
        | nil =>
          cases xs with
          | nil => exact hne rfl
          | cons _ _ => simp at en
        | cons k0 ks =>
          cases xs with
          | nil => exact hne rfl
          | cons x0 xs =>
            have q := z k0 List.mem_cons_self
            rw [List.map_cons] at rk
            cases rk with
            | cons r1 _ =>
              cases k0 with
              | int _ => cases r1
              | str _ => cases r1
              | _ => cases q
      · exact z.1
    obtain ⟨hsm, ys, hp, dd⟩ := dn_heap hw I hx hdp rfl en rk
    obtain ⟨r, f1, f2⟩ := fnd_N (K := X.K) (W := W) (H := H) k hp en rv
    cases u with
    | tup us =>
      cases ru with
      | tup h rs =>
        obtain rfl := show _ = Value.ref _ from rx
        exact dic_ansN hw I hsm dd ⟨RV.key I (.tup h rs) rx hk, hd⟩ f1 f2
    | _ => exact absurd ht (by simp [isTp])
end
end Vi

/-! Vi24: dicts: in, d[k], d.get, d[k] = v, {}, {k: v}, walks. -/
namespace Vi
open PySem PySem.Spec PyProof.Rows L2
variable [WW]
def DicV (K : PySem.W.Frag) (W : Wd) (H : Hp) (ks vs : List U) (a : Addr) : Prop := ∃ o kv vv, Rd H a o ∧ DicS a ks kv vv o ∧ RVs K W H ks kv ∧ RVs K W H vs vv
/-- u is the key k, for keys like ks -/
structure KeyIn (ks : List U) (u : U) (k : NestedKey) : Prop where
  nk : nkU u = some k
  dp : k.depth ≤ 8
  ok : keyOk ks u
@[simp] def dicSlot (env : En) (k : Nat) (Q : List U → List U → Prop) : Prop := match env[k]? with
  | some (some (.dic ks vs)) => Q ks vs
  | some (some (.val (.dic ks vs))) => Q ks vs
  | _ => False
def xorB (neg b : Bool) : Bool := if neg then !b else b
@[simp] theorem xorB_false (b : Bool) : xorB false b = b := rfl
@[simp] theorem xorB_true (b : Bool) : xorB true b = !b := rfl
@[simp] def uInD (k : Nat) (neg : Bool) (te : UE) : UE := fun env h Po Pe => te env h (fun sv env1 h1 => dicSlot env1 k fun ks vs => ∃ key, KeyIn ks sv.u key ∧ Po (.val (.bl (xorB neg (dicAt ks vs key).isSome))) env1 h1) Pe
@[simp] def uIxD (k : Nat) (ti : UE) : UE := fun env h Po Pe => (dicSlot env k fun _ _ => True) ∧ ti env h (fun iv env1 h1 => dicSlot env1 k fun ks vs => ∃ key v, KeyIn ks iv.u key ∧ dicAt ks vs key = some v ∧ Po (.val v) env1 h1) Pe
@[simp] def uGetD (k : Nat) (ti tx : UE) : UE := fun env h Po Pe => (dicSlot env k fun _ _ => True) ∧ ti env h (fun iv env1 h1 => tx env1 h1 (fun xv env2 h2 => dicSlot env2 k fun ks vs => ∃ key, KeyIn ks iv.u key ∧ Po (.val ((dicAt ks vs key).getD xv.u)) env2 h2) Pe) Pe
@[simp] def uSetD (k : Nat) (ti te : UE) : US := fun env h P => te env h (fun sv env1 h1 => (∃ ks vs, env1[k]? = some (some (.dic ks vs))) ∧ ti env1 h1 (fun iv env2 h2 => match env2[k]? with
  | some (some (.dic ks vs)) => ∃ key, KeyIn ks iv.u key ∧ ks.length < sizeLine ∧ P.nx (env2.set k (some (.dic (putKs ks key iv.u) (putVs ks vs key sv.u)))) h2
  | _ => False) P.er) P.er
@[simp] def uDic0 : UE := fun env h Po _ => Po (.dic [] []) env h
@[simp] def uDic1 (tk tv : UE) : UE := fun env h Po Pe => tk env h (fun x env1 h1 => tv env1 h1 (fun y env2 h2 => ∃ key, KeyIn [] x.u key ∧ Po (.dic [x.u] [y.u]) env2 h2) Pe) Pe
@[simp] def uKeys (te : UE) : UM (List U) := fun env h Po Pe => te env h (fun sv env1 h1 => match sv.u with
  | .dic ks _ => Po ks env1 h1
  | _ => False) Pe
section
variable {X : Cx} {L : Lx} {pins : List (Addr × Obj)} {σ : L2.St} {H : Hp} {s : Shared} {W : Wd}
theorem RV.dicV {K : PySem.W.Frag} {ks vs : List U} {y : V} (r : RV K W H (.dic ks vs) y) : ∃ a, y = .ref a ∧ DicV K W H ks vs a := by
  cases r with
  | dic h d r1 r2 =>
    refine ⟨_, rfl, _, _, _, ?_, d, r1, r2⟩
    rcases h with ⟨_, h⟩ | h
    · exact .inl h
    · exact .inr h
theorem dicSlot_ok {K : PySem.W.Frag} {env : En} {h : Hv} {k : Nat} {Q : List U → List U → Prop} (S : Sim K W env h σ H) (q : dicSlot env k Q) : ∃ ks vs a, σ[k]? = some (some (.ref a)) ∧ DicV K W H ks vs a ∧ Q ks vs := by
  unfold dicSlot at q
  split at q
  · rename_i ks vs e
    obtain ⟨v, e1, a, o, kv, vv, rfl, n, ea, ds, r1, r2⟩ := S.slots k _ e
    exact ⟨ks, vs, a, e1, ⟨o, kv, vv, .inl ea, ds, r1, r2⟩, q⟩
  · rename_i ks vs e
    obtain ⟨v, e1, r⟩ := S.slots k _ e
    obtain ⟨a, rfl, d⟩ := RV.dicV r
    exact ⟨ks, vs, a, e1, d, q⟩
  · exact q.elim
/-! ### in -/
def rDicIn (K : PySem.W.Frag) (neg : Bool) : R2 := fun x y H Q => ∃ W a ks vs u k, y = .ref a ∧ DicV K W H ks vs a ∧ RV K W H u x ∧ KeyIn ks u k ∧ Q (.bl (xorB neg (dicAt ks vs k).isSome)) H
theorem op_dicIn (hw : X.w = WW.w) (hu : X.A.units + 64 < cLine) : OpR X (compareOp .In) (rDicIn X.K false) := by
  intro pins s σ H x y v u Q I rx ry ⟨W, a, ks, vs, t, k, ey, ⟨o, kv, vv, hx, ds, rk, rv⟩, ru, ki, q⟩
  subst ey
  obtain rfl : u = Value.ref a := ry
  obtain ⟨_, _, r, f, c, _⟩ := dic_ans hw I hx ds rk rv ru rx ki.nk ki.dp ki.ok
  exact c X.A X.xe _ (by omega) fun s' I' => ⟨.bl r.isSome, H, I', rfl, by rw [← f.isSome]; exact q⟩
theorem op_dicNotIn (hw : X.w = WW.w) (hu : X.A.units + 64 < cLine) : OpR X (compareOp .NotIn) (rDicIn X.K true) := by
  intro pins s σ H x y v u Q I rx ry ⟨W, a, ks, vs, t, k, ey, ⟨o, kv, vv, hx, ds, rk, rv⟩, ru, ki, q⟩
  subst ey
  obtain rfl : u = Value.ref a := ry
  obtain ⟨_, _, r, f, _, c, _⟩ := dic_ans hw I hx ds rk rv ru rx ki.nk ki.dp ki.ok
  exact c X.A X.xe _ (by omega) fun s' I' => ⟨.bl (!r.isSome), H, I', rfl, by rw [← f.isSome]; exact q⟩
theorem lg_inD {k : Nat} {neg : Bool} {te : UE} {σ : L2.St} {H : Hp} {Q : VK} (h : lg L (RT L) (uInD k neg te) σ H Q) : tOp (rDicIn L.K neg) (lg L (RT L) te) (tVar k) σ H Q := by
  obtain ⟨W, env, h, Po, Pe, S, ht, c⟩ := h
  refine ⟨W, env, h, _, _, S, ht, ⟨fun W1 sv env1 h1 y H1 l1 S1 r1 q1 => ?_, c.er⟩⟩
  obtain ⟨W2, S2, l2, r2⟩ := S1.freeze r1
  obtain ⟨ks, vs, a, ev, dv, key, ki, q⟩ := dicSlot_ok S2 q1
  exact ⟨_, ev, W2, a, ks, vs, sv.u, key, rfl, dv, r2, ki, c.ok W2 (.val (.bl _)) env1 h1 _ H1 (l1.trans l2) S2 (.bl _) q⟩
theorem we_inD {k : Nat} {a : Expr} {te : UE} {x : Str} {p pos : Pos} (hw : X.w = WW.w) (hK : L.K = X.K) (hu : X.A.units + 64 < cLine) (ha : WE X L a te) (hx : PE X (.Name x p) (tVar k)) (hm : behindInMarks .In (.Name x p) = false := by rfl) : WE X L (.Compare a [.In] [.Name x p] pos) (uInD k false te) :=
  PE.wk (pe_cmpR (op_dicIn hw hu) ha hx hm) fun _ _ _ h => by rw [← hK]; exact lg_inD h
theorem we_notInD {k : Nat} {a : Expr} {te : UE} {x : Str} {p pos : Pos} (hw : X.w = WW.w) (hK : L.K = X.K) (hu : X.A.units + 64 < cLine) (ha : WE X L a te) (hx : PE X (.Name x p) (tVar k)) (hm : behindInMarks .NotIn (.Name x p) = false := by rfl) : WE X L (.Compare a [.NotIn] [.Name x p] pos) (uInD k true te) :=
  PE.wk (pe_cmpR (op_dicNotIn hw hu) ha hx hm) fun _ _ _ h => by rw [← hK]; exact lg_inD h
theorem wt_inD {k : Nat} {a : Expr} {te : UE} {x : Str} {p pos : Pos} (hw : X.w = WW.w) (hK : L.K = X.K) (hu : X.A.units + 64 < cLine) (ha : WE X L a te) (hx : PE X (.Name x p) (tVar k)) (hm : behindInMarks .In (.Name x p) = false := by rfl) : WT X L (.Compare a [.In] [.Name x p] pos) (uB (uInD k false te)) :=
  PT.wk (pt_cmpR (op_dicIn hw hu) ha hx hm) fun _ _ _ h => by rw [← hK]; exact lg_inD (lg_B h)
theorem wt_notInD {k : Nat} {a : Expr} {te : UE} {x : Str} {p pos : Pos} (hw : X.w = WW.w) (hK : L.K = X.K) (hu : X.A.units + 64 < cLine) (ha : WE X L a te) (hx : PE X (.Name x p) (tVar k)) (hm : behindInMarks .NotIn (.Name x p) = false := by rfl) : WT X L (.Compare a [.NotIn] [.Name x p] pos) (uB (uInD k true te)) :=
  PT.wk (pt_cmpR (op_dicNotIn hw hu) ha hx hm) fun _ _ _ h => by rw [← hK]; exact lg_inD (lg_B h)
/-! ### d[k] -/
def rDicIx (K : PySem.W.Frag) : R2 := fun x y H Q => ∃ W a ks vs u k uv, x = .ref a ∧ DicV K W H ks vs a ∧ RV K W H u y ∧ KeyIn ks u k ∧ dicAt ks vs k = some uv ∧ ∀ v, RV K W H uv v → Q v H
theorem ix_dic (hw : X.w = WW.w) (hu : X.A.units + 64 < cLine) : IxR X (rDicIx X.K) := by
  intro value slice pins s σ H x y v u Q I rx ry ⟨W, a, ks, vs, t, k, uv, ex, ⟨o, kv, vv, hx, ds, rk, rv⟩, ru, ki, e, q⟩ hs
  subst ex
  obtain rfl : v = Value.ref a := rx
  obtain ⟨hT, _, r, f, _, _, c, _⟩ := dic_ans hw I hx ds rk rv ru ry ki.nk ki.dp ki.ok
  rw [e] at f
  cases r with
  | none => exact f.elim
  | some rv =>
    unfold subscriptTail
    refine wpAny_bind ?_
    rw [getitemInPython_of_ne hT.not_modules]
    refine wpAny_bind (wpAny_specialOf hT PySem.F.slot_dict_getitem.lookup ?_)
    have fin : wpAny (model X.prog X.w) X.A (subscripted slice false (.ref a) u) (fun r s₃ => wpAny (model X.prog X.w) X.A (letTemporaryGo value (.ref a) r >>= fun _ => pure r) (EP X pins σ Q) X.xe s₃) X.xe s := by
      rw [hs]
      exact wpAny_operating (c X.A X.xe _ rv (by omega) rfl fun w' s' I' rw' => wpAny_bind (wpAny_letTemporaryGo (wpAny_pure ⟨rv, H, I', rw', q _ f⟩)))
    first
      | exact wpAny_pure (wpAny_bind fin)
      | exact wpAny_bind (wpAny_pure (wpAny_bind fin))
      | exact wpAny_bind fin
theorem we_ixD {k : Nat} {x : Str} {p pos : Pos} {i : Expr} {ti : UE} (hw : X.w = WW.w) (hK : L.K = X.K) (hu : X.A.units + 64 < cLine) (hx : PE X (.Name x p) (tVar k)) (hi : WE X L i ti) (hs : PlainIx i) : WE X L (.Subscript (.Name x p) i pos) (uIxD k ti) := by
  refine PE.wk (pe_ix (ix_dic hw hu) hx hi hs) fun σ H Q ⟨W, env, h, Po, Pe, S, ⟨q0, ht⟩, c⟩ => ?_
  obtain ⟨_, _, a0, ev0, _⟩ := dicSlot_ok S q0
  refine ⟨_, ev0, W, env, h, _, _, S, ht, ⟨fun W1 iv env1 h1 y H1 l1 S1 r1 q1 => ?_, c.er⟩⟩
  obtain ⟨W2, S2, l2, r2⟩ := S1.freeze r1
  obtain ⟨ks, vs, a, ev, dv, key, v, ki, e, q⟩ := dicSlot_ok S2 q1
  rw [ev0] at ev
  cases ev
  rw [← hK]
  exact ⟨W2, a0, ks, vs, iv.u, key, v, rfl, dv, r2, ki, e, fun v' r' => c.ok W2 (.val v) env1 h1 v' H1 (l1.trans l2) S2 r' q⟩
/-! ### d.get(k, x) -/
theorem dicV_ty (hw : X.w = WW.w) (I : L2.Inv X pins σ H s) {ks vs : List U} {a : Addr} (d : DicV X.K W H ks vs a) : s.TypeIs (.ref a) "dict" ∧ ∀ b, Value.ref a = .ref b → ∃ ob, s.heap.get? b = some ob ∧ ob.dict = none := by
  obtain ⟨o, kv, vv, hx, ds, rk, rv⟩ := d
  rcases ds with ⟨kvs, rfl, rfl, rfl, rfl⟩ | ⟨xs, hne, hz, hdp, rfl, rfl, rfl, en⟩
  · obtain ⟨t1, t2, _⟩ := isD_at I (.inl ⟨kvs, hx⟩)
    exact ⟨t1, t2⟩
  · obtain ⟨hsm, ys, hp, dd⟩ := dn_heap hw I hx hdp rfl en rk
    refine ⟨dd.typeIs, fun c e => ?_⟩
    cases e
    obtain ⟨ob, _, _, h1, h2, _⟩ := dd
    exact ⟨ob, h1, h2.2.1⟩
def tGetD (K : PySem.W.Frag) (td ty tx : TE) : TE := fun σ H Q => td σ H fun x H1 => ∃ a, x = .ref a ∧ (∃ W ks vs, DicV K W H1 ks vs a) ∧ ty σ H1 fun y H2 => tx σ H2 fun z H3 => ∃ W ks vs u k d, DicV K W H3 ks vs a ∧ RV K W H3 u y ∧ RV K W H3 d z ∧ KeyIn ks u k ∧ ∀ v, RV K W H3 ((dicAt ks vs k).getD d) v → Q v H3
theorem pe_getD {o e f : Expr} {apos cpos : Pos} {td ty tx : TE} (hw : X.w = WW.w) (hu : X.A.units + 64 < cLine) (ho : PE X o td) (he : PE X e ty) (hf : PE X f tx) (m : M2 X o "get" apos e f cpos) : PE X (.Call (.Attribute o "get" apos) [e, f] [] cpos) (tGetD X.K td ty tx) := by
  refine ⟨fun pins s σ H Q I h => ?_⟩
  refine wpAny_Call_method m.base m.few m.line PySem.F.plainAttrs_dict PySem.F.slot_dict_get PySem.F.type_dict_get (thn (ho.run pins s σ H _ I h) fun u s1 ⟨x, H1, I1, rx, a, ex, ⟨W0, ks0, vs0, d0⟩, q1⟩ => ?_)
  subst ex
  obtain rfl : u = Value.ref a := rx
  obtain ⟨t1, t2⟩ := dicV_ty hw I1 d0
  refine ⟨t1, t2, ?_⟩
  rw [m.trees]
  refine Calls.callWith_builtin rfl (Calls.evalArgs_plain (Calls.spliced_cons (thn (he.run pins s1 σ H1 _ I1 q1) fun iv s2 ⟨y, H2, I2, ry, q2⟩ =>
    Calls.spliced_cons (thn (hf.run pins s2 σ H2 _ I2 q2) fun fv s3 ⟨z, H3, I3, rz, W, ks, vs, u, k, d, ⟨o, kv, vv, hx, ds, rk, rv⟩, ru, rd, ki, q3⟩ => Calls.spliced_nil ?_))))
  obtain ⟨_, _, r, f, _, _, _, c, _⟩ := dic_ans hw I3 hx ds rk rv ru ry ki.nk ki.dp ki.ok
  refine c X.A X.xe _ z fv (by omega) rz fun w' s4 I4 rw' => ⟨_, H3, I4, rw', q3 _ ?_⟩
  cases hf1 : dicAt ks vs k <;> rw [hf1] at f <;> cases r
  · exact rd
  · exact f.elim
  · exact f.elim
  · exact f
theorem we_getD {k : Nat} {e f : Expr} {ti tx : UE} {x : Str} {p apos cpos : Pos} (hw : X.w = WW.w) (hK : L.K = X.K) (hu : X.A.units + 64 < cLine) (hx : PE X (.Name x p) (tVar k)) (he : WE X L e ti) (hf : WE X L f tx)
    (hbase : attributeBase (.Name x p) "get" X.env (eval (.Name x p) X.env) = eval (.Name x p) X.env := by rfl) (hline : (apos.endLine == cpos.line) = true := by rfl)
    (hfew : ((backTo cpos (starEach [e, f] X.env)).all (fun x => !x.1) && (backToKw cpos (keywordEach [] X.env)).all (fun x => x.1.isSome) && decide (([e, f] : List Expr).length + ([] : List Keyword).length + (if ([] : List Keyword).isEmpty then 0 else 1) < 30)) = true := by rfl)
    (htr : backTo cpos (starEach [e, f] X.env) = [(false, eval e X.env), (false, eval f X.env)] := by rfl) : WE X L (.Call (.Attribute (.Name x p) "get" apos) [e, f] [] cpos) (uGetD k ti tx) := by
  refine PE.wk (pe_getD hw hu hx he hf ⟨hbase, hfew, hline, htr⟩) fun σ H Q ⟨W, env, h, Po, Pe, S, ⟨q0, ht⟩, c⟩ => ?_
  obtain ⟨ks0, vs0, a0, ev0, d0, _⟩ := dicSlot_ok S q0
  rw [← hK]
  refine ⟨_, ev0, a0, rfl, ⟨W, ks0, vs0, d0⟩, W, env, h, _, _, S, ht, ⟨fun W1 iv env1 h1 y H1 l1 S1 r1 q1 => ?_, c.er⟩⟩
  obtain ⟨W2, S2, l2, r2⟩ := S1.freeze r1
  have c1 := c.le (l1.trans l2)
  refine ⟨W2, env1, h1, _, _, S2, q1, ⟨fun W3 xv env2 h2 z H2 l3 S3 r3 q2 => ?_, c1.er⟩⟩
  obtain ⟨W4, S4, l4, r4⟩ := S3.freeze r3
  obtain ⟨ks, vs, a, ev, dv, key, ki, q⟩ := dicSlot_ok S4 q2
  rw [ev0] at ev
  cases ev
  exact ⟨W4, ks, vs, iv.u, key, xv.u, dv, r2.le (l3.trans l4).toLeP, r4, ki, fun v' r' => c1.ok W4 (.val _) env2 h2 v' H2 (l3.trans l4) S4 r' q⟩
end
end Vi

/-! Vi25: dicts: d[k] = v, {}, {k: v}, walks. -/
namespace Vi
open PySem PySem.Spec PyProof.Rows L2
variable [WW]
section
variable {X : Cx} {L : Lx} {pins : List (Addr × Obj)} {σ : L2.St} {H : Hp} {s : Shared} {W : Wd} {a : Addr} {o : HO} {ks vs : List U} {kv vv : List V} {u uv : U} {x v : V} {ax av : Value} {k : NestedKey}
/-- in its place, or at the end -/
def putX (xs : List (NestedKey × Addr × V)) (k : NestedKey) (b : Addr) (v : V) : List (NestedKey × Addr × V) :=
  if xs.any (fun x => decide (x.1 = k)) then xs.map (fun x => if x.1 = k then (x.1, x.2.1, v) else x) else xs ++ [(k, b, v)]
theorem YP.any {xs : List (NestedKey × Addr × V)} {ys : List (NestedKey × Addr × Value)} (h : YP xs ys) (k : NestedKey) : (xs.any fun x => decide (x.1 = k)) = (atKey ys k).isSome := by
  unfold YP at h
  induction h with
  | nil => rfl
  | @cons p q ps qs h t ih =>
    by_cases e : p.1 = k
    · have : (atKey (q :: qs) k) = some q.2 := by simp [atKey, ← h.1, e]
      rw [this]
      simp [e]
    · have : (atKey (q :: qs) k) = atKey qs k := by simp [atKey, ← h.1, e]
      rw [this, ← ih]
      simp [e]
theorem YP.map_ {xs : List (NestedKey × Addr × V)} {ys : List (NestedKey × Addr × Value)} (h : YP xs ys) (k : NestedKey) (r : RelV v av) : YP (xs.map (fun x => if x.1 = k then (x.1, x.2.1, v) else x)) (ys.map (putAt k av)) := by
  unfold YP at h ⊢
  induction h with
  | nil => exact .nil
  | @cons p q ps qs h t ih =>
    refine .cons ?_ ih
    obtain ⟨p1, p2, p3⟩ := p
    obtain ⟨q1, q2, q3⟩ := q
    obtain ⟨e1, e2, e3⟩ := h
    dsimp only at e1 e2 e3
    subst e1 e2
    unfold putAt
    dsimp only
    by_cases e : p1 = k
    · rw [if_pos e, if_pos e]; exact ⟨rfl, rfl, r⟩
    · rw [if_neg e, if_neg e]; exact ⟨rfl, rfl, e3⟩
theorem YP.snoc {xs : List (NestedKey × Addr × V)} {ys : List (NestedKey × Addr × Value)} (h : YP xs ys) (k : NestedKey) (b : Addr) (r : RelV v av) : YP (xs ++ [(k, b, v)]) (ys ++ [(k, b, av)]) := by
  unfold YP at h ⊢
  induction h with
  | nil => exact .cons ⟨rfl, rfl, r⟩ .nil
  | @cons p q ps qs h t ih => exact .cons h ih
theorem YP.put {xs : List (NestedKey × Addr × V)} {ys : List (NestedKey × Addr × Value)} (h : YP xs ys) (k : NestedKey) (b : Addr) (r : RelV v av) : YP (putX xs k b v) (storedH ys k b av) := by
  unfold putX storedH
  rw [← h.any k]
  split
  · exact h.map_ k r
  · exact h.snoc k b r
theorem any_nk : ∀ {xs : List (NestedKey × Addr × V)} {ks : List U}, ks.map nkU = xs.map (fun x => some x.1) → ∀ k, dicHas ks k = xs.any fun x => decide (x.1 = k)
  | [], [], _, _ => rfl
  | [], _ :: _, e, _ => by simp at e
  | _ :: _, [], e, _ => by simp at e
  | x :: xs, u :: us, e, k => by
    rw [List.map_cons, List.map_cons, List.cons.injEq] at e
    show (decide (nkU u = some k) || dicHas us k) = (decide (x.1 = k) || _)
    rw [any_nk e.2 k, e.1]
    congr 1
    exact decide_eq_decide.mpr ⟨fun z => Option.some.inj z, fun z => by rw [z]⟩
theorem putX_keys (xs : List (NestedKey × Addr × V)) (ks : List U) (e : ks.map nkU = xs.map fun x => some x.1) (k : NestedKey) (b : Addr) (v : V) (u : U) (hu : nkU u = some k) : (putKs ks k u).map nkU = (putX xs k b v).map fun x => some x.1 := by
  unfold putKs putX
  rw [any_nk e k]
  split
  · rw [List.map_map]
    rw [e]
    refine List.map_congr_left fun x _ => ?_
    simp only [Function.comp]
    split <;> rfl
  · simp [e, hu]
theorem putX_rk {K : PySem.W.Frag} {xs : List (NestedKey × Addr × V)} (e : ks.map nkU = xs.map fun x => some x.1) (rk : RVs K W H ks (xs.map fun x => V.ref x.2.1)) {b : Addr} (rb : RV K W H u (.ref b)) : RVs K W H (putKs ks k u) ((putX xs k b v).map fun x => V.ref x.2.1) := by
  unfold putKs putX
  rw [any_nk e k]
  split
  · rw [List.map_map]
    have : (xs.map fun x => V.ref x.2.1) = xs.map ((fun x => V.ref x.2.1) ∘ fun x => if x.1 = k then (x.1, x.2.1, v) else x) := by
      refine List.map_congr_left fun x _ => ?_
      simp only [Function.comp]
      split <;> rfl
    rw [← this]
    exact rk
  · rw [List.map_append]
    exact rk.append (.cons rb .nil)
theorem putX_rv {K : PySem.W.Frag} : ∀ {xs : List (NestedKey × Addr × V)} {ks vs : List U}, ks.map nkU = xs.map (fun x => some x.1) → RVs K W H vs (xs.map (·.2.2)) → ∀ {b : Addr} {v : V}, RV K W H uv v → RVs K W H (putVs ks vs k uv) ((putX xs k b v).map (·.2.2)) := by
  intro xs ks vs e rv b v r
  have go : ∀ {xs : List (NestedKey × Addr × V)} {ks vs : List U}, ks.map nkU = xs.map (fun x => some x.1) → RVs K W H vs (xs.map (·.2.2)) → RVs K W H (putV ks vs k uv) ((xs.map fun x => if x.1 = k then (x.1, x.2.1, v) else x).map (·.2.2)) := by
    intro xs
    induction xs with
    | nil =>
      intro ks vs e rv
      cases ks with
      | nil => cases rv; exact .nil
      | cons _ _ => simp at e
    | cons x xs ih =>
      intro ks vs e rv
      cases ks with
      | nil => simp at e
      | cons u us =>
        rw [List.map_cons, List.map_cons, List.cons.injEq] at e
        cases rv with
        | cons r1 r2 =>
          show RVs K W H ((if nkU u = some k then uv else _) :: putV us _ k uv) _
          rw [List.map_cons, List.map_cons]
          refine .cons ?_ (ih e.2 r2)
          by_cases q : x.1 = k
          · rw [if_pos (by rw [e.1, q]), if_pos q]; exact r
          · rw [if_neg (fun z => q (by rw [e.1] at z; exact Option.some.inj z)), if_neg q]; exact r1
  unfold putVs putX
  rw [any_nk e k]
  split
  · exact go e rv
  · rw [List.map_append]
    exact rv.append (.cons r .nil)
theorem putX_le (xs : List (NestedKey × Addr × V)) (b : Addr) : (putX xs k b v).length ≤ xs.length + 1 := by
  unfold putX
  split <;> simp
theorem putX_dp {xs : List (NestedKey × Addr × V)} (hd : ∀ x ∈ xs, x.1.depth ≤ 8) (hk : k.depth ≤ 8) (b : Addr) : ∀ x ∈ putX xs k b v, x.1.depth ≤ 8 := by
  intro x hx
  unfold putX at hx
  split at hx
  · obtain ⟨y, hy, rfl⟩ := List.mem_map.mp hx
    split
    · exact hd y hy
    · exact hd y hy
  · rcases List.mem_append.mp hx with h | h
    · exact hd x h
    · have e : x = (k, b, v) := by simpa using h
      rw [e]; exact hk
theorem putX_ne (xs : List (NestedKey × Addr × V)) (b : Addr) : putX xs k b v ≠ [] := by
  unfold putX
  split
  · rename_i h
    intro e
    have : xs = [] := by simpa using e
    rw [this] at h
    simp at h
  · simp
/-- the scalar keys -/
theorem putK_ks (kvs : List (Key × V)) (key : Key) (v : V) : putKs (kvs.map fun p => kU p.1) (nkK key) (kU key) = (putK kvs key v).map fun p => kU p.1 := by
  unfold putKs putK
  have e : dicHas (kvs.map fun p => kU p.1) (nkK key) = kvs.any fun kv => decide (kv.1 = key) := by
    unfold dicHas
    rw [List.any_map]
    congr 1
    funext p
    simp only [Function.comp]
    exact decide_eq_decide.mpr (nkU_kU_eq _ _)
  rw [e]
  split
  · rw [List.map_map]
    refine List.map_congr_left fun x _ => ?_
    simp only [Function.comp]
    split <;> rfl
  · simp
theorem putK_vs {K : PySem.W.Frag} {kvs : List (Key × V)} (key : Key) (rv : RVs K W H vs (kvs.map (·.2))) (r : RV K W H uv v) : RVs K W H (putVs (kvs.map fun p => kU p.1) vs (nkK key) uv) ((putK kvs key v).map (·.2)) := by
  have go : ∀ {kvs : List (Key × V)} {vs : List U}, RVs K W H vs (kvs.map (·.2)) → RVs K W H (putV (kvs.map fun p => kU p.1) vs (nkK key) uv) ((kvs.map fun kv => if kv.1 = key then (kv.1, v) else kv).map (·.2)) := by
    intro kvs
    induction kvs with
    | nil => intro vs rv; cases rv; exact .nil
    | cons p kvs ih =>
      intro vs rv
      cases rv with
      | cons r1 r2 =>
        show RVs K W H ((if nkU (kU p.1) = some (nkK key) then uv else _) :: putV _ _ (nkK key) uv) _
        rw [List.map_cons, List.map_cons]
        refine .cons ?_ (ih r2)
        by_cases q : p.1 = key
        · rw [if_pos ((nkU_kU_eq _ _).mpr q), if_pos q]; exact r
        · rw [if_neg (fun z => q ((nkU_kU_eq _ _).mp z)), if_neg q]; exact r1
  unfold putVs putK
  have e : dicHas (kvs.map fun p => kU p.1) (nkK key) = kvs.any fun kv => decide (kv.1 = key) := by
    unfold dicHas
    rw [List.any_map]
    congr 1
    funext p
    simp only [Function.comp]
    exact decide_eq_decide.mpr (nkU_kU_eq _ _)
  rw [e]
  split
  · exact go rv
  · rw [List.map_append]
    exact rv.append (.cons r .nil)
theorem kv_rvs {K : PySem.W.Frag} : ∀ kvs : List (Key × V), RVs K W H (kvs.map fun p => kU p.1) (kvs.map fun p => kV p.1)
  | [] => .nil
  | p :: kvs => by
    refine .cons ?_ (kv_rvs kvs)
    obtain ⟨key, v⟩ := p
    cases key with
    | inl i => exact .int i
    | inr x => exact .str x
theorem dn_write {A : Around} {E : Value → Shared → Prop} {Q : Unit → Shared → Prop} (hw : X.w = WW.w) (hu : A.units + 16 < cLine) (I : L2.Inv X pins σ H s) {xs : List (NestedKey × Addr × V)} {ys : List (NestedKey × Addr × Value)} {b : Addr} (hx : H a = some o) (mu : Mut (some o)) (hsm : (a == sysModules) = false)
    (hp : YP xs ys) (dd : s.heap.DictOfH (nestedKind X.prog X.w) a ys) (hb : (nestedKind X.prog X.w).is s.heap k b) (hz : xs.length < sizeLine) (ra : RelV v av)
    (q : ∀ s', L2.Inv X pins σ (upd H a (DnO a (putX xs k b v))) s' → Q () s') : wpAny (model X.prog X.w) A (setItem (.ref a) (.ref b) av) Q E s := by
  have hl : ys.length = xs.length := (Paired.length hp).symm
  refine wpAny_setItem_heap (knd := nestedKind X.prog X.w) (hsz := by omega) (room8 hu) hb dd fun h' dd' hs => q _ ?_
  obtain ⟨ob, es, ep, h1, h2, h3, h4, _, h5⟩ := dd'
  refine d_write I (by rw [hx]; exact mu) hs ⟨ob, h1⟩ ?_
  refine ⟨⟨hsm, _, hp.put k b ra, ob, es, ep, h1, h2, h3, ?_, h5⟩, ⟨ob, h1⟩, ?_⟩
  · rw [h4]
    refine List.map_congr_left fun x _ => ?_
    show (⟨x.1.hash X.w, .ref x.2.1, x.2.2⟩ : DictEntry) = ⟨x.1.hash WW.w, .ref x.2.1, x.2.2⟩
    rw [hw]
  · rintro g1 g2 ⟨k1, ys', k2, ob', es', ep', k3, k4⟩ st
    exact ⟨k1, ys', k2, ob', es', ep', st _ k3, k4⟩
theorem dic_put {A : Around} {E : Value → Shared → Prop} {Q : Unit → Shared → Prop} (hw : X.w = WW.w) (hu : A.units + 16 < cLine) (I : L2.Inv X pins σ H s) (hx : H a = some o) (ds : DicS a ks kv vv o) (rk : RVs X.K W H ks kv) (rv : RVs X.K W H vs vv) (ru : RV X.K W H u x) (rx : RelV x ax) (ki : KeyIn ks u k)
    (ruv : RV X.K W H uv v) (ra : RelV v av) (hz : ks.length < sizeLine) (q : ∀ o' kv' vv' s', isDO o' → DicS a (putKs ks k u) kv' vv' o' → RVs X.K W H (putKs ks k u) kv' → RVs X.K W H (putVs ks vs k uv) vv' → L2.Inv X pins σ (upd H a o') s' → Q () s') :
    wpAny (model X.prog X.w) A (setItem (.ref a) ax av) Q E s := by
  obtain ⟨hk, hd, ok⟩ := ki
  rcases ds with ⟨kvs, rfl, rfl, rfl, rfl⟩ | ⟨xs, hne, hzx, hdp, rfl, rfl, rfl, en⟩
  · by_cases hsc : isSc u = true
    · obtain ⟨key, rfl⟩ := isSc_kU hsc
      rw [nkU_kU] at hk
      cases hk
      have ex := ru.kU_
      subst ex
      refine d_setItem (by omega) I (DPut.k hx (by simpa using hz)) rx ra fun s' I' => q (.dK _) _ _ s' True.intro (.inl ⟨_, rfl, rfl, rfl, putK_ks kvs key v⟩) ?_ (putK_vs key rv ruv) I'
      rw [putK_ks kvs key v]
      exact kv_rvs _
    · have ht : isTp u = true ∧ ∀ k ∈ kvs.map (fun p => kU p.1), isTp k = true := by
        rcases ok with ⟨z, _⟩ | z
        · exact absurd z hsc
        · exact z
      have e0 : kvs = [] := by
        cases kvs with
        | nil => rfl
        | cons p _ =>
          have := ht.2 (kU p.1) (by simp)
          cases hp : p.1 <;> (rw [hp] at this; cases this)
      subst e0
      cases rk
      cases rv
      obtain ⟨z, hsm, _, rel, dd⟩ := dk_rd I.hok (.inl hx)
      cases rel
      obtain ⟨ob, es, ep, h1, h2, h3, h4⟩ := dd
      have dd2 : s.heap.DictOfH (nestedKind X.prog X.w) a [] := ⟨ob, es, ep, h1, h2, h3, (by
        have z := h4.2.1
        generalize es.toList = l at z
        cases z
        rfl), (fun x hx => by cases hx), List.nodup_nil⟩
      cases u with
      | tup us =>
        cases ru with
        | tup h rs =>
          obtain rfl := show _ = Value.ref _ from rx
          refine dn_write (xs := []) hw hu I hx trivial hsm .nil dd2 ⟨RV.key I (.tup h rs) rx hk, hd⟩ (by rw [sizeLine_eq]; decide) ra fun s' I' => q (DnO _ _) _ _ s' True.intro (.inr ⟨_, putX_ne _ _, ?_, putX_dp (fun x hx => by cases hx) hd _, rfl, rfl, rfl, putX_keys [] _ rfl k _ v _ hk⟩) ?_ ?_ I'
          · have := putX_le (k := k) (v := v) [] (by assumption)
            rw [sizeLine_eq]
            have : (putX [] k (by assumption) v).length ≤ 1 := by simpa using this
            omega
          · exact putX_rk (xs := []) rfl .nil (.tup h rs)
          · exact putX_rv (xs := []) rfl .nil ruv
      | _ => exact absurd ht.1 (by simp [isTp])
  · have ht : isTp u = true := by
      rcases ok with ⟨_, z⟩ | z
      · exfalso
        cases ks with
        | nil =>
          cases xs with
          | nil => exact hne rfl
          | cons _ _ => simp at en
        | cons k0 ks =>
          cases xs with
          | nil => exact hne rfl
          | cons x0 xs =>
            have q := z k0 List.mem_cons_self
            rw [List.map_cons] at rk
            cases rk with
            | cons r1 _ =>
              cases k0 with
              | int _ => cases r1
              | str _ => cases r1
              | _ => cases q
      · exact z.1
    obtain ⟨hsm, ys, hp, dd⟩ := dn_heap hw I (.inl hx) hdp rfl en rk
    have hl : ks.length = xs.length := by simpa using congrArg List.length en
    cases u with
    | tup us =>
      cases ru with
      | @tup _ b _ h rs =>
        obtain rfl := show _ = Value.ref _ from rx
        refine dn_write hw hu I hx trivial hsm hp dd ⟨RV.key I (.tup h rs) rx hk, hd⟩ (by omega) ra fun s' I' => q (DnO _ _) _ _ s' True.intro (.inr ⟨_, putX_ne _ _, ?_, putX_dp hdp hd _, rfl, rfl, rfl, putX_keys xs _ en k _ v _ hk⟩) ?_ ?_ I'
        · have := putX_le (k := k) (v := v) xs b
          omega
        · exact putX_rk en rk (.tup h rs)
        · exact putX_rv en rv ruv
    | _ => exact absurd ht (by simp [isTp])
end
end Vi

/-! Vi26: dicts: the statements' rules. -/
namespace Vi
open PySem PySem.Spec PyProof.Rows L2
variable [WW]
section
variable {X : Cx} {L : Lx} {pins : List (Addr × Obj)} {σ : L2.St} {H : Hp} {s : Shared} {W : Wd}
/-! ### d[k] = v -/
def SetQ (X : Cx) (σ : L2.St) (x y v : V) (H : Hp) (Qn : Hp → Prop) : Prop := ∀ (pins : List (Addr × Obj)) (s : Shared) (u ay av : Value), L2.Inv X pins σ H s → RelV x u → RelV y ay → RelV v av →
  wpAny (model X.prog X.w) X.A (setItem u ay av) (fun _ s' => ∃ H', L2.Inv X pins σ H' s' ∧ Qn H') X.xe s
theorem ps_dputG {o i value : Expr} {pos pos' : Pos} {td ty tv : TE} (ho : PE X o td) (hi : PE X i ty) (hv : PE X value tv) (hs : swapsWith value (some (.Subscript o i pos')) pos.line X.env = pure false) :
    PS X (.Assign [.Subscript o i pos'] value pos) (fun D σ H => tv σ H fun v H1 => td σ H1 fun x H2 => ty σ H2 fun y H3 => SetQ X σ x y v H3 fun H4 => D.nx σ H4) := by
  refine ⟨fun pins s σ H D I h => ?_⟩
  refine wpAny_Assign_Subscript (thn (hv.run pins s σ H _ I h) fun r s1 ⟨v, H1, I1, rv, q1⟩ => thn (ho.run pins s1 σ H1 _ I1 q1) fun u s2 ⟨x, H2, I2, rx, q2⟩ => thn (hi.run pins s2 σ H2 _ I2 q2) fun iv s3 ⟨y, H3, I3, ry, q3⟩ => ?_) hs
  exact wpAny_mono (q3 pins s3 u iv r I3 rx ry rv) (fun _ s4 ⟨H4, I4, q4⟩ => ⟨σ, H4, I4, q4⟩) fun _ _ z => z
theorem ws_setD {k : Nat} {x : Str} {p pos pos' : Pos} {i e : Expr} {ti te : UE} (hw : X.w = WW.w) (hK : L.K = X.K) (hu : X.A.units + 64 < cLine) (he : WE X L e te) (hx : PE X (.Name x p) (tVar k)) (hi : WE X L i ti) (hs : swapsWith e (some (.Subscript (.Name x p) i pos')) pos.line X.env = pure false := by rfl) :
    WS X L (.Assign [.Subscript (.Name x p) i pos'] e pos) (uSetD k ti te) := by
  refine PS.wk (ps_dputG hx hi he hs) fun D σ H ⟨W, env, h, P, S, ht, c⟩ => ?_
  refine ⟨W, env, h, _, _, S, ht, ⟨fun W1 sv env1 h1 v H1 l1 S1 r1 q1 => ?_, c.ret.er⟩⟩
  obtain ⟨W2, S2, l2, r2⟩ := S1.freeze r1
  have c1 := c.le (l1.trans l2)
  obtain ⟨⟨ks0, vs0, e0⟩, q1⟩ := q1
  obtain ⟨v0, ev0, a0, o0, kv0, vv0, ex0, _⟩ := S2.slots k _ e0
  subst ex0
  refine ⟨_, ev0, W2, env1, h1, _, _, S2, q1, ⟨fun W3 iv env2 h2 y H2 l3 S3 r3 q2 => ?_, c1.ret.er⟩⟩
  obtain ⟨W4, S4, l4, r4⟩ := S3.freeze r3
  split at q2
  · rename_i ks vs ek
    obtain ⟨key, ki, hz, q2⟩ := q2
    obtain ⟨v1, ev1, a, o, kv, vv, ex, n, ea, ds, rk, rv⟩ := S4.slots k _ ek
    rw [ev0] at ev1
    cases ev1
    cases ex
    intro pins s u ay av I rx ry ra
    obtain rfl : u = Value.ref a0 := rx
    rw [hK] at rk rv r4 r2
    refine dic_put hw (by omega) I ea ds rk rv r4 ry ki (r2.le (l3.trans l4).toLeP) ra hz fun o' kv' vv' s' hd' ds' rk' rv' I' => ⟨_, I', ?_⟩
    have l5 : LeW W4 H2 W4 (upd H2 a0 o') := S4.sh.upd_ n (fun z => by cases z) ea ds.isD.mut
    obtain ⟨S5, _⟩ := S4.upd_any (sv' := .dic (putKs ks key iv.u) (putVs ks vs key sv.u)) (o' := o') (List.getElem?_eq_some_iff.mp ek).1 ev0 n ea ds.isD.mut ⟨a0, o', kv', vv', rfl, n, upd_same, ds', by rw [hK]; exact rk'.le l5.toLeP, by rw [hK]; exact rv'.le l5.toLeP⟩
    exact c1.nx W4 _ h2 σ _ ((l3.trans l4).trans l5) S5 q2
  · exact q2.elim
/-! ### {}, {k: v} -/
theorem we_dic0 {pos : Pos} : WE X L (.Dict [] [] pos) uDic0 := by
  refine PE.wk pe_dnewK fun σ H Q ⟨W, env, h, Po, Pe, S, ht, c⟩ => ?_
  intro p hp
  obtain ⟨S2, l⟩ := S.alloc hp (.dK []) .tmp
  exact c.ok _ (.dic [] []) env h _ _ l S2 ⟨p, _, [], [], rfl, Wd.put_same, upd_same, .inl ⟨[], rfl, rfl, rfl, rfl⟩, .nil, .nil⟩ ht
/-- what stands at an address that nobody owns yet changes -/
theorem Sim.upd0D {K : PySem.W.Frag} {env : En} {h : Hv} {D : Addr} {o o' : HO} (S : Sim K W env h σ H) (n : W.own D = none) (e : H D = some o) (mu : Mut (some o)) : LeP W H (W.put D (some .tmp)) (upd H D o') ∧ Sim K (W.put D (some .tmp)) env h σ (upd H D o') := by
  have ne : ∀ b w, W.own b = some w → b ≠ D := fun b w q z => by subst z; rw [n] at q; cases q
  have l : LeP W H (W.put D (some .tmp)) (upd H D o') := by
    refine ⟨fun b o eb f => ⟨by rw [Wd.put_ne (ne b _ f)]; exact f, .inl (by rw [upd_ne (ne b _ f)]; exact eb)⟩, fun b vs eb => ?_, fun b o u eb => ?_, ⟨[], by simp [Wd.put]⟩, fun i b _ f => by rw [Wd.put_ne (ne b _ f)]; exact f⟩
    · rw [upd_ne (fun z => by subst z; rw [e] at eb; cases eb; exact mu)]; exact eb
    · rw [upd_ne (fun z => by subst z; rw [e] at eb; cases eb; exact mu)]; exact eb
  refine ⟨l, ⟨⟨S.sh.len, fun i o eo => ?_, fun a w ea => ?_⟩, S.len, fun k sv es => ?_⟩⟩
  · obtain ⟨a, m, na, r⟩ := S.sh.objs i o eo
    refine ⟨a, m, by rw [Wd.put_ne (ne a _ na)]; exact na, ?_⟩
    cases o with
    | lst us =>
      obtain ⟨vs, e1, rv⟩ := r
      exact ⟨vs, by rw [upd_ne (ne a _ na)]; exact e1, rv.le l⟩
  · by_cases z : a = D
    · subst z; exact ⟨_, upd_same⟩
    · rw [Wd.put_ne z] at ea
      rw [upd_ne z]; exact S.sh.dom a w ea
  · obtain ⟨v, e1, r⟩ := S.slots k sv es
    refine ⟨v, e1, ?_⟩
    cases sv with
    | val u => exact RV.le l r
    | own us =>
      obtain ⟨a, vs, rfl, na, ea, rv⟩ := r
      exact ⟨a, vs, rfl, by rw [Wd.put_ne (ne a _ na)]; exact na, by rw [upd_ne (ne a _ na)]; exact ea, rv.le l⟩
    | dic ks us =>
      obtain ⟨a, o, kv, vv, rfl, na, ea, ds, r1, r2⟩ := r
      exact ⟨a, o, kv, vv, rfl, by rw [Wd.put_ne (ne a _ na)]; exact na, by rw [upd_ne (ne a _ na)]; exact ea, ds, r1.le l, r2.le l⟩
theorem dict_pairsX {prog : Program} {w : World} {A : Around} {E : Value → Shared → Prop} {s : Shared} {knd : HeapKind prog w NestedKey} {env : Env} {keys : List (Option Expr)} {values : List Expr} {pos : Pos} {Q : Value → Shared → Prop} (hu : knd.room A)
    (hall : keys.all (·.isSome) = true) (hl : keys.length = values.length) (h0 : keys ≠ []) (hlen : keys.length ≤ 15)
    (h : wpAny (model prog w) A (evalPairs (pairTrees keys values env pos)) (fun vs s₁ => ∃ ps, CarriesH knd s₁.heap vs ps ∧ s₁.heap.DictOfH knd s.heap.objs.size [] ∧
      ∀ h' tk, h'.DictOfH knd s.heap.objs.size (storedAllH [] ps) → Heap.SameBut s.heap.objs.size s₁.heap h' → Q (.ref s.heap.objs.size) { s₁ with heap := h', toks := tk }) E
      { s with heap := s.heap.push { cls := .type "dict", data := .dict #[] } }) :
    wpAny (model prog w) A (eval (.Dict keys values pos) env) Q E s := by
  have hn := pairTrees_length keys values env pos hall hl
  have hne : pairTrees keys values env pos ≠ [] := by
    intro he
    rw [he] at hn
    exact h0 (List.length_eq_zero_iff.mp hn.symm)
  rw [arm_eval_Dict, zip_pairTrees keys values env pos hall hl, dictDisplay_pairs _ hne (by rw [hn]; omega)]
  exact wpAny_bind (wpAny_standAt (wpAny_bind (wpAny_subDictH (knd := knd) (Q := fun d s' => wpAny (model prog w) A (pure (Value.ref d)) Q E s') hu (by rw [hn]; exact hlen)
    (wpAny_mono h (fun vs s₁ h₁ => by obtain ⟨ps, hc, hm, hq⟩ := h₁; exact ⟨ps, hc, hm, fun h' tk a b => wpAny_pure (hq h' tk a b)⟩) fun _ _ e => e))))
theorem pe_disp1 {ek ev : Expr} {pos : Pos} {tk tv : TE} (hw : X.w = WW.w) (hu : X.A.units + 64 < cLine) (hk : PE X ek tk) (hv : PE X ev tv) : PE X (.Dict [some ek] [ev] pos)
    (fun σ H Q => ∀ p, H p = none → tk σ (upd H p (.dK [])) fun x H1 => tv σ H1 fun y H2 => H2 p = some (.dK []) ∧ ∃ W u uv key, RV X.K W H2 u x ∧ RV X.K W H2 uv y ∧ KeyIn [] u key ∧ isTp u = true ∧
      ∀ o' kv' vv', isDO o' → DicS p [u] kv' vv' o' → RVs X.K W H2 [u] kv' → RVs X.K W H2 [uv] vv' → Q (.ref p) (upd H2 p o')) := by
  refine ⟨fun pins s σ H Q I q => ?_⟩
  have hn := I.hok.fresh (Nat.le_refl s.heap.objs.size)
  have I1 := I.laid (a := s.heap.objs.size) (o := .dK []) (h' := s.heap.push { cls := .type "dict", data := .dict #[] }) (t' := s.toks) (fun _ _ q => Heap.get?_push_of_some _ q) (Nat.le_refl _) (dk_empty s.heap I.big)
  have q0 := q _ hn
  refine dict_pairsX (knd := nestedKind X.prog X.w) (show X.A.units + 8 < cLine by omega) rfl rfl (by simp) (by simp) (pairTrees_cons_walk (thn (hk.run pins _ σ _ _ I1 q0) fun ux s2 ⟨x, H1, I2, rx, q1⟩ => thn (hv.run pins s2 σ H1 _ I2 q1) fun uy s3 ⟨y, H2, I3, ry, e, W, u, uv, key, ru, ruv, ki, ht, q2⟩ => pairTrees_nil_walk ?_))
  cases u with
  | tup us =>
    cases ru with
    | @tup _ b _ h rs =>
      obtain rfl := show _ = Value.ref _ from rx
      obtain ⟨z, hsm, _, rel, dd⟩ := dk_rd I3.hok (.inl e)
      cases rel
      obtain ⟨ob, es, ep, h1, h2, h3, h4⟩ := dd
      have dd2 : s3.heap.DictOfH (nestedKind X.prog X.w) s.heap.objs.size [] := ⟨ob, es, ep, h1, h2, h3, (by
        have z := h4.2.1
        generalize es.toList = l at z
        cases z
        rfl), (fun x hx => by cases hx), List.nodup_nil⟩
      refine ⟨[(key, b, uy)], ⟨rfl, rfl, ⟨RV.key I3 (.tup h rs) rx ki.nk, ki.dp⟩, trivial⟩, dd2, fun h' tk dd' hs => ?_⟩
      obtain ⟨ob', es', ep', g1, g2, g3, g4, _, g5⟩ := dd'
      refine ⟨.ref s.heap.objs.size, _, ?_, rfl, q2 (DnO s.heap.objs.size [(key, b, y)]) [.ref b] [y] True.intro (.inr ⟨_, by simp, by rw [sizeLine_eq]; simp, ?_, rfl, rfl, rfl, ?_⟩) (.cons (.tup h rs) .nil) (.cons ruv .nil)⟩
      · refine d_write I3 (by rw [e]; exact True.intro) hs ⟨ob', g1⟩ ?_
        refine ⟨⟨hsm, [(key, b, uy)], .cons ⟨rfl, rfl, ry⟩ .nil, ob', es', ep', g1, g2, g3, ?_, g5⟩, ⟨ob', g1⟩, ?_⟩
        · rw [g4]
          show [(⟨key.hash X.w, .ref b, uy⟩ : DictEntry)] = [⟨key.hash WW.w, .ref b, uy⟩]
          rw [hw]
        · rintro m1 m2 ⟨k1, ys', k2, ob', es', ep', k3, k4⟩ st
          exact ⟨k1, ys', k2, ob', es', ep', st _ k3, k4⟩
      · intro x hx
        have e : x = (key, b, y) := by simpa using hx
        rw [e]; exact ki.dp
      · show [nkU (.tup us)] = [some key]
        rw [ki.nk]
  | _ => cases ht
@[simp] def uDicT (tk tv : UE) : UE := fun env h Po Pe => tk env h (fun x env1 h1 => tv env1 h1 (fun y env2 h2 => ∃ key, KeyIn [] x.u key ∧ isTp x.u = true ∧ Po (.dic [x.u] [y.u]) env2 h2) Pe) Pe
theorem we_dicT {ek ev : Expr} {pos : Pos} {tk tv : UE} (hw : X.w = WW.w) (hK : L.K = X.K) (hu : X.A.units + 64 < cLine) (hk : WE X L ek tk) (hv : WE X L ev tv) : WE X L (.Dict [some ek] [ev] pos) (uDicT tk tv) := by
  refine PE.wk (pe_disp1 hw hu hk hv) fun σ H Q ⟨W, env, h, Po, Pe, S, ht, c⟩ => ?_
  intro p hp
  have n0 := S.sh.own_none hp
  have l0 := LeW.none_ S.sh hp (.dK [])
  have c0 := c.le l0
  refine ⟨W, env, h, _, _, S.none_ hp _, ht, ⟨fun W1 x env1 h1 v1 H1 l1 S1 r1 q1 => ?_, c0.er⟩⟩
  obtain ⟨W2, S2, l2, r2⟩ := S1.freeze r1
  have c1 := c0.le (l1.trans l2)
  refine ⟨W2, env1, h1, _, _, S2, q1, ⟨fun W3 y env2 h2 v2 H2 l3 S3 r3 q2 => ?_, c1.er⟩⟩
  obtain ⟨W4, S4, l4, r4⟩ := S3.freeze r3
  have lw := ((l1.trans l2).trans (l3.trans l4))
  obtain ⟨n4, e4⟩ := lw.st p _ upd_same n0
  obtain ⟨key, ki, ht', q3⟩ := q2
  rw [← hK]
  refine ⟨e4, W4, x.u, y.u, key, r2.le (l3.trans l4).toLeP, r4, ki, ht', fun o' kv' vv' hd' ds' rk' rv' => ?_⟩
  obtain ⟨lp, S5⟩ := S4.upd0D n4 e4 (o' := o') trivial
  have l5 : LeW W H (W4.put p (some .tmp)) (upd H2 p o') := by
    have l6 := l0.trans lw
    refine ⟨⟨fun b o eb f => ?_, fun b vs eb => ?_, fun b o u eb => ?_, ?_, fun i b m f => ?_⟩, fun b o eb f => ?_⟩
    · have ne : b ≠ p := fun z => by subst z; rw [hp] at eb; cases eb
      rw [upd_ne ne, Wd.put_ne ne]; exact l6.fr b o eb f
    · have ne : b ≠ p := fun z => by subst z; rw [hp] at eb; cases eb
      rw [upd_ne ne]; exact l6.tp b vs eb
    · have ne : b ≠ p := fun z => by subst z; rw [hp] at eb; cases eb
      rw [upd_ne ne]; exact l6.fz b o u eb
    · exact l6.mp
    · have ne : b ≠ p := fun z => by subst z; rw [n0] at f; cases f
      rw [Wd.put_ne ne]; exact l6.ob i b m f
    · have ne : b ≠ p := fun z => by subst z; rw [hp] at eb; cases eb
      rw [upd_ne ne, Wd.put_ne ne]; exact l6.st b o eb f
  exact c.ok _ (.dic [x.u] [y.u]) env2 h2 _ _ l5 S5 ⟨p, o', kv', vv', rfl, Wd.put_same, upd_same, ds', rk'.le lp, rv'.le lp⟩ q3
/-! ### walks -/
def Itkn (d : Addr) (o : Obj) (xs : List (NestedKey × Addr × V)) : It :=
  ⟨fun i H => H d = some (.frz o (DnO d xs)) ∧ i < xs.length, fun i H x H' => H' = H ∧ ∃ y, xs[i]? = some y ∧ x = .ref y.2.1, fun i H => H d = some (.frz o (DnO d xs)) ∧ xs.length ≤ i⟩
theorem frzN (I : L2.Inv X pins σ H s) {d : Addr} {o : Obj} {xs : List (NestedKey × Addr × V)} (h : H d = some (.frz o (DnO d xs))) :
    (d == sysModules) = false ∧ s.heap.get? d = some o ∧ o.ExactDict ∧ ∃ (es : Array DictEntry) (ep : Nat), o.data = .dict es ep ∧ es.size = xs.length ∧ ∀ (i : Nat) (y : NestedKey × Addr × V), xs[i]? = some y → ∃ en : DictEntry, es[i]? = some en ∧ en.key = .ref y.2.1 := by
  obtain ⟨hd, ⟨hs, ys, hp, o', es, ep, ho, hx, hdt, he, _⟩, _⟩ := I.hok d _ h
  rw [hd] at ho
  cases ho
  have l1 : xs.length = ys.length := Paired.length hp
  have l2 : es.size = ys.length := by rw [← Array.length_toList, he, List.length_map]
  refine ⟨hs, hd, hx, es, ep, hdt, by omega, fun i y ey => ?_⟩
  obtain ⟨q, eq, _, e2, _⟩ := paired_get hp ey
  refine ⟨_, by rw [← Array.getElem?_toList, he, List.getElem?_map, eq]; rfl, ?_⟩
  show Value.ref q.2.1 = _
  rw [← e2]
theorem turn_keysN {P : Program} {w : World} {K : PySem.W.Frag} {tg : Expr} {d : Addr} {o : Obj} {es : Array DictEntry} {ep : Nat} {xs : List (NestedKey × Addr × V)} (it : Addr) (hod : o.data = .dict es ep) : Turn P w K tg (Itkn d o xs) [it] it (fun i h => h.IsKeyIter it d i xs.length ep) where
  mem := by simp
  obj := fun i h st b hb => by
    have e : b = it := by simpa using hb
    subst e
    obtain ⟨oi, e, c, dd⟩ := st
    exact ⟨oi, e, fun v z => by rw [dd] at z; cases z⟩
  keep := fun i h h' st k => st.at fun oi e => k it (by simp) oi e
  item := by
    intro X hP hw hK hc i pins s σ H E I hf st hg
    subst hP hw hK
    obtain ⟨hd, hi⟩ := hg
    obtain ⟨f0, f1, f2, f3, f4, f5⟩ := hf it (by simp)
    obtain ⟨hs, hgd, hx, es', ep', hdt, hsz, ent⟩ := frzN I hd
    obtain ⟨rfl, rfl⟩ := dict_ep hod hdt
    obtain ⟨y, hy⟩ : ∃ p, xs[i]? = some p := ⟨xs[i], List.getElem?_eq_getElem hi⟩
    obtain ⟨en, hen, hkey⟩ := ent i y hy
    refine next_key_item st hgd hdt hsz hen fun h' st' sb => ?_
    have I1 : L2.Inv X pins σ H { s with heap := h' } := I.turned (t' := s.toks) (fun b ob hb e => (sb.2 b hb).trans e) f0 f1 f3 f4 f5
    obtain ⟨oi, e, c, dd⟩ := id st'
    exact ⟨en.key, rfl, go_of (s := { s with heap := h' }) e c dd (by decide) ⟨.ref y.2.1, H, I1, hkey, ⟨rfl, y, hy, rfl⟩, st', fun b hb => (hf b hb).1⟩⟩
  done := by
    intro X hP hw hK hc i pins s σ H E I hf st hg
    subst hP hw hK
    obtain ⟨hd, hi⟩ := hg
    obtain ⟨f0, f1, f2, f3, f4, f5⟩ := hf it (by simp)
    obtain ⟨hs, hgd, hx, es', ep', hdt, hsz, ent⟩ := frzN I hd
    obtain ⟨rfl, rfl⟩ := dict_ep hod hdt
    exact next_key_end (I.ok.hd hc) st hgd hdt hsz hi fun h' eb => ⟨rfl, I.turned (t' := s.toks) (fun b ob hb e => eb b ob hb e) f0 f1 f3 f4 f5⟩
  self := fun A i s Q E st h => wpAny_pyIter_keyiter st h
/-- the keys' walk over the dict at d -/
def KItS (d : Addr) (o : HO) (J : Obj → It) : Prop := (∃ kvs, o = .dK kvs ∧ J = fun od => Itk d od kvs) ∨ ∃ xs, o = DnO d xs ∧ J = fun od => Itkn d od xs
theorem pi_keysD {tg e : Expr} {td : TE} (he : PE X e td) : PI X tg e (fun σ H R => td σ H fun x H1 => ∃ d o J, x = .ref d ∧ isDO o ∧ KItS d o J ∧
    ((H1 d = some o ∧ ∀ od, R (J od) (upd H1 d (.frz od o))) ∨ ∃ od, H1 d = some (.frz od o) ∧ R (J od) H1)) := by
  refine ⟨fun pins s σ H R I h => ?_⟩
  refine thn (he.run pins s σ H _ I h) fun u s1 ⟨x, H1, I1, rx, d, o, J, ex, hd, hk, q⟩ => ?_
  subst ex
  obtain rfl : u = Value.ref d := rx
  have go : ∀ (H2 : Hp) (od : Obj), L2.Inv X pins σ H2 s1 → H2 d = some (.frz od o) → R (J od) H2 → wpAny (model X.prog X.w) X.A (pyIter (.ref d)) (PIE X pins σ tg R) X.xe s1 := by
    intro H2 od I2 e2 q2
    rcases hk with ⟨kvs, rfl, rfl⟩ | ⟨xs, rfl, rfl⟩
    · obtain ⟨hs, hgd, hx, es, ep, vs, hdt, hsz, kv, hm⟩ := I2.frzK e2
      refine iter_keys hs hgd hx hdt (pi_one (tk := s1.toks) I2 _ (turn_keys _ hdt) ⟨_, Heap.get?_push_size _ rfl, rfl, ?_⟩ q2)
      rw [hsz] <;> rfl
    · obtain ⟨hs, hgd, hx, es, ep, hdt, hsz, ent⟩ := frzN I2 e2
      refine iter_keys hs hgd hx hdt (pi_one (tk := s1.toks) I2 _ (turn_keysN _ hdt) ⟨_, Heap.get?_push_size _ rfl, rfl, ?_⟩ q2)
      rw [hsz] <;> rfl
  rcases q with ⟨e1, q⟩ | ⟨od, e1, q⟩
  · obtain ⟨od, I2⟩ := I1.lock e1 hd.mut
    exact go _ od I2 upd_same (q od)
  · exact go H1 od I1 e1 q
/-- a frozen dict is locked -/
theorem Sim.lockD {K : PySem.W.Frag} {env : En} {h : Hv} {d : Addr} {o : HO} (S : Sim K W env h σ H) (n : W.own d = some .frz) (e : H d = some o) (hd : isDO o) (od : Obj) : Sim K W env h σ (upd H d (.frz od o)) ∧ LeW W H W (upd H d (.frz od o)) := by
  have l : LeW W H W (upd H d (.frz od o)) := by
    refine ⟨⟨fun b u eb f => ⟨f, ?_⟩, fun b vs eb => ?_, fun b u w eb => ?_, ⟨[], by simp⟩, fun _ _ _ f => f⟩, fun b u eb f => ⟨f, ?_⟩⟩
    · by_cases z : b = d
      · subst z
        rw [e] at eb
        cases eb
        exact .inr ⟨hd, od, upd_same⟩
      · exact .inl (by rw [upd_ne z]; exact eb)
    · rw [upd_ne (fun z => by subst z; rw [e] at eb; cases eb; exact hd)]; exact eb
    · rw [upd_ne (fun z => by subst z; rw [e] at eb; cases eb; exact hd)]; exact eb
    · rw [upd_ne (fun z => by subst z; rw [n] at f; cases f)]; exact eb
  have ne : ∀ b w, W.own b = some w → w ≠ .frz → b ≠ d := fun b w q hw z => by subst z; rw [n] at q; cases q; exact hw rfl
  refine ⟨⟨⟨S.sh.len, fun i o2 eo => ?_, fun a w ea => ?_⟩, S.len, fun k sv es => ?_⟩, l⟩
  · obtain ⟨a, m, na, r⟩ := S.sh.objs i o2 eo
    refine ⟨a, m, na, ?_⟩
    cases o2 with
    | lst us =>
      obtain ⟨vs, e1, rv⟩ := r
      exact ⟨vs, by rw [upd_ne (ne a _ na (fun z => by cases z))]; exact e1, rv.le l.toLeP⟩
  · by_cases z : a = d
    · subst z; exact ⟨_, upd_same⟩
    · rw [upd_ne z]; exact S.sh.dom a w ea
  · obtain ⟨v, e1, r⟩ := S.slots k sv es
    refine ⟨v, e1, ?_⟩
    cases sv with
    | val u => exact RV.le l.toLeP r
    | own us =>
      obtain ⟨a, vs, rfl, na, ea, rv⟩ := r
      exact ⟨a, vs, rfl, na, by rw [upd_ne (ne a _ na (fun z => by cases z))]; exact ea, rv.le l.toLeP⟩
    | dic ks us =>
      obtain ⟨a, o2, kv, vv, rfl, na, ea, ds, r1, r2⟩ := r
      exact ⟨a, o2, kv, vv, rfl, na, by rw [upd_ne (ne a _ na (fun z => by cases z))]; exact ea, ds, r1.le l.toLeP, r2.le l.toLeP⟩
theorem wk_keysK {K : PySem.W.Frag} {d : Addr} {od : Obj} {kvs : List (Key × V)} (e : H d = some (.frz od (.dK kvs))) : Wk K W H (kvs.map fun p => kU p.1) (Itk d od kvs) := by
  intro W' H' l i
  have e' := l.fz _ _ _ e
  refine ⟨fun hi => ⟨e', by simpa using hi⟩, fun u eu => ?_⟩
  have hi : i < kvs.length := by
    have := (List.getElem?_eq_some_iff.mp eu).1
    simpa using this
  refine ⟨⟨e', hi⟩, fun x H'' ⟨eH, key, v, ek, ex⟩ => ?_⟩
  subst eH ex
  refine ⟨.refl, fun _ _ _ S => S, ?_⟩
  rw [List.getElem?_map, ek] at eu
  cases eu
  cases key with
  | inl i => exact .int i
  | inr x => exact .str x
theorem wk_keysN {K : PySem.W.Frag} {d : Addr} {od : Obj} {xs : List (NestedKey × Addr × V)} {ks : List U} (e : H d = some (.frz od (DnO d xs))) (rk : RVs K W H ks (xs.map fun x => V.ref x.2.1)) : Wk K W H ks (Itkn d od xs) := by
  intro W' H' l i
  have e' := l.fz _ _ _ e
  have rl : ks.length = xs.length := by simpa using rk.length
  refine ⟨fun hi => ⟨e', by omega⟩, fun u eu => ?_⟩
  have hi : i < xs.length := by
    have := (List.getElem?_eq_some_iff.mp eu).1
    omega
  refine ⟨⟨e', hi⟩, fun x H'' ⟨eH, y, ey, ex⟩ => ?_⟩
  subst eH ex
  refine ⟨.refl, fun _ _ _ S => S, ?_⟩
  obtain ⟨v, ev, rv⟩ := rk.get eu
  rw [List.getElem?_map, ey] at ev
  cases ev
  exact rv.le l.toLeP
theorem wi_keys {tg e : Expr} {te : UE} (hK : L.K = X.K) (he : WE X L e te) : WI X L tg e (uKeys te) := by
  refine PI.wk (pi_keysD he) fun σ H R ⟨W, env, h, Po, Pe, S, ht, c⟩ => ?_
  refine ⟨W, env, h, _, _, S, ht, ⟨fun W1 sv env1 h1 y H1 l1 S1 r1 q1 => ?_, c.er⟩⟩
  obtain ⟨W2, S2, l2, r2⟩ := S1.freeze r1
  split at q1
  · rename_i ks vs eu
    rw [eu] at r2
    cases r2 with
    | @dic _ _ d o kv vv hx ds rk rv =>
      have kd : ∃ J, KItS d o J ∧ ∀ (W : Wd) (H : Hp) (od : Obj), H d = some (.frz od o) → RVs L.K W H ks kv → Wk L.K W H ks (J od) := by
        rcases ds with ⟨kvs, rfl, rfl, rfl, rfl⟩ | ⟨xs, hne, hz, hdp, rfl, rfl, rfl, en⟩
        · exact ⟨_, .inl ⟨kvs, rfl, rfl⟩, fun W H od e _ => wk_keysK e⟩
        · exact ⟨_, .inr ⟨xs, rfl, rfl⟩, fun W H od e rk => wk_keysN e rk⟩
      obtain ⟨J, kj, hJ⟩ := kd
      refine ⟨d, o, J, rfl, ds.isD, kj, ?_⟩
      rcases hx with ⟨n, e⟩ | ⟨od, e⟩
      · refine .inl ⟨e, fun od => ?_⟩
        obtain ⟨S3, l3⟩ := S2.lockD n e ds.isD od
        exact c.ok W2 ks env1 h1 _ _ ((l1.trans l2).trans l3) S3 (hJ W2 _ od upd_same (rk.le l3.toLeP)) q1
      · exact .inr ⟨od, e, c.ok W2 ks env1 h1 _ _ (l1.trans l2) S2 (hJ W2 _ od e rk) q1⟩
  · exact q1.elim
end
end Vi

/-! Vi27: dicts whose keys are images of plain data. -/
namespace Vi
open PySem PySem.Spec PyProof.Rows L2
variable [WW]
/-- f writes data as values that are keys, key tells which -/
structure KeyFn {α : Type} (f : α → U) (key : α → NestedKey) : Prop where
  nk : ∀ x, nkU (f x) = some (key x)
  dp : ∀ x, (key x).depth ≤ 8
  inj : ∀ x y, key x = key y → x = y
  kd : (∀ x, isTp (f x) = true) ∨ ∀ x, isSc (f x) = true
section
variable {α : Type} [DecidableEq α] {f : α → U} {key : α → NestedKey}
theorem KeyFn.keyIn (F : KeyFn f key) (l : List α) (x : α) : KeyIn (l.map f) (f x) (key x) := by
  refine ⟨F.nk x, F.dp x, ?_⟩
  rcases F.kd with h | h
  · refine .inr ⟨h x, fun k hk => ?_⟩
    obtain ⟨y, _, rfl⟩ := List.mem_map.mp hk
    exact h y
  · refine .inl ⟨h x, fun k hk => ?_⟩
    obtain ⟨y, _, rfl⟩ := List.mem_map.mp hk
    exact h y
theorem KeyFn.keyIn0 (F : KeyFn f key) (x : α) : KeyIn [] (f x) (key x) := F.keyIn [] x
theorem KeyFn.eq (F : KeyFn f key) (x y : α) : (nkU (f x) = some (key y)) ↔ x = y := by
  rw [F.nk]
  exact ⟨fun e => F.inj _ _ (Option.some.inj e), fun e => by rw [e]⟩
theorem KeyFn.has (F : KeyFn f key) (x : α) : ∀ l : List α, dicHas (l.map f) (key x) = decide (x ∈ l)
  | [] => rfl
  | y :: l => by
    show (decide (nkU (f y) = some (key x)) || dicHas (l.map f) (key x)) = _
    rw [F.has x l]
    by_cases e : y = x
    · rw [decide_eq_true ((F.eq y x).mpr e)]; simp [e]
    · rw [decide_eq_false (fun z => e ((F.eq y x).mp z))]
      have e' : ¬ x = y := fun z => e z.symm
      simp [e']
theorem KeyFn.isSome (F : KeyFn f key) (x : α) {l : List α} {vs : List U} (h : vs.length = l.length) : (dicAt (l.map f) vs (key x)).isSome = decide (x ∈ l) := by
  rw [← dicHas_isSome (by simp [h]), F.has]
theorem KeyFn.miss (F : KeyFn f key) (x : α) {l : List α} {vs : List U} (h : vs.length = l.length) : (dicAt (l.map f) vs (key x) = none) ↔ x ∉ l := by
  have q := F.isSome x (l := l) h
  rw [← Option.isNone_iff_eq_none, ← Option.not_isSome]
  rw [q]
  simp
theorem KeyFn.at_ (F : KeyFn f key) (g : α → U) (x : α) : ∀ l : List α, dicAt (l.map f) (l.map g) (key x) = if x ∈ l then some (g x) else none
  | [] => rfl
  | y :: l => by
    show (if nkU (f y) = some (key x) then some (g y) else dicAt (l.map f) (l.map g) (key x)) = _
    by_cases e : y = x
    · rw [if_pos ((F.eq y x).mpr e), e, if_pos List.mem_cons_self]
    · rw [if_neg (fun z => e ((F.eq y x).mp z)), F.at_ g x l]
      have e' : ¬ x = y := fun z => e z.symm
      simp [e']
theorem KeyFn.putKs (F : KeyFn f key) (x : α) (l : List α) : putKs (l.map f) (key x) (f x) = (if x ∈ l then l else l ++ [x]).map f := by
  unfold Vi.putKs
  rw [F.has]
  by_cases h : x ∈ l
  · simp [h]
  · simp [h]
theorem KeyFn.putVs_new (F : KeyFn f key) {x : α} {l : List α} (h : x ∉ l) (vs : List U) (v : U) : putVs (l.map f) vs (key x) v = vs ++ [v] := by
  unfold Vi.putVs
  rw [F.has]
  simp [h]
theorem KeyFn.putV (F : KeyFn f key) (g : α → U) (v : U) (x : α) : ∀ l : List α, putV (l.map f) (l.map g) (key x) v = l.map fun y => if y = x then v else g y
  | [] => rfl
  | y :: l => by
    show (if nkU (f y) = some (key x) then v else g y) :: Vi.putV (l.map f) (l.map g) (key x) v = _
    rw [F.putV g v x l, List.map_cons]
    congr 1
    by_cases e : y = x
    · rw [if_pos ((F.eq y x).mpr e), if_pos e]
    · rw [if_neg (fun z => e ((F.eq y x).mp z)), if_neg e]
theorem KeyFn.putVs_old (F : KeyFn f key) {x : α} {l : List α} (h : x ∈ l) (g : α → U) (v : U) : putVs (l.map f) (l.map g) (key x) v = l.map fun y => if y = x then v else g y := by
  unfold Vi.putVs
  rw [F.has, if_pos (by simp [h]), F.putV]
end
theorem nkUs_map {α : Type} (f : α → U) (g : α → NestedKey) (h : ∀ x, nkU (f x) = some (g x)) : ∀ l : List α, nkUs (l.map f) = some (l.map g)
  | [] => rfl
  | x :: l => by
    rw [List.map_cons, List.map_cons]
    unfold nkUs
    rw [h x, nkUs_map f g h l]
theorem nkU_int (i : Int) : nkU (.int i) = some (.num i) := rfl
theorem nkU_str (x : Str) : nkU (.str x) = some (.text x) := rfl
theorem nkU_bl (b : Bool) : nkU (.bl b) = some (.num (if b = true then 1 else 0)) := rfl
theorem nkU_tup {us : List U} {ks : List NestedKey} (h : nkUs us = some ks) : nkU (.tup us) = some (.tup ks) := by
  show (nkUs us).map NestedKey.tup = _
  rw [h]; rfl
theorem nkUs_cons {u : U} {us : List U} {k : NestedKey} {ks : List NestedKey} (h : nkU u = some k) (t : nkUs us = some ks) : nkUs (u :: us) = some (k :: ks) := by
  unfold nkUs
  rw [h, t]
theorem depthAll_le {n : Nat} : ∀ {l : List NestedKey}, (∀ k ∈ l, k.depth ≤ n) → NestedKey.depthAll l ≤ n
  | [], _ => by unfold NestedKey.depthAll; omega
  | k :: l, h => by
    unfold NestedKey.depthAll
    have h1 := h k List.mem_cons_self
    have h2 := depthAll_le (l := l) fun x hx => h x (List.mem_cons_of_mem _ hx)
    omega
theorem depth_tup {l : List NestedKey} {n : Nat} (h : ∀ k ∈ l, k.depth ≤ n) : (NestedKey.tup l).depth ≤ n + 1 := by
  unfold NestedKey.depth
  have := depthAll_le h
  omega
/-- a list beside the empty one -/
theorem eqU_nil {us : List U} {k : Nat} (h : ∀ u ∈ us, Shp u k) (hk : k < 64) : eqU? (.lst us) (.lst []) = some (decide (us = [])) := by
  obtain ⟨ds, es, g1, g2⟩ := shps h
  show eqD? _ _ = _
  have s1 : SeqAt.shaped (.list ds) = true := by
    have hd : (PyData.list ds).depth ≤ 64 := by
      simp only [PyData.depth]
      omega
    simp [SeqAt.shaped, PyData.canLay0, g1, hd]
  have s2 : SeqAt.shaped (.list []) = true := by decide
  have e1 : toD (.lst us) = some (.list ds) := by simp only [toD, es, Option.map_some]
  unfold eqD?
  rw [e1]
  have e2 : toD (.lst []) = some (.list []) := rfl
  rw [e2]
  simp only [s1, s2, Bool.and_self, if_true]
  cases us with
  | nil =>
    cases es
    rfl
  | cons u us =>
    cases ds with
    | nil =>
      unfold toDs at es
      split at es <;> cases es
    | cons d ds => rfl
/-- where a parameter comes from: the positional values, the lacking ones' values, the keywords' values -/
inductive Sr where
  | p (i : Nat) | m (i : Nat) | k (i : Nat)
def pick {α : Type} (us mv ws : List α) : List Sr → List α
  | [] => []
  | .p i :: l => (us.drop i).take 1 ++ pick us mv ws l
  | .m i :: l => (mv.drop i).take 1 ++ pick us mv ws l
  | .k i :: l => (ws.drop i).take 1 ++ pick us mv ws l
omit [WW] in
theorem pick_rel {vs mz zs : List V} {us mv ws : List Value} (r1 : Vals vs us) (r2 : Vals mz mv) (r3 : Vals zs ws) : ∀ l : List Sr, Vals (pick vs mz zs l) (pick us mv ws l)
  | [] => .nil
  | .p i :: l => Vals.append (Vals.take 1 (Vals.drop i r1)) (pick_rel r1 r2 r3 l)
  | .m i :: l => Vals.append (Vals.take 1 (Vals.drop i r2)) (pick_rel r1 r2 r3 l)
  | .k i :: l => Vals.append (Vals.take 1 (Vals.drop i r3)) (pick_rel r1 r2 r3 l)
end Vi

/-! Vi28: a name's own list is handed over. -/
namespace Vi
open PySem PySem.Spec PyProof.Rows L2
variable [WW]
/-- a name read for the last time: what it owns is handed over -/
@[simp] def uVarO (k : Nat) : UE := fun env h Po _ => match env[k]? with
  | some (some (.val u)) => Po (.val u) env h
  | some (some (.own us)) => Po (.own us) (env.set k none) h
  | some (some (.dic ks us)) => Po (.dic ks us) (env.set k none) h
  | _ => False
section
variable {X : Cx} {L : Lx} {pos : Pos}
theorem Sim.give {K : PySem.W.Frag} {W : Wd} {env : En} {h : Hv} {σ : L2.St} {H : Hp} (S : Sim K W env h σ H) {k : Nat} {sv : Sv} (e : env[k]? = some (some sv)) (hn : ∀ u, sv ≠ .val u) :
    ∃ W' v, Sim K W' (env.set k none) h σ H ∧ LeW W H W' H ∧ σ[k]? = some (some v) ∧ RSv K W' H .tmp sv v := by
  have hk : k < env.length := (List.getElem?_eq_some_iff.mp e).1
  have core : ∀ (a : Addr) (o : HO), W.own a = some (.slot k) → H a = some o → Mut (some o) → LeW W H (W.put a (some .tmp)) H ∧ Sim K (W.put a (some .tmp)) (env.set k none) h σ H := by
    intro a o n ea mu
    have q : At W H a (some .tmp) := .slotO n ea mu
    have l : LeW W H (W.put a (some .tmp)) H := q.le fun _ _ => rfl
    refine ⟨l, ⟨S.sh.step q (fun i z => by rw [n] at z; cases z) (fun _ _ => rfl) ⟨_, ea⟩, by simpa using S.len, fun j sv ej => ?_⟩⟩
    by_cases z : j = k
    · subst z
      rw [List.getElem?_set_self hk] at ej
      cases ej
    · rw [List.getElem?_set_ne (Ne.symm z)] at ej
      obtain ⟨v, e2, r2⟩ := S.slots j sv ej
      refine ⟨v, e2, ?_⟩
      cases sv with
      | val u => exact RV.le l.toLeP r2
      | own us2 =>
        obtain ⟨a2, vs2, rfl, n2, ea2, rv2⟩ := r2
        have ne : a2 ≠ a := fun q => by
          subst q
          rw [n] at n2
          cases n2
          exact z rfl
        exact ⟨a2, vs2, rfl, by rw [Wd.put_ne ne]; exact n2, ea2, rv2.le l.toLeP⟩
      | dic ks2 us2 =>
        obtain ⟨a2, o2, kv2, vv2, rfl, n2, ea2, ds2, r3, r4⟩ := r2
        have ne : a2 ≠ a := fun q => by
          subst q
          rw [n] at n2
          cases n2
          exact z rfl
        exact ⟨a2, o2, kv2, vv2, rfl, by rw [Wd.put_ne ne]; exact n2, ea2, ds2, r3.le l.toLeP, r4.le l.toLeP⟩
  obtain ⟨v, e1, r⟩ := S.slots k _ e
  cases sv with
  | val u => exact absurd rfl (hn u)
  | own us =>
    obtain ⟨a, vs, rfl, n, ea, rv⟩ := r
    obtain ⟨l, S'⟩ := core a _ n ea trivial
    exact ⟨_, _, S', l, e1, a, vs, rfl, Wd.put_same, ea, rv.le l.toLeP⟩
  | dic ks us =>
    obtain ⟨a, o, kv, vv, rfl, n, ea, ds, rk, rv⟩ := r
    obtain ⟨l, S'⟩ := core a o n ea ds.isD.mut
    exact ⟨_, _, S', l, e1, a, o, kv, vv, rfl, Wd.put_same, ea, ds, rk.le l.toLeP, rv.le l.toLeP⟩
theorem we_varO {k : Nat} {x : Str} (h : PE X (.Name x pos) (tVar k)) : WE X L (.Name x pos) (uVarO k) := by
  refine PE.wk h fun σ H Q ⟨W, env, h, Po, Pe, S, ht, c⟩ => ?_
  unfold uVarO at ht
  split at ht
  · rename_i u e
    obtain ⟨v, e1, r⟩ := S.slots k _ e
    exact ⟨v, e1, c.ok W (.val u) env h v H .refl S r ht⟩
  · rename_i us e
    obtain ⟨W', v, S', l, e1, r⟩ := S.give e fun u z => by cases z
    exact ⟨v, e1, c.ok W' _ _ h v H l S' r ht⟩
  · rename_i ks us e
    obtain ⟨W', v, S', l, e1, r⟩ := S.give e fun u z => by cases z
    exact ⟨v, e1, c.ok W' _ _ h v H l S' r ht⟩
  · exact ht.elim
end
end Vi

/-! Vi29: [x for x in d], d a dict that a name owns: d stays the name's own. -/
namespace Vi
open PySem PySem.Spec PyProof.Rows L2
variable [WW]
@[simp] def uKeyL (d v : Nat) : UE := fun env h Po _ => match env[d]? with
  | some (some (.dic ks _)) => ks.length ≤ sizeLine ∧ v < env.length ∧ Po (.own ks) env h
  | _ => False
omit [WW] in
/-- the keys' walk, by places -/
theorem kits_at {d : Addr} {o : HO} {ks : List U} {kv vv : List V} [WW] (ds : DicS d ks kv vv o) : ∃ J, KItS d o J ∧ ∀ (od : Obj) (H : Hp) (i : Nat), H d = some (.frz od o) →
    (kv.length ≤ i → (J od).stop i H) ∧ (∀ y, kv[i]? = some y → (J od).go i H ∧ ∀ x H', (J od).yld i H x H' → H' = H ∧ x = y) := by
  rcases ds with ⟨kvs, rfl, rfl, rfl, rfl⟩ | ⟨xs, hne, hz, hdp, rfl, rfl, rfl, en⟩
  · refine ⟨_, .inl ⟨kvs, rfl, rfl⟩, fun od H i e => ⟨fun hi => ⟨e, by simpa using hi⟩, fun y ey => ?_⟩⟩
    have hi : i < kvs.length := by
      have := (List.getElem?_eq_some_iff.mp ey).1
      simpa using this
    refine ⟨⟨e, hi⟩, fun x H'' ⟨eH, key, v, ek, ex⟩ => ?_⟩
    subst eH ex
    rw [List.getElem?_map, ek] at ey
    cases ey
    exact ⟨rfl, rfl⟩
  · refine ⟨_, .inr ⟨xs, rfl, rfl⟩, fun od H i e => ⟨fun hi => ⟨e, by simpa using hi⟩, fun y ey => ?_⟩⟩
    have hi : i < xs.length := by
      have := (List.getElem?_eq_some_iff.mp ey).1
      simpa using this
    refine ⟨⟨e, hi⟩, fun x H'' ⟨eH, z, ez, ex⟩ => ?_⟩
    subst eH ex
    rw [List.getElem?_map, ez] at ey
    cases ey
    exact ⟨rfl, rfl⟩
section
variable {X : Cx} {L : Lx}
theorem lg_lcKeys {x dn : Str} {p2 p3 : Pos} {d v : Nat} {vs : List Nat} (hd : PE X (.Name dn p3) (tVar d)) (hv : vs = [v]) {σ : L2.St} {H : Hp} {Q : VK} (hq : lg L (RT L) (uKeyL d v) σ H Q) :
    tLockE (tLc (fun σ H R => tVar d σ H fun x H1 => ∃ d o J, x = .ref d ∧ isDO o ∧ KItS d o J ∧ ((H1 d = some o ∧ ∀ od, R (J od) (upd H1 d (.frz od o))) ∨ ∃ od, H1 d = some (.frz od o) ∧ R (J od) H1)) (gName v) tYes (tVar v) vs) σ H Q := by
  obtain ⟨W, env, h, Po, Pe, S, ht, c⟩ := hq
  unfold uKeyL at ht
  split at ht
  · rename_i ks vs e
    obtain ⟨hz, hvl0, ht⟩ := ht
    obtain ⟨w, e1, a, o, kv, vv, rfl, n, ea, ds, rk, rv⟩ := S.slots d _ e
    obtain ⟨J, kj, hJ⟩ := kits_at ds
    have lk : kv.length = ks.length := rk.length.symm
    refine ⟨a, o, ea, ds.isD.mut, fun od => ?_⟩
    refine ⟨_, e1, a, o, J, rfl, ds.isD, kj, .inr ⟨od, upd_same, ?_⟩⟩
    intro D hD
    have nD : D ≠ a := fun z => by rw [z, upd_same] at hD; cases hD
    have hD0 : H D = none := by rw [upd_ne nD] at hD; exact hD
    rw [hv]
    refine ⟨fun i m H' => m = kv.length - i ∧ i ≤ kv.length ∧ H' = upd (upd H a (.frz od o)) D (.lst (kv.take i)), ⟨_, rfl, Nat.zero_le _, by simp⟩, ?_⟩
    rintro i m H' ⟨rfl, hi, rfl⟩
    have ed : (upd (upd H a (.frz od o)) D (.lst (kv.take i))) a = some (.frz od o) := by rw [upd_ne (Ne.symm nD), upd_same]
    by_cases hlt : i < kv.length
    · obtain ⟨go, yl⟩ := (hJ od _ i ed).2 kv[i] (List.getElem?_eq_getElem hlt)
      refine .inr ⟨go, fun H2 => H2 = upd (upd H a (.frz od o)) D (.lst (kv.take (i + 1))), fun H2 z => ⟨kv.length - (i + 1), by omega, rfl, hlt, z⟩, fun y H2 q => ?_⟩
      obtain ⟨rfl, rfl⟩ := yl y H2 q
      have hvl : v < (L2.wipe σ [v]).length := by
        have := S.len
        simp [L2.wipe]
        omega
      refine ⟨(by simp [L2.wipe] : L2.wipe ((L2.wipe σ [v]).set v (some kv[i])) [v] = L2.wipe σ [v]), ?_⟩
      simp only [tYes, if_true, tVar]
      refine ⟨kv[i], List.getElem?_set_self hvl, kv.take i, upd_same, by rw [List.length_take]; omega, ?_⟩
      have : kv.take (i + 1) = kv.take i ++ [kv[i]] := by rw [List.take_add_one, List.getElem?_eq_getElem hlt]; rfl
      rw [this]
      funext b
      by_cases z : b = D
      · subst z; rw [upd_same, upd_same]
      · rw [upd_ne z, upd_ne z, upd_ne z]
    · have ei : i = kv.length := by omega
      subst ei
      refine .inl ⟨(hJ od _ _ ed).1 (Nat.le_refl _), ed, ?_⟩
      rw [List.take_length]
      have eH : upd (upd (upd H a (.frz od o)) D (.lst kv)) a o = upd H D (.lst kv) := by
        funext b
        by_cases z : b = a
        · subst z; rw [upd_same, upd_ne (Ne.symm nD), ea]
        · rw [upd_ne z]
          by_cases z2 : b = D
          · subst z2; rw [upd_same, upd_same]
          · rw [upd_ne z2, upd_ne z2, upd_ne z]
      rw [eH]
      obtain ⟨S2, l2⟩ := S.alloc hD0 (.lst kv) .tmp
      exact c.ok _ (.own ks) env h (.ref D) _ l2 S2 ⟨D, kv, rfl, Wd.put_same, upd_same, rk.le l2.toLeP⟩ ht
  · exact ht.elim
theorem we_lcKeys {x dn : Str} {p1 p2 p3 pos : Pos} {scope : Scope} {own : List (Str × Nat)} {d v : Nat} (hc : X.calm = true) (hN : X.N.Nodup) (hd : PE X (.Name dn p3) (tVar d)) (ok : BlkOk X.N X.env.scope scope own) (hv : own.map (·.2) = [v])
    (hg : ∀ (s : Shared) (H : Hp) (C : Addr) (cl : List (Str × Addr)) (fp : List Addr), PG (X.blk s H scope (compEnvC scope cl C X.env) fp) (.Name x p2) (gName v))
    (he : ∀ (s : Shared) (H : Hp) (C : Addr) (cl : List (Str × Addr)) (fp : List Addr), PE (X.blk s H scope (compEnvC scope cl C X.env) fp) (.Name x p1) (tVar v)) (hs : ∀ y, foldedSetIterable (.Name dn p3) X.env y = pure y := by intro _; rfl) :
    WE X L (.ListComp (.Name x p1) [⟨.Name x p2, .Name dn p3, [], 0⟩] scope pos) (uKeyL d v) :=
  PE.wk (pe_lock (pe_lc hc hN (pi_keysD hd) ok hg (fun _ _ _ _ _ => pts_nil) he hs)) fun _ _ _ h => lg_lcKeys (x := x) (p2 := p2) hd hv h
theorem ps_lcKeysU {i : Nat} {y : Str} {py : Pos} {x dn : Str} {p1 p2 p3 pos spos : Pos} {scope : Scope} {own : List (Str × Nat)} {d v : Nat} (hc : X.calm = true) (hN : X.N.Nodup) (hy : X.N[i]? = some y) (hyl : X.env.scope.names.lookup y = some .local)
    (hsw : swapsWith (.ListComp (.Name x p1) [⟨.Name x p2, .Name dn p3, [], 0⟩] scope pos) (some (.Name y py)) spos.line X.env = pure true) (hd : PE X (.Name dn p3) (tVar d)) (ok : BlkOk X.N X.env.scope scope own) (hv : own.map (·.2) = [v])
    (hg : ∀ (s : Shared) (H : Hp) (C : Addr) (cl : List (Str × Addr)) (fp : List Addr), PG (X.blk s H scope (compEnvC scope cl C X.env) fp) (.Name x p2) (gName v))
    (he : ∀ (s : Shared) (H : Hp) (C : Addr) (cl : List (Str × Addr)) (fp : List Addr), PE (X.blk s H scope (compEnvC scope cl C X.env) fp) (.Name x p1) (tVar v)) (hs : ∀ y, foldedSetIterable (.Name dn p3) X.env y = pure y := by intro _; rfl) :
    PS X (.Assign [.Name y py] (.ListComp (.Name x p1) [⟨.Name x p2, .Name dn p3, [], 0⟩] scope pos) spos) (tAsg (lg L (RT L) (uKeyL d v)) (gName i)) :=
  PS.wk (ps_lock (ps_setLc hc hN hy hyl hsw (pi_keysD hd) ok hg (fun _ _ _ _ _ => pts_nil) he hs)) fun D σ H h => lg_lcKeys (x := x) (p2 := p2) hd hv h
end
end Vi

/-! Vi30: x[::-1] of a list or a tuple. -/
namespace Vi
open PySem PySem.Spec PyProof.Rows L2
variable [WW]
section
open HT
variable {prog : Program} {w : World} {A : Around} {E : Value → Shared → Prop} {s : Shared}
omit [WW] in
theorem adjust_rev (n : Nat) : Builtin.Slice.sliceAdjust none none (-1) (n : Int) = ((n : Int) - 1, -1) := by
  unfold Builtin.Slice.sliceAdjust
  simp
omit [WW] in
theorem places_rev (n : Nat) : Builtin.Slice.slicePlaces ((n : Int) - 1) (-1) (-1) = n := by
  unfold Builtin.Slice.slicePlaces
  have h1 : ¬ ((-1 : Int) > 0) := by decide
  rw [if_neg h1]
  by_cases h : (n : Int) - 1 > -1
  · rw [if_pos h, show (-(-1) : Int) = 1 from rfl, Int.ediv_one]
    omega
  · rw [if_neg h]
    omega
omit [WW] in
theorem fm_congr {α β : Type} {f g : α → Option β} : ∀ {l : List α}, (∀ x ∈ l, f x = g x) → l.filterMap f = l.filterMap g
  | [], _ => rfl
  | x :: l, h => by
    rw [List.filterMap_cons, List.filterMap_cons, h x List.mem_cons_self, fm_congr fun y hy => h y (List.mem_cons_of_mem _ hy)]
omit [WW] in
theorem pick_rev (xs : Array Value) : ((List.range xs.size).filterMap fun (k : Nat) => xs[(((xs.size : Nat) : Int) - 1 + (k : Int) * (-1)).toNat]?).toArray = xs.toList.reverse.toArray := by
  have e : ((List.range xs.size).filterMap fun (k : Nat) => xs[(((xs.size : Nat) : Int) - 1 + (k : Int) * (-1)).toNat]?) = ((List.range xs.size).map fun k => xs.size - 1 - k).filterMap (xs[·]?) := by
    rw [List.filterMap_map]
    refine fm_congr fun k hk => ?_
    have hk' := List.mem_range.mp hk
    have : (((xs.size : Nat) : Int) - 1 + (k : Int) * (-1)).toNat = xs.size - 1 - k := by omega
    rw [this]
    rfl
  rw [e, PySem.W.krv_range, List.filterMap_reverse, PySem.W.krv_all]
omit [WW] in
theorem sliceApplied_rev {sl : Addr} {vl vu vs : Value} {n : Nat} {Q : Int × Int × Nat → Shared → Prop} (hs : s.heap.IsSliceOf sl vl vu vs) (pl : IsPart vl none) (pu : IsPart vu none) (ps : IsPart vs (some (-1)))
    (h : Q ((n : Int) - 1, -1, n) s) : wpAny (model prog w) A (Builtin.Slice.sliceApplied (.ref sl) (pure (n : Int))) Q E s := by
  obtain ⟨os, hos, hcs, hds⟩ := id hs
  unfold Builtin.Slice.sliceApplied Builtin.Slice.sliceFields
  refine wpAny_bind (wpAny_bind (wpAny_field hos hds (x := vl) rfl (wpAny_bind (wpAny_field hos hds (x := vu) rfl (wpAny_bind (wpAny_field hos hds (x := vs) rfl (wpAny_pure ?_)))))))
  refine wpAny_bind (slicePart_ ps ?_)
  show wpAny _ _ (if ((-1 : Int) == 0) = true then _ else _) _ _ s
  rw [if_neg (by decide)]
  refine wpAny_bind (slicePart_ pl (wpAny_bind (slicePart_ pu (wpAny_bind (wpAny_pure ?_)))))
  show wpAny _ _ (match Builtin.Slice.sliceAdjust none none (-1) (n : Int) with | (lo, hi) => pure (lo, (-1 : Int), Builtin.Slice.slicePlaces lo hi (-1))) _ _ s
  rw [adjust_rev n]
  show wpAny _ _ (pure ((n : Int) - 1, (-1 : Int), Builtin.Slice.slicePlaces ((n : Int) - 1) (-1) (-1))) _ _ s
  rw [places_rev]
  exact wpAny_pure h
omit [WW] in
theorem getItem_tuple_rev {t sl : Addr} {items : Array Value} {vl vu vs : Value} {Q : Value → Shared → Prop} (ht : IsTup s.heap t items) (hs : s.heap.IsSliceOf sl vl vu vs) (pl : IsPart vl none) (pu : IsPart vu none) (ps : IsPart vs (some (-1)))
    (h : Q (.ref s.heap.objs.size) { s with heap := s.heap.push { cls := .type "tuple", data := .seq items.toList.reverse.toArray } }) (hsz : items.size ≤ sizeLine) : wpAny (model prog w) A (getItem (.ref t) (.ref sl)) Q E s := by
  have htake : sizeOk (.seq items.toList.reverse.toArray) := by
    show items.toList.reverse.toArray.size ≤ sizeLine
    rw [List.size_toArray, List.length_reverse, Array.length_toList]
    omega
  obtain ⟨os, hos, hcs, hds⟩ := id hs
  have hTs : s.TypeIs (.ref sl) "slice" := ⟨os, hos, hcs⟩
  unfold getItem
  try with_reducible refine wpAny_holding ?_
  first | refine wpAny_bind (wpAny_pure ?_) | skip
  refine wpAny_bind (wpAny_sequenceKey ht.typeIs (by decide) ?_)
  refine wpAny_bind (wpAny_callSpecial?_slot (name := Str.ofString "__getitem__") ht.typeIs PyProof.Rows.slot_tuple_getitem
    (wpAny_call_entry PyProof.Rows.slot_tuple_getitem ht.typeIs entry_tuple_getitem ?_ (args_tuple_getitem _ _)))
  show wpAny _ _ (Builtin.Tuple.tupleItemsOf (.ref t) >>= _) _ _ s
  refine wpAny_bind (tupleItemsOf_ ht ?_)
  refine wpAny_bind (wpAny_typeOf hTs ?_)
  rw [if_pos (by decide)]
  refine wpAny_bind (sliceApplied_rev hs pl pu ps ?_)
  have hno : ¬ ((((items.size : Int) - 1) == 0 && (-1 : Int) == 1 && items.size == items.size) = true) := by
    intro q
    rw [Bool.and_eq_true, Bool.and_eq_true] at q
    exact absurd q.1.2 (by decide)
  show wpAny _ _ (if (((items.size : Int) - 1) == 0 && (-1 : Int) == 1 && items.size == items.size) = true then _ else _) _ _ s
  rw [if_neg hno, pick_rev]
  first
    | exact wpAny_bind (m := Builtin.Tuple.tupleExact _) (wpAny_newObj_type (wpAny_pure ⟨_, rfl, wpAny_pure h⟩) htake)
    | exact wpAny_bind (m := Builtin.Tuple.tupleExact _) (wpAny_newObj_type (wpAny_bind (wpAny_pure (wpAny_pure ⟨_, rfl, wpAny_pure h⟩))) htake)
    | exact wpAny_bind (wpAny_bind (m := Builtin.Tuple.tupleExact _) (wpAny_newObj_type (wpAny_pure (wpAny_pure ⟨_, rfl, wpAny_pure h⟩)) htake))
    | exact wpAny_bind (wpAny_bind (m := Builtin.Tuple.tupleExact _) (wpAny_newObj_type (wpAny_pure ⟨_, rfl, wpAny_pure h⟩) htake))
end
section
variable {X : Cx} {L : Lx}
def tRevT (K : PySem.W.Frag) (te : TE) : TE := fun σ H Q => te σ H fun x H1 => (∃ a xs, x = .ref a ∧ SqL K H1 a xs ∧ ∀ p, H1 p = none → Q (.ref p) (upd H1 p (.lst xs.reverse))) ∨
  ∃ a xs, x = .ref a ∧ SqT K H1 a xs ∧ NewT H1 Q xs.reverse
theorem pe_revT {e : Expr} {te : TE} {k : Nat} {p1 p2 p3 pos : Pos} (he : PE X e te) : PE X (.Subscript e (.Slice none none (some (.UnaryOp .USub (.Constant (.int 1) k p1) p2)) p3) pos) (tRevT X.K te) := by
  refine ⟨fun pins s σ H Q I h => ?_⟩
  refine Subscript_ (thn (he.run pins s σ H _ I h) fun v s1 ⟨x, H1, I1, r1, q1⟩ => ?_)
  have hst : PO X (some (.UnaryOp .USub (.Constant (.int 1) k p1) p2)) (tPart (tUn (rU fun i => .int (-i)) (tC (.int 1)))) := po_some (pe_un un_neg pe_int)
  refine wpAny_Slice (thn (po_none.run pins s1 σ H1 (fun o H2 => o = none ∧ H2 = H1) I1 ⟨rfl, rfl⟩) fun vl s2 ⟨l, H2, I2, pl, el, e2⟩ => ?_)
  subst el e2
  refine thn (po_none.run pins s2 σ H2 (fun o H3 => o = none ∧ H3 = H2) I2 ⟨rfl, rfl⟩) fun vu s3 ⟨u, H3, I3, pu, eu, e3⟩ => ?_
  subst eu e3
  refine thn (hst.run pins s3 σ H3 (fun o H4 => o = some (-1) ∧ H4 = H3) I3 ⟨1, rfl, -1, rfl, rfl, rfl⟩) fun vs s4 ⟨o, H4, I4, ps, eo, e4⟩ => ?_
  subst eo e4
  have I5 : L2.Inv X pins σ H4 { s4 with heap := s4.heap.push { cls := .type "slice", data := .fields #[vl, vu, vs] } } := I4.kept (t' := s4.toks) fun b ob q => Heap.get?_push_of_some _ q
  rcases q1 with ⟨a, xs, ex, hx, q⟩ | ⟨a, xs, ex, hx, q⟩
  · subst ex
    cases r1
    obtain ⟨its, r, ht, hz⟩ := I5.list hx
    have hlen := r.length
    show wpAny (model X.prog X.w) X.A (subscriptTail e (.Slice none none (some (.UnaryOp .USub (.Constant (.int 1) k p1) p2)) p3) (.ref a) (.ref s4.heap.objs.size)) (EP X pins σ Q) X.xe { s4 with heap := s4.heap.push { cls := .type "slice", data := .fields #[vl, vu, vs] } }
    refine tail_any (ops := [.ref a, .ref s4.heap.objs.size]) ht.isList.typeIs (PySem.slot_list_getitem.lookup) ?_ (by with_unfolding_all rfl)
    refine wpAny_getItem_list_slice ht.isList (Heap.IsSliceOf.new _ vl vu vs) pl pu ps (by decide) ?_ (by rw [List.size_toArray]; omega)
    rw [PySem.W.krv_pick]
    refine ⟨.ref _, _, I5.laid (t' := s4.toks) (o := .lst xs.reverse) (fun b ob q => Heap.get?_push_of_some _ q) (Nat.le_refl _) ?_, rfl, q _ (I5.hok.fresh (Nat.le_refl _))⟩
    exact ⟨by rw [List.length_reverse]; exact hz, _, 0, r.reverse, Heap.get?_push_size _ rfl⟩
  · subst ex
    cases r1
    obtain ⟨its, r, ht, hz⟩ := I5.tuple hx
    have hlen := r.length
    show wpAny (model X.prog X.w) X.A (subscriptTail e (.Slice none none (some (.UnaryOp .USub (.Constant (.int 1) k p1) p2)) p3) (.ref a) (.ref s4.heap.objs.size)) (EP X pins σ Q) X.xe { s4 with heap := s4.heap.push { cls := .type "slice", data := .fields #[vl, vu, vs] } }
    refine tail_any (ops := [.ref a, .ref s4.heap.objs.size]) ht.typeIs (PyProof.Rows.slot_tuple_getitem.lookup) ?_ (by with_unfolding_all rfl)
    refine getItem_tuple_rev ht (Heap.IsSliceOf.new _ vl vu vs) pl pu ps ?_ (by rw [List.size_toArray]; omega)
    exact laidT I5 (t' := s4.toks) (by rw [List.length_reverse]; exact hz) r.reverse q
@[simp] def uRev (t : UE) : UE := fun env h Po Pe => t env h (fun sv env1 h1 => match sv.u with
  | .lst us => Po (.own us.reverse) env1 h1
  | .tup us => Po (.val (.tup us.reverse)) env1 h1
  | _ => False) Pe
theorem we_rev {e : Expr} {t : UE} {k : Nat} {p1 p2 p3 pos : Pos} (hK : L.K = X.K) (he : WE X L e t) : WE X L (.Subscript e (.Slice none none (some (.UnaryOp .USub (.Constant (.int 1) k p1) p2)) p3) pos) (uRev t) := by
  refine PE.wk (pe_revT he) fun σ H Q ⟨W, env, h, Po, Pe, S, ht, c⟩ => ?_
  refine ⟨W, env, h, _, _, S, ht, ⟨fun W1 x env1 h1 v1 H1 l1 S1 r1 q1 => ?_, c.er⟩⟩
  obtain ⟨W1', S1', l1', rv1⟩ := S1.freeze r1
  have c1 := c.le (l1.trans l1')
  generalize x.u = u at q1 rv1
  split at q1
  · rename_i us
    cases rv1 with
    | lst n e r =>
      refine .inl ⟨_, _, rfl, .inl (.inl e), fun p hp => ?_⟩
      obtain ⟨S2, l2⟩ := S1'.alloc hp (.lst _) .tmp
      exact c1.ok _ (.own us.reverse) env1 h1 _ _ l2 S2 ⟨p, _, rfl, Wd.put_same, upd_same, r.reverse.le l2.toLeP⟩ q1
  · rename_i us
    cases rv1 with
    | tup hq r =>
      rename_i a vs
      refine .inr ⟨a, vs, rfl, hK ▸ hq.sq, fun p ob hp hd => ?_⟩
      have l2 := LeW.none_ S1'.sh hp (.frz ob (.tup vs.reverse))
      exact c1.ok _ (.val (.tup us.reverse)) env1 h1 _ _ l2 (S1'.none_ hp _) (.tup (.inl ⟨ob, hd, upd_same⟩) (r.reverse.le l2.toLeP)) q1
  · exact q1.elim
end
end Vi

/-! Vi31: t.index(x) of a tuple of texts, [..].index(x), s.upper(). -/
namespace Vi
open PySem PySem.Spec PyProof.Rows L2
variable [WW]
section
variable {X : Cx} {L : Lx} {o e : Expr} {to : TE} {t : TA} {apos cpos : Pos} {id : String} {name : Str} {r : V → List V → Hp → VK → Prop}
/-- what a tuple's method asks -/
def tBMT (K : PySem.W.Frag) (r : V → List V → Hp → VK → Prop) (to : TE) (t : TA) : TE := fun σ H Q => to σ H fun x H1 => (∃ a vs, x = .ref a ∧ TupS K H1 a vs) ∧ t σ H1 fun vs H2 => r x vs H2 Q
/-- a method of a tuple, one argument -/
theorem pe_bmT (slot : Slot "tuple" name id) (hty : typeOf (.builtin id) = pure (.type "method_descriptor")) (hm : MtR X id r) (ho : PE X o to) (ha : PA X [e] t)
    (hbase : attributeBase o name X.env (eval o X.env) = eval o X.env := by rfl)
    (hfew : ((backTo cpos (starEach [e] X.env)).all (fun x => !x.1) && (backToKw cpos (keywordEach [] X.env)).all (fun x => x.1.isSome) && decide ([e].length + ([] : List Keyword).length + (if ([] : List Keyword).isEmpty then 0 else 1) < 30)) = true := by rfl)
    (hline : (apos.endLine == cpos.line) = true := by rfl) (hs : starEach [e] X.env = (false, eval e X.env) :: starEach [] X.env := by rfl) (hplain : (backTo cpos (starEach [] X.env)).any (·.1) = false := by rfl) :
    PE X (.Call (.Attribute o name apos) [e] [] cpos) (tBMT X.K r to t) := by
  constructor
  intro pins s σ H Q I h
  refine wpAny_Call_method_late hbase hfew hline rfl (thn (ho.run pins s σ H _ I h) fun v s1 ⟨x, H1, I1, r1, ⟨a, vs, ex, tp⟩, q1⟩ => ?_)
  subst ex
  obtain rfl : v = Value.ref a := r1
  obtain ⟨g1, g2⟩ := tp.plain I1
  refine ⟨"tuple", id, PySem.F.plainAttrs_tuple, slot, hty, g1, fun b z => (by cases z; exact g2), ?_⟩
  have hA := ha.run cpos pins s1 σ H1 _ I1 q1
  rw [hs] at hA ⊢
  exact Calls.callWith_builtin (by show (false || (backTo cpos (starEach [] X.env)).any (·.1)) = false; rw [hplain]; rfl) (Calls.evalArgs_plain (thn hA fun us s2 ⟨ws, H2, I2, r2, q2⟩ => hm pins s2 σ H2 (.ref a) ws (.ref a) us Q I2 rfl r2 q2))
/-- x.index(e), x a name of a tuple of texts -/
@[simp] def uIdxT (k : Nat) (r : UA) : UE := fun env h Po Pe => ∃ us ys, env[k]? = some (some (.val (.tup us))) ∧ allStr us = some ys ∧ r env h (fun args env1 h1 => match args with
  | [.str z] => ∃ j, ys[j]? = some z ∧ (∀ m, m < j → ys[m]? ≠ some z) ∧ Po (.val (.int (j : Nat))) env1 h1
  | _ => False) Pe
theorem we_idxT {k : Nat} {x : Str} {p : Pos} {ua : UA} (hK : L.K = X.K) (hx : PE X (.Name x p) (tVar k)) (hA : WA X L [e] ua)
    (hbase : attributeBase (.Name x p) "index" X.env (eval (.Name x p) X.env) = eval (.Name x p) X.env := by rfl)
    (hfew : ((backTo cpos (starEach [e] X.env)).all (fun x => !x.1) && (backToKw cpos (keywordEach [] X.env)).all (fun x => x.1.isSome) && decide ([e].length + ([] : List Keyword).length + (if ([] : List Keyword).isEmpty then 0 else 1) < 30)) = true := by rfl)
    (hline : (apos.endLine == cpos.line) = true := by rfl) (hs : starEach [e] X.env = (false, eval e X.env) :: starEach [] X.env := by rfl) (hplain : (backTo cpos (starEach [] X.env)).any (·.1) = false := by rfl) :
    WE X L (.Call (.Attribute (.Name x p) "index" apos) [e] [] cpos) (uIdxT k ua) := by
  refine PE.wk (pe_bmT PySem.F.slot_tuple_index PySem.F.type_tuple_index mt_tup_index hx hA hbase hfew hline hs hplain) fun σ H Q ⟨W, env, h, Po, Pe, S, ⟨us, ys, e0, ef, ht⟩, c⟩ => ?_
  obtain ⟨v, ev, rv⟩ := S.slots k _ e0
  have rv' : RV L.K W H (.tup us) v := rv
  cases rv' with
  | @tup _ a vs hq rs =>
    have e1 := rs.strs ef
    subst e1
    refine ⟨_, ev, ⟨a, _, rfl, hK ▸ hq⟩, W, env, h, _, _, S, ht, ⟨fun W1 args env1 h1 avs H1 l1 S1 r1 q1 => ?_, c.er⟩⟩
    split at q1
    · rename_i z
      obtain ⟨y, rfl, ry⟩ := RVs.one r1
      cases ry.str_
      obtain ⟨j, g1, g2, g3⟩ := q1
      exact ⟨a, ys, z, j, rfl, rfl, hK ▸ (hq.le l1.toLeP).sq, g1, g2, c.ok W1 (.val (.int j)) env1 h1 _ H1 l1 S1 (.int _) g3⟩
    · exact q1.elim
/-- [..].index(e) -/
@[simp] def uIdxG (t : UE) (r : UA) : UE := fun env h Po Pe => t env h (fun sv env0 h0 => match sv.u with
  | .lst us => ∃ vs, flatUs us = some vs ∧ r env0 h0 (fun args env1 h1 => match args with
    | [u] => ∃ v j z, flatU u = some v ∧ vs[j]? = some z ∧ eqV z v = true ∧ (∀ (m : Nat) (z' : V), m < j → vs[m]? = some z' → eqV z' v = false) ∧ Po (.val (.int (j : Nat))) env1 h1
    | _ => False) Pe
  | _ => False) Pe
theorem we_idxG {tt : UE} {ua : UA} (hK : L.K = X.K) (ho : WE X L o tt) (hA : WA X L [e] ua)
    (hbase : attributeBase o "index" X.env (eval o X.env) = eval o X.env := by rfl)
    (hfew : ((backTo cpos (starEach [e] X.env)).all (fun x => !x.1) && (backToKw cpos (keywordEach [] X.env)).all (fun x => x.1.isSome) && decide ([e].length + ([] : List Keyword).length + (if ([] : List Keyword).isEmpty then 0 else 1) < 30)) = true := by rfl)
    (hline : (apos.endLine == cpos.line) = true := by rfl) (hs : starEach [e] X.env = (false, eval e X.env) :: starEach [] X.env := by rfl) (hplain : (backTo cpos (starEach [] X.env)).any (·.1) = false := by rfl) :
    WE X L (.Call (.Attribute o "index" apos) [e] [] cpos) (uIdxG tt ua) := by
  refine PE.wk (pe_bm PySem.F.plainAttrs_list PySem.F.slot_list_index PySem.F.type_list_index mt_index ho hA hbase hfew hline hs hplain) fun σ H Q ⟨W, env, h, Po, Pe, S, ht, c⟩ => ?_
  refine ⟨W, env, h, _, _, S, ht, ⟨fun W0 sv env0 h0 v0 H0 l0 S0 r0 q0 => ?_, c.er⟩⟩
  obtain ⟨W1, S1, l1, rv⟩ := S0.freeze r0
  have c1 := c.le (l0.trans l1)
  generalize sv.u = u at q0 rv
  split at q0
  · rename_i us
    obtain ⟨vs, ef, q0⟩ := q0
    cases rv with
    | @lst _ a ws n ea rs =>
      obtain ⟨e1, e2⟩ := rs.flat ef
      subst e1
      refine ⟨.inl ⟨rfl, ws, .inl (.inl ea)⟩, W1, env0, h0, _, _, S1, q0, ⟨fun W2 args env2 h2 avs H2 l2 S2 r2 q2 => ?_, c1.er⟩⟩
      split at q2
      · obtain ⟨y, rfl, ry⟩ := RVs.one r2
        obtain ⟨vv, j, z, f1, f2, f3, f4, f5⟩ := q2
        obtain ⟨g1, g2⟩ := ry.flat f1
        subst g1
        exact ⟨a, ws, y, j, z, rfl, rfl, .inl (.inl (l2.toLeP.frl ea n).2), g2, e2, f2, f3, f4, c1.ok W2 (.val (.int j)) env2 h2 _ H2 l2 S2 (.int _) f5⟩
      · exact q2.elim
  · exact q0.elim
/-- f() -/
theorem pe_callG0 {k : Nat} {f : Addr} {fd : FuncData} {sp : Sp} {E : L2.St → XK} {x : Str} {p pos : Pos} (F : FnG X.prog X.w X.K X.mg X.base k f fd [] sp) (hr : Room k X.A) (hgd : X.A.guards = some []) (hg : Gl X x) (hm : X.mg x = some (.ref f)) (hk : PySem.W.keepIn X.K (.ref f) = true) (hb : L2.Binds X.K fd [] [])
    (hx : ∀ σ, PassesAt (L2.CX X.prog X.w) X σ (E σ)) (hdb : (x == ("__debug__" : Str)) = false := by decide) : PE X (.Call (.Name x p) [] [] pos) (fun σ H Q => sp [] H Q (E σ)) := by
  constructor
  intro pins s σ H Q I h
  apply wpAny_Call_Name_kw
  apply ld_glob I hg hm _ hdb
  refine PySem.W.callWith_K0 I.kIn hk (wpAny_call (codeAny_mono (run_fnG (all := []) F hr hgd (hx σ) I (fun hl => hb s [] I.kIn hl) .nil h) fun res s2 q2 => ?_))
  match res, q2 with
  | .error e, q2 => exact q2
  | .ok (.ret u), q2 => exact q2
  | .ok .next, q2 => exact q2.elim
  | .ok .brk, q2 => exact q2.elim
  | .ok .cont, q2 => exact q2.elim
theorem we_call0 {k : Nat} {fa : Addr} {fd : FuncData} {f : FS} {x : Str} {p pos : Pos} (F : FnG X.prog X.w X.K X.mg X.base k fa fd [] (spF L.K L.ga 0 f)) (hr : Room k X.A) (hgd : X.A.guards = some []) (hg : Gl X x) (hm : X.mg x = some (.ref fa))
    (hk : PySem.W.keepIn X.K (.ref fa) = true) (hb : L2.Binds X.K fd [] []) (tk : Takes X L.wx) (hdb : (x == ("__debug__" : Str)) = false := by decide) : WE X L (.Call (.Name x p) [] [] pos) (uCall 0 f [] uNil) :=
  PE.wk (pe_callG0 (E := fun σ cls d H => L.wx cls d σ H) F hr hgd hg hm hk hb (fun σ => passAt tk σ) hdb) fun σ H Q ⟨W, env, h, Po, Pe, S, ht, c⟩ => sp_of S .nil rfl ht.2 c
/-- a, b = x, y, b's list its own -/
@[simp] def uPar2O (i j : Nat) (t1 t2 : UE) : US := fun env h P => t1 env h (fun x env1 h1 => t2 env1 h1 (fun y env2 h2 => i < env2.length ∧ j < env2.length ∧ P.nx ((env2.set i (some (.val x.u))).set j (some y)) h2) P.er) P.er
theorem ws_par2O {i j : Nat} {s : Stmt} {t1 t2 : UE} (hp : PS X s (tPar i j (tCons (lg L (RT L) t1) (tCons (lg L (RT L) t2) tNil)))) : WS X L s (uPar2O i j t1 t2) := by
  refine PS.wk hp fun D σ H ⟨W, env, h, P, S, ht, c⟩ => ?_
  refine ⟨W, env, h, _, _, S, ht, ⟨fun W1 x env1 h1 v1 H1 l1 S1 r1 q1 => ?_, c.ret.er⟩⟩
  obtain ⟨W1', S1', l1', rv1⟩ := S1.freeze r1
  have c1 := c.le (l1.trans l1')
  refine ⟨W1', env1, h1, _, _, S1', q1, ⟨fun W2 y env2 h2 v2 H2 l2 S2 r2 q2 => ?_, c1.ret.er⟩⟩
  have S3 := S2.store q2.1 (rv1.le l2.toLeP)
  have hj : j < (env2.set i (some (.val x.u))).length := by simpa using q2.2.1
  refine ⟨v1, v2, rfl, ?_⟩
  cases y with
  | val u => exact c1.nx W2 _ h2 _ H2 l2 (S3.store hj r2) q2.2.2
  | own us =>
    obtain ⟨W3, S4, l3⟩ := S3.storeO hj r2
    exact c1.nx W3 _ h2 _ H2 (l2.trans l3) S4 q2.2.2
  | dic ks us =>
    obtain ⟨W3, S4, l3⟩ := S3.storeD hj r2
    exact c1.nx W3 _ h2 _ H2 (l2.trans l3) S4 q2.2.2
/-- s.upper() -/
@[simp] def uUpper (t : UE) : UE := fun env h Po Pe => t env h (fun sv env1 h1 => match sv.u with
  | .str a => a.length ≤ 5592405 ∧ Po (.val (.str (Txt.upper a))) env1 h1
  | _ => False) Pe
theorem we_upper {tt : UE} (ho : WE X L o tt) (hbase : attributeBase o "upper" X.env (eval o X.env) = eval o X.env := by rfl) (hline : (apos.endLine == cpos.line) = true := by rfl) :
    WE X L (.Call (.Attribute o "upper" apos) [] [] cpos) (uUpper tt) := by
  refine PE.wk (pe_upper ho hbase hline) fun σ H Q ⟨W, env, h, Po, Pe, S, ht, c⟩ => ?_
  refine ⟨W, env, h, _, _, S, ht, ⟨fun W0 sv env0 h0 v0 H0 l0 S0 r0 q0 => ?_, c.er⟩⟩
  obtain ⟨W1, S1, l1, rv⟩ := S0.freeze r0
  generalize sv.u = u at q0 rv
  split at q0
  · cases rv
    exact ⟨⟨_, rfl⟩, _, rfl, rfl, q0.1, c.ok W1 (.val (.str _)) env0 h0 _ H0 (l0.trans l1) S1 (RV.str _) q0.2⟩
  · exact q0.elim
/-- an own list handed on as an argument that the callee changes -/
@[simp] def uShr (t : UE) : UE := fun env h Po Pe => t env h (fun sv env1 h1 => match sv with
  | .own us => Po (.val (.ref h1.length)) env1 (h1 ++ [.lst us])
  | _ => False) Pe
theorem we_shr {e : Expr} {t : UE} (he : WE X L e t) : WE X L e (uShr t) := by
  refine PE.wk he fun σ H Q ⟨W, env, h, Po, Pe, S, ht, c⟩ => ?_
  refine ⟨W, env, h, _, _, S, ht, ⟨fun W1 sv env1 h1 y H1 l1 S1 r1 q1 => ?_, c.er⟩⟩
  cases sv with
  | val u => exact q1.elim
  | dic _ _ => exact q1.elim
  | own us =>
    obtain ⟨W2, S2, l2, r2⟩ := S1.share r1
    exact c.ok W2 (.val (.ref h1.length)) env1 _ y H1 (l1.trans l2) S2 r2 q1
end
end Vi

/-! VT1: states and moves of one watched byte, as plain data; what can be come to; a search in breadth. -/
namespace Vi.T
inductive Stp where | fill | read | clean | drop | flush | guard | lend | take
  deriving DecidableEq
inductive Ph where | free | lent | back
  deriving DecidableEq
inductive Cp where | absent | clean | dirty
  deriving DecidableEq
structure Q where
  c : Cp
  f : Bool
  k : Bool
  deriving DecidableEq
structure St where
  i0 : Nat
  i1 : Nat
  i2 : Nat
  i3 : Nat
  ph : List Ph
  q : Q
  deriving DecidableEq
inductive Wrd where | post | reap | fetch | forget | store | give | get | write | read | stain | peek
  deriving DecidableEq
inductive Kd where | no | touch | unsent | stale | lost | hurt
  deriving DecidableEq
inductive Wy where | in_ | out | both
  deriving DecidableEq
structure Hw where
  fe : Bool
  fo : Bool
  st : Bool
  deriving DecidableEq
structure Mv where
  w : Wrd
  s : St
  k : Kd
  deriving DecidableEq
/-- a driver, a pattern, a watch (none: others), hardware -/
structure Cf where
  way : Wy
  p : List Stp
  r : List Stp
  a : Nat
  b : Nat
  wt : Option Nat
  hw : Hw
  deriving DecidableEq
def fetched (q : Q) : Q := if q.c = .absent then ⟨.clean, q.k, q.k⟩ else q
def stored (q : Q) : Q := if q.c = .dirty then ⟨.clean, q.f, q.f⟩ else q
def dropped (q : Q) : Q := ⟨.absent, false, q.k⟩
def written (q : Q) (w : Bool) : Q := if w then ⟨.dirty, true, false⟩ else ⟨.dirty, (fetched q).f, (fetched q).k⟩
/-- clean, drop, flush, guard; g: guard is drop here -/
def synced (x : Stp) (g : Bool) (q : Q) : Q :=
  let y := if x = .guard then (if g then Stp.drop else .flush) else x
  let q1 := if y = .drop then q else stored q
  if y = .clean then q1 else dropped q1
def stepC (x : Stp) (g w : Bool) (ph : Ph) (q : Q) : Ph × Q × Kd :=
  match x with
  | .lend => (.lent, q, .no)
  | .take => (.back, q, .no)
  | .fill => (ph, written q w, if ph = .lent then .touch else .no)
  | .read => (ph, fetched q, if ph = .lent then .touch else if (!w || (fetched q).f) = true then .no else if (fetched q).k = true then .stale else .lost)
  | x => (ph, synced x g q, .no)
def mkC (c : Bool) (x : Wrd) (s : St) (k : Kd) : List Mv := if c = true then [⟨x, s, k⟩] else []
def Cf.g (C : Cf) : Bool := decide (C.a = 1 ∧ C.b = 0)
def withC (l : List Ph) (i : Nat) (x : Ph) : List Ph := l.take i ++ x :: l.drop (i + 1)
def phA (s : St) (i : Nat) : Ph := s.ph.getD i .free
def postC (C : Cf) (s : St) : List Mv :=
  let z := stepC (C.p.getD s.i1 .lend) C.g (decide (C.wt = some s.i0)) (phA s s.i0) s.q
  mkC (decide (0 < s.i1) || decide (phA s s.i0 = .free)) .post ⟨if s.i1 + 1 = C.p.length then C.a - 1 - s.i0 else s.i0, if s.i1 + 1 = C.p.length then 0 else s.i1 + 1, s.i2, s.i3, withC s.ph s.i0 z.1, z.2.1⟩ z.2.2
def reapC (C : Cf) (s : St) : List Mv :=
  let z := stepC (C.r.getD s.i3 .take) C.g (decide (C.wt = some s.i2)) (phA s s.i2) s.q
  mkC (decide (0 < s.i3) || decide (phA s s.i2 = .lent)) .reap ⟨s.i0, s.i1, if s.i3 + 1 = C.r.length then C.a - 1 - s.i2 else s.i2, if s.i3 + 1 = C.r.length then 0 else s.i3 + 1, withC s.ph s.i2 (if s.i3 + 1 = C.r.length then .free else z.1), z.2.1⟩ z.2.2
def unaskedC (C : Cf) (s : St) : List Mv :=
  mkC (C.hw.fe && decide (s.q.c = .absent)) .fetch { s with q := fetched s.q } .no ++
  (mkC (C.hw.fo && decide (s.q.c = .clean)) .forget { s with q := dropped s.q } .no ++
  mkC (C.hw.st && decide (s.q.c = .dirty)) .store { s with q := stored s.q } .no)
def lentC (C : Cf) (s : St) : Bool := match C.wt with
  | some i => decide (phA s i = .lent)
  | none => false
def byteC (C : Cf) (s : St) : List Mv :=
  mkC (lentC C s && !decide (C.way = .out)) .give { s with q := ⟨s.q.c, false, true⟩ } .no ++
  (mkC (lentC C s && !decide (C.way = .in_)) .get s (if s.q.k = true then .no else .unsent) ++
  (mkC C.wt.isNone .write { s with q := written s.q true } .no ++
  (mkC C.wt.isNone .read { s with q := fetched s.q } (if (fetched s.q).f = true then .no else .hurt) ++
  (mkC (decide (C.b = 2) || (decide (C.b = 1) && !C.wt.isNone)) .stain { s with q := written s.q false } .no ++
  mkC (decide (C.b = 2) || (decide (C.b = 1) && !C.wt.isNone)) .peek { s with q := fetched s.q } .no))))
def moves (C : Cf) (s : St) : List Mv := (postC C s ++ reapC C s) ++ (unaskedC C s ++ byteC C s)
def start (C : Cf) : St := ⟨0, 0, 0, 0, List.replicate C.a .free, ⟨.absent, false, true⟩⟩
/-- a state of the line -/
structure Ok (C : Cf) (s : St) : Prop where
  a0 : s.i0 < C.a
  a1 : s.i1 < C.p.length
  a2 : s.i2 < C.a
  a3 : s.i3 < C.r.length
  pl : s.ph.length = C.a
  pq : s.q.c = .absent → s.q.f = false
/-- a configuration within the limits -/
structure CfOk (C : Cf) : Prop where
  a0 : 1 ≤ C.a
  a2 : C.a ≤ 2
  b2 : C.b ≤ 2
  p0 : 1 ≤ C.p.length
  p1 : C.p.length ≤ 10
  r0 : 1 ≤ C.r.length
  r1 : C.r.length ≤ 10
  w : ∀ i, C.wt = some i → i < C.a
  wn : C.wt = none → 0 < C.b
inductive Reach (C : Cf) : St → Prop
  | start : Reach C (start C)
  | step {s : St} {m : Mv} : Reach C s → m ∈ moves C s → Reach C m.s
theorem mem_mkC {c : Bool} {x : Wrd} {s : St} {k : Kd} {m : Mv} : m ∈ mkC c x s k ↔ c = true ∧ m = ⟨x, s, k⟩ := by
  unfold mkC
  split
  · simp_all
  · simp_all
theorem fetched_ok {q : Q} (h : q.c = .absent → q.f = false) : (fetched q).c = .absent → (fetched q).f = false := by
  unfold fetched
  split
  · intro z; cases z
  · exact h
theorem stored_ok {q : Q} (h : q.c = .absent → q.f = false) : (stored q).c = .absent → (stored q).f = false := by
  unfold stored
  split
  · intro z; cases z
  · exact h
theorem written_ok (q : Q) (w : Bool) : (written q w).c = .absent → (written q w).f = false := by
  unfold written
  split <;> (intro z; cases z)
theorem synced_ok {x : Stp} {g : Bool} {q : Q} (h : q.c = .absent → q.f = false) : (synced x g q).c = .absent → (synced x g q).f = false := by
  simp only [synced]
  generalize (if x = .guard then (if g then Stp.drop else .flush) else x) = y
  by_cases e : y = .clean
  · rw [if_pos e, e]
    exact stored_ok h
  · rw [if_neg e]
    intro _; rfl
theorem stepC_ok {x : Stp} {g w : Bool} {ph : Ph} {q : Q} (h : q.c = .absent → q.f = false) : (stepC x g w ph q).2.1.c = .absent → (stepC x g w ph q).2.1.f = false := by
  cases x
  · exact written_ok q w
  · exact fetched_ok h
  · exact synced_ok h
  · exact synced_ok h
  · exact synced_ok h
  · exact synced_ok h
  · exact h
  · exact h
theorem withC_len {l : List Ph} {i : Nat} {x : Ph} (h : i < l.length) : (withC l i x).length = l.length := by
  simp [withC]; omega
theorem Ok.moves {C : Cf} {s : St} (O : Ok C s) : ∀ m ∈ moves C s, Ok C m.s := by
  have a0 := O.a0
  have a1 := O.a1
  have a2 := O.a2
  have a3 := O.a3
  have pl := O.pl
  have K : ∀ {c x k} {q : Q}, (q.c = .absent → q.f = false) → ∀ m ∈ mkC c x { s with q := q } k, Ok C m.s := by
    intro c x k q hq m hm
    obtain ⟨_, rfl⟩ := mem_mkC.mp hm
    exact ⟨a0, a1, a2, a3, pl, hq⟩
  intro m hm
  simp only [T.moves, List.mem_append] at hm
  rcases hm with (hm | hm) | hm | hm
  · obtain ⟨_, rfl⟩ := mem_mkC.mp hm
    refine ⟨?_, ?_, a2, a3, ?_, stepC_ok O.pq⟩
    · dsimp only; split <;> omega
    · dsimp only; split <;> omega
    · dsimp only; rw [withC_len (by omega)]; exact pl
  · obtain ⟨_, rfl⟩ := mem_mkC.mp hm
    refine ⟨a0, a1, ?_, ?_, ?_, stepC_ok O.pq⟩
    · dsimp only; split <;> omega
    · dsimp only; split <;> omega
    · dsimp only; rw [withC_len (by omega)]; exact pl
  · simp only [unaskedC, List.mem_append] at hm
    rcases hm with hm | hm | hm
    · exact K (fetched_ok O.pq) m hm
    · exact K (fun _ => rfl) m hm
    · exact K (stored_ok O.pq) m hm
  · simp only [byteC, List.mem_append] at hm
    rcases hm with hm | hm | hm | hm | hm | hm
    · exact K (fun _ => rfl) m hm
    · obtain ⟨_, rfl⟩ := mem_mkC.mp hm; exact O
    · exact K (written_ok _ _) m hm
    · exact K (fetched_ok O.pq) m hm
    · exact K (written_ok _ _) m hm
    · exact K (fetched_ok O.pq) m hm
theorem start_ok {C : Cf} (h : CfOk C) : Ok C (start C) := ⟨h.a0, h.p0, h.a0, h.r0, by simp [start], fun _ => rfl⟩
theorem Reach.ok {C : Cf} (h : CfOk C) {s : St} (r : Reach C s) : Ok C s := by
  induction r with
  | start => exact start_ok h
  | step _ hm ih => exact ih.moves _ hm
/-! ### finitely many -/
def ph1 : Ph → Nat
  | .free => 0
  | .lent => 1
  | .back => 2
def phC : List Ph → Nat
  | [] => 0
  | x :: l => ph1 x + 3 * phC l
def cpC : Cp → Nat
  | .absent => 0
  | .clean => 1
  | .dirty => 2
def code (s : St) : Nat := ((((s.i0 * 16 + s.i1) * 2 + s.i2) * 16 + s.i3) * 9 + phC s.ph) * 12 + (cpC s.q.c * 4 + (if s.q.f then 2 else 0) + (if s.q.k then 1 else 0))
theorem phC_lt : ∀ {l : List Ph} {n : Nat}, l.length = n → phC l < 3 ^ n
  | [], 0, _ => by decide
  | x :: l, n + 1, e => by
    have h := phC_lt (l := l) (n := n) (by simpa using e)
    have hx : ph1 x ≤ 2 := by cases x <;> decide
    show ph1 x + 3 * phC l < 3 ^ (n + 1)
    rw [Nat.pow_succ]
    omega
theorem phC_inj : ∀ {l m : List Ph}, l.length = m.length → phC l = phC m → l = m
  | [], [], _, _ => rfl
  | x :: l, y :: m, e, h => by
    simp only [phC] at h
    have e1 : l.length = m.length := by simpa using e
    have hx : ph1 x ≤ 2 := by cases x <;> decide
    have hy : ph1 y ≤ 2 := by cases y <;> decide
    have h2 : ph1 x = ph1 y := by omega
    have h3 := phC_inj e1 (by omega)
    rw [h3]
    congr 1
    cases x <;> cases y <;> first | rfl | cases h2
theorem code_lt {C : Cf} (h : CfOk C) {s : St} (O : Ok C s) : code s < 110592 := by
  have := O.a0
  have := O.a1
  have := O.a2
  have := O.a3
  have := h.a2
  have := h.p1
  have := h.r1
  have hp : phC s.ph < 9 := by
    have := phC_lt (l := s.ph) O.pl
    have : 3 ^ C.a ≤ 3 ^ 2 := Nat.pow_le_pow_right (by decide) h.a2
    omega
  have hc : cpC s.q.c ≤ 2 := by cases s.q.c <;> decide
  have hf : (if s.q.f then 2 else 0) ≤ 2 := by split <;> decide
  have hk : (if s.q.k then 1 else 0) ≤ 1 := by split <;> decide
  unfold code
  omega
theorem code_inj {C : Cf} (h : CfOk C) {s t : St} (O : Ok C s) (O' : Ok C t) (e : code s = code t) : s = t := by
  have := O.a0
  have := O.a1
  have := O.a2
  have := O.a3
  have := O'.a0
  have := O'.a1
  have := O'.a2
  have := O'.a3
  have := h.a2
  have := h.p1
  have := h.r1
  have l1 := O.pl
  have l2 := O'.pl
  have hp : phC s.ph < 9 := by
    have := phC_lt (l := s.ph) O.pl
    have : 3 ^ C.a ≤ 3 ^ 2 := Nat.pow_le_pow_right (by decide) h.a2
    omega
  have hp' : phC t.ph < 9 := by
    have := phC_lt (l := t.ph) O'.pl
    have : 3 ^ C.a ≤ 3 ^ 2 := Nat.pow_le_pow_right (by decide) h.a2
    omega
  obtain ⟨s0, s1, s2, s3, sp, ⟨sc, sf, sk⟩⟩ := s
  obtain ⟨t0, t1, t2, t3, tp, ⟨tc, tf, tk⟩⟩ := t
  simp only [code] at e
  have hc : cpC sc ≤ 2 := by cases sc <;> decide
  have hc' : cpC tc ≤ 2 := by cases tc <;> decide
  dsimp only at *
  have e5 : cpC sc * 4 + (if sf then 2 else 0) + (if sk then 1 else 0) = cpC tc * 4 + (if tf then 2 else 0) + (if tk then 1 else 0) := by
    cases sf <;> cases sk <;> cases tf <;> cases tk <;> simp at e ⊢ <;> omega
  have e6 : s0 = t0 ∧ s1 = t1 ∧ s2 = t2 ∧ s3 = t3 ∧ phC sp = phC tp := by omega
  obtain ⟨rfl, rfl, rfl, rfl, ep⟩ := e6
  have := phC_inj (l1.trans l2.symm) ep
  subst this
  cases sc <;> cases tc <;> cases sf <;> cases sk <;> cases tf <;> cases tk <;> simp [cpC] at e5 ⊢
theorem nodup_len : ∀ (l D : List Nat), l.Nodup → (∀ x ∈ l, x ∈ D) → l.length ≤ D.length
  | [], D, _, _ => Nat.zero_le _
  | x :: l, D, hn, hs => by
    have hx := hs x List.mem_cons_self
    have h := nodup_len l (D.erase x) (List.nodup_cons.mp hn).2 fun y hy => (List.mem_erase_of_ne (fun (e : y = x) => (List.nodup_cons.mp hn).1 (by rw [← e]; exact hy))).mpr (hs y (List.mem_cons_of_mem _ hy))
    have hl := List.length_erase_of_mem hx
    have : 0 < D.length := List.length_pos_of_mem hx
    simp only [List.length_cons]
    omega
theorem nodup_le {C : Cf} (h : CfOk C) {l : List St} (hn : l.Nodup) (ho : ∀ s ∈ l, Ok C s) : l.length ≤ 110592 := by
  have := nodup_len (l.map code) (List.range 110592) ?_ ?_
  · simpa using this
  · rw [List.nodup_iff_pairwise_ne] at hn ⊢
    rw [List.pairwise_map]
    exact List.Pairwise.imp_of_mem (fun {a b} ha hb ne e => ne (code_inj h (ho a ha) (ho b hb) e)) hn
  · intro x hx
    obtain ⟨s, hs, rfl⟩ := List.mem_map.mp hx
    exact List.mem_range.mpr (code_lt h (ho s hs))
end Vi.T

/-! VT2: the search in breadth finds what can be come to. -/
namespace Vi.T
structure Ex where
  q : List St
  cv : List (Option (St × Wrd))
  fk : List Kd
  fv : List (St × Wrd)
def seeK (s : St) (e : Ex) (m : Mv) : Ex := if m.k ≠ .no ∧ m.k ∉ e.fk then { e with fk := e.fk ++ [m.k], fv := e.fv ++ [(s, m.w)] } else e
def seeS (s : St) (e : Ex) (m : Mv) : Ex := if m.s ∉ e.q then { e with q := e.q ++ [m.s], cv := e.cv ++ [some (s, m.w)] } else e
def see (s : St) (e : Ex) (m : Mv) : Ex := seeS s (seeK s e m) m
def seeAll (s : St) (e : Ex) (ms : List Mv) : Ex := ms.foldl (see s) e
def turn (C : Cf) (e : Ex) (d : Nat) : Ex := match e.q[d]? with
  | some s => seeAll s e (moves C s)
  | none => e
def runE (C : Cf) : Nat → Nat → Ex → Ex
  | 0, _, e => e
  | n + 1, d, e => if d < e.q.length then runE C n (d + 1) (turn C e d) else e
def ex0 (C : Cf) : Ex := ⟨[start C], [none], [], []⟩
def bfs (C : Cf) : Ex := runE C 120000 0 (ex0 C)
/-- what holds all along -/
structure ExOk (C : Cf) (e : Ex) : Prop where
  nd : e.q.Nodup
  st : start C ∈ e.q
  rc : ∀ s ∈ e.q, Reach C s
  lc : e.cv.length = e.q.length
  fn : e.fk.Nodup
  lf : e.fv.length = e.fk.length
  fr : ∀ k ∈ e.fk, k ≠ .no ∧ ∃ s, Reach C s ∧ ∃ m ∈ moves C s, m.k = k
  cr : ∀ s x, some (s, x) ∈ e.cv → Reach C s
  vr : ∀ s x, (s, x) ∈ e.fv → Reach C s
theorem seeK_q {s : St} {e : Ex} {m : Mv} : (seeK s e m).q = e.q ∧ (seeK s e m).cv = e.cv := by
  unfold seeK; split <;> exact ⟨rfl, rfl⟩
theorem seeS_f {s : St} {e : Ex} {m : Mv} : (seeS s e m).fk = e.fk ∧ (seeS s e m).fv = e.fv := by
  unfold seeS; split <;> exact ⟨rfl, rfl⟩
theorem ExOk.seeK {C : Cf} {s : St} {e : Ex} {m : Mv} (O : ExOk C e) (r : Reach C s) (hm : m ∈ moves C s) : ExOk C (seeK s e m) := by
  unfold T.seeK
  split
  · rename_i h
    refine ⟨O.nd, O.st, O.rc, O.lc, ?_, by simp [O.lf], ?_, O.cr, ?_⟩
    · exact List.nodup_append.mpr ⟨O.fn, by simp, fun a ha b hb e => by
        have : b = m.k := by simpa using hb
        rw [this] at e
        exact h.2 (e ▸ ha)⟩
    · intro k hk
      rcases List.mem_append.mp hk with hk | hk
      · exact O.fr k hk
      · have : k = m.k := by simpa using hk
        rw [this]
        exact ⟨h.1, s, r, m, hm, rfl⟩
    · intro t x hx
      rcases List.mem_append.mp hx with hx | hx
      · exact O.vr t x hx
      · have : t = s ∧ x = m.w := by simpa using hx
        rw [this.1]; exact r
  · exact O
theorem ExOk.seeS {C : Cf} {s : St} {e : Ex} {m : Mv} (O : ExOk C e) (r : Reach C s) (hm : m ∈ moves C s) : ExOk C (seeS s e m) := by
  unfold T.seeS
  split
  · rename_i h
    refine ⟨?_, List.mem_append.mpr (.inl O.st), ?_, by simp [O.lc], O.fn, O.lf, O.fr, ?_, O.vr⟩
    · exact List.nodup_append.mpr ⟨O.nd, by simp, fun a ha b hb e => by
        have : b = m.s := by simpa using hb
        rw [this] at e
        exact h (e ▸ ha)⟩
    · intro k hk
      rcases List.mem_append.mp hk with hk | hk
      · exact O.rc k hk
      · have : k = m.s := by simpa using hk
        rw [this]
        exact .step r hm
    · intro t x hx
      rcases List.mem_append.mp hx with hx | hx
      · exact O.cr t x hx
      · have : t = s ∧ x = m.w := by simpa using hx
        rw [this.1]; exact r
  · exact O
theorem ExOk.see {C : Cf} {s : St} {e : Ex} {m : Mv} (O : ExOk C e) (r : Reach C s) (hm : m ∈ moves C s) : ExOk C (see s e m) := (O.seeK r hm).seeS r hm
theorem ExOk.seeAll {C : Cf} {s : St} (r : Reach C s) : ∀ {ms : List Mv} {e : Ex}, ExOk C e → (∀ m ∈ ms, m ∈ moves C s) → ExOk C (seeAll s e ms)
  | [], _, O, _ => O
  | m :: ms, _, O, h => ExOk.seeAll (ms := ms) r (O.see r (h m List.mem_cons_self)) fun x hx => h x (List.mem_cons_of_mem _ hx)
theorem ExOk.turn {C : Cf} {e : Ex} {d : Nat} (O : ExOk C e) : ExOk C (turn C e d) := by
  unfold T.turn
  split
  · rename_i s hs
    exact O.seeAll (O.rc s (List.mem_of_getElem? hs)) fun _ h => h
  · exact O
theorem ex0_ok (C : Cf) : ExOk C (ex0 C) :=
  ⟨by simp [ex0], by simp [ex0], fun s hs => by
    have : s = start C := by simpa [ex0] using hs
    rw [this]; exact .start, rfl, by simp [ex0], rfl, fun k hk => by simp [ex0] at hk, fun s x h => by simp [ex0] at h, fun s x h => by simp [ex0] at h⟩
theorem ExOk.len {C : Cf} (h : CfOk C) {e : Ex} (O : ExOk C e) : e.q.length ≤ 110592 := nodup_le h O.nd fun s hs => (O.rc s hs).ok h
/-- what is there stays there -/
theorem see_sub {s : St} {e : Ex} {m : Mv} : (∃ l, (see s e m).q = e.q ++ l) ∧ (∀ k ∈ e.fk, k ∈ (see s e m).fk) ∧ m.s ∈ (see s e m).q ∧ (m.k ≠ .no → m.k ∈ (see s e m).fk) := by
  have h1 := seeK_q (s := s) (e := e) (m := m)
  have h2 := seeS_f (s := s) (e := seeK s e m) (m := m)
  refine ⟨?_, ?_, ?_, ?_⟩
  · unfold see seeS
    split
    · exact ⟨[m.s], by rw [h1.1]⟩
    · exact ⟨[], by rw [h1.1]; simp⟩
  · intro k hk
    show k ∈ (seeS s (seeK s e m) m).fk
    rw [h2.1]
    unfold seeK
    split
    · exact List.mem_append.mpr (.inl hk)
    · exact hk
  · unfold see seeS
    split
    · simp
    · rename_i h; simpa using h
  · intro hk
    show m.k ∈ (seeS s (seeK s e m) m).fk
    rw [h2.1]
    unfold seeK
    split
    · simp
    · rename_i h
      simp only [not_and, Decidable.not_not] at h
      exact h hk
theorem seeAll_sub {s : St} : ∀ {ms : List Mv} {e : Ex}, (∃ l, (seeAll s e ms).q = e.q ++ l) ∧ (∀ k ∈ e.fk, k ∈ (seeAll s e ms).fk) ∧ ∀ m ∈ ms, m.s ∈ (seeAll s e ms).q ∧ (m.k ≠ .no → m.k ∈ (seeAll s e ms).fk)
  | [], e => ⟨⟨[], by simp [seeAll]⟩, fun _ h => h, fun _ h => by cases h⟩
  | m :: ms, e => by
    obtain ⟨⟨l, h1⟩, h2, h3, h4⟩ := see_sub (s := s) (e := e) (m := m)
    obtain ⟨⟨l', g1⟩, g2, g3⟩ := seeAll_sub (s := s) (ms := ms) (e := see s e m)
    refine ⟨⟨l ++ l', ?_⟩, fun k hk => g2 k (h2 k hk), fun x hx => ?_⟩
    · show (seeAll s (see s e m) ms).q = _
      rw [g1, h1, List.append_assoc]
    · rcases List.mem_cons.mp hx with rfl | hx
      · refine ⟨?_, fun hk => g2 _ (h4 hk)⟩
        show x.s ∈ (seeAll s (see s e x) ms).q
        rw [g1]
        exact List.mem_append.mpr (.inl h3)
      · exact g3 x hx
/-- the first d are done -/
def Done (C : Cf) (e : Ex) (d : Nat) : Prop := ∀ j s, j < d → e.q[j]? = some s → ∀ m ∈ moves C s, m.s ∈ e.q ∧ (m.k ≠ .no → m.k ∈ e.fk)
theorem Done.turn {C : Cf} {e : Ex} {d : Nat} (D : Done C e d) (hd : d < e.q.length) : Done C (T.turn C e d) (d + 1) := by
  have hs : e.q[d]? = some e.q[d] := List.getElem?_eq_getElem hd
  have et : T.turn C e d = seeAll e.q[d] e (moves C e.q[d]) := by unfold T.turn; rw [hs]
  obtain ⟨⟨l, h1⟩, h2, h3⟩ := seeAll_sub (s := e.q[d]) (ms := moves C e.q[d]) (e := e)
  rw [et]
  intro j s hj es m hm
  rw [h1] at es
  by_cases e1 : j = d
  · subst e1
    rw [List.getElem?_append_left hd, hs] at es
    cases es
    exact h3 m hm
  · rw [List.getElem?_append_left (by omega)] at es
    obtain ⟨k1, k2⟩ := D j s (by omega) es m hm
    exact ⟨by rw [h1]; exact List.mem_append.mpr (.inl k1), fun z => h2 _ (k2 z)⟩
theorem turn_len {C : Cf} {e : Ex} {d : Nat} : e.q.length ≤ (turn C e d).q.length := by
  unfold turn
  split
  · rename_i s _
    obtain ⟨⟨l, h1⟩, _⟩ := seeAll_sub (s := s) (ms := moves C s) (e := e)
    rw [h1]; simp
  · exact Nat.le_refl _
theorem runE_ok {C : Cf} (h : CfOk C) : ∀ (n d : Nat) (e : Ex), ExOk C e → Done C e d → d ≤ e.q.length → 110592 < n + d → ExOk C (runE C n d e) ∧ Done C (runE C n d e) (runE C n d e).q.length
  | 0, d, e, O, D, hd, hn => by
    have := O.len h
    omega
  | n + 1, d, e, O, D, hd, hn => by
    unfold runE
    split
    · rename_i h1
      exact runE_ok h n (d + 1) _ O.turn (D.turn h1) (Nat.le_trans h1 turn_len) (by omega)
    · rename_i h1
      have : d = e.q.length := by omega
      subst this
      exact ⟨O, D⟩
theorem bfs_ok {C : Cf} (h : CfOk C) : ExOk C (bfs C) ∧ (∀ s, s ∈ (bfs C).q ↔ Reach C s) ∧ ∀ k, k ∈ (bfs C).fk ↔ k ≠ .no ∧ ∃ s, Reach C s ∧ ∃ m ∈ moves C s, m.k = k := by
  obtain ⟨O, D⟩ := runE_ok h 120000 0 (ex0 C) (ex0_ok C) (fun j s hj => by omega) (Nat.zero_le _) (by omega)
  have cl : ∀ s, Reach C s → s ∈ (bfs C).q := by
    intro s r
    induction r with
    | start => exact O.st
    | step _ hm ih =>
      obtain ⟨j, hj, e⟩ := List.getElem_of_mem ih
      exact (D j _ hj (by rw [← e]; exact List.getElem?_eq_getElem hj) _ hm).1
  refine ⟨O, fun s => ⟨O.rc s, cl s⟩, fun k => ⟨O.fr k, fun ⟨hk, s, r, m, hm, e⟩ => ?_⟩⟩
  obtain ⟨j, hj, ej⟩ := List.getElem_of_mem (cl s r)
  have := (D j _ hj (by rw [← ej]; exact List.getElem?_eq_getElem hj) _ hm).2
  rw [e] at this
  exact this hk
/-! ### the kinds that can happen -/
def watches (a b : Nat) : List (Option Nat) := [some 0] ++ ((if a = 2 then [some 1] else []) ++ if 0 < b then [none] else [])
def Happens (C : Cf) (k : Kd) : Prop := ∃ s, Reach C s ∧ ∃ m ∈ moves C s, m.k = k
def Kind (C : Cf) (k : Kd) : Prop := ∃ w ∈ watches C.a C.b, Happens { C with wt := w } k
def kinds5 : List Kd := [.touch, .unsent, .stale, .lost, .hurt]
open Classical in
noncomputable def kindsOf (C : Cf) : List Kd := kinds5.filter fun k => decide (Kind C k)
theorem mem_kindsOf {C : Cf} {k : Kd} : k ∈ kindsOf C ↔ k ≠ .no ∧ Kind C k := by
  unfold kindsOf
  rw [List.mem_filter]
  simp only [decide_eq_true_eq]
  refine and_congr_left fun _ => ?_
  cases k <;> simp [kinds5]
theorem CfOk.watch {C : Cf} (h : CfOk C) {w : Option Nat} (hw : w ∈ watches C.a C.b) : CfOk { C with wt := w } := by
  refine ⟨h.a0, h.a2, h.b2, h.p0, h.p1, h.r0, h.r1, fun i e => ?_, fun e => ?_⟩
  · dsimp only at e ⊢
    subst e
    have := h.a0
    unfold watches at hw
    simp only [List.mem_append, List.mem_singleton] at hw
    rcases hw with e | e | e
    · cases e; omega
    · split at e
      · have : i = 1 := by simpa using e
        omega
      · cases e
    · split at e
      · simp at e
      · cases e
  · dsimp only at e ⊢
    subst e
    unfold watches at hw
    simp only [List.mem_append, List.mem_singleton] at hw
    rcases hw with e | e | e
    · cases e
    · split at e
      · simp at e
      · cases e
    · split at e
      · assumption
      · cases e
end Vi.T

/-! VT5: what a driver can and cannot do: touch, hurt, unsent, stale, lost. -/
namespace Vi.T
/-- the places of lend and take -/
structure Drv (C : Cf) (L T : Nat) : Prop where
  l0 : L < C.p.length
  t0 : T < C.r.length
  pl : C.p.getD L .lend = .lend
  rt : C.r.getD T .take = .take
  po : ∀ i, i < C.p.length → i ≠ L → C.p.getD i .lend ≠ .lend ∧ C.p.getD i .lend ≠ .take
  ro : ∀ i, i < C.r.length → i ≠ T → C.r.getD i .take ≠ .lend ∧ C.r.getD i .take ≠ .take
theorem Drv.watch {C : Cf} {L T : Nat} (D : Drv C L T) (w : Option Nat) : Drv { C with wt := w } L T := ⟨D.l0, D.t0, D.pl, D.rt, D.po, D.ro⟩
/-- the phases and the hands -/
structure PhInv (L T : Nat) (s : St) : Prop where
  a : 0 < s.i1 → s.i1 ≤ L → phA s s.i0 = .free
  b : 0 < s.i3 → s.i3 ≤ T → phA s s.i2 = .lent
  c : T < s.i3 → phA s s.i2 = .back
theorem withC_get {l : List Ph} {i j : Nat} {x : Ph} (h : i < l.length) : (withC l i x).getD j .free = if j = i then x else l.getD j .free := by
  have hl : (l.take i).length = i := by simp; omega
  unfold withC
  simp only [List.getD_eq_getElem?_getD]
  by_cases e : j = i
  · subst e
    rw [List.getElem?_append_right (by omega), hl]
    simp
  · rw [if_neg e]
    by_cases g : j < i
    · rw [List.getElem?_append_left (by omega), List.getElem?_take_of_lt g]
    · rw [List.getElem?_append_right (by omega), hl]
      obtain ⟨d, rfl⟩ : ∃ d, j = i + 1 + d := ⟨j - (i + 1), by omega⟩
      have : i + 1 + d - i = d + 1 := by omega
      rw [this, List.getElem?_cons_succ, List.getElem?_drop]
theorem step_ph {x : Stp} {g w : Bool} {ph : Ph} {q : Q} (h : x ≠ .lend) (h' : x ≠ .take) : (stepC x g w ph q).1 = ph := by
  cases x <;> first | rfl | exact absurd rfl h | exact absurd rfl h'
theorem mem_moves {C : Cf} {s : St} {m : Mv} : m ∈ moves C s ↔ m ∈ postC C s ∨ m ∈ reapC C s ∨ m ∈ unaskedC C s ∨ m ∈ byteC C s := by
  simp only [moves, List.mem_append]
  constructor
  · rintro ((h | h) | h | h)
    · exact .inl h
    · exact .inr (.inl h)
    · exact .inr (.inr (.inl h))
    · exact .inr (.inr (.inr h))
  · rintro (h | h | h | h)
    · exact .inl (.inl h)
    · exact .inl (.inr h)
    · exact .inr (.inl h)
    · exact .inr (.inr h)
theorem unasked_q {C : Cf} {s : St} {m : Mv} (h : m ∈ unaskedC C s) : ∃ q, m.s = { s with q := q } ∧ m.k = .no := by
  simp only [unaskedC, List.mem_append] at h
  rcases h with h | h | h <;> (obtain ⟨_, rfl⟩ := mem_mkC.mp h; exact ⟨_, rfl, rfl⟩)
theorem byte_q {C : Cf} {s : St} {m : Mv} (h : m ∈ byteC C s) : ∃ q, m.s = { s with q := q } ∧ m.k ≠ .touch := by
  simp only [byteC, List.mem_append] at h
  rcases h with h | h | h | h | h | h <;> (obtain ⟨_, rfl⟩ := mem_mkC.mp h; refine ⟨_, rfl, ?_⟩; dsimp only; first | (intro z; cases z; done) | (split <;> (intro z; cases z)))
theorem phA_q {s : St} {q : Q} {i : Nat} : phA { s with q := q } i = phA s i := rfl
theorem PhInv.q {L T : Nat} {s : St} (h : PhInv L T s) (q : Q) : PhInv L T { s with q := q } := ⟨h.a, h.b, h.c⟩
theorem PhInv.moves {C : Cf} {L T : Nat} {s : St} (D : Drv C L T) (O : Ok C s) (I : PhInv L T s) {m : Mv} (hm : m ∈ moves C s) : PhInv L T m.s := by
  have h0 : s.i0 < s.ph.length := by rw [O.pl]; exact O.a0
  have h2 : s.i2 < s.ph.length := by rw [O.pl]; exact O.a2
  rcases mem_moves.mp hm with hm | hm | hm | hm
  · obtain ⟨e, rfl⟩ := mem_mkC.mp hm
    simp only [Bool.or_eq_true, decide_eq_true_eq] at e
    have gt : ∀ x j, phA ⟨if s.i1 + 1 = C.p.length then C.a - 1 - s.i0 else s.i0, if s.i1 + 1 = C.p.length then 0 else s.i1 + 1, s.i2, s.i3, withC s.ph s.i0 x, (stepC (C.p.getD s.i1 .lend) C.g (decide (C.wt = some s.i0)) (phA s s.i0) s.q).2.1⟩ j = if j = s.i0 then x else phA s j := fun x j => withC_get h0
    by_cases hL : s.i1 = L
    · have fr : phA s s.i0 = .free := by
        rcases e with e | e
        · exact I.a e (by omega)
        · exact e
      rw [hL, D.pl]
      have z1 : ∀ g w ph q, (stepC .lend g w ph q).1 = .lent := fun _ _ _ _ => rfl
      refine ⟨fun q1 q2 => ?_, fun q1 q2 => ?_, fun q1 => ?_⟩
      · dsimp only at q1 q2
        split at q2
        · rename_i z; rw [if_pos z] at q1; omega
        · omega
      · dsimp only at q1 q2 ⊢
        have := I.b q1 q2
        show (withC _ _ _).getD _ _ = _
        rw [withC_get h0]
        by_cases z : s.i2 = s.i0
        · rw [z, fr] at this; cases this
        · rw [if_neg z]; exact this
      · dsimp only at q1 ⊢
        have := I.c q1
        show (withC _ _ _).getD _ _ = _
        rw [withC_get h0]
        by_cases z : s.i2 = s.i0
        · rw [z, fr] at this; cases this
        · rw [if_neg z]; exact this
    · obtain ⟨n1, n2⟩ := D.po s.i1 O.a1 hL
      have same : ∀ j, (withC s.ph s.i0 (phA s s.i0)).getD j .free = phA s j := fun j => by
        rw [withC_get h0]
        by_cases z : j = s.i0
        · rw [if_pos z, z]
        · rw [if_neg z]; rfl
      rw [step_ph n1 n2]
      refine ⟨fun q1 q2 => ?_, fun q1 q2 => ?_, fun q1 => ?_⟩
      · dsimp only at q1 q2
        by_cases z : s.i1 + 1 = C.p.length
        · rw [if_pos z] at q1; omega
        · rw [if_neg z] at q2
          show (withC _ _ _).getD _ _ = _
          dsimp only
          rw [if_neg z, same]
          rcases e with e | e
          · exact I.a e (by omega)
          · exact e
      · show (withC _ _ _).getD _ _ = _
        rw [same]; exact I.b q1 q2
      · show (withC _ _ _).getD _ _ = _
        rw [same]; exact I.c q1
  · obtain ⟨e, rfl⟩ := mem_mkC.mp hm
    simp only [Bool.or_eq_true, decide_eq_true_eq] at e
    have le : s.i3 ≤ T → phA s s.i2 = .lent := fun h => by
      rcases e with e | e
      · exact I.b e h
      · exact e
    have nf : 0 < s.i1 → s.i1 ≤ L → s.i0 ≠ s.i2 := fun q1 q2 z => by
      have f := I.a q1 q2
      by_cases hT : s.i3 ≤ T
      · rw [z, le hT] at f; cases f
      · rw [z, I.c (by omega)] at f; cases f
    have rest : ∀ x, 0 < s.i1 → s.i1 ≤ L → (withC s.ph s.i2 x).getD s.i0 .free = .free := fun x q1 q2 => by
      rw [withC_get h2, if_neg (nf q1 q2)]
      exact I.a q1 q2
    by_cases z : s.i3 + 1 = C.r.length
    · refine ⟨fun q1 q2 => rest _ q1 q2, fun q1 q2 => ?_, fun q1 => ?_⟩
      · dsimp only at q1
        rw [if_pos z] at q1; omega
      · dsimp only at q1
        rw [if_pos z] at q1; omega
    · by_cases hT : s.i3 = T
      · rw [hT, D.rt]
        refine ⟨fun q1 q2 => rest _ q1 q2, fun q1 q2 => ?_, fun q1 => ?_⟩
        · dsimp only at q1 q2
          rw [hT] at z
          rw [if_neg z] at q2; omega
        · show (withC _ _ _).getD _ _ = _
          dsimp only
          rw [hT] at z
          rw [if_neg z, if_neg z, withC_get h2, if_pos rfl]
          rfl
      · obtain ⟨n1, n2⟩ := D.ro s.i3 O.a3 hT
        rw [step_ph n1 n2]
        have same : ∀ j, (withC s.ph s.i2 (if s.i3 + 1 = C.r.length then .free else phA s s.i2)).getD j .free = phA s j := fun j => by
          rw [withC_get h2, if_neg z]
          by_cases z : j = s.i2
          · rw [if_pos z, z]
          · rw [if_neg z]; rfl
        refine ⟨fun q1 q2 => rest _ q1 q2, fun q1 q2 => ?_, fun q1 => ?_⟩
        · show (withC _ _ _).getD _ _ = _
          rw [same]
          dsimp only at q2 ⊢
          rw [if_neg z] at q2 ⊢
          exact le (by omega)
        · show (withC _ _ _).getD _ _ = _
          rw [same]
          dsimp only at q1 ⊢
          rw [if_neg z] at q1 ⊢
          exact I.c (by omega)
  · obtain ⟨q, e, _⟩ := unasked_q hm
    rw [e]; exact I.q q
  · obtain ⟨q, e, _⟩ := byte_q hm
    rw [e]; exact I.q q
theorem Reach.inv {C : Cf} (h : CfOk C) {L T : Nat} (D : Drv C L T) {s : St} (r : Reach C s) : PhInv L T s := by
  induction r with
  | start => exact ⟨fun z => absurd z (Nat.lt_irrefl 0), fun z => absurd z (Nat.lt_irrefl 0), fun z => absurd z (Nat.not_lt_zero _)⟩
  | step r hm ih => exact ih.moves D (r.ok h) hm
/-- a fill or a read -/
def isIO (x : Stp) : Prop := x = .fill ∨ x = .read
theorem touch_io {x : Stp} {g w : Bool} {ph : Ph} {q : Q} (h : (stepC x g w ph q).2.2 = .touch) : isIO x ∧ ph = .lent := by
  cases x
  · simp only [stepC] at h
    split at h
    · exact ⟨.inl rfl, by assumption⟩
    · cases h
  · simp only [stepC] at h
    split at h
    · exact ⟨.inr rfl, by assumption⟩
    · split at h
      · cases h
      · split at h <;> cases h
  all_goals cases h
def TouchP (C : Cf) (L T : Nat) : Prop := (∃ i, L < i ∧ i < C.p.length ∧ isIO (C.p.getD i .lend)) ∨ ∃ j, j < T ∧ isIO (C.r.getD j .take)
theorem touch_sound {C : Cf} (h : CfOk C) {L T : Nat} (D : Drv C L T) {s : St} (r : Reach C s) {m : Mv} (hm : m ∈ moves C s) (hk : m.k = .touch) : TouchP C L T := by
  have O := r.ok h
  have I := r.inv h D
  rcases mem_moves.mp hm with hm | hm | hm | hm
  · obtain ⟨e, rfl⟩ := mem_mkC.mp hm
    simp only [Bool.or_eq_true, decide_eq_true_eq] at e
    obtain ⟨z1, z2⟩ := touch_io hk
    refine .inl ⟨s.i1, ?_, O.a1, z1⟩
    refine Nat.lt_of_not_le fun hle => ?_
    have : phA s s.i0 = .free := by
      rcases e with e | e
      · exact I.a e hle
      · exact e
    rw [this] at z2; cases z2
  · obtain ⟨e, rfl⟩ := mem_mkC.mp hm
    obtain ⟨z1, z2⟩ := touch_io hk
    refine .inr ⟨s.i3, ?_, z1⟩
    refine Nat.lt_of_not_le fun hle => ?_
    by_cases e : s.i3 = T
    · rw [e, D.rt] at z1
      rcases z1 with z | z <;> cases z
    · rw [I.c (by omega)] at z2; cases z2
  · obtain ⟨q, _, e⟩ := unasked_q hm
    rw [e] at hk; cases hk
  · obtain ⟨q, _, e⟩ := byte_q hm
    exact absurd hk e
/-! ### runs -/
/-- a step of post -/
theorem reach_post {C : Cf} {s : St} (r : Reach C s) (e : 0 < s.i1 ∨ phA s s.i0 = .free) :
    Reach C ⟨if s.i1 + 1 = C.p.length then C.a - 1 - s.i0 else s.i0, if s.i1 + 1 = C.p.length then 0 else s.i1 + 1, s.i2, s.i3, withC s.ph s.i0 (stepC (C.p.getD s.i1 .lend) C.g (decide (C.wt = some s.i0)) (phA s s.i0) s.q).1,
      (stepC (C.p.getD s.i1 .lend) C.g (decide (C.wt = some s.i0)) (phA s s.i0) s.q).2.1⟩ :=
  .step r (mem_moves.mpr (.inl (mem_mkC.mpr ⟨by simpa using e, rfl⟩)))
theorem reach_reap {C : Cf} {s : St} (r : Reach C s) (e : 0 < s.i3 ∨ phA s s.i2 = .lent) :
    Reach C ⟨s.i0, s.i1, if s.i3 + 1 = C.r.length then C.a - 1 - s.i2 else s.i2, if s.i3 + 1 = C.r.length then 0 else s.i3 + 1, withC s.ph s.i2 (if s.i3 + 1 = C.r.length then .free else (stepC (C.r.getD s.i3 .take) C.g (decide (C.wt = some s.i2)) (phA s s.i2) s.q).1),
      (stepC (C.r.getD s.i3 .take) C.g (decide (C.wt = some s.i2)) (phA s s.i2) s.q).2.1⟩ :=
  .step r (mem_moves.mpr (.inr (.inl (mem_mkC.mpr ⟨by simpa using e, rfl⟩))))
theorem reach_unasked {C : Cf} {s : St} {m : Mv} (r : Reach C s) (h : m ∈ unaskedC C s) : Reach C m.s := .step r (mem_moves.mpr (.inr (.inr (.inl h))))
theorem reach_byte {C : Cf} {s : St} {m : Mv} (r : Reach C s) (h : m ∈ byteC C s) : Reach C m.s := .step r (mem_moves.mpr (.inr (.inr (.inr h))))
theorem happens_post {C : Cf} {s : St} (r : Reach C s) (e : 0 < s.i1 ∨ phA s s.i0 = .free) {k : Kd} (hk : (stepC (C.p.getD s.i1 .lend) C.g (decide (C.wt = some s.i0)) (phA s s.i0) s.q).2.2 = k) : Happens C k :=
  ⟨s, r, _, mem_moves.mpr (.inl (mem_mkC.mpr ⟨by simpa using e, rfl⟩)), hk⟩
theorem happens_reap {C : Cf} {s : St} (r : Reach C s) (e : 0 < s.i3 ∨ phA s s.i2 = .lent) {k : Kd} (hk : (stepC (C.r.getD s.i3 .take) C.g (decide (C.wt = some s.i2)) (phA s s.i2) s.q).2.2 = k) : Happens C k :=
  ⟨s, r, _, mem_moves.mpr (.inr (.inl (mem_mkC.mpr ⟨by simpa using e, rfl⟩))), hk⟩
theorem start_ph {C : Cf} (i : Nat) : phA (start C) i = .free := by
  simp only [phA, start, List.getD_eq_getElem?_getD]
  cases e : (List.replicate C.a Ph.free)[i]? with
  | none => rfl
  | some x =>
    have := List.mem_of_getElem? e
    rw [(List.mem_replicate.mp this).2]; rfl
/-- post at its step i, at slot 0, reap not begun -/
theorem post_to {C : Cf} (h : CfOk C) {L T : Nat} (D : Drv C L T) : ∀ i, i < C.p.length → ∃ s, Reach C s ∧ s.i0 = 0 ∧ s.i1 = i ∧ s.i2 = 0 ∧ s.i3 = 0 ∧ (i ≤ L → phA s 0 = .free) ∧ (L < i → phA s 0 = .lent)
  | 0, _ => ⟨start C, .start, rfl, rfl, rfl, rfl, fun _ => start_ph 0, fun z => by omega⟩
  | i + 1, hi => by
    obtain ⟨s, r, e0, e1, e2, e3, f1, f2⟩ := post_to h D i (by omega)
    have O := r.ok h
    have h0 : s.i0 < s.ph.length := by rw [O.pl]; exact O.a0
    have en : 0 < s.i1 ∨ phA s s.i0 = .free := by
      by_cases z : i = 0
      · exact .inr (by rw [e0]; exact f1 (by omega))
      · exact .inl (by omega)
    have r2 := reach_post r en
    have nw : ¬ s.i1 + 1 = C.p.length := by omega
    rw [if_neg nw, if_neg nw] at r2
    refine ⟨_, r2, e0, by dsimp only; omega, e2, e3, fun hl => ?_, fun hl => ?_⟩
    · show (withC _ _ _).getD _ _ = _
      obtain ⟨n1, n2⟩ := D.po s.i1 O.a1 (by omega)
      rw [withC_get h0, step_ph n1 n2, if_pos e0.symm, e0]
      exact f1 (by omega)
    · show (withC _ _ _).getD _ _ = _
      rw [withC_get h0, if_pos e0.symm]
      by_cases z : i = L
      · rw [e1, z, D.pl]; rfl
      · obtain ⟨n1, n2⟩ := D.po s.i1 O.a1 (by omega)
        rw [step_ph n1 n2, e0]
        exact f2 (by omega)
/-- slot 0 lent, reap not begun -/
theorem lent_now {C : Cf} (h : CfOk C) {L T : Nat} (D : Drv C L T) : ∃ s, Reach C s ∧ s.i2 = 0 ∧ s.i3 = 0 ∧ phA s 0 = .lent := by
  obtain ⟨s, r, e0, e1, e2, e3, f1, f2⟩ := post_to h D L D.l0
  have O := r.ok h
  have h0 : s.i0 < s.ph.length := by rw [O.pl]; exact O.a0
  have r2 := reach_post r (.inr (by rw [e0]; exact f1 (Nat.le_refl _)))
  refine ⟨_, r2, e2, e3, ?_⟩
  show (withC _ _ _).getD _ _ = _
  rw [withC_get h0, if_pos e0.symm, e1, D.pl]
  rfl
/-- reap at its step j, at slot 0 -/
theorem reap_to {C : Cf} (h : CfOk C) {L T : Nat} (D : Drv C L T) : ∀ j, j < C.r.length → ∃ s, Reach C s ∧ s.i2 = 0 ∧ s.i3 = j ∧ (0 < s.i3 ∨ phA s s.i2 = .lent)
  | 0, _ => by
    obtain ⟨s, r, e2, e3, f⟩ := lent_now h D
    exact ⟨s, r, e2, e3, .inr (by rw [e2]; exact f)⟩
  | j + 1, hj => by
    obtain ⟨s, r, e2, e3, en⟩ := reap_to h D j (by omega)
    have r2 := reach_reap r en
    have nw : ¬ s.i3 + 1 = C.r.length := by omega
    rw [if_neg nw, if_neg nw] at r2
    exact ⟨_, r2, e2, by dsimp only; omega, .inl (by dsimp only; omega)⟩
theorem touch_kind {x : Stp} (hx : isIO x) {g w : Bool} {q : Q} : (stepC x g w .lent q).2.2 = .touch := by
  rcases hx with rfl | rfl <;> rfl
theorem touch_full {C : Cf} (h : CfOk C) {L T : Nat} (D : Drv C L T) (t : TouchP C L T) : Happens C .touch := by
  rcases t with ⟨i, hi, hl, hx⟩ | ⟨j, hj, hx⟩
  · obtain ⟨s, r, e0, e1, e2, e3, f1, f2⟩ := post_to h D i hl
    refine happens_post r (.inl (by omega)) ?_
    rw [e0, e1, f2 hi]
    exact touch_kind hx
  · obtain ⟨s, r, e2, e3, en⟩ := reap_to h D j (by have := D.t0; omega)
    have I := r.inv h D
    have le : phA s s.i2 = .lent := by
      rcases en with en | en
      · exact I.b en (by omega)
      · exact en
    refine happens_reap r en ?_
    rw [le, e3]
    exact touch_kind hx
theorem touch_iff {C : Cf} (h : CfOk C) {L T : Nat} (D : Drv C L T) : Kind C .touch ↔ TouchP C L T := by
  constructor
  · rintro ⟨w, hw, s, r, m, hm, hk⟩
    exact touch_sound (h.watch hw) (D.watch w) r hm hk
  · intro t
    have hw : some 0 ∈ watches C.a C.b := by simp [watches]
    exact ⟨some 0, hw, touch_full (h.watch hw) (D.watch _) t⟩

/-! ### the watched byte -/
/-- no move makes the byte old in memory behind a clean or absent line -/
structure QInv (q : Q) : Prop where
  a : q.c = .absent → q.k = true
  f : q.c ≠ .absent → q.f = true
  c : q.c = .clean → q.k = true
theorem QInv.start : QInv ⟨.absent, false, true⟩ := ⟨fun _ => rfl, fun z => absurd rfl z, fun z => (nomatch z)⟩
theorem QInv.fetched {q : Q} (h : QInv q) : QInv (fetched q) := by
  unfold T.fetched
  split
  · rename_i e
    exact ⟨fun z => (nomatch z), fun _ => h.a e, fun _ => h.a e⟩
  · exact h
theorem QInv.fetched_f {q : Q} (h : QInv q) : (T.fetched q).f = true := by
  refine h.fetched.f ?_
  unfold T.fetched
  split
  · intro z; cases z
  · assumption
theorem QInv.stored {q : Q} (h : QInv q) : QInv (stored q) := by
  unfold T.stored
  split
  · rename_i e
    have : q.f = true := h.f (by rw [e]; intro z; cases z)
    exact ⟨fun z => (nomatch z), fun _ => this, fun _ => this⟩
  · exact h
theorem stored_nd (q : Q) : (stored q).c ≠ .dirty := by
  unfold stored
  split
  · intro z; cases z
  · assumption
theorem QInv.dropped {q : Q} (h : QInv q) (n : q.c ≠ .dirty) : QInv (dropped q) := by
  refine ⟨fun _ => ?_, fun z => absurd rfl z, fun z => (nomatch z)⟩
  show q.k = true
  cases e : q.c with
  | absent => exact h.a e
  | clean => exact h.c e
  | dirty => exact absurd e n
theorem QInv.written {q : Q} (h : QInv q) (w : Bool) : QInv (written q w) := by
  unfold T.written
  split
  · exact ⟨fun z => (nomatch z), fun _ => rfl, fun z => (nomatch z)⟩
  · exact ⟨fun z => (nomatch z), fun _ => h.fetched_f, fun z => (nomatch z)⟩
/-- a step that does not drop dirty lines -/
def Safe (x : Stp) (g : Bool) : Prop := x ≠ .drop ∧ (g = true → x ≠ .guard)
theorem QInv.synced {q : Q} (h : QInv q) {x : Stp} {g : Bool} (n : Safe x g) : QInv (synced x g q) := by
  have e : (if x = Stp.guard then (if g = true then Stp.drop else .flush) else x) ≠ .drop := by
    by_cases z : x = .guard
    · rw [if_pos z]
      cases g with
      | true => exact absurd z (n.2 rfl)
      | false => intro z; cases z
    · rw [if_neg z]; exact n.1
  simp only [T.synced]
  revert e
  generalize (if x = Stp.guard then (if g = true then Stp.drop else .flush) else x) = y
  intro e
  rw [if_neg e]
  by_cases z : y = .clean
  · rw [if_pos z]; exact h.stored
  · rw [if_neg z]; exact h.stored.dropped (stored_nd q)
theorem QInv.stepC {q : Q} (h : QInv q) {x : Stp} {g w : Bool} {ph : Ph} (n : Safe x g) : QInv (stepC x g w ph q).2.1 := by
  cases x
  · exact h.written w
  · exact h.fetched
  · exact h.synced n
  · exact h.synced n
  · exact h.synced n
  · exact h.synced n
  · exact h
  · exact h
def AllSafe (C : Cf) : Prop := ∀ x, x ∈ C.p ∨ x ∈ C.r → Safe x C.g
theorem getD_mem {l : List Stp} {i : Nat} {d : Stp} (h : i < l.length) : l.getD i d ∈ l := by
  rw [List.getD_eq_getElem?_getD, List.getElem?_eq_getElem h]
  exact List.getElem_mem h
/-- no give: wt is others, or the device reads only -/
def NoGive (C : Cf) : Prop := C.wt = none ∨ C.way = .out
theorem QInv.moves {C : Cf} {s : St} (O : Ok C s) (n : AllSafe C) (ng : NoGive C) (I : QInv s.q) {m : Mv} (hm : m ∈ moves C s) : QInv m.s.q := by
  rcases mem_moves.mp hm with hm | hm | hm | hm
  · obtain ⟨_, rfl⟩ := mem_mkC.mp hm
    exact I.stepC (n _ (.inl (getD_mem O.a1)))
  · obtain ⟨_, rfl⟩ := mem_mkC.mp hm
    exact I.stepC (n _ (.inr (getD_mem O.a3)))
  · simp only [unaskedC, List.mem_append] at hm
    rcases hm with hm | hm | hm <;> obtain ⟨e, rfl⟩ := mem_mkC.mp hm
    · exact I.fetched
    · refine I.dropped fun z => ?_
      simp [z] at e
    · exact I.stored
  · simp only [byteC, List.mem_append] at hm
    rcases hm with hm | hm | hm | hm | hm | hm <;> obtain ⟨e, rfl⟩ := mem_mkC.mp hm
    · exfalso
      simp only [Bool.and_eq_true, lentC] at e
      rcases ng with z | z
      · rw [z] at e; exact absurd e.1 (by simp)
      · rw [z] at e; exact absurd e.2 (by simp)
    · exact I
    · exact I.written true
    · exact I.fetched
    · exact I.written false
    · exact I.fetched
theorem Reach.q {C : Cf} (h : CfOk C) (n : AllSafe C) (ng : NoGive C) {s : St} (r : Reach C s) : QInv s.q := by
  induction r with
  | start => exact QInv.start
  | step r hm ih => exact ih.moves (r.ok h) n ng hm
theorem read_kind {x : Stp} {g w : Bool} {ph : Ph} {q : Q} {k : Kd} (h : (stepC x g w ph q).2.2 = k) (hk : k ≠ .no) (ht : k ≠ .touch) : x = .read ∧ w = true ∧ (fetched q).f = false ∧ k = (if (fetched q).k = true then .stale else .lost) := by
  cases x
  · simp only [stepC] at h
    split at h
    · exact absurd h.symm ht
    · exact absurd h.symm hk
  · simp only [stepC] at h
    split at h
    · exact absurd h.symm ht
    · split at h
      · exact absurd h.symm hk
      · rename_i e
        simp only [Bool.or_eq_true, not_or, Bool.not_eq_true', Bool.not_eq_true, Bool.not_eq_false'] at e
        exact ⟨rfl, by simpa using e.1, e.2, h.symm⟩
  all_goals exact absurd h.symm hk
/-- where a kind comes from -/
theorem kind_from {C : Cf} {s : St} {m : Mv} (O : Ok C s) (hm : m ∈ moves C s) (hk : m.k ≠ .no) (ht : m.k ≠ .touch) :
    ((Stp.read ∈ C.p ∨ Stp.read ∈ C.r) ∧ (fetched s.q).f = false ∧ C.wt ≠ none ∧ m.k = (if (fetched s.q).k = true then .stale else .lost)) ∨
    (m.k = .unsent ∧ C.way ≠ .in_ ∧ C.wt ≠ none ∧ s.q.k = false) ∨ (m.k = .hurt ∧ C.wt = none ∧ (fetched s.q).f = false) := by
  have wn : ∀ {i : Nat}, decide (C.wt = some i) = true → C.wt ≠ none := fun {i} e z => by rw [of_decide_eq_true e] at z; cases z
  rcases mem_moves.mp hm with hm | hm | hm | hm
  · obtain ⟨_, rfl⟩ := mem_mkC.mp hm
    obtain ⟨z1, z2, z3, z4⟩ := read_kind rfl hk ht
    exact .inl ⟨.inl (z1 ▸ getD_mem O.a1), z3, wn z2, z4⟩
  · obtain ⟨_, rfl⟩ := mem_mkC.mp hm
    obtain ⟨z1, z2, z3, z4⟩ := read_kind rfl hk ht
    exact .inl ⟨.inr (z1 ▸ getD_mem O.a3), z3, wn z2, z4⟩
  · obtain ⟨q, _, e⟩ := unasked_q hm
    exact absurd e hk
  · simp only [byteC, List.mem_append] at hm
    rcases hm with hm | hm | hm | hm | hm | hm <;> obtain ⟨e, rfl⟩ := mem_mkC.mp hm
    · exact absurd rfl hk
    · refine .inr (.inl ?_)
      dsimp only at hk ht ⊢
      simp only [Bool.and_eq_true, lentC] at e
      split at hk
      · exact absurd rfl hk
      · rename_i z
        rw [if_neg z]
        refine ⟨rfl, fun w => ?_, fun w => ?_, by simpa using z⟩
        · rw [w] at e; exact absurd e.2 (by simp)
        · rw [w] at e; exact absurd e.1 (by simp)
    · exact absurd rfl hk
    · refine .inr (.inr ?_)
      dsimp only at hk ht ⊢
      split at hk
      · exact absurd rfl hk
      · rename_i z
        rw [if_neg z]
        exact ⟨rfl, by simpa using e, by simpa using z⟩
    · exact absurd rfl hk
    · exact absurd rfl hk
theorem g_wt (C : Cf) (w : Option Nat) : Cf.g { C with wt := w } = C.g := rfl
/-- nothing is dropped while dirty, nothing given: only touch and unsent .. -/
theorem safe_none {C : Cf} (h : CfOk C) (n : AllSafe C) (ng : NoGive C) {k : Kd} (hh : Happens C k) : k ≠ .stale ∧ k ≠ .lost ∧ k ≠ .hurt := by
  obtain ⟨s, r, m, hm, rfl⟩ := hh
  have F := (r.q h n ng).fetched_f
  have O := r.ok h
  refine ⟨fun z => ?_, fun z => ?_, fun z => ?_⟩
  · rcases kind_from O hm (by rw [z]; intro z; cases z) (by rw [z]; intro z; cases z) with ⟨_, e, _⟩ | ⟨e, _⟩ | ⟨e, _⟩
    · rw [F] at e; cases e
    · rw [e] at z; cases z
    · rw [e] at z; cases z
  · rcases kind_from O hm (by rw [z]; intro z; cases z) (by rw [z]; intro z; cases z) with ⟨_, e, _⟩ | ⟨e, _⟩ | ⟨e, _⟩
    · rw [F] at e; cases e
    · rw [e] at z; cases z
    · rw [e] at z; cases z
  · rcases kind_from O hm (by rw [z]; intro z; cases z) (by rw [z]; intro z; cases z) with ⟨_, e, _⟩ | ⟨e, _⟩ | ⟨_, _, e⟩
    · rw [F] at e; cases e
    · rw [e] at z; cases z
    · rw [F] at e; cases e
theorem hurt_none {C : Cf} {s : St} {m : Mv} (h : CfOk C) (r : Reach C s) (hm : m ∈ moves C s) (z : m.k = .hurt) : C.wt = none := by
  rcases kind_from (r.ok h) hm (by rw [z]; intro z; cases z) (by rw [z]; intro z; cases z) with ⟨_, _, _, e⟩ | ⟨e, _⟩ | ⟨_, e, _⟩
  · rw [z] at e; split at e <;> cases e
  · rw [e] at z; cases z
  · exact e
/-- hurt asks for bytes of others and a drop -/
theorem hurt_sound {C : Cf} (h : CfOk C) (k : Kind C .hurt) : 0 < C.b ∧ (Stp.drop ∈ C.p ∨ Stp.drop ∈ C.r) := by
  obtain ⟨w, hw, hh⟩ := k
  have h' := h.watch hw
  obtain ⟨s, r, m, hm, z⟩ := id hh
  have wn : w = none := hurt_none h' r hm z
  subst wn
  have hb : 0 < C.b := h'.wn rfl
  refine ⟨hb, ?_⟩
  by_cases q : Stp.drop ∈ C.p ∨ Stp.drop ∈ C.r
  · exact q
  · exfalso
    have g0 : C.g = false := by simp [Cf.g]; omega
    refine (safe_none h' (fun x hx => ⟨fun e => q (e ▸ hx), fun e => ?_⟩) (.inl rfl) hh).2.2 rfl
    rw [g_wt, g0] at e; cases e
theorem hurt_end {C : Cf} {s : St} (hw : C.wt = none) (r : Reach C s) (c : s.q.c = .absent) (k : s.q.k = false) : Happens C .hurt := by
  refine ⟨_, r, ⟨.read, { s with q := fetched s.q }, .hurt⟩, mem_moves.mpr (.inr (.inr (.inr ?_))), rfl⟩
  simp only [byteC, List.mem_append]
  refine .inr (.inr (.inr (.inl (mem_mkC.mpr ⟨by rw [hw]; rfl, ?_⟩))))
  have : (fetched s.q).f = false := by simp [fetched, c, k]
  rw [this]; rfl
theorem hurt_full {C : Cf} (h : CfOk C) {L T : Nat} (D : Drv C L T) (hb : 0 < C.b) (d : Stp.drop ∈ C.p ∨ Stp.drop ∈ C.r) : Kind C .hurt := by
  have hw : (none : Option Nat) ∈ watches C.a C.b := by simp [watches, hb]
  refine ⟨none, hw, ?_⟩
  have h' := h.watch hw
  have D' := D.watch none
  have wr : ∀ {s : St}, Reach { C with wt := none } s → Reach { C with wt := none } { s with q := written s.q true } := fun {s} r => by
    have := reach_byte (m := ⟨.write, { s with q := written s.q true }, .no⟩) r (by
      simp only [byteC, List.mem_append]
      exact .inr (.inr (.inl (mem_mkC.mpr ⟨rfl, rfl⟩))))
    exact this
  have sy : ∀ g w ph, (stepC .drop g w ph (written (⟨.absent, false, true⟩ : Q) true)).2.1 = ⟨.absent, false, false⟩ := fun g w ph => by cases g <;> rfl
  have wq : ∀ q : Q, written q true = ⟨.dirty, true, false⟩ := fun _ => rfl
  rcases d with d | d
  · obtain ⟨i, hi, e⟩ := List.getElem_of_mem d
    obtain ⟨s, r, e0, e1, e2, e3, f1, f2⟩ := post_to h' D' i hi
    have r2 := wr r
    have en : 0 < s.i1 ∨ phA s s.i0 = .free := by
      by_cases z : i = 0
      · exact .inr (by rw [e0]; exact f1 (by omega))
      · exact .inl (by omega)
    have r3 := reach_post r2 en
    have ed : ({ C with wt := none } : Cf).p.getD s.i1 .lend = .drop := by
      show C.p.getD s.i1 .lend = .drop
      rw [e1, List.getD_eq_getElem?_getD, List.getElem?_eq_getElem hi, e]; rfl
    dsimp only at r3 ed
    rw [ed] at r3
    exact hurt_end rfl r3 rfl rfl
  · obtain ⟨i, hi, e⟩ := List.getElem_of_mem d
    obtain ⟨s, r, e2, e3, en⟩ := reap_to h' D' i hi
    have r2 := wr r
    have r3 := reach_reap r2 en
    have ed : ({ C with wt := none } : Cf).r.getD s.i3 .take = .drop := by
      show C.r.getD s.i3 .take = .drop
      rw [e3, List.getD_eq_getElem?_getD, List.getElem?_eq_getElem hi, e]; rfl
    dsimp only at r3 ed
    rw [ed] at r3
    exact hurt_end rfl r3 rfl rfl
theorem hurt_iff {C : Cf} (h : CfOk C) {L T : Nat} (D : Drv C L T) : Kind C .hurt ↔ 0 < C.b ∧ (Stp.drop ∈ C.p ∨ Stp.drop ∈ C.r) := ⟨hurt_sound h, fun ⟨a, b⟩ => hurt_full h D a b⟩
theorem unsent_in {C : Cf} (h : CfOk C) (w : C.way = .in_) : ¬ Kind C .unsent := by
  rintro ⟨v, hv, s, r, m, hm, z⟩
  rcases kind_from (r.ok (h.watch hv)) hm (by rw [z]; intro z; cases z) (by rw [z]; intro z; cases z) with ⟨_, _, _, e⟩ | ⟨_, e, _⟩ | ⟨e, _⟩
  · rw [z] at e; split at e <;> cases e
  · exact e w
  · rw [e] at z; cases z
theorem no_read {C : Cf} (h : CfOk C) (n : Stp.read ∉ C.p ∧ Stp.read ∉ C.r) : ¬ Kind C .stale ∧ ¬ Kind C .lost := by
  constructor
  all_goals
    rintro ⟨v, hv, s, r, m, hm, z⟩
    rcases kind_from (r.ok (h.watch hv)) hm (by rw [z]; intro z; cases z) (by rw [z]; intro z; cases z) with ⟨e, _⟩ | ⟨e, _⟩ | ⟨e, _⟩
    · rcases e with e | e
      · exact n.1 e
      · exact n.2 e
    · rw [e] at z; cases z
    · rw [e] at z; cases z
/-- without give the copy is new if memory is -/
def KInv (q : Q) : Prop := q.c ≠ .absent → q.k = true → q.f = true
theorem KInv.fetched {q : Q} (h : KInv q) : KInv (fetched q) := by
  unfold T.fetched
  split
  · exact fun _ z => z
  · exact h
theorem KInv.fetched2 {q : Q} (h : KInv q) : (T.fetched q).k = true → (T.fetched q).f = true := by
  refine h.fetched ?_
  unfold T.fetched
  split
  · intro z; cases z
  · assumption
theorem KInv.stored {q : Q} (h : KInv q) : KInv (stored q) := by
  unfold T.stored
  split
  · exact fun _ z => z
  · exact h
theorem KInv.dropped (q : Q) : KInv (dropped q) := fun z => absurd rfl z
theorem KInv.written {q : Q} (h : KInv q) (w : Bool) : KInv (written q w) := by
  unfold T.written
  split
  · exact fun _ _ => rfl
  · exact fun _ z => h.fetched2 z
theorem KInv.synced {q : Q} (h : KInv q) {x : Stp} {g : Bool} : KInv (synced x g q) := by
  simp only [T.synced]
  generalize (if x = .guard then (if g then Stp.drop else .flush) else x) = y
  by_cases e : y = .clean
  · rw [if_pos e, e]
    exact h.stored
  · rw [if_neg e]
    exact KInv.dropped _
theorem KInv.stepC {q : Q} (h : KInv q) {x : Stp} {g w : Bool} {ph : Ph} : KInv (stepC x g w ph q).2.1 := by
  cases x
  · exact h.written w
  · exact h.fetched
  · exact h.synced
  · exact h.synced
  · exact h.synced
  · exact h.synced
  · exact h
  · exact h
theorem KInv.moves {C : Cf} {s : St} (ng : NoGive C) (I : KInv s.q) {m : Mv} (hm : m ∈ moves C s) : KInv m.s.q := by
  rcases mem_moves.mp hm with hm | hm | hm | hm
  · obtain ⟨_, rfl⟩ := mem_mkC.mp hm
    exact I.stepC
  · obtain ⟨_, rfl⟩ := mem_mkC.mp hm
    exact I.stepC
  · simp only [unaskedC, List.mem_append] at hm
    rcases hm with hm | hm | hm <;> obtain ⟨e, rfl⟩ := mem_mkC.mp hm
    · exact I.fetched
    · exact KInv.dropped _
    · exact I.stored
  · simp only [byteC, List.mem_append] at hm
    rcases hm with hm | hm | hm | hm | hm | hm <;> obtain ⟨e, rfl⟩ := mem_mkC.mp hm
    · exfalso
      simp only [Bool.and_eq_true, lentC] at e
      rcases ng with z | z
      · rw [z] at e; exact absurd e.1 (by simp)
      · rw [z] at e; exact absurd e.2 (by simp)
    · exact I
    · exact I.written true
    · exact I.fetched
    · exact I.written false
    · exact I.fetched
theorem stale_out {C : Cf} (h : CfOk C) (w : C.way = .out) : ¬ Kind C .stale := by
  rintro ⟨v, hv, s, r, m, hm, z⟩
  have I : KInv s.q := by
    clear hm z m
    induction r with
    | start => exact fun z => absurd rfl z
    | step r hm ih => exact KInv.moves (C := { C with wt := v }) (.inr w) ih hm
  rcases kind_from (r.ok (h.watch hv)) hm (by rw [z]; intro z; cases z) (by rw [z]; intro z; cases z) with ⟨_, e, _, e2⟩ | ⟨e, _⟩ | ⟨e, _⟩
  · rw [z] at e2
    split at e2
    · rename_i k
      rw [I.fetched2 k] at e; cases e
    · cases e2
  · rw [e] at z; cases z
  · rw [e] at z; cases z
theorem lost_out {C : Cf} (h : CfOk C) (w : C.way = .out) (n : AllSafe C) : ¬ Kind C .lost := fun ⟨_, hv, hh⟩ => (safe_none (h.watch hv) n (.inr w) hh).2.1 rfl
/-- without a fill and without others no byte of a slot is ever dirty -/
def CInv (q : Q) : Prop := q.c ≠ .dirty ∧ q.k = true
theorem CInv.fetched {q : Q} (h : CInv q) : CInv (fetched q) := by
  unfold T.fetched
  split
  · exact ⟨fun z => (nomatch z), h.2⟩
  · exact h
theorem CInv.stored {q : Q} (h : CInv q) : CInv (stored q) := by
  unfold T.stored
  rw [if_neg h.1]; exact h
theorem CInv.dropped {q : Q} (h : CInv q) : CInv (dropped q) := ⟨fun z => (nomatch z), h.2⟩
theorem CInv.synced {q : Q} (h : CInv q) {x : Stp} {g : Bool} : CInv (synced x g q) := by
  simp only [T.synced]
  generalize (if x = .guard then (if g then Stp.drop else .flush) else x) = y
  by_cases e : y = .clean
  · rw [if_pos e, e]
    exact h.stored
  · rw [if_neg e]
    by_cases e2 : y = .drop
    · rw [if_pos e2]; exact h.dropped
    · rw [if_neg e2]; exact h.stored.dropped
theorem CInv.stepC {q : Q} (h : CInv q) {x : Stp} {g w : Bool} {ph : Ph} (n : x ≠ .fill) : CInv (stepC x g w ph q).2.1 := by
  cases x
  · exact absurd rfl n
  · exact h.fetched
  · exact h.synced
  · exact h.synced
  · exact h.synced
  · exact h.synced
  · exact h
  · exact h
theorem CInv.moves {C : Cf} {s : St} (O : Ok C s) (wt : C.wt ≠ none) (b0 : C.b = 0) (nf : Stp.fill ∉ C.p ∧ Stp.fill ∉ C.r) (I : CInv s.q) {m : Mv} (hm : m ∈ moves C s) : CInv m.s.q := by
  rcases mem_moves.mp hm with hm | hm | hm | hm
  · obtain ⟨_, rfl⟩ := mem_mkC.mp hm
    exact I.stepC fun z => nf.1 (z ▸ getD_mem O.a1)
  · obtain ⟨_, rfl⟩ := mem_mkC.mp hm
    exact I.stepC fun z => nf.2 (z ▸ getD_mem O.a3)
  · simp only [unaskedC, List.mem_append] at hm
    rcases hm with hm | hm | hm <;> obtain ⟨e, rfl⟩ := mem_mkC.mp hm
    · exact I.fetched
    · exact I.dropped
    · exact I.stored
  · simp only [byteC, List.mem_append] at hm
    rcases hm with hm | hm | hm | hm | hm | hm <;> obtain ⟨e, rfl⟩ := mem_mkC.mp hm
    · exact ⟨I.1, rfl⟩
    · exact I
    · exfalso
      cases q : C.wt with
      | none => exact wt q
      | some i => rw [q] at e; cases e
    · exact I.fetched
    · exfalso
      rw [b0] at e; simp at e
    · exact I.fetched
theorem no_fill {C : Cf} (h : CfOk C) (b0 : C.b = 0) (nf : Stp.fill ∉ C.p ∧ Stp.fill ∉ C.r) : ¬ Kind C .unsent ∧ ¬ Kind C .lost := by
  have key : ∀ {w : Option Nat}, w ∈ watches C.a C.b → ∀ {s : St}, Reach { C with wt := w } s → CInv s.q := fun {w} hw {s} r => by
    have h' := h.watch hw
    have wt : w ≠ none := fun z => by
      have := h'.wn z
      have e : ({ C with wt := w } : Cf).b = 0 := b0
      omega
    induction r with
    | start => exact ⟨fun z => (nomatch z), rfl⟩
    | step r hm ih => exact ih.moves (r.ok h') wt b0 nf hm
  constructor
  · rintro ⟨v, hv, s, r, m, hm, z⟩
    have I := key hv r
    rcases kind_from (r.ok (h.watch hv)) hm (by rw [z]; intro z; cases z) (by rw [z]; intro z; cases z) with ⟨_, _, _, e⟩ | ⟨_, _, _, e⟩ | ⟨e, _⟩
    · rw [z] at e; split at e <;> cases e
    · rw [I.2] at e; cases e
    · rw [e] at z; cases z
  · rintro ⟨v, hv, s, r, m, hm, z⟩
    have I := key hv r
    rcases kind_from (r.ok (h.watch hv)) hm (by rw [z]; intro z; cases z) (by rw [z]; intro z; cases z) with ⟨_, _, _, e⟩ | ⟨e, _⟩ | ⟨e, _⟩
    · rw [z, I.fetched.2] at e; cases e
    · rw [e] at z; cases z
    · rw [e] at z; cases z
end Vi.T

namespace Vi.Law
open PySem PySem.Spec PyProof.Rows L2 Vi
/-! ### what the defs are worth -/
def isWhole : U → Int → Bool
  | .int i, l => decide (l ≤ i)
  | _, _ => false
def isSync (x : Str) : Bool := decide (x = "clean") || (decide (x = "drop") || (decide (x = "flush") || decide (x = "guard")))
def isStep (x : Str) : Bool := decide (x = "fill") || (decide (x = "read") || isSync x)
/-- the items of a hand, from the left: all steps or the mark; how many marks -/
def stepsOk (mark : Str) : List U → Bool
  | [] => true
  | .str x :: us => (decide (x = mark) || isStep x) && stepsOk mark us
  | _ :: _ => false
def marksOf (mark : Str) : List U → Nat
  | [] => 0
  | .str x :: us => (if x = mark then 1 else 0) + marksOf mark us
  | _ :: us => marksOf mark us
def hasSteps (u : U) (mark : Str) : Bool := match u with
  | .tup us => stepsOk mark us && decide (marksOf mark us = 1)
  | _ => false
/-- the value has a type that isinstance is asked of, its items too -/
def typed (u : U) : Bool := (tyU u).isSome
def typedAll (us : List U) : Bool := us.all typed
def typed1 (u : U) : Bool := match u with
  | .tup us => typedAll us
  | _ => typed u
def wellT (u : U) : Bool := typed u && (match u with
  | .tup us => us.all typed
  | _ => true)
def isPat (u : U) : Bool := match u with
  | .tup [.int a, .int b] => decide (1 ≤ a ∧ a ≤ 2 ∧ 0 ≤ b ∧ b ≤ 2)
  | _ => false
def phasesU (a : Int) : U := .tup (List.replicate a.toNat [U.str "free"]).flatten
def startU (a : Int) : U := .tup [.int 0, .int 0, .int 0, .int 0, phasesU a, .str "absent", .bl false, .bl true]
def wellT2 (u : U) : Bool := typed u && (match u with
  | .tup us => us.all wellT
  | _ => true)
def inB (top : Int) (u : U) : Bool := match u with
  | .int i => decide (0 ≤ i ∧ i < top)
  | _ => false
def isPhase (u : U) : Bool := match u with
  | .str x => decide (x ∈ (["free", "lent", "back"] : List Str))
  | _ => false
def phOk (a : Int) (u : U) : Bool := match u with
  | .tup us => decide ((us.length : Int) = a) && us.all isPhase
  | _ => false
def copOk (u : U) : Bool := match u with
  | .str x => decide (x ∈ (["absent", "clean", "dirty"] : List Str))
  | _ => false
def isB (u : U) : Bool := match u with
  | .bl _ => true
  | _ => false
def finOk (c f : U) : Bool := match c, f with
  | .str x, .bl b => !decide (x = "absent") || !b
  | _, _ => false
def isStand (a lp lr : Int) (u : U) : Bool := match u with
  | .tup [h, po, t, re, ph, c, f, k] => inB a h && (inB lp po && (inB a t && (inB lr re && (phOk a ph && (copOk c && (isB f && (isB k && finOk c f)))))))
  | _ => false
def isWay (x : Str) : Bool := decide (x ∈ (["in", "out", "both"] : List Str))
def typedD (u : U) : Bool := match u with
  | .tup [a, b, c] => typed a && (typed1 b && typed1 c)
  | .tup _ => true
  | _ => typed u
def isDriver (u : U) : Bool := match u with
  | .tup [.str w, p, r] => isWay w && (hasSteps p "lend" && hasSteps r "take")
  | _ => false
/-! ### the parts of a line: cached, fresh, kept -/
abbrev Prt := Str × Bool × Bool
def prtU (q : Prt) : U := .tup [.str q.1, .bl q.2.1, .bl q.2.2]
def fetchedF (q : Prt) : Prt := if q.1 = "absent" then ("clean", q.2.2, q.2.2) else q
def storedF (q : Prt) : Prt := if q.1 = "dirty" then ("clean", q.2.1, q.2.1) else q
def droppedF (q : Prt) : Prt := ("absent", false, q.2.2)
def writtenF (q : Prt) (w : Bool) : Prt := if w then ("dirty", true, false) else ("dirty", (fetchedF q).2.1, (fetchedF q).2.2)
def guardF (x : Str) (a b : Int) : Str := if x = "guard" then (if a = 1 ∧ b = 0 then "drop" else "flush") else x
def syncedF (x : Str) (a b : Int) (q : Prt) : Prt :=
  let y := guardF x a b
  let q1 := if y = "drop" then q else storedF q
  if y = "clean" then q1 else droppedF q1
def isWatch (a b : Int) (u : U) : Bool := match u with
  | .int i => decide (0 ≤ i ∧ i < a)
  | .str x => decide (x = "others" ∧ 0 < b)
  | _ => false
/-! ### states: the hands, the phases, the part; moves -/
def stU (i0 i1 i2 i3 : Int) (phs : List U) (q : Prt) : U := .tup [.int i0, .int i1, .int i2, .int i3, .tup phs, .str q.1, .bl q.2.1, .bl q.2.2]
def mvU (x : Str) (st : U) (kind : Str) : U := .tup [.str x, st, .str kind]
def mk (c : Bool) (x : Str) (st : U) (kind : Str) : List U := if c = true then [mvU x st kind] else []
def wAt (l : List U) (i : Int) : Str := match l[i.toNat]? with
  | some (.str x) => x
  | _ => ""
def eqW (wt : U) (i : Int) : Bool := match wt with
  | .int e => decide (e = i)
  | _ => false
def isOth (wt : U) : Bool := match wt with
  | .str _ => true
  | _ => false
def lentW (phs : List U) (wt : U) : Bool := match wt with
  | .int e => decide (wAt phs e = "lent")
  | _ => false
def withP (phs : List U) (i : Int) (x : Str) : List U := phs.take i.toNat ++ .str x :: phs.drop (i.toNat + 1)
def PrtOk (q : Prt) : Prop := q.1 ∈ (["absent", "clean", "dirty"] : List Str) ∧ (q.1 = "absent" → q.2.1 = false)
structure StOk (a lp lr i0 i1 i2 i3 : Int) (phs : List U) (q : Prt) : Prop where
  a0 : 0 ≤ i0 ∧ i0 < a
  a1 : 0 ≤ i1 ∧ i1 < lp
  a2 : 0 ≤ i2 ∧ i2 < a
  a3 : 0 ≤ i3 ∧ i3 < lr
  pl : (phs.length : Int) = a
  ph : phs.all isPhase = true
  pq : PrtOk q
/-- what a call of moves needs -/
structure MvIn (way : Str) (p r : List U) (a b : Int) (wt : U) (i0 i1 i2 i3 : Int) (phs : List U) (q : Prt) : Prop where
  dr : isDriver (.tup [.str way, .tup p, .tup r]) = true
  pt : isPat (.tup [.int a, .int b]) = true
  wt : isWatch a b wt = true
  pl : p.length ≤ 10
  rl : r.length ≤ 10
  st : StOk a p.length r.length i0 i1 i2 i3 phs q
structure MvOk (a lp lr i0 i1 i2 i3 : Int) (phs : List U) (m : U) : Prop where
  ex : ∃ x j0 j1 j2 j3 phs' q' kind, m = mvU x (stU j0 j1 j2 j3 phs' q') kind ∧ StOk a lp lr j0 j1 j2 j3 phs' q' ∧ (x ≠ "post" → j0 = i0 ∧ j1 = i1) ∧ (x ≠ "reap" → j2 = i2 ∧ j3 = i3) ∧ (x ≠ "post" → x ≠ "reap" → phs' = phs) ∧ PyData.strOk x = true ∧ PyData.strOk kind = true
def keepF (ws : List Str) (m : U) : Bool := match m with
  | .tup (.str x :: _) => !decide (x ∈ ws)
  | _ => true
def allL : List Str := ["fetch", "forget", "store"]
/-! ### the scene: a shared list of shared lists -/
structure Sc (h : Hv) (s base : Nat) (wh : List U) (at_ : Nat) (c : Str) (k e n : Nat) (K E N : List Int) : Prop where
  b : base ≤ k ∧ base ≤ e ∧ base ≤ n ∧ base ≤ s
  d : k ≠ e ∧ k ≠ n ∧ e ≠ n ∧ k ≠ s ∧ e ≠ s ∧ n ≠ s
  hs : h[s]? = some (.lst [.lst wh, .int at_, .str c, .ref k, .ref e, .ref n])
  hk : h[k]? = some (.lst (K.map U.int))
  he : h[e]? = some (.lst (E.map U.int))
  hn : h[n]? = some (.lst (N.map U.int))
  lk : K.length = wh.length
  le : E.length = wh.length
  ln : N.length = wh.length
  la : at_ < wh.length
def absQ (at_ : Nat) (c : Str) (K E N : List Int) : Prt := (c, !decide (c = "absent") && decide (E[at_]? = N[at_]?), decide (K[at_]? = N[at_]?))
def LeL (K N : List Int) : Prop := ∀ (j : Nat) (x y : Int), K[j]? = some x → N[j]? = some y → x ≤ y
def Abs (h : Hv) (s base : Nat) (wh : List U) (at_ : Nat) (q : Prt) : Prop := ∃ c k e n K E N, Sc h s base wh at_ c k e n K E N ∧ q = absQ at_ c K E N ∧ LeL K N ∧ LeL E N
def Keep (base : Nat) (h h' : Hv) : Prop := h.length ≤ h'.length ∧ (∀ j, j < base → h'[j]? = h[j]?) ∧ ∀ (j : Nat) (us : List U), h[j]? = some (Ob.lst us) → ∃ us', h'[j]? = some (Ob.lst us') ∧ us'.length = us.length
def whoU (a b : Int) : List U := rangeU 0 a.toNat ++ List.replicate b.toNat (.str "others")
def atOf (a : Int) (wt : U) : Nat := match wt with
  | .int i => i.toNat
  | _ => a.toNat
/-! ### states, moves, drivers as texts -/
open Vi.T (Stp Ph Cp Q Wrd Kd Wy Hw Mv Cf CfOk Ok)
def encP : Stp → Str
  | .fill => "fill" | .read => "read" | .clean => "clean" | .drop => "drop" | .flush => "flush" | .guard => "guard" | .lend => "lend" | .take => "take"
def encPh : Ph → Str
  | .free => "free" | .lent => "lent" | .back => "back"
def encCp : Cp → Str
  | .absent => "absent" | .clean => "clean" | .dirty => "dirty"
def encW : Wrd → Str
  | .post => "post" | .reap => "reap" | .fetch => "fetch" | .forget => "forget" | .store => "store" | .give => "give" | .get => "get" | .write => "write" | .read => "read" | .stain => "stain" | .peek => "peek"
def encK : Kd → Str
  | .no => "" | .touch => "touch" | .unsent => "unsent" | .stale => "stale" | .lost => "lost" | .hurt => "hurt"
def encWy : Wy → Str
  | .in_ => "in" | .out => "out" | .both => "both"
def encQ (q : Q) : Prt := (encCp q.c, q.f, q.k)
def phL (l : List Ph) : List U := l.map fun x => U.str (encPh x)
def stL (l : List Stp) : List U := l.map fun x => U.str (encP x)
def encS (s : T.St) : U := stU s.i0 s.i1 s.i2 s.i3 (phL s.ph) (encQ s.q)
def encM (m : Mv) : U := mvU (encW m.w) (encS m.s) (encK m.k)
def encWt : Option Nat → U
  | some i => .int i
  | none => .str "others"
def hwL (w : Hw) : List Str := (if w.fe then [("fetch" : Str)] else []) ++ ((if w.fo then [("forget" : Str)] else []) ++ if w.st then [("store" : Str)] else [])
def encD (C : Cf) : U := .tup [.str (encWy C.way), .tup (stL C.p), .tup (stL C.r)]
def encPt (C : Cf) : U := .tup [.int C.a, .int C.b]
def encHw (w : Hw) : U := .tup ((hwL w).map U.str)
def kdL (l : List Kd) : List U := l.map fun k => U.str (encK k)
/-- a configuration whose driver is one -/
structure CD (C : Cf) : Prop extends CfOk C where
  dr : isDriver (encD C) = true
def cvU : Option (T.St × Wrd) → U
  | some (s, x) => .tup [encS s, .str (encW x)]
  | none => .non
def fvU (p : T.St × Wrd) : U := .tup [encS p.1, .str (encW p.2)]
def GearB (n : Nat) (w : U) : Prop := ∃ (y : Wy) (p r : List Stp), w = .tup [.str (encWy y), .tup (stL p), .tup (stL r)] ∧ isDriver w = true ∧ 1 ≤ p.length ∧ p.length ≤ n ∧ 1 ≤ r.length ∧ r.length ≤ n
def isHand (u : U) : Bool := match u with
  | .str x => decide (x ∈ (["post", "reap"] : List Str))
  | _ => false
def synB (x : Stp) : Bool := decide (x = .clean ∨ x = .drop ∨ x = .flush ∨ x = .guard)
def isStepU (u : U) : Bool := match u with
  | .str x => isStep x
  | _ => false
/-- the steps of both hands -/
abbrev S2 := List Stp × List Stp
def drvU (y : Wy) (s : S2) : U := .tup [.str (encWy y), .tup (stL s.1), .tup (stL s.2)]
def hdS (b : Bool) : Str := if b then "reap" else "post"
def wU : Option Stp → U
  | none => .non
  | some x => .str (encP x)
structure Deed where
  b : Bool
  i : Nat
  w : Option Stp
def deedU (d : Deed) : U := .tup [.str (hdS d.b), .int d.i, wU d.w]
def lat (l : List Stp) (i : Nat) : Option Stp → Option (List Stp)
  | none => if i < l.length ∧ synB (l.getD i .lend) = true then some (l.take i ++ l.drop (i + 1)) else none
  | some x => if i ≤ l.length ∧ synB x = true then some (l.take i ++ x :: l.drop i) else none
def sel (b : Bool) (s : S2) : List Stp := if b then s.2 else s.1
def upd2 (b : Bool) (s : S2) (l : List Stp) : S2 := if b then (s.1, l) else (l, s.2)
/-- what a deed makes of the hands -/
def later2 (s : S2) (d : Deed) : Option S2 := (lat (sel d.b s) d.i d.w).map (upd2 d.b s)
def foundU (y : Wy) : Option S2 → U
  | none => .non
  | some s => drvU y s
def handsU (s : S2) : U := .lst [.lst (stL s.1), .lst (stL s.2)]
def handsO : Option S2 → U
  | none => .non
  | some s => handsU s
def entU (e : Deed × S2) : U := .tup [.str (hdS e.1.b), .int e.1.i, wU e.1.w, handsU e.2]
structure DR (y : Wy) (s : S2) : Prop where
  dr : isDriver (drvU y s) = true
  p1 : s.1.length ≤ 100
  r1 : s.2.length ≤ 100
def lentS (s : S2) : List Stp := s.1.drop (s.1.findIdx fun x => decide (x = .lend)) ++ s.2.take (s.2.findIdx fun x => decide (x = .take))
def touchS (s : S2) : Bool := decide (Stp.fill ∈ lentS s ∨ Stp.read ∈ lentS s)
/-- deeds, the last one first, each with the hands ahead of it, and the hands behind all -/
inductive Chain (y : Wy) : List (Deed × S2) → S2 → Prop
  | nil {s : S2} : DR y s → Chain y [] s
  | cons {d : Deed} {s t : S2} {rs : List (Deed × S2)} : later2 s d = some t → DR y t → Chain y rs s → Chain y ((d, s) :: rs) t
/-! ### the text by places -/
def topS (i : Nat) : Stmt := PySem.Challenge.pw_lentslots_k13_whole_walk_of_deeds.main.body.getD i (.Pass ⟨0, 0, 0, 0⟩)
abbrev s_has_steps : Stmt := topS 11
abbrev s_is_driver : Stmt := topS 12
abbrev s_need_driver : Stmt := topS 13
abbrev s_touches : Stmt := topS 15
abbrev s_law_pot : Stmt := topS 21
abbrev s_law_pick : Stmt := topS 22
abbrev s_law_among : Stmt := topS 23
abbrev s_law_steps : Stmt := topS 24
abbrev s_law_driver : Stmt := topS 25
abbrev s_is_whole : Stmt := topS 6
abbrev s_need_hand : Stmt := topS 14
abbrev s_hand_steps : Stmt := topS 16
abbrev s_with_steps : Stmt := topS 17
abbrev s_put_in : Stmt := topS 18
abbrev s_taken_out : Stmt := topS 19
abbrev s_law_done : Stmt := topS 26
abbrev s_law_deed : Stmt := topS 27
abbrev s_law_later : Stmt := topS 28
abbrev s_law_back : Stmt := topS 29
abbrev s_law : Stmt := topS 30
def c_STEPS : U := .tup [(.str "fill"), (.str "read"), (.str "clean"), (.str "drop"), (.str "flush"), (.str "guard")]
def c_WAYS : U := .tup [(.str "in"), (.str "out"), (.str "both")]
def c_SYNCS : U := .tup [(.str "clean"), (.str "drop"), (.str "flush"), (.str "guard")]
def c_InvalidStep : U := .ecl "InvalidStep"
def c_SlotError : U := .ecl "SlotError"
def d_has_steps : He.DefD := ⟨("has_steps", none), "has_steps", "has_steps", defArgs s_has_steps, defBody s_has_steps, defScope s_has_steps, [], []⟩
def d_is_driver : He.DefD := ⟨("is_driver", none), "is_driver", "is_driver", defArgs s_is_driver, defBody s_is_driver, defScope s_is_driver, [], []⟩
def d_need_driver : He.DefD := ⟨("need_driver", none), "need_driver", "need_driver", defArgs s_need_driver, defBody s_need_driver, defScope s_need_driver, [], []⟩
def d_touches : He.DefD := ⟨("touches", none), "touches", "touches", defArgs s_touches, defBody s_touches, defScope s_touches, [], []⟩
def d_law_pot : He.DefD := ⟨("_law_pot", none), "_law_pot", "_law_pot", defArgs s_law_pot, defBody s_law_pot, defScope s_law_pot, [], []⟩
def d_law_pick : He.DefD := ⟨("_law_pick", none), "_law_pick", "_law_pick", defArgs s_law_pick, defBody s_law_pick, defScope s_law_pick, [], []⟩
def d_law_among : He.DefD := ⟨("_law_among", none), "_law_among", "_law_among", defArgs s_law_among, defBody s_law_among, defScope s_law_among, [], []⟩
def d_law_steps : He.DefD := ⟨("_law_steps", none), "_law_steps", "_law_steps", defArgs s_law_steps, defBody s_law_steps, defScope s_law_steps, [], []⟩
def d_law_driver : He.DefD := ⟨("_law_driver", none), "_law_driver", "_law_driver", defArgs s_law_driver, defBody s_law_driver, defScope s_law_driver, [], []⟩
def d_is_whole : He.DefD := ⟨("is_whole", none), "is_whole", "is_whole", defArgs s_is_whole, defBody s_is_whole, defScope s_is_whole, [.int 0], []⟩
def d_need_hand : He.DefD := ⟨("need_hand", none), "need_hand", "need_hand", defArgs s_need_hand, defBody s_need_hand, defScope s_need_hand, [], []⟩
def d_hand_steps : He.DefD := ⟨("hand_steps", none), "hand_steps", "hand_steps", defArgs s_hand_steps, defBody s_hand_steps, defScope s_hand_steps, [], []⟩
def d_with_steps : He.DefD := ⟨("with_steps", none), "with_steps", "with_steps", defArgs s_with_steps, defBody s_with_steps, defScope s_with_steps, [], []⟩
def d_put_in : He.DefD := ⟨("put_in", none), "put_in", "put_in", defArgs s_put_in, defBody s_put_in, defScope s_put_in, [], []⟩
def d_taken_out : He.DefD := ⟨("taken_out", none), "taken_out", "taken_out", defArgs s_taken_out, defBody s_taken_out, defScope s_taken_out, [], []⟩
def d_law_done : He.DefD := ⟨("_law_done", none), "_law_done", "_law_done", defArgs s_law_done, defBody s_law_done, defScope s_law_done, [], []⟩
def d_law_deed : He.DefD := ⟨("_law_deed", none), "_law_deed", "_law_deed", defArgs s_law_deed, defBody s_law_deed, defScope s_law_deed, [], []⟩
def d_law_later : He.DefD := ⟨("_law_later", none), "_law_later", "_law_later", defArgs s_law_later, defBody s_law_later, defScope s_law_later, [], []⟩
def d_law_back : He.DefD := ⟨("_law_back", none), "_law_back", "_law_back", defArgs s_law_back, defBody s_law_back, defScope s_law_back, [], []⟩
def d_law : He.DefD := ⟨("law", none), "law", "law", defArgs s_law, defBody s_law, defScope s_law, [], []⟩
def fns : List He.DefD := [d_has_steps, d_is_driver, d_need_driver, d_touches, d_law_pot, d_law_pick, d_law_among, d_law_steps, d_law_driver, d_is_whole, d_need_hand, d_hand_steps, d_with_steps, d_put_in, d_taken_out, d_law_done, d_law_deed, d_law_later, d_law_back, d_law]
def fas : List He.Fa := [.glo "has_steps", .glo "is_driver", .glo "need_driver", .glo "touches", .glo "_law_pot", .glo "_law_pick", .glo "_law_among", .glo "_law_steps", .glo "_law_driver", .glo "is_whole", .glo "need_hand", .glo "hand_steps", .glo "with_steps", .glo "put_in", .glo "taken_out", .glo "_law_done", .glo "_law_deed", .glo "_law_later", .glo "_law_back", .glo "law", .free "str", .free "isinstance", .free "tuple", .free "len", .free "int", .free "range", .free "bool", .free "list", .free "repr", .glo "InvalidDriver", .glo "InvalidHand", .glo "InvalidStep", .exc "InvalidDriver", .exc "InvalidHand", .exc "InvalidStep"]
def css : List (Str × U) := [("STEPS", c_STEPS), ("WAYS", c_WAYS), ("SYNCS", c_SYNCS), ("InvalidStep", c_InvalidStep), ("SlotError", c_SlotError)]
abbrev N_has_steps : List Str := ["value", "mark", "marks", "step"]
theorem sc_has_steps : FnScope N_has_steps ["value", "mark"] (defScope s_has_steps) := ⟨rfl, rfl, rfl, by decide +kernel, rfl, by decide +kernel, by decide +kernel⟩
abbrev N_is_driver : List Str := ["value", "way", "post", "reap"]
theorem sc_is_driver : FnScope N_is_driver ["value"] (defScope s_is_driver) := ⟨rfl, rfl, rfl, by decide +kernel, rfl, by decide +kernel, by decide +kernel⟩
abbrev N_need_driver : List Str := ["driver"]
theorem sc_need_driver : FnScope N_need_driver ["driver"] (defScope s_need_driver) := ⟨rfl, rfl, rfl, by decide +kernel, rfl, by decide +kernel, by decide +kernel⟩
abbrev N_touches : List Str := ["driver", "way", "post", "reap", "lent"]
theorem sc_touches : FnScope N_touches ["driver"] (defScope s_touches) := ⟨rfl, rfl, rfl, by decide +kernel, rfl, by decide +kernel, by decide +kernel⟩
abbrev N_law_pot : List Str := ["cell", "rest"]
theorem sc_law_pot : FnScope N_law_pot ["cell"] (defScope s_law_pot) := ⟨rfl, rfl, rfl, by decide +kernel, rfl, by decide +kernel, by decide +kernel⟩
abbrev N_law_pick : List Str := ["pot", "many", "digit", "stir"]
theorem sc_law_pick : FnScope N_law_pick ["pot", "many"] (defScope s_law_pick) := ⟨rfl, rfl, rfl, by decide +kernel, rfl, by decide +kernel, by decide +kernel⟩
abbrev N_law_among : List Str := ["pot", "some"]
theorem sc_law_among : FnScope N_law_among ["pot", "some"] (defScope s_law_among) := ⟨rfl, rfl, rfl, by decide +kernel, rfl, by decide +kernel, by decide +kernel⟩
abbrev N_law_steps : List Str := ["pot", "mark", "most", "some", "found", "at", "k"]
theorem sc_law_steps : FnScope N_law_steps ["pot", "mark", "most"] (defScope s_law_steps) := ⟨rfl, rfl, rfl, by decide +kernel, rfl, by decide +kernel, by decide +kernel⟩
abbrev N_law_driver : List Str := ["pot", "most", "way"]
theorem sc_law_driver : FnScope N_law_driver ["pot", "most"] (defScope s_law_driver) := ⟨rfl, rfl, rfl, by decide +kernel, rfl, by decide +kernel, by decide +kernel⟩
abbrev N_is_whole : List Str := ["value", "least"]
theorem sc_is_whole : FnScope N_is_whole ["value", "least"] (defScope s_is_whole) := ⟨rfl, rfl, rfl, by decide +kernel, rfl, by decide +kernel, by decide +kernel⟩
abbrev N_need_hand : List Str := ["hand"]
theorem sc_need_hand : FnScope N_need_hand ["hand"] (defScope s_need_hand) := ⟨rfl, rfl, rfl, by decide +kernel, rfl, by decide +kernel, by decide +kernel⟩
abbrev N_hand_steps : List Str := ["driver", "hand"]
theorem sc_hand_steps : FnScope N_hand_steps ["driver", "hand"] (defScope s_hand_steps) := ⟨rfl, rfl, rfl, by decide +kernel, rfl, by decide +kernel, by decide +kernel⟩
abbrev N_with_steps : List Str := ["driver", "hand", "steps"]
theorem sc_with_steps : FnScope N_with_steps ["driver", "hand", "steps"] (defScope s_with_steps) := ⟨rfl, rfl, rfl, by decide +kernel, rfl, by decide +kernel, by decide +kernel⟩
abbrev N_put_in : List Str := ["driver", "hand", "index", "step", "steps"]
theorem sc_put_in : FnScope N_put_in ["driver", "hand", "index", "step"] (defScope s_put_in) := ⟨rfl, rfl, rfl, by decide +kernel, rfl, by decide +kernel, by decide +kernel⟩
abbrev N_taken_out : List Str := ["driver", "hand", "index", "steps"]
theorem sc_taken_out : FnScope N_taken_out ["driver", "hand", "index"] (defScope s_taken_out) := ⟨rfl, rfl, rfl, by decide +kernel, rfl, by decide +kernel, by decide +kernel⟩
abbrev N_law_done : List Str := ["lender", "deed", "name", "at", "word", "caught", "e"]
theorem sc_law_done : FnScope N_law_done ["lender", "deed"] (defScope s_law_done) := ⟨rfl, rfl, rfl, by decide +kernel, rfl, by decide +kernel, by decide +kernel⟩
abbrev N_law_deed : List Str := ["pot", "hands", "side", "at", "word"]
theorem sc_law_deed : FnScope N_law_deed ["pot", "hands"] (defScope s_law_deed) := ⟨rfl, rfl, rfl, by decide +kernel, rfl, by decide +kernel, by decide +kernel⟩
abbrev N_law_later : List Str := ["hands", "deed", "name", "at", "word", "side", "words", "syncs"]
theorem sc_law_later : FnScope N_law_later ["hands", "deed"] (defScope s_law_later) := ⟨rfl, rfl, rfl, by decide +kernel, rfl, by decide +kernel, by decide +kernel⟩
abbrev N_law_back : List Str := ["way", "deeds", "told", "lender", "k", "name", "at", "word", "ahead"]
theorem sc_law_back : FnScope N_law_back ["way", "deeds", "told"] (defScope s_law_back) := ⟨rfl, rfl, rfl, by decide +kernel, rfl, by decide +kernel, by decide +kernel⟩
abbrev N_law : List Str := ["script", "pot", "first", "hit", "hands", "told", "deeds", "texts", "cell", "deed", "later", "found", "lender"]
theorem sc_law : FnScope N_law ["script"] (defScope s_law) := ⟨rfl, rfl, rfl, by decide +kernel, rfl, by decide +kernel, by decide +kernel⟩


def sp_has_steps : FS := fun us h Po _ => match us with
  | [u, .str m] => typed1 u = true ∧ Po (.val (.bl (hasSteps u m))) h
  | _ => False
def b1_has_steps : US :=
  (uSeq (uIf (uNot (uB (uApp bIsi (uCons (uVar 3) (uCons (uVal (.ty "str")) uNil))))) (uRet (uVal (.bl false))) uNext)
  (uIf (uB (uBin bEq (uVar 3) (uVar 1))) (uAug 2 (bInt2 (fun _ _ => True) fun i j => i + j) (uVal (.int 1))) (uIf (uB (uBin (bIn true) (uVar 3) (uVal c_STEPS))) (uRet (uVal (.bl false))) uNext)))
/-- slots: 0 value, 1 mark, 2 marks, 3 step -/
def p_has_steps : US :=
  (uSeq (uIf (uNot (uB (uApp bIsi (uCons (uVar 0) (uCons (uVal (.ty "tuple")) uNil))))) (uRet (uVal (.bl false))) uNext)
  (uSeq (uSet 2 (uVal (.int 0)))
  (uSeq (uFor (uItems (uVar 0)) (gN 3) b1_has_steps)
  (uRet (uBin bEq (uVar 2) (uVal (.int 1)))))))


def sp_is_driver : FS := fun us h Po _ => match us with
  | [u] => typedD u = true ∧ Po (.val (.bl (isDriver u))) h
  | _ => False
/-- slots: 0 value, 1 way, 2 post, 3 reap -/
def p_is_driver : US :=
  (uSeq (uIf (uOr (uNot (uB (uApp bIsi (uCons (uVar 0) (uCons (uVal (.ty "tuple")) uNil))))) (uB (uBin bNe (uApp bLen (uCons (uVar 0) uNil)) (uVal (.int 3))))) (uRet (uVal (.bl false))) uNext)
  (uSeq (uAsg (gT [1, 2, 3]) (uVar 0))
  (uRet (uV (uAnd (uB (uApp bIsi (uCons (uVar 1) (uCons (uVal (.ty "str")) uNil)))) (uAnd (uB (uBin (bIn false) (uVar 1) (uVal c_WAYS))) (uAnd (uB (uCall 2 sp_has_steps [] (uCons (uVar 2) (uCons (uVal (.str "lend")) uNil)))) (uB (uCall 2 sp_has_steps [] (uCons (uVar 3) (uCons (uVal (.str "take")) uNil)))))))))))


def sp_need_driver : FS := fun us h Po Pe => match us with
  | [u] => typedD u = true ∧ (isDriver u = true → Po (.val .non) h) ∧ (isDriver u = false → Pe ⟨"InvalidDriver", none⟩ h)
  | _ => False
/-- slots: 0 driver -/
def p_need_driver : US :=
  (uIf (uNot (uB (uCall 1 sp_is_driver [] (uCons (uVar 0) uNil)))) (uRaise "InvalidDriver") uNext)


def sp_touches : FS := fun us h Po _ => ∃ y s, DR y s ∧ us = [drvU y s] ∧ Po (.val (.bl (touchS s))) h
/-- slots: 0 driver, 1 way, 2 post, 3 reap, 4 lent -/
def p_touches : US :=
  (uSeq (uDrop (uCall 1 sp_need_driver [] (uCons (uVar 0) uNil)))
  (uSeq (uAsg (gT [1, 2, 3]) (uVar 0))
  (uSeq (uSet 4 (uBin bAdd (uSl bSl (uVar 2) (uP (uBin bAdd (uIdxT 2 (uCons (uVal (.str "lend")) uNil)) (uVal (.int 1)))) uNoP) (uSl bSl (uVar 3) uNoP (uP (uIdxT 3 (uCons (uVal (.str "take")) uNil))))))
  (uRet (uV (uOr (uB (uBin (bIn false) (uVal (.str "fill")) (uVar 4))) (uB (uBin (bIn false) (uVal (.str "read")) (uVar 4)))))))))


def sp_law_pot : FS := fun us h Po _ => match us with
  | [.int _] => ∀ a b : Int, 0 ≤ b → b < 2 ^ 60 → Po (.own [.int a, .int b, .int 0]) h
  | _ => False
/-- slots: 0 cell, 1 rest -/
def p_law_pot : US :=
  (uSeq (uSet 1 (uVal (.int 0)))
  (uSeq (uIf (uB (uBin bGe (uVar 0) (uBin bPow (uVal (.int 10)) (uVal (.int 18))))) (uSet 1 (uBin bSub (uVar 0) (uBin bPow (uVal (.int 10)) (uVal (.int 18))))) uNext)
  (uRet (uApp bLst (uCons (uVar 1) (uCons (uBin bMod (uApp bInt (uCons (uVar 0) uNil)) (uVal (.int 1000000000000000177))) (uCons (uVal (.int 0)) uNil)))))))


def sp_law_pick : FS := fun us h Po _ => match us with
  | [.ref i, .int m] => ∃ k, PotAt h i k ∧ k < 2 ^ 59 ∧ 0 < m ∧ m.natAbs.log2 < 9000 ∧ ∀ (h' : Hv) (d : Int), PotAt h' i (k + 1) → Rest i h h' → 0 ≤ d → d < m → Po (.val (.int d)) h'
  | _ => False
/-- slots: 0 pot, 1 many, 2 digit, 3 stir -/
def p_law_pick : US :=
  (uSeq (uIf (uB (uBin bGt (uBin bIx (uVar 0) (uVal (.int 0))) (uVal (.int 0)))) (uSeq (uSet 2 (uBin bMod (uApp bInt (uCons (uBin bIx (uVar 0) (uVal (.int 0))) uNil)) (uVar 1)))
  (uSeq (uSetIx 0 (uVal (.int 0)) (uBin bFdiv (uBin bIx (uVar 0) (uVal (.int 0))) (uVar 1)))
  (uRet (uVar 2)))) uNext)
  (uSeq (uAugIx 0 (bInt2 (fun _ _ => True) fun i j => i + j) (uVal (.int 2)) (uVal (.int 1)))
  (uSeq (uSet 3 (uBin bAdd (uBin bMul (uBin bAdd (uBin bIx (uVar 0) (uVal (.int 1))) (uVal (.int 29))) (uBin bAdd (uBin bMul (uBin bIx (uVar 0) (uVal (.int 2))) (uBin bIx (uVar 0) (uVal (.int 2)))) (uVal (.int 431)))) (uBin bMul (uVal (.int 7907)) (uBin bIx (uVar 0) (uVal (.int 2))))))
  (uSeq (uSet 3 (uBin bMod (uApp bInt (uCons (uBin bAdd (uBin bMul (uVar 3) (uVar 3)) (uBin bMul (uVal (.int 611953)) (uVar 3))) uNil)) (uVal (.int 2305843009213693951))))
  (uSeq (uSet 3 (uBin bMul (uBin bAdd (uBin bFdiv (uVar 3) (uVal (.int 1024))) (uVal (.int 5))) (uBin bAdd (uBin bAdd (uBin bFdiv (uVar 3) (uVal (.int 1048576))) (uBin bMul (uVal (.int 33)) (uBin bIx (uVar 0) (uVal (.int 2))))) (uVal (.int 1)))))
  (uRet (uBin bMod (uBin bFdiv (uBin bMod (uApp bInt (uCons (uVar 3) uNil)) (uVal (.int 2147483629))) (uVal (.int 32))) (uVar 1))))))))


def sp_law_among : FS := fun us h Po _ => match us with
  | [.ref i, .lst xs] => ∃ k, PotAt h i k ∧ k < 2 ^ 59 ∧ 0 < xs.length ∧ xs.length < 2 ^ 60 ∧ ∀ (h' : Hv) (j : Nat) (x : U), PotAt h' i (k + 1) → Rest i h h' → xs[j]? = some x → Po (.val x) h'
  | _ => False
/-- slots: 0 pot, 1 some -/
def p_law_among : US :=
  (uRet (uBin bIx (uVar 1) (uCall 2 sp_law_pick [] (uCons (uVar 0) (uCons (uApp bLen (uCons (uVar 1) uNil)) uNil)))))


def sp_law_steps : FS := fun us h Po _ => match us with
  | [.ref i, .str m, .int n] => ∃ k, PotAt h i k ∧ k < 2 ^ 57 ∧ 0 ≤ n ∧ n ≤ 8 ∧ isStep m = false ∧ ∀ (h' : Hv) (ws : List U), PotAt h' i (k + 20) → Rest i h h' → hasSteps (.tup ws) m = true → 1 ≤ ws.length → (ws.length : Int) ≤ n + 1 → Po (.val (.tup ws)) h'
  | _ => False
/-- slots: 0 pot, 1 mark, 2 most, 3 some, 4 found, 5 at, 6 k -/
def p_law_steps : US :=
  (uSeq (uSet 3 (uApp bLst (uCons (uVal (.str "fill")) (uCons (uVal (.str "read")) (uCons (uVal (.str "clean")) (uCons (uVal (.str "drop")) (uCons (uVal (.str "flush")) (uCons (uVal (.str "guard")) uNil))))))))
  (uSeq (uSet 4 (uLc (uIter bRange1 (uCons (uCall 2 sp_law_pick [] (uCons (uVar 0) (uCons (uBin bAdd (uVar 2) (uVal (.int 1))) uNil))) uNil)) (gN 6) uYes (uCall 2 sp_law_among [] (uCons (uVar 0) (uCons (uVar 3) uNil))) [6]))
  (uSeq (uSet 5 (uCall 2 sp_law_pick [] (uCons (uVar 0) (uCons (uBin bAdd (uApp bLen (uCons (uVar 4) uNil)) (uVal (.int 1))) uNil))))
  (uRet (uApp bTuple (uCons (uBin bAdd (uBin bAdd (uSl bSl (uVar 4) uNoP (uP (uVar 5))) (uApp bLst (uCons (uVar 1) uNil))) (uSl bSl (uVar 4) (uP (uVar 5)) uNoP)) uNil))))))


def sp_law_driver : FS := fun us h Po _ => match us with
  | [.ref i, .int n] => ∃ k, PotAt h i k ∧ k < 2 ^ 56 ∧ 0 ≤ n ∧ n ≤ 8 ∧ ∀ (h' : Hv) (w : U), PotAt h' i (k + 50) → Rest i h h' → GearB (n.toNat + 1) w → Po (.val w) h'
  | _ => False
/-- slots: 0 pot, 1 most, 2 way -/
def p_law_driver : US :=
  (uSeq (uSet 2 (uCall 2 sp_law_among [] (uCons (uVar 0) (uCons (uApp bLst (uCons (uVal (.str "in")) (uCons (uVal (.str "out")) (uCons (uVal (.str "both")) uNil)))) uNil))))
  (uRet (uApp bTup (uCons (uVar 2) (uCons (uCall 3 sp_law_steps [] (uCons (uVar 0) (uCons (uVal (.str "lend")) (uCons (uVar 1) uNil)))) (uCons (uCall 3 sp_law_steps [] (uCons (uVar 0) (uCons (uVal (.str "take")) (uCons (uVar 1) uNil)))) uNil))))))


def sp_is_whole : FS := fun us h Po _ => match us with
  | [u, .int l] => typed u = true ∧ Po (.val (.bl (isWhole u l))) h
  | _ => False
/-- slots: 0 value, 1 least -/
def p_is_whole : US :=
  (uRet (uV (uAnd (uB (uApp bIsi (uCons (uVar 0) (uCons (uVal (.ty "int")) uNil)))) (uAnd (uB (uV (uNot (uB (uApp bIsi (uCons (uVar 0) (uCons (uVal (.ty "bool")) uNil))))))) (uB (uBin bGe (uVar 0) (uVar 1)))))))


def sp_need_hand : FS := fun us h Po Pe => match us with
  | [u] => typed u = true ∧ (isHand u = true → Po (.val .non) h) ∧ (isHand u = false → Pe ⟨"InvalidHand", none⟩ h)
  | _ => False
/-- slots: 0 hand -/
def p_need_hand : US :=
  (uIf (uOr (uNot (uB (uApp bIsi (uCons (uVar 0) (uCons (uVal (.ty "str")) uNil))))) (uB (uBin (bIn true) (uVar 0) (uApp bTup (uCons (uVal (.str "post")) (uCons (uVal (.str "reap")) uNil)))))) (uRaise "InvalidHand") uNext)


def sp_hand_steps : FS := fun us h Po _ => match us with
  | [.tup [_, b, c], .str x] => Po (.val (if x = "post" then b else c)) h
  | _ => False
/-- slots: 0 driver, 1 hand -/
def p_hand_steps : US :=
  (uSeq (uIf (uB (uBin bEq (uVar 1) (uVal (.str "post")))) (uRet (uBin bIx (uVar 0) (uVal (.int 1)))) uNext)
  (uRet (uBin bIx (uVar 0) (uVal (.int 2)))))


def sp_with_steps : FS := fun us h Po _ => match us with
  | [.tup [a, b, c], .str x, s] => Po (.val (if x = "post" then .tup [a, s, c] else .tup [a, b, s])) h
  | _ => False
/-- slots: 0 driver, 1 hand, 2 steps -/
def p_with_steps : US :=
  (uSeq (uIf (uB (uBin bEq (uVar 1) (uVal (.str "post")))) (uRet (uApp bTup (uCons (uBin bIx (uVar 0) (uVal (.int 0))) (uCons (uVar 2) (uCons (uBin bIx (uVar 0) (uVal (.int 2))) uNil))))) uNext)
  (uRet (uApp bTup (uCons (uBin bIx (uVar 0) (uVal (.int 0))) (uCons (uBin bIx (uVar 0) (uVal (.int 1))) (uCons (uVar 2) uNil))))))


def sp_put_in : FS := fun us h Po Pe => ∃ y s b i x, DR y s ∧ us = [drvU y s, .str (hdS b), .int (i : Nat), .str (encP x)] ∧ (∀ t, later2 s ⟨b, i, some x⟩ = some t → Po (.val (drvU y t)) h) ∧ (later2 s ⟨b, i, some x⟩ = none → Pe ⟨"InvalidStep", none⟩ h)
/-- slots: 0 driver, 1 hand, 2 index, 3 step, 4 steps -/
def p_put_in : US :=
  (uSeq (uDrop (uCall 1 sp_need_driver [] (uCons (uVar 0) uNil)))
  (uSeq (uDrop (uCall 1 sp_need_hand [] (uCons (uVar 1) uNil)))
  (uSeq (uSet 4 (uCall 2 sp_hand_steps [] (uCons (uVar 0) (uCons (uVar 1) uNil))))
  (uSeq (uIf (uOr (uNot (uB (uCall 2 sp_is_whole [.int 0] (uCons (uVar 2) uNil)))) (uB (uBin bGt (uVar 2) (uApp bLen (uCons (uVar 4) uNil))))) (uRaise "InvalidStep") uNext)
  (uSeq (uIf (uOr (uNot (uB (uApp bIsi (uCons (uVar 3) (uCons (uVal (.ty "str")) uNil))))) (uB (uBin (bIn true) (uVar 3) (uVal c_SYNCS)))) (uRaise "InvalidStep") uNext)
  (uRet (uCall 3 sp_with_steps [] (uCons (uVar 0) (uCons (uVar 1) (uCons (uBin bAdd (uBin bAdd (uSl bSl (uVar 4) uNoP (uP (uVar 2))) (uApp bTup (uCons (uVar 3) uNil))) (uSl bSl (uVar 4) (uP (uVar 2)) uNoP)) uNil))))))))))


def sp_taken_out : FS := fun us h Po Pe => ∃ y s b i, DR y s ∧ us = [drvU y s, .str (hdS b), .int (i : Nat)] ∧ (∀ t, later2 s ⟨b, i, none⟩ = some t → Po (.val (drvU y t)) h) ∧ (later2 s ⟨b, i, none⟩ = none → Pe ⟨"InvalidStep", none⟩ h)
/-- slots: 0 driver, 1 hand, 2 index, 3 steps -/
def p_taken_out : US :=
  (uSeq (uDrop (uCall 1 sp_need_driver [] (uCons (uVar 0) uNil)))
  (uSeq (uDrop (uCall 1 sp_need_hand [] (uCons (uVar 1) uNil)))
  (uSeq (uSet 3 (uCall 2 sp_hand_steps [] (uCons (uVar 0) (uCons (uVar 1) uNil))))
  (uSeq (uIf (uOr (uNot (uB (uCall 2 sp_is_whole [.int 0] (uCons (uVar 2) uNil)))) (uOr (uB (uBin bGe (uVar 2) (uApp bLen (uCons (uVar 3) uNil)))) (uB (uBin (bIn true) (uBin bIx (uVar 3) (uVar 2)) (uVal c_SYNCS))))) (uRaise "InvalidStep") uNext)
  (uRet (uCall 3 sp_with_steps [] (uCons (uVar 0) (uCons (uVar 1) (uCons (uBin bAdd (uSl bSl (uVar 3) uNoP (uP (uVar 2))) (uSl bSl (uVar 3) (uP (uBin bAdd (uVar 2) (uVal (.int 1)))) uNoP)) uNil)))))))))


def sp_law_done : FS := fun us h Po _ => ∃ y s d, DR y s ∧ us = [drvU y s, deedU d] ∧ Po (.val (foundU y (later2 s d))) h
/-- slots: 0 lender, 1 deed, 2 name, 3 at, 4 word, 5 caught, 6 e -/
def p_law_done : US :=
  (uSeq (uAsg (gT [2, 3, 4]) (uVar 1))
  (uSeq (uSet 5 (uVal .non))
  (uSeq (uTry ["InvalidStep"] 6 5 (uSeq (uIf (uB (uBin (bIsN false) (uVar 4) (uVal .non))) (uRet (uCall 3 sp_taken_out [] (uCons (uVar 0) (uCons (uVar 2) (uCons (uVar 3) uNil))))) uNext)
  (uRet (uCall 4 sp_put_in [] (uCons (uVar 0) (uCons (uVar 2) (uCons (uVar 3) (uCons (uVar 4) uNil))))))))
  (uSeq (uIf (uB (uApp bIse (uCons (uVar 5) (uCons (uVal (.ecl "InvalidStep")) uNil)))) (uRet (uVal .non)) uNext)
  (uRet (uVal (.str "another error")))))))


def sp_law_deed : FS := fun us h Po _ => ∃ i k s, PotAt h i k ∧ k < 2 ^ 56 ∧ s.1.length ≤ 100 ∧ s.2.length ≤ 100 ∧ us = [.ref i, handsU s] ∧ ∀ (h' : Hv) (d : Deed), Rest i h h' → Po (.val (deedU d)) h'
/-- slots: 0 pot, 1 hands, 2 side, 3 at, 4 word -/
def p_law_deed : US :=
  (uSeq (uSet 2 (uCall 2 sp_law_pick [] (uCons (uVar 0) (uCons (uVal (.int 2)) uNil))))
  (uSeq (uSet 3 (uCall 2 sp_law_pick [] (uCons (uVar 0) (uCons (uBin bAdd (uBin bAdd (uApp bLen (uCons (uBin bIx (uVar 1) (uVar 2)) uNil)) (uVal (.int 1))) (uApp bInt (uCons (uBin bEq (uCall 2 sp_law_pick [] (uCons (uVar 0) (uCons (uVal (.int 5)) uNil))) (uVal (.int 0))) uNil))) uNil))))
  (uSeq (uSet 4 (uVal .non))
  (uSeq (uIf (uB (uBin bLt (uCall 2 sp_law_pick [] (uCons (uVar 0) (uCons (uVal (.int 5)) uNil))) (uVal (.int 3)))) (uSet 4 (uCall 2 sp_law_among [] (uCons (uVar 0) (uCons (uBin bAdd (uBin bMul (uApp bLst (uCons (uVal (.str "clean")) (uCons (uVal (.str "drop")) (uCons (uVal (.str "flush")) (uCons (uVal (.str "guard")) uNil))))) (uVal (.int 5))) (uApp bLst (uCons (uVal (.str "fill")) (uCons (uVal (.str "read")) (uCons (uVal (.str "lend")) (uCons (uVal (.str "take")) uNil)))))) uNil)))) uNext)
  (uRet (uApp bTup (uCons (uBin bIx (uApp bLst (uCons (uVal (.str "post")) (uCons (uVal (.str "reap")) uNil))) (uVar 2)) (uCons (uVar 3) (uCons (uVar 4) uNil)))))))))


def sp_law_later : FS := fun us h Po _ => ∃ s d, s.1.length ≤ 100 ∧ s.2.length ≤ 100 ∧ us = [handsU s, deedU d] ∧ Po (.val (handsO (later2 s d))) h
/-- slots: 0 hands, 1 deed, 2 name, 3 at, 4 word, 5 side, 6 words, 7 syncs -/
def p_law_later : US :=
  (uSeq (uAsg (gT [2, 3, 4]) (uVar 1))
  (uSeq (uSet 5 (uIdxG (uApp bLst (uCons (uVal (.str "post")) (uCons (uVal (.str "reap")) uNil))) (uCons (uVar 2) uNil)))
  (uSeq (uSetO 6 (uApp bList (uCons (uBin bIx (uVar 0) (uVar 5)) uNil)))
  (uSeq (uSet 7 (uApp bLst (uCons (uVal (.str "clean")) (uCons (uVal (.str "drop")) (uCons (uVal (.str "flush")) (uCons (uVal (.str "guard")) uNil))))))
  (uSeq (uIf (uOr (uB (uBin bGt (uVar 3) (uLenO 6))) (uAnd (uB (uBin (bIsN false) (uVar 4) (uVal .non))) (uOr (uB (uBin bEq (uVar 3) (uLenO 6))) (uB (uBin (bIn true) (uIxO 6 (uVar 3)) (uVar 7)))))) (uRet (uVal .non)) uNext)
  (uSeq (uIf (uB (uBin (bIsN false) (uVar 4) (uVal .non))) (uDrop (uMt 6 fPop (uCons (uVar 3) uNil))) (uIf (uB (uBin (bIn true) (uVar 4) (uVar 7))) (uRet (uVal .non)) (uDrop (uMt 6 fInsert (uCons (uVar 3) (uCons (uVar 4) uNil))))))
  (uRet (uBin bIx (uApp bLst (uCons (uApp bLst (uCons (uVar 6) (uCons (uBin bIx (uVar 0) (uVal (.int 1))) uNil))) (uCons (uApp bLst (uCons (uBin bIx (uVar 0) (uVal (.int 0))) (uCons (uVar 6) uNil))) uNil))) (uVar 5)))))))))


def sp_law_back : FS := fun us h Po _ => ∃ y rs s, Chain y rs s ∧ rs.length ≤ 100 ∧ us = [.str (encWy y), .lst (rs.reverse.map entU), .lst ((rs.reverse.map fun e => drvU y e.2) ++ [drvU y s])] ∧ Po (.val (.bl true)) h
def b1_law_back : US :=
  (uSeq (uAsg (gT [5, 6, 7, 8]) (uBin bIx (uVar 1) (uBin bSub (uBin bSub (uApp bLen (uCons (uVar 1) uNil)) (uVal (.int 1))) (uVar 4))))
  (uSeq (uIf (uB (uBin (bIsN false) (uVar 7) (uVal .non))) (uSet 3 (uCall 4 sp_put_in [] (uCons (uVar 3) (uCons (uVar 5) (uCons (uVar 6) (uCons (uBin bIx (uBin bIx (uVar 8) (uIdxG (uApp bLst (uCons (uVal (.str "post")) (uCons (uVal (.str "reap")) uNil))) (uCons (uVar 5) uNil))) (uVar 6)) uNil)))))) (uSet 3 (uCall 3 sp_taken_out [] (uCons (uVar 3) (uCons (uVar 5) (uCons (uVar 6) uNil))))))
  (uIf (uOr (uB (uBin bNe (uApp bRepr (uCons (uVar 3) uNil)) (uApp bRepr (uCons (uApp bTup (uCons (uVar 0) (uCons (uApp bTuple (uCons (uBin bIx (uVar 8) (uVal (.int 0))) uNil)) (uCons (uApp bTuple (uCons (uBin bIx (uVar 8) (uVal (.int 1))) uNil)) uNil)))) uNil)))) (uB (uBin bNe (uVar 3) (uBin bIx (uVar 2) (uBin bSub (uBin bSub (uApp bLen (uCons (uVar 1) uNil)) (uVal (.int 1))) (uVar 4)))))) (uRet (uVal (.bl false))) uNext)))
/-- slots: 0 way, 1 deeds, 2 told, 3 lender, 4 k, 5 name, 6 at, 7 word, 8 ahead -/
def p_law_back : US :=
  (uSeq (uSet 3 (uBin bIx (uVar 2) (uNeg (uVal (.int 1)))))
  (uSeq (uFor (uIter bRange1 (uCons (uApp bLen (uCons (uVar 1) uNil)) uNil)) (gN 4) b1_law_back)
  (uRet (uVal (.bl true)))))


def sp_law : FS := fun us h Po _ => match us with
  | [.scr ns] => ns.length ≤ 63 ∧ ∀ h', Po (.val (.bl true)) h'
  | _ => False
def b1_law : US :=
  (uSeq (uSet 9 (uCall 2 sp_law_deed [] (uCons (uShr (uCall 1 sp_law_pot [] (uCons (uVar 8) uNil))) (uCons (uVar 4) uNil))))
  (uSeq (uSet 10 (uCall 2 sp_law_later [] (uCons (uVar 4) (uCons (uVar 9) uNil))))
  (uSeq (uSet 11 (uCall 2 sp_law_done [] (uCons (uIxO 5 (uNeg (uVal (.int 1)))) (uCons (uVar 9) uNil))))
  (uSeq (uIf (uAnd (uB (uBin (bIsN false) (uVar 10) (uVal .non))) (uB (uBin (bIsN true) (uVar 11) (uVal .non)))) (uRet (uVal (.bl false))) uNext)
  (uIf (uB (uBin (bIsN true) (uVar 10) (uVal .non))) (uSeq (uIf (uOr (uB (uBin bNe (uApp bRepr (uCons (uVar 11) uNil)) (uApp bRepr (uCons (uApp bTup (uCons (uBin bIx (uVar 2) (uVal (.int 0))) (uCons (uApp bTuple (uCons (uBin bIx (uVar 10) (uVal (.int 0))) uNil)) (uCons (uApp bTuple (uCons (uBin bIx (uVar 10) (uVal (.int 1))) uNil)) uNil)))) uNil)))) (uB (uBin (bIsB true) (uCall 1 sp_is_driver [] (uCons (uVar 11) uNil)) (uVal (.bl true))))) (uRet (uVal (.bl false))) uNext)
  (uSeq (uIf (uB (uBin bNe (uApp bRepr (uCons (uApp bLst (uCons (uCall 1 sp_touches [] (uCons (uVar 11) uNil)) uNil)) uNil)) (uApp bRepr (uCons (uApp bLst (uCons (uVar 3) uNil)) uNil)))) (uRet (uVal (.bl false))) uNext)
  (uSeq (uDrop (uMt 6 fAppend (uCons (uBin bAdd (uVar 9) (uApp bTup (uCons (uVar 4) uNil))) uNil)))
  (uSeq (uDrop (uMt 5 fAppend (uCons (uVar 11) uNil)))
  (uSeq (uDrop (uMt 7 fAppend (uCons (uApp bRepr (uCons (uVar 11) uNil)) uNil)))
  (uSet 4 (uVar 10))))))) uNext)))))
/-- slots: 0 script, 1 pot, 2 first, 3 hit, 4 hands, 5 told, 6 deeds, 7 texts, 8 cell, 9 deed, 10 later, 11 found, 12 lender -/
def p_law : US :=
  (uSeq (uSetR 1 (uCall 1 sp_law_pot [] (uCons (uBin bIx (uBin bAdd (uApp bLst (uCons (uVal (.int 3)) uNil)) (uVar 0)) (uNeg (uVal (.int 1)))) uNil)))
  (uSeq (uSet 2 (uCall 2 sp_law_driver [] (uCons (uVar 1) (uCons (uCall 2 sp_law_among [] (uCons (uVar 1) (uCons (uApp bLst (uCons (uVal (.int 0)) (uCons (uVal (.int 1)) (uCons (uVal (.int 2)) (uCons (uVal (.int 3)) (uCons (uVal (.int 5)) uNil)))))) uNil))) uNil))))
  (uSeq (uSet 3 (uCall 1 sp_touches [] (uCons (uVar 2) uNil)))
  (uSeq (uSet 4 (uApp bLst (uCons (uApp bList (uCons (uBin bIx (uVar 2) (uVal (.int 1))) uNil)) (uCons (uApp bList (uCons (uBin bIx (uVar 2) (uVal (.int 2))) uNil)) uNil))))
  (uSeq (uSetO 5 (uApp bLst (uCons (uVar 2) uNil)))
  (uSeq (uSetO 6 (uApp bLst uNil))
  (uSeq (uSetO 7 (uApp bLst (uCons (uApp bRepr (uCons (uVar 2) uNil)) uNil)))
  (uSeq (uFor (uItems (uBin bAdd (uApp bLst (uCons (uVal (.int 38729833462074168851792653997824)) uNil)) (uSl bSl (uVar 0) uNoP (uP (uVal (.int 59)))))) (gN 8) b1_law)
  (uRet (uV (uAnd (uB (uCall 3 sp_law_back [] (uCons (uBin bIx (uVar 2) (uVal (.int 0))) (uCons (uVar 6) (uCons (uVar 5) uNil))))) (uB (uBin bEq (uLc (uItems (uVar 5)) (gN 12) uYes (uApp bRepr (uCons (uVar 12) uNil)) [12]) (uVar 7))))))))))))))

end Vi.Law

namespace Vi.Law
open PySem PySem.Spec PyProof.Rows L2 Vi
variable [WW]

theorem in_STEPS (x : Str) : inU? (.str x) c_STEPS = some (isStep x) := by
  have e := inU_tup x ["fill", "read", "clean", "drop", "flush", "guard"]
  rw [show c_STEPS = .tup ((["fill", "read", "clean", "drop", "flush", "guard"] : List Str).map U.str) from rfl, e]
  simp [isStep, isSync, Bool.decide_or]
theorem loop_has_steps {v : Option Sv} {m : Str} {h : Hv} {P : UD} : ∀ (l : List U) (k : Nat) (e3 : Option Sv), typedAll l = true → (stepsOk m l = true → ∀ e, P.nx [v, some (.val (.str m)), some (.val (.int ((k + marksOf m l : Nat) : Int))), e] h) →
    (stepsOk m l = false → ∀ env, P.rt (.val (.bl false)) env h) → forU (gN 3) b1_has_steps P l [v, some (.val (.str m)), some (.val (.int (k : Int))), e3] h
  | [], k, e3, _, h1, _ => by
    simpa [forU, stepsOk, marksOf] using h1 rfl e3
  | u :: us, k, e3, ht, h1, h2 => by
    simp only [typedAll, List.all_cons, Bool.and_eq_true] at ht
    have ih := fun k' => loop_has_steps (v := v) (m := m) (h := h) (P := P) us k' (some (.val u)) ht.2
    rw [forU]
    generalize forU (gN 3) b1_has_steps P us = F at ih ⊢
    cases u with
    | str x =>
      have e1 : ((k : Int) + 1) = ((k + 1 : Nat) : Int) := by omega
      by_cases hx : x = m
      · subst hx
        simp [b1_has_steps, isT]; rw [e1]
        refine ih (k + 1) (fun hs e => ?_) (fun hs env => ?_)
        · have := h1 (by simp [stepsOk, hs]) e
          rw [show k + 1 + marksOf x us = k + marksOf x (.str x :: us) by simp [marksOf]; omega]
          exact this
        · exact h2 (by simp [stepsOk, hs]) env
      · by_cases hs : isStep x = true
        · simp [b1_has_steps, isT, hx, in_STEPS, hs]
          refine ih k (fun hs' e => ?_) (fun hs' env => ?_)
          · have := h1 (by simp [stepsOk, hs, hs']) e
            rw [show k + marksOf m us = k + marksOf m (.str x :: us) by simp [marksOf, hx]]
            exact this
          · exact h2 (by simp [stepsOk, hs']) env
        · simp [b1_has_steps, isT, hx, in_STEPS, hs]
          exact h2 (by simp [stepsOk, hx, hs]) _
    | _ =>
      simp [b1_has_steps, isT, typed] at ht ⊢ <;> exact h2 (by simp [stepsOk]) _
theorem conf_has_steps : ∀ us h Po Pe, us.length = 2 → sp_has_steps us h Po Pe → p_has_steps (startE N_has_steps us) h (bodyD Po Pe) := by
  intro us h Po Pe hl hs
  match us, hl with
  | [u, w], _ =>
    unfold sp_has_steps at hs
    split at hs
    · rename_i u' m e
      cases e
      obtain ⟨ht, hp⟩ := hs
      cases u with
      | tup us =>
        simp [p_has_steps, startE, N_has_steps, isT]
        refine loop_has_steps us 0 none ht (fun h1 e => ?_) (fun h1 env => ?_)
        · simp
          simp [hasSteps, h1] at hp
          rw [show (decide (((marksOf m us : Nat) : Int) = 1)) = decide (marksOf m us = 1) by simp only [decide_eq_decide]; omega]
          exact hp
        · simpa [hasSteps, h1] using hp
      | _ => simp [p_has_steps, startE, N_has_steps, isT, typed1, typed, hasSteps] at ht hp ⊢ <;> exact hp
    · exact hs.elim

theorem words_of {m : Str} : ∀ {l : List U}, stepsOk m l = true → ∀ u ∈ l, ∃ x, u = .str x ∧ (x = m ∨ isStep x = true)
  | [], _, u, h => by cases h
  | a :: l, hs, u, h => by
    cases a with
    | str x =>
      simp [stepsOk] at hs
      rcases List.mem_cons.mp h with rfl | h
      · exact ⟨x, rfl, hs.1⟩
      · exact words_of hs.2 u h
    | _ => simp [stepsOk] at hs
theorem in_WAYS (x : Str) : inU? (.str x) c_WAYS = some (isWay x) := by
  rw [show c_WAYS = .tup ((["in", "out", "both"] : List Str).map U.str) from rfl, inU_tup]
  rfl
theorem three_of {u : List U} (h : u.length = 3) : ∃ a b c, u = [a, b, c] := match u, h with
  | [a, b, c], _ => ⟨a, b, c, rfl⟩
theorem conf_is_driver : ∀ us h Po Pe, us.length = 1 → sp_is_driver us h Po Pe → p_is_driver (startE N_is_driver us) h (bodyD Po Pe) := by
  intro us h Po Pe hl hs
  unfold sp_is_driver at hs
  split at hs
  · rename_i u
    obtain ⟨ht, hp⟩ := hs
    cases u with
    | tup us =>
      by_cases h3 : us.length = 3
      · obtain ⟨a, b, c, rfl⟩ := three_of h3
        simp only [typedD, Bool.and_eq_true] at ht
        obtain ⟨ta, tb, tc⟩ := ht
        cases a with
        | str x =>
          by_cases hw : isWay x = true
          · by_cases hb : hasSteps b "lend" = true
            · simp [p_is_driver, startE, N_is_driver, isT, in_WAYS, hw, sp_has_steps, tb, tc, hb]
              simpa [isDriver, hw, hb] using hp
            · simp [p_is_driver, startE, N_is_driver, isT, in_WAYS, hw, sp_has_steps, tb, tc, hb]
              simpa [isDriver, hw, hb] using hp
          · simp [p_is_driver, startE, N_is_driver, isT, in_WAYS, hw]
            simpa [isDriver, hw] using hp
        | _ => simp [p_is_driver, startE, N_is_driver, isT, typed] at ta ⊢ <;> simpa [isDriver] using hp
      · have hd : isDriver (.tup us) = false := by
          unfold isDriver
          split
          · rename_i e
            cases e
            exact absurd rfl h3
          · rfl
        rw [hd] at hp
        have h3' : ¬ ((us.length : Int) = 3) := by omega
        simp [p_is_driver, startE, N_is_driver, isT, h3']
        exact hp
    | _ => simp [p_is_driver, startE, N_is_driver, isT, typedD, typed, isDriver] at ht hp ⊢ <;> exact hp
  · exact hs.elim

theorem conf_need_driver : ∀ us h Po Pe, us.length = 1 → sp_need_driver us h Po Pe → p_need_driver (startE N_need_driver us) h (bodyD Po Pe) := by
  intro us h Po Pe hl hs
  unfold sp_need_driver at hs
  split at hs
  · rename_i u
    obtain ⟨ht, h1, h2⟩ := hs
    cases hd : isDriver u <;> simp [p_need_driver, startE, N_need_driver, sp_is_driver, ht, hd] <;> simp_all
  · exact hs.elim

theorem ne_rp : ¬ ("reap" : Str) = "post" := by decide
theorem cut_to {α : Type} {xs : List α} {i : Int} (h0 : 0 ≤ i) (h1 : i ≤ xs.length) : cutU xs none (some i) = xs.take i.toNat := by
  obtain ⟨k, rfl⟩ : ∃ k : Nat, i = (k : Int) := ⟨i.toNat, by omega⟩
  have hk : k ≤ xs.length := by omega
  simp [cutU, HT.sIx_nat, HT.sIx_none, Nat.min_eq_left hk]
theorem cut_from {α : Type} {xs : List α} {i : Int} (h0 : 0 ≤ i) (h1 : i ≤ xs.length) : cutU xs (some i) none = xs.drop i.toNat := by
  obtain ⟨k, rfl⟩ : ∃ k : Nat, i = (k : Int) := ⟨i.toNat, by omega⟩
  have hk : k ≤ xs.length := by omega
  simp [cutU, HT.sIx_nat, HT.sIx_none, Nat.min_eq_left hk]
  exact List.take_of_length_le (by simp)
theorem stepsOk_append (m : Str) : ∀ (a b : List U), stepsOk m (a ++ b) = (stepsOk m a && stepsOk m b)
  | [], b => by simp [stepsOk]
  | u :: us, b => by
    cases u <;> simp [stepsOk, stepsOk_append m us b, Bool.and_assoc]
theorem marksOf_append (m : Str) : ∀ (a b : List U), marksOf m (a ++ b) = marksOf m a + marksOf m b
  | [], b => by simp [marksOf]
  | u :: us, b => by
    cases u <;> simp [marksOf, marksOf_append m us b, Nat.add_assoc]
open Vi.T (Stp Ph Cp Q Wrd Kd Wy Hw Mv Cf CfOk Ok)
theorem stL_len (l : List Stp) : (stL l).length = l.length := by simp [stL]
theorem encP_inj {a b : Stp} (h : encP a = encP b) : a = b := by cases a <;> cases b <;> first | rfl | exact absurd h (by decide)
theorem stL_map (l : List Stp) : stL l = (l.map encP).map U.str := by simp [stL]
theorem in_stT (s : Stp) (l : List Stp) : inU? (.str (encP s)) (.tup (stL l)) = some (decide (s ∈ l)) := by
  rw [stL_map, inU_tup]
  congr 1
  exact decide_eq_decide.mpr ⟨fun h => by
    obtain ⟨x, hx, e⟩ := List.mem_map.mp h
    rw [← encP_inj e]; exact hx, fun h => List.mem_map.mpr ⟨s, h, rfl⟩⟩
theorem in_fill (l : List Stp) : inU? (.str "fill") (.tup (stL l)) = some (decide (Stp.fill ∈ l)) := in_stT .fill l
theorem in_read (l : List Stp) : inU? (.str "read") (.tup (stL l)) = some (decide (Stp.read ∈ l)) := in_stT .read l
theorem ix_first {l : List Stp} {x : Stp} (hx : x ∈ l) : (l.findIdx fun y => decide (y = x)) < l.length ∧ (∃ a, l[l.findIdx fun y => decide (y = x)]? = some a ∧ encP a = encP x) ∧ ∀ m, m < (l.findIdx fun y => decide (y = x)) → ∀ y, l[m]? = some y → ¬ encP y = encP x := by
  have h1 : (l.findIdx fun y => decide (y = x)) < l.length := List.findIdx_lt_length_of_exists ⟨x, hx, by simp⟩
  refine ⟨h1, ⟨x, ?_, rfl⟩, fun m hm y e z => ?_⟩
  · have h2 := List.findIdx_getElem (w := h1)
    rw [List.getElem?_eq_getElem h1]
    have : l[l.findIdx fun y => decide (y = x)] = x := by simpa using h2
    rw [this]
  · have hl : m < l.length := by omega
    rw [List.getElem?_eq_getElem hl] at e
    have := List.not_of_lt_findIdx hm
    cases e
    simp [encP_inj z] at this
theorem marks_len {m : Str} {x : Stp} (hm : encP x = m) : ∀ l : List Stp, marksOf m (stL l) = (l.filter fun y => decide (y = x)).length
  | [] => rfl
  | y :: l => by
    have ih := marks_len hm l
    show marksOf m (.str (encP y) :: stL l) = _
    simp only [marksOf]
    rw [ih]
    by_cases z : y = x
    · subst z
      simp [hm]
      omega
    · have : ¬ encP y = m := fun e => z (encP_inj (e.trans hm.symm))
      simp [z, this]
theorem ok_not {m : Str} {x : Stp} (h1 : ¬ encP x = m) (h2 : isStep (encP x) = false) : ∀ {l : List Stp}, stepsOk m (stL l) = true → x ∉ l
  | [], _, h => by cases h
  | y :: l, h, hm => by
    have h' : stepsOk m (.str (encP y) :: stL l) = true := h
    simp only [stepsOk, Bool.and_eq_true, Bool.or_eq_true, decide_eq_true_eq] at h'
    rcases List.mem_cons.mp hm with e | e
    · subst e
      rcases h'.1 with z | z
      · exact h1 z
      · rw [h2] at z; cases z
    · exact ok_not h1 h2 h'.2 e
theorem uniq {x : Stp} : ∀ {l : List Stp}, (l.filter fun y => decide (y = x)).length = 1 → x ∈ l ∧ ∀ i j : Nat, l[i]? = some x → l[j]? = some x → i = j
  | [], h => by cases h
  | y :: l, h => by
    by_cases z : y = x
    · subst z
      have h0 : l.filter (fun x => decide (x = y)) = [] := by
        rw [List.filter_cons_of_pos (by simp)] at h
        exact List.length_eq_zero_iff.mp (by simpa using h)
      have n : ∀ i, l[i]? ≠ some y := fun i e => by
        have := List.filter_eq_nil_iff.mp h0 y (List.mem_of_getElem? e)
        simp at this
      refine ⟨List.mem_cons_self, fun i j hi hj => ?_⟩
      cases i with
      | zero =>
        cases j with
        | zero => rfl
        | succ j => exact absurd (by simpa using hj) (n j)
      | succ i => exact absurd (by simpa using hi) (n i)
    · rw [List.filter_cons_of_neg (by simpa using z)] at h
      obtain ⟨h1, h2⟩ := uniq h
      refine ⟨List.mem_cons_of_mem _ h1, fun i j hi hj => ?_⟩
      cases i with
      | zero => exact absurd (by simpa using hi) z
      | succ i =>
        cases j with
        | zero => exact absurd (by simpa using hj) z
        | succ j => rw [h2 i j (by simpa using hi) (by simpa using hj)]
theorem marked {m : Str} {x z : Stp} (hm : encP x = m) (h1 : ¬ encP z = m) (h2 : isStep (encP z) = false) {l : List Stp} (h : hasSteps (.tup (stL l)) m = true) : x ∈ l ∧ (∀ i j : Nat, l[i]? = some x → l[j]? = some x → i = j) ∧ z ∉ l := by
  simp only [hasSteps, Bool.and_eq_true, decide_eq_true_eq] at h
  have h3 := uniq (x := x) (l := l) (by rw [← marks_len hm]; exact h.2)
  exact ⟨h3.1, h3.2, ok_not h1 h2 h.1⟩
theorem in_fillL (l : List Stp) : inU? (.str "fill") (.lst (stL l)) = some (decide (Stp.fill ∈ l)) := in_fill l
theorem in_readL (l : List Stp) : inU? (.str "read") (.lst (stL l)) = some (decide (Stp.read ∈ l)) := in_read l
theorem stL_all (l : List Stp) : allStr (stL l) = some (l.map encP) := by rw [stL_map]; exact allStr_map _
theorem stL_len' (l : List Stp) : (stL l).length = l.length := by simp [stL]
theorem cut_toL {l : List Stp} {i : Nat} (h : i ≤ l.length) : cutU (stL l) none (some ((i : Nat) : Int)) = stL (l.take i) := by
  rw [cut_to (by omega) (by rw [stL_len']; exact Int.ofNat_le.mpr h)]
  simp [stL]
theorem cut_fromL {l : List Stp} {i : Nat} (h : i ≤ l.length) : cutU (stL l) (some ((i : Nat) : Int)) none = stL (l.drop i) := by
  rw [cut_from (by omega) (by rw [stL_len']; exact Int.ofNat_le.mpr h)]
  simp [stL]

/-! ### deeds in plain -/
theorem sel_upd (b : Bool) (s : S2) (l : List Stp) : sel b (upd2 b s l) = l := by cases b <;> rfl
theorem upd_sel (b : Bool) (s : S2) : upd2 b s (sel b s) = s := by cases b <;> rfl
theorem upd_upd (b : Bool) (s : S2) (l l' : List Stp) : upd2 b (upd2 b s l) l' = upd2 b s l' := by cases b <;> rfl
/-- one step more at a place -/
def Ins (l l' : List Stp) : Prop := ∃ A x B, synB x = true ∧ l = A ++ B ∧ l' = A ++ x :: B
theorem lat_ins {l l' : List Stp} {i : Nat} {w : Option Stp} (h : lat l i w = some l') : Ins l l' ∨ Ins l' l := by
  cases w with
  | none =>
    simp only [lat] at h
    split at h
    · rename_i q
      cases h
      refine .inr ⟨l.take i, l.getD i .lend, l.drop (i + 1), q.2, rfl, ?_⟩
      have e : l.getD i .lend = l[i] := by rw [List.getD_eq_getElem?_getD, List.getElem?_eq_getElem q.1]; rfl
      rw [e, ← List.drop_eq_getElem_cons q.1, List.take_append_drop]
    · cases h
  | some x =>
    simp only [lat] at h
    split at h
    · rename_i q
      cases h
      exact .inl ⟨l.take i, x, l.drop i, q.2, (List.take_append_drop i l).symm, rfl⟩
    · cases h
theorem later_ins {s t : S2} {d : Deed} (h : later2 s d = some t) : ∃ l, t = upd2 d.b s l ∧ lat (sel d.b s) d.i d.w = some l ∧ (Ins (sel d.b s) l ∨ Ins l (sel d.b s)) := by
  unfold later2 at h
  cases e : lat (sel d.b s) d.i d.w with
  | none => rw [e] at h; cases h
  | some l =>
    rw [e] at h
    exact ⟨l, (Option.some.inj h).symm, rfl, lat_ins e⟩
theorem syn_ne {x : Stp} (h : synB x = true) : x ≠ .lend ∧ x ≠ .take ∧ x ≠ .fill ∧ x ≠ .read := by
  cases x <;> first | exact ⟨by decide, by decide, by decide, by decide⟩ | exact absurd h (by decide)
theorem aft_ins {z x : Stp} (hz : z = .fill ∨ z = .read) (hx : synB x = true) (B : List Stp) : ∀ A : List Stp, (z ∈ (A ++ x :: B).drop ((A ++ x :: B).findIdx fun y => decide (y = .lend)) ↔ z ∈ (A ++ B).drop ((A ++ B).findIdx fun y => decide (y = .lend)))
  | [] => by
    have n := syn_ne hx
    simp [List.findIdx_cons, n.1]
  | a :: A => by
    have n := syn_ne hx
    have nz : z ≠ x := by rcases hz with rfl | rfl; exact fun e => n.2.2.1 e.symm; exact fun e => n.2.2.2 e.symm
    by_cases e : a = .lend
    · subst e
      simp [List.findIdx_cons, nz]
    · have := aft_ins hz hx B A
      simpa [List.findIdx_cons, e] using this
theorem bef_ins {z x : Stp} (hz : z = .fill ∨ z = .read) (hx : synB x = true) (B : List Stp) : ∀ A : List Stp, (z ∈ (A ++ x :: B).take ((A ++ x :: B).findIdx fun y => decide (y = .take)) ↔ z ∈ (A ++ B).take ((A ++ B).findIdx fun y => decide (y = .take)))
  | [] => by
    have n := syn_ne hx
    have nz : z ≠ x := by rcases hz with rfl | rfl; exact fun e => n.2.2.1 e.symm; exact fun e => n.2.2.2 e.symm
    simp [List.findIdx_cons, n.2.1, nz]
  | a :: A => by
    by_cases e : a = .take
    · subst e
      simp [List.findIdx_cons]
    · have := bef_ins hz hx B A
      simp [List.findIdx_cons, e] at this ⊢
      rw [this]
theorem touch_ins {b : Bool} {s : S2} {l l' : List Stp} (h : Ins l l') : touchS (upd2 b s l) = touchS (upd2 b s l') := by
  obtain ⟨A, x, B, hx, rfl, rfl⟩ := h
  have a1 := aft_ins (.inl rfl) hx B A (z := .fill)
  have a2 := aft_ins (.inr rfl) hx B A (z := .read)
  have b1 := bef_ins (.inl rfl) hx B A (z := .fill)
  have b2 := bef_ins (.inr rfl) hx B A (z := .read)
  unfold touchS lentS
  refine decide_eq_decide.mpr ?_
  cases b with
  | false => simp only [upd2, Bool.false_eq_true, if_false, List.mem_append, a1, a2]
  | true => simp only [upd2, if_true, List.mem_append, b1, b2]
theorem touch_later {s t : S2} {d : Deed} (h : later2 s d = some t) : touchS t = touchS s := by
  obtain ⟨l, rfl, -, q | q⟩ := later_ins h
  · rw [← touch_ins q, upd_sel]
  · rw [touch_ins q, upd_sel]
theorem has_ins {m : Str} {x : Stp} (hm : m = "lend" ∨ m = "take") (hx : synB x = true) (A B : List Stp) : hasSteps (.tup (stL (A ++ x :: B))) m = hasSteps (.tup (stL (A ++ B))) m := by
  have e1 : stL (A ++ x :: B) = stL A ++ .str (encP x) :: stL B := by simp [stL]
  have e2 : stL (A ++ B) = stL A ++ stL B := by simp [stL]
  have e3 : ∀ l : List U, stepsOk m (.str (encP x) :: l) = stepsOk m l := fun l => by
    rcases hm with rfl | rfl <;> cases x <;> first | rfl | exact absurd hx (by decide)
  have e4 : ∀ l : List U, marksOf m (.str (encP x) :: l) = marksOf m l := fun l => by
    have : ¬ encP x = m := by rcases hm with rfl | rfl <;> cases x <;> first | decide | exact absurd hx (by decide)
    simp [marksOf, this]
  simp only [hasSteps, e1, e2, stepsOk_append, marksOf_append, e3, e4]
theorem dr_of {y : Wy} {s : S2} (g1 : hasSteps (.tup (stL s.1)) "lend" = true) (g2 : hasSteps (.tup (stL s.2)) "take" = true) (h2 : s.1.length ≤ 100) (h4 : s.2.length ≤ 100) : DR y s := by
  refine ⟨?_, h2, h4⟩
  show isDriver (.tup [.str (encWy y), .tup (stL s.1), .tup (stL s.2)]) = true
  have hy : isWay (encWy y) = true := by cases y <;> decide
  simp only [isDriver, hy, g1, g2, Bool.and_self]
theorem DR.has {y : Wy} {s : S2} (D : DR y s) : hasSteps (.tup (stL s.1)) "lend" = true ∧ hasSteps (.tup (stL s.2)) "take" = true := by
  have hd' : isWay (encWy y) = true ∧ hasSteps (.tup (stL s.1)) "lend" = true ∧ hasSteps (.tup (stL s.2)) "take" = true := by simpa [isDriver, drvU] using D.dr
  exact hd'.2
theorem ins_len {l l' : List Stp} (h : Ins l l') : l'.length = l.length + 1 := by
  obtain ⟨A, x, B, hx, rfl, rfl⟩ := h
  simp; omega
theorem ins_has {m : Str} {l l' : List Stp} (hm : m = "lend" ∨ m = "take") (h : Ins l l') : hasSteps (.tup (stL l')) m = hasSteps (.tup (stL l)) m := by
  obtain ⟨A, x, B, hx, rfl, rfl⟩ := h
  exact has_ins hm hx A B
theorem dr_later {y : Wy} {s t : S2} {d : Deed} {n : Nat} (h : later2 s d = some t) (D : DR y s) (n1 : s.1.length ≤ n) (n2 : s.2.length ≤ n) (hn : n + 1 ≤ 100) : DR y t ∧ t.1.length ≤ n + 1 ∧ t.2.length ≤ n + 1 := by
  obtain ⟨g1, g2⟩ := D.has
  obtain ⟨l, rfl, -, q⟩ := later_ins h
  cases hb : d.b with
  | false =>
    rw [hb] at q
    have e : sel false s = s.1 := rfl
    rw [e] at q
    have h1 : hasSteps (.tup (stL l)) "lend" = true := by
      rcases q with q | q
      · rw [ins_has (.inl rfl) q]; exact g1
      · rw [← ins_has (.inl rfl) q]; exact g1
    have hl : l.length ≤ n + 1 := by rcases q with q | q <;> (have := ins_len q; omega)
    exact ⟨dr_of h1 g2 (by show l.length ≤ 100; omega) (by show s.2.length ≤ 100; omega), hl, by show s.2.length ≤ n + 1; omega⟩
  | true =>
    rw [hb] at q
    have e : sel true s = s.2 := rfl
    rw [e] at q
    have h1 : hasSteps (.tup (stL l)) "take" = true := by
      rcases q with q | q
      · rw [ins_has (.inr rfl) q]; exact g2
      · rw [← ins_has (.inr rfl) q]; exact g2
    have hl : l.length ≤ n + 1 := by rcases q with q | q <;> (have := ins_len q; omega)
    exact ⟨dr_of g1 h1 (by show s.1.length ≤ 100; omega) (by show l.length ≤ 100; omega), by show s.1.length ≤ n + 1; omega, hl⟩
/-- a deed taken back -/
theorem back_out {s t : S2} {b : Bool} {i : Nat} {x : Stp} (h : later2 s ⟨b, i, some x⟩ = some t) : later2 t ⟨b, i, none⟩ = some s := by
  obtain ⟨l, rfl, e, -⟩ := later_ins h
  dsimp only at e ⊢
  unfold later2
  dsimp only
  rw [sel_upd]
  simp only [lat] at e
  split at e
  · rename_i q
    cases e
    have hl : ((sel b s).take i).length = i := by simp; omega
    have g : ((sel b s).take i ++ x :: (sel b s).drop i).getD i .lend = x := by
      rw [List.getD_eq_getElem?_getD, List.getElem?_append_right (by omega), hl]; simp
    have t1 : ((sel b s).take i ++ x :: (sel b s).drop i).take i = (sel b s).take i := by
      rw [List.take_append_of_le_length (by omega), List.take_of_length_le (by omega)]
    have t2 : ((sel b s).take i ++ x :: (sel b s).drop i).drop (i + 1) = (sel b s).drop i := by
      rw [List.drop_append, hl, List.drop_of_length_le (by omega)]; simp
    simp only [lat, g, t1, t2]
    rw [if_pos ⟨by simp; omega, q.2⟩]
    simp only [Option.map_some, List.take_append_drop, upd_upd, upd_sel]
  · cases e
theorem back_in {s t : S2} {b : Bool} {i : Nat} (h : later2 s ⟨b, i, none⟩ = some t) : i < (sel b s).length ∧ later2 t ⟨b, i, some ((sel b s).getD i .lend)⟩ = some s := by
  obtain ⟨l, rfl, e, -⟩ := later_ins h
  dsimp only at e ⊢
  unfold later2
  dsimp only
  rw [sel_upd]
  simp only [lat] at e
  split at e
  · rename_i q
    cases e
    refine ⟨q.1, ?_⟩
    have hl : ((sel b s).take i).length = i := by simp; omega
    have t1 : ((sel b s).take i ++ (sel b s).drop (i + 1)).take i = (sel b s).take i := by
      rw [List.take_append_of_le_length (by omega), List.take_of_length_le (by omega)]
    have t2 : ((sel b s).take i ++ (sel b s).drop (i + 1)).drop i = (sel b s).drop (i + 1) := by
      rw [List.drop_append, hl, List.drop_of_length_le (by omega)]; simp
    have e2 : (sel b s).getD i .lend = (sel b s)[i] := by rw [List.getD_eq_getElem?_getD, List.getElem?_eq_getElem q.1]; rfl
    simp only [lat, t1, t2]
    rw [if_pos ⟨by simp; omega, q.2⟩]
    simp only [Option.map_some, upd_upd]
    rw [e2, ← List.drop_eq_getElem_cons q.1, List.take_append_drop, upd_sel]
  · cases e
theorem drv_typed (y : Wy) (s : S2) : typedD (drvU y s) = true := by
  have : ∀ l : List Stp, typedAll (stL l) = true := fun l => by
    unfold typedAll
    rw [List.all_eq_true]
    intro u hu
    obtain ⟨x, _, rfl⟩ := List.mem_map.mp hu
    rfl
  simp [drvU, typedD, typed, typed1, tyU, this]
theorem conf_touches' : ∀ us h Po Pe, us.length = 1 → sp_touches us h Po Pe → p_touches (startE N_touches us) h (bodyD Po Pe) := by
  intro us h Po Pe hl hs
  obtain ⟨y, s, D, rfl, hp⟩ := hs
  have g := D.has
  obtain ⟨a1, a2, a3⟩ := ix_first (marked (x := .lend) (z := .take) rfl (by decide) (by decide) g.1).1
  obtain ⟨b1, b2, b3⟩ := ix_first (marked (x := .take) (z := .lend) rfl (by decide) (by decide) g.2).1
  have dr := D.dr
  have ty := drv_typed y s
  have c1 := D.p1
  have c2 := D.r1
  simp [p_touches, startE, N_touches, sp_need_driver, dr, ty]
  simp [drvU, stL_all]
  refine ⟨_, a2, a3, _, b2, b3, ?_⟩
  generalize hL : (s.1.findIdx fun y => decide (y = Stp.lend)) = lI at a1 a2 a3 ⊢
  generalize hT : (s.2.findIdx fun y => decide (y = Stp.take)) = tI at b1 b2 b3 ⊢
  have s1 : cutU (stL s.1) (some (((lI : Nat) : Int) + 1)) none = stL (s.1.drop (lI + 1)) := cut_fromL (i := lI + 1) a1
  have s2 := cut_toL (Nat.le_of_lt b1)
  have e : stL (s.1.drop (lI + 1)) ++ stL (s.2.take tI) = stL (s.1.drop (lI + 1) ++ s.2.take tI) := by simp [stL]
  rw [s1, s2, e]
  refine ⟨by simp only [stL_len', List.length_drop, List.length_take, sizeLine_eq]; omega, ?_⟩
  have m : ∀ x : Stp, T.isIO x → (x ∈ s.1.drop (lI + 1) ++ s.2.take tI ↔ x ∈ lentS s) := fun x hx => by
    have e1 : s.1.drop lI = .lend :: s.1.drop (lI + 1) := by
      rw [List.drop_eq_getElem_cons a1]
      congr 1
      obtain ⟨a, q1, q2⟩ := a2
      rw [List.getElem?_eq_getElem a1] at q1
      rw [Option.some.inj q1]
      exact encP_inj q2
    unfold lentS
    rw [hL, hT, e1]
    have : x ≠ .lend := by rcases hx with rfl | rfl <;> decide
    simp [this]
  have m1 := m .fill (.inl rfl)
  have m2 := m .read (.inr rfl)
  simp only [in_fill, in_read]
  have hp' : Po (.val (.bl (decide (Stp.fill ∈ lentS s ∨ Stp.read ∈ lentS s)))) h := hp
  by_cases q1 : Stp.fill ∈ lentS s
  · simp [m1.mpr q1]
    simpa [q1] using hp'
  · have n1 : ¬ Stp.fill ∈ s.1.drop (lI + 1) ++ s.2.take tI := fun z => q1 (m1.mp z)
    simp only [n1, decide_false, Bool.false_eq_true, if_false]
    by_cases q2 : Stp.read ∈ lentS s
    · simpa [m2.mpr q2, q2] using hp'
    · have n2 : ¬ Stp.read ∈ s.1.drop (lI + 1) ++ s.2.take tI := fun z => q2 (m2.mp z)
      simpa only [n2, q1, q2, or_self, decide_false] using hp'
theorem conf_touches : ∀ us h Po Pe, us.length = 1 → sp_touches us h Po Pe → p_touches (startE N_touches us) h (bodyD Po Pe) := by
  exact conf_touches'

theorem conf_law_pot : ∀ us h Po Pe, us.length = 1 → sp_law_pot us h Po Pe → p_law_pot (startE N_law_pot us) h (bodyD Po Pe) := by
  intro us h Po Pe hl hs
  unfold sp_law_pot at hs
  split at hs
  · rename_i c
    have hb : ∀ a : Int, Po (.own [.int a, .int (c % 1000000000000000177), .int 0]) h := fun a => hs a _ (by omega) (by omega)
    have hc : CPow 10 18 := ⟨by decide, by decide, by decide⟩
    by_cases h0 : (1000000000000000000 : Int) ≤ c <;> simp [p_law_pot, startE, N_law_pot, hc, h0, sizeLine_eq] <;> exact hb _
  · exact hs.elim

theorem conf_law_pick : ∀ us h Po Pe, us.length = 2 → sp_law_pick us h Po Pe → p_law_pick (startE N_law_pick us) h (bodyD Po Pe) := by
  intro us h Po Pe hl hs
  unfold sp_law_pick at hs
  split at hs
  · rename_i i m
    obtain ⟨k, ⟨a, b, n, e, hb0, hb1, hn0, hn1⟩, hk, hm, hml, hp⟩ := hs
    have eo := obL_of e
    have hi := lt_of_at e
    have hd : CDivW a m := ⟨hm, hml⟩
    by_cases h0 : 0 < a
    · simp [p_law_pick, startE, N_law_pick, h0, eo, L2.atI, L2.ixN, hd, hm]
      exact hp _ _ ⟨_, b, n, List.getElem?_set_self hi, hb0, hb1, hn0, by omega⟩ .set (Int.emod_nonneg _ (by omega)) (Int.emod_lt_of_pos _ hm)
    · have d1 : CDivW ((((b + 29) * ((n + 1) * (n + 1) + 431) + 7907 * (n + 1)) * ((b + 29) * ((n + 1) * (n + 1) + 431) + 7907 * (n + 1)) + 611953 * ((b + 29) * ((n + 1) * (n + 1) + 431) + 7907 * (n + 1))) % 2305843009213693951) 1024 := ⟨by decide, by decide +kernel⟩
      have d2 : CDivW ((((b + 29) * ((n + 1) * (n + 1) + 431) + 7907 * (n + 1)) * ((b + 29) * ((n + 1) * (n + 1) + 431) + 7907 * (n + 1)) + 611953 * ((b + 29) * ((n + 1) * (n + 1) + 431) + 7907 * (n + 1))) % 2305843009213693951) 1048576 := ⟨by decide, by decide +kernel⟩
      have b1 : LB (b + 29) 61 := by show Int.natAbs _ < 2 ^ 61; omega
      have b2 : LB (n + 1) 60 := by show Int.natAbs _ < 2 ^ 60; omega
      have b3 : LB ((n + 1) * (n + 1) + 431) 121 := (b2.mul b2).add (LB.mono (k := 10) (by show Int.natAbs _ < _; decide) (by decide))
      have b4 : LB (7907 * (n + 1)) 182 := (LB.mul (k := 13) (by show Int.natAbs _ < _; decide) b2).mono (by decide)
      have b5 := (b1.mul b3).add b4
      have c1 : CMul (n + 1) (n + 1) ∨ CMulW (n + 1) (n + 1) := cmul_l (by omega)
      have c2 := cmul_w b1 b3 (by decide)
      have c3 : CMul 7907 (n + 1) ∨ CMulW 7907 (n + 1) := cmul_l (by decide)
      have c4 := cmul_w b5 b5 (by decide)
      generalize hg : (b + 29) * ((n + 1) * (n + 1) + 431) + 7907 * (n + 1) = s at *
      have c5 : CMul 611953 s ∨ CMulW 611953 s := cmul_l (by decide)
      have c6 : CMul 33 (n + 1) ∨ CMulW 33 (n + 1) := cmul_l (by decide)
      generalize hr : (s * s + 611953 * s) % 2305843009213693951 = r at *
      have r0 : 0 ≤ r ∧ r < 2305843009213693951 := by rw [← hr]; omega
      have c7 : CMul (r / 1024 + 5) (r / 1048576 + 33 * (n + 1) + 1) ∨ CMulW (r / 1024 + 5) (r / 1048576 + 33 * (n + 1) + 1) := cmul_l (by omega)
      generalize hq : (r / 1024 + 5) * (r / 1048576 + 33 * (n + 1) + 1) = q at *
      have d3 : CDivW (q % 2147483629) 32 := ⟨by decide, by decide +kernel⟩
      simp [p_law_pick, startE, N_law_pick, h0, eo, L2.atI, L2.ixN, obL_set hi, c1, c2, c3, hg, c4, c5, hr, d1, d2, c6, c7, hq, d3, hm]
      exact hp _ _ ⟨a, b, n + 1, List.getElem?_set_self hi, hb0, hb1, by omega, by omega⟩ .set (Int.emod_nonneg _ (by omega)) (Int.emod_lt_of_pos _ hm)
  · exact hs.elim

theorem conf_law_among : ∀ us h Po Pe, us.length = 2 → sp_law_among us h Po Pe → p_law_among (startE N_law_among us) h (bodyD Po Pe) := by
  intro us h Po Pe hl hs
  unfold sp_law_among at hs
  split at hs
  · rename_i i xs
    obtain ⟨k, hp, hk, h1, h2, q⟩ := hs
    simp [p_law_among, startE, N_law_among]
    refine ⟨k, hp, hk, by omega, ?_, fun h' d p r d0 d1 => ?_⟩
    · have : LB (xs.length : Int) 60 := by show Int.natAbs _ < _; omega
      have := this.log
      omega
    · obtain ⟨j, rfl⟩ : ∃ j : Nat, d = (j : Int) := ⟨d.toNat, by omega⟩
      have hj : j < xs.length := by omega
      simp [L2.atI, L2.ixN, hj]
      exact q h' j _ p r (List.getElem?_eq_getElem hj)
  · exact hs.elim


def t_law_steps_3 : US := (uRet (uApp bTuple (uCons (uBin bAdd (uBin bAdd (uSl bSl (uVar 4) uNoP (uP (uVar 5))) (uApp bLst (uCons (uVar 1) uNil))) (uSl bSl (uVar 4) (uP (uVar 5)) uNoP)) uNil)))
def r_law_steps_3 : US := t_law_steps_3
def t_law_steps_2 : US := (uSet 5 (uCall 2 sp_law_pick [] (uCons (uVar 0) (uCons (uBin bAdd (uApp bLen (uCons (uVar 4) uNil)) (uVal (.int 1))) uNil))))
def r_law_steps_2 : US := uSeq t_law_steps_2 r_law_steps_3
def t_law_steps_1 : US := (uSet 4 (uLc (uIter bRange1 (uCons (uCall 2 sp_law_pick [] (uCons (uVar 0) (uCons (uBin bAdd (uVar 2) (uVal (.int 1))) uNil))) uNil)) (gN 6) uYes (uCall 2 sp_law_among [] (uCons (uVar 0) (uCons (uVar 3) uNil))) [6]))
def r_law_steps_1 : US := uSeq t_law_steps_1 r_law_steps_2
def t_law_steps_0 : US := (uSet 3 (uApp bLst (uCons (uVal (.str "fill")) (uCons (uVal (.str "read")) (uCons (uVal (.str "clean")) (uCons (uVal (.str "drop")) (uCons (uVal (.str "flush")) (uCons (uVal (.str "guard")) uNil))))))))
def r_law_steps_0 : US := uSeq t_law_steps_0 r_law_steps_1
theorem cut_law_steps : p_law_steps = r_law_steps_0 := rfl
theorem steps_all {m : Str} : ∀ {l : List U}, (∀ u ∈ l, isStepU u = true) → stepsOk m l = true
  | [], _ => rfl
  | u :: us, h => by
    have h1 := h u (List.mem_cons_self ..)
    have ih := steps_all (m := m) fun w hw => h w (List.mem_cons_of_mem _ hw)
    cases u with
    | str x => simp [isStepU] at h1; simp [stepsOk, h1, ih]
    | _ => simp [isStepU] at h1
theorem marks_none {m : Str} (hm : isStep m = false) : ∀ {l : List U}, (∀ u ∈ l, isStepU u = true) → marksOf m l = 0
  | [], _ => rfl
  | u :: us, h => by
    have h1 := h u (List.mem_cons_self ..)
    have ih := marks_none hm fun w hw => h w (List.mem_cons_of_mem _ hw)
    cases u with
    | str x =>
      simp [isStepU] at h1
      have hne : ¬ x = m := fun z => by rw [z, hm] at h1; cases h1
      simp [marksOf, hne, ih]
    | _ => simp [isStepU] at h1
theorem has_mark {m : Str} (hm : isStep m = false) {l : List U} (h : ∀ u ∈ l, isStepU u = true) (i : Nat) : hasSteps (.tup (l.take i ++ .str m :: l.drop i)) m = true := by
  have h1 : ∀ u ∈ l.take i, isStepU u = true := fun u hu => h u (List.mem_of_mem_take hu)
  have h2 : ∀ u ∈ l.drop i, isStepU u = true := fun u hu => h u (List.mem_of_mem_drop hu)
  simp [hasSteps, stepsOk_append, marksOf_append, stepsOk, marksOf, steps_all h1, steps_all h2, marks_none hm h1, marks_none hm h2]
theorem slog {m : Int} (h0 : 0 ≤ m) (h1 : m ≤ 1000) : m.natAbs.log2 < 9000 := Nat.lt_of_le_of_lt (LB.log (k := 10) (by show Int.natAbs _ < 1024; omega)) (by decide)
def stepL : List U := [.str "fill", .str "read", .str "clean", .str "drop", .str "flush", .str "guard"]
theorem steps_dec {m : Str} (hm : m = "lend" ∨ m = "take") : ∀ {l : List U}, stepsOk m l = true → ∃ P : List Stp, l = stL P
  | [], _ => ⟨[], rfl⟩
  | u :: us, h => by
    cases u with
    | str x =>
      simp [stepsOk] at h
      obtain ⟨P, rfl⟩ := steps_dec hm h.2
      have : ∃ s : Stp, x = encP s := by
        rcases h.1 with e | e
        · rcases hm with rfl | rfl
          · exact ⟨.lend, e⟩
          · exact ⟨.take, e⟩
        · simp [isStep, isSync] at e
          rcases e with e | e | e | e | e | e
          · exact ⟨.fill, e⟩
          · exact ⟨.read, e⟩
          · exact ⟨.clean, e⟩
          · exact ⟨.drop, e⟩
          · exact ⟨.flush, e⟩
          · exact ⟨.guard, e⟩
      obtain ⟨s, rfl⟩ := this
      exact ⟨s :: P, rfl⟩
    | _ => simp [stepsOk] at h

theorem conf_law_steps' : ∀ us h Po Pe, us.length = 3 → sp_law_steps us h Po Pe → p_law_steps (startE N_law_steps us) h (bodyD Po Pe) := by
  intro us h Po Pe hl hs
  unfold sp_law_steps at hs
  split at hs
  · rename_i i m n
    obtain ⟨k, hp, hk, hn0, hn1, hm, q⟩ := hs
    rw [cut_law_steps]
    simp [r_law_steps_0, t_law_steps_0, startE, N_law_steps, sizeLine_eq]
    simp [r_law_steps_1, t_law_steps_1, sp_law_pick]
    refine ⟨k, hp, by omega, by omega, slog (by omega) (by omega), fun h1 d p1 r1 d0 d1 => ⟨by omega, by omega, ?_⟩⟩
    refine compU_ix (fun j acc e h2 => e = [some (.val (.ref i)), some (.val (.str m)), some (.val (.int n)), some (.val (.lst stepL)), none, none, none] ∧ acc.length = j ∧ (∀ u ∈ acc, isStepU u = true) ∧ PotAt h2 i (k + 1 + j) ∧ Rest i h h2) (fun acc e h2 I => ?_) (fun j u hu acc e h2 F I hF => ?_) ⟨rfl, rfl, (fun u hu => by simp at hu), p1, r1⟩
    · obtain ⟨rfl, hl, ha, p2, r2⟩ := I
      rw [rangeU_len] at hl p2
      simp [r_law_steps_2, t_law_steps_2, sp_law_pick]
      refine ⟨_, p2, by omega, slog (by omega) (by omega), fun h3 d3 p3 r3 d30 d31 => ?_⟩
      have hm2 := has_mark hm ha d3.toNat
      simp [r_law_steps_3, t_law_steps_3, sizeLine_eq, cut_to d30 (by omega : d3 ≤ acc.length), cut_from d30 (by omega : d3 ≤ acc.length)]
      refine ⟨by omega, by omega, ?_⟩
      have hl5 : (acc.take d3.toNat ++ .str m :: acc.drop d3.toNat).length = acc.length + 1 := by simp; omega
      exact q h3 _ (p3.mono (by omega)) (r2.trans r3) hm2 (by omega) (by omega)
    · obtain ⟨rfl, hl, ha, p2, r2⟩ := I
      obtain ⟨hj, rfl⟩ := rangeU_at hu
      simp [sp_law_among]
      refine ⟨_, p2, by omega, by decide, by decide, fun h3 jj x p3 r3 hx => ?_⟩
      have hx2 : isStepU x = true := List.all_eq_true.mp (rfl : stepL.all isStepU = true) x (List.mem_of_getElem? hx)
      refine ⟨by rw [sizeLine_eq]; omega, hF _ _ _ ⟨rfl, by simp [hl], fun u hu => ?_, p3, r2.trans r3⟩⟩
      rcases List.mem_append.mp hu with hu | hu
      · exact ha u hu
      · simp at hu
        rw [hu]
        exact hx2
  · exact hs.elim
theorem conf_law_steps : ∀ us h Po Pe, us.length = 3 → sp_law_steps us h Po Pe → p_law_steps (startE N_law_steps us) h (bodyD Po Pe) := by
  exact conf_law_steps'

theorem conf_law_driver' : ∀ us h Po Pe, us.length = 2 → sp_law_driver us h Po Pe → p_law_driver (startE N_law_driver us) h (bodyD Po Pe) := by
  intro us h Po Pe hl hs
  unfold sp_law_driver at hs
  split at hs
  · rename_i i n
    obtain ⟨k, hp, hk, hn0, hn1, q⟩ := hs
    simp [p_law_driver, startE, N_law_driver, sp_law_among, sizeLine_eq]
    refine ⟨k, hp, by omega, ?_⟩
    intro h1 j x p1 r1 hx
    obtain ⟨w, rfl⟩ : ∃ w : Wy, x = .str (encWy w) := by
      have := List.mem_of_getElem? hx
      simp at this
      rcases this with rfl | rfl | rfl
      · exact ⟨.in_, rfl⟩
      · exact ⟨.out, rfl⟩
      · exact ⟨.both, rfl⟩
    simp [sp_law_steps]
    refine ⟨_, p1, by omega, hn0, by omega, by decide, fun h2 p p2 r2 hp2 hl2 hl2' => ⟨_, p2, by omega, hn0, by omega, by decide, fun h3 r p3 r3 hp3 hl3 hl3' => ?_⟩⟩
    have hw' := hp2
    have hv' := hp3
    simp [hasSteps] at hw' hv'
    obtain ⟨P, rfl⟩ := steps_dec (.inl rfl) hw'.1
    obtain ⟨R, rfl⟩ := steps_dec (.inr rfl) hv'.1
    have hy : isWay (encWy w) = true := by cases w <;> decide
    refine q h3 _ (p3.mono (by omega)) ((r1.trans r2).trans r3) ⟨w, P, R, rfl, ?_, by simpa [stL] using hl2, by rw [stL_len] at hl2'; omega, by simpa [stL] using hl3, by rw [stL_len] at hl3'; omega⟩
    simp only [isDriver, hp2, hp3, hy, Bool.and_self]
  · exact hs.elim
theorem conf_law_driver : ∀ us h Po Pe, us.length = 2 → sp_law_driver us h Po Pe → p_law_driver (startE N_law_driver us) h (bodyD Po Pe) := by
  exact conf_law_driver'

theorem conf_is_whole : ∀ us h Po Pe, us.length = 2 → sp_is_whole us h Po Pe → p_is_whole (startE N_is_whole us) h (bodyD Po Pe) := by
  intro us h Po Pe hl hs
  match us, hl with
  | [u, w], _ =>
    unfold sp_is_whole at hs
    split at hs
    · rename_i u' l e
      cases e
      obtain ⟨ht, hp⟩ := hs
      cases u <;> simp [p_is_whole, startE, N_is_whole, isT, typed, isWhole] at ht hp ⊢ <;> exact hp
    · exact hs.elim

theorem in_hands (x : Str) : inU? (.str x) (.tup [.str "post", .str "reap"]) = some (decide (x ∈ (["post", "reap"] : List Str))) := inU_tup x ["post", "reap"]
theorem conf_need_hand : ∀ us h Po Pe, us.length = 1 → sp_need_hand us h Po Pe → p_need_hand (startE N_need_hand us) h (bodyD Po Pe) := by
  intro us h Po Pe hl hs
  unfold sp_need_hand at hs
  split at hs
  · rename_i u
    obtain ⟨ht, h1, h2⟩ := hs
    cases u with
    | str x =>
      by_cases hd : x ∈ (["post", "reap"] : List Str) <;> simp [isHand, hd] at h1 h2 <;> simp [p_need_hand, startE, N_need_hand, isT, in_hands, hd, sizeLine_eq] <;> first | exact h1 | exact h2
    | _ => simp [p_need_hand, startE, N_need_hand, isT, typed, isHand] at ht h1 h2 ⊢ <;> exact h2
  · exact hs.elim

theorem conf_hand_steps : ∀ us h Po Pe, us.length = 2 → sp_hand_steps us h Po Pe → p_hand_steps (startE N_hand_steps us) h (bodyD Po Pe) := by
  intro us h Po Pe hl hs
  unfold sp_hand_steps at hs
  split at hs
  · rename_i b c x
    by_cases hx : x = "post" <;> simp [p_hand_steps, startE, N_hand_steps, hx, L2.atI, L2.ixN] at hs ⊢ <;> exact hs
  · exact hs.elim

theorem conf_with_steps : ∀ us h Po Pe, us.length = 3 → sp_with_steps us h Po Pe → p_with_steps (startE N_with_steps us) h (bodyD Po Pe) := by
  intro us h Po Pe hl hs
  unfold sp_with_steps at hs
  split at hs
  · rename_i a b c x s
    by_cases hx : x = "post" <;> simp [p_with_steps, startE, N_with_steps, hx, L2.atI, L2.ixN, sizeLine_eq] at hs ⊢ <;> exact hs
  · exact hs.elim

theorem in_SYNCS (x : Str) : inU? (.str x) c_SYNCS = some (isSync x) := by
  rw [show c_SYNCS = .tup ((["clean", "drop", "flush", "guard"] : List Str).map U.str) from rfl, inU_tup]
  simp [isSync, Bool.decide_or]
theorem syn_enc (x : Stp) : isSync (encP x) = synB x := by cases x <;> decide
theorem is_hand (b : Bool) : isHand (.str (hdS b)) = true := by cases b <;> decide
theorem conf_put_in' : ∀ us h Po Pe, us.length = 4 → sp_put_in us h Po Pe → p_put_in (startE N_put_in us) h (bodyD Po Pe) := by
  intro us h Po Pe hl hs
  obtain ⟨y, s, b, i, x, D, rfl, h1, h2⟩ := hs
  have ty := drv_typed y s
  have dr := D.dr
  have c1 := D.p1
  have c2 := D.r1
  have hh := is_hand b
  have esel : (if hdS b = Str.ofString "post" then U.tup (stL s.1) else U.tup (stL s.2)) = .tup (stL (sel b s)) := by cases b <;> rfl
  have hle : (sel b s).length ≤ 100 := by cases b; exact c1; exact c2
  have ew : ∀ l, (if hdS b = Str.ofString "post" then U.tup [.str (encWy y), .tup (stL l), .tup (stL s.2)] else U.tup [.str (encWy y), .tup (stL s.1), .tup (stL l)]) = drvU y (upd2 b s l) := fun l => by cases b <;> rfl
  simp [p_put_in, startE, N_put_in, sp_need_driver, sp_need_hand, sp_is_whole, dr, ty, hh, typed, isWhole]
  simp [drvU, sp_hand_steps, esel, isT, in_SYNCS, syn_enc, stL_len]
  have e2 : later2 s ⟨b, i, some x⟩ = (if i ≤ (sel b s).length ∧ synB x = true then some (upd2 b s ((sel b s).take i ++ x :: (sel b s).drop i)) else none) := by
    unfold later2 lat
    dsimp only
    split <;> rfl
  rw [e2] at h1 h2
  by_cases q1 : (sel b s).length < i
  · rw [if_pos q1]
    exact h2 (if_neg (by omega))
  · rw [if_neg q1]
    by_cases q2 : synB x = true
    · rw [if_pos q2]
      rw [if_pos ⟨by omega, q2⟩] at h1
      have k1 := cut_toL (l := sel b s) (i := i) (by omega)
      have k2 := cut_fromL (l := sel b s) (i := i) (by omega)
      rw [k1, k2]
      have z : 1000 ≤ sizeLine := by decide
      have l1 : ((sel b s).take i).length ≤ 100 := by simp; omega
      have l2 : ((sel b s).drop i).length ≤ 100 := by simp; omega
      simp only [stL_len]
      refine ⟨by omega, by omega, by omega, ?_⟩
      have e3 : stL ((sel b s).take i) ++ U.str (encP x) :: stL ((sel b s).drop i) = stL ((sel b s).take i ++ x :: (sel b s).drop i) := by simp [stL]
      rw [e3]
      show Po (.val (if hdS b = Str.ofString "post" then _ else _)) h
      rw [ew]
      exact h1 _ rfl
    · rw [if_neg q2]
      exact h2 (if_neg fun z => q2 z.2)
theorem conf_taken_out' : ∀ us h Po Pe, us.length = 3 → sp_taken_out us h Po Pe → p_taken_out (startE N_taken_out us) h (bodyD Po Pe) := by
  intro us h Po Pe hl hs
  obtain ⟨y, s, b, i, D, rfl, h1, h2⟩ := hs
  have ty := drv_typed y s
  have dr := D.dr
  have c1 := D.p1
  have c2 := D.r1
  have hh := is_hand b
  have esel : (if hdS b = Str.ofString "post" then U.tup (stL s.1) else U.tup (stL s.2)) = .tup (stL (sel b s)) := by cases b <;> rfl
  have hle : (sel b s).length ≤ 100 := by cases b; exact c1; exact c2
  have ew : ∀ l, (if hdS b = Str.ofString "post" then U.tup [.str (encWy y), .tup (stL l), .tup (stL s.2)] else U.tup [.str (encWy y), .tup (stL s.1), .tup (stL l)]) = drvU y (upd2 b s l) := fun l => by cases b <;> rfl
  have e2 : later2 s ⟨b, i, none⟩ = (if i < (sel b s).length ∧ synB ((sel b s).getD i .lend) = true then some (upd2 b s ((sel b s).take i ++ (sel b s).drop (i + 1))) else none) := by
    unfold later2 lat
    dsimp only
    split <;> rfl
  rw [e2] at h1 h2
  simp [p_taken_out, startE, N_taken_out, sp_need_driver, sp_need_hand, sp_is_whole, dr, ty, hh, typed, isWhole]
  simp [drvU, sp_hand_steps, esel, isT, stL_len]
  by_cases q1 : (sel b s).length ≤ i
  · rw [if_pos q1]
    exact h2 (if_neg (by omega))
  · have hi : i < (sel b s).length := by omega
    have ea : L2.atI (stL (sel b s)) ((i : Nat) : Int) = some (.str (encP ((sel b s).getD i .lend))) := by
      simp [L2.atI, L2.ixN, stL, hi]
    rw [if_neg q1]
    simp only [ea, in_SYNCS, syn_enc]
    by_cases q2 : synB ((sel b s).getD i .lend) = true
    · rw [if_pos q2]
      rw [if_pos ⟨hi, q2⟩] at h1
      have k1 := cut_toL (l := sel b s) (i := i) (by omega)
      have k2 : cutU (stL (sel b s)) (some ((i : Int) + 1)) none = _ := cut_fromL (l := sel b s) (i := i + 1) (by omega)
      rw [k1, k2]
      have z : 1000 ≤ sizeLine := by decide
      have l1 : ((sel b s).take i).length ≤ 100 := by simp; omega
      have l2 : ((sel b s).drop (i + 1)).length ≤ 100 := by simp; omega
      simp only [stL_len]
      refine ⟨by omega, ?_⟩
      have e3 : stL ((sel b s).take i) ++ stL ((sel b s).drop (i + 1)) = stL ((sel b s).take i ++ (sel b s).drop (i + 1)) := by simp [stL]
      rw [e3]
      show Po (.val (if hdS b = Str.ofString "post" then _ else _)) h
      rw [ew]
      exact h1 _ rfl
    · rw [if_neg q2]
      exact h2 (if_neg fun z => q2 z.2)
theorem conf_put_in : ∀ us h Po Pe, us.length = 4 → sp_put_in us h Po Pe → p_put_in (startE N_put_in us) h (bodyD Po Pe) := by
  exact conf_put_in'

theorem conf_taken_out : ∀ us h Po Pe, us.length = 3 → sp_taken_out us h Po Pe → p_taken_out (startE N_taken_out us) h (bodyD Po Pe) := by
  exact conf_taken_out'

theorem conf_law_done' : ∀ us h Po Pe, us.length = 2 → sp_law_done us h Po Pe → p_law_done (startE N_law_done us) h (bodyD Po Pe) := by
  intro us h Po Pe hl hs
  obtain ⟨y, s, ⟨b, i, w⟩, D, rfl, hp⟩ := hs
  cases w with
  | none =>
    simp [p_law_done, startE, N_law_done, deedU, wU]
    refine (show sp_taken_out _ _ _ _ from ⟨y, s, b, i, D, rfl, fun t e => ?_, fun e => ?_⟩)
    · rw [e] at hp; exact hp
    · rw [e] at hp
      simp
      exact hp
  | some x =>
    simp [p_law_done, startE, N_law_done, deedU, wU]
    refine (show sp_put_in _ _ _ _ from ⟨y, s, b, i, x, D, rfl, fun t e => ?_, fun e => ?_⟩)
    · rw [e] at hp; exact hp
    · rw [e] at hp
      simp
      exact hp
theorem conf_law_done : ∀ us h Po Pe, us.length = 2 → sp_law_done us h Po Pe → p_law_done (startE N_law_done us) h (bodyD Po Pe) := by
  exact conf_law_done'

def t_law_deed_4 : US := (uRet (uApp bTup (uCons (uBin bIx (uApp bLst (uCons (uVal (.str "post")) (uCons (uVal (.str "reap")) uNil))) (uVar 2)) (uCons (uVar 3) (uCons (uVar 4) uNil)))))
def r_law_deed_4 : US := t_law_deed_4
def t_law_deed_3 : US := (uIf (uB (uBin bLt (uCall 2 sp_law_pick [] (uCons (uVar 0) (uCons (uVal (.int 5)) uNil))) (uVal (.int 3)))) (uSet 4 (uCall 2 sp_law_among [] (uCons (uVar 0) (uCons (uBin bAdd (uBin bMul (uApp bLst (uCons (uVal (.str "clean")) (uCons (uVal (.str "drop")) (uCons (uVal (.str "flush")) (uCons (uVal (.str "guard")) uNil))))) (uVal (.int 5))) (uApp bLst (uCons (uVal (.str "fill")) (uCons (uVal (.str "read")) (uCons (uVal (.str "lend")) (uCons (uVal (.str "take")) uNil)))))) uNil)))) uNext)
def r_law_deed_3 : US := uSeq t_law_deed_3 r_law_deed_4
def t_law_deed_2 : US := (uSet 4 (uVal .non))
def r_law_deed_2 : US := uSeq t_law_deed_2 r_law_deed_3
def t_law_deed_1 : US := (uSet 3 (uCall 2 sp_law_pick [] (uCons (uVar 0) (uCons (uBin bAdd (uBin bAdd (uApp bLen (uCons (uBin bIx (uVar 1) (uVar 2)) uNil)) (uVal (.int 1))) (uApp bInt (uCons (uBin bEq (uCall 2 sp_law_pick [] (uCons (uVar 0) (uCons (uVal (.int 5)) uNil))) (uVal (.int 0))) uNil))) uNil))))
def r_law_deed_1 : US := uSeq t_law_deed_1 r_law_deed_2
def t_law_deed_0 : US := (uSet 2 (uCall 2 sp_law_pick [] (uCons (uVar 0) (uCons (uVal (.int 2)) uNil))))
def r_law_deed_0 : US := uSeq t_law_deed_0 r_law_deed_1
theorem cut_law_deed : p_law_deed = r_law_deed_0 := rfl
theorem conf_law_deed' : ∀ us h Po Pe, us.length = 2 → sp_law_deed us h Po Pe → p_law_deed (startE N_law_deed us) h (bodyD Po Pe) := by
  intro us h Po Pe hl hs
  obtain ⟨i, k, s, p0, hk, l1, l2, rfl, hp⟩ := hs
  have g0 : ∀ u v : U, L2.atI [u, v] 0 = some u := fun _ _ => rfl
  have g1 : ∀ u v : U, L2.atI [u, v] 1 = some v := fun _ _ => rfl
  rw [cut_law_deed]
  simp [r_law_deed_0, t_law_deed_0, startE, N_law_deed, sp_law_pick]
  refine ⟨k, p0, by omega, by decide, fun h1 d p1 r1 d0 d1 => ?_⟩
  obtain ⟨b, rfl⟩ : ∃ b : Bool, d = (if b = true then 1 else 0) := by
    obtain rfl | rfl : d = 0 ∨ d = 1 := by omega
    · exact ⟨false, rfl⟩
    · exact ⟨true, rfl⟩
  have ei : L2.atI [U.lst (stL s.1), U.lst (stL s.2)] (if b = true then 1 else 0) = some (.lst (stL (sel b s))) := by cases b <;> rfl
  have ls : (sel b s).length ≤ 100 := by cases b; exact l1; exact l2
  simp only [r_law_deed_1]
  simp [t_law_deed_1, handsU, ei, sp_law_pick, stL_len]
  refine ⟨_, p1, by omega, slog (m := 5) (by decide) (by decide), fun h2 e p2 r2 e0 e1 => ⟨_, p2, by omega, by split <;> omega, slog (by split <;> omega) (by split <;> omega), fun h3 a p3 r3 a0 a1 => ?_⟩⟩
  obtain ⟨a, rfl⟩ : ∃ n : Nat, a = (n : Int) := ⟨a.toNat, by omega⟩
  simp only [r_law_deed_2]
  simp [t_law_deed_2]
  have fin : ∀ (h' : Hv) (w : Option Stp), Rest i h h' → r_law_deed_4 [some (Sv.val (U.ref i)), some (Sv.val (U.lst [U.lst (stL s.fst), U.lst (stL s.snd)])), some (Sv.val (U.int (if b = true then 1 else 0))), some (Sv.val (U.int (a : Nat))), some (.val (wU w))] h' (bodyD Po Pe) := fun h' w r => by
    have eh : L2.atI [U.str (Str.ofString "post"), U.str (Str.ofString "reap")] (if b = true then 1 else 0) = some (.str (hdS b)) := by cases b <;> rfl
    simp [r_law_deed_4, t_law_deed_4, eh]
    exact ⟨by decide, by decide, hp h' ⟨b, a, w⟩ r⟩
  simp only [r_law_deed_3]
  simp [t_law_deed_3, sp_law_pick]
  refine ⟨_, p3, by omega, slog (m := 5) (by decide) (by decide), fun h4 q p4 r4 q0 q1 => ?_⟩
  by_cases q3 : q < 3
  · rw [if_pos q3]
    refine ⟨by decide, by decide, by decide, by decide, ?_⟩
    simp [sp_law_among]
    refine ⟨_, p4, by omega, fun h5 j x p5 r5 hx => ?_⟩
    obtain ⟨w, rfl⟩ : ∃ w : Stp, x = .str (encP w) := by
      have := List.mem_of_getElem? hx
      simp at this
      rcases this with rfl | rfl | rfl | rfl | rfl | rfl | rfl | rfl | rfl | rfl | rfl | rfl | rfl | rfl | rfl | rfl | rfl | rfl | rfl | rfl | rfl | rfl | rfl | rfl <;> first | exact ⟨.clean, rfl⟩ | exact ⟨.drop, rfl⟩ | exact ⟨.flush, rfl⟩ | exact ⟨.guard, rfl⟩ | exact ⟨.fill, rfl⟩ | exact ⟨.read, rfl⟩ | exact ⟨.lend, rfl⟩ | exact ⟨.take, rfl⟩
    exact fin h5 (some w) ((((r1.trans r2).trans r3).trans r4).trans r5)
  · rw [if_neg q3]
    exact fin h4 none (((r1.trans r2).trans r3).trans r4)
theorem conf_law_deed : ∀ us h Po Pe, us.length = 2 → sp_law_deed us h Po Pe → p_law_deed (startE N_law_deed us) h (bodyD Po Pe) := by
  exact conf_law_deed'

def t_law_later_6 : US := (uRet (uBin bIx (uApp bLst (uCons (uApp bLst (uCons (uVar 6) (uCons (uBin bIx (uVar 0) (uVal (.int 1))) uNil))) (uCons (uApp bLst (uCons (uBin bIx (uVar 0) (uVal (.int 0))) (uCons (uVar 6) uNil))) uNil))) (uVar 5)))
def r_law_later_6 : US := t_law_later_6
def t_law_later_5 : US := (uIf (uB (uBin (bIsN false) (uVar 4) (uVal .non))) (uDrop (uMt 6 fPop (uCons (uVar 3) uNil))) (uIf (uB (uBin (bIn true) (uVar 4) (uVar 7))) (uRet (uVal .non)) (uDrop (uMt 6 fInsert (uCons (uVar 3) (uCons (uVar 4) uNil))))))
def r_law_later_5 : US := uSeq t_law_later_5 r_law_later_6
def t_law_later_4 : US := (uIf (uOr (uB (uBin bGt (uVar 3) (uLenO 6))) (uAnd (uB (uBin (bIsN false) (uVar 4) (uVal .non))) (uOr (uB (uBin bEq (uVar 3) (uLenO 6))) (uB (uBin (bIn true) (uIxO 6 (uVar 3)) (uVar 7)))))) (uRet (uVal .non)) uNext)
def r_law_later_4 : US := uSeq t_law_later_4 r_law_later_5
def t_law_later_3 : US := (uSet 7 (uApp bLst (uCons (uVal (.str "clean")) (uCons (uVal (.str "drop")) (uCons (uVal (.str "flush")) (uCons (uVal (.str "guard")) uNil))))))
def r_law_later_3 : US := uSeq t_law_later_3 r_law_later_4
def t_law_later_2 : US := (uSetO 6 (uApp bList (uCons (uBin bIx (uVar 0) (uVar 5)) uNil)))
def r_law_later_2 : US := uSeq t_law_later_2 r_law_later_3
def t_law_later_1 : US := (uSet 5 (uIdxG (uApp bLst (uCons (uVal (.str "post")) (uCons (uVal (.str "reap")) uNil))) (uCons (uVar 2) uNil)))
def r_law_later_1 : US := uSeq t_law_later_1 r_law_later_2
def t_law_later_0 : US := (uAsg (gT [2, 3, 4]) (uVar 1))
def r_law_later_0 : US := uSeq t_law_later_0 r_law_later_1
theorem cut_law_later : p_law_later = r_law_later_0 := rfl
def hI (b : Bool) : Nat := if b = true then 1 else 0
theorem hand_ix (b : Bool) : [V.str (Str.ofString "post"), V.str (Str.ofString "reap")][hI b]? = some (V.str (hdS b)) ∧ eqV (V.str (hdS b)) (V.str (hdS b)) = true ∧ ∀ (m : Nat) (z' : V), m < hI b → [V.str (Str.ofString "post"), V.str (Str.ofString "reap")][m]? = some z' → eqV z' (V.str (hdS b)) = false := by
  cases b with
  | false => exact ⟨rfl, by decide, fun m z' hm _ => absurd hm (Nat.not_lt_zero _)⟩
  | true =>
    refine ⟨rfl, by decide, fun m z' hm e => ?_⟩
    have : m = 0 := by
      have : m < 1 := hm
      omega
    subst this
    have : z' = V.str (Str.ofString "post") := by simpa using e.symm
    subst this
    decide
theorem hand_at (b : Bool) (u v : U) : L2.atI [u, v] ((hI b : Nat) : Int) = some (if b = true then v else u) := by cases b <;> rfl
theorem in_syn4 (x : Stp) : inU? (.str (encP x)) (.lst [.str (Str.ofString "clean"), .str (Str.ofString "drop"), .str (Str.ofString "flush"), .str (Str.ofString "guard")]) = some (synB x) := by cases x <;> rfl
theorem later_some (s : S2) (b : Bool) (i : Nat) (x : Stp) : later2 s ⟨b, i, some x⟩ = (if i ≤ (sel b s).length ∧ synB x = true then some (upd2 b s ((sel b s).take i ++ x :: (sel b s).drop i)) else none) := by
  unfold later2 lat
  dsimp only
  split <;> rfl
theorem later_none (s : S2) (b : Bool) (i : Nat) : later2 s ⟨b, i, none⟩ = (if i < (sel b s).length ∧ synB ((sel b s).getD i .lend) = true then some (upd2 b s ((sel b s).take i ++ (sel b s).drop (i + 1))) else none) := by
  unfold later2 lat
  dsimp only
  split <;> rfl
theorem conf_law_later' : ∀ us h Po Pe, us.length = 2 → sp_law_later us h Po Pe → p_law_later (startE N_law_later us) h (bodyD Po Pe) := by
  intro us h Po Pe hl hs
  obtain ⟨s, ⟨b, i, w⟩, l1, l2, rfl, hp⟩ := hs
  have ls : (sel b s).length ≤ 100 := by cases b; exact l1; exact l2
  have z : 1000 ≤ sizeLine := by decide
  obtain ⟨q1, q2, q3⟩ := hand_ix b
  rw [cut_law_later]
  simp [r_law_later_0, t_law_later_0, startE, N_law_later, deedU]
  simp only [r_law_later_1]
  simp [t_law_later_1, flatUs, flatU]
  refine ⟨by decide, hI b, _, q1, q2, q3, ?_⟩
  have esel : (if b = true then U.lst (stL s.2) else U.lst (stL s.1)) = .lst (stL (sel b s)) := by cases b <;> rfl
  have ei : L2.atI [U.lst (stL s.1), U.lst (stL s.2)] ((hI b : Nat) : Int) = some (.lst (stL (sel b s))) := by rw [hand_at, esel]
  simp only [r_law_later_2]
  simp [t_law_later_2, handsU, ei]
  simp only [r_law_later_3]
  simp [t_law_later_3]
  refine ⟨by decide, ?_⟩
  have g0 : ∀ u v : U, L2.atI [u, v] 0 = some u := fun _ _ => rfl
  have g1 : ∀ u v : U, L2.atI [u, v] 1 = some v := fun _ _ => rfl
  have fin : ∀ l, r_law_later_6 [some (.val (.lst [.lst (stL s.1), .lst (stL s.2)])), some (.val (.tup [.str (hdS b), .int (i : Nat), wU w])), some (.val (.str (hdS b))), some (.val (.int (i : Nat))), some (.val (wU w)), some (.val (.int (hI b : Nat))), some (.own (stL l)), some (.val (.lst [.str (Str.ofString "clean"), .str (Str.ofString "drop"), .str (Str.ofString "flush"), .str (Str.ofString "guard")]))] h (bodyD Po Pe) ↔ Po (.val (handsU (upd2 b s l))) h := fun l => by
    simp [r_law_later_6, t_law_later_6, g0, g1, hand_at]
    constructor
    · rintro ⟨-, q⟩
      cases b <;> exact q
    · intro q
      refine ⟨by decide, ?_⟩
      cases b <;> exact q
  simp only [r_law_later_4]
  simp [t_law_later_4, stL_len]
  by_cases hi : (sel b s).length < i
  · rw [if_pos hi]
    have e2 : later2 s ⟨b, i, w⟩ = none := by
      unfold later2
      cases w with
      | none => simp only [lat]; rw [if_neg (fun z => by omega)]; rfl
      | some x => simp only [lat]; rw [if_neg (fun z => by omega)]; rfl
    rw [e2] at hp
    exact hp
  · rw [if_neg hi]
    cases w with
    | none =>
      rw [later_none] at hp
      simp [wU]
      by_cases h2 : (i : Int) = (((sel b s).length : Nat) : Int)
      · rw [if_pos h2]
        rw [if_neg (fun z => by omega)] at hp
        exact hp
      · rw [if_neg h2]
        have hlt : i < (sel b s).length := by omega
        have ea : L2.atI (stL (sel b s)) ((i : Nat) : Int) = some (.str (encP ((sel b s).getD i .lend))) := by
          simp [L2.atI, L2.ixN, stL, hlt]
        simp only [ea, in_syn4]
        by_cases h3 : synB ((sel b s).getD i .lend) = true
        · rw [if_pos h3]
          rw [if_pos ⟨hlt, h3⟩] at hp
          have f := (fin _).mpr hp
          simp only [wU] at f
          have ee : (stL (sel b s)).eraseIdx i = stL ((sel b s).take i ++ (sel b s).drop (i + 1)) := by
            rw [List.eraseIdx_eq_take_drop_succ]; simp [stL]
          have ix : L2.ixN (stL (sel b s)).length ((i : Nat) : Int) = some i := by simp [L2.ixN, stL_len, hlt]
          have eg : (stL (sel b s))[i]? = some (.str (encP ((sel b s).getD i .lend))) := by simp [stL, hlt]
          simp [r_law_later_5, t_law_later_5, ix, eg]
          rw [ee]
          exact ⟨by rw [stL_len]; omega, f⟩
        · rw [if_neg h3]
          rw [if_neg fun z => h3 z.2] at hp
          exact hp
    | some x =>
      rw [later_some] at hp
      simp [wU, r_law_later_5, t_law_later_5, in_syn4]
      by_cases h3 : synB x = true
      · rw [if_pos h3]
        rw [if_pos ⟨by omega, h3⟩] at hp
        have f := (fin _).mpr hp
        simp only [wU] at f
        have ee : (stL (sel b s)).take i ++ U.str (encP x) :: (stL (sel b s)).drop i = stL ((sel b s).take i ++ x :: (sel b s).drop i) := by simp [stL]
        rw [ee]
        exact ⟨by rw [stL_len]; omega, by omega, f⟩
      · rw [if_neg h3]
        rw [if_neg fun z => h3 z.2] at hp
        exact hp
theorem conf_law_later : ∀ us h Po Pe, us.length = 2 → sp_law_later us h Po Pe → p_law_later (startE N_law_later us) h (bodyD Po Pe) := by
  exact conf_law_later'

def t_law_back_b1_1a_0 : US := (uSet 3 (uCall 4 sp_put_in [] (uCons (uVar 3) (uCons (uVar 5) (uCons (uVar 6) (uCons (uBin bIx (uBin bIx (uVar 8) (uIdxG (uApp bLst (uCons (uVal (.str "post")) (uCons (uVal (.str "reap")) uNil))) (uCons (uVar 5) uNil))) (uVar 6)) uNil))))))
def r_law_back_b1_1a_0 : US := t_law_back_b1_1a_0
def t_law_back_b1_1b_0 : US := (uSet 3 (uCall 3 sp_taken_out [] (uCons (uVar 3) (uCons (uVar 5) (uCons (uVar 6) uNil)))))
def r_law_back_b1_1b_0 : US := t_law_back_b1_1b_0
def t_law_back_b1_2a_0 : US := (uRet (uVal (.bl false)))
def r_law_back_b1_2a_0 : US := t_law_back_b1_2a_0
def t_law_back_b1_2 : US := (uIf (uOr (uB (uBin bNe (uApp bRepr (uCons (uVar 3) uNil)) (uApp bRepr (uCons (uApp bTup (uCons (uVar 0) (uCons (uApp bTuple (uCons (uBin bIx (uVar 8) (uVal (.int 0))) uNil)) (uCons (uApp bTuple (uCons (uBin bIx (uVar 8) (uVal (.int 1))) uNil)) uNil)))) uNil)))) (uB (uBin bNe (uVar 3) (uBin bIx (uVar 2) (uBin bSub (uBin bSub (uApp bLen (uCons (uVar 1) uNil)) (uVal (.int 1))) (uVar 4)))))) r_law_back_b1_2a_0 uNext)
def r_law_back_b1_2 : US := t_law_back_b1_2
def t_law_back_b1_1 : US := (uIf (uB (uBin (bIsN false) (uVar 7) (uVal .non))) r_law_back_b1_1a_0 r_law_back_b1_1b_0)
def r_law_back_b1_1 : US := uSeq t_law_back_b1_1 r_law_back_b1_2
def t_law_back_b1_0 : US := (uAsg (gT [5, 6, 7, 8]) (uBin bIx (uVar 1) (uBin bSub (uBin bSub (uApp bLen (uCons (uVar 1) uNil)) (uVal (.int 1))) (uVar 4))))
def r_law_back_b1_0 : US := uSeq t_law_back_b1_0 r_law_back_b1_1
theorem cut_law_back_b1 : b1_law_back = r_law_back_b1_0 := rfl
/-! ### one driver against itself; its text -/
def drvData (y : Wy) (s : S2) : PyData := .tuple [.str (encWy y), .tuple (s.1.map fun x => .str (encP x)), .tuple (s.2.map fun x => .str (encP x))]
theorem toDs_st : ∀ l : List Stp, toDs (stL l) = some (l.map fun x => .str (encP x))
  | [] => rfl
  | x :: l => by
    show (match toD (.str (encP x)), toDs (stL l) with | some d, some ds => some (d :: ds) | _, _ => none) = _
    rw [toDs_st l]; rfl
theorem toD_drv (y : Wy) (s : S2) : toD (drvU y s) = some (drvData y s) := by
  unfold drvU drvData
  simp only [toD, toDs, toDs_st, Option.map_some]
theorem lay_st : ∀ l : List Stp, PyData.canLayAll0 (l.map fun x => .str (encP x)) = true ∧ PyData.depthAll (l.map fun x => .str (encP x)) = 0
  | [] => ⟨rfl, rfl⟩
  | x :: l => by
    have h := lay_st l
    have hx : PyData.canLay0 (.str (encP x)) = true := by cases x <;> decide +kernel
    simp only [List.map_cons, PyData.canLayAll0, PyData.depthAll, h.1, h.2, hx, PyData.depth]
    simp
theorem drv_lay (y : Wy) (s : S2) : PyData.canLay0 (drvData y s) = true ∧ PyData.depth (drvData y s) ≤ 3 := by
  have a := lay_st s.1
  have b := lay_st s.2
  have hy : PyData.canLay0 (.str (encWy y)) = true := by cases y <;> decide +kernel
  constructor
  · simp only [drvData, PyData.canLay0, PyData.canLayAll0, a.1, b.1, Bool.and_true]
    simpa [PyData.canLay0] using hy
  · simp only [drvData, PyData.depth, PyData.depthAll, a.2, b.2]
    omega
theorem drv_eq (y : Wy) (s : S2) : eqU? (drvU y s) (drvU y s) = some true := by
  have l := drv_lay y s
  have s1 : SeqAt.shaped (drvData y s) = true := by
    unfold SeqAt.shaped
    rw [l.1, Bool.true_and]
    exact decide_eq_true (by omega)
  have : eqU? (drvU y s) (drvU y s) = eqD? (drvU y s) (drvU y s) := by first | rfl | simp [eqU?, drvU]
  rw [this]
  unfold eqD?
  rw [toD_drv]
  dsimp only
  rw [s1]
  show some (PyData.eqv (drvData y s) (drvData y s)) = _
  rw [SeqAt.eqv_refl _ l.1]
theorem sh_stL (l : List Stp) (h : l.length ≤ 100) : ShB (.tup (stL l)) 1603 1 := by
  refine (ShBs.tup (n := 14) (k := 0) (shs_of fun u hu => ?_)).mono (by rw [stL_len]; omega) (by omega)
  obtain ⟨x, _, rfl⟩ := List.mem_map.mp hu
  exact sh_str (by cases x <;> decide +kernel)
theorem repr_drv {y : Wy} {s : S2} (D : DR y s) : ∃ x, reprU (drvU y s) = some x := by
  refine ShB.some (n := (1603 + 2) * 3 + 3) (k := 2) ?_ (by simp [sizeLine_eq]) (by omega)
  refine (ShBs.tup (n := 1603) (k := 1) (shs_of fun u hu => ?_)).mono (by simp) (by omega)
  simp only [List.mem_cons, List.not_mem_nil, or_false] at hu
  rcases hu with rfl | rfl | rfl
  · exact (sh_str (n := 20) (by cases y <;> decide +kernel)).mono (by omega) (by omega)
  · exact sh_stL _ D.p1
  · exact sh_stL _ D.r1
theorem Chain.dr {y : Wy} {rs : List (Deed × S2)} {s : S2} (C : Chain y rs s) : DR y s := by cases C <;> assumption
theorem eq_str (a : Str) : eqU? (.str a) (.str a) = some true := by
  show some (decide (a = a)) = _
  simp
theorem hands0 (s : S2) : L2.atI [U.lst (stL s.1), .lst (stL s.2)] 0 = some (.lst (stL s.1)) := rfl
theorem hands1 (s : S2) : L2.atI [U.lst (stL s.1), .lst (stL s.2)] 1 = some (.lst (stL s.2)) := rfl
theorem at_nat {l : List U} {i : Nat} {u : U} (h : l[i]? = some u) : L2.atI l ((i : Nat) : Int) = some u := by
  have hi := (List.getElem?_eq_some_iff.mp h).1
  simp [L2.atI, L2.ixN, hi]
  simpa [List.getElem?_eq_getElem hi] using h
theorem at_last {l : List U} {u : U} : L2.atI (l ++ [u]) (-1) = some u := by
  have : L2.ixN (l ++ [u]).length (-1) = some l.length := by
    simp [L2.ixN]
    omega
  unfold L2.atI
  rw [this]
  simp
/-- the last thing of a turn: texts and equality -/
theorem back_c {y : Wy} {s0 : S2} {es tl : List U} {k : Nat} {e5 e6 e7 : Option Sv} {h : Hv} {P : UD} (D : DR y s0) (hk : k < es.length) (ht : tl[es.length - 1 - k]? = some (drvU y s0))
    (N : P.nx [some (.val (.str (encWy y))), some (.val (.lst es)), some (.val (.lst tl)), some (.val (drvU y s0)), some (.val (.int k)), e5, e6, e7, some (.val (handsU s0))] h) :
    r_law_back_b1_2 [some (.val (.str (encWy y))), some (.val (.lst es)), some (.val (.lst tl)), some (.val (drvU y s0)), some (.val (.int k)), e5, e6, e7, some (.val (handsU s0))] h P := by
  obtain ⟨x, ex⟩ := repr_drv D
  have ex' : reprU (.tup [.str (encWy y), .tup (stL s0.1), .tup (stL s0.2)]) = some x := ex
  have ei : ((es.length : Nat) : Int) - 1 - (k : Int) = ((es.length - 1 - k : Nat) : Int) := by omega
  have ea := at_nat ht
  have eq := drv_eq y s0
  simp only [r_law_back_b1_2]
  simp [t_law_back_b1_2, handsU, hands0, hands1, ex, ex', eq_str, ei, ea, eq]
  exact ⟨by decide, N⟩
theorem back_b1 {y : Wy} {c s0 : S2} {d : Deed} {es tl : List U} {k : Nat} {e5 e6 e7 e8 : Option Sv} {h : Hv} {P : UD} (hd : later2 s0 d = some c) (D : DR y c) (D0 : DR y s0) (hk : k < es.length) (ht : tl[es.length - 1 - k]? = some (drvU y s0)) (he : es[es.length - 1 - k]? = some (entU (d, s0)))
    (N : ∀ e5 e6 e7 e8, P.nx [some (.val (.str (encWy y))), some (.val (.lst es)), some (.val (.lst tl)), some (.val (drvU y s0)), some (.val (.int k)), e5, e6, e7, e8] h) :
    b1_law_back [some (.val (.str (encWy y))), some (.val (.lst es)), some (.val (.lst tl)), some (.val (drvU y c)), some (.val (.int k)), e5, e6, e7, e8] h P := by
  have ei : ((es.length : Nat) : Int) - 1 - (k : Int) = ((es.length - 1 - k : Nat) : Int) := by omega
  have ea := at_nat he
  obtain ⟨b, i, w⟩ := d
  rw [cut_law_back_b1]
  simp only [r_law_back_b1_0]
  simp [t_law_back_b1_0, ei, ea, entU]
  simp only [r_law_back_b1_1]
  cases w with
  | none =>
    obtain ⟨hi, hb⟩ := back_in hd
    obtain ⟨q1, q2, q3⟩ := hand_ix b
    have esel : (if b = true then U.lst (stL s0.2) else U.lst (stL s0.1)) = .lst (stL (sel b s0)) := by cases b <;> rfl
    have e2 : L2.atI [U.lst (stL s0.1), U.lst (stL s0.2)] ((hI b : Nat) : Int) = some (.lst (stL (sel b s0))) := by rw [hand_at, esel]
    have e3 : L2.atI (stL (sel b s0)) ((i : Nat) : Int) = some (.str (encP ((sel b s0).getD i .lend))) := by
      simp [L2.atI, L2.ixN, stL, hi]
    generalize (sel b s0).getD i .lend = x at hb e3
    simp [t_law_back_b1_1, wU, r_law_back_b1_1a_0, t_law_back_b1_1a_0, flatUs, flatU]
    refine ⟨by decide, hI b, _, q1, q2, q3, ?_⟩
    simp [handsU, e2, e3]
    refine (show sp_put_in _ _ _ _ from ⟨y, c, b, i, _, D, rfl, fun t e => ?_, fun e => ?_⟩)
    · rw [hb] at e
      cases e
      exact back_c D0 hk ht (N _ _ _ _)
    · rw [hb] at e; cases e
  | some x =>
    have hb := back_out hd
    simp [t_law_back_b1_1, wU, r_law_back_b1_1b_0, t_law_back_b1_1b_0]
    refine (show sp_taken_out _ _ _ _ from ⟨y, c, b, i, D, rfl, fun t e => ?_, fun e => ?_⟩)
    · rw [hb] at e
      cases e
      exact back_c D0 hk ht (N _ _ _ _)
    · rw [hb] at e; cases e
theorem conf_law_back' : ∀ us h Po Pe, us.length = 3 → sp_law_back us h Po Pe → p_law_back (startE N_law_back us) h (bodyD Po Pe) := by
  intro us h Po Pe hl hs
  obtain ⟨y, rs, s, C, hn, rfl, hp⟩ := hs
  generalize hT : ((rs.reverse.map fun e => drvU y e.2) ++ [drvU y s]) = tl
  generalize hE : rs.reverse.map entU = es
  have le : es.length = rs.length := by rw [← hE]; simp
  have last : L2.atI tl (-1) = some (drvU y s) := by rw [← hT]; exact at_last
  simp [p_law_back, startE, N_law_back, last]
  refine ⟨by omega, forU_ix (fun k e h' => h' = h ∧ ∃ c e4 e5 e6 e7 e8, Chain y (rs.drop k) c ∧ e = [some (.val (.str (encWy y))), some (.val (.lst es)), some (.val (.lst tl)), some (.val (drvU y c)), e4, e5, e6, e7, e8]) (fun e h' I => ?_) (fun k u hu e h' F I hF => ?_) ⟨rfl, s, _, _, _, _, _, by simpa using C, rfl⟩⟩
  · obtain ⟨rfl, -⟩ := I
    exact hp
  · obtain ⟨hk, rfl⟩ := rangeU_at hu
    obtain ⟨rfl, c, e4, e5, e6, e7, e8, Ck, rfl⟩ := I
    have hk' : k < rs.length := by omega
    have j1 : rs.length - 1 - (rs.length - 1 - k) = k := by omega
    have ed : rs.drop k = rs[k] :: rs.drop (k + 1) := List.drop_eq_getElem_cons hk'
    have er : rs.reverse[rs.length - 1 - k]? = some rs[k] := by
      rw [List.getElem?_reverse (by omega), j1, List.getElem?_eq_getElem hk']
    rw [ed] at Ck
    generalize rs[k] = z at Ck er
    obtain ⟨d, s0⟩ := z
    cases Ck with
    | cons hd D Cn =>
      simp only [gN]
      refine ⟨by simp, ?_⟩
      simp only [List.set_cons_succ, List.set_cons_zero, Int.zero_add]
      refine back_b1 hd D Cn.dr hk ?_ ?_ fun e5 e6 e7 e8 => hF _ _ ⟨rfl, s0, _, _, _, _, _, Cn, rfl⟩
      · rw [le, ← hT, List.getElem?_append_left (by simp; omega), List.getElem?_map, er]; rfl
      · rw [le, ← hE, List.getElem?_map, er]; rfl
theorem conf_law_back : ∀ us h Po Pe, us.length = 3 → sp_law_back us h Po Pe → p_law_back (startE N_law_back us) h (bodyD Po Pe) := by
  exact conf_law_back'

def t_law_b1_3a_0 : US := (uRet (uVal (.bl false)))
def r_law_b1_3a_0 : US := t_law_b1_3a_0
def t_law_b1_4a_0a_0 : US := (uRet (uVal (.bl false)))
def r_law_b1_4a_0a_0 : US := t_law_b1_4a_0a_0
def t_law_b1_4a_1a_0 : US := (uRet (uVal (.bl false)))
def r_law_b1_4a_1a_0 : US := t_law_b1_4a_1a_0
def t_law_b1_4a_5 : US := (uSet 4 (uVar 10))
def r_law_b1_4a_5 : US := t_law_b1_4a_5
def t_law_b1_4a_4 : US := (uDrop (uMt 7 fAppend (uCons (uApp bRepr (uCons (uVar 11) uNil)) uNil)))
def r_law_b1_4a_4 : US := uSeq t_law_b1_4a_4 r_law_b1_4a_5
def t_law_b1_4a_3 : US := (uDrop (uMt 5 fAppend (uCons (uVar 11) uNil)))
def r_law_b1_4a_3 : US := uSeq t_law_b1_4a_3 r_law_b1_4a_4
def t_law_b1_4a_2 : US := (uDrop (uMt 6 fAppend (uCons (uBin bAdd (uVar 9) (uApp bTup (uCons (uVar 4) uNil))) uNil)))
def r_law_b1_4a_2 : US := uSeq t_law_b1_4a_2 r_law_b1_4a_3
def t_law_b1_4a_1 : US := (uIf (uB (uBin bNe (uApp bRepr (uCons (uApp bLst (uCons (uCall 1 sp_touches [] (uCons (uVar 11) uNil)) uNil)) uNil)) (uApp bRepr (uCons (uApp bLst (uCons (uVar 3) uNil)) uNil)))) r_law_b1_4a_1a_0 uNext)
def r_law_b1_4a_1 : US := uSeq t_law_b1_4a_1 r_law_b1_4a_2
def t_law_b1_4a_0 : US := (uIf (uOr (uB (uBin bNe (uApp bRepr (uCons (uVar 11) uNil)) (uApp bRepr (uCons (uApp bTup (uCons (uBin bIx (uVar 2) (uVal (.int 0))) (uCons (uApp bTuple (uCons (uBin bIx (uVar 10) (uVal (.int 0))) uNil)) (uCons (uApp bTuple (uCons (uBin bIx (uVar 10) (uVal (.int 1))) uNil)) uNil)))) uNil)))) (uB (uBin (bIsB true) (uCall 1 sp_is_driver [] (uCons (uVar 11) uNil)) (uVal (.bl true))))) r_law_b1_4a_0a_0 uNext)
def r_law_b1_4a_0 : US := uSeq t_law_b1_4a_0 r_law_b1_4a_1
def t_law_b1_4 : US := (uIf (uB (uBin (bIsN true) (uVar 10) (uVal .non))) r_law_b1_4a_0 uNext)
def r_law_b1_4 : US := t_law_b1_4
def t_law_b1_3 : US := (uIf (uAnd (uB (uBin (bIsN false) (uVar 10) (uVal .non))) (uB (uBin (bIsN true) (uVar 11) (uVal .non)))) r_law_b1_3a_0 uNext)
def r_law_b1_3 : US := uSeq t_law_b1_3 r_law_b1_4
def t_law_b1_2 : US := (uSet 11 (uCall 2 sp_law_done [] (uCons (uIxO 5 (uNeg (uVal (.int 1)))) (uCons (uVar 9) uNil))))
def r_law_b1_2 : US := uSeq t_law_b1_2 r_law_b1_3
def t_law_b1_1 : US := (uSet 10 (uCall 2 sp_law_later [] (uCons (uVar 4) (uCons (uVar 9) uNil))))
def r_law_b1_1 : US := uSeq t_law_b1_1 r_law_b1_2
def t_law_b1_0 : US := (uSet 9 (uCall 2 sp_law_deed [] (uCons (uShr (uCall 1 sp_law_pot [] (uCons (uVar 8) uNil))) (uCons (uVar 4) uNil))))
def r_law_b1_0 : US := uSeq t_law_b1_0 r_law_b1_1
theorem cut_law_b1 : b1_law = r_law_b1_0 := rfl
def t_law_8 : US := (uRet (uV (uAnd (uB (uCall 3 sp_law_back [] (uCons (uBin bIx (uVar 2) (uVal (.int 0))) (uCons (uVar 6) (uCons (uVar 5) uNil))))) (uB (uBin bEq (uLc (uItems (uVar 5)) (gN 12) uYes (uApp bRepr (uCons (uVar 12) uNil)) [12]) (uVar 7))))))
def r_law_8 : US := t_law_8
def t_law_7 : US := (uFor (uItems (uBin bAdd (uApp bLst (uCons (uVal (.int 38729833462074168851792653997824)) uNil)) (uSl bSl (uVar 0) uNoP (uP (uVal (.int 59)))))) (gN 8) b1_law)
def r_law_7 : US := uSeq t_law_7 r_law_8
def t_law_6 : US := (uSetO 7 (uApp bLst (uCons (uApp bRepr (uCons (uVar 2) uNil)) uNil)))
def r_law_6 : US := uSeq t_law_6 r_law_7
def t_law_5 : US := (uSetO 6 (uApp bLst uNil))
def r_law_5 : US := uSeq t_law_5 r_law_6
def t_law_4 : US := (uSetO 5 (uApp bLst (uCons (uVar 2) uNil)))
def r_law_4 : US := uSeq t_law_4 r_law_5
def t_law_3 : US := (uSet 4 (uApp bLst (uCons (uApp bList (uCons (uBin bIx (uVar 2) (uVal (.int 1))) uNil)) (uCons (uApp bList (uCons (uBin bIx (uVar 2) (uVal (.int 2))) uNil)) uNil))))
def r_law_3 : US := uSeq t_law_3 r_law_4
def t_law_2 : US := (uSet 3 (uCall 1 sp_touches [] (uCons (uVar 2) uNil)))
def r_law_2 : US := uSeq t_law_2 r_law_3
def t_law_1 : US := (uSet 2 (uCall 2 sp_law_driver [] (uCons (uVar 1) (uCons (uCall 2 sp_law_among [] (uCons (uVar 1) (uCons (uApp bLst (uCons (uVal (.int 0)) (uCons (uVal (.int 1)) (uCons (uVal (.int 2)) (uCons (uVal (.int 3)) (uCons (uVal (.int 5)) uNil)))))) uNil))) uNil))))
def r_law_1 : US := uSeq t_law_1 r_law_2
def t_law_0 : US := (uSetR 1 (uCall 1 sp_law_pot [] (uCons (uBin bIx (uBin bAdd (uApp bLst (uCons (uVal (.int 3)) uNil)) (uVar 0)) (uNeg (uVal (.int 1)))) uNil)))
def r_law_0 : US := uSeq t_law_0 r_law_1
theorem cut_law : p_law = r_law_0 := rfl
/-! ### texts of drivers -/
theorem sOk_app (a b : Str) : PyData.strOk (a ++ b) = (PyData.strOk a && PyData.strOk b) := by
  show (a.cps ++ b.cps).all _ = _
  rw [Array.all_append]; rfl
theorem sOk_join : ∀ ts : List Str, (∀ x ∈ ts, PyData.strOk x = true) → PyData.strOk (Str.join ", " ts) = true
  | [], _ => by decide +kernel
  | [x], h => h x List.mem_cons_self
  | x :: y :: r, h => by
    have ih := sOk_join (y :: r) fun z hz => h z (List.mem_cons_of_mem _ hz)
    show PyData.strOk (x ++ ", " ++ Str.join ", " (y :: r)) = true
    rw [sOk_app, sOk_app, h x List.mem_cons_self, ih]
    decide +kernel
theorem sOk_tup (ts : List Str) (h : ∀ x ∈ ts, PyData.strOk x = true) : PyData.strOk (tupleText ts) = true := by
  unfold tupleText
  rw [sOk_app, sOk_app, sOk_join ts h]
  split <;> decide +kernel
theorem shown_st : ∀ l : List Stp, PyData.shownAll (l.map fun x => .str (encP x)) = l.map fun x => reprText (encP x)
  | [] => rfl
  | x :: l => by
    show PyData.shown (.str (encP x)) :: PyData.shownAll (l.map fun x => .str (encP x)) = _
    rw [shown_st l]; rfl
theorem sOk_st (l : List Stp) : PyData.strOk (tupleText (PyData.shownAll (l.map fun x => .str (encP x)))) = true := by
  rw [shown_st]
  refine sOk_tup _ fun x hx => ?_
  obtain ⟨z, _, rfl⟩ := List.mem_map.mp hx
  cases z <;> decide +kernel
def txt (y : Wy) (s : S2) : Str := (drvData y s).shown
theorem sOk_txt (y : Wy) (s : S2) : PyData.strOk (txt y s) = true := by
  show PyData.strOk (tupleText [reprText (encWy y), tupleText (PyData.shownAll (s.1.map fun x => .str (encP x))), tupleText (PyData.shownAll (s.2.map fun x => .str (encP x)))]) = true
  refine sOk_tup _ fun x hx => ?_
  simp only [List.mem_cons, List.not_mem_nil, or_false] at hx
  rcases hx with rfl | rfl | rfl
  · cases y <;> decide +kernel
  · exact sOk_st _
  · exact sOk_st _
theorem repr_txt {y : Wy} {s : S2} (D : DR y s) : reprU (drvU y s) = some (txt y s) := by
  obtain ⟨x, e⟩ := repr_drv D
  rw [e]
  unfold reprU at e
  rw [toD_drv] at e
  dsimp only at e
  split at e
  · exact e.symm
  · cases e
theorem toDs_strs : ∀ ss : List Str, toDs (ss.map U.str) = some (ss.map .str)
  | [] => rfl
  | x :: l => by
    show (match toD (.str x), toDs (l.map U.str) with | some d, some ds => some (d :: ds) | _, _ => none) = _
    rw [toDs_strs l]; rfl
theorem dep_strs : ∀ ss : List Str, PyData.depthAll (ss.map .str) = 0
  | [] => rfl
  | x :: l => by simp only [List.map_cons, PyData.depthAll, dep_strs l, PyData.depth, Nat.max_self]
theorem lay_strs : ∀ ss : List Str, (∀ x ∈ ss, PyData.strOk x = true) → PyData.canLayAll0 (ss.map .str) = true
  | [], _ => rfl
  | x :: l, h => by
    simp only [List.map_cons, PyData.canLayAll0, PyData.canLay0, h x List.mem_cons_self, lay_strs l fun z hz => h z (List.mem_cons_of_mem _ hz), Bool.and_self]
theorem eq_strs (ss : List Str) (h : ∀ x ∈ ss, PyData.strOk x = true) : eqU? (.lst (ss.map U.str)) (.lst (ss.map U.str)) = some true := by
  have c : PyData.canLay0 (.list (ss.map .str)) = true := lay_strs ss h
  have s1 : SeqAt.shaped (.list (ss.map .str)) = true := by
    unfold SeqAt.shaped
    rw [c, Bool.true_and]
    refine decide_eq_true ?_
    show PyData.depthAll (ss.map .str) + 1 ≤ 64
    rw [dep_strs]; omega
  show eqD? _ _ = _
  unfold eqD?
  have e1 : toD (.lst (ss.map U.str)) = some (.list (ss.map .str)) := by simp only [toD, toDs_strs, Option.map_some]
  rw [e1]
  dsimp only
  rw [s1]
  show some (PyData.eqv _ _) = _
  rw [SeqAt.eqv_refl _ c]
/-! ### the walk -/
def toldS (y : Wy) (rs : List (Deed × S2)) (s : S2) : List S2 := (rs.reverse.map (·.2)) ++ [s]
def toldL (y : Wy) (rs : List (Deed × S2)) (s : S2) : List U := (rs.reverse.map fun e => drvU y e.2) ++ [drvU y s]
def textsL (y : Wy) (rs : List (Deed × S2)) (s : S2) : List U := (rs.reverse.map fun e => U.str (txt y e.2)) ++ [.str (txt y s)]
def entL (rs : List (Deed × S2)) : List U := rs.reverse.map entU
theorem entL_cons (rs : List (Deed × S2)) (d : Deed) (s : S2) : entL ((d, s) :: rs) = entL rs ++ [entU (d, s)] := by simp [entL]
theorem entL_len (rs : List (Deed × S2)) : (entL rs).length = rs.length := by simp [entL]
theorem toldL_len (y : Wy) (rs : List (Deed × S2)) (s : S2) : (toldL y rs s).length = rs.length + 1 := by simp [toldL]
theorem textsL_len (y : Wy) (rs : List (Deed × S2)) (s : S2) : (textsL y rs s).length = rs.length + 1 := by simp [textsL]
theorem toldL_cons (y : Wy) (rs : List (Deed × S2)) (d : Deed) (s t : S2) : toldL y ((d, s) :: rs) t = toldL y rs s ++ [drvU y t] := by simp [toldL]
theorem textsL_cons (y : Wy) (rs : List (Deed × S2)) (d : Deed) (s t : S2) : textsL y ((d, s) :: rs) t = textsL y rs s ++ [.str (txt y t)] := by simp [textsL]
theorem repr_1 (b : Bool) : ∃ x, reprU (.lst [.bl b]) = some x := by
  refine ShB.some (n := (5 + 2) * 1 + 3) (k := 1) ?_ (by simp [sizeLine_eq]) (by omega)
  refine (ShBs.lst (n := 5) (k := 0) (shs_of fun u hu => ?_)).mono (by simp) (by omega)
  simp only [List.mem_cons, List.not_mem_nil, or_false] at hu
  rw [hu]; exact sh_bl
abbrev EL (y : Wy) (f s : S2) (rs : List (Deed × S2)) (s0 e1 e8 e9 e10 e11 e12 : Option Sv) : En := [s0, e1, some (.val (drvU y f)), some (.val (.bl (touchS f))), some (.val (handsU s)), some (.own (toldL y rs s)), some (.own (entL rs)), some (.own (textsL y rs s)), e8, e9, e10, e11, e12]
theorem b1_ok {y : Wy} {f s : S2} {rs : List (Deed × S2)} {s0 e1 e9 e10 e11 e12 : Option Sv} {c : Int} {h : Hv} {P : UD} (C : Chain y rs s) {n : Nat} (n1 : s.1.length ≤ n) (n2 : s.2.length ≤ n) (hn : n + 1 ≤ 100) (hr : rs.length + 1 ≤ 100) (ht : touchS s = touchS f)
    (N : ∀ rs' t e9 e10 e11 h', Chain y rs' t → rs'.length ≤ rs.length + 1 → t.1.length ≤ n + 1 → t.2.length ≤ n + 1 → touchS t = touchS f → P.nx (EL y f t rs' s0 e1 (some (.val (.int c))) e9 e10 e11 e12) h') :
    b1_law (EL y f s rs s0 e1 (some (.val (.int c))) e9 e10 e11 e12) h P := by
  have D := C.dr
  rw [cut_law_b1]
  simp [r_law_b1_0, t_law_b1_0, sp_law_pot]
  intro a0 b0 hb0 hb1
  have p0 : PotAt (h ++ [Ob.lst [.int a0, .int b0, .int 0]]) h.length 0 := ⟨a0, b0, 0, by simp, hb0, by omega, by omega, by omega⟩
  generalize h ++ [Ob.lst [.int a0, .int b0, .int 0]] = h0 at p0 ⊢
  generalize h.length = i at p0 ⊢
  refine (show sp_law_deed _ _ _ _ from ⟨i, _, s, p0, by omega, D.p1, D.r1, rfl, fun h1 d r1 => ?_⟩)
  simp only [r_law_b1_1]
  simp [t_law_b1_1]
  refine (show sp_law_later _ _ _ _ from ⟨s, d, D.p1, D.r1, rfl, ?_⟩)
  simp only [r_law_b1_2]
  have last : L2.atI (toldL y rs s) (-1) = some (drvU y s) := at_last
  simp [t_law_b1_2, last]
  refine (show sp_law_done _ _ _ _ from ⟨y, s, d, D, rfl, ?_⟩)
  simp only [r_law_b1_3]
  cases e : later2 s d with
  | none =>
    simp [t_law_b1_3, handsO, foundU]
    simp only [r_law_b1_4]
    simp [t_law_b1_4]
    exact N rs s _ _ _ h1 C (by omega) (by omega) (by omega) ht
  | some t =>
    obtain ⟨D2, m1, m2⟩ := dr_later e D n1 n2 hn
    simp [t_law_b1_3, handsO, foundU]
    rw [if_neg (by intro z; cases z)]
    have rt := repr_txt D2
    have rt' : reprU (.tup [.str (encWy y), .tup (stL t.1), .tup (stL t.2)]) = some (txt y t) := rt
    have d0 : ∀ u v w : U, L2.atI [u, v, w] 0 = some u := fun _ _ _ => rfl
    have ty := drv_typed y t
    have dr := D2.dr
    simp only [r_law_b1_4]
    simp [t_law_b1_4]
    rw [if_neg (by intro z; cases z)]
    simp only [r_law_b1_4a_0]
    have ef : drvU y f = .tup [.str (encWy y), .tup (stL f.1), .tup (stL f.2)] := rfl
    have et : handsU t = .lst [.lst (stL t.1), .lst (stL t.2)] := rfl
    simp [t_law_b1_4a_0, rt, rt', ef, et, d0, hands0, hands1, sp_is_driver, ty, dr]
    refine ⟨by decide, ?_⟩
    rw [← ef, ← et]
    obtain ⟨z1, ez1⟩ := repr_1 (touchS f)
    have tt : touchS t = touchS f := (touch_later e).trans ht
    simp only [r_law_b1_4a_1]
    simp [t_law_b1_4a_1]
    refine (show sp_touches _ _ _ _ from ⟨y, t, D2, rfl, ?_⟩)
    rw [tt]
    simp [ez1]
    refine ⟨by decide, ?_⟩
    have zz : 1000 ≤ sizeLine := by decide
    have ee : deedU d = .tup [.str (hdS d.b), .int d.i, wU d.w] := rfl
    simp only [r_law_b1_4a_2]
    simp [t_law_b1_4a_2, ee, entL_len]
    refine ⟨by omega, by omega, by omega, ?_⟩
    have e4 : entL rs ++ [U.tup [U.str (hdS d.b), U.int d.i, wU d.w, handsU s]] = entL ((d, s) :: rs) := (entL_cons rs d s).symm
    rw [e4]
    simp only [r_law_b1_4a_3]
    simp [t_law_b1_4a_3, toldL_len]
    refine ⟨by omega, ?_⟩
    rw [← toldL_cons y rs d s t]
    simp only [r_law_b1_4a_4]
    simp [t_law_b1_4a_4, rt, textsL_len]
    refine ⟨by omega, ?_⟩
    rw [← textsL_cons y rs d s t]
    simp only [r_law_b1_4a_5]
    simp [t_law_b1_4a_5]
    exact N ((d, s) :: rs) t _ _ _ h1 (.cons e D2 C) (by simp) m1 m2 tt
theorem Chain.all {y : Wy} {rs : List (Deed × S2)} {s : S2} (C : Chain y rs s) : ∀ x ∈ toldS y rs s, DR y x := by
  induction C with
  | nil D => intro x hx; simp [toldS] at hx; subst hx; exact D
  | @cons d s t rs h D C IH =>
    intro x hx
    have e : toldS y ((d, s) :: rs) t = toldS y rs s ++ [t] := by simp [toldS]
    rw [e] at hx
    rcases List.mem_append.mp hx with hx | hx
    · exact IH x hx
    · simp at hx; subst hx; exact D
theorem toldL_eq (y : Wy) (rs : List (Deed × S2)) (s : S2) : toldL y rs s = (toldS y rs s).map (drvU y) := by simp [toldL, toldS]
theorem textsL_eq (y : Wy) (rs : List (Deed × S2)) (s : S2) : textsL y rs s = ((toldS y rs s).map (txt y)).map U.str := by simp [textsL, toldS]
theorem fin_ok {y : Wy} {f s : S2} {rs : List (Deed × S2)} {s0 e1 e8 e9 e10 e11 e12 : Option Sv} {h : Hv} {Po : Sv → Hv → Prop} {Pe : Ex → Hv → Prop} (C : Chain y rs s) (hr : rs.length ≤ 100) (hp : Po (.val (.bl true)) h) :
    r_law_8 (EL y f s rs s0 e1 e8 e9 e10 e11 e12) h (bodyD Po Pe) := by
  have ef : drvU y f = .tup [.str (encWy y), .tup (stL f.1), .tup (stL f.2)] := rfl
  have d0 : ∀ u v w : U, L2.atI [u, v, w] 0 = some u := fun _ _ _ => rfl
  simp [r_law_8, t_law_8, ef, d0]
  refine (show sp_law_back _ _ _ _ from ⟨y, rs, s, C, hr, rfl, ?_⟩)
  simp
  have all := C.all
  have tl : (toldS y rs s).length = rs.length + 1 := by simp [toldS]
  rw [toldL_eq, textsL_eq]
  generalize toldS y rs s = ts at all tl ⊢
  refine compU_ix (fun j acc e h' => h' = h ∧ acc = ((ts.take j).map (txt y)).map U.str ∧ e = [s0, e1, some (Sv.val (U.tup [U.str (encWy y), U.tup (stL f.fst), U.tup (stL f.snd)])), some (Sv.val (U.bl (touchS f))), some (Sv.val (handsU s)), some (Sv.val (U.lst (ts.map (drvU y)))), some (Sv.val (U.lst (entL rs))), some (Sv.own ((ts.map (txt y)).map U.str)), e8, e9, e10, e11, none]) (fun acc e h' I => ?_) (fun j u hu acc e h' F I hF => ?_) ⟨rfl, by simp, rfl⟩
  · obtain ⟨rfl, rfl, rfl⟩ := I
    have et : ts.take (ts.map (drvU y)).length = ts := List.take_of_length_le (by simp)
    rw [et]
    have eq := eq_strs (ts.map (txt y)) fun x hx => by
      obtain ⟨z, _, rfl⟩ := List.mem_map.mp hx
      exact sOk_txt y z
    simp only [List.getElem?_cons_succ, List.getElem?_cons_zero, eq]
    exact hp
  · obtain ⟨rfl, rfl, rfl⟩ := I
    rw [List.getElem?_map] at hu
    cases hx : ts[j]? with
    | none => rw [hx] at hu; cases hu
    | some x =>
      rw [hx] at hu
      cases hu
      have D := all x (List.mem_of_getElem? hx)
      have hj := (List.getElem?_eq_some_iff.mp hx).1
      have zz : 1000 ≤ sizeLine := by decide
      simp [repr_txt D, wipeE]
      refine ⟨by omega, hF _ _ _ ⟨rfl, ?_, by simp⟩⟩
      rw [List.take_add_one, hx]
      simp
theorem conf_law' : ∀ us h Po Pe, us.length = 1 → sp_law us h Po Pe → p_law (startE N_law us) h (bodyD Po Pe) := by
  intro us h Po Pe hl hs
  unfold sp_law at hs
  split at hs
  · rename_i ns
    obtain ⟨hlen, fin⟩ := hs
    rw [cut_law]
    obtain ⟨c0, hc0⟩ : ∃ c0 : Int, L2.atI (U.int 3 :: ns.map U.int) (-1) = some (.int c0) := by
      have : ∃ (a : List Int) (c : Int), 3 :: ns = a ++ [c] := ⟨(3 :: ns).dropLast, (3 :: ns).getLast (by simp), (List.dropLast_concat_getLast (by simp)).symm⟩
      obtain ⟨a, c, e⟩ := this
      refine ⟨c, ?_⟩
      have : U.int 3 :: ns.map U.int = a.map U.int ++ [U.int c] := by
        rw [show U.int 3 :: ns.map U.int = (3 :: ns).map U.int from rfl, e]; simp
      rw [this]
      exact at_last
    simp [r_law_0, t_law_0, startE, N_law, hc0, sp_law_pot, sizeLine_eq]
    refine ⟨by omega, fun a0 b0 hb0 hb1 => ?_⟩
    have p0 : PotAt (h ++ [Ob.lst [.int a0, .int b0, .int 0]]) h.length 0 := ⟨a0, b0, 0, by simp, hb0, by omega, by omega, by omega⟩
    generalize h ++ [Ob.lst [.int a0, .int b0, .int 0]] = h0 at p0 ⊢
    generalize h.length = i at p0 ⊢
    simp [r_law_1, t_law_1, sp_law_among, sizeLine_eq]
    refine ⟨_, p0, by omega, fun h1 j x p1 r1 hx => ?_⟩
    obtain ⟨n, rfl, n0, n1⟩ : ∃ n : Int, x = .int n ∧ 0 ≤ n ∧ n ≤ 5 := by
      have := List.mem_of_getElem? hx
      simp at this
      rcases this with rfl | rfl | rfl | rfl | rfl <;> exact ⟨_, rfl, by decide, by decide⟩
    simp [sp_law_driver]
    refine ⟨_, p1, by omega, n0, by omega, fun h2 w p2 r2 hw => ?_⟩
    obtain ⟨y, P', R, rfl, hd, l1, l2, l3, l4⟩ := hw
    have D : DR y (P', R) := ⟨hd, by show P'.length ≤ 100; omega, by show R.length ≤ 100; omega⟩
    have ed : U.tup [U.str (encWy y), U.tup (stL P'), U.tup (stL R)] = drvU y (P', R) := rfl
    rw [ed]
    simp only [r_law_2]
    simp [t_law_2]
    refine (show sp_touches _ _ _ _ from ⟨y, (P', R), D, rfl, ?_⟩)
    simp only [r_law_3]
    have at1 : ∀ u v w : U, L2.atI [u, v, w] 1 = some v := fun _ _ _ => rfl
    have at2 : ∀ u v w : U, L2.atI [u, v, w] 2 = some w := fun _ _ _ => rfl
    have rt := repr_txt D
    simp [t_law_3, ← ed, at1, at2]
    rw [ed]
    refine ⟨by decide, ?_⟩
    simp only [r_law_4]
    simp [t_law_4]
    simp only [r_law_5]
    simp [t_law_5]
    simp only [r_law_6]
    simp [t_law_6, rt]
    simp only [r_law_7]
    simp [t_law_7]
    have zz : 1000 ≤ sizeLine := by decide
    have cl : (cutU (ns.map U.int) none (some 59)).length ≤ 59 := by simp [cutU, HT.sIx]; omega
    refine ⟨by omega, by omega, ?_⟩
    refine forU_ix (fun j e h' => ∃ rs s e1 e8 e9 e10 e11 e12, Chain y rs s ∧ rs.length ≤ j ∧ s.1.length ≤ 6 + j ∧ s.2.length ≤ 6 + j ∧ touchS s = touchS (P', R) ∧ e = EL y (P', R) s rs (some (.val (.scr ns))) e1 e8 e9 e10 e11 e12) (fun e h' I => ?_) (fun j u hu e h' F I hF => ?_) ⟨[], (P', R), _, _, _, _, _, _, .nil D, Nat.zero_le _, by show P'.length ≤ 6 + 0; omega, by show R.length ≤ 6 + 0; omega, rfl, rfl⟩
    · obtain ⟨rs, s, e1, e8, e9, e10, e11, e12, C, k1, k2, k3, k4, rfl⟩ := I
      simp only [List.length_cons] at k1
      exact fin_ok C (by omega) (fin _)
    · obtain ⟨rs, s, e1, e8, e9, e10, e11, e12, C, k1, k2, k3, k4, rfl⟩ := I
      have hj := (List.getElem?_eq_some_iff.mp hu).1
      simp only [List.length_cons] at hj
      obtain ⟨c, rfl⟩ : ∃ c, u = .int c := by
        rcases List.mem_cons.mp (List.mem_of_getElem? hu) with h | h
        · exact ⟨_, h⟩
        · obtain ⟨c, _, rfl⟩ := List.mem_map.mp (List.mem_of_mem_drop (List.mem_of_mem_take h))
          exact ⟨c, rfl⟩
      simp only [gN]
      refine ⟨by simp, ?_⟩
      simp only [List.set_cons_succ, List.set_cons_zero]
      refine b1_ok C (n := 6 + j) k2 k3 (by omega) (by omega) k4 fun rs' t e9 e10 e11 h' C' m1 m2 m3 m4 => ?_
      exact hF _ _ ⟨rs', t, _, _, _, _, _, _, C', by omega, m2, m3, m4, rfl⟩
  · exact hs.elim
theorem conf_law : ∀ us h Po Pe, us.length = 1 → sp_law us h Po Pe → p_law (startE N_law us) h (bodyD Po Pe) := by
  exact conf_law'
end Vi.Law

namespace Vi.Law
open PySem PySem.Spec PyProof.Rows L2 Vi

theorem ok_has_steps [WW] {P : Program} {K : PySem.W.Frag} {mg : Str → Option Value} {base : Heap} (T : Tx fas css fns K mg) : ∃ fd, FunD K "has_steps" "has_steps" (defArgs s_has_steps) (defBody s_has_steps) (defScope s_has_steps) [] [] (He.ga K "has_steps") fd ∧ FnG P WW.w K mg base 1 (He.ga K "has_steps") fd ["value", "mark"] (spF K (He.ga K) 2 sp_has_steps) := by
  obtain ⟨fd, FD⟩ := T.def_ 0 (d := d_has_steps) rfl
  have FD : FunD K "has_steps" "has_steps" (defArgs s_has_steps) (defBody s_has_steps) (defScope s_has_steps) [] [] (He.ga K "has_steps") fd := FD
  obtain ⟨a_STEPS, v_STEPS, mg_STEPS, rv_STEPS, rr_STEPS⟩ := T.cst 0 (x := "STEPS") (u := c_STEPS) rfl
  refine ⟨fd, FD, fn_ok (ga := He.ga K) (t := p_has_steps) FD sc_has_steps (fun cdv A outer s H E hr hgd => ?_) conf_has_steps⟩
  have hu := hr.units
  exact (wss_cons (ws_if (wt_not (wt_val (we_callB call_isiU rfl (T.free 21) (by decide +kernel) (wa_cons (we_var (pv 0)) (wa_cons (we_ty rfl (T.free 22) (by decide +kernel)) wa_nil))))) (wss_one (ws_ret we_bl)) wss_nil)
    (wss_cons (ws_set (ps_set (i := 2) sc_has_steps.nd rfl (by first | exact Or.inl rfl | exact Or.inr rfl) we_int))
    (wss_cons (ws_for (passes_of rfl) rfl (wi_any rfl (we_var (pv 0))) (wg_name (pg_name (i := 3) sc_has_steps.nd rfl (by first | exact Or.inl rfl | exact Or.inr rfl))) (wss_cons (ws_if (wt_not (wt_val (we_callB call_isiU rfl (T.free 21) (by decide +kernel) (wa_cons (we_var (pv 3)) (wa_cons (we_ty rfl (T.free 20) (by decide +kernel)) wa_nil))))) (wss_one (ws_ret we_bl)) wss_nil)
    (wss_one (ws_if (wt_cmp (op_eqU hu) (we_var (pv 3)) (we_var (pv 1)) (nomark _)) (wss_one (ws_aug (ps_aug (i := 2) sc_has_steps.nd rfl (by first | exact Or.inl rfl | exact Or.inr rfl) we_int ip_addU) rfl)) (wss_one (ws_if (wt_cmp op_notInU (we_var (pv 3)) (we_glo rfl mg_STEPS rv_STEPS rr_STEPS) (by rfl)) (wss_one (ws_ret we_bl)) wss_nil))))))
    (wss_one (ws_ret (we_cmp (op_eqU hu) (we_var (pv 2)) we_int (nomark _)))))))


theorem ok_is_driver [WW] {P : Program} {K : PySem.W.Frag} {mg : Str → Option Value} {base : Heap} (T : Tx fas css fns K mg) : ∃ fd, FunD K "is_driver" "is_driver" (defArgs s_is_driver) (defBody s_is_driver) (defScope s_is_driver) [] [] (He.ga K "is_driver") fd ∧ FnG P WW.w K mg base 2 (He.ga K "is_driver") fd ["value"] (spF K (He.ga K) 1 sp_is_driver) := by
  obtain ⟨fd, FD⟩ := T.def_ 1 (d := d_is_driver) rfl
  have FD : FunD K "is_driver" "is_driver" (defArgs s_is_driver) (defBody s_is_driver) (defScope s_is_driver) [] [] (He.ga K "is_driver") fd := FD
  obtain ⟨fd_has_steps, FD_has_steps, F_has_steps⟩ := ok_has_steps (P := P) (base := base) T
  have mg_has_steps := T.glo 0 (x := "has_steps") rfl
  have b_has_steps_2 : L2.Binds K fd_has_steps ["value", "mark"] [] := FD_has_steps.bindsN fun _ _ _ _ _ _ us hl => match us, hl with | [_, _], _ => rfl
  have hd_b_has_steps_2 : Vals [] [] := .nil
  have hD_b_has_steps_2 : ∀ (W : Wd) (H : Hp), RVs K W H [] [] := fun _ _ => .nil
  obtain ⟨a_WAYS, v_WAYS, mg_WAYS, rv_WAYS, rr_WAYS⟩ := T.cst 1 (x := "WAYS") (u := c_WAYS) rfl
  refine ⟨fd, FD, fn_ok (ga := He.ga K) (t := p_is_driver) FD sc_is_driver (fun cdv A outer s H E hr hgd => ?_) conf_is_driver⟩
  have hu := hr.units
  have hr_1 : Room 1 _ := hr.mono (by decide : 1 ≤ 1)
  exact (wss_cons (ws_if (wt_bool (wt_or (wt_not (wt_val (we_callB call_isiU rfl (T.free 21) (by decide +kernel) (wa_cons (we_var (pv 0)) (wa_cons (we_ty rfl (T.free 22) (by decide +kernel)) wa_nil))))) (wt_or1 (wt_cmp (op_neU hu) (we_callB call_lenU rfl (T.free 23) (by decide +kernel) (wa_cons (we_var (pv 0)) wa_nil)) we_int (nomark _))))) (wss_one (ws_ret we_bl)) wss_nil)
    (wss_cons (ws_asg (we_var (pv 0)) (wg_tup rfl rfl (ks := [1, 2, 3]) (pgs_cons (pg_name (i := 1) sc_is_driver.nd rfl (by first | exact Or.inl rfl | exact Or.inr rfl)) (pgs_cons (pg_name (i := 2) sc_is_driver.nd rfl (by first | exact Or.inl rfl | exact Or.inr rfl)) (pgs_cons (pg_name (i := 3) sc_is_driver.nd rfl (by first | exact Or.inl rfl | exact Or.inr rfl)) pgs_nil)))))
    (wss_one (ws_ret (we_and (we_callB call_isiU rfl (T.free 21) (by decide +kernel) (wa_cons (we_var (pv 1)) (wa_cons (we_ty rfl (T.free 20) (by decide +kernel)) wa_nil))) (we_and (we_cmp op_inU (we_var (pv 1)) (we_glo rfl mg_WAYS rv_WAYS rr_WAYS) (by rfl)) (we_and (we_call (n := 2) (D := []) (F_has_steps.mono (by decide)) hr_1 hgd rfl mg_has_steps FD_has_steps.kp b_has_steps_2 hd_b_has_steps_2 hD_b_has_steps_2 (takes_of rfl rfl rfl rfl) (wa_cons (we_var (pv 2)) (wa_cons we_str wa_nil))) (we_one (we_call (n := 2) (D := []) (F_has_steps.mono (by decide)) hr_1 hgd rfl mg_has_steps FD_has_steps.kp b_has_steps_2 hd_b_has_steps_2 hD_b_has_steps_2 (takes_of rfl rfl rfl rfl) (wa_cons (we_var (pv 3)) (wa_cons we_str wa_nil)))))))))))


theorem ok_need_driver [WW] {P : Program} {K : PySem.W.Frag} {mg : Str → Option Value} {base : Heap} (T : Tx fas css fns K mg) : ∃ fd, FunD K "need_driver" "need_driver" (defArgs s_need_driver) (defBody s_need_driver) (defScope s_need_driver) [] [] (He.ga K "need_driver") fd ∧ FnG P WW.w K mg base 3 (He.ga K "need_driver") fd ["driver"] (spF K (He.ga K) 1 sp_need_driver) := by
  obtain ⟨fd, FD⟩ := T.def_ 2 (d := d_need_driver) rfl
  have FD : FunD K "need_driver" "need_driver" (defArgs s_need_driver) (defBody s_need_driver) (defScope s_need_driver) [] [] (He.ga K "need_driver") fd := FD
  obtain ⟨fd_is_driver, FD_is_driver, F_is_driver⟩ := ok_is_driver (P := P) (base := base) T
  have mg_is_driver := T.glo 1 (x := "is_driver") rfl
  have b_is_driver_1 : L2.Binds K fd_is_driver ["value"] [] := FD_is_driver.bindsN fun _ _ _ _ _ _ us hl => match us, hl with | [_], _ => rfl
  have hd_b_is_driver_1 : Vals [] [] := .nil
  have hD_b_is_driver_1 : ∀ (W : Wd) (H : Hp), RVs K W H [] [] := fun _ _ => .nil
  have mg_InvalidDriver := T.glo 29 (x := "InvalidDriver") rfl
  have ex_InvalidDriver := He.exc_ok (T.fact 32 (f := .exc "InvalidDriver") rfl)
  refine ⟨fd, FD, fn_ok (ga := He.ga K) (t := p_need_driver) FD sc_need_driver (fun cdv A outer s H E hr hgd => ?_) conf_need_driver⟩
  have hu := hr.units
  have hr_2 : Room 2 _ := hr.mono (by decide : 2 ≤ 2)
  exact (wss_one (ws_if (wt_not (wt_val (we_call (n := 1) (D := []) (F_is_driver.mono (by decide)) hr_2 hgd rfl mg_is_driver FD_is_driver.kp b_is_driver_1 hd_b_is_driver_1 hD_b_is_driver_1 (takes_of rfl rfl rfl rfl) (wa_cons (we_var (pv 0)) wa_nil)))) (wss_one (ws_raise rfl (takes_of rfl rfl rfl rfl) ex_InvalidDriver.1 mg_InvalidDriver ex_InvalidDriver.2.1 (raises_own ex_InvalidDriver.2.2.1 ex_InvalidDriver.2.2.2) rfl)) wss_nil))


theorem ok_touches [WW] {P : Program} {K : PySem.W.Frag} {mg : Str → Option Value} {base : Heap} (T : Tx fas css fns K mg) : ∃ fd, FunD K "touches" "touches" (defArgs s_touches) (defBody s_touches) (defScope s_touches) [] [] (He.ga K "touches") fd ∧ FnG P WW.w K mg base 4 (He.ga K "touches") fd ["driver"] (spF K (He.ga K) 1 sp_touches) := by
  obtain ⟨fd, FD⟩ := T.def_ 3 (d := d_touches) rfl
  have FD : FunD K "touches" "touches" (defArgs s_touches) (defBody s_touches) (defScope s_touches) [] [] (He.ga K "touches") fd := FD
  obtain ⟨fd_need_driver, FD_need_driver, F_need_driver⟩ := ok_need_driver (P := P) (base := base) T
  have mg_need_driver := T.glo 2 (x := "need_driver") rfl
  have b_need_driver_1 : L2.Binds K fd_need_driver ["driver"] [] := FD_need_driver.bindsN fun _ _ _ _ _ _ us hl => match us, hl with | [_], _ => rfl
  have hd_b_need_driver_1 : Vals [] [] := .nil
  have hD_b_need_driver_1 : ∀ (W : Wd) (H : Hp), RVs K W H [] [] := fun _ _ => .nil
  refine ⟨fd, FD, fn_ok (ga := He.ga K) (t := p_touches) FD sc_touches (fun cdv A outer s H E hr hgd => ?_) conf_touches⟩
  have hu := hr.units
  have hr_3 : Room 3 _ := hr.mono (by decide : 3 ≤ 3)
  exact (wss_cons (ws_expr (we_call (n := 1) (D := []) (F_need_driver.mono (by decide)) hr_3 hgd rfl mg_need_driver FD_need_driver.kp b_need_driver_1 hd_b_need_driver_1 hD_b_need_driver_1 (takes_of rfl rfl rfl rfl) (wa_cons (we_var (pv 0)) wa_nil)))
    (wss_cons (ws_asg (we_var (pv 0)) (wg_tup rfl rfl (ks := [1, 2, 3]) (pgs_cons (pg_name (i := 1) sc_touches.nd rfl (by first | exact Or.inl rfl | exact Or.inr rfl)) (pgs_cons (pg_name (i := 2) sc_touches.nd rfl (by first | exact Or.inl rfl | exact Or.inr rfl)) (pgs_cons (pg_name (i := 3) sc_touches.nd rfl (by first | exact Or.inl rfl | exact Or.inr rfl)) pgs_nil)))))
    (wss_cons (ws_set (ps_set (i := 4) sc_touches.nd rfl (by first | exact Or.inl rfl | exact Or.inr rfl) (we_bin op_addU (we_sl sl_U (we_var (pv 2)) (wp_some (we_bin op_addU (we_idxT rfl (pv 2) (wa_cons we_str wa_nil)) we_int)) wp_none) (we_sl sl_U (we_var (pv 3)) wp_none (wp_some (we_idxT rfl (pv 3) (wa_cons we_str wa_nil)))))))
    (wss_one (ws_ret (we_or (we_cmp op_inU we_str (we_var (pv 4)) (by rfl)) (we_one (we_cmp op_inU we_str (we_var (pv 4)) (by rfl)))))))))


theorem ok_law_pot [WW] {P : Program} {K : PySem.W.Frag} {mg : Str → Option Value} {base : Heap} (T : Tx fas css fns K mg) : ∃ fd, FunD K "_law_pot" "_law_pot" (defArgs s_law_pot) (defBody s_law_pot) (defScope s_law_pot) [] [] (He.ga K "_law_pot") fd ∧ FnG P WW.w K mg base 1 (He.ga K "_law_pot") fd ["cell"] (spF K (He.ga K) 1 sp_law_pot) := by
  obtain ⟨fd, FD⟩ := T.def_ 4 (d := d_law_pot) rfl
  have FD : FunD K "_law_pot" "_law_pot" (defArgs s_law_pot) (defBody s_law_pot) (defScope s_law_pot) [] [] (He.ga K "_law_pot") fd := FD
  refine ⟨fd, FD, fn_ok (ga := He.ga K) (t := p_law_pot) FD sc_law_pot (fun cdv A outer s H E hr hgd => ?_) conf_law_pot⟩
  have hu := hr.units
  exact (wss_cons (ws_set (ps_set (i := 1) sc_law_pot.nd rfl (by first | exact Or.inl rfl | exact Or.inr rfl) we_int))
    (wss_cons (ws_if (wt_cmp op_geU (we_var (pv 0)) (we_bin op_powU we_int we_int) (nomark _)) (wss_one (ws_set (ps_set (i := 1) sc_law_pot.nd rfl (by first | exact Or.inl rfl | exact Or.inr rfl) (we_bin op_subU (we_var (pv 0)) (we_bin op_powU we_int we_int))))) wss_nil)
    (wss_one (ws_ret (we_lst (wa_cons (we_var (pv 1)) (wa_cons (we_bin op_modU (we_callTy call_intU rfl (T.free 24) (by decide +kernel) (wa_cons (we_var (pv 0)) wa_nil)) we_int) (wa_cons we_int wa_nil))))))))


theorem ok_law_pick [WW] {P : Program} {K : PySem.W.Frag} {mg : Str → Option Value} {base : Heap} (T : Tx fas css fns K mg) : ∃ fd, FunD K "_law_pick" "_law_pick" (defArgs s_law_pick) (defBody s_law_pick) (defScope s_law_pick) [] [] (He.ga K "_law_pick") fd ∧ FnG P WW.w K mg base 1 (He.ga K "_law_pick") fd ["pot", "many"] (spF K (He.ga K) 2 sp_law_pick) := by
  obtain ⟨fd, FD⟩ := T.def_ 5 (d := d_law_pick) rfl
  have FD : FunD K "_law_pick" "_law_pick" (defArgs s_law_pick) (defBody s_law_pick) (defScope s_law_pick) [] [] (He.ga K "_law_pick") fd := FD
  refine ⟨fd, FD, fn_ok (ga := He.ga K) (t := p_law_pick) FD sc_law_pick (fun cdv A outer s H E hr hgd => ?_) conf_law_pick⟩
  have hu := hr.units
  exact (wss_cons (ws_if (wt_cmp op_gtU (we_ix ix_U (we_var (pv 0)) we_int (fun _ _ => rfl)) we_int (nomark _)) (wss_cons (ws_set (ps_set (i := 2) sc_law_pick.nd rfl (by first | exact Or.inl rfl | exact Or.inr rfl) (we_bin op_modU (we_callTy call_intU rfl (T.free 24) (by decide +kernel) (wa_cons (we_ix ix_U (we_var (pv 0)) we_int (fun _ _ => rfl)) wa_nil)) (we_var (pv 1)))))
    (wss_cons (ws_setIx (we_bin op_fdivU (we_ix ix_U (we_var (pv 0)) we_int (fun _ _ => rfl)) (we_var (pv 1))) (pv 0) we_int)
    (wss_one (ws_ret (we_var (pv 2)))))) wss_nil)
    (wss_cons (ws_augIx rfl (pv 0) we_int we_int ip_addU)
    (wss_cons (ws_set (ps_set (i := 3) sc_law_pick.nd rfl (by first | exact Or.inl rfl | exact Or.inr rfl) (we_bin op_addU (we_bin op_mulU (we_bin op_addU (we_ix ix_U (we_var (pv 0)) we_int (fun _ _ => rfl)) we_int) (we_bin op_addU (we_bin op_mulU (we_ix ix_U (we_var (pv 0)) we_int (fun _ _ => rfl)) (we_ix ix_U (we_var (pv 0)) we_int (fun _ _ => rfl))) we_int)) (we_bin op_mulU we_int (we_ix ix_U (we_var (pv 0)) we_int (fun _ _ => rfl))))))
    (wss_cons (ws_set (ps_set (i := 3) sc_law_pick.nd rfl (by first | exact Or.inl rfl | exact Or.inr rfl) (we_bin op_modU (we_callTy call_intU rfl (T.free 24) (by decide +kernel) (wa_cons (we_bin op_addU (we_bin op_mulU (we_var (pv 3)) (we_var (pv 3))) (we_bin op_mulU we_int (we_var (pv 3)))) wa_nil)) we_int)))
    (wss_cons (ws_set (ps_set (i := 3) sc_law_pick.nd rfl (by first | exact Or.inl rfl | exact Or.inr rfl) (we_bin op_mulU (we_bin op_addU (we_bin op_fdivU (we_var (pv 3)) we_int) we_int) (we_bin op_addU (we_bin op_addU (we_bin op_fdivU (we_var (pv 3)) we_int) (we_bin op_mulU we_int (we_ix ix_U (we_var (pv 0)) we_int (fun _ _ => rfl)))) we_int))))
    (wss_one (ws_ret (we_bin op_modU (we_bin op_fdivU (we_bin op_modU (we_callTy call_intU rfl (T.free 24) (by decide +kernel) (wa_cons (we_var (pv 3)) wa_nil)) we_int) we_int) (we_var (pv 1))))))))))


theorem ok_law_among [WW] {P : Program} {K : PySem.W.Frag} {mg : Str → Option Value} {base : Heap} (T : Tx fas css fns K mg) : ∃ fd, FunD K "_law_among" "_law_among" (defArgs s_law_among) (defBody s_law_among) (defScope s_law_among) [] [] (He.ga K "_law_among") fd ∧ FnG P WW.w K mg base 2 (He.ga K "_law_among") fd ["pot", "some"] (spF K (He.ga K) 2 sp_law_among) := by
  obtain ⟨fd, FD⟩ := T.def_ 6 (d := d_law_among) rfl
  have FD : FunD K "_law_among" "_law_among" (defArgs s_law_among) (defBody s_law_among) (defScope s_law_among) [] [] (He.ga K "_law_among") fd := FD
  obtain ⟨fd_law_pick, FD_law_pick, F_law_pick⟩ := ok_law_pick (P := P) (base := base) T
  have mg_law_pick := T.glo 5 (x := "_law_pick") rfl
  have b_law_pick_2 : L2.Binds K fd_law_pick ["pot", "many"] [] := FD_law_pick.bindsN fun _ _ _ _ _ _ us hl => match us, hl with | [_, _], _ => rfl
  have hd_b_law_pick_2 : Vals [] [] := .nil
  have hD_b_law_pick_2 : ∀ (W : Wd) (H : Hp), RVs K W H [] [] := fun _ _ => .nil
  refine ⟨fd, FD, fn_ok (ga := He.ga K) (t := p_law_among) FD sc_law_among (fun cdv A outer s H E hr hgd => ?_) conf_law_among⟩
  have hu := hr.units
  have hr_1 : Room 1 _ := hr.mono (by decide : 1 ≤ 1)
  exact (wss_one (ws_ret (we_ix ix_U (we_var (pv 1)) (we_call (n := 2) (D := []) (F_law_pick.mono (by decide)) hr_1 hgd rfl mg_law_pick FD_law_pick.kp b_law_pick_2 hd_b_law_pick_2 hD_b_law_pick_2 (takes_of rfl rfl rfl rfl) (wa_cons (we_var (pv 0)) (wa_cons (we_callB call_lenU rfl (T.free 23) (by decide +kernel) (wa_cons (we_var (pv 1)) wa_nil)) wa_nil))) (fun _ _ => rfl))))


theorem ok_law_steps [WW] {P : Program} {K : PySem.W.Frag} {mg : Str → Option Value} {base : Heap} (T : Tx fas css fns K mg) : ∃ fd, FunD K "_law_steps" "_law_steps" (defArgs s_law_steps) (defBody s_law_steps) (defScope s_law_steps) [] [] (He.ga K "_law_steps") fd ∧ FnG P WW.w K mg base 3 (He.ga K "_law_steps") fd ["pot", "mark", "most"] (spF K (He.ga K) 3 sp_law_steps) := by
  obtain ⟨fd, FD⟩ := T.def_ 7 (d := d_law_steps) rfl
  have FD : FunD K "_law_steps" "_law_steps" (defArgs s_law_steps) (defBody s_law_steps) (defScope s_law_steps) [] [] (He.ga K "_law_steps") fd := FD
  obtain ⟨fd_law_among, FD_law_among, F_law_among⟩ := ok_law_among (P := P) (base := base) T
  have mg_law_among := T.glo 6 (x := "_law_among") rfl
  have b_law_among_2 : L2.Binds K fd_law_among ["pot", "some"] [] := FD_law_among.bindsN fun _ _ _ _ _ _ us hl => match us, hl with | [_, _], _ => rfl
  have hd_b_law_among_2 : Vals [] [] := .nil
  have hD_b_law_among_2 : ∀ (W : Wd) (H : Hp), RVs K W H [] [] := fun _ _ => .nil
  obtain ⟨fd_law_pick, FD_law_pick, F_law_pick⟩ := ok_law_pick (P := P) (base := base) T
  have mg_law_pick := T.glo 5 (x := "_law_pick") rfl
  have b_law_pick_2 : L2.Binds K fd_law_pick ["pot", "many"] [] := FD_law_pick.bindsN fun _ _ _ _ _ _ us hl => match us, hl with | [_, _], _ => rfl
  have hd_b_law_pick_2 : Vals [] [] := .nil
  have hD_b_law_pick_2 : ∀ (W : Wd) (H : Hp), RVs K W H [] [] := fun _ _ => .nil
  refine ⟨fd, FD, fn_ok (ga := He.ga K) (t := p_law_steps) FD sc_law_steps (fun cdv A outer s H E hr hgd => ?_) conf_law_steps⟩
  have hu := hr.units
  have hr_1 : Room 2 _ := hr.mono (by decide : 2 ≤ 2)
  have hr_2 : Room 2 _ := hr.mono (by decide : 2 ≤ 2)
  exact (wss_cons (ws_set (ps_set (i := 3) sc_law_steps.nd rfl (by first | exact Or.inl rfl | exact Or.inr rfl) (we_lst (wa_cons we_str (wa_cons we_str (wa_cons we_str (wa_cons we_str (wa_cons we_str (wa_cons we_str wa_nil)))))))))
    (wss_cons (ws_set (ps_lcU (i := 4) rfl sc_law_steps.nd rfl rfl (sw_true rfl rfl rfl (by decide +kernel)) (wi_range1 rfl (T.free 25) (wa_cons (we_call (n := 2) (D := []) (F_law_pick.mono (by decide)) hr_1 hgd rfl mg_law_pick FD_law_pick.kp b_law_pick_2 hd_b_law_pick_2 hD_b_law_pick_2 (takes_of rfl rfl rfl rfl) (wa_cons (we_var (pv 0)) (wa_cons (we_bin op_addU (we_var (pv 2)) we_int) wa_nil))) wa_nil)) (own := [("k", 6)]) (blkOk_by (N := N_law_steps) (sc := (defScope s_law_steps)) (by decide +kernel)) (by decide) (fun _ _ _ _ _ => (wg_name (pg_name (i := 6) sc_law_steps.nd rfl (by first | exact Or.inl rfl | exact Or.inr rfl)))) (fun _ _ _ _ _ => wts_nil) (fun _ _ _ _ _ => (we_call (n := 2) (D := []) (F_law_among.mono (by decide)) hr_2 hgd rfl mg_law_among FD_law_among.kp b_law_among_2 hd_b_law_among_2 hD_b_law_among_2 takes_nox (wa_cons (we_var (pv 0)) (wa_cons (we_var (pv 3)) wa_nil))))))
    (wss_cons (ws_set (ps_set (i := 5) sc_law_steps.nd rfl (by first | exact Or.inl rfl | exact Or.inr rfl) (we_call (n := 2) (D := []) (F_law_pick.mono (by decide)) hr_1 hgd rfl mg_law_pick FD_law_pick.kp b_law_pick_2 hd_b_law_pick_2 hD_b_law_pick_2 (takes_of rfl rfl rfl rfl) (wa_cons (we_var (pv 0)) (wa_cons (we_bin op_addU (we_callB call_lenU rfl (T.free 23) (by decide +kernel) (wa_cons (we_var (pv 4)) wa_nil)) we_int) wa_nil)))))
    (wss_one (ws_ret (we_callTy call_tupleU rfl (T.free 22) (by decide +kernel) (wa_cons (we_bin op_addU (we_bin op_addU (we_sl sl_U (we_var (pv 4)) wp_none (wp_some (we_var (pv 5)))) (we_lst (wa_cons (we_var (pv 1)) wa_nil))) (we_sl sl_U (we_var (pv 4)) (wp_some (we_var (pv 5))) wp_none)) wa_nil)))))))


theorem ok_law_driver [WW] {P : Program} {K : PySem.W.Frag} {mg : Str → Option Value} {base : Heap} (T : Tx fas css fns K mg) : ∃ fd, FunD K "_law_driver" "_law_driver" (defArgs s_law_driver) (defBody s_law_driver) (defScope s_law_driver) [] [] (He.ga K "_law_driver") fd ∧ FnG P WW.w K mg base 4 (He.ga K "_law_driver") fd ["pot", "most"] (spF K (He.ga K) 2 sp_law_driver) := by
  obtain ⟨fd, FD⟩ := T.def_ 8 (d := d_law_driver) rfl
  have FD : FunD K "_law_driver" "_law_driver" (defArgs s_law_driver) (defBody s_law_driver) (defScope s_law_driver) [] [] (He.ga K "_law_driver") fd := FD
  obtain ⟨fd_law_among, FD_law_among, F_law_among⟩ := ok_law_among (P := P) (base := base) T
  have mg_law_among := T.glo 6 (x := "_law_among") rfl
  have b_law_among_2 : L2.Binds K fd_law_among ["pot", "some"] [] := FD_law_among.bindsN fun _ _ _ _ _ _ us hl => match us, hl with | [_, _], _ => rfl
  have hd_b_law_among_2 : Vals [] [] := .nil
  have hD_b_law_among_2 : ∀ (W : Wd) (H : Hp), RVs K W H [] [] := fun _ _ => .nil
  obtain ⟨fd_law_steps, FD_law_steps, F_law_steps⟩ := ok_law_steps (P := P) (base := base) T
  have mg_law_steps := T.glo 7 (x := "_law_steps") rfl
  have b_law_steps_3 : L2.Binds K fd_law_steps ["pot", "mark", "most"] [] := FD_law_steps.bindsN fun _ _ _ _ _ _ us hl => match us, hl with | [_, _, _], _ => rfl
  have hd_b_law_steps_3 : Vals [] [] := .nil
  have hD_b_law_steps_3 : ∀ (W : Wd) (H : Hp), RVs K W H [] [] := fun _ _ => .nil
  refine ⟨fd, FD, fn_ok (ga := He.ga K) (t := p_law_driver) FD sc_law_driver (fun cdv A outer s H E hr hgd => ?_) conf_law_driver⟩
  have hu := hr.units
  have hr_2 : Room 3 _ := hr.mono (by decide : 3 ≤ 3)
  have hr_3 : Room 3 _ := hr.mono (by decide : 3 ≤ 3)
  exact (wss_cons (ws_set (ps_set (i := 2) sc_law_driver.nd rfl (by first | exact Or.inl rfl | exact Or.inr rfl) (we_call (n := 2) (D := []) (F_law_among.mono (by decide)) hr_2 hgd rfl mg_law_among FD_law_among.kp b_law_among_2 hd_b_law_among_2 hD_b_law_among_2 (takes_of rfl rfl rfl rfl) (wa_cons (we_var (pv 0)) (wa_cons (we_lst (wa_cons we_str (wa_cons we_str (wa_cons we_str wa_nil)))) wa_nil)))))
    (wss_one (ws_ret (we_tup (wa_cons (we_var (pv 2)) (wa_cons (we_call (n := 3) (D := []) (F_law_steps.mono (by decide)) hr_3 hgd rfl mg_law_steps FD_law_steps.kp b_law_steps_3 hd_b_law_steps_3 hD_b_law_steps_3 (takes_of rfl rfl rfl rfl) (wa_cons (we_var (pv 0)) (wa_cons we_str (wa_cons (we_var (pv 1)) wa_nil)))) (wa_cons (we_call (n := 3) (D := []) (F_law_steps.mono (by decide)) hr_3 hgd rfl mg_law_steps FD_law_steps.kp b_law_steps_3 hd_b_law_steps_3 hD_b_law_steps_3 (takes_of rfl rfl rfl rfl) (wa_cons (we_var (pv 0)) (wa_cons we_str (wa_cons (we_var (pv 1)) wa_nil)))) wa_nil)))))))


theorem ok_is_whole [WW] {P : Program} {K : PySem.W.Frag} {mg : Str → Option Value} {base : Heap} (T : Tx fas css fns K mg) : ∃ fd, FunD K "is_whole" "is_whole" (defArgs s_is_whole) (defBody s_is_whole) (defScope s_is_whole) [.int 0] [] (He.ga K "is_whole") fd ∧ FnG P WW.w K mg base 1 (He.ga K "is_whole") fd ["value", "least"] (spF K (He.ga K) 2 sp_is_whole) := by
  obtain ⟨fd, FD⟩ := T.def_ 9 (d := d_is_whole) rfl
  have FD : FunD K "is_whole" "is_whole" (defArgs s_is_whole) (defBody s_is_whole) (defScope s_is_whole) [.int 0] [] (He.ga K "is_whole") fd := FD
  refine ⟨fd, FD, fn_ok (ga := He.ga K) (t := p_is_whole) FD sc_is_whole (fun cdv A outer s H E hr hgd => ?_) conf_is_whole⟩
  have hu := hr.units
  exact (wss_one (ws_ret (we_and (we_callB call_isiU rfl (T.free 21) (by decide +kernel) (wa_cons (we_var (pv 0)) (wa_cons (we_ty rfl (T.free 24) (by decide +kernel)) wa_nil))) (we_and (we_not (we_callB call_isiU rfl (T.free 21) (by decide +kernel) (wa_cons (we_var (pv 0)) (wa_cons (we_ty rfl (T.free 26) (by decide +kernel)) wa_nil)))) (we_one (we_cmp op_geU (we_var (pv 0)) (we_var (pv 1)) (nomark _)))))))


theorem ok_need_hand [WW] {P : Program} {K : PySem.W.Frag} {mg : Str → Option Value} {base : Heap} (T : Tx fas css fns K mg) : ∃ fd, FunD K "need_hand" "need_hand" (defArgs s_need_hand) (defBody s_need_hand) (defScope s_need_hand) [] [] (He.ga K "need_hand") fd ∧ FnG P WW.w K mg base 1 (He.ga K "need_hand") fd ["hand"] (spF K (He.ga K) 1 sp_need_hand) := by
  obtain ⟨fd, FD⟩ := T.def_ 10 (d := d_need_hand) rfl
  have FD : FunD K "need_hand" "need_hand" (defArgs s_need_hand) (defBody s_need_hand) (defScope s_need_hand) [] [] (He.ga K "need_hand") fd := FD
  have mg_InvalidHand := T.glo 30 (x := "InvalidHand") rfl
  have ex_InvalidHand := He.exc_ok (T.fact 33 (f := .exc "InvalidHand") rfl)
  refine ⟨fd, FD, fn_ok (ga := He.ga K) (t := p_need_hand) FD sc_need_hand (fun cdv A outer s H E hr hgd => ?_) conf_need_hand⟩
  have hu := hr.units
  exact (wss_one (ws_if (wt_bool (wt_or (wt_not (wt_val (we_callB call_isiU rfl (T.free 21) (by decide +kernel) (wa_cons (we_var (pv 0)) (wa_cons (we_ty rfl (T.free 20) (by decide +kernel)) wa_nil))))) (wt_or1 (wt_cmp op_notInU (we_var (pv 0)) (we_tup (wa_cons we_str (wa_cons we_str wa_nil))) (by rfl))))) (wss_one (ws_raise rfl (takes_of rfl rfl rfl rfl) ex_InvalidHand.1 mg_InvalidHand ex_InvalidHand.2.1 (raises_own ex_InvalidHand.2.2.1 ex_InvalidHand.2.2.2) rfl)) wss_nil))


theorem ok_hand_steps [WW] {P : Program} {K : PySem.W.Frag} {mg : Str → Option Value} {base : Heap} (T : Tx fas css fns K mg) : ∃ fd, FunD K "hand_steps" "hand_steps" (defArgs s_hand_steps) (defBody s_hand_steps) (defScope s_hand_steps) [] [] (He.ga K "hand_steps") fd ∧ FnG P WW.w K mg base 1 (He.ga K "hand_steps") fd ["driver", "hand"] (spF K (He.ga K) 2 sp_hand_steps) := by
  obtain ⟨fd, FD⟩ := T.def_ 11 (d := d_hand_steps) rfl
  have FD : FunD K "hand_steps" "hand_steps" (defArgs s_hand_steps) (defBody s_hand_steps) (defScope s_hand_steps) [] [] (He.ga K "hand_steps") fd := FD
  refine ⟨fd, FD, fn_ok (ga := He.ga K) (t := p_hand_steps) FD sc_hand_steps (fun cdv A outer s H E hr hgd => ?_) conf_hand_steps⟩
  have hu := hr.units
  exact (wss_cons (ws_if (wt_cmp (op_eqU hu) (we_var (pv 1)) we_str (nomark _)) (wss_one (ws_ret (we_ix ix_U (we_var (pv 0)) we_int (fun _ _ => rfl)))) wss_nil)
    (wss_one (ws_ret (we_ix ix_U (we_var (pv 0)) we_int (fun _ _ => rfl)))))


theorem ok_with_steps [WW] {P : Program} {K : PySem.W.Frag} {mg : Str → Option Value} {base : Heap} (T : Tx fas css fns K mg) : ∃ fd, FunD K "with_steps" "with_steps" (defArgs s_with_steps) (defBody s_with_steps) (defScope s_with_steps) [] [] (He.ga K "with_steps") fd ∧ FnG P WW.w K mg base 1 (He.ga K "with_steps") fd ["driver", "hand", "steps"] (spF K (He.ga K) 3 sp_with_steps) := by
  obtain ⟨fd, FD⟩ := T.def_ 12 (d := d_with_steps) rfl
  have FD : FunD K "with_steps" "with_steps" (defArgs s_with_steps) (defBody s_with_steps) (defScope s_with_steps) [] [] (He.ga K "with_steps") fd := FD
  refine ⟨fd, FD, fn_ok (ga := He.ga K) (t := p_with_steps) FD sc_with_steps (fun cdv A outer s H E hr hgd => ?_) conf_with_steps⟩
  have hu := hr.units
  exact (wss_cons (ws_if (wt_cmp (op_eqU hu) (we_var (pv 1)) we_str (nomark _)) (wss_one (ws_ret (we_tup (wa_cons (we_ix ix_U (we_var (pv 0)) we_int (fun _ _ => rfl)) (wa_cons (we_var (pv 2)) (wa_cons (we_ix ix_U (we_var (pv 0)) we_int (fun _ _ => rfl)) wa_nil)))))) wss_nil)
    (wss_one (ws_ret (we_tup (wa_cons (we_ix ix_U (we_var (pv 0)) we_int (fun _ _ => rfl)) (wa_cons (we_ix ix_U (we_var (pv 0)) we_int (fun _ _ => rfl)) (wa_cons (we_var (pv 2)) wa_nil)))))))


theorem ok_put_in [WW] {P : Program} {K : PySem.W.Frag} {mg : Str → Option Value} {base : Heap} (T : Tx fas css fns K mg) : ∃ fd, FunD K "put_in" "put_in" (defArgs s_put_in) (defBody s_put_in) (defScope s_put_in) [] [] (He.ga K "put_in") fd ∧ FnG P WW.w K mg base 4 (He.ga K "put_in") fd ["driver", "hand", "index", "step"] (spF K (He.ga K) 4 sp_put_in) := by
  obtain ⟨fd, FD⟩ := T.def_ 13 (d := d_put_in) rfl
  have FD : FunD K "put_in" "put_in" (defArgs s_put_in) (defBody s_put_in) (defScope s_put_in) [] [] (He.ga K "put_in") fd := FD
  obtain ⟨fd_hand_steps, FD_hand_steps, F_hand_steps⟩ := ok_hand_steps (P := P) (base := base) T
  have mg_hand_steps := T.glo 11 (x := "hand_steps") rfl
  have b_hand_steps_2 : L2.Binds K fd_hand_steps ["driver", "hand"] [] := FD_hand_steps.bindsN fun _ _ _ _ _ _ us hl => match us, hl with | [_, _], _ => rfl
  have hd_b_hand_steps_2 : Vals [] [] := .nil
  have hD_b_hand_steps_2 : ∀ (W : Wd) (H : Hp), RVs K W H [] [] := fun _ _ => .nil
  obtain ⟨fd_is_whole, FD_is_whole, F_is_whole⟩ := ok_is_whole (P := P) (base := base) T
  have mg_is_whole := T.glo 9 (x := "is_whole") rfl
  obtain ⟨ds_b_is_whole_1, hd_b_is_whole_1, b_is_whole_1⟩ := FD_is_whole.binds1 (ps := ["value", "least"]) 1 0 (by simp) rfl fun _ _ _ _ _ _ _ us its h1 h2 => match us, its, h1, h2 with | [_], [_], _, _ => ⟨_, rfl, rfl⟩
  have hD_b_is_whole_1 : ∀ (W : Wd) (H : Hp), RVs K W H [.int 0] _ := fun _ _ => .cons (.int _) (.nil)
  obtain ⟨fd_need_driver, FD_need_driver, F_need_driver⟩ := ok_need_driver (P := P) (base := base) T
  have mg_need_driver := T.glo 2 (x := "need_driver") rfl
  have b_need_driver_1 : L2.Binds K fd_need_driver ["driver"] [] := FD_need_driver.bindsN fun _ _ _ _ _ _ us hl => match us, hl with | [_], _ => rfl
  have hd_b_need_driver_1 : Vals [] [] := .nil
  have hD_b_need_driver_1 : ∀ (W : Wd) (H : Hp), RVs K W H [] [] := fun _ _ => .nil
  obtain ⟨fd_need_hand, FD_need_hand, F_need_hand⟩ := ok_need_hand (P := P) (base := base) T
  have mg_need_hand := T.glo 10 (x := "need_hand") rfl
  have b_need_hand_1 : L2.Binds K fd_need_hand ["hand"] [] := FD_need_hand.bindsN fun _ _ _ _ _ _ us hl => match us, hl with | [_], _ => rfl
  have hd_b_need_hand_1 : Vals [] [] := .nil
  have hD_b_need_hand_1 : ∀ (W : Wd) (H : Hp), RVs K W H [] [] := fun _ _ => .nil
  obtain ⟨fd_with_steps, FD_with_steps, F_with_steps⟩ := ok_with_steps (P := P) (base := base) T
  have mg_with_steps := T.glo 12 (x := "with_steps") rfl
  have b_with_steps_3 : L2.Binds K fd_with_steps ["driver", "hand", "steps"] [] := FD_with_steps.bindsN fun _ _ _ _ _ _ us hl => match us, hl with | [_, _, _], _ => rfl
  have hd_b_with_steps_3 : Vals [] [] := .nil
  have hD_b_with_steps_3 : ∀ (W : Wd) (H : Hp), RVs K W H [] [] := fun _ _ => .nil
  obtain ⟨a_SYNCS, v_SYNCS, mg_SYNCS, rv_SYNCS, rr_SYNCS⟩ := T.cst 2 (x := "SYNCS") (u := c_SYNCS) rfl
  have mg_InvalidStep := T.glo 31 (x := "InvalidStep") rfl
  have ex_InvalidStep := He.exc_ok (T.fact 34 (f := .exc "InvalidStep") rfl)
  refine ⟨fd, FD, fn_ok (ga := He.ga K) (t := p_put_in) FD sc_put_in (fun cdv A outer s H E hr hgd => ?_) conf_put_in⟩
  have hu := hr.units
  have hr_1 : Room 3 _ := hr.mono (by decide : 3 ≤ 3)
  have hr_3 : Room 3 _ := hr.mono (by decide : 3 ≤ 3)
  exact (wss_cons (ws_expr (we_call (n := 1) (D := []) (F_need_driver.mono (by decide)) hr_3 hgd rfl mg_need_driver FD_need_driver.kp b_need_driver_1 hd_b_need_driver_1 hD_b_need_driver_1 (takes_of rfl rfl rfl rfl) (wa_cons (we_var (pv 0)) wa_nil)))
    (wss_cons (ws_expr (we_call (n := 1) (D := []) (F_need_hand.mono (by decide)) hr_1 hgd rfl mg_need_hand FD_need_hand.kp b_need_hand_1 hd_b_need_hand_1 hD_b_need_hand_1 (takes_of rfl rfl rfl rfl) (wa_cons (we_var (pv 1)) wa_nil)))
    (wss_cons (ws_set (ps_set (i := 4) sc_put_in.nd rfl (by first | exact Or.inl rfl | exact Or.inr rfl) (we_call (n := 2) (D := []) (F_hand_steps.mono (by decide)) hr_1 hgd rfl mg_hand_steps FD_hand_steps.kp b_hand_steps_2 hd_b_hand_steps_2 hD_b_hand_steps_2 (takes_of rfl rfl rfl rfl) (wa_cons (we_var (pv 0)) (wa_cons (we_var (pv 1)) wa_nil)))))
    (wss_cons (ws_if (wt_bool (wt_or (wt_not (wt_val (we_call (n := 2) (D := [.int 0]) (F_is_whole.mono (by decide)) hr_1 hgd rfl mg_is_whole FD_is_whole.kp b_is_whole_1 hd_b_is_whole_1 hD_b_is_whole_1 (takes_of rfl rfl rfl rfl) (wa_cons (we_var (pv 2)) wa_nil)))) (wt_or1 (wt_cmp op_gtU (we_var (pv 2)) (we_callB call_lenU rfl (T.free 23) (by decide +kernel) (wa_cons (we_var (pv 4)) wa_nil)) (nomark _))))) (wss_one (ws_raise rfl (takes_of rfl rfl rfl rfl) ex_InvalidStep.1 mg_InvalidStep ex_InvalidStep.2.1 (raises_own ex_InvalidStep.2.2.1 ex_InvalidStep.2.2.2) rfl)) wss_nil)
    (wss_cons (ws_if (wt_bool (wt_or (wt_not (wt_val (we_callB call_isiU rfl (T.free 21) (by decide +kernel) (wa_cons (we_var (pv 3)) (wa_cons (we_ty rfl (T.free 20) (by decide +kernel)) wa_nil))))) (wt_or1 (wt_cmp op_notInU (we_var (pv 3)) (we_glo rfl mg_SYNCS rv_SYNCS rr_SYNCS) (by rfl))))) (wss_one (ws_raise rfl (takes_of rfl rfl rfl rfl) ex_InvalidStep.1 mg_InvalidStep ex_InvalidStep.2.1 (raises_own ex_InvalidStep.2.2.1 ex_InvalidStep.2.2.2) rfl)) wss_nil)
    (wss_one (ws_ret (we_call (n := 3) (D := []) (F_with_steps.mono (by decide)) hr_1 hgd rfl mg_with_steps FD_with_steps.kp b_with_steps_3 hd_b_with_steps_3 hD_b_with_steps_3 (takes_of rfl rfl rfl rfl) (wa_cons (we_var (pv 0)) (wa_cons (we_var (pv 1)) (wa_cons (we_bin op_addU (we_bin op_addU (we_sl sl_U (we_var (pv 4)) wp_none (wp_some (we_var (pv 2)))) (we_tup (wa_cons (we_var (pv 3)) wa_nil))) (we_sl sl_U (we_var (pv 4)) (wp_some (we_var (pv 2))) wp_none)) wa_nil)))))))))))


theorem ok_taken_out [WW] {P : Program} {K : PySem.W.Frag} {mg : Str → Option Value} {base : Heap} (T : Tx fas css fns K mg) : ∃ fd, FunD K "taken_out" "taken_out" (defArgs s_taken_out) (defBody s_taken_out) (defScope s_taken_out) [] [] (He.ga K "taken_out") fd ∧ FnG P WW.w K mg base 4 (He.ga K "taken_out") fd ["driver", "hand", "index"] (spF K (He.ga K) 3 sp_taken_out) := by
  obtain ⟨fd, FD⟩ := T.def_ 14 (d := d_taken_out) rfl
  have FD : FunD K "taken_out" "taken_out" (defArgs s_taken_out) (defBody s_taken_out) (defScope s_taken_out) [] [] (He.ga K "taken_out") fd := FD
  obtain ⟨fd_hand_steps, FD_hand_steps, F_hand_steps⟩ := ok_hand_steps (P := P) (base := base) T
  have mg_hand_steps := T.glo 11 (x := "hand_steps") rfl
  have b_hand_steps_2 : L2.Binds K fd_hand_steps ["driver", "hand"] [] := FD_hand_steps.bindsN fun _ _ _ _ _ _ us hl => match us, hl with | [_, _], _ => rfl
  have hd_b_hand_steps_2 : Vals [] [] := .nil
  have hD_b_hand_steps_2 : ∀ (W : Wd) (H : Hp), RVs K W H [] [] := fun _ _ => .nil
  obtain ⟨fd_is_whole, FD_is_whole, F_is_whole⟩ := ok_is_whole (P := P) (base := base) T
  have mg_is_whole := T.glo 9 (x := "is_whole") rfl
  obtain ⟨ds_b_is_whole_1, hd_b_is_whole_1, b_is_whole_1⟩ := FD_is_whole.binds1 (ps := ["value", "least"]) 1 0 (by simp) rfl fun _ _ _ _ _ _ _ us its h1 h2 => match us, its, h1, h2 with | [_], [_], _, _ => ⟨_, rfl, rfl⟩
  have hD_b_is_whole_1 : ∀ (W : Wd) (H : Hp), RVs K W H [.int 0] _ := fun _ _ => .cons (.int _) (.nil)
  obtain ⟨fd_need_driver, FD_need_driver, F_need_driver⟩ := ok_need_driver (P := P) (base := base) T
  have mg_need_driver := T.glo 2 (x := "need_driver") rfl
  have b_need_driver_1 : L2.Binds K fd_need_driver ["driver"] [] := FD_need_driver.bindsN fun _ _ _ _ _ _ us hl => match us, hl with | [_], _ => rfl
  have hd_b_need_driver_1 : Vals [] [] := .nil
  have hD_b_need_driver_1 : ∀ (W : Wd) (H : Hp), RVs K W H [] [] := fun _ _ => .nil
  obtain ⟨fd_need_hand, FD_need_hand, F_need_hand⟩ := ok_need_hand (P := P) (base := base) T
  have mg_need_hand := T.glo 10 (x := "need_hand") rfl
  have b_need_hand_1 : L2.Binds K fd_need_hand ["hand"] [] := FD_need_hand.bindsN fun _ _ _ _ _ _ us hl => match us, hl with | [_], _ => rfl
  have hd_b_need_hand_1 : Vals [] [] := .nil
  have hD_b_need_hand_1 : ∀ (W : Wd) (H : Hp), RVs K W H [] [] := fun _ _ => .nil
  obtain ⟨fd_with_steps, FD_with_steps, F_with_steps⟩ := ok_with_steps (P := P) (base := base) T
  have mg_with_steps := T.glo 12 (x := "with_steps") rfl
  have b_with_steps_3 : L2.Binds K fd_with_steps ["driver", "hand", "steps"] [] := FD_with_steps.bindsN fun _ _ _ _ _ _ us hl => match us, hl with | [_, _, _], _ => rfl
  have hd_b_with_steps_3 : Vals [] [] := .nil
  have hD_b_with_steps_3 : ∀ (W : Wd) (H : Hp), RVs K W H [] [] := fun _ _ => .nil
  obtain ⟨a_SYNCS, v_SYNCS, mg_SYNCS, rv_SYNCS, rr_SYNCS⟩ := T.cst 2 (x := "SYNCS") (u := c_SYNCS) rfl
  have mg_InvalidStep := T.glo 31 (x := "InvalidStep") rfl
  have ex_InvalidStep := He.exc_ok (T.fact 34 (f := .exc "InvalidStep") rfl)
  refine ⟨fd, FD, fn_ok (ga := He.ga K) (t := p_taken_out) FD sc_taken_out (fun cdv A outer s H E hr hgd => ?_) conf_taken_out⟩
  have hu := hr.units
  have hr_1 : Room 3 _ := hr.mono (by decide : 3 ≤ 3)
  have hr_3 : Room 3 _ := hr.mono (by decide : 3 ≤ 3)
  exact (wss_cons (ws_expr (we_call (n := 1) (D := []) (F_need_driver.mono (by decide)) hr_3 hgd rfl mg_need_driver FD_need_driver.kp b_need_driver_1 hd_b_need_driver_1 hD_b_need_driver_1 (takes_of rfl rfl rfl rfl) (wa_cons (we_var (pv 0)) wa_nil)))
    (wss_cons (ws_expr (we_call (n := 1) (D := []) (F_need_hand.mono (by decide)) hr_1 hgd rfl mg_need_hand FD_need_hand.kp b_need_hand_1 hd_b_need_hand_1 hD_b_need_hand_1 (takes_of rfl rfl rfl rfl) (wa_cons (we_var (pv 1)) wa_nil)))
    (wss_cons (ws_set (ps_set (i := 3) sc_taken_out.nd rfl (by first | exact Or.inl rfl | exact Or.inr rfl) (we_call (n := 2) (D := []) (F_hand_steps.mono (by decide)) hr_1 hgd rfl mg_hand_steps FD_hand_steps.kp b_hand_steps_2 hd_b_hand_steps_2 hD_b_hand_steps_2 (takes_of rfl rfl rfl rfl) (wa_cons (we_var (pv 0)) (wa_cons (we_var (pv 1)) wa_nil)))))
    (wss_cons (ws_if (wt_bool (wt_or (wt_not (wt_val (we_call (n := 2) (D := [.int 0]) (F_is_whole.mono (by decide)) hr_1 hgd rfl mg_is_whole FD_is_whole.kp b_is_whole_1 hd_b_is_whole_1 hD_b_is_whole_1 (takes_of rfl rfl rfl rfl) (wa_cons (we_var (pv 2)) wa_nil)))) (wt_or (wt_cmp op_geU (we_var (pv 2)) (we_callB call_lenU rfl (T.free 23) (by decide +kernel) (wa_cons (we_var (pv 3)) wa_nil)) (nomark _)) (wt_or1 (wt_cmp op_notInU (we_ix ix_U (we_var (pv 3)) (we_var (pv 2)) (fun _ _ => rfl)) (we_glo rfl mg_SYNCS rv_SYNCS rr_SYNCS) (by rfl)))))) (wss_one (ws_raise rfl (takes_of rfl rfl rfl rfl) ex_InvalidStep.1 mg_InvalidStep ex_InvalidStep.2.1 (raises_own ex_InvalidStep.2.2.1 ex_InvalidStep.2.2.2) rfl)) wss_nil)
    (wss_one (ws_ret (we_call (n := 3) (D := []) (F_with_steps.mono (by decide)) hr_1 hgd rfl mg_with_steps FD_with_steps.kp b_with_steps_3 hd_b_with_steps_3 hD_b_with_steps_3 (takes_of rfl rfl rfl rfl) (wa_cons (we_var (pv 0)) (wa_cons (we_var (pv 1)) (wa_cons (we_bin op_addU (we_sl sl_U (we_var (pv 3)) wp_none (wp_some (we_var (pv 2)))) (we_sl sl_U (we_var (pv 3)) (wp_some (we_bin op_addU (we_var (pv 2)) we_int)) wp_none)) wa_nil))))))))))


theorem ok_law_done [WW] {P : Program} {K : PySem.W.Frag} {mg : Str → Option Value} {base : Heap} (T : Tx fas css fns K mg) : ∃ fd, FunD K "_law_done" "_law_done" (defArgs s_law_done) (defBody s_law_done) (defScope s_law_done) [] [] (He.ga K "_law_done") fd ∧ FnG P WW.w K mg base 5 (He.ga K "_law_done") fd ["lender", "deed"] (spF K (He.ga K) 2 sp_law_done) := by
  obtain ⟨fd, FD⟩ := T.def_ 15 (d := d_law_done) rfl
  have FD : FunD K "_law_done" "_law_done" (defArgs s_law_done) (defBody s_law_done) (defScope s_law_done) [] [] (He.ga K "_law_done") fd := FD
  obtain ⟨fd_put_in, FD_put_in, F_put_in⟩ := ok_put_in (P := P) (base := base) T
  have mg_put_in := T.glo 13 (x := "put_in") rfl
  have b_put_in_4 : L2.Binds K fd_put_in ["driver", "hand", "index", "step"] [] := FD_put_in.bindsN fun _ _ _ _ _ _ us hl => match us, hl with | [_, _, _, _], _ => rfl
  have hd_b_put_in_4 : Vals [] [] := .nil
  have hD_b_put_in_4 : ∀ (W : Wd) (H : Hp), RVs K W H [] [] := fun _ _ => .nil
  obtain ⟨fd_taken_out, FD_taken_out, F_taken_out⟩ := ok_taken_out (P := P) (base := base) T
  have mg_taken_out := T.glo 14 (x := "taken_out") rfl
  have b_taken_out_3 : L2.Binds K fd_taken_out ["driver", "hand", "index"] [] := FD_taken_out.bindsN fun _ _ _ _ _ _ us hl => match us, hl with | [_, _, _], _ => rfl
  have hd_b_taken_out_3 : Vals [] [] := .nil
  have hD_b_taken_out_3 : ∀ (W : Wd) (H : Hp), RVs K W H [] [] := fun _ _ => .nil
  have el_InvalidStep := T.ecl 3 (x := "InvalidStep") rfl
  have el_SlotError := T.ecl 4 (x := "SlotError") rfl
  refine ⟨fd, FD, fn_ok (ga := He.ga K) (t := p_law_done) FD sc_law_done (fun cdv A outer s H E hr hgd => ?_) conf_law_done⟩
  have hu := hr.units
  have hr_4 : Room 4 _ := hr.mono (by decide : 4 ≤ 4)
  exact (wss_cons (ws_asg (we_var (pv 1)) (wg_tup rfl rfl (ks := [2, 3, 4]) (pgs_cons (pg_name (i := 2) sc_law_done.nd rfl (by first | exact Or.inl rfl | exact Or.inr rfl)) (pgs_cons (pg_name (i := 3) sc_law_done.nd rfl (by first | exact Or.inl rfl | exact Or.inr rfl)) (pgs_cons (pg_name (i := 4) sc_law_done.nd rfl (by first | exact Or.inl rfl | exact Or.inr rfl)) pgs_nil)))))
    (wss_cons (ws_set (ps_set (i := 5) sc_law_done.nd rfl (by first | exact Or.inl rfl | exact Or.inr rfl) we_non))
    (wss_cons (ws_try (i := 6) (j := 5) (by intro x hx; simp only [List.mem_cons, List.not_mem_nil, or_false] at hx; rcases hx with rfl <;> first | exact el_InvalidStep.1) rfl rfl rfl rfl rfl sc_law_done.nd rfl rfl ⟨rfl, by decide, .inl el_SlotError.2⟩ (takes_of rfl rfl rfl rfl) (fun W pn xe tk _ => (wss_cons (ws_if (wt_cmp op_isNU (we_var (pv 4)) we_non (nomark _)) (wss_one (ws_ret (we_call (n := 3) (D := []) (F_taken_out.mono (by decide)) hr_4 hgd rfl mg_taken_out FD_taken_out.kp b_taken_out_3 hd_b_taken_out_3 hD_b_taken_out_3 tk (wa_cons (we_var (pv 0)) (wa_cons (we_var (pv 2)) (wa_cons (we_var (pv 3)) wa_nil)))))) wss_nil)
    (wss_one (ws_ret (we_call (n := 4) (D := []) (F_put_in.mono (by decide)) hr_4 hgd rfl mg_put_in FD_put_in.kp b_put_in_4 hd_b_put_in_4 hD_b_put_in_4 tk (wa_cons (we_var (pv 0)) (wa_cons (we_var (pv 2)) (wa_cons (we_var (pv 3)) (wa_cons (we_var (pv 4)) wa_nil))))))))) (fun a oe cls d pn => pss_one (ps_set (i := 5) sc_law_done.nd rfl (by first | exact Or.inl rfl | exact Or.inr rfl) (pv 6))))
    (wss_cons (ws_if (wt_val (we_callB call_iseU rfl (T.free 21) (by decide +kernel) (wa_cons (we_var (pv 5)) (wa_cons (we_ecl el_InvalidStep rfl) wa_nil)))) (wss_one (ws_ret we_non)) wss_nil)
    (wss_one (ws_ret we_str))))))


theorem ok_law_deed [WW] {P : Program} {K : PySem.W.Frag} {mg : Str → Option Value} {base : Heap} (T : Tx fas css fns K mg) : ∃ fd, FunD K "_law_deed" "_law_deed" (defArgs s_law_deed) (defBody s_law_deed) (defScope s_law_deed) [] [] (He.ga K "_law_deed") fd ∧ FnG P WW.w K mg base 3 (He.ga K "_law_deed") fd ["pot", "hands"] (spF K (He.ga K) 2 sp_law_deed) := by
  obtain ⟨fd, FD⟩ := T.def_ 16 (d := d_law_deed) rfl
  have FD : FunD K "_law_deed" "_law_deed" (defArgs s_law_deed) (defBody s_law_deed) (defScope s_law_deed) [] [] (He.ga K "_law_deed") fd := FD
  obtain ⟨fd_law_among, FD_law_among, F_law_among⟩ := ok_law_among (P := P) (base := base) T
  have mg_law_among := T.glo 6 (x := "_law_among") rfl
  have b_law_among_2 : L2.Binds K fd_law_among ["pot", "some"] [] := FD_law_among.bindsN fun _ _ _ _ _ _ us hl => match us, hl with | [_, _], _ => rfl
  have hd_b_law_among_2 : Vals [] [] := .nil
  have hD_b_law_among_2 : ∀ (W : Wd) (H : Hp), RVs K W H [] [] := fun _ _ => .nil
  obtain ⟨fd_law_pick, FD_law_pick, F_law_pick⟩ := ok_law_pick (P := P) (base := base) T
  have mg_law_pick := T.glo 5 (x := "_law_pick") rfl
  have b_law_pick_2 : L2.Binds K fd_law_pick ["pot", "many"] [] := FD_law_pick.bindsN fun _ _ _ _ _ _ us hl => match us, hl with | [_, _], _ => rfl
  have hd_b_law_pick_2 : Vals [] [] := .nil
  have hD_b_law_pick_2 : ∀ (W : Wd) (H : Hp), RVs K W H [] [] := fun _ _ => .nil
  refine ⟨fd, FD, fn_ok (ga := He.ga K) (t := p_law_deed) FD sc_law_deed (fun cdv A outer s H E hr hgd => ?_) conf_law_deed⟩
  have hu := hr.units
  have hr_1 : Room 2 _ := hr.mono (by decide : 2 ≤ 2)
  have hr_2 : Room 2 _ := hr.mono (by decide : 2 ≤ 2)
  exact (wss_cons (ws_set (ps_set (i := 2) sc_law_deed.nd rfl (by first | exact Or.inl rfl | exact Or.inr rfl) (we_call (n := 2) (D := []) (F_law_pick.mono (by decide)) hr_1 hgd rfl mg_law_pick FD_law_pick.kp b_law_pick_2 hd_b_law_pick_2 hD_b_law_pick_2 (takes_of rfl rfl rfl rfl) (wa_cons (we_var (pv 0)) (wa_cons we_int wa_nil)))))
    (wss_cons (ws_set (ps_set (i := 3) sc_law_deed.nd rfl (by first | exact Or.inl rfl | exact Or.inr rfl) (we_call (n := 2) (D := []) (F_law_pick.mono (by decide)) hr_1 hgd rfl mg_law_pick FD_law_pick.kp b_law_pick_2 hd_b_law_pick_2 hD_b_law_pick_2 (takes_of rfl rfl rfl rfl) (wa_cons (we_var (pv 0)) (wa_cons (we_bin op_addU (we_bin op_addU (we_callB call_lenU rfl (T.free 23) (by decide +kernel) (wa_cons (we_ix ix_U (we_var (pv 1)) (we_var (pv 2)) (fun _ _ => rfl)) wa_nil)) we_int) (we_callTy call_intU rfl (T.free 24) (by decide +kernel) (wa_cons (we_cmp (op_eqU hu) (we_call (n := 2) (D := []) (F_law_pick.mono (by decide)) hr_1 hgd rfl mg_law_pick FD_law_pick.kp b_law_pick_2 hd_b_law_pick_2 hD_b_law_pick_2 (takes_of rfl rfl rfl rfl) (wa_cons (we_var (pv 0)) (wa_cons we_int wa_nil))) we_int (nomark _)) wa_nil))) wa_nil)))))
    (wss_cons (ws_set (ps_set (i := 4) sc_law_deed.nd rfl (by first | exact Or.inl rfl | exact Or.inr rfl) we_non))
    (wss_cons (ws_if (wt_cmp op_ltU (we_call (n := 2) (D := []) (F_law_pick.mono (by decide)) hr_1 hgd rfl mg_law_pick FD_law_pick.kp b_law_pick_2 hd_b_law_pick_2 hD_b_law_pick_2 (takes_of rfl rfl rfl rfl) (wa_cons (we_var (pv 0)) (wa_cons we_int wa_nil))) we_int (nomark _)) (wss_one (ws_set (ps_set (i := 4) sc_law_deed.nd rfl (by first | exact Or.inl rfl | exact Or.inr rfl) (we_call (n := 2) (D := []) (F_law_among.mono (by decide)) hr_2 hgd rfl mg_law_among FD_law_among.kp b_law_among_2 hd_b_law_among_2 hD_b_law_among_2 (takes_of rfl rfl rfl rfl) (wa_cons (we_var (pv 0)) (wa_cons (we_bin op_addU (we_bin op_mulU (we_lst (wa_cons we_str (wa_cons we_str (wa_cons we_str (wa_cons we_str wa_nil))))) we_int) (we_lst (wa_cons we_str (wa_cons we_str (wa_cons we_str (wa_cons we_str wa_nil)))))) wa_nil)))))) wss_nil)
    (wss_one (ws_ret (we_tup (wa_cons (we_ix ix_U (we_lst (wa_cons we_str (wa_cons we_str wa_nil))) (we_var (pv 2)) (fun _ _ => rfl)) (wa_cons (we_var (pv 3)) (wa_cons (we_var (pv 4)) wa_nil))))))))))


theorem ok_law_later [WW] {P : Program} {K : PySem.W.Frag} {mg : Str → Option Value} {base : Heap} (T : Tx fas css fns K mg) : ∃ fd, FunD K "_law_later" "_law_later" (defArgs s_law_later) (defBody s_law_later) (defScope s_law_later) [] [] (He.ga K "_law_later") fd ∧ FnG P WW.w K mg base 1 (He.ga K "_law_later") fd ["hands", "deed"] (spF K (He.ga K) 2 sp_law_later) := by
  obtain ⟨fd, FD⟩ := T.def_ 17 (d := d_law_later) rfl
  have FD : FunD K "_law_later" "_law_later" (defArgs s_law_later) (defBody s_law_later) (defScope s_law_later) [] [] (He.ga K "_law_later") fd := FD
  refine ⟨fd, FD, fn_ok (ga := He.ga K) (t := p_law_later) FD sc_law_later (fun cdv A outer s H E hr hgd => ?_) conf_law_later⟩
  have hu := hr.units
  exact (wss_cons (ws_asg (we_var (pv 1)) (wg_tup rfl rfl (ks := [2, 3, 4]) (pgs_cons (pg_name (i := 2) sc_law_later.nd rfl (by first | exact Or.inl rfl | exact Or.inr rfl)) (pgs_cons (pg_name (i := 3) sc_law_later.nd rfl (by first | exact Or.inl rfl | exact Or.inr rfl)) (pgs_cons (pg_name (i := 4) sc_law_later.nd rfl (by first | exact Or.inl rfl | exact Or.inr rfl)) pgs_nil)))))
    (wss_cons (ws_set (ps_set (i := 5) sc_law_later.nd rfl (by first | exact Or.inl rfl | exact Or.inr rfl) (we_idxG rfl (we_lst (wa_cons we_str (wa_cons we_str wa_nil))) (wa_cons (we_var (pv 2)) wa_nil))))
    (wss_cons (ws_setO (ps_set (i := 6) sc_law_later.nd rfl (by first | exact Or.inl rfl | exact Or.inr rfl) (we_callTy call_listU rfl (T.free 27) (by decide +kernel) (wa_cons (we_ix ix_U (we_var (pv 0)) (we_var (pv 5)) (fun _ _ => rfl)) wa_nil))))
    (wss_cons (ws_set (ps_set (i := 7) sc_law_later.nd rfl (by first | exact Or.inl rfl | exact Or.inr rfl) (we_lst (wa_cons we_str (wa_cons we_str (wa_cons we_str (wa_cons we_str wa_nil)))))))
    (wss_cons (ws_if (wt_bool (wt_or (wt_cmp op_gtU (we_var (pv 3)) (we_lenO rfl (pv 6) rfl (T.free 23)) (nomark _)) (wt_or1 (wt_bool (wt_and (wt_cmp op_isNU (we_var (pv 4)) we_non (nomark _)) (wt_and1 (wt_bool (wt_or (wt_cmp (op_eqU hu) (we_var (pv 3)) (we_lenO rfl (pv 6) rfl (T.free 23)) (nomark _)) (wt_or1 (wt_cmp op_notInU (we_ixO rfl (pv 6) (we_var (pv 3)) (fun _ _ => rfl)) (we_var (pv 7)) (by rfl))))))))))) (wss_one (ws_ret we_non)) wss_nil)
    (wss_cons (ws_if (wt_cmp op_isNU (we_var (pv 4)) we_non (nomark _)) (wss_one (ws_expr (we_mt rfl PySem.F.slot_list_pop PySem.F.type_list_pop mtU_pop (pv 6) (wa_cons (we_var (pv 3)) wa_nil)))) (wss_one (ws_if (wt_cmp op_notInU (we_var (pv 4)) (we_var (pv 7)) (by rfl)) (wss_one (ws_ret we_non)) (wss_one (ws_expr (we_mt rfl PySem.F.slot_list_insert PySem.F.type_list_insert mtU_insert (pv 6) (wa_cons (we_var (pv 3)) (wa_cons (we_var (pv 4)) wa_nil))))))))
    (wss_one (ws_ret (we_ix ix_U (we_lst (wa_cons (we_lst (wa_cons (we_var (pv 6)) (wa_cons (we_ix ix_U (we_var (pv 0)) we_int (fun _ _ => rfl)) wa_nil))) (wa_cons (we_lst (wa_cons (we_ix ix_U (we_var (pv 0)) we_int (fun _ _ => rfl)) (wa_cons (we_var (pv 6)) wa_nil))) wa_nil))) (we_var (pv 5)) (fun _ _ => rfl))))))))))


theorem ok_law_back [WW] {P : Program} {K : PySem.W.Frag} {mg : Str → Option Value} {base : Heap} (T : Tx fas css fns K mg) : ∃ fd, FunD K "_law_back" "_law_back" (defArgs s_law_back) (defBody s_law_back) (defScope s_law_back) [] [] (He.ga K "_law_back") fd ∧ FnG P WW.w K mg base 5 (He.ga K "_law_back") fd ["way", "deeds", "told"] (spF K (He.ga K) 3 sp_law_back) := by
  obtain ⟨fd, FD⟩ := T.def_ 18 (d := d_law_back) rfl
  have FD : FunD K "_law_back" "_law_back" (defArgs s_law_back) (defBody s_law_back) (defScope s_law_back) [] [] (He.ga K "_law_back") fd := FD
  obtain ⟨fd_put_in, FD_put_in, F_put_in⟩ := ok_put_in (P := P) (base := base) T
  have mg_put_in := T.glo 13 (x := "put_in") rfl
  have b_put_in_4 : L2.Binds K fd_put_in ["driver", "hand", "index", "step"] [] := FD_put_in.bindsN fun _ _ _ _ _ _ us hl => match us, hl with | [_, _, _, _], _ => rfl
  have hd_b_put_in_4 : Vals [] [] := .nil
  have hD_b_put_in_4 : ∀ (W : Wd) (H : Hp), RVs K W H [] [] := fun _ _ => .nil
  obtain ⟨fd_taken_out, FD_taken_out, F_taken_out⟩ := ok_taken_out (P := P) (base := base) T
  have mg_taken_out := T.glo 14 (x := "taken_out") rfl
  have b_taken_out_3 : L2.Binds K fd_taken_out ["driver", "hand", "index"] [] := FD_taken_out.bindsN fun _ _ _ _ _ _ us hl => match us, hl with | [_, _, _], _ => rfl
  have hd_b_taken_out_3 : Vals [] [] := .nil
  have hD_b_taken_out_3 : ∀ (W : Wd) (H : Hp), RVs K W H [] [] := fun _ _ => .nil
  refine ⟨fd, FD, fn_ok (ga := He.ga K) (t := p_law_back) FD sc_law_back (fun cdv A outer s H E hr hgd => ?_) conf_law_back⟩
  have hu := hr.units
  have hr_4 : Room 4 _ := hr.mono (by decide : 4 ≤ 4)
  exact (wss_cons (ws_set (ps_set (i := 3) sc_law_back.nd rfl (by first | exact Or.inl rfl | exact Or.inr rfl) (we_ix ix_U (we_var (pv 2)) (we_neg we_int) (fun _ _ => rfl))))
    (wss_cons (ws_for (passes_of rfl) rfl (wi_range1 rfl (T.free 25) (wa_cons (we_callB call_lenU rfl (T.free 23) (by decide +kernel) (wa_cons (we_var (pv 1)) wa_nil)) wa_nil)) (wg_name (pg_name (i := 4) sc_law_back.nd rfl (by first | exact Or.inl rfl | exact Or.inr rfl))) (wss_cons (ws_asg (we_ix ix_U (we_var (pv 1)) (we_bin op_subU (we_bin op_subU (we_callB call_lenU rfl (T.free 23) (by decide +kernel) (wa_cons (we_var (pv 1)) wa_nil)) we_int) (we_var (pv 4))) (fun _ _ => rfl)) (wg_tup rfl rfl (ks := [5, 6, 7, 8]) (pgs_cons (pg_name (i := 5) sc_law_back.nd rfl (by first | exact Or.inl rfl | exact Or.inr rfl)) (pgs_cons (pg_name (i := 6) sc_law_back.nd rfl (by first | exact Or.inl rfl | exact Or.inr rfl)) (pgs_cons (pg_name (i := 7) sc_law_back.nd rfl (by first | exact Or.inl rfl | exact Or.inr rfl)) (pgs_cons (pg_name (i := 8) sc_law_back.nd rfl (by first | exact Or.inl rfl | exact Or.inr rfl)) pgs_nil))))))
    (wss_cons (ws_if (wt_cmp op_isNU (we_var (pv 7)) we_non (nomark _)) (wss_one (ws_set (ps_set (i := 3) sc_law_back.nd rfl (by first | exact Or.inl rfl | exact Or.inr rfl) (we_call (n := 4) (D := []) (F_put_in.mono (by decide)) hr_4 hgd rfl mg_put_in FD_put_in.kp b_put_in_4 hd_b_put_in_4 hD_b_put_in_4 (takes_of rfl rfl rfl rfl) (wa_cons (we_var (pv 3)) (wa_cons (we_var (pv 5)) (wa_cons (we_var (pv 6)) (wa_cons (we_ix ix_U (we_ix ix_U (we_var (pv 8)) (we_idxG rfl (we_lst (wa_cons we_str (wa_cons we_str wa_nil))) (wa_cons (we_var (pv 5)) wa_nil)) (fun _ _ => rfl)) (we_var (pv 6)) (fun _ _ => rfl)) wa_nil)))))))) (wss_one (ws_set (ps_set (i := 3) sc_law_back.nd rfl (by first | exact Or.inl rfl | exact Or.inr rfl) (we_call (n := 3) (D := []) (F_taken_out.mono (by decide)) hr_4 hgd rfl mg_taken_out FD_taken_out.kp b_taken_out_3 hd_b_taken_out_3 hD_b_taken_out_3 (takes_of rfl rfl rfl rfl) (wa_cons (we_var (pv 3)) (wa_cons (we_var (pv 5)) (wa_cons (we_var (pv 6)) wa_nil))))))))
    (wss_one (ws_if (wt_bool (wt_or (wt_cmp (op_neU hu) (we_callB (call_reprU hgd hu) rfl (T.free 28) (by decide +kernel) (wa_cons (we_var (pv 3)) wa_nil)) (we_callB (call_reprU hgd hu) rfl (T.free 28) (by decide +kernel) (wa_cons (we_tup (wa_cons (we_var (pv 0)) (wa_cons (we_callTy call_tupleU rfl (T.free 22) (by decide +kernel) (wa_cons (we_ix ix_U (we_var (pv 8)) we_int (fun _ _ => rfl)) wa_nil)) (wa_cons (we_callTy call_tupleU rfl (T.free 22) (by decide +kernel) (wa_cons (we_ix ix_U (we_var (pv 8)) we_int (fun _ _ => rfl)) wa_nil)) wa_nil)))) wa_nil)) (nomark _)) (wt_or1 (wt_cmp (op_neU hu) (we_var (pv 3)) (we_ix ix_U (we_var (pv 2)) (we_bin op_subU (we_bin op_subU (we_callB call_lenU rfl (T.free 23) (by decide +kernel) (wa_cons (we_var (pv 1)) wa_nil)) we_int) (we_var (pv 4))) (fun _ _ => rfl)) (nomark _))))) (wss_one (ws_ret we_bl)) wss_nil)))))
    (wss_one (ws_ret we_bl))))


theorem ok_law [WW] {P : Program} {K : PySem.W.Frag} {mg : Str → Option Value} {base : Heap} (T : Tx fas css fns K mg) : ∃ fd, FunD K "law" "law" (defArgs s_law) (defBody s_law) (defScope s_law) [] [] (He.ga K "law") fd ∧ FnG P WW.w K mg base 6 (He.ga K "law") fd ["script"] (spF K (He.ga K) 1 sp_law) := by
  obtain ⟨fd, FD⟩ := T.def_ 19 (d := d_law) rfl
  have FD : FunD K "law" "law" (defArgs s_law) (defBody s_law) (defScope s_law) [] [] (He.ga K "law") fd := FD
  obtain ⟨fd_law_among, FD_law_among, F_law_among⟩ := ok_law_among (P := P) (base := base) T
  have mg_law_among := T.glo 6 (x := "_law_among") rfl
  have b_law_among_2 : L2.Binds K fd_law_among ["pot", "some"] [] := FD_law_among.bindsN fun _ _ _ _ _ _ us hl => match us, hl with | [_, _], _ => rfl
  have hd_b_law_among_2 : Vals [] [] := .nil
  have hD_b_law_among_2 : ∀ (W : Wd) (H : Hp), RVs K W H [] [] := fun _ _ => .nil
  obtain ⟨fd_law_back, FD_law_back, F_law_back⟩ := ok_law_back (P := P) (base := base) T
  have mg_law_back := T.glo 18 (x := "_law_back") rfl
  have b_law_back_3 : L2.Binds K fd_law_back ["way", "deeds", "told"] [] := FD_law_back.bindsN fun _ _ _ _ _ _ us hl => match us, hl with | [_, _, _], _ => rfl
  have hd_b_law_back_3 : Vals [] [] := .nil
  have hD_b_law_back_3 : ∀ (W : Wd) (H : Hp), RVs K W H [] [] := fun _ _ => .nil
  obtain ⟨fd_law_deed, FD_law_deed, F_law_deed⟩ := ok_law_deed (P := P) (base := base) T
  have mg_law_deed := T.glo 16 (x := "_law_deed") rfl
  have b_law_deed_2 : L2.Binds K fd_law_deed ["pot", "hands"] [] := FD_law_deed.bindsN fun _ _ _ _ _ _ us hl => match us, hl with | [_, _], _ => rfl
  have hd_b_law_deed_2 : Vals [] [] := .nil
  have hD_b_law_deed_2 : ∀ (W : Wd) (H : Hp), RVs K W H [] [] := fun _ _ => .nil
  obtain ⟨fd_law_done, FD_law_done, F_law_done⟩ := ok_law_done (P := P) (base := base) T
  have mg_law_done := T.glo 15 (x := "_law_done") rfl
  have b_law_done_2 : L2.Binds K fd_law_done ["lender", "deed"] [] := FD_law_done.bindsN fun _ _ _ _ _ _ us hl => match us, hl with | [_, _], _ => rfl
  have hd_b_law_done_2 : Vals [] [] := .nil
  have hD_b_law_done_2 : ∀ (W : Wd) (H : Hp), RVs K W H [] [] := fun _ _ => .nil
  obtain ⟨fd_law_driver, FD_law_driver, F_law_driver⟩ := ok_law_driver (P := P) (base := base) T
  have mg_law_driver := T.glo 8 (x := "_law_driver") rfl
  have b_law_driver_2 : L2.Binds K fd_law_driver ["pot", "most"] [] := FD_law_driver.bindsN fun _ _ _ _ _ _ us hl => match us, hl with | [_, _], _ => rfl
  have hd_b_law_driver_2 : Vals [] [] := .nil
  have hD_b_law_driver_2 : ∀ (W : Wd) (H : Hp), RVs K W H [] [] := fun _ _ => .nil
  obtain ⟨fd_law_later, FD_law_later, F_law_later⟩ := ok_law_later (P := P) (base := base) T
  have mg_law_later := T.glo 17 (x := "_law_later") rfl
  have b_law_later_2 : L2.Binds K fd_law_later ["hands", "deed"] [] := FD_law_later.bindsN fun _ _ _ _ _ _ us hl => match us, hl with | [_, _], _ => rfl
  have hd_b_law_later_2 : Vals [] [] := .nil
  have hD_b_law_later_2 : ∀ (W : Wd) (H : Hp), RVs K W H [] [] := fun _ _ => .nil
  obtain ⟨fd_law_pot, FD_law_pot, F_law_pot⟩ := ok_law_pot (P := P) (base := base) T
  have mg_law_pot := T.glo 4 (x := "_law_pot") rfl
  have b_law_pot_1 : L2.Binds K fd_law_pot ["cell"] [] := FD_law_pot.bindsN fun _ _ _ _ _ _ us hl => match us, hl with | [_], _ => rfl
  have hd_b_law_pot_1 : Vals [] [] := .nil
  have hD_b_law_pot_1 : ∀ (W : Wd) (H : Hp), RVs K W H [] [] := fun _ _ => .nil
  obtain ⟨fd_is_driver, FD_is_driver, F_is_driver⟩ := ok_is_driver (P := P) (base := base) T
  have mg_is_driver := T.glo 1 (x := "is_driver") rfl
  have b_is_driver_1 : L2.Binds K fd_is_driver ["value"] [] := FD_is_driver.bindsN fun _ _ _ _ _ _ us hl => match us, hl with | [_], _ => rfl
  have hd_b_is_driver_1 : Vals [] [] := .nil
  have hD_b_is_driver_1 : ∀ (W : Wd) (H : Hp), RVs K W H [] [] := fun _ _ => .nil
  obtain ⟨fd_touches, FD_touches, F_touches⟩ := ok_touches (P := P) (base := base) T
  have mg_touches := T.glo 3 (x := "touches") rfl
  have b_touches_1 : L2.Binds K fd_touches ["driver"] [] := FD_touches.bindsN fun _ _ _ _ _ _ us hl => match us, hl with | [_], _ => rfl
  have hd_b_touches_1 : Vals [] [] := .nil
  have hD_b_touches_1 : ∀ (W : Wd) (H : Hp), RVs K W H [] [] := fun _ _ => .nil
  refine ⟨fd, FD, fn_ok (ga := He.ga K) (t := p_law) FD sc_law (fun cdv A outer s H E hr hgd => ?_) conf_law⟩
  have hu := hr.units
  have hr_1 : Room 5 _ := hr.mono (by decide : 5 ≤ 5)
  have hr_2 : Room 5 _ := hr.mono (by decide : 5 ≤ 5)
  have hr_3 : Room 5 _ := hr.mono (by decide : 5 ≤ 5)
  have hr_4 : Room 5 _ := hr.mono (by decide : 5 ≤ 5)
  have hr_5 : Room 5 _ := hr.mono (by decide : 5 ≤ 5)
  exact (wss_cons (ws_setR (ps_set (i := 1) sc_law.nd rfl (by first | exact Or.inl rfl | exact Or.inr rfl) (we_call (n := 1) (D := []) (F_law_pot.mono (by decide)) hr_1 hgd rfl mg_law_pot FD_law_pot.kp b_law_pot_1 hd_b_law_pot_1 hD_b_law_pot_1 (takes_of rfl rfl rfl rfl) (wa_cons (we_ix ix_U (we_bin op_addU (we_lst (wa_cons we_int wa_nil)) (we_var (pv 0))) (we_neg we_int) (fun _ _ => rfl)) wa_nil))))
    (wss_cons (ws_set (ps_set (i := 2) sc_law.nd rfl (by first | exact Or.inl rfl | exact Or.inr rfl) (we_call (n := 2) (D := []) (F_law_driver.mono (by decide)) hr_4 hgd rfl mg_law_driver FD_law_driver.kp b_law_driver_2 hd_b_law_driver_2 hD_b_law_driver_2 (takes_of rfl rfl rfl rfl) (wa_cons (we_var (pv 1)) (wa_cons (we_call (n := 2) (D := []) (F_law_among.mono (by decide)) hr_2 hgd rfl mg_law_among FD_law_among.kp b_law_among_2 hd_b_law_among_2 hD_b_law_among_2 (takes_of rfl rfl rfl rfl) (wa_cons (we_var (pv 1)) (wa_cons (we_lst (wa_cons we_int (wa_cons we_int (wa_cons we_int (wa_cons we_int (wa_cons we_int wa_nil)))))) wa_nil))) wa_nil)))))
    (wss_cons (ws_set (ps_set (i := 3) sc_law.nd rfl (by first | exact Or.inl rfl | exact Or.inr rfl) (we_call (n := 1) (D := []) (F_touches.mono (by decide)) hr_4 hgd rfl mg_touches FD_touches.kp b_touches_1 hd_b_touches_1 hD_b_touches_1 (takes_of rfl rfl rfl rfl) (wa_cons (we_var (pv 2)) wa_nil))))
    (wss_cons (ws_set (ps_set (i := 4) sc_law.nd rfl (by first | exact Or.inl rfl | exact Or.inr rfl) (we_lst (wa_cons (we_callTy call_listU rfl (T.free 27) (by decide +kernel) (wa_cons (we_ix ix_U (we_var (pv 2)) we_int (fun _ _ => rfl)) wa_nil)) (wa_cons (we_callTy call_listU rfl (T.free 27) (by decide +kernel) (wa_cons (we_ix ix_U (we_var (pv 2)) we_int (fun _ _ => rfl)) wa_nil)) wa_nil)))))
    (wss_cons (ws_setO (ps_set (i := 5) sc_law.nd rfl (by first | exact Or.inl rfl | exact Or.inr rfl) (we_lst (wa_cons (we_var (pv 2)) wa_nil))))
    (wss_cons (ws_setO (ps_set (i := 6) sc_law.nd rfl (by first | exact Or.inl rfl | exact Or.inr rfl) (we_lst wa_nil)))
    (wss_cons (ws_setO (ps_set (i := 7) sc_law.nd rfl (by first | exact Or.inl rfl | exact Or.inr rfl) (we_lst (wa_cons (we_callB (call_reprU hgd hu) rfl (T.free 28) (by decide +kernel) (wa_cons (we_var (pv 2)) wa_nil)) wa_nil))))
    (wss_cons (ws_for (passes_of rfl) rfl (wi_any rfl (we_bin op_addU (we_lst (wa_cons we_int wa_nil)) (we_sl sl_U (we_var (pv 0)) wp_none (wp_some we_int)))) (wg_name (pg_name (i := 8) sc_law.nd rfl (by first | exact Or.inl rfl | exact Or.inr rfl))) (wss_cons (ws_set (ps_set (i := 9) sc_law.nd rfl (by first | exact Or.inl rfl | exact Or.inr rfl) (we_call (n := 2) (D := []) (F_law_deed.mono (by decide)) hr_3 hgd rfl mg_law_deed FD_law_deed.kp b_law_deed_2 hd_b_law_deed_2 hD_b_law_deed_2 (takes_of rfl rfl rfl rfl) (wa_cons (we_shr (we_call (n := 1) (D := []) (F_law_pot.mono (by decide)) hr_1 hgd rfl mg_law_pot FD_law_pot.kp b_law_pot_1 hd_b_law_pot_1 hD_b_law_pot_1 (takes_of rfl rfl rfl rfl) (wa_cons (we_var (pv 8)) wa_nil))) (wa_cons (we_var (pv 4)) wa_nil)))))
    (wss_cons (ws_set (ps_set (i := 10) sc_law.nd rfl (by first | exact Or.inl rfl | exact Or.inr rfl) (we_call (n := 2) (D := []) (F_law_later.mono (by decide)) hr_1 hgd rfl mg_law_later FD_law_later.kp b_law_later_2 hd_b_law_later_2 hD_b_law_later_2 (takes_of rfl rfl rfl rfl) (wa_cons (we_var (pv 4)) (wa_cons (we_var (pv 9)) wa_nil)))))
    (wss_cons (ws_set (ps_set (i := 11) sc_law.nd rfl (by first | exact Or.inl rfl | exact Or.inr rfl) (we_call (n := 2) (D := []) (F_law_done.mono (by decide)) hr_5 hgd rfl mg_law_done FD_law_done.kp b_law_done_2 hd_b_law_done_2 hD_b_law_done_2 (takes_of rfl rfl rfl rfl) (wa_cons (we_ixO rfl (pv 5) (we_neg we_int) (fun _ _ => rfl)) (wa_cons (we_var (pv 9)) wa_nil)))))
    (wss_cons (ws_if (wt_bool (wt_and (wt_cmp op_isNU (we_var (pv 10)) we_non (nomark _)) (wt_and1 (wt_cmp op_notNU (we_var (pv 11)) we_non (nomark _))))) (wss_one (ws_ret we_bl)) wss_nil)
    (wss_one (ws_if (wt_cmp op_notNU (we_var (pv 10)) we_non (nomark _)) (wss_cons (ws_if (wt_bool (wt_or (wt_cmp (op_neU hu) (we_callB (call_reprU hgd hu) rfl (T.free 28) (by decide +kernel) (wa_cons (we_var (pv 11)) wa_nil)) (we_callB (call_reprU hgd hu) rfl (T.free 28) (by decide +kernel) (wa_cons (we_tup (wa_cons (we_ix ix_U (we_var (pv 2)) we_int (fun _ _ => rfl)) (wa_cons (we_callTy call_tupleU rfl (T.free 22) (by decide +kernel) (wa_cons (we_ix ix_U (we_var (pv 10)) we_int (fun _ _ => rfl)) wa_nil)) (wa_cons (we_callTy call_tupleU rfl (T.free 22) (by decide +kernel) (wa_cons (we_ix ix_U (we_var (pv 10)) we_int (fun _ _ => rfl)) wa_nil)) wa_nil)))) wa_nil)) (nomark _)) (wt_or1 (wt_cmp op_isNotBU (we_call (n := 1) (D := []) (F_is_driver.mono (by decide)) hr_2 hgd rfl mg_is_driver FD_is_driver.kp b_is_driver_1 hd_b_is_driver_1 hD_b_is_driver_1 (takes_of rfl rfl rfl rfl) (wa_cons (we_var (pv 11)) wa_nil)) we_bl (nomark _))))) (wss_one (ws_ret we_bl)) wss_nil)
    (wss_cons (ws_if (wt_cmp (op_neU hu) (we_callB (call_reprU hgd hu) rfl (T.free 28) (by decide +kernel) (wa_cons (we_lst (wa_cons (we_call (n := 1) (D := []) (F_touches.mono (by decide)) hr_4 hgd rfl mg_touches FD_touches.kp b_touches_1 hd_b_touches_1 hD_b_touches_1 (takes_of rfl rfl rfl rfl) (wa_cons (we_var (pv 11)) wa_nil)) wa_nil)) wa_nil)) (we_callB (call_reprU hgd hu) rfl (T.free 28) (by decide +kernel) (wa_cons (we_lst (wa_cons (we_var (pv 3)) wa_nil)) wa_nil)) (nomark _)) (wss_one (ws_ret we_bl)) wss_nil)
    (wss_cons (ws_expr (we_mt rfl PySem.F.slot_list_append PySem.F.type_list_append mtU_append (pv 6) (wa_cons (we_bin op_addU (we_var (pv 9)) (we_tup (wa_cons (we_var (pv 4)) wa_nil))) wa_nil)))
    (wss_cons (ws_expr (we_mt rfl PySem.F.slot_list_append PySem.F.type_list_append mtU_append (pv 5) (wa_cons (we_var (pv 11)) wa_nil)))
    (wss_cons (ws_expr (we_mt rfl PySem.F.slot_list_append PySem.F.type_list_append mtU_append (pv 7) (wa_cons (we_callB (call_reprU hgd hu) rfl (T.free 28) (by decide +kernel) (wa_cons (we_var (pv 11)) wa_nil)) wa_nil)))
    (wss_one (ws_set (ps_set (i := 4) sc_law.nd rfl (by first | exact Or.inl rfl | exact Or.inr rfl) (we_var (pv 10)))))))))) wss_nil)))))))
    (wss_one (ws_ret (we_and (we_call (n := 3) (D := []) (F_law_back.mono (by decide)) hr_5 hgd rfl mg_law_back FD_law_back.kp b_law_back_3 hd_b_law_back_3 hD_b_law_back_3 (takes_of rfl rfl rfl rfl) (wa_cons (we_ix ix_U (we_var (pv 2)) we_int (fun _ _ => rfl)) (wa_cons (we_var (pv 6)) (wa_cons (we_var (pv 5)) wa_nil)))) (we_one (we_cmp (op_eqU hu) (we_lc rfl sc_law.nd (wi_any rfl (we_var (pv 5))) (own := [("lender", 12)]) (blkOk_by (N := N_law) (sc := (defScope s_law)) (by decide +kernel)) (by decide) (fun _ _ _ _ _ => (wg_name (pg_name (i := 12) sc_law.nd rfl (by first | exact Or.inl rfl | exact Or.inr rfl)))) (fun _ _ _ _ _ => wts_nil) (fun _ _ _ _ _ => (we_callB (call_reprU hgd hu) rfl (T.free 28) (by decide +kernel) (wa_cons (we_var (pv 12)) wa_nil)))) (we_var (pv 7)) (nomark _))))))))))))))

theorem law_true (ns : List Int) (hl : ns.length ≤ 63) (hb : ∀ z ∈ ns, Builtin.Int.intBits z ≤ 1048576) : sp_law [.scr ns] [] (fun sv _ => sv = .val (.bl true)) fun _ _ => False := ⟨hl, fun _ => rfl⟩


theorem fd_uniq {K : PySem.W.Frag} {x qual : Str} {params : Arguments} {body : List Stmt} {scope : Scope} {dvs : List V} {kws : List (Str × V)} {f : Addr} {fd fd' : FuncData} (a : FunD K x qual params body scope dvs kws f fd) (b : FunD K x qual params body scope dvs kws f fd') : fd = fd' := by
  obtain ⟨_, _, _, _, _, _, _, _, _, _, _, e, _⟩ := a.ex
  obtain ⟨_, _, _, _, _, _, _, _, _, _, _, e', _⟩ := b.ex
  rw [e] at e'
  cases e'
  rfl
def looseS : List String := ["SlotError", "InvalidDriver", "InvalidHand", "InvalidStep", "is_whole", "WAYS", "SYNCS", "STEPS", "has_steps", "is_driver", "need_driver", "need_hand", "touches", "hand_steps", "with_steps", "put_in", "taken_out", "_law_pot", "_law_pick", "_law_among", "_law_steps", "_law_driver", "_law_done", "_law_deed", "_law_later", "_law_back"]
abbrev Rw : PySem.W.OpenRow := PySem.W.OpenLaw.row PySem.Challenge.rw_lentslots_k13_whole_walk_of_deeds
abbrev hk : PySem.W.Hook := hookV 4 fas css fns
def ob (s : PySem.W.SharedT) : He.AlD := obsVG 4 fas css fns (HandSHeadRun.getT s)
theorem ob_eq (s : PySem.W.SharedT) : ob s = hk.obs s.abs := by
  have e : HandSHeadRun.getT s = s.abs.heap.get? := funext (HandSHeadRun.getT_eq s)
  unfold ob
  rw [e]
  rfl
def looseL : List PySem.Str := looseS.map PySem.Str.ofString
theorem run (w : World) : HandSHeadRun.RunEq Rw (PySem.W.view Rw.prog [30]) hk ob 20000 looseL w := by
  intro os
  kernel_rfl
theorem facts {P : Program} {w : World} {K : PySem.W.Frag} {h : Heap} {mg : Str → Option Value} {f : Addr} (X : K.In h) (G : h.Ns mainGlobals mg) (hfa : mg ("law" : Str) = some (.ref f)) (c : SaysV fas css fns K) :
    ∃ fd : FuncData, (∀ (s : Shared) (v : Value), BindsTo s fd ⟨[v], []⟩ [("script", v)]) ∧ ∀ base : Heap, K.In base → base.Ns mainGlobals mg → FnG P w K mg base 6 f fd ["script"] (@spF ⟨w⟩ K (He.ga K) 1 sp_law) := by
  letI : WW := ⟨w⟩
  have T : Tx fas css fns K mg := ⟨c, h, X, G⟩
  obtain ⟨fd, F, _⟩ := ok_law (P := P) (base := h) T
  have e := hfa.symm.trans (T.glo 19 (x := "law") rfl)
  cases e
  have b := FunD.bindsA (ps := ["script"]) F fun _ _ _ _ _ _ us hl => match us, hl with | [_], _ => rfl
  refine ⟨fd, fun s v => b s [v] rfl, fun base _ _ => ?_⟩
  obtain ⟨fd', F', H⟩ := ok_law (P := P) (base := base) T
  cases fd_uniq F F'
  exact H
end Vi.Law
open PySem PySem.W PySem.Calls PyProof.Rows
theorem PySem.Challenge.cw_lentslots_k13_whole_walk_of_deeds_holds : PySem.Challenge.rw_lentslots_k13_whole_walk_of_deeds.Holds := by
  w_on; o_law
  refine HandSHeadRun.head_any (r := OpenLaw.row PySem.Challenge.rw_lentslots_k13_whole_walk_of_deeds) (q := view (OpenLaw.row PySem.Challenge.rw_lentslots_k13_whole_walk_of_deeds).prog [30]) (H := Vi.Law.hk) (ob := Vi.Law.ob) (M := 20000) (loose := Vi.Law.looseL) (d := HandSHeadRun.topDef (OpenLaw.row PySem.Challenge.rw_lentslots_k13_whole_walk_of_deeds).prog 30) (kwd := []) Vi.Law.ob_eq
    (by kernel_rfl) (fun s => by kernel_rfl) Vi.Law.run (by kernel_rfl) (by kernel_rfl) (by kernel_rfl) (by rfl) (by first | assumption | decide +kernel) (by decide +kernel) ⟨rfl, rfl, rfl, rfl, rfl, by decide +kernel⟩ ?hw ?hc
  case hw => w_witness2
  case hc =>
    refine Vi.law_end (l := PySem.Challenge.rw_lentslots_k13_whole_walk_of_deeds) (k := 6) (x := "script") rfl (by kernel_rfl) ⟨rfl, by decide, by decide⟩ ?F
    intro w mg fa h Y G hmg0
    obtain ⟨K, KX, c⟩ := Y
    have hmg : mg ("law" : PySem.Str) = some (.ref fa) := by
      have e : (HandSHeadRun.topDef (OpenLaw.row PySem.Challenge.rw_lentslots_k13_whole_walk_of_deeds).prog 30).name = ("law" : PySem.Str) := by kernel_rfl
      rw [← e]
      exact hmg0
    obtain ⟨fd, hb, hF⟩ := Vi.Law.facts (P := (PySem.Challenge.rw_lentslots_k13_whole_walk_of_deeds).prog) (w := w) KX G hmg c
    exact ⟨K, fd, He.ga K, Vi.Law.sp_law, KX, hb, Vi.Law.law_true, hF⟩
