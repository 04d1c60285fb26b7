import PyProof.Rows.All
import Wide.All
import OpenK.AllK
import Wide.FinOn
import HandS.ForMost
import HandS.Exc
import HandS.WordsExc
import HandS.Defaults
import HandS.CallSlots
import HandS.TryOnly
import HandS.ExcOwn
import HandS.Flow
import HandS.Wide
import HandS.ExcIs
import HandS.HeadHook1
import HandS.TupAny
import HandS.RaiseMore
import HandS.Comp
import HandS.Iter
import HandS.TupMul
import HandS.More
import HandS.Style
import HandS.Ends
import HandS.EndBits
import HandS.HeadEnd
import HandS.Deep
import HandS.Text
import HandS.Head0
import HandS.Head1
import HandS.Head2
import HandS.HeadHook2
import HandS.IsInst
import HandS.FStr
import PySem.Challenge.RW_lentslots_k66_layouts_written
set_option Elab.async false
set_option linter.all false
set_option maxRecDepth 100000
set_option maxHeartbeats 8000000
/-! Vi1: values as trees over the hand layer: U, worlds, what stands for what. -/
namespace Vi
open PySem PySem.Spec PyProof.Rows L2

/-- a value as a tree; scr: the script; ref: a shared list by its number -/
inductive U where
  | non | bl (b : Bool) | int (i : Int) | str (x : Str) | tup (us : List U) | lst (us : List U) | scr (ns : List Int) | ref (i : Nat) | ty (n : String) | err (x : Str) | ecl (x : Str)
/-- what a slot holds, what an expression gives: a value, or a list that nothing else names -/
inductive Sv where
  | val (u : U) | own (us : List U)
/-- who may write at an address -/
inductive Ow where
  | frz | tmp | obj (i : Nat) | slot (k : Nat)
  deriving DecidableEq
structure Wd where
  own : Addr → Option Ow
  mp : List Addr
/-- a shared object -/
inductive Ob where
  | lst (us : List U)
/-- an exception: its class by name, its field -/
structure Ex where
  cls : Str
  arg : Option (Str × U) := none
abbrev En := List (Option Sv)
abbrev Hv := List Ob

def Wd.put (W : Wd) (p : Addr) (w : Option Ow) : Wd := ⟨fun a => if a = p then w else W.own a, W.mp⟩
theorem Wd.put_same {W : Wd} {p : Addr} {w : Option Ow} : (W.put p w).own p = w := if_pos rfl
theorem Wd.put_ne {W : Wd} {p a : Addr} {w : Option Ow} (h : a ≠ p) : (W.put p w).own a = W.own a := if_neg h

/-- what stays: frozen lists, tuples, locked things, the shared objects' numbers -/
structure LeP (W : Wd) (H : Hp) (W' : Wd) (H' : Hp) : Prop where
  fr : ∀ a o, H a = some o → W.own a = some .frz → W'.own a = some .frz ∧ H' a = some o
  tp : ∀ a vs, H a = some (.tup vs) → H' a = some (.tup vs)
  fz : ∀ a o u, H a = some (.frz o u) → H' a = some (.frz o u)
  mp : ∃ l, W'.mp = W.mp ++ l
  ob : ∀ i a, W.mp[i]? = some a → W.own a = some (.obj i) → W'.own a = some (.obj i)
/-- .. and all that is there and that nobody here owns -/
structure LeW (W : Wd) (H : Hp) (W' : Wd) (H' : Hp) : Prop extends LeP W H W' H' where
  st : ∀ a o, H a = some o → W.own a = none → W'.own a = none ∧ H' a = some o
theorem LeP.at_ {W W' : Wd} {H H' : Hp} (l : LeP W H W' H') {i : Nat} {a : Addr} (h : W.mp[i]? = some a) : W'.mp[i]? = some a := by
  obtain ⟨m, e⟩ := l.mp
  rw [e, List.getElem?_append_left (List.getElem?_eq_some_iff.mp h).1]
  exact h
theorem LeP.refl {W : Wd} {H : Hp} : LeP W H W H := ⟨fun _ _ h n => ⟨n, h⟩, fun _ _ h => h, fun _ _ _ h => h, ⟨[], by simp⟩, fun _ _ _ h => h⟩
theorem LeW.refl {W : Wd} {H : Hp} : LeW W H W H := ⟨.refl, fun _ _ h n => ⟨n, h⟩⟩
theorem LeP.trans {W W1 W2 : Wd} {H H1 H2 : Hp} (a : LeP W H W1 H1) (b : LeP W1 H1 W2 H2) : LeP W H W2 H2 where
  fr := fun c o h n => let ⟨n1, h1⟩ := a.fr c o h n; b.fr c o h1 n1
  tp := fun c vs h => b.tp c vs (a.tp c vs h)
  fz := fun c o u h => b.fz c o u (a.fz c o u h)
  mp := by
    obtain ⟨l, e⟩ := a.mp
    obtain ⟨m, e'⟩ := b.mp
    exact ⟨l ++ m, by rw [e', e, List.append_assoc]⟩
  ob := fun i c h n => b.ob i c (a.at_ h) (a.ob i c h n)
theorem LeW.trans {W W1 W2 : Wd} {H H1 H2 : Hp} (a : LeW W H W1 H1) (b : LeW W1 H1 W2 H2) : LeW W H W2 H2 :=
  ⟨a.toLeP.trans b.toLeP, fun c o h n => let ⟨n1, h1⟩ := a.st c o h n; b.st c o h1 n1⟩

/-! ### what stands for what -/
def TupS (K : PySem.W.Frag) (H : Hp) (a : Addr) (vs : List V) : Prop := H a = some (.tup vs) ∨ ∃ (o : Obj) (its : Array Value) (n : Nat), K.lookup a = some o ∧ o.cls = .type "tuple" ∧ o.data = .seq its n ∧ its.size ≤ sizeLine ∧ Vals vs its.toList
/-- the script: locked, or one of the module's own objects -/
def ScrS (K : PySem.W.Frag) (H : Hp) (a : Addr) (vs : List V) : Prop := (∃ o, H a = some (.frz o (.lst vs))) ∨ ∃ (o : Obj) (its : Array Value) (n : Nat), K.lookup a = some o ∧ o.cls = .type "list" ∧ o.dict = none ∧ o.data = .seq its n ∧ its.size ≤ sizeLine ∧ Vals vs its.toList
/-- an error class of one's own, with what is asked of it and of its objects -/
def eclB (K : PySem.W.Frag) (x : Str) : Bool := (He.Fa.exc x).ok K && (He.eqO (PySem.W.findIn K (.ref (He.ga K x)) "__getattribute__") (some (some (.builtin "BaseException.__getattribute__"))) && (He.eqO (PySem.W.findIn K (.ref (He.ga K x)) "__getattr__") (some none) &&
  (PySem.W.hasDictIn K (He.ga K x) && (He.eqO (PySem.W.findIn K (.ref (He.ga K x)) "__class__") (some (some (.builtin "object.__class__"))) && (He.eqO (PySem.W.specialIn K (.builtin "object.__class__") "__get__") (some (some (.builtin "getset_descriptor.__get__"))) &&
  (decide (PySem.W.takesIn K (.builtin "object.__class__") = some true) && (decide (PySem.W.mroIn K (He.ga K x) (.type "object") = some true) && ((["int", "bool", "str", "tuple", "list"].all fun b => decide (PySem.W.kitOne K (.ref (He.ga K x)) (.type b) = some false)) &&
  (decide (PySem.W.exmOne K (.ref (He.ga K x)) (.ref (He.ga K "SlotError")) = some true) && decide (PySem.W.kitOne K (.ref (He.ga K x)) (.ref (He.ga K x)) = some true))))))))))
/-- an error object, made and not raised -/
def ErrS (K : PySem.W.Frag) (H : Hp) (a : Addr) (x : Str) : Prop := ∃ oe vs, H a = some (.frz oe (.own a)) ∧ oe.cls = .ref (He.ga K x) ∧ oe.dict = none ∧ oe.data = .fields vs
mutual
inductive RV (K : PySem.W.Frag) (W : Wd) (H : Hp) : U → V → Prop
  | non : RV K W H .non .non
  | bl (b : Bool) : RV K W H (.bl b) (.bl b)
  | int (i : Int) : RV K W H (.int i) (.int i)
  | str (x : Str) : RV K W H (.str x) (.str x)
  | ty (n : String) : RV K W H (.ty n) (.ty n)
  | tup {us : List U} {a : Addr} {vs : List V} : TupS K H a vs → RVs K W H us vs → RV K W H (.tup us) (.ref a)
  | lst {us : List U} {a : Addr} {vs : List V} : W.own a = some .frz → H a = some (.lst vs) → RVs K W H us vs → RV K W H (.lst us) (.ref a)
  | scr {ns : List Int} {a : Addr} : ScrS K H a (ns.map V.int) → RV K W H (.scr ns) (.ref a)
  | ref {i : Nat} {a : Addr} : W.mp[i]? = some a → W.own a = some (.obj i) → RV K W H (.ref i) (.ref a)
  | err {x : Str} {a : Addr} : ErrS K H a x → eclB K x = true → RV K W H (.err x) (.ref a)
  | ecl {x : Str} {a : Addr} : a = He.ga K x → eclB K x = true → RV K W H (.ecl x) (.ref a)
inductive RVs (K : PySem.W.Frag) (W : Wd) (H : Hp) : List U → List V → Prop
  | nil : RVs K W H [] []
  | cons {u : U} {v : V} {us : List U} {vs : List V} : RV K W H u v → RVs K W H us vs → RVs K W H (u :: us) (v :: vs)
end
section
variable {K : PySem.W.Frag} {W W' : Wd} {H H' : Hp} {a : Addr} {vs : List V}
theorem TupS.le (l : LeP W H W' H') (h : TupS K H a vs) : TupS K H' a vs := by
  rcases h with h | h
  · exact .inl (l.tp _ _ h)
  · exact .inr h
theorem ScrS.le (l : LeP W H W' H') (h : ScrS K H a vs) : ScrS K H' a vs := by
  rcases h with ⟨o, h⟩ | h
  · exact .inl ⟨o, l.fz _ _ _ h⟩
  · exact .inr h
theorem ScrS.sq (h : ScrS K H a vs) : SqL K H a vs := by
  rcases h with h | h
  · exact .inl (.inr h)
  · exact .inr h
theorem ErrS.le {x : Str} (l : LeP W H W' H') (h : ErrS K H a x) : ErrS K H' a x := by
  obtain ⟨oe, us, e, r⟩ := h
  exact ⟨oe, us, l.fz _ _ _ e, r⟩
theorem TupS.sq (h : TupS K H a vs) : SqT K H a vs := by
  rcases h with h | h
  · exact .inl (.inl h)
  · exact .inr h
end
mutual
theorem RV.le {K : PySem.W.Frag} {W W' : Wd} {H H' : Hp} (l : LeP W H W' H') : ∀ {u : U} {v : V}, RV K W H u v → RV K W' H' u v
  | _, _, .non => .non
  | _, _, .bl b => .bl b
  | _, _, .int i => .int i
  | _, _, .str x => .str x
  | _, _, .ty n => .ty n
  | _, _, .tup h r => .tup (h.le l) (RVs.le l r)
  | _, _, .lst n h r => .lst (l.fr _ _ h n).1 (l.fr _ _ h n).2 (RVs.le l r)
  | _, _, .scr h => .scr (h.le l)
  | _, _, .ref h o => .ref (l.at_ h) (l.ob _ _ h o)
  | _, _, .err h c => .err (h.le l) c
  | _, _, .ecl e c => .ecl e c
theorem RVs.le {K : PySem.W.Frag} {W W' : Wd} {H H' : Hp} (l : LeP W H W' H') : ∀ {us : List U} {vs : List V}, RVs K W H us vs → RVs K W' H' us vs
  | _, _, .nil => .nil
  | _, _, .cons a b => .cons (RV.le l a) (RVs.le l b)
end
section
variable {K : PySem.W.Frag} {W W' : Wd} {H H' : Hp}
theorem RVs.length : ∀ {us : List U} {vs : List V}, RVs K W H us vs → us.length = vs.length
  | _, _, .nil => rfl
  | _, _, .cons _ b => congrArg Nat.succ (RVs.length b)
theorem RVs.get : ∀ {us : List U} {vs : List V} {i : Nat} {u : U}, RVs K W H us vs → us[i]? = some u → ∃ v, vs[i]? = some v ∧ RV K W H u v
  | _, _, _, _, .nil, e => by simp at e
  | _, _, 0, _, .cons r _, e => by simp at e; subst e; exact ⟨_, rfl, r⟩
  | _, _, i + 1, u, .cons _ t, e => by
    obtain ⟨v, h1, h2⟩ := RVs.get (i := i) (u := u) t (by simpa using e)
    exact ⟨v, by simpa using h1, h2⟩
theorem RVs.append : ∀ {us us' : List U} {vs vs' : List V}, RVs K W H us vs → RVs K W H us' vs' → RVs K W H (us ++ us') (vs ++ vs')
  | _, _, _, _, .nil, s => s
  | _, _, _, _, .cons r t, s => .cons r (RVs.append t s)
theorem RVs.take : ∀ {us : List U} {vs : List V} (n : Nat), RVs K W H us vs → RVs K W H (us.take n) (vs.take n)
  | _, _, 0, _ => .nil
  | _, _, _ + 1, .nil => .nil
  | _, _, n + 1, .cons r t => .cons r (RVs.take n t)
theorem RVs.drop : ∀ {us : List U} {vs : List V} (n : Nat), RVs K W H us vs → RVs K W H (us.drop n) (vs.drop n)
  | _, _, 0, r => r
  | _, _, _ + 1, .nil => .nil
  | _, _, n + 1, .cons _ t => RVs.drop n t
theorem RVs.set {u : U} {v : V} (r : RV K W H u v) : ∀ {us : List U} {vs : List V} (i : Nat), RVs K W H us vs → RVs K W H (us.set i u) (vs.set i v)
  | _, _, _, .nil => .nil
  | _, _, 0, .cons _ t => .cons r t
  | _, _, i + 1, .cons q t => .cons q (RVs.set r i t)
theorem RVs.reverse : ∀ {us : List U} {vs : List V}, RVs K W H us vs → RVs K W H us.reverse vs.reverse
  | _, _, .nil => .nil
  | _, _, .cons r t => by
    rw [List.reverse_cons, List.reverse_cons]
    exact RVs.append (RVs.reverse t) (.cons r .nil)
end

def RSv (K : PySem.W.Frag) (W : Wd) (H : Hp) (w : Ow) : Sv → V → Prop
  | .val u, v => RV K W H u v
  | .own us, v => ∃ a vs, v = .ref a ∧ W.own a = some w ∧ H a = some (.lst vs) ∧ RVs K W H us vs
def RO (K : PySem.W.Frag) (W : Wd) (H : Hp) (a : Addr) : Ob → Prop
  | .lst us => ∃ vs, H a = some (.lst vs) ∧ RVs K W H us vs

/-- the shared objects -/
structure SimH (K : PySem.W.Frag) (W : Wd) (h : Hv) (H : Hp) : Prop where
  len : W.mp.length = h.length
  objs : ∀ i o, h[i]? = some o → ∃ a, W.mp[i]? = some a ∧ W.own a = some (.obj i) ∧ RO K W H a o
  dom : ∀ a w, W.own a = some w → ∃ o, H a = some o
structure Sim (K : PySem.W.Frag) (W : Wd) (env : En) (h : Hv) (σ : L2.St) (H : Hp) : Prop where
  sh : SimH K W h H
  len : env.length = σ.length
  slots : ∀ k sv, env[k]? = some (some sv) → ∃ v, σ[k]? = some (some v) ∧ RSv K W H (.slot k) sv v

section
variable {K : PySem.W.Frag} {W W' : Wd} {H H' : Hp} {h : Hv} {env : En} {σ : L2.St} {p : Addr} {o : HO} {w w' : Ow}
/-- the world moves at one address alone: p is new, or owned and not frozen (and no shared object, or still that) -/
structure At (W : Wd) (H : Hp) (p : Addr) (w' : Option Ow) : Prop where
  ow : (H p = none ∧ W.own p = none) ∨ ∃ w, W.own p = some w ∧ w ≠ .frz
  ls : H p = none ∨ ∃ vs, H p = some (.lst vs)
  ob : ∀ i, W.own p = some (.obj i) → w' = some (.obj i)
theorem At.le (q : At W H p (some w')) (hH : ∀ a, a ≠ p → H' a = H a) : LeW W H (W.put p (some w')) H' where
  st := fun a u e n => by
    have ne : a ≠ p := fun z => by
      subst z
      rcases q.ow with ⟨h1, _⟩ | ⟨w, h1, _⟩
      · rw [h1] at e; cases e
      · rw [h1] at n; cases n
    exact ⟨by rw [Wd.put_ne ne]; exact n, by rw [hH a ne]; exact e⟩
  fr := fun a u e n => by
    have ne : a ≠ p := fun z => by
      subst z
      rcases q.ow with ⟨h1, _⟩ | ⟨w, h1, h2⟩
      · rw [h1] at e; cases e
      · rw [h1] at n; cases n; exact h2 rfl
    exact ⟨by rw [Wd.put_ne ne]; exact n, by rw [hH a ne]; exact e⟩
  tp := fun a vs e => by
    have ne : a ≠ p := fun z => by
      subst z
      rcases q.ls with h1 | ⟨w, h1⟩ <;> (rw [h1] at e; cases e)
    rw [hH a ne]; exact e
  fz := fun a o vs e => by
    have ne : a ≠ p := fun z => by
      subst z
      rcases q.ls with h1 | ⟨w, h1⟩ <;> (rw [h1] at e; cases e)
    rw [hH a ne]; exact e
  mp := ⟨[], by simp [Wd.put]⟩
  ob := fun i a _ n => by
    by_cases e : a = p
    · subst e
      rw [Wd.put_same]
      exact q.ob i n
    · rw [Wd.put_ne e]; exact n
theorem At.new (S : SimH K W h H) (e : H p = none) : At W H p (some w') := by
  have n : W.own p = none := by
    cases q : W.own p with
    | none => rfl
    | some w =>
      obtain ⟨o, e'⟩ := S.dom p w q
      rw [e] at e'; cases e'
  exact ⟨.inl ⟨e, n⟩, .inl e, fun i z => by rw [n] at z; cases z⟩
theorem At.tmp {vs : List V} (e : W.own p = some .tmp) (l : H p = some (.lst vs)) : At W H p (some w') := ⟨.inr ⟨_, e, fun z => by cases z⟩, .inr ⟨_, l⟩, fun i z => by rw [e] at z; cases z⟩
theorem At.slot {k : Nat} {vs : List V} (e : W.own p = some (.slot k)) (l : H p = some (.lst vs)) : At W H p (some w') := ⟨.inr ⟨_, e, fun z => by cases z⟩, .inr ⟨_, l⟩, fun i z => by rw [e] at z; cases z⟩
theorem At.obj {i : Nat} {vs : List V} (e : W.own p = some (.obj i)) (l : H p = some (.lst vs)) : At W H p (some (.obj i)) := ⟨.inr ⟨_, e, fun z => by cases z⟩, .inr ⟨_, l⟩, fun j z => by rw [e] at z; cases z; rfl⟩

theorem SimH.step (S : SimH K W h H) (q : At W H p (some w')) (hno : ∀ i, W.own p ≠ some (.obj i)) (hH : ∀ a, a ≠ p → H' a = H a) (hp : ∃ o, H' p = some o) : SimH K (W.put p (some w')) h H' where
  len := S.len
  objs := fun i o e => by
    obtain ⟨a, m, n, r⟩ := S.objs i o e
    have ne : a ≠ p := fun z => by subst z; exact hno i n
    refine ⟨a, m, by rw [Wd.put_ne ne]; exact n, ?_⟩
    cases o with
    | lst us =>
      obtain ⟨vs, e1, rv⟩ := r
      exact ⟨vs, by rw [hH a ne]; exact e1, rv.le (q.le hH).toLeP⟩
  dom := fun a w e => by
    by_cases z : a = p
    · subst z; exact hp
    · rw [Wd.put_ne z] at e
      rw [hH a z]
      exact S.dom a w e
theorem Sim.step (S : Sim K W env h σ H) (q : At W H p (some w')) (hno : ∀ i, W.own p ≠ some (.obj i)) (hns : ∀ k, W.own p ≠ some (.slot k)) (hH : ∀ a, a ≠ p → H' a = H a) (hp : ∃ o, H' p = some o) : Sim K (W.put p (some w')) env h σ H' where
  sh := S.sh.step q hno hH hp
  len := S.len
  slots := fun k sv e => by
    obtain ⟨v, e1, r⟩ := S.slots k sv e
    refine ⟨v, e1, ?_⟩
    cases sv with
    | val u => exact RV.le (q.le hH).toLeP r
    | own us =>
      obtain ⟨a, vs, rfl, n, ea, rv⟩ := r
      have ne : a ≠ p := fun z => by subst z; exact hns k n
      exact ⟨a, vs, rfl, by rw [Wd.put_ne ne]; exact n, by rw [hH a ne]; exact ea, rv.le (q.le hH).toLeP⟩
/-- a new object, ours for the moment (or frozen) -/
theorem Sim.alloc (S : Sim K W env h σ H) (e : H p = none) (o : HO) (w' : Ow) : Sim K (W.put p (some w')) env h σ (upd H p o) ∧ LeW W H (W.put p (some w')) (upd H p o) := by
  have q : At W H p (some w') := At.new S.sh e
  have n : W.own p = none := by
    rcases q.ow with ⟨_, n⟩ | ⟨w, n, _⟩
    · exact n
    · obtain ⟨o, e'⟩ := S.sh.dom p w n
      rw [e] at e'; cases e'
  exact ⟨S.step q (fun i z => by rw [n] at z; cases z) (fun i z => by rw [n] at z; cases z) (fun a ne => upd_ne ne) ⟨o, upd_same⟩, q.le fun a ne => upd_ne ne⟩
/-- .. nobody's: a tuple -/
theorem LeW.none_ (S : SimH K W h H) (e : H p = none) (o : HO) : LeW W H W (upd H p o) where
  st := fun a u ea n => ⟨n, by rw [upd_ne (fun z => by subst z; rw [e] at ea; cases ea)]; exact ea⟩
  fr := fun a u ea n => ⟨n, by rw [upd_ne (fun z => by subst z; rw [e] at ea; cases ea)]; exact ea⟩
  tp := fun a u ea => by rw [upd_ne (fun z => by subst z; rw [e] at ea; cases ea)]; exact ea
  fz := fun a u _ ea => by rw [upd_ne (fun z => by subst z; rw [e] at ea; cases ea)]; exact ea
  mp := ⟨[], by simp⟩
  ob := fun _ _ _ n => n
theorem SimH.none_ (S : SimH K W h H) (e : H p = none) (o : HO) : SimH K W h (upd H p o) where
  len := S.len
  objs := fun i ob eo => by
    obtain ⟨a, m, n, r⟩ := S.objs i ob eo
    obtain ⟨z, ez⟩ := S.dom a _ n
    have ne : a ≠ p := fun q => by subst q; rw [e] at ez; cases ez
    refine ⟨a, m, n, ?_⟩
    cases ob with
    | lst us =>
      obtain ⟨vs, e1, rv⟩ := r
      exact ⟨vs, by rw [upd_ne ne]; exact e1, rv.le (LeW.none_ S e o).toLeP⟩
  dom := fun a w ea => by
    by_cases z : a = p
    · subst z; exact ⟨o, upd_same⟩
    · rw [upd_ne z]; exact S.dom a w ea
theorem Sim.none_ (S : Sim K W env h σ H) (e : H p = none) (o : HO) : Sim K W env h σ (upd H p o) where
  sh := S.sh.none_ e o
  len := S.len
  slots := fun k sv es => by
    obtain ⟨v, e1, r⟩ := S.slots k sv es
    refine ⟨v, e1, ?_⟩
    cases sv with
    | val u => exact RV.le (LeW.none_ S.sh e o).toLeP r
    | own us =>
      obtain ⟨a, vs, rfl, n, ea, rv⟩ := r
      have ne : a ≠ p := fun q => by subst q; rw [e] at ea; cases ea
      exact ⟨a, vs, rfl, n, by rw [upd_ne ne]; exact ea, rv.le (LeW.none_ S.sh e o).toLeP⟩
theorem SimH.own_none (S : SimH K W h H) (e : H p = none) : W.own p = none := by
  cases q : W.own p with
  | none => rfl
  | some w =>
    obtain ⟨o, e'⟩ := S.dom p w q
    rw [e] at e'; cases e'
/-- what an expression gave becomes a frozen value -/
@[simp] def Sv.u : Sv → U
  | .val u => u
  | .own us => .lst us
theorem Sim.freeze (S : Sim K W env h σ H) {sv : Sv} {v : V} (r : RSv K W H .tmp sv v) : ∃ W', Sim K W' env h σ H ∧ LeW W H W' H ∧ RV K W' H sv.u v := by
  cases sv with
  | val u => exact ⟨W, S, .refl, r⟩
  | own us =>
    obtain ⟨a, vs, rfl, n, ea, rv⟩ := r
    have q : At W H a (some .frz) := .tmp n ea
    have l : LeW W H (W.put a (some .frz)) H := q.le fun _ _ => rfl
    refine ⟨_, S.step q (fun i z => by rw [n] at z; cases z) (fun i z => by rw [n] at z; cases z) (fun _ _ => rfl) ⟨_, ea⟩, l, ?_⟩
    exact .lst Wd.put_same ea (rv.le l.toLeP)
/-- a value is stored in a slot -/
theorem Sim.store (S : Sim K W env h σ H) {k : Nat} {u : U} {v : V} (hk : k < env.length) (r : RV K W H u v) : Sim K W (env.set k (some (.val u))) h (σ.set k (some v)) H where
  sh := S.sh
  len := by simpa using S.len
  slots := fun j sv e => by
    by_cases z : j = k
    · subst z
      rw [List.getElem?_set_self hk] at e
      cases e
      exact ⟨v, List.getElem?_set_self (by rw [← S.len]; exact hk), r⟩
    · rw [List.getElem?_set_ne (Ne.symm z)] at e
      rw [List.getElem?_set_ne (Ne.symm z)]
      exact S.slots j sv e
end
end Vi

/-! Vi2: programs over trees: what they ask (u..), and that they tell what the text does (we_.., wt_.., ws_..). -/
namespace Vi
open PySem PySem.Spec PyProof.Rows L2

/-- where one stands: the written part, the classes' places by name, the wish about exceptions -/
structure Lx where
  K : PySem.W.Frag
  ga : Str → Addr
  wx : WX
abbrev UM (α : Type) := En → Hv → (α → En → Hv → Prop) → (Ex → En → Hv → Prop) → Prop
abbrev UE := UM Sv
abbrev UT := UM Bool
abbrev UA := UM (List U)
structure UD where
  nx : En → Hv → Prop
  rt : Sv → En → Hv → Prop
  er : Ex → En → Hv → Prop
  bk : En → Hv → Prop := fun _ _ => False
  ct : En → Hv → Prop := fun _ _ => False
abbrev US := En → Hv → UD → Prop

def ExR (K : PySem.W.Frag) (ga : Str → Addr) (W : Wd) (H : Hp) (ex : Ex) (cls : Value) (d : Option Addr) : Prop :=
  cls = .ref (ga ex.cls) ∧ (ex.arg = none → d = none) ∧ ∀ f u, ex.arg = some (f, u) → ∃ dd v, d = some dd ∧ H dd = some (.xd [(f, v)]) ∧ RV K W H u v
/-- what follows, for every world from here on -/
structure Cont {α β : Type} (L : Lx) (R : Wd → Hp → α → β → Prop) (W : Wd) (H : Hp) (σ : L2.St) (Po : α → En → Hv → Prop) (Pe : Ex → En → Hv → Prop) (Q : β → Hp → Prop) : Prop where
  ok : ∀ W' x env' h' y H', LeW W H W' H' → Sim L.K W' env' h' σ H' → R W' H' x y → Po x env' h' → Q y H'
  er : ∀ W' ex env' h' H' cls d, LeW W H W' H' → Sim L.K W' env' h' σ H' → ExR L.K L.ga W' H' ex cls d → Pe ex env' h' → L.wx cls d σ H'
theorem Cont.le {α β : Type} {L : Lx} {R : Wd → Hp → α → β → Prop} {W W1 : Wd} {H H1 : Hp} {σ : L2.St} {Po : α → En → Hv → Prop} {Pe : Ex → En → Hv → Prop} {Q : β → Hp → Prop} (c : Cont L R W H σ Po Pe Q) (l : LeW W H W1 H1) : Cont L R W1 H1 σ Po Pe Q :=
  ⟨fun W' x env' h' y H' l' => c.ok W' x env' h' y H' (l.trans l'), fun W' ex env' h' H' cls d l' => c.er W' ex env' h' H' cls d (l.trans l')⟩
def lg {α β : Type} (L : Lx) (R : Wd → Hp → α → β → Prop) (t : UM α) : L2.St → Hp → (β → Hp → Prop) → Prop := fun σ H Q =>
  ∃ W env h Po Pe, Sim L.K W env h σ H ∧ t env h Po Pe ∧ Cont L R W H σ Po Pe Q
abbrev RT (L : Lx) : Wd → Hp → Sv → V → Prop := fun W H sv v => RSv L.K W H .tmp sv v
abbrev RB : Wd → Hp → Bool → Bool → Prop := fun _ _ b c => b = c
abbrev RA (L : Lx) : Wd → Hp → List U → List V → Prop := fun W H us vs => RVs L.K W H us vs
def WE (X : Cx) (L : Lx) (e : Expr) (t : UE) : Prop := PE X e (lg L (RT L) t)
def WT (X : Cx) (L : Lx) (e : Expr) (t : UT) : Prop := PT X e (lg L RB t)
def WTw (X : Cx) (L : Lx) (e : Expr) (t : UT) : Prop := PW X e (lg L RB t)
def WA (X : Cx) (L : Lx) (es : List Expr) (t : UA) : Prop := PA X es (lg L (RA L) t)
/-- what follows a statement -/
structure SCont (L : Lx) (W : Wd) (H : Hp) (P : UD) (D : Ends) : Prop where
  nx : ∀ W' env' h' σ' H', LeW W H W' H' → Sim L.K W' env' h' σ' H' → P.nx env' h' → D.nx σ' H'
  bk : ∀ W' env' h' σ' H', LeW W H W' H' → Sim L.K W' env' h' σ' H' → P.bk env' h' → D.bk σ' H'
  ct : ∀ W' env' h' σ' H', LeW W H W' H' → Sim L.K W' env' h' σ' H' → P.ct env' h' → D.ct σ' H'
  rt : ∀ W' sv env' h' σ' v H', LeW W H W' H' → Sim L.K W' env' h' σ' H' → RSv L.K W' H' .tmp sv v → P.rt sv env' h' → D.rt v H'
  er : ∀ W' ex env' h' σ' H' cls d, LeW W H W' H' → Sim L.K W' env' h' σ' H' → ExR L.K L.ga W' H' ex cls d → P.er ex env' h' → L.wx cls d σ' H'
theorem SCont.le {L : Lx} {W W1 : Wd} {H H1 : Hp} {P : UD} {D : Ends} (c : SCont L W H P D) (l : LeW W H W1 H1) : SCont L W1 H1 P D :=
  ⟨fun W' env' h' σ' H' l' => c.nx W' env' h' σ' H' (l.trans l'), fun W' env' h' σ' H' l' => c.bk W' env' h' σ' H' (l.trans l'), fun W' env' h' σ' H' l' => c.ct W' env' h' σ' H' (l.trans l'),
   fun W' sv env' h' σ' v H' l' => c.rt W' sv env' h' σ' v H' (l.trans l'), fun W' ex env' h' σ' H' cls d l' => c.er W' ex env' h' σ' H' cls d (l.trans l')⟩
def ls (L : Lx) (t : US) : TS := fun D σ H => ∃ W env h P, Sim L.K W env h σ H ∧ t env h P ∧ SCont L W H P D
def WS (X : Cx) (L : Lx) (s : Stmt) (t : US) : Prop := PS X s (ls L t)
def WSs (X : Cx) (L : Lx) (s : List Stmt) (t : US) : Prop := PSs X s (ls L t)

section
variable {X : Cx}
theorem PE.wk {e : Expr} {t t' : TE} (h : PE X e t) (w : ∀ σ H Q, t' σ H Q → t σ H Q) : PE X e t' := ⟨fun pins s σ H Q I q => h.run pins s σ H Q I (w _ _ _ q)⟩
theorem PT.wk {e : Expr} {t t' : TT} (h : PT X e t) (w : ∀ σ H Q, t' σ H Q → t σ H Q) : PT X e t' := ⟨fun pins s σ H Q I q => h.run pins s σ H Q I (w _ _ _ q)⟩
theorem PW.wk {e : Expr} {t t' : TT} (h : PW X e t) (w : ∀ σ H Q, t' σ H Q → t σ H Q) : PW X e t' := ⟨fun wh pins s σ H Q I q => h.run wh pins s σ H Q I (w _ _ _ q)⟩
theorem PA.wk {e : List Expr} {t t' : TA} (h : PA X e t) (w : ∀ σ H Q, t' σ H Q → t σ H Q) : PA X e t' := ⟨fun p pins s σ H Q I q => h.run p pins s σ H Q I (w _ _ _ q)⟩
theorem PS.wk {e : Stmt} {t t' : TS} (h : PS X e t) (w : ∀ D σ H, t' D σ H → t D σ H) : PS X e t' := ⟨fun pins s σ H D I q => h.run pins s σ H D I (w _ _ _ q)⟩
theorem PSs.wk {e : List Stmt} {t t' : TS} (h : PSs X e t) (w : ∀ D σ H, t' D σ H → t D σ H) : PSs X e t' := ⟨fun pins s σ H D I q => h.run pins s σ H D I (w _ _ _ q)⟩
end

/-! ### names and constants -/
@[simp] def uVal (u : U) : UE := fun env h Po _ => Po (.val u) env h
@[simp] def uVar (k : Nat) : UE := fun env h Po _ => match env[k]? with
  | some (some (.val u)) => Po (.val u) env h
  | some (some (.own us)) => Po (.val (.lst us)) (env.set k (some (.val (.lst us)))) h
  | _ => False
section
variable {X : Cx} {L : Lx} {pos : Pos}
theorem Sim.thaw {K : PySem.W.Frag} {W : Wd} {env : En} {h : Hv} {σ : L2.St} {H : Hp} (S : Sim K W env h σ H) {k : Nat} {us : List U} (e : env[k]? = some (some (.own us))) :
    ∃ W' v, Sim K W' (env.set k (some (.val (.lst us)))) h σ H ∧ LeW W H W' H ∧ σ[k]? = some (some v) ∧ RV K W' H (.lst us) v := by
  obtain ⟨v, e1, a, vs, rfl, n, ea, rv⟩ := S.slots k _ e
  have q : At W H a (some .frz) := .slot n ea
  have l : LeW W H (W.put a (some .frz)) H := q.le fun _ _ => rfl
  have hk : k < env.length := (List.getElem?_eq_some_iff.mp e).1
  have r : RV K (W.put a (some .frz)) H (.lst us) (.ref a) := .lst Wd.put_same ea (rv.le l.toLeP)
  refine ⟨_, _, ⟨S.sh.step q (fun i z => by rw [n] at z; cases z) (fun _ _ => rfl) ⟨_, ea⟩, by simpa using S.len, fun j sv ej => ?_⟩, l, e1, r⟩
  by_cases z : j = k
  · subst z
    rw [List.getElem?_set_self hk] at ej
    cases ej
    exact ⟨_, e1, r⟩
  · rw [List.getElem?_set_ne (Ne.symm z)] at ej
    obtain ⟨v, e2, r2⟩ := S.slots j sv ej
    refine ⟨v, e2, ?_⟩
    cases sv with
    | val u => exact RV.le l.toLeP r2
    | own us2 =>
      obtain ⟨a2, vs2, rfl, n2, ea2, rv2⟩ := r2
      have ne : a2 ≠ a := fun q => by
        subst q
        rw [n] at n2
        cases n2
        exact z rfl
      exact ⟨a2, vs2, rfl, by rw [Wd.put_ne ne]; exact n2, ea2, rv2.le l.toLeP⟩
theorem we_var {k : Nat} {x : Str} (h : PE X (.Name x pos) (tVar k)) : WE X L (.Name x pos) (uVar k) := by
  refine PE.wk h fun σ H Q ⟨W, env, h, Po, Pe, S, ht, c⟩ => ?_
  unfold uVar at ht
  split at ht
  · rename_i u e
    obtain ⟨v, e1, r⟩ := S.slots k _ e
    exact ⟨v, e1, c.ok W (.val u) env h v H .refl S r ht⟩
  · rename_i us e
    obtain ⟨W', v, S', l, e1, r⟩ := S.thaw e
    exact ⟨v, e1, c.ok W' _ _ h v H l S' (show RSv L.K W' H .tmp (.val (.lst us)) v from r) ht⟩
  · exact ht.elim
theorem we_const {e : Expr} {u : U} {v : V} (h : PE X e (tC v)) (r : ∀ W H, RV L.K W H u v) : WE X L e (uVal u) :=
  PE.wk h fun σ H Q ⟨W, env, h, Po, Pe, S, ht, c⟩ => c.ok W (.val u) env h v H .refl S (r W H) ht
theorem we_int {i : Int} {j : Nat} : WE X L (.Constant (.int i) j pos) (uVal (.int i)) := we_const pe_int fun _ _ => .int i
theorem we_str {i : Str} {j : Nat} : WE X L (.Constant (.str i) j pos) (uVal (.str i)) := we_const pe_str fun _ _ => .str i
theorem we_bl {i : Bool} {j : Nat} : WE X L (.Constant (.bool i) j pos) (uVal (.bl i)) := we_const pe_bl fun _ _ => .bl i
theorem we_non {j : Nat} : WE X L (.Constant .none j pos) (uVal .non) := we_const pe_non fun _ _ => .non
end

/-! ### operators by values -/
abbrev UB := List U → Hv → (Sv → Hv → Prop) → Prop
abbrev UO := U → U → Hv → (Sv → Hv → Prop) → Prop
/-- what follows an operation -/
abbrev OCont (K : PySem.W.Frag) (W : Wd) (H : Hp) (env : En) (σ : L2.St) (P : Sv → Hv → Prop) (Q : VK) : Prop :=
  ∀ W' sv h' v H', LeW W H W' H' → Sim K W' env h' σ H' → RSv K W' H' .tmp sv v → P sv h' → Q v H'
def lo (K : PySem.W.Frag) (f : UO) : R2 := fun x y H Q => ∃ W env h σ u w P, Sim K W env h σ H ∧ RV K W H u x ∧ RV K W H w y ∧ f u w h P ∧ OCont K W H env σ P Q
def lb (K : PySem.W.Frag) (f : UB) : List V → Hp → VK → Prop := fun xs H Q => ∃ W env h σ us P, Sim K W env h σ H ∧ RVs K W H us xs ∧ f us h P ∧ OCont K W H env σ P Q
@[simp] def uBin (f : UO) (a b : UE) : UE := fun env h Po Pe => a env h (fun x env1 h1 => b env1 h1 (fun y env2 h2 => f x.u y.u h2 (fun sv h3 => Po sv env2 h3)) Pe) Pe
section
variable {X : Cx} {L : Lx} {pos : Pos} {a b : Expr} {ta tb : UE} {f : UO}
/-- two operands, then an operation by values -/
theorem lg_bin {σ : L2.St} {H : Hp} {Q : VK} (h : lg L (RT L) (uBin f ta tb) σ H Q) : tOp (lo L.K f) (lg L (RT L) ta) (lg L (RT L) tb) σ H Q := by
  obtain ⟨W, env, h, Po, Pe, S, ht, c⟩ := h
  refine ⟨W, env, h, _, _, S, ht, ⟨fun W1 x env1 h1 v1 H1 l1 S1 r1 q1 => ?_, c.er⟩⟩
  obtain ⟨W1', S1', l1', rv1⟩ := S1.freeze r1
  have c1 := c.le (l1.trans l1')
  refine ⟨W1', env1, h1, _, _, S1', q1, ⟨fun W2 y env2 h2 v2 H2 l2 S2 r2 q2 => ?_, c1.er⟩⟩
  obtain ⟨W2', S2', l2', rv2⟩ := S2.freeze r2
  have c2 := c1.le (l2.trans l2')
  exact ⟨W2', env2, h2, σ, x.u, y.u, _, S2', rv1.le (l2.trans l2').toLeP, rv2, q2, fun W3 sv h3 v3 H3 l3 S3 r3 q3 => c2.ok W3 sv env2 h3 v3 H3 l3 S3 r3 q3⟩
theorem we_bin {op : Operator} (ho : OpR X (binaryOp op) (lo L.K f)) (ha : WE X L a ta) (hb : WE X L b tb) : WE X L (.BinOp a op b pos) (uBin f ta tb) :=
  PE.wk (pe_op ho ha hb) fun _ _ _ => lg_bin
theorem we_cmp {op : CmpOp} (ho : OpR X (compareOp op) (lo L.K f)) (ha : WE X L a ta) (hb : WE X L b tb) (hm : behindInMarks op b = false) : WE X L (.Compare a [op] [b] pos) (uBin f ta tb) :=
  PE.wk (pe_cmpR ho ha hb hm) fun _ _ _ => lg_bin
theorem we_ix (ho : IxR X (lo L.K f)) (ha : WE X L a ta) (hb : WE X L b tb) (hs : PlainIx b) : WE X L (.Subscript a b pos) (uBin f ta tb) :=
  PE.wk (pe_ix ho ha hb hs) fun _ _ _ => lg_bin
end

/-! ### tests -/
@[simp] def svB : Sv → (Bool → Prop) → Prop
  | .val (.bl b), P => P b
  | _, _ => False
/-- a value that is True or False, as a test -/
@[simp] def uB (t : UE) : UT := fun env h Po Pe => t env h (fun sv env1 h1 => svB sv fun b => Po b env1 h1) Pe
section
variable {X : Cx} {L : Lx} {pos : Pos} {a b : Expr} {ta tb : UE} {f : UO} {A B : UT} {rest : List Expr}
theorem svB.at_ {K : PySem.W.Frag} {W : Wd} {H : Hp} {sv : Sv} {v : V} {P : Bool → Prop} (h : svB sv P) (r : RSv K W H .tmp sv v) : ∃ b, v = .bl b ∧ P b := by
  cases sv with
  | own us => exact h.elim
  | val u =>
    cases u with
    | bl b =>
      have r' : RV K W H (.bl b) v := r
      cases r'
      exact ⟨b, rfl, h⟩
    | _ => exact h.elim
theorem lg_B {t : UE} {σ : L2.St} {H : Hp} {Q : Bool → Hp → Prop} (h : lg L RB (uB t) σ H Q) : lg L (RT L) t σ H fun x H1 => ∃ c, x = .bl c ∧ Q c H1 := by
  obtain ⟨W, env, h, Po, Pe, S, ht, c⟩ := h
  refine ⟨W, env, h, _, _, S, ht, ⟨fun W1 x env1 h1 v1 H1 l1 S1 r1 q1 => ?_, c.er⟩⟩
  obtain ⟨b, rfl, q⟩ := q1.at_ r1
  exact ⟨b, rfl, c.ok W1 b env1 h1 b H1 l1 S1 rfl q⟩
theorem wt_val {e : Expr} {t : UE} (h : WE X L e t) (he : ∀ whole, isTrue e X.env whole = (do let v ← whole; standAt e.pos; holding [v] (truthy v)) := by intro _; rfl) : WT X L e (uB t) :=
  PT.wk (pt_val h he) fun _ _ _ => lg_B
theorem wt_cmp {op : CmpOp} (ho : OpR X (compareOp op) (lo L.K f)) (ha : WE X L a ta) (hb : WE X L b tb) (hm : behindInMarks op b = false) : WT X L (.Compare a [op] [b] pos) (uB (uBin f ta tb)) :=
  PT.wk (pt_cmpR ho ha hb hm) fun _ _ _ h => lg_bin (lg_B h)
@[simp] def uAnd (t u : UT) : UT := fun env h Po Pe => t env h (fun c env1 h1 => if c = true then u env1 h1 Po Pe else Po false env1 h1) Pe
@[simp] def uOr (t u : UT) : UT := fun env h Po Pe => t env h (fun c env1 h1 => if c = true then Po true env1 h1 else u env1 h1 Po Pe) Pe
@[simp] def uNot (t : UT) : UT := fun env h Po Pe => t env h (fun c env1 h1 => Po (!c) env1 h1) Pe
theorem wt_and1 (ha : WT X L a A) : WTw X L (.BoolOp .And [a] pos) A := pw_and1 ha
theorem wt_or1 (ha : WT X L a A) : WTw X L (.BoolOp .Or [a] pos) A := pw_or1 ha
theorem wt_and (ha : WT X L a A) (hb : WTw X L (.BoolOp .And (b :: rest) pos) B) : WTw X L (.BoolOp .And (a :: b :: rest) pos) (uAnd A B) := by
  refine PW.wk (pw_and ha hb) fun σ H Q ⟨W, env, h, Po, Pe, S, ht, c⟩ => ?_
  refine ⟨W, env, h, _, _, S, ht, ⟨fun W1 x env1 h1 y H1 l1 S1 r1 q1 => ?_, c.er⟩⟩
  cases r1
  cases x with
  | true => exact ⟨W1, env1, h1, Po, Pe, S1, q1, c.le l1⟩
  | false => exact c.ok W1 false env1 h1 false H1 l1 S1 rfl q1
theorem wt_or (ha : WT X L a A) (hb : WTw X L (.BoolOp .Or (b :: rest) pos) B) : WTw X L (.BoolOp .Or (a :: b :: rest) pos) (uOr A B) := by
  refine PW.wk (pw_or ha hb) fun σ H Q ⟨W, env, h, Po, Pe, S, ht, c⟩ => ?_
  refine ⟨W, env, h, _, _, S, ht, ⟨fun W1 x env1 h1 y H1 l1 S1 r1 q1 => ?_, c.er⟩⟩
  cases r1
  cases x with
  | false => exact ⟨W1, env1, h1, Po, Pe, S1, q1, c.le l1⟩
  | true => exact c.ok W1 true env1 h1 true H1 l1 S1 rfl q1
theorem wt_bool {e : Expr} (h : WTw X L e A) : WT X L e A := PW.pt h
theorem wt_not (ha : WT X L a A) : WT X L (.UnaryOp .Not a pos) (uNot A) := by
  refine PT.wk (pt_not ha) fun σ H Q ⟨W, env, h, Po, Pe, S, ht, c⟩ => ?_
  refine ⟨W, env, h, _, _, S, ht, ⟨fun W1 x env1 h1 y H1 l1 S1 r1 q1 => ?_, c.er⟩⟩
  cases r1
  exact c.ok W1 (!x) env1 h1 _ H1 l1 S1 rfl q1
/-- and, or, not as values that are True or False -/
@[simp] def uV (t : UT) : UE := fun env h Po Pe => t env h (fun c env1 h1 => Po (.val (.bl c)) env1 h1) Pe
theorem we_one {op : BoolOp} {t : UE} (h : WE X L a t) : WE X L (.BoolOp op [a] pos) (uV (uB t)) := by
  refine PE.wk (pe_one h) fun σ H Q ⟨W, env, h, Po, Pe, S, ht, c⟩ => ?_
  refine ⟨W, env, h, _, _, S, ht, ⟨fun W1 x env1 h1 y H1 l1 S1 r1 q1 => ?_, c.er⟩⟩
  obtain ⟨b, rfl, q⟩ := q1.at_ r1
  exact c.ok W1 (.val (.bl b)) env1 h1 _ H1 l1 S1 (.bl b) q
theorem lg_V {e : Expr} {t : UT} {σ : L2.St} {H : Hp} {Q : VK} (h : lg L (RT L) (uV t) σ H Q) : lg L RB t σ H fun c H1 => Q (.bl c) H1 := by
  obtain ⟨W, env, h, Po, Pe, S, ht, c⟩ := h
  refine ⟨W, env, h, _, _, S, ht, ⟨fun W1 x env1 h1 y H1 l1 S1 r1 q1 => ?_, c.er⟩⟩
  cases r1
  exact c.ok W1 (.val (.bl x)) env1 h1 _ H1 l1 S1 (.bl x) q1
theorem we_and {t : UE} (ha : WE X L a t) (hb : WE X L (.BoolOp .And (b :: rest) pos) (uV B)) : WE X L (.BoolOp .And (a :: b :: rest) pos) (uV (uAnd (uB t) B)) := by
  refine PE.wk (pe_and ha hb) fun σ H Q ⟨W, env, h, Po, Pe, S, ht, c⟩ => ?_
  refine ⟨W, env, h, _, _, S, ht, ⟨fun W1 x env1 h1 y H1 l1 S1 r1 q1 => ?_, c.er⟩⟩
  obtain ⟨k, rfl, q⟩ := q1.at_ r1
  refine ⟨k, rfl, ?_⟩
  cases k with
  | true => exact ⟨W1, env1, h1, Po, Pe, S1, q, c.le l1⟩
  | false => exact c.ok W1 (.val (.bl false)) env1 h1 _ H1 l1 S1 (.bl false) q
theorem we_or {t : UE} (ha : WE X L a t) (hb : WE X L (.BoolOp .Or (b :: rest) pos) (uV B)) : WE X L (.BoolOp .Or (a :: b :: rest) pos) (uV (uOr (uB t) B)) := by
  refine PE.wk (pe_or ha hb) fun σ H Q ⟨W, env, h, Po, Pe, S, ht, c⟩ => ?_
  refine ⟨W, env, h, _, _, S, ht, ⟨fun W1 x env1 h1 y H1 l1 S1 r1 q1 => ?_, c.er⟩⟩
  obtain ⟨k, rfl, q⟩ := q1.at_ r1
  refine ⟨k, rfl, ?_⟩
  cases k with
  | false => exact ⟨W1, env1, h1, Po, Pe, S1, q, c.le l1⟩
  | true => exact c.ok W1 (.val (.bl true)) env1 h1 _ H1 l1 S1 (.bl true) q
theorem we_not {t : UE} (ha : WE X L a t) : WE X L (.UnaryOp .Not a pos) (uV (uNot (uB t))) := by
  refine PE.wk (pe_not ha) fun σ H Q ⟨W, env, h, Po, Pe, S, ht, c⟩ => ?_
  refine ⟨W, env, h, _, _, S, ht, ⟨fun W1 x env1 h1 y H1 l1 S1 r1 q1 => ?_, c.er⟩⟩
  obtain ⟨k, rfl, q⟩ := q1.at_ r1
  exact ⟨k, rfl, c.ok W1 (.val (.bl (!k))) env1 h1 _ H1 l1 S1 (.bl _) q⟩
@[simp] def uIfE (t : UT) (x y : UE) : UE := fun env h Po Pe => t env h (fun c env1 h1 => if c = true then x env1 h1 Po Pe else y env1 h1 Po Pe) Pe
theorem we_ifE {c : Expr} (hc : WT X L c A) (ha : WE X L a ta) (hb : WE X L b tb) : WE X L (.IfExp c a b pos) (uIfE A ta tb) := by
  refine PE.wk (pe_ifExp hc ha hb) fun σ H Q ⟨W, env, h, Po, Pe, S, ht, c⟩ => ?_
  refine ⟨W, env, h, _, _, S, ht, ⟨fun W1 x env1 h1 y H1 l1 S1 r1 q1 => ?_, c.er⟩⟩
  cases r1
  cases x with
  | true => exact ⟨W1, env1, h1, Po, Pe, S1, q1, c.le l1⟩
  | false => exact ⟨W1, env1, h1, Po, Pe, S1, q1, c.le l1⟩
end

/-! ### several expressions; displays; calls of what is built in -/
@[simp] def uNil : UA := fun env h Po _ => Po [] env h
@[simp] def uCons (t : UE) (r : UA) : UA := fun env h Po Pe => t env h (fun x env1 h1 => r env1 h1 (fun xs env2 h2 => Po (x.u :: xs) env2 h2) Pe) Pe
@[simp] def uApp (f : UB) (t : UA) : UE := fun env h Po Pe => t env h (fun us env1 h1 => f us h1 fun sv h2 => Po sv env1 h2) Pe
@[simp] def bTup : UB := fun us h P => us.length ≤ sizeLine ∧ P (.val (.tup us)) h
@[simp] def bLst : UB := fun us h P => us.length ≤ sizeLine ∧ P (.own us) h
section
variable {X : Cx} {L : Lx} {pos : Pos} {e : Expr} {es : List Expr} {t : UE} {r : UA} {f : UB}
theorem wa_nil : WA X L [] uNil := PA.wk pa_nil fun σ H Q ⟨W, env, h, Po, Pe, S, ht, c⟩ => c.ok W [] env h [] H .refl S .nil ht
theorem wa_cons (ha : WE X L e t) (hr : WA X L es r) (hs : starEach (e :: es) X.env = (false, eval e X.env) :: starEach es X.env := by rfl) : WA X L (e :: es) (uCons t r) := by
  refine PA.wk (pa_cons ha hr hs) fun σ H Q ⟨W, env, h, Po, Pe, S, ht, c⟩ => ?_
  refine ⟨W, env, h, _, _, S, ht, ⟨fun W1 x env1 h1 v1 H1 l1 S1 r1 q1 => ?_, c.er⟩⟩
  obtain ⟨W1', S1', l1', rv1⟩ := S1.freeze r1
  have c1 := c.le (l1.trans l1')
  exact ⟨W1', env1, h1, _, _, S1', q1, ⟨fun W2 xs env2 h2 vs H2 l2 S2 r2 q2 => c1.ok W2 _ env2 h2 _ H2 l2 S2 (.cons (rv1.le l2.toLeP) r2) q2, c1.er⟩⟩
theorem lg_app {σ : L2.St} {H : Hp} {Q : VK} (h : lg L (RT L) (uApp f r) σ H Q) : lg L (RA L) r σ H fun vs H1 => lb L.K f vs H1 Q := by
  obtain ⟨W, env, h, Po, Pe, S, ht, c⟩ := h
  refine ⟨W, env, h, _, _, S, ht, ⟨fun W1 us env1 h1 vs H1 l1 S1 r1 q1 => ?_, c.er⟩⟩
  exact ⟨W1, env1, h1, σ, us, _, S1, r1, q1, fun W2 sv h2 v2 H2 l2 S2 r2 q2 => (c.le l1).ok W2 sv env1 h2 v2 H2 l2 S2 r2 q2⟩
theorem we_tup {k : Nat} (hr : WA X L es r) : WE X L (.Tuple es k pos) (uApp bTup r) := by
  refine PE.wk (pe_tup hr) fun σ H Q h => ?_
  obtain ⟨W, env, h, Po, Pe, S, ht, c⟩ := h
  refine ⟨W, env, h, _, _, S, ht, ⟨fun W1 us env1 h1 vs H1 l1 S1 r1 q1 => ?_, c.er⟩⟩
  refine ⟨by rw [← r1.length]; exact q1.1, fun p hp => ?_⟩
  have l2 := LeW.none_ S1.sh hp (.tup vs)
  exact c.ok W1 (.val (.tup us)) env1 h1 _ _ (l1.trans l2) (S1.none_ hp _) (.tup (.inl upd_same) (r1.le l2.toLeP)) q1.2
theorem we_lst (hr : WA X L es r) : WE X L (.List es pos) (uApp bLst r) := by
  refine PE.wk (pe_lst hr) fun σ H Q h => ?_
  obtain ⟨W, env, h, Po, Pe, S, ht, c⟩ := h
  refine ⟨W, env, h, _, _, S, ht, ⟨fun W1 us env1 h1 vs H1 l1 S1 r1 q1 => ?_, c.er⟩⟩
  refine ⟨by rw [← r1.length]; exact q1.1, fun p hp => ?_⟩
  obtain ⟨S2, l2⟩ := S1.alloc hp (.lst vs) .tmp
  exact c.ok _ (.own us) env1 h1 _ _ (l1.trans l2) S2 ⟨p, vs, rfl, Wd.put_same, upd_same, r1.le l2.toLeP⟩ q1.2
theorem we_callB {id : String} {x : Str} {p : Pos} (hc : CallR X (.builtin id) (lb L.K f)) (hg : Gl X x) (hm : X.mg x = none) (hv : bootBuiltins x = some (.builtin id)) (ha : WA X L (e :: es) r) (hn : x ≠ "__name__" := by decide) (hdb : (x == ("__debug__" : Str)) = false := by decide)
    (he : starEach (e :: es) X.env = (false, eval e X.env) :: starEach es X.env := by rfl) (hpl : (backTo pos (starEach es X.env)).any (·.1) = false := by rfl) : WE X L (.Call (.Name x p) (e :: es) [] pos) (uApp f r) :=
  PE.wk (pe_callB hc hg hm hv ha hn hdb he hpl) fun _ _ _ h => lg_app h
theorem we_callTy {T : String} {x : Str} {p : Pos} (hc : CallR X (.type T) (lb L.K f)) (hg : Gl X x) (hm : X.mg x = none) (hv : bootBuiltins x = some (.type T)) (ha : WA X L (e :: es) r) (hn : x ≠ "__name__" := by decide) (hdb : (x == ("__debug__" : Str)) = false := by decide)
    (he : starEach (e :: es) X.env = (false, eval e X.env) :: starEach es X.env := by rfl) (hpl : (backTo pos (starEach es X.env)).any (·.1) = false := by rfl) : WE X L (.Call (.Name x p) (e :: es) [] pos) (uApp f r) :=
  PE.wk (pe_callTy hc hg hm hv ha hn hdb he hpl) fun _ _ _ h => lg_app h
end

/-! ### statements -/
@[simp] def uNext : US := fun env h P => P.nx env h
@[simp] def uSeq (t u : US) : US := fun env h P => t env h { P with nx := fun env1 h1 => u env1 h1 P }
@[simp] def uBreak : US := fun env h P => P.bk env h
@[simp] def uCont : US := fun env h P => P.ct env h
@[simp] def uDrop (t : UE) : US := fun env h P => t env h (fun _ env1 h1 => P.nx env1 h1) P.er
@[simp] def uRet (t : UE) : US := fun env h P => t env h P.rt P.er
@[simp] def uRetN : US := fun env h P => P.rt (.val .non) env h
@[simp] def uIf (c : UT) (t u : US) : US := fun env h P => c env h (fun b env1 h1 => if b = true then t env1 h1 P else u env1 h1 P) P.er
/-- name = value, frozen | as it comes | as a shared list -/
@[simp] def uSet (k : Nat) (t : UE) : US := fun env h P => t env h (fun sv env1 h1 => k < env1.length ∧ P.nx (env1.set k (some (.val sv.u))) h1) P.er
@[simp] def uSetO (k : Nat) (t : UE) : US := fun env h P => t env h (fun sv env1 h1 => k < env1.length ∧ P.nx (env1.set k (some sv)) h1) P.er
@[simp] def uSetR (k : Nat) (t : UE) : US := fun env h P => t env h (fun sv env1 h1 => match sv with
  | .own us => k < env1.length ∧ P.nx (env1.set k (some (.val (.ref h1.length)))) (h1 ++ [.lst us])
  | .val _ => False) P.er
section
variable {X : Cx} {L : Lx} {pos : Pos} {st : Stmt} {rest : List Stmt} {t u : US} {e : Expr} {te : UE}
theorem SCont.ret {W : Wd} {H : Hp} {P : UD} {D : Ends} (c : SCont L W H P D) {σ : L2.St} : Cont L (RT L) W H σ P.rt P.er D.rt :=
  ⟨fun W' x env' h' y H' l S r q => c.rt W' x env' h' σ y H' l S r q, fun W' ex env' h' H' cls d l S r q => c.er W' ex env' h' σ H' cls d l S r q⟩
theorem wss_nil : WSs X L [] uNext := PSs.wk pss_nil fun D σ H ⟨W, env, h, P, S, ht, c⟩ => c.nx W env h σ H .refl S ht
theorem wss_cons (h1 : WS X L st t) (h2 : WSs X L rest u) : WSs X L (st :: rest) (uSeq t u) := by
  refine PSs.wk (pss_cons h1 h2) fun D σ H ⟨W, env, h, P, S, ht, c⟩ => ?_
  exact ⟨W, env, h, _, S, ht, ⟨fun W' env' h' σ' H' l S' q => ⟨W', env', h', P, S', q, c.le l⟩, c.bk, c.ct, c.rt, c.er⟩⟩
theorem wss_one (h1 : WS X L st t) : WSs X L [st] t := pss_one h1
theorem ws_pass : WS X L (.Pass pos) uNext := PS.wk ps_pass fun D σ H ⟨W, env, h, P, S, ht, c⟩ => c.nx W env h σ H .refl S ht
theorem ws_break : WS X L (.Break pos) uBreak := PS.wk ps_break fun D σ H ⟨W, env, h, P, S, ht, c⟩ => c.bk W env h σ H .refl S ht
theorem ws_continue : WS X L (.Continue pos) uCont := PS.wk ps_continue fun D σ H ⟨W, env, h, P, S, ht, c⟩ => c.ct W env h σ H .refl S ht
theorem ws_expr (he : WE X L e te) (hs : swapsWith e none pos.line X.env = pure false := by rfl) : WS X L (.Expr e pos) (uDrop te) := by
  refine PS.wk (ps_expr he hs) fun D σ H ⟨W, env, h, P, S, ht, c⟩ => ?_
  exact ⟨W, env, h, _, _, S, ht, ⟨fun W1 x env1 h1 y H1 l1 S1 r1 q1 => c.nx W1 env1 h1 σ H1 l1 S1 q1, c.ret.er⟩⟩
theorem ws_ret (he : WE X L e te) : WS X L (.Return (some e) pos) (uRet te) := by
  refine PS.wk (ps_ret he) fun D σ H ⟨W, env, h, P, S, ht, c⟩ => ?_
  exact ⟨W, env, h, _, _, S, ht, c.ret⟩
theorem ws_retN : WS X L (.Return none pos) uRetN := PS.wk ps_retN fun D σ H ⟨W, env, h, P, S, ht, c⟩ => c.rt W (.val .non) env h σ .non H .refl S (show RV L.K W H .non .non from .non) ht
theorem ws_if {c : Expr} {a b : List Stmt} {tc : UT} (hc : WT X L c tc) (ha : WSs X L a t) (hb : WSs X L b u) : WS X L (.If c a b pos) (uIf tc t u) := by
  refine PS.wk (ps_if hc ha hb) fun D σ H ⟨W, env, h, P, S, ht, c⟩ => ?_
  refine ⟨W, env, h, _, _, S, ht, ⟨fun W1 x env1 h1 y H1 l1 S1 r1 q1 => ?_, c.ret.er⟩⟩
  cases r1
  cases x with
  | true => exact ⟨W1, env1, h1, P, S1, q1, c.le l1⟩
  | false => exact ⟨W1, env1, h1, P, S1, q1, c.le l1⟩
theorem ws_set {k : Nat} {x : Str} {pos' : Pos} (hp : PS X (.Assign [.Name x pos'] e pos) (tAsg (lg L (RT L) te) (gName k))) : WS X L (.Assign [.Name x pos'] e pos) (uSet k te) := by
  refine PS.wk hp fun D σ H ⟨W, env, h, P, S, ht, c⟩ => ?_
  refine ⟨W, env, h, _, _, S, ht, ⟨fun W1 x env1 h1 y H1 l1 S1 r1 q1 => ?_, c.ret.er⟩⟩
  obtain ⟨W1', S1', l1', rv1⟩ := S1.freeze r1
  exact c.nx W1' _ h1 _ H1 (l1.trans l1') (S1'.store q1.1 rv1) q1.2
theorem Sim.storeO {K : PySem.W.Frag} {W : Wd} {env : En} {h : Hv} {σ : L2.St} {H : Hp} (S : Sim K W env h σ H) {k : Nat} {us : List U} {v : V} (hk : k < env.length) (r : RSv K W H .tmp (.own us) v) :
    ∃ W', Sim K W' (env.set k (some (.own us))) h (σ.set k (some v)) H ∧ LeW W H W' H := by
  obtain ⟨a, vs, rfl, n, ea, rv⟩ := r
  have q : At W H a (some (.slot k)) := .tmp n ea
  have l : LeW W H (W.put a (some (.slot k))) H := q.le fun _ _ => rfl
  have S1 := S.step q (fun i z => by rw [n] at z; cases z) (fun i z => by rw [n] at z; cases z) (fun _ _ => rfl) ⟨_, ea⟩
  refine ⟨_, ⟨S1.sh, by simpa using S.len, fun j sv e => ?_⟩, l⟩
  by_cases z : j = k
  · subst z
    rw [List.getElem?_set_self hk] at e
    cases e
    exact ⟨_, List.getElem?_set_self (by rw [← S.len]; exact hk), a, vs, rfl, Wd.put_same, ea, rv.le l.toLeP⟩
  · rw [List.getElem?_set_ne (Ne.symm z)] at e
    rw [List.getElem?_set_ne (Ne.symm z)]
    exact S1.slots j sv e
theorem ws_setO {k : Nat} {x : Str} {pos' : Pos} (hp : PS X (.Assign [.Name x pos'] e pos) (tAsg (lg L (RT L) te) (gName k))) : WS X L (.Assign [.Name x pos'] e pos) (uSetO k te) := by
  refine PS.wk hp fun D σ H ⟨W, env, h, P, S, ht, c⟩ => ?_
  refine ⟨W, env, h, _, _, S, ht, ⟨fun W1 sv env1 h1 y H1 l1 S1 r1 q1 => ?_, c.ret.er⟩⟩
  cases sv with
  | val u => exact c.nx W1 _ h1 _ H1 l1 (S1.store q1.1 r1) q1.2
  | own us =>
    obtain ⟨W2, S2, l2⟩ := S1.storeO q1.1 r1
    exact c.nx W2 _ h1 _ H1 (l1.trans l2) S2 q1.2
/-- a list of one's own becomes a shared object -/
theorem Sim.share {K : PySem.W.Frag} {W : Wd} {env : En} {h : Hv} {σ : L2.St} {H : Hp} (S : Sim K W env h σ H) {us : List U} {v : V} (r : RSv K W H .tmp (.own us) v) :
    ∃ W', Sim K W' env (h ++ [.lst us]) σ H ∧ LeW W H W' H ∧ RV K W' H (.ref h.length) v := by
  obtain ⟨a, vs, rfl, n, ea, rv⟩ := r
  have hne : ∀ b w, W.own b = some w → w ≠ .tmp → b ≠ a := fun b w e z q => by subst q; rw [n] at e; cases e; exact z rfl
  have own : ∀ b, b ≠ a → (⟨fun b => if b = a then some (.obj h.length) else W.own b, W.mp ++ [a]⟩ : Wd).own b = W.own b := fun b ne => if_neg ne
  have l : LeW W H ⟨fun b => if b = a then some (.obj h.length) else W.own b, W.mp ++ [a]⟩ H := by
    refine ⟨⟨fun b o e f => ⟨?_, e⟩, fun _ _ e => e, fun _ _ _ e => e, ⟨[a], rfl⟩, fun i b m f => ?_⟩, fun b o e f => ⟨?_, e⟩⟩
    · rw [own b (hne b _ f (by intro z; cases z))]; exact f
    · rw [own b (hne b _ f (by intro z; cases z))]; exact f
    · rw [own b (fun q => by subst q; rw [n] at f; cases f)]; exact f
  have RVl : ∀ {us vs}, RVs K W H us vs → RVs K ⟨fun b => if b = a then some (.obj h.length) else W.own b, W.mp ++ [a]⟩ H us vs := fun r => r.le l.toLeP
  refine ⟨_, ⟨⟨?_, fun i o e => ?_, fun b w e => ?_⟩, S.len, fun k sv e => ?_⟩, l, .ref (i := h.length) ?_ (if_pos rfl)⟩
  · simp [S.sh.len]
  · by_cases z : i < h.length
    · rw [List.getElem?_append_left z] at e
      obtain ⟨b, m, nb, ro⟩ := S.sh.objs i o e
      refine ⟨b, l.at_ m, l.ob i b m nb, ?_⟩
      cases o with
      | lst us' =>
        obtain ⟨vs', e1, r1⟩ := ro
        exact ⟨vs', e1, RVl r1⟩
    · have hi : i = h.length := by
        have := (List.getElem?_eq_some_iff.mp e).1
        simp at this
        omega
      subst hi
      have eo : o = .lst us := by simpa using e.symm
      subst eo
      refine ⟨a, ?_, if_pos rfl, vs, ea, RVl rv⟩
      rw [← S.sh.len]
      simp
  · by_cases z : b = a
    · subst z; exact ⟨_, ea⟩
    · rw [own b z] at e
      exact S.sh.dom b w e
  · obtain ⟨v, e1, r1⟩ := S.slots k sv e
    refine ⟨v, e1, ?_⟩
    cases sv with
    | val u => exact RV.le l.toLeP r1
    | own us2 =>
      obtain ⟨b, vs2, rfl, nb, eb, rb⟩ := r1
      exact ⟨b, vs2, rfl, by rw [own b (hne b _ nb (by intro z; cases z))]; exact nb, eb, RVl rb⟩
  · rw [← S.sh.len]
    simp
theorem ws_setR {k : Nat} {x : Str} {pos' : Pos} (hp : PS X (.Assign [.Name x pos'] e pos) (tAsg (lg L (RT L) te) (gName k))) : WS X L (.Assign [.Name x pos'] e pos) (uSetR k te) := by
  refine PS.wk hp fun D σ H ⟨W, env, h, P, S, ht, c⟩ => ?_
  refine ⟨W, env, h, _, _, S, ht, ⟨fun W1 sv env1 h1 y H1 l1 S1 r1 q1 => ?_, c.ret.er⟩⟩
  cases sv with
  | val u => exact q1.elim
  | own us =>
    obtain ⟨W2, S2, l2, r2⟩ := S1.share r1
    exact c.nx W2 _ _ _ H1 (l1.trans l2) (S2.store q1.1 r2) q1.2
end
end Vi

/-! Vi3: targets, loops, comprehensions, calls of defs, a def's promise. -/
namespace Vi
open PySem PySem.Spec PyProof.Rows L2

/-! ### targets -/
abbrev UG := U → En → Hv → (En → Hv → Prop) → Prop
/-- alike but at the places ks -/
def SameOff (ks : List Nat) (σ σ' : L2.St) : Prop := σ.length = σ'.length ∧ ∀ j, j ∉ ks → σ[j]? = σ'[j]?
theorem SameOff.refl {ks : List Nat} {σ : L2.St} : SameOff ks σ σ := ⟨rfl, fun _ _ => rfl⟩
theorem SameOff.trans {ks : List Nat} {σ σ1 σ2 : L2.St} (a : SameOff ks σ σ1) (b : SameOff ks σ1 σ2) : SameOff ks σ σ2 := ⟨a.1.trans b.1, fun j h => (a.2 j h).trans (b.2 j h)⟩
theorem SameOff.set {ks : List Nat} {σ : L2.St} {k : Nat} {x : Option V} (h : k ∈ ks) : SameOff ks σ (σ.set k x) := ⟨by simp, fun j hj => by
  have ne : k ≠ j := fun z => by subst z; exact hj h
  rw [List.getElem?_set_ne ne]⟩
def lgG (L : Lx) (ks : List Nat) (g : UG) : TG := fun v σ H Q => ∃ W env h u P, Sim L.K W env h σ H ∧ RV L.K W H u v ∧ g u env h P ∧ ∀ env' h' σ', Sim L.K W env' h' σ' H → SameOff ks σ σ' → P env' h' → Q σ' H
def WG (X : Cx) (L : Lx) (tg : Expr) (ks : List Nat) (g : UG) : Prop := PG X tg (lgG L ks g)
@[simp] def gN (k : Nat) : UG := fun u env h Q => k < env.length ∧ Q (env.set k (some (.val u))) h
@[simp] def setsU : List Nat → List U → En → Hv → (En → Hv → Prop) → Prop
  | [], [], env, h, Q => Q env h
  | k :: ks, u :: us, env, h, Q => k < env.length ∧ setsU ks us (env.set k (some (.val u))) h Q
  | _, _, _, _, _ => False
@[simp] def gT (ks : List Nat) : UG := fun u env h Q => match u with
  | .tup us => setsU ks us env h Q
  | _ => False
theorem PG.wk {X : Cx} {e : Expr} {t t' : TG} (h : PG X e t) (w : ∀ v σ H Q, t' v σ H Q → t v σ H Q) : PG X e t' := ⟨fun pins s σ H v u Q I r q => h.run pins s σ H v u Q I r (w _ _ _ _ q)⟩
section
variable {X : Cx} {L : Lx} {pos : Pos}
theorem wg_name {k : Nat} {x : Str} (h : PG X (.Name x pos) (gName k)) : WG X L (.Name x pos) [k] (gN k) := by
  refine PG.wk h fun v σ H Q ⟨W, env, h, u, P, S, r, ht, c⟩ => ?_
  exact c _ h _ (S.store ht.1 r) (.set (by simp)) ht.2
/-- the slots of names, from the left -/
def gNames : List Nat → TGs
  | [] => gNil
  | k :: ks => gCons (gName k) (gNames ks)
theorem sets_ok {K : PySem.W.Frag} {W : Wd} {all : List Nat} : ∀ {ks : List Nat} {us : List U} {vs : List V} {env : En} {h : Hv} {σ : L2.St} {H : Hp} {P : En → Hv → Prop} {Q : L2.St → Hp → Prop}, (∀ k ∈ ks, k ∈ all) → Sim K W env h σ H → RVs K W H us vs → setsU ks us env h P →
    (∀ env' h' σ', Sim K W env' h' σ' H → SameOff all σ σ' → P env' h' → Q σ' H) → gNames ks vs σ H Q
  | [], [], _, _, _, _, _, _, _, _, S, .nil, ht, c => ⟨rfl, c _ _ _ S .refl ht⟩
  | k :: ks, u :: us, _, _, _, _, _, _, _, hk, S, .cons r rs, ht, c => ⟨_, _, rfl, sets_ok (fun j hj => hk j (List.mem_cons_of_mem _ hj)) (S.store ht.1 r) rs ht.2 fun env' h' σ' S' o q => c env' h' σ' S' ((SameOff.set (hk k (List.mem_cons_self ..))).trans o) q⟩
  | [], _ :: _, _, _, _, _, _, _, _, _, _, _, ht, _ => ht.elim
  | _ :: _, [], _, _, _, _, _, _, _, _, _, _, ht, _ => ht.elim
theorem setsU_len {ks : List Nat} {us : List U} {env : En} {h : Hv} {P : En → Hv → Prop} (ht : setsU ks us env h P) : us.length = ks.length := by
  induction ks generalizing us env with
  | nil =>
    cases us with
    | nil => rfl
    | cons u us => exact ht.elim
  | cons k ks ih =>
    cases us with
    | nil => exact ht.elim
    | cons u us => exact congrArg Nat.succ (ih ht.2)
theorem wg_tup {es : List Expr} {j : Nat} {ks : List Nat} (hc : X.calm = true) (hK : L.K = X.K) (h : PGs X es (gNames ks)) (hn : (assignEach es X.env).length = ks.length := by rfl) (hst : (assignEach es X.env).findIdx? (·.1) = none := by rfl) : WG X L (.Tuple es j pos) ks (gT ks) := by
  refine PG.wk (pg_tup (n := ks.length) hc h hn hst) fun v σ H Q ⟨W, env, h, u, P, S, r, ht, c⟩ => ?_
  cases u with
  | tup us =>
    cases r with
    | tup hq rs => exact ⟨_, _, rfl, hK ▸ hq.sq, by rw [← rs.length]; exact setsU_len ht, sets_ok (fun _ z => z) S rs ht c⟩
  | _ => exact ht.elim
end
@[simp] def uAsg (g : UG) (t : UE) : US := fun env h P => t env h (fun sv env1 h1 => g sv.u env1 h1 P.nx) P.er
theorem ws_asg {X : Cx} {L : Lx} {pos : Pos} {tg e : Expr} {te : UE} {ks : List Nat} {g : UG} (he : WE X L e te) (hg : WG X L tg ks g) (hs : swapsWithSole [tg] e pos.line X.env = pure false := by rfl) (hw : swappedStores [tg] e X.env = pure none := by rfl)
    (h1 : (assignEach [tg] X.env).map (·.2) = [assign tg X.env] := by rfl) : WS X L (.Assign [tg] e pos) (uAsg g te) := by
  refine PS.wk (ps_asg he hg hs hw h1) fun D σ H ⟨W, env, h, P, S, ht, c⟩ => ?_
  refine ⟨W, env, h, _, _, S, ht, ⟨fun W1 x env1 h1 y H1 l1 S1 r1 q1 => ?_, c.ret.er⟩⟩
  obtain ⟨W1', S1', l1', rv1⟩ := S1.freeze r1
  exact ⟨W1', env1, h1, x.u, _, S1', rv1, q1, fun env' h' σ' S' _ q => c.nx W1' env' h' σ' H1 (l1.trans l1') S' q⟩

/-! ### what is walked -/
/-- J walks the items us, whatever comes behind -/
def Wk (K : PySem.W.Frag) (W : Wd) (H : Hp) (us : List U) (J : It) : Prop := ∀ W' H', LeW W H W' H' → ∀ i,
  (us.length ≤ i → J.stop i H') ∧ (∀ u, us[i]? = some u → J.go i H' ∧ ∀ x H'', J.yld i H' x H'' → LeW W' H' W' H'' ∧ (∀ env h σ, Sim K W' env h σ H' → Sim K W' env h σ H'') ∧ RV K W' H'' u x)
def WI (X : Cx) (L : Lx) (tg iter : Expr) (t : UM (List U)) : Prop := PI X tg iter (lg L (Wk L.K) t)
theorem PI.wk {X : Cx} {tg e : Expr} {t t' : TI} (h : PI X tg e t) (w : ∀ σ H Q, t' σ H Q → t σ H Q) : PI X tg e t' := ⟨fun pins s σ H Q I q => h.run pins s σ H Q I (w _ _ _ q)⟩
section
variable {X : Cx} {L : Lx} {pos : Pos} {tg : Expr}
/-- a list or a tuple -/
theorem pi_any {l : Expr} {tl : TE} (hl : PE X l tl) : PI X tg l (fun σ H R => tl σ H fun x H1 => ∃ a, x = .ref a ∧ (((∃ xs, SqL X.K H1 a xs) ∧ R (Itl X.K a) H1) ∨ ((∃ xs, SqT X.K H1 a xs) ∧ R (Itt X.K a) H1))) := by
  refine ⟨fun pins s σ H R I h => ?_⟩
  refine thn (hl.run pins s σ H _ I h) fun v s1 ⟨x, H1, I1, r1, q1⟩ => ?_
  obtain ⟨a, e, q1⟩ := q1
  subst e
  cases r1
  rcases q1 with ⟨⟨xs, hq⟩, q⟩ | ⟨⟨xs, hq⟩, q⟩
  · obtain ⟨its, rv, p, hz⟩ := I1.list hq
    refine wpAny_pyIter_list p.isList ?_
    refine ⟨s1.heap.objs.size, [s1.heap.objs.size], _, _, H1, rfl, I1.kept (t' := s1.toks) fun b o e => Heap.get?_push_of_some _ e, turn_list a _, ⟨_, Heap.get?_push_size _ rfl, rfl, rfl⟩, fun b hb => ?_, q⟩
    have e : b = s1.heap.objs.size := by simpa using hb
    subst e
    exact I1.fpOk (Nat.le_refl _) (I1.hok.fresh (Nat.le_refl _))
  · obtain ⟨its, rv, p, hz⟩ := I1.tuple hq
    refine wpAny_pyIter_tuple (show s1.heap.IsTuple a its.toArray from p) ?_
    refine ⟨s1.heap.objs.size, [s1.heap.objs.size], _, _, H1, rfl, I1.kept (t' := s1.toks) fun b o e => Heap.get?_push_of_some _ e, turn_tuple a _, ⟨_, Heap.get?_push_size _ rfl, rfl, rfl⟩, fun b hb => ?_, q⟩
    have e : b = s1.heap.objs.size := by simpa using hb
    subst e
    exact I1.fpOk (Nat.le_refl _) (I1.hok.fresh (Nat.le_refl _))
/-- the items of a list or tuple -/
@[simp] def itemsU : U → (List U → Prop) → Prop
  | .lst us, P => P us
  | .tup us, P => P us
  | .scr ns, P => P (ns.map U.int)
  | _, _ => False
@[simp] def uItems (t : UE) : UM (List U) := fun env h Po Pe => t env h (fun sv env1 h1 => itemsU sv.u fun us => Po us env1 h1) Pe
theorem RVs.ints {K : PySem.W.Frag} {W : Wd} {H : Hp} : ∀ ns : List Int, RVs K W H (ns.map U.int) (ns.map V.int)
  | [] => .nil
  | n :: ns => .cons (.int n) (RVs.ints ns)
theorem wk_list {K : PySem.W.Frag} {W : Wd} {H : Hp} {us : List U} {vs : List V} {a : Addr} (st : ∀ W' H', LeW W H W' H' → SqL K H' a vs) (r : RVs K W H us vs) : Wk K W H us (Itl K a) := fun W' H' l i => by
  have h1 := st W' H' l
  refine ⟨fun hi => ⟨vs, h1, by rw [← r.length]; exact hi⟩, fun u e => ?_⟩
  obtain ⟨v, ev, rv⟩ := r.get e
  refine ⟨⟨vs, v, h1, ev⟩, fun x H'' ⟨e1, e2⟩ => ?_⟩
  subst e1
  have ex := e2 vs h1
  rw [ev] at ex
  cases ex
  exact ⟨.refl, fun _ _ _ S => S, rv.le l.toLeP⟩
theorem wk_tup {K : PySem.W.Frag} {W : Wd} {H : Hp} {us : List U} {vs : List V} {a : Addr} (st : ∀ W' H', LeW W H W' H' → SqT K H' a vs) (r : RVs K W H us vs) : Wk K W H us (Itt K a) := fun W' H' l i => by
  have h1 := st W' H' l
  refine ⟨fun hi => ⟨vs, h1, by rw [← r.length]; exact hi⟩, fun u e => ?_⟩
  obtain ⟨v, ev, rv⟩ := r.get e
  refine ⟨⟨vs, v, h1, ev⟩, fun x H'' ⟨e1, e2⟩ => ?_⟩
  subst e1
  have ex := e2 vs h1
  rw [ev] at ex
  cases ex
  exact ⟨.refl, fun _ _ _ S => S, rv.le l.toLeP⟩
theorem wi_any {l : Expr} {t : UE} (hK : L.K = X.K) (hl : WE X L l t) : WI X L tg l (uItems t) := by
  refine PI.wk (pi_any hl) fun σ H R ⟨W, env, h, Po, Pe, S, ht, c⟩ => ?_
  refine ⟨W, env, h, _, _, S, ht, ⟨fun W1 sv env1 h1 v1 H1 l1 S1 r1 q1 => ?_, c.er⟩⟩
  obtain ⟨W1', S1', l1', rv1⟩ := S1.freeze r1
  generalize sv.u = u at rv1 q1
  rw [← hK]
  cases rv1 with
  | lst n e rs => exact ⟨_, rfl, .inl ⟨⟨_, .inl (.inl e)⟩, c.ok W1' _ env1 h1 _ H1 (l1.trans l1') S1' (wk_list (fun W' H' l => .inl (.inl (l.fr _ _ e n).2)) rs) q1⟩⟩
  | tup e rs => exact ⟨_, rfl, .inr ⟨⟨_, e.sq⟩, c.ok W1' _ env1 h1 _ H1 (l1.trans l1') S1' (wk_tup (fun W' H' l => (e.le l.toLeP).sq) rs) q1⟩⟩
  | scr e => exact ⟨_, rfl, .inl ⟨⟨_, e.sq⟩, c.ok W1' _ env1 h1 _ H1 (l1.trans l1') S1' (wk_list (fun W' H' l => (e.le l.toLeP).sq) (RVs.ints _)) q1⟩⟩
  | _ => exact q1.elim
/-- range(n), range(a, b) -/
def rangeU (lo : Int) (n : Nat) : List U := (List.range n).map fun (k : Nat) => U.int (lo + k)
@[simp] def bRange1 : List U → (List U → Prop) → Prop
  | [.int j], P => -(2 ^ 62) ≤ j ∧ j < 2 ^ 62 ∧ P (rangeU 0 j.toNat)
  | _, _ => False
@[simp] def bRange2 : List U → (List U → Prop) → Prop
  | [.int i, .int j], P => (-(2 ^ 62) ≤ i ∧ i < 2 ^ 62 ∧ -(2 ^ 62) ≤ j ∧ j < 2 ^ 62) ∧ P (rangeU i (j - i).toNat)
  | _, _ => False
@[simp] def uIter (f : List U → (List U → Prop) → Prop) (t : UA) : UM (List U) := fun env h Po Pe => t env h (fun us env1 h1 => f us fun xs => Po xs env1 h1) Pe
theorem wk_range {K : PySem.W.Frag} {W : Wd} {H : Hp} {lo : Int} {n : Nat} : Wk K W H (rangeU lo n) (Itr lo n) := fun W' H' l i => by
  unfold rangeU
  refine ⟨fun hi => show n ≤ i by simpa using hi, fun u e => ?_⟩
  have hi : i < n := by
    have := (List.getElem?_eq_some_iff.mp e).1
    simpa using this
  have eu : u = U.int (lo + i) := by
    rw [List.getElem?_map, List.getElem?_range hi] at e
    exact (Option.some.inj e).symm
  subst eu
  refine ⟨hi, fun x H'' ⟨e1, e2⟩ => ?_⟩
  subst e1 e2
  exact ⟨.refl, fun _ _ _ S => S, .int _⟩
theorem RVs.one {K : PySem.W.Frag} {W : Wd} {H : Hp} {u : U} {vs : List V} (r : RVs K W H [u] vs) : ∃ v, vs = [v] ∧ RV K W H u v := by
  cases r with
  | cons a b =>
    cases b
    exact ⟨_, rfl, a⟩
theorem RVs.two {K : PySem.W.Frag} {W : Wd} {H : Hp} {u w : U} {vs : List V} (r : RVs K W H [u, w] vs) : ∃ v x, vs = [v, x] ∧ RV K W H u v ∧ RV K W H w x := by
  cases r with
  | cons a b =>
    obtain ⟨x, rfl, c⟩ := RVs.one b
    exact ⟨_, x, rfl, a, c⟩
theorem RV.int_ {K : PySem.W.Frag} {W : Wd} {H : Hp} {i : Int} {v : V} (r : RV K W H (.int i) v) : v = .int i := by cases r; rfl
theorem RV.str_ {K : PySem.W.Frag} {W : Wd} {H : Hp} {i : Str} {v : V} (r : RV K W H (.str i) v) : v = .str i := by cases r; rfl
theorem RV.bl_ {K : PySem.W.Frag} {W : Wd} {H : Hp} {i : Bool} {v : V} (r : RV K W H (.bl i) v) : v = .bl i := by cases r; rfl
theorem RV.non_ {K : PySem.W.Frag} {W : Wd} {H : Hp} {v : V} (r : RV K W H .non v) : v = .non := by cases r; rfl
theorem wi_range1 {a : Expr} {ta : UA} {p : Pos} (hg : Gl X "range") (hm : X.mg "range" = none) (ha : WA X L [a] ta) (hs : starEach [a] X.env = [(false, eval a X.env)] := by rfl) : WI X L tg (.Call (.Name "range" p) [a] [] pos) (uIter bRange1 ta) := by
  refine PI.wk (pi_range1 hg hm ha hs) fun σ H R ⟨W, env, h, Po, Pe, S, ht, c⟩ => ?_
  refine ⟨W, env, h, _, _, S, ht, ⟨fun W1 us env1 h1 vs H1 l1 S1 r1 q1 => ?_, c.er⟩⟩
  unfold bRange1 at q1
  split at q1
  · obtain ⟨v, rfl, r⟩ := RVs.one r1
    cases r.int_
    exact ⟨_, rfl, q1.1, q1.2.1, c.ok W1 _ env1 h1 _ H1 l1 S1 wk_range q1.2.2⟩
  · exact q1.elim
theorem wi_range2 {a b : Expr} {ta : UA} {p : Pos} (hg : Gl X "range") (hm : X.mg "range" = none) (ha : WA X L [a, b] ta) (hs : starEach [a, b] X.env = [(false, eval a X.env), (false, eval b X.env)] := by rfl) (hs2 : starEach [b] X.env = [(false, eval b X.env)] := by rfl) :
    WI X L tg (.Call (.Name "range" p) [a, b] [] pos) (uIter bRange2 ta) := by
  refine PI.wk (pi_range2 hg hm ha hs hs2) fun σ H R ⟨W, env, h, Po, Pe, S, ht, c⟩ => ?_
  refine ⟨W, env, h, _, _, S, ht, ⟨fun W1 us env1 h1 vs H1 l1 S1 r1 q1 => ?_, c.er⟩⟩
  unfold bRange2 at q1
  split at q1
  · obtain ⟨v, w, rfl, r, r'⟩ := RVs.two r1
    cases r.int_
    cases r'.int_
    exact ⟨_, _, rfl, q1.1, c.ok W1 _ env1 h1 _ H1 l1 S1 wk_range q1.2⟩
  · exact q1.elim
end

/-! ### for, while -/
def forU (g : UG) (b : US) (P : UD) : List U → En → Hv → Prop
  | [], env, h => P.nx env h
  | u :: us, env, h => g u env h fun env1 h1 => b env1 h1 { nx := forU g b P us, rt := P.rt, er := P.er, bk := P.nx, ct := forU g b P us }
@[simp] def uFor (ti : UM (List U)) (g : UG) (b : US) : US := fun env h P => ti env h (fun us env1 h1 => forU g b P us env1 h1) P.er
def whileU (c : UT) (b : US) (P : UD) : Nat → En → Hv → Prop
  | 0, _, _ => False
  | n + 1, env, h => c env h (fun t env1 h1 => if t = true then b env1 h1 { nx := whileU c b P n, rt := P.rt, er := P.er, bk := P.nx, ct := whileU c b P n } else P.nx env1 h1) P.er
def uWhile (c : UT) (b : US) : US := fun env h P => ∃ n, whileU c b P n env h
section
variable {X : Cx} {L : Lx} {pos : Pos} {tg : Expr}
theorem ws_for {iter : Expr} {body : List Stmt} {ti : UM (List U)} {ks : List Nat} {g : UG} {b : US} (hp : PassesOwn (model X.prog X.w) X.A X.env X.xe) (hc : X.calm = true) (hi : WI X L tg iter ti) (hg : WG X L tg ks g) (hb : WSs X L body b)
    (hs : ∀ x, foldedSetIterable iter X.env x = pure x := by intro _; rfl) : WS X L (.For tg iter body [] pos) (uFor ti g b) := by
  refine PS.wk (ps_for hp hc hi hg hb hs) fun D σ H ⟨W, env, h, P, S, ht, c⟩ => ?_
  refine ⟨W, env, h, _, _, S, ht, ⟨fun W1 us env1 h1 J H1 l1 S1 wk q1 => ?_, c.ret.er⟩⟩
  refine ⟨fun i m σ' H' => m = us.length - i ∧ i ≤ us.length ∧ ∃ W' env' h', LeW W1 H1 W' H' ∧ Sim L.K W' env' h' σ' H' ∧ forU g b P (us.drop i) env' h', ⟨us.length, by simp, Nat.zero_le _, W1, env1, h1, .refl, S1, q1⟩, ?_⟩
  rintro i m σ' H' ⟨rfl, hi, W', env', h', l', S', q'⟩
  by_cases hlt : i < us.length
  · obtain ⟨go, yl⟩ := (wk W' H' l' i).2 us[i] (by simp [hlt])
    refine .inr ⟨go, fun σ2 H2 => ∃ W2 env2 h2, LeW W1 H1 W2 H2 ∧ Sim L.K W2 env2 h2 σ2 H2 ∧ forU g b P (us.drop (i + 1)) env2 h2, fun σ2 H2 ⟨W2, env2, h2, l2, S2, q2⟩ => ⟨us.length - (i + 1), by omega, rfl, hlt, W2, env2, h2, l2, S2, q2⟩, fun x H2 y => ?_⟩
    obtain ⟨l2, S2, rv⟩ := yl x H2 y
    rw [List.drop_eq_getElem_cons hlt] at q'
    refine ⟨W', env', h', _, _, S2 _ _ _ S', rv, q', fun env3 h3 σ3 S3 _ q3 => ?_⟩
    have l3 : LeW W H W' H2 := (l1.trans l').trans l2
    exact ⟨W', env3, h3, _, S3, q3, ⟨fun W4 env4 h4 σ4 H4 l4 S4 q4 => ⟨W4, env4, h4, (l'.trans l2).trans l4, S4, q4⟩, fun W4 env4 h4 σ4 H4 l4 S4 q4 => c.nx W4 env4 h4 σ4 H4 (l3.trans l4) S4 q4,
      fun W4 env4 h4 σ4 H4 l4 S4 q4 => ⟨W4, env4, h4, (l'.trans l2).trans l4, S4, q4⟩, (c.le l3).rt, (c.le l3).er⟩⟩
  · have e : i = us.length := by omega
    subst e
    refine .inl ⟨(wk W' H' l' _).1 (Nat.le_refl _), ?_⟩
    rw [List.drop_length] at q'
    exact c.nx W' env' h' σ' H' (l1.trans l') S' q'
theorem ws_while {t : Expr} {body : List Stmt} {tt : UT} {b : US} (hp : PassesOwn (model X.prog X.w) X.A X.env X.xe) (hc : WT X L t tt) (hb : WSs X L body b) : WS X L (.While t body [] pos) (uWhile tt b) := by
  refine PS.wk (ps_while hp hc hb) fun D σ H ⟨W, env, h, P, S, ⟨n, ht⟩, c⟩ => ?_
  refine ⟨fun m σ' H' => ∃ W' env' h', LeW W H W' H' ∧ Sim L.K W' env' h' σ' H' ∧ whileU tt b P m env' h', ⟨n, W, env, h, .refl, S, ht⟩, ?_⟩
  rintro m σ' H' ⟨W', env', h', l', S', q'⟩
  cases m with
  | zero => exact q'.elim
  | succ m =>
    refine ⟨W', env', h', _, _, S', q', ⟨fun W1 x env1 h1 y H1 l1 S1 r1 q1 => ?_, (c.le l').ret.er⟩⟩
    cases r1
    cases x with
    | false => exact c.nx W1 env1 h1 σ' H1 (l'.trans l1) S1 q1
    | true =>
      refine ⟨fun σ2 H2 => ∃ W2 env2 h2, LeW W H W2 H2 ∧ Sim L.K W2 env2 h2 σ2 H2 ∧ whileU tt b P m env2 h2, fun σ2 H2 z => ⟨m, Nat.lt_succ_self m, z⟩, ?_⟩
      have l2 := l'.trans l1
      exact ⟨W1, env1, h1, _, S1, q1, ⟨fun W4 env4 h4 σ4 H4 l4 S4 q4 => ⟨W4, env4, h4, l2.trans l4, S4, q4⟩, fun W4 env4 h4 σ4 H4 l4 S4 q4 => c.nx W4 env4 h4 σ4 H4 (l2.trans l4) S4 q4,
        fun W4 env4 h4 σ4 H4 l4 S4 q4 => ⟨W4, env4, h4, l2.trans l4, S4, q4⟩, (c.le l2).rt, (c.le l2).er⟩⟩
end

/-! ### a def's promise -/
abbrev FS := List U → Hv → (Sv → Hv → Prop) → (Ex → Hv → Prop) → Prop
structure FCont (K : PySem.W.Frag) (ga : Str → Addr) (W : Wd) (H : Hp) (Po : Sv → Hv → Prop) (Pe : Ex → Hv → Prop) (Q : VK) (E : XK) : Prop where
  ok : ∀ W' sv h' v H', LeW W H W' H' → SimH K W' h' H' → RSv K W' H' .tmp sv v → Po sv h' → Q v H'
  er : ∀ W' ex h' H' cls d, LeW W H W' H' → SimH K W' h' H' → ExR K ga W' H' ex cls d → Pe ex h' → E cls d H'
def spF (K : PySem.W.Frag) (ga : Str → Addr) (n : Nat) (f : FS) : Sp := fun vs H Q E => vs.length = n ∧ ∃ W us h Po Pe, SimH K W h H ∧ (∀ a k, W.own a ≠ some (Ow.slot k)) ∧ RVs K W H us vs ∧ f us h Po Pe ∧ FCont K ga W H Po Pe Q E
def Wd.clean (W : Wd) : Wd := ⟨fun a => match W.own a with
  | some (.slot _) => none
  | some .tmp => none
  | o => o, W.mp⟩
/-- the caller's slots given back -/
def Wd.back (W W1 : Wd) : Wd := ⟨fun a => match W.own a with
  | some (.slot k) => some (.slot k)
  | _ => (match W1.own a with
    | some (.slot _) => none
    | o => o), W1.mp⟩
section
variable {K : PySem.W.Frag} {W W1 : Wd} {H H1 : Hp} {h h1 : Hv} {env : En} {σ : L2.St}
theorem clean_frz {a : Addr} : W.clean.own a = some .frz ↔ W.own a = some .frz := by
  unfold Wd.clean
  show (match W.own a with | some (.slot _) => none | some .tmp => none | o => o) = _ ↔ _
  split <;> simp_all
theorem clean_obj {a : Addr} {i : Nat} : W.clean.own a = some (.obj i) ↔ W.own a = some (.obj i) := by
  show (match W.own a with | some (.slot _) => none | some .tmp => none | o => o) = _ ↔ _
  split <;> simp_all
theorem clean_none {a : Addr} (e : W.own a = none) : W.clean.own a = none := by
  show (match W.own a with | some (.slot _) => none | some .tmp => none | o => o) = _
  rw [e]
theorem clean_slot {a : Addr} {k : Nat} (e : W.own a = some (.slot k)) : W.clean.own a = none := by
  show (match W.own a with | some (.slot _) => none | some .tmp => none | o => o) = _
  rw [e]
theorem LeP.clean : LeP W H W.clean H := ⟨fun a o e n => ⟨clean_frz.mpr n, e⟩, fun _ _ e => e, fun _ _ _ e => e, ⟨[], by simp [Wd.clean]⟩, fun i a _ n => clean_obj.mpr n⟩
theorem SimH.clean (S : SimH K W h H) : SimH K W.clean h H where
  len := S.len
  objs := fun i o e => by
    obtain ⟨a, m, n, r⟩ := S.objs i o e
    refine ⟨a, m, clean_obj.mpr n, ?_⟩
    cases o with
    | lst us =>
      obtain ⟨vs, e1, rv⟩ := r
      exact ⟨vs, e1, rv.le LeP.clean⟩
  dom := fun a w e => by
    have : ∃ w', W.own a = some w' := by
      cases q : W.own a with
      | none => rw [clean_none q] at e; cases e
      | some w' => exact ⟨w', rfl⟩
    obtain ⟨w', e'⟩ := this
    exact S.dom a w' e'
theorem clean_noslot (a : Addr) (k : Nat) : W.clean.own a ≠ some (.slot k) := by
  show (match W.own a with | some (.slot _) => none | some .tmp => none | o => o) ≠ _
  split <;> simp_all
theorem back_slot {a : Addr} {k : Nat} (e : W.own a = some (.slot k)) : (W.back W1).own a = some (.slot k) := by
  show (match W.own a with | some (.slot k) => some (Ow.slot k) | _ => (match W1.own a with | some (.slot _) => none | o => o)) = _
  rw [e]
theorem back_else {a : Addr} (e : ∀ k, W.own a ≠ some (.slot k)) (e1 : ∀ k, W1.own a ≠ some (.slot k)) : (W.back W1).own a = W1.own a := by
  show (match W.own a with | some (.slot k) => some (Ow.slot k) | _ => (match W1.own a with | some (.slot _) => none | o => o)) = _
  split
  · rename_i k q; exact absurd q (e k)
  · split
    · rename_i k q; exact absurd q (e1 k)
    · rfl
/-- behind a call -/
theorem back_ok (S : Sim K W env h σ H) (l : LeW W.clean H W1 H1) (S1 : SimH K W1 h1 H1) : LeP W1 H1 (W.back W1) H1 ∧ LeW W H (W.back W1) H1 ∧ Sim K (W.back W1) env h1 σ H1 := by
  -- an address of a caller's slot is nobody's for the callee
  have ns : ∀ {a : Addr} {k : Nat}, W.own a = some (.slot k) → W1.own a = none := fun {a k} e => by
    obtain ⟨o, eo⟩ := S.sh.dom a _ e
    exact (l.st a o eo (clean_slot e)).1
  have own1 : ∀ {a} {w : Ow}, W1.own a = some w → (∀ k, w ≠ Ow.slot k) → (W.back W1).own a = some w := fun {a w} e hw => by
    rw [back_else (fun k q => by rw [ns q] at e; cases e) (fun k q => by rw [e] at q; cases q; exact hw k rfl)]
    exact e
  have p1 : LeP W1 H1 (W.back W1) H1 := ⟨fun a o e n => ⟨own1 n (fun _ z => by cases z), e⟩, fun _ _ e => e, fun _ _ _ e => e, ⟨[], by simp [Wd.back]⟩, fun i a _ n => own1 n (fun _ z => by cases z)⟩
  have le : LeW W H (W.back W1) H1 := by
    refine ⟨⟨fun a o e n => ?_, l.tp, l.fz, l.mp, fun i a m n => ?_⟩, fun a o e n => ?_⟩
    · obtain ⟨n1, e1⟩ := l.fr a o e (clean_frz.mpr n)
      exact ⟨own1 n1 (fun _ z => by cases z), e1⟩
    · exact own1 (l.ob i a m (clean_obj.mpr n)) (fun _ z => by cases z)
    · obtain ⟨n1, e1⟩ := l.st a o e (clean_none n)
      refine ⟨?_, e1⟩
      rw [back_else (fun k q => by rw [n] at q; cases q) (fun k q => by rw [n1] at q; cases q)]
      exact n1
  refine ⟨p1, le, ⟨⟨S1.len, fun i o e => ?_, fun a w e => ?_⟩, S.len, fun k sv e => ?_⟩⟩
  · obtain ⟨a, m, n, r⟩ := S1.objs i o e
    refine ⟨a, m, own1 n (fun _ z => by cases z), ?_⟩
    cases o with
    | lst us =>
      obtain ⟨vs, e1, rv⟩ := r
      exact ⟨vs, e1, rv.le p1⟩
  · by_cases z : ∃ k, W.own a = some (.slot k)
    · obtain ⟨k, z⟩ := z
      obtain ⟨o, eo⟩ := S.sh.dom a _ z
      exact ⟨o, (l.st a o eo (clean_slot z)).2⟩
    · by_cases z1 : ∃ k, W1.own a = some (.slot k)
      · obtain ⟨k, z1⟩ := z1
        exact S1.dom a _ z1
      · rw [back_else (fun k q => z ⟨k, q⟩) (fun k q => z1 ⟨k, q⟩)] at e
        exact S1.dom a w e
  · obtain ⟨v, e1, r⟩ := S.slots k sv e
    refine ⟨v, e1, ?_⟩
    cases sv with
    | val u => exact RV.le le.toLeP r
    | own us =>
      obtain ⟨a, vs, rfl, n, ea, rv⟩ := r
      exact ⟨a, vs, rfl, back_slot n, (l.st a _ ea (clean_slot n)).2, rv.le le.toLeP⟩
theorem RSv.back (p : LeP W1 H1 (W.back W1) H1) (S : Sim K W env h σ H) (l : LeW W.clean H W1 H1) {sv : Sv} {v : V} (r : RSv K W1 H1 .tmp sv v) : RSv K (W.back W1) H1 .tmp sv v := by
  cases sv with
  | val u => exact RV.le p r
  | own us =>
    obtain ⟨a, vs, rfl, n, ea, rv⟩ := r
    refine ⟨a, vs, rfl, ?_, ea, rv.le p⟩
    rw [back_else (fun k q => ?_) (fun k q => by rw [n] at q; cases q)]
    · exact n
    · obtain ⟨o, eo⟩ := S.sh.dom a _ q
      rw [(l.st a o eo (clean_slot q)).1] at n
      cases n
theorem ExR.le {ga : Str → Addr} {W W' : Wd} (p : LeP W H1 W' H1) {ex : Ex} {cls : Value} {d : Option Addr} (r : ExR K ga W H1 ex cls d) : ExR K ga W' H1 ex cls d :=
  ⟨r.1, r.2.1, fun f u e => let ⟨dd, v, e1, e2, rv⟩ := r.2.2 f u e; ⟨dd, v, e1, e2, rv.le p⟩⟩
end
/-- f(e, ..): D: the defaults that fill up -/
@[simp] def uCall (n : Nat) (f : FS) (D : List U) (t : UA) : UE := fun env h Po Pe => t env h (fun us env1 h1 => (us ++ D).length = n ∧ f (us ++ D) h1 (fun sv h2 => Po sv env1 h2) (fun ex h2 => Pe ex env1 h2)) Pe
section
variable {X : Cx} {L : Lx} {pos : Pos}
/-- the callee's promise, from what the caller knows -/
theorem sp_of {n : Nat} {f : FS} {W : Wd} {env : En} {h : Hv} {σ : L2.St} {H : Hp} {us : List U} {vs : List V} {Po : Sv → En → Hv → Prop} {Pe : Ex → En → Hv → Prop} {Q : VK} (S : Sim L.K W env h σ H) (r : RVs L.K W H us vs) (hn : vs.length = n)
    (hf : f us h (fun sv h2 => Po sv env h2) (fun ex h2 => Pe ex env h2)) (c : Cont L (RT L) W H σ Po Pe Q) : spF L.K L.ga n f vs H Q (fun cls d H' => L.wx cls d σ H') := by
  refine ⟨hn, W.clean, us, h, _, _, S.sh.clean, clean_noslot, r.le LeP.clean, hf, ⟨fun W1 sv h1 v H1 l S1 rv q => ?_, fun W1 ex h1 H1 cls d l S1 rx q => ?_⟩⟩
  · obtain ⟨p1, l1, S2⟩ := back_ok S l S1
    exact c.ok _ sv env h1 v H1 l1 S2 (RSv.back p1 S l rv) q
  · obtain ⟨p1, l1, S2⟩ := back_ok S l S1
    exact c.er _ ex env h1 H1 cls d l1 S2 (rx.le p1) q
/-- as FnOk, where no repr is under way around -/
structure FnG (P : Program) (w : World) (K : PySem.W.Frag) (mg : Str → Option Value) (base : Heap) (k : Nat) (f : Addr) (fd : FuncData) (ps : List Str) (sp : Sp) : Prop where
  len : ∀ vs H Q E, sp vs H Q E → vs.length = ps.length
  run : ∀ (A : Around) (outer : List Env) (s : Shared) (H : Hp) (args : Args) (us : List Value) (vs : List V) (Q : VK) (E : XK), Room k A → A.guards = some [] → Env0 P w K mg base A outer s H → BindsTo s fd args (ps.zip us) →
    Vals vs us → sp vs H Q E → codeAny (model P w) A (.call (.ref f) args) (CR (L2.CX P w) outer P w H s Q E) s
theorem FnG.mono {P : Program} {w : World} {K : PySem.W.Frag} {mg : Str → Option Value} {base : Heap} {j k : Nat} {f : Addr} {fd : FuncData} {ps : List Str} {sp : Sp} (F : FnG P w K mg base j f fd ps sp) (h : j ≤ k) : FnG P w K mg base k f fd ps sp :=
  ⟨F.len, fun A outer s H args us vs Q E hr => F.run A outer s H args us vs Q E (hr.mono h)⟩
section
variable {k : Nat} {f : Addr} {fd : FuncData} {ps : List Str} {sp : Sp} {dvs : List V} {ds : List Value} {E : L2.St → XK}
/-- the callee runs: args bind to all -/
theorem run_fnG {pins : List (Addr × Obj)} {σ : L2.St} {H : Hp} {s : Shared} {Q : VK} {args : Args} {all : List Value} {vs : List V} (F : FnG X.prog X.w X.K X.mg X.base k f fd ps sp) (hr : Room k X.A) (hgd : X.A.guards = some []) (hx : PassesAt (L2.CX X.prog X.w) X σ (E σ))
    (I : Inv X pins σ H s) (hb : all.length = ps.length → BindsTo s fd args (ps.zip all)) (r : Vals vs all) (h : sp vs H Q (E σ)) : codeAny (model X.prog X.w) X.A (.call (.ref f) args) (fun r s' => match r with
      | .ok (.ret u) => EP X pins σ Q u s'
      | .ok _ => False
      | .error e => X.xe e s') s := by
  have go := F.run X.A X.stack s H args all vs Q (E σ) hr hgd I.env0 (hb (r.length.symm.trans (F.len _ _ _ _ h))) r h
  refine codeAny_mono go fun res s2 q => ?_
  match res, q with
  | .error e, q => exact hx pins H s e s2 I q
  | .ok (.ret u), q => exact I.after q
  | .ok .next, q => exact q.elim
  | .ok .brk, q => exact q.elim
  | .ok .cont, q => exact q.elim
theorem pe_callG {x : Str} {p : Pos} {e : Expr} {es : List Expr} {t : TA} (F : FnG X.prog X.w X.K X.mg X.base k f fd ps sp) (hr : Room k X.A) (hgd : X.A.guards = some []) (hg : Gl X x) (hm : X.mg x = some (.ref f)) (hk : PySem.W.keepIn X.K (.ref f) = true) (hb : L2.Binds X.K fd ps ds)
    (hd : Vals dvs ds) (hx : ∀ σ, PassesAt (L2.CX X.prog X.w) X σ (E σ)) (ha : PA X (e :: es) t) (hdb : (x == ("__debug__" : Str)) = false := by decide) (he : starEach (e :: es) X.env = (false, eval e X.env) :: starEach es X.env := by rfl)
    (hpl : (backTo pos (starEach es X.env)).any (·.1) = false := by rfl) : PE X (.Call (.Name x p) (e :: es) [] pos) (tCallSD sp dvs E t) := by
  constructor
  intro pins s σ H Q I h
  apply wpAny_Call_Name_kw
  apply ld_glob I hg hm _ hdb
  refine PySem.W.callWith_K (h₀ := X.base) I.ok.mod.kin hk (thn (ha.run pos pins s σ H _ I h) fun us s1 z => ?_) he hpl
  obtain ⟨vs, H1, I1, r, q⟩ := z
  refine ⟨I1.kIn, wpAny_call (codeAny_mono (run_fnG (all := us ++ ds) F hr hgd (hx σ) I1 (fun hl => hb s1 us I1.kIn hl) (r.append hd) q) fun res s2 q2 => ?_)⟩
  match res, q2 with
  | .error e, q2 => exact q2
  | .ok (.ret u), q2 => exact q2
  | .ok .next, q2 => exact q2.elim
  | .ok .brk, q2 => exact q2.elim
  | .ok .cont, q2 => exact q2.elim
/-- f(e, .., k = v, ..), perhaps no positional one -/
theorem pe_callGK {n : Nat} {ks : List Str} {g : List Value → List Value → List Value} {gV : List V → List V → List V} {x : Str} {p : Pos} {e : Expr} {es : List Expr} {kws : List Keyword} {t tk : TA} (F : FnG X.prog X.w X.K X.mg X.base k f fd ps sp) (hr : Room k X.A) (hgd : X.A.guards = some []) (hg : Gl X x) (hm : X.mg x = some (.ref f))
    (hk : PySem.W.keepIn X.K (.ref f) = true) (hb : KBn X.K fd ps n ks g gV) (hx : ∀ σ, PassesAt (L2.CX X.prog X.w) X σ (E σ)) (ha : PA X (e :: es) t) (hkw : PK X kws tk) (hall : (backToKw pos (keywordEach kws X.env)).all (·.1.isSome) = true := by rfl)
    (hks : (backToKw pos (keywordEach kws X.env)).filterMap (·.1) = ks := by rfl) (hdb : (x == ("__debug__" : Str)) = false := by decide) (he : starEach (e :: es) X.env = (false, eval e X.env) :: starEach es X.env := by rfl)
    (hpl : ((backTo pos (starEach (e :: es) X.env)).any (·.1) || (backToKw pos (keywordEach kws X.env)).any (·.1.isNone)) = false := by rfl) :
    PE X (.Call (.Name x p) (e :: es) kws pos) (fun σ H Q => t σ H fun vs H1 => tk σ H1 fun zs H2 => vs.length = n ∧ zs.length = ks.length ∧ sp (gV vs zs) H2 Q (E σ)) := by
  constructor
  intro pins s σ H Q I h
  apply wpAny_Call_Name_kw
  apply ld_glob I hg hm _ hdb
  refine PySem.W.callWith_KW (h₀ := X.base) I.ok.mod.kin hk hall (thn (ha.run pos pins s σ H _ I h) fun us s1 z => ?_) hpl he
  obtain ⟨vs, H1, I1, r, q⟩ := z
  refine thn (hkw.run pos pins s1 σ H1 _ I1 q) fun ws s2 z2 => ?_
  obtain ⟨zs, H2, I2, rz, l1, l2, q2⟩ := z2
  refine ⟨I2.kIn, ?_⟩
  rw [hks]
  refine wpAny_call (codeAny_mono (run_fnG (all := g us ws) F hr hgd (hx σ) I2 (fun _ => hb.to s2 us ws I2.kIn (r.length.symm.trans l1) (rz.length.symm.trans l2)) (hb.rel r rz) q2) fun res s3 q3 => ?_)
  match res, q3 with
  | .error e, q3 => exact q3
  | .ok (.ret u), q3 => exact q3
  | .ok .next, q3 => exact q3.elim
  | .ok .brk, q3 => exact q3.elim
  | .ok .cont, q3 => exact q3.elim
theorem pe_callGK0 {ks : List Str} {g : List Value → List Value → List Value} {gV : List V → List V → List V} {x : Str} {p : Pos} {kws : List Keyword} {tk : TA} (F : FnG X.prog X.w X.K X.mg X.base k f fd ps sp) (hr : Room k X.A) (hgd : X.A.guards = some []) (hg : Gl X x) (hm : X.mg x = some (.ref f))
    (hk : PySem.W.keepIn X.K (.ref f) = true) (hb : KBn X.K fd ps 0 ks g gV) (hx : ∀ σ, PassesAt (L2.CX X.prog X.w) X σ (E σ)) (hkw : PK X kws tk) (hall : (backToKw pos (keywordEach kws X.env)).all (·.1.isSome) = true := by rfl)
    (hks : (backToKw pos (keywordEach kws X.env)).filterMap (·.1) = ks := by rfl) (hdb : (x == ("__debug__" : Str)) = false := by decide)
    (hpl : (backToKw pos (keywordEach kws X.env)).any (·.1.isNone) = false := by rfl) :
    PE X (.Call (.Name x p) [] kws pos) (fun σ H Q => tk σ H fun zs H2 => zs.length = ks.length ∧ sp (gV [] zs) H2 Q (E σ)) := by
  constructor
  intro pins s σ H Q I h
  apply wpAny_Call_Name_kw
  apply ld_glob I hg hm _ hdb
  refine PySem.W.callWith_KW0 (h₀ := X.base) I.ok.mod.kin hk hall (thn (hkw.run pos pins s σ H _ I h) fun ws s2 z2 => ?_) hpl
  obtain ⟨zs, H2, I2, rz, l2, q2⟩ := z2
  refine ⟨I2.kIn, ?_⟩
  rw [hks]
  refine wpAny_call (codeAny_mono (run_fnG (all := g [] ws) F hr hgd (hx σ) I2 (fun _ => hb.to s2 [] ws I2.kIn rfl (rz.length.symm.trans l2)) (hb.rel .nil rz) q2) fun res s3 q3 => ?_)
  match res, q3 with
  | .error e, q3 => exact q3
  | .ok (.ret u), q3 => exact q3
  | .ok .next, q3 => exact q3.elim
  | .ok .brk, q3 => exact q3.elim
  | .ok .cont, q3 => exact q3.elim
end
theorem we_call {k n : Nat} {fa : Addr} {fd : FuncData} {ps : List Str} {f : FS} {D : List U} {dvs : List V} {ds : List Value} {x : Str} {p : Pos} {e : Expr} {es : List Expr} {t : UA} (F : FnG X.prog X.w X.K X.mg X.base k fa fd ps (spF L.K L.ga n f)) (hr : Room k X.A) (hgd : X.A.guards = some []) (hg : Gl X x) (hm : X.mg x = some (.ref fa))
    (hk : PySem.W.keepIn X.K (.ref fa) = true) (hb : L2.Binds X.K fd ps ds) (hd : Vals dvs ds) (hD : ∀ W H, RVs L.K W H D dvs) (tk : Takes X L.wx) (ha : WA X L (e :: es) t)
    (hdb : (x == ("__debug__" : Str)) = false := by decide) (he : starEach (e :: es) X.env = (false, eval e X.env) :: starEach es X.env := by rfl) (hpl : (backTo pos (starEach es X.env)).any (·.1) = false := by rfl) : WE X L (.Call (.Name x p) (e :: es) [] pos) (uCall n f D t) := by
  refine PE.wk (pe_callG (E := fun σ cls d H => L.wx cls d σ H) F hr hgd hg hm hk hb hd (fun σ => passAt tk σ) ha hdb he hpl) fun σ H Q ⟨W, env, h, Po, Pe, S, ht, c⟩ => ?_
  refine ⟨W, env, h, _, _, S, ht, ⟨fun W1 us env1 h1 vs H1 l1 S1 r1 q1 => ?_, c.er⟩⟩
  have rr := RVs.append r1 (hD W1 H1)
  exact sp_of S1 rr (rr.length.symm.trans q1.1) q1.2 (c.le l1)
/-- keywords' values -/
def WK (X : Cx) (L : Lx) (kws : List Keyword) (t : UA) : Prop := PK X kws (lg L (RA L) t)
theorem PK.wk {kws : List Keyword} {t t' : TA} (h : PK X kws t) (w : ∀ σ H Q, t' σ H Q → t σ H Q) : PK X kws t' := ⟨fun p pins s σ H Q I q => h.run p pins s σ H Q I (w _ _ _ q)⟩
theorem wk_nil : WK X L [] uNil := PK.wk pk_nil fun σ H Q ⟨W, env, h, Po, Pe, S, ht, c⟩ => c.ok W [] env h [] H .refl S .nil ht
theorem wk_cons {e : Expr} {kws : List Keyword} {nm : Option Str} {kpos : Pos} {t : UE} {r : UA} (ha : WE X L e t) (hr : WK X L kws r) : WK X L (⟨nm, e, kpos⟩ :: kws) (uCons t r) := by
  refine PK.wk (pk_cons ha hr) fun σ H Q ⟨W, env, h, Po, Pe, S, ht, c⟩ => ?_
  refine ⟨W, env, h, _, _, S, ht, ⟨fun W1 x env1 h1 v1 H1 l1 S1 r1 q1 => ?_, c.er⟩⟩
  obtain ⟨W1', S1', l1', rv1⟩ := S1.freeze r1
  have c1 := c.le (l1.trans l1')
  exact ⟨W1', env1, h1, _, _, S1', q1, ⟨fun W2 xs env2 h2 vs H2 l2 S2 r2 q2 => c1.ok W2 _ env2 h2 _ H2 l2 S2 (.cons (rv1.le l2.toLeP) r2) q2, c1.er⟩⟩
/-- where each parameter comes from: a positional value, a keyword's, a default -/
inductive Src where
  | pos (i : Nat) | kw (i : Nat) | dfl (u : U)
def Src.u (us ws : List U) : Src → U
  | .pos i => us.getD i .non
  | .kw i => ws.getD i .non
  | .dfl u => u
/-- f(e, .., k = v, ..) -/
@[simp] def uCallK (n : Nat) (f : FS) (np nk : Nat) (g : List U → List U → List U) (t tk : UA) : UE := fun env h Po Pe => t env h (fun us env1 h1 => tk env1 h1 (fun ws env2 h2 => us.length = np ∧ ws.length = nk ∧ (g us ws).length = n ∧ f (g us ws) h2 (fun sv h3 => Po sv env2 h3) (fun ex h3 => Pe ex env2 h3)) Pe) Pe
theorem we_callK {k n np nk : Nat} {fa : Addr} {fd : FuncData} {ps ks : List Str} {f : FS} {g : List Value → List Value → List Value} {gV : List V → List V → List V} {gU : List U → List U → List U} {x : Str} {p : Pos} {e : Expr} {es : List Expr} {kws : List Keyword} {t tk : UA}
    (F : FnG X.prog X.w X.K X.mg X.base k fa fd ps (spF L.K L.ga n f)) (hr : Room k X.A) (hgd : X.A.guards = some []) (hg : Gl X x) (hm : X.mg x = some (.ref fa)) (hk : PySem.W.keepIn X.K (.ref fa) = true) (hb : KBn X.K fd ps np ks g gV)
    (hG : ∀ {W : Wd} {H : Hp} {us ws : List U} {vs zs : List V}, RVs L.K W H us vs → RVs L.K W H ws zs → us.length = np → ws.length = nk → RVs L.K W H (gU us ws) (gV vs zs)) (hnk : ks.length = nk) (tk' : Takes X L.wx) (ha : WA X L (e :: es) t) (hkw : WK X L kws tk)
    (hall : (backToKw pos (keywordEach kws X.env)).all (·.1.isSome) = true := by rfl)
    (hks : (backToKw pos (keywordEach kws X.env)).filterMap (·.1) = ks := by rfl) (hdb : (x == ("__debug__" : Str)) = false := by decide) (he : starEach (e :: es) X.env = (false, eval e X.env) :: starEach es X.env := by rfl)
    (hpl : ((backTo pos (starEach (e :: es) X.env)).any (·.1) || (backToKw pos (keywordEach kws X.env)).any (·.1.isNone)) = false := by rfl) :
    WE X L (.Call (.Name x p) (e :: es) kws pos) (uCallK n f np nk gU t tk) := by
  subst hnk
  refine PE.wk (pe_callGK (E := fun σ cls d H => L.wx cls d σ H) F hr hgd hg hm hk hb (fun σ => passAt tk' σ) ha hkw hall hks hdb he hpl) fun σ H Q ⟨W, env, h, Po, Pe, S, ht, c⟩ => ?_
  refine ⟨W, env, h, _, _, S, ht, ⟨fun W1 us env1 h1 vs H1 l1 S1 r1 q1 => ?_, c.er⟩⟩
  have c1 := c.le l1
  refine ⟨W1, env1, h1, _, _, S1, q1, ⟨fun W2 ws env2 h2 zs H2 l2 S2 r2 q2 => ?_, c1.er⟩⟩
  have r1' : RVs L.K W2 H2 us vs := RVs.le l2.toLeP r1
  have rr := hG r1' r2 q2.1 q2.2.1
  exact ⟨r1.length.symm.trans q2.1, r2.length.symm.trans q2.2.1, sp_of S2 rr (rr.length.symm.trans q2.2.2.1) q2.2.2.2 (c1.le l2)⟩
theorem we_callK0 {k n nk : Nat} {fa : Addr} {fd : FuncData} {ps ks : List Str} {f : FS} {g : List Value → List Value → List Value} {gV : List V → List V → List V} {gU : List U → List U → List U} {x : Str} {p : Pos} {kws : List Keyword} {tk : UA}
    (F : FnG X.prog X.w X.K X.mg X.base k fa fd ps (spF L.K L.ga n f)) (hr : Room k X.A) (hgd : X.A.guards = some []) (hg : Gl X x) (hm : X.mg x = some (.ref fa)) (hk : PySem.W.keepIn X.K (.ref fa) = true) (hb : KBn X.K fd ps 0 ks g gV)
    (hG : ∀ {W : Wd} {H : Hp} {us ws : List U} {vs zs : List V}, RVs L.K W H us vs → RVs L.K W H ws zs → us.length = 0 → ws.length = nk → RVs L.K W H (gU us ws) (gV vs zs)) (hnk : ks.length = nk) (tk' : Takes X L.wx) (hkw : WK X L kws tk)
    (hall : (backToKw pos (keywordEach kws X.env)).all (·.1.isSome) = true := by rfl)
    (hks : (backToKw pos (keywordEach kws X.env)).filterMap (·.1) = ks := by rfl) (hdb : (x == ("__debug__" : Str)) = false := by decide)
    (hpl : (backToKw pos (keywordEach kws X.env)).any (·.1.isNone) = false := by rfl) :
    WE X L (.Call (.Name x p) [] kws pos) (uCallK n f 0 nk gU uNil tk) := by
  subst hnk
  refine PE.wk (pe_callGK0 (E := fun σ cls d H => L.wx cls d σ H) F hr hgd hg hm hk hb (fun σ => passAt tk' σ) hkw hall hks hdb hpl) fun σ H Q ⟨W, env, h, Po, Pe, S, ht, c⟩ => ?_
  refine ⟨W, env, h, _, _, S, ht, ⟨fun W2 ws env2 h2 zs H2 l2 S2 r2 q2 => ?_, c.er⟩⟩
  have rr := hG .nil r2 rfl q2.2.1
  exact ⟨r2.length.symm.trans q2.2.1, sp_of S2 rr (rr.length.symm.trans q2.2.2.1) q2.2.2.2 (c.le l2)⟩
end

/-! ### a def keeps its promise -/
def startE (N : List Str) (us : List U) : En := us.map (fun u => some (.val u)) ++ List.replicate (N.length - us.length) none
theorem sim_start {K : PySem.W.Frag} {W : Wd} {h : Hv} {H : Hp} {N : List Str} {us : List U} {vs : List V} (S : SimH K W h H) (r : RVs K W H us vs) : Sim K W (startE N us) h (L2.start N vs) H := by
  have hl := r.length
  refine ⟨S, by simp [startE, L2.start, hl], fun k sv e => ?_⟩
  unfold startE at e
  by_cases hk : k < us.length
  · rw [List.getElem?_append_left (by simpa using hk), List.getElem?_map] at e
    obtain ⟨v, ev, rv⟩ := r.get (i := k) (u := us[k]) (by simp [hk])
    rw [show us[k]? = some us[k] by simp [hk]] at e
    cases e
    refine ⟨v, ?_, rv⟩
    unfold L2.start
    rw [List.getElem?_append_left (by simpa [hl] using hk), List.getElem?_map, ev]
    rfl
  · rw [List.getElem?_append_right (by simpa using hk), List.getElem?_replicate] at e
    split at e
    · cases e
    · cases e
/-- the body's ends, for the caller's wishes -/
abbrev bodyD (Po : Sv → Hv → Prop) (Pe : Ex → Hv → Prop) : UD := { nx := fun _ h' => Po (.val .non) h', rt := fun sv _ h' => Po sv h', er := fun ex _ h' => Pe ex h' }
theorem fn_ok {P : Program} {w : World} {K : PySem.W.Frag} {mg : Str → Option Value} {base : Heap} {ga : Str → Addr} {k : Nat} {fa : Addr} {fd : FuncData} {x qual : Str} {params : Arguments} {body : List Stmt} {scope : Scope} {dvs : List V} {kws : List (Str × V)} {N ps : List Str} {f : FS} {t : US}
    (F : FunD K x qual params body scope dvs kws fa fd) (S : FnScope N ps scope)
    (der : ∀ (cdv : Value) (A : Around) (outer : List Env) (s : Shared) (H : Hp) (E : XK), Room k (A.deeper (envOfC qual scope s.heap.objs.size fa cdv)) → A.guards = some [] →
      WSs (cxOf (L2.CX P w) P w K mg base N qual scope fa cdv A outer s H E) ⟨K, ga, fun cls d _ H => E cls d H⟩ body t)
    (conf : ∀ us h Po Pe, us.length = ps.length → f us h Po Pe → t (startE N us) h (bodyD Po Pe)) : FnG P w K mg base (k + 1) fa fd ps (spF K ga ps.length f) := by
  obtain ⟨oc, od, dV, kV, doc, pm, an, cdv, ct, osl, e, lk, hcd, _, _⟩ := F.ex
  subst e
  constructor
  · exact fun vs H Q E q => q.1
  intro A outer s H args us vs Q E hr hgd e0 hb r hsp
  have hl : vs.length = ps.length := hsp.1
  have inK : K.In s.heap := e0.mod.kin.keeps fun b o q => (e0.bs b o q).1
  have lim : s.heap.NoLimit := e0.mod.nolimit.keeps fun b o q => (e0.bs b o q).1
  have kinds : ∀ y ∈ ps.zip us, scope.names.lookup y.1 = some .local ∨ (scope.names.lookup y.1 = some .cell ∧ ((cellsFrom (s.heap.objs.size + 1) scope.names []).lookup y.1).isSome = true) := by
    intro y hy
    obtain ⟨n, v⟩ := y
    rcases S.par n (List.of_mem_zip hy).1 with q | q
    · exact .inl q
    · exact .inr ⟨q, PySem.W.cellsFrom_some _ _ _ (.inl q)⟩
  refine codeAny_call_function hr.depth (inK _ _ lk) rfl S.co S.gen rfl (PySem.W.codeRec_of inK hcd) (hb _ _ _ _ ?_)
  refine wpAny_newFunctionEnv_cells S.kind kinds fun env henv s1 x => ?_
  subst henv
  refine ⟨lim.keeps x.toInCall.keep, codeAny_func ?_⟩
  have D := der cdv A outer s H E (hr.deeper _) hgd
  have J : Inv (cxOf (L2.CX P w) P w K mg base N qual scope fa cdv A outer s H E) [] (L2.start N vs) H s1 := inv_start S hr.hd e0 hl r x
  obtain ⟨_, W, us', h, Po, Pe, SH, ns, rr, hf, fc⟩ := hsp
  have want : ls ⟨K, ga, fun cls d _ H => E cls d H⟩ t { nx := fun _ H' => Q .non H', rt := Q } (L2.start N vs) H := by
    refine ⟨W, startE N us', h, _, sim_start SH rr, conf us' h Po Pe (rr.length.trans hl) hf, ⟨fun W' env' h' σ' H' l S' q => fc.ok W' (.val .non) h' .non H' l S'.sh .non q, fun _ _ _ _ _ _ _ z => z.elim, fun _ _ _ _ _ _ _ z => z.elim,
      fun W' sv env' h' σ' v H' l S' rv q => fc.ok W' sv h' v H' l S'.sh rv q, fun W' ex env' h' σ' H' cls d l S' rx q => fc.er W' ex h' H' cls d l S'.sh rx q⟩⟩
  refine wpAny_mono (D.run [] s1 (L2.start N vs) H _ J want) (fun fl s2 q => ?_) fun e s2 q => q
  match fl, q with
  | .ret u, ⟨v, σ', H', J', rv, q⟩ => exact ⟨v, H', J'.os, J'.bare, J'.base, J'.hok, rv, q⟩
  | .next, ⟨σ', H', J', q⟩ => exact ⟨.non, H', J'.os, J'.bare, J'.base, J'.hok, rfl, q⟩
  | .brk, ⟨_, _, _, q⟩ => exact q.elim
  | .cont, ⟨_, _, _, q⟩ => exact q.elim
end Vi

/-! Vi4: operators and what is built in, by trees. -/
namespace Vi
open PySem PySem.Spec PyProof.Rows L2
section
variable {X : Cx} {K : PySem.W.Frag}
theorem OpR.wk {f : Value → Value → Sem Value} {r r' : R2} (h : OpR X f r) (w : ∀ x y H Q, r' x y H Q → r x y H Q) : OpR X f r' := fun pins s σ H x y v u Q I rx ry q => h pins s σ H x y v u Q I rx ry (w _ _ _ _ q)
theorem IxR.wk {r r' : R2} (h : IxR X r) (w : ∀ x y H Q, r' x y H Q → r x y H Q) : IxR X r' := fun a b pins s σ H x y v u Q I rx ry q hs => h a b pins s σ H x y v u Q I rx ry (w _ _ _ _ q) hs
theorem CallR.wk {f : Value} {r r' : List V → Hp → VK → Prop} (h : CallR X f r) (w : ∀ x H Q, r' x H Q → r x H Q) : CallR X f r' := fun pins s σ H x v Q I rx q => h pins s σ H x v Q I rx (w _ _ _ q)
theorem CallR.or {f : Value} {r r' : List V → Hp → VK → Prop} (h : CallR X f r) (h' : CallR X f r') : CallR X f (fun x H Q => r x H Q ∨ r' x H Q) := by
  intro pins s σ H x us Q I rx q
  rcases q with q | q
  · exact h pins s σ H x us Q I rx q
  · exact h' pins s σ H x us Q I rx q
theorem PSet.wk {r r' : TSet} (h : PSet X r) (w : ∀ o i v H Q, r' o i v H Q → r o i v H Q) : PSet X r' := fun pins s σ H o i v ov iv u Q I a b c q => h pins s σ H o i v ov iv u Q I a b c (w _ _ _ _ _ q)

/-- a plain value is given -/
theorem OCont.val {W : Wd} {H : Hp} {env : En} {h : Hv} {σ : L2.St} {P : Sv → Hv → Prop} {Q : VK} (c : OCont K W H env σ P Q) (S : Sim K W env h σ H) {u : U} {v : V} (r : RV K W H u v) (q : P (.val u) h) : Q v H := c W (.val u) h v H .refl S r q
/-- a new tuple is given -/
theorem OCont.tup {W : Wd} {H : Hp} {env : En} {h : Hv} {σ : L2.St} {P : Sv → Hv → Prop} {Q : VK} (c : OCont K W H env σ P Q) (S : Sim K W env h σ H) {us : List U} {vs : List V} (r : RVs K W H us vs) (q : P (.val (.tup us)) h) {p : Addr} (hp : H p = none) : Q (.ref p) (upd H p (.tup vs)) := by
  have l := LeW.none_ S.sh hp (.tup vs)
  exact c W (.val (.tup us)) h _ _ l (S.none_ hp _) (.tup (.inl upd_same) (r.le l.toLeP)) q
/-- a new list is given -/
theorem OCont.lst {W : Wd} {H : Hp} {env : En} {h : Hv} {σ : L2.St} {P : Sv → Hv → Prop} {Q : VK} (c : OCont K W H env σ P Q) (S : Sim K W env h σ H) {us : List U} {vs : List V} (r : RVs K W H us vs) (q : P (.own us) h) {p : Addr} (hp : H p = none) : Q (.ref p) (upd H p (.lst vs)) := by
  obtain ⟨S2, l⟩ := S.alloc hp (.lst vs) .tmp
  exact c _ (.own us) h _ _ l S2 ⟨p, vs, rfl, Wd.put_same, upd_same, r.le l.toLeP⟩ q

/-! ### + - * // % ** -/
@[simp] def bAdd : UO := fun u w h P => match u, w with
  | .int i, .int j => P (.val (.int (i + j))) h
  | .str x, .str y => x.length + y.length ≤ sizeLine ∧ P (.val (.str (x ++ y))) h
  | .tup a, .tup b => a.length + b.length ≤ sizeLine ∧ P (.val (.tup (a ++ b))) h
  | .lst a, .lst b => a.length + b.length ≤ sizeLine ∧ P (.own (a ++ b)) h
  | _, _ => False
theorem op_addU : OpR X (binaryOp .Add) (lo X.K bAdd) := by
  refine OpR.wk (op_add.or (op_add_str.or (op_catA.or op_cat))) fun x y H Q ⟨W, env, h, σ, u, w, P, S, ru, rw_, ht, c⟩ => ?_
  unfold bAdd at ht
  split at ht
  · cases ru; cases rw_
    exact .inl ⟨_, _, rfl, rfl, c.val S (.int _) ht⟩
  · cases ru; cases rw_
    exact .inr (.inl ⟨_, _, rfl, rfl, ht.1, c.val S (.str _) ht.2⟩)
  · rename_i a b
    have ru0 := ru
    have rw0 := rw_
    cases ru with
    | tup h1 r1 =>
      cases rw_ with
      | tup h2 r2 =>
        have e1 := r1.length
        have e2 := r2.length
        refine .inr (.inr (.inl ⟨_, _, _, _, rfl, rfl, h1.sq, h2.sq, by rw [← e1, ← e2]; exact ht.1, fun z => ?_, fun _ z => ?_, fun _ _ p hp => c.tup S (r1.append r2) ht.2 hp⟩))
        · have ea : a = [] := List.length_eq_zero_iff.mp (by rw [e1, z]; rfl)
          subst ea
          exact c.val S rw0 ht.2
        · have ea : b = [] := List.length_eq_zero_iff.mp (by rw [e2, z]; rfl)
          subst ea
          rw [List.append_nil] at ht
          exact c.val S ru0 ht.2
  · cases ru with
    | lst n1 h1 r1 =>
      cases rw_ with
      | lst n2 h2 r2 =>
        exact .inr (.inr (.inr ⟨_, _, _, _, rfl, rfl, h1, h2, by rw [← r1.length, ← r2.length]; exact ht.1, fun p hp => c.lst S (r1.append r2) ht.2 hp⟩))
  · exact ht.elim
/-- an operation of two ints -/
@[simp] def bInt2 (C : Int → Int → Prop) (g : Int → Int → Int) : UO := fun u w h P => match u, w with
  | .int i, .int j => C i j ∧ P (.val (.int (g i j))) h
  | _, _ => False
theorem op_int2 {f : Value → Value → Sem Value} {C : Int → Int → Prop} {g : Int → Int → Int} (ho : OpR X f (rI C fun i j => .int (g i j))) : OpR X f (lo X.K (bInt2 C g)) := by
  refine OpR.wk ho fun x y H Q ⟨W, env, h, σ, u, w, P, S, ru, rw_, ht, c⟩ => ?_
  unfold bInt2 at ht
  split at ht
  · cases ru; cases rw_
    exact ⟨_, _, rfl, rfl, ht.1, c.val S (.int _) ht.2⟩
  · exact ht.elim
@[simp] def bSub : UO := bInt2 (fun _ _ => True) fun i j => i - j
theorem op_subU : OpR X (binaryOp .Sub) (lo X.K bSub) := op_int2 (OpR.wk op_sub fun x y H Q ⟨i, j, a, b, _, q⟩ => ⟨i, j, a, b, q⟩)
@[simp] def bFdiv : UO := bInt2 CDivW fun i j => i / j
theorem op_fdivU : OpR X (binaryOp .FloorDiv) (lo X.K bFdiv) := op_int2 op_fdivW
@[simp] def bMod : UO := bInt2 (fun _ j => 0 < j) fun i j => i % j
theorem op_modU : OpR X (binaryOp .Mod) (lo X.K bMod) := op_int2 op_mod
@[simp] def bPow : UO := bInt2 CPow fun i j => i ^ j.toNat
theorem op_powU : OpR X (binaryOp .Pow) (lo X.K bPow) := op_int2 op_pow
@[simp] def bMul : UO := fun u w h P => match u, w with
  | .int i, .int j => (CMul i j ∨ CMulW i j) ∧ P (.val (.int (i * j))) h
  | .lst a, .int k => -(2 ^ 63) ≤ k ∧ k < 2 ^ 63 ∧ a.length * k.toNat ≤ sizeLine ∧ P (.own (List.replicate k.toNat a).flatten) h
  | _, _ => False
theorem RVs.rep {W : Wd} {H : Hp} {us : List U} {vs : List V} (r : RVs K W H us vs) : ∀ n : Nat, RVs K W H (List.replicate n us).flatten (List.replicate n vs).flatten
  | 0 => .nil
  | n + 1 => by
    rw [List.replicate_succ, List.replicate_succ, List.flatten_cons, List.flatten_cons]
    exact r.append (RVs.rep r n)
theorem op_mulU : OpR X (binaryOp .Mult) (lo X.K bMul) := by
  refine OpR.wk (op_mul.or (op_mulW.or op_rep)) fun x y H Q ⟨W, env, h, σ, u, w, P, S, ru, rw_, ht, c⟩ => ?_
  unfold bMul at ht
  split at ht
  · cases ru; cases rw_
    rcases ht with ⟨ht | ht, q⟩
    · exact .inl ⟨_, _, rfl, rfl, ht, c.val S (.int _) q⟩
    · exact .inr (.inl ⟨_, _, rfl, rfl, ht, c.val S (.int _) q⟩)
  · cases rw_
    cases ru with
    | lst n1 h1 r1 =>
      exact .inr (.inr ⟨_, _, _, rfl, rfl, h1, ht.1, ht.2.1, by rw [← r1.length]; exact ht.2.2.1, fun p hp => c.lst S (r1.rep _) ht.2.2.2 hp⟩)
  · exact ht.elim

/-! ### comparisons -/
@[simp] def bIntC (g : Int → Int → Bool) : UO := fun u w h P => match u, w with
  | .int i, .int j => P (.val (.bl (g i j))) h
  | _, _ => False
theorem op_intC {f : Value → Value → Sem Value} {g : Int → Int → Bool} (ho : OpR X f (rI0 fun i j => .bl (g i j))) : OpR X f (lo X.K (bIntC g)) := by
  refine OpR.wk ho fun x y H Q ⟨W, env, h, σ, u, w, P, S, ru, rw_, ht, c⟩ => ?_
  unfold bIntC at ht
  split at ht
  · cases ru; cases rw_
    exact ⟨_, _, rfl, rfl, c.val S (.bl _) ht⟩
  · exact ht.elim
@[simp] def bLt : UO := bIntC fun i j => decide (i < j)
@[simp] def bLe : UO := bIntC fun i j => decide (i ≤ j)
@[simp] def bGt : UO := bIntC fun i j => decide (j < i)
@[simp] def bGe : UO := bIntC fun i j => decide (j ≤ i)
theorem op_ltU : OpR X (compareOp .Lt) (lo X.K bLt) := op_intC op_lt
theorem op_leU : OpR X (compareOp .LtE) (lo X.K bLe) := op_intC op_le
theorem op_gtU : OpR X (compareOp .Gt) (lo X.K bGt) := op_intC op_gt
theorem op_geU : OpR X (compareOp .GtE) (lo X.K bGe) := op_intC op_ge
mutual
def toD : U → Option PyData
  | .non => some .none
  | .bl b => some (.bool b)
  | .int i => some (.int i)
  | .str x => some (.str x)
  | .tup us => (toDs us).map .tuple
  | .lst us => (toDs us).map .list
  | .scr ns => some (.list (ns.map .int))
  | _ => none
def toDs : List U → Option (List PyData)
  | [] => some []
  | u :: us => match toD u, toDs us with
    | some d, some ds => some (d :: ds)
    | _, _ => none
end
theorem DpAll.ints {H : Hp} : ∀ ns : List Int, DpAll K H (ns.map V.int) (ns.map PyData.int)
  | [] => .nil
  | n :: ns => .cons (.int n) (DpAll.ints ns)
mutual
theorem RV.dp {W : Wd} {H : Hp} : ∀ {u : U} {v : V} {d : PyData}, RV K W H u v → toD u = some d → Dp K H v d
  | _, _, _, .non, e => by cases e; exact .non
  | _, _, _, .bl b, e => by cases e; exact .bl b
  | _, _, _, .int b, e => by cases e; exact .int b
  | _, _, _, .str b, e => by cases e; exact .str b
  | _, _, _, .ty b, e => by cases e
  | _, _, _, .tup (us := us) h r, e => by
    unfold toD at e
    cases q : toDs us with
    | none => rw [q] at e; cases e
    | some ds =>
      rw [q] at e
      cases e
      exact .tup h.sq (RVs.dp r q)
  | _, _, _, .lst (us := us) n h r, e => by
    unfold toD at e
    cases q : toDs us with
    | none => rw [q] at e; cases e
    | some ds =>
      rw [q] at e
      cases e
      exact .lst (.inl (.inl h)) (RVs.dp r q)
  | _, _, _, .scr (ns := ns) h, e => by
    cases e
    exact .lst h.sq (DpAll.ints ns)
  | _, _, _, .ref _ _, e => by cases e
  | _, _, _, .err _ _, e => by cases e
  | _, _, _, .ecl _ _, e => by cases e
theorem RVs.dp {W : Wd} {H : Hp} : ∀ {us : List U} {vs : List V} {ds : List PyData}, RVs K W H us vs → toDs us = some ds → DpAll K H vs ds
  | _, _, _, .nil, e => by cases e; exact .nil
  | _, _, _, .cons (u := u) (us := us) a b, e => by
    unfold toDs at e
    cases q : toD u with
    | none => rw [q] at e; cases e
    | some d =>
      cases q2 : toDs us with
      | none => rw [q, q2] at e; cases e
      | some ds =>
        rw [q, q2] at e
        cases e
        exact .cons (RV.dp a q) (RVs.dp b q2)
end
/-- a scalar -/
def flatS : U → Option V
  | .non => some .non
  | .bl b => some (.bl b)
  | .int i => some (.int i)
  | .str x => some (.str x)
  | _ => none
/-- == of data of any depth -/
def eqD? (u w : U) : Option Bool := match toD u, toD w with
  | some d, some e => if SeqAt.shaped d && SeqAt.shaped e then some (PyData.eqv d e) else none
  | _, _ => none
/-- == -/
def eqU? : U → U → Option Bool
  | .str x, .str y => some (decide (x = y))
  | .int i, .int j => some (decide (i = j))
  | .bl i, .bl j => some (decide (i = j))
  | .str _, .non => some false
  | .non, .str _ => some false
  | u, w => eqD? u w
@[simp] def bEq : UO := fun u w h P => match eqU? u w with
  | some b => P (.val (.bl b)) h
  | none => False
@[simp] def bNe : UO := fun u w h P => match eqU? u w with
  | some b => P (.val (.bl (!b))) h
  | none => False
theorem eqD?_some {u w : U} {b : Bool} (h : eqD? u w = some b) : ∃ d e, toD u = some d ∧ toD w = some e ∧ SeqAt.shaped d = true ∧ SeqAt.shaped e = true ∧ b = PyData.eqv d e := by
  unfold eqD? at h
  split at h
  · rename_i d e h1 h2
    split at h
    · rename_i h3
      simp only [Bool.and_eq_true] at h3
      cases h
      exact ⟨d, e, h1, h2, h3.1, h3.2, rfl⟩
    · cases h
  · cases h
/-- by scalars, or by data -/
theorem eqU?_some {u w : U} {b : Bool} (h : eqU? u w = some b) : (∃ x y, flatS u = some x ∧ flatS w = some y ∧ scal x y = true ∧ b = decide (x = y)) ∨ ∃ d e, toD u = some d ∧ toD w = some e ∧ SeqAt.shaped d = true ∧ SeqAt.shaped e = true ∧ b = PyData.eqv d e := by
  unfold eqU? at h
  split at h
  · cases h; exact .inl ⟨_, _, rfl, rfl, rfl, by simp⟩
  · cases h; exact .inl ⟨_, _, rfl, rfl, rfl, by simp⟩
  · cases h; exact .inl ⟨_, _, rfl, rfl, rfl, by simp⟩
  · cases h; exact .inl ⟨_, _, rfl, rfl, rfl, by simp⟩
  · cases h; exact .inl ⟨_, _, rfl, rfl, rfl, by simp⟩
  · exact .inr (eqD?_some h)
theorem RV.flatS {W : Wd} {H : Hp} {u : U} {v w : V} (r : RV K W H u v) (e : Vi.flatS u = some w) : v = w := by
  cases r <;> first | (cases e; rfl) | cases e
theorem op_eqU (hu : X.A.units + 64 < cLine) : OpR X (compareOp .Eq) (lo X.K bEq) := by
  refine OpR.wk (op_eq.or (op_eqD hu)) fun x y H Q ⟨W, env, h, σ, u, w, P, S, ru, rw_, ht, c⟩ => ?_
  unfold bEq at ht
  split at ht
  · rename_i b eb
    rcases eqU?_some eb with ⟨x, y, h1, h2, h3, rfl⟩ | ⟨d, e, h1, h2, h3, h4, rfl⟩
    · cases ru.flatS h1
      cases rw_.flatS h2
      exact .inl ⟨h3, c.val S (.bl _) ht⟩
    · exact .inr ⟨d, e, ru.dp h1, rw_.dp h2, h3, h4, c.val S (.bl _) ht⟩
  · exact ht.elim
theorem op_neU (hu : X.A.units + 64 < cLine) : OpR X (compareOp .NotEq) (lo X.K bNe) := by
  refine OpR.wk (op_ne.or (op_neD hu)) fun x y H Q ⟨W, env, h, σ, u, w, P, S, ru, rw_, ht, c⟩ => ?_
  unfold bNe at ht
  split at ht
  · rename_i b eb
    rcases eqU?_some eb with ⟨x, y, h1, h2, h3, rfl⟩ | ⟨d, e, h1, h2, h3, h4, rfl⟩
    · cases ru.flatS h1
      cases rw_.flatS h2
      exact .inl ⟨h3, c.val S (.bl _) ht⟩
    · exact .inr ⟨d, e, ru.dp h1, rw_.dp h2, h3, h4, c.val S (.bl _) ht⟩
  · exact ht.elim
/-- a flat value -/
@[simp] def flatU : U → Option V
  | .non => some .non
  | .bl b => some (.bl b)
  | .int i => some (.int i)
  | .str x => some (.str x)
  | _ => none
@[simp] def flatUs : List U → Option (List V)
  | [] => some []
  | u :: us => match flatU u, flatUs us with
    | some v, some vs => some (v :: vs)
    | _, _ => none
theorem RV.flat {W : Wd} {H : Hp} {u : U} {v w : V} (r : RV K W H u v) (e : flatU u = some w) : v = w ∧ flatV v = true := by
  cases r <;> first | (cases e; exact ⟨rfl, rfl⟩) | cases e
theorem RVs.flat {W : Wd} {H : Hp} : ∀ {us : List U} {vs ws : List V}, RVs K W H us vs → flatUs us = some ws → vs = ws ∧ vs.all flatV = true
  | _, _, _, .nil, e => by cases e; exact ⟨rfl, rfl⟩
  | _, _, _, .cons (u := u) (us := us) a b, e => by
    unfold flatUs at e
    cases q : flatU u with
    | none => rw [q] at e; cases e
    | some v =>
      cases q2 : flatUs us with
      | none => rw [q, q2] at e; cases e
      | some vs =>
        rw [q, q2] at e
        cases e
        obtain ⟨h1, h2⟩ := a.flat q
        obtain ⟨h3, h4⟩ := RVs.flat b q2
        exact ⟨by rw [h1, h3], by rw [List.all_cons, h2, h4]; rfl⟩
@[simp] def seqU : U → Option (List U)
  | .tup us => some us
  | .lst us => some us
  | _ => none
/-- x in a list or tuple of flat values -/
def inU? (u w : U) : Option Bool := match flatU u, (seqU w).bind flatUs with
  | some v, some vs => some (inV v vs)
  | _, _ => none
@[simp] def bIn (neg : Bool) : UO := fun u w h P => match inU? u w with
  | some b => P (.val (.bl (if neg then !b else b))) h
  | none => False
theorem rIn_of {neg : Bool} {x y : V} {H : Hp} {Q : VK} (h : lo K (bIn neg) x y H Q) : rIn K neg x y H Q := by
  obtain ⟨W, env, h, σ, u, w, P, S, ru, rw_, ht, c⟩ := h
  unfold bIn at ht
  split at ht
  · rename_i b e
    unfold inU? at e
    split at e
    · rename_i v vs h1 h2
      cases e
      obtain ⟨ev, fv⟩ := ru.flat h1
      subst ev
      cases rw_ with
      | tup hq r =>
        obtain ⟨e2, f2⟩ := r.flat h2
        subst e2
        exact ⟨_, _, rfl, .inr hq.sq, fv, f2, c.val S (.bl _) ht⟩
      | lst n hq r =>
        obtain ⟨e2, f2⟩ := r.flat h2
        subst e2
        exact ⟨_, _, rfl, .inl (.inl (.inl hq)), fv, f2, c.val S (.bl _) ht⟩
      | _ => cases h2
    · cases e
  · exact ht.elim
theorem op_inU : OpR X (compareOp .In) (lo X.K (bIn false)) := OpR.wk op_in_seq fun _ _ _ _ => rIn_of
theorem op_notInU : OpR X (compareOp .NotIn) (lo X.K (bIn true)) := OpR.wk op_notIn_seq fun _ _ _ _ => rIn_of
/-- is None -/
@[simp] def isNon : U → Bool
  | .non => true
  | _ => false
@[simp] def bIsN (neg : Bool) : UO := fun u w h P => match w with
  | .non => P (.val (.bl (if neg then !isNon u else isNon u))) h
  | _ => False
theorem RV.isNon {W : Wd} {H : Hp} {u : U} {v : V} (r : RV K W H u v) : decide (v = .non) = Vi.isNon u := by
  cases r <;> rfl
theorem op_isNU : OpR X (compareOp .Is) (lo X.K (bIsN false)) := by
  refine OpR.wk op_isN fun x y H Q ⟨W, env, h, σ, u, w, P, S, ru, rw_, ht, c⟩ => ?_
  unfold bIsN at ht
  split at ht
  · refine ⟨rw_.non_, ?_⟩
    rw [ru.isNon]
    exact c.val S (.bl _) ht
  · exact ht.elim
theorem op_notNU : OpR X (compareOp .IsNot) (lo X.K (bIsN true)) := by
  refine OpR.wk op_notN fun x y H Q ⟨W, env, h, σ, u, w, P, S, ru, rw_, ht, c⟩ => ?_
  unfold bIsN at ht
  split at ht
  · refine ⟨rw_.non_, ?_⟩
    rw [ru.isNon]
    exact c.val S (.bl _) ht
  · exact ht.elim

/-! ### subscripts -/
def obL (h : Hv) (i : Nat) : Option (List U) := match h[i]? with
  | some (.lst us) => some us
  | _ => none
/-- a list's, a tuple's items as they stand -/
@[simp] def itemsAt (h : Hv) : U → Option (List U)
  | .tup us => some us
  | .lst us => some us
  | .scr ns => some (ns.map U.int)
  | .ref i => obL h i
  | _ => none
theorem obL_at {W : Wd} {H : Hp} {h : Hv} {i : Nat} {us : List U} {a : Addr} (S : SimH K W h H) (e : obL h i = some us) (m : W.mp[i]? = some a) : W.own a = some (.obj i) ∧ ∃ vs, H a = some (.lst vs) ∧ RVs K W H us vs := by
  unfold obL at e
  split at e
  · rename_i us' e1
    cases e
    obtain ⟨b, m1, n, vs, e2, r⟩ := S.objs i _ e1
    rw [m] at m1
    cases m1
    exact ⟨n, vs, e2, r⟩
  · cases e
theorem RV.items {W : Wd} {H : Hp} {h : Hv} {u : U} {v : V} {us : List U} (S : SimH K W h H) (r : RV K W H u v) (e : itemsAt h u = some us) : ∃ a vs, v = .ref a ∧ (SqL K H a vs ∨ SqT K H a vs) ∧ RVs K W H us vs := by
  cases r with
  | tup hq r => cases e; exact ⟨_, _, rfl, .inr hq.sq, r⟩
  | lst n hq r => cases e; exact ⟨_, _, rfl, .inl (.inl (.inl hq)), r⟩
  | scr hq => cases e; exact ⟨_, _, rfl, .inl hq.sq, RVs.ints _⟩
  | ref m n =>
    obtain ⟨_, vs, e2, r⟩ := obL_at S e m
    exact ⟨_, vs, rfl, .inl (.inl (.inl e2)), r⟩
  | _ => cases e
theorem RVs.atI {W : Wd} {H : Hp} {us : List U} {vs : List V} {i : Int} {u : U} (r : RVs K W H us vs) (e : L2.atI us i = some u) : ∃ v, L2.atI vs i = some v ∧ RV K W H u v := by
  unfold L2.atI at e ⊢
  rw [← r.length]
  cases q : ixN us.length i with
  | none => rw [q] at e; cases e
  | some j =>
    rw [q] at e
    exact r.get e
@[simp] def bIx : UO := fun u w h P => match w with
  | .int i => (match itemsAt h u with
    | some us => (match L2.atI us i with
      | some x => P (.val x) h
      | none => False)
    | none => (match u with
      | .str z => z.length ≤ sizeLine ∧ (match L2.atI z.cps.toList i with
        | some c => P (.val (.str ⟨#[c]⟩)) h
        | none => False)
      | _ => False))
  | _ => False
theorem ix_U : IxR X (lo X.K bIx) := by
  refine IxR.wk ix_seq fun x y H Q ⟨W, env, h, σ, u, w, P, S, ru, rw_, ht, c⟩ => ?_
  unfold bIx at ht
  split at ht
  · cases rw_
    split at ht
    · rename_i us e
      split at ht
      · rename_i z ez
        obtain ⟨a, vs, rfl, hq, r⟩ := ru.items S.sh e
        obtain ⟨v, ev, rv⟩ := r.atI ez
        rcases hq with hq | hq
        · exact .inl ⟨a, vs, _, v, rfl, rfl, hq, ev, c.val S rv ht⟩
        · exact .inr (.inl ⟨a, vs, _, v, rfl, rfl, hq, ev, c.val S rv ht⟩)
      · exact ht.elim
    · split at ht
      · rename_i z _
        obtain ⟨hz, ht⟩ := ht
        split at ht
        · rename_i cc ec
          cases ru
          exact .inr (.inr ⟨z, _, cc, rfl, rfl, hz, ec, c.val S (.str _) ht⟩)
        · exact ht.elim
      · exact ht.elim
  · exact ht.elim
end
end Vi

/-! Vi5: lists that change, slices, what is built in, comprehensions. -/
namespace Vi
open PySem PySem.Spec PyProof.Rows L2

/-! ### a list at its owner changes -/
section
variable {K : PySem.W.Frag} {W : Wd} {H : Hp} {h : Hv} {env : En} {σ : L2.St}
/-- what stands at a changes, its owner stays -/
theorem SimH.upd_ {a : Addr} {w : Ow} {vs vs' : List V} (S : SimH K W h H) (n : W.own a = some w) (hf : w ≠ .frz) (ea : H a = some (.lst vs)) : LeW W H W (upd H a (.lst vs')) := by
  have ne : ∀ b o, H b = some o → (∀ z, o ≠ .lst z) → b ≠ a := fun b o e z q => by subst q; rw [ea] at e; cases e; exact z _ rfl
  refine ⟨⟨fun b o e f => ⟨f, ?_⟩, fun b u e => ?_, fun b o u e => ?_, ⟨[], by simp⟩, fun _ _ _ f => f⟩, fun b o e f => ⟨f, ?_⟩⟩
  · rw [upd_ne (fun q => by subst q; rw [n] at f; cases f; exact hf rfl)]; exact e
  · rw [upd_ne (ne b _ e (fun z q => by cases q))]; exact e
  · rw [upd_ne (ne b _ e (fun z q => by cases q))]; exact e
  · rw [upd_ne (fun q => by subst q; rw [n] at f; cases f)]; exact e
theorem Sim.upd_slot {k : Nat} {us us' : List U} {vs' : List V} {a : Addr} (S : Sim K W env h σ H) (e : env[k]? = some (some (.own us))) (ev : σ[k]? = some (some (.ref a))) (r' : RVs K W H us' vs') :
    Sim K W (env.set k (some (.own us'))) h σ (upd H a (.lst vs')) ∧ LeW W H W (upd H a (.lst vs')) := by
  obtain ⟨v, e1, b, vs, e2, n, ea, rv⟩ := S.slots k _ e
  rw [ev] at e1
  cases e1
  cases e2
  have l : LeW W H W (upd H a (.lst vs')) := S.sh.upd_ n (fun z => by cases z) ea
  have hk : k < env.length := (List.getElem?_eq_some_iff.mp e).1
  refine ⟨⟨⟨S.sh.len, fun i o eo => ?_, fun b w eb => ?_⟩, by simpa using S.len, fun j sv ej => ?_⟩, l⟩
  · obtain ⟨b, m, nb, ro⟩ := S.sh.objs i o eo
    refine ⟨b, m, nb, ?_⟩
    cases o with
    | lst us2 =>
      obtain ⟨vs2, e3, r3⟩ := ro
      exact ⟨vs2, by rw [upd_ne (fun q => by subst q; rw [n] at nb; cases nb)]; exact e3, r3.le l.toLeP⟩
  · by_cases z : b = a
    · subst z; exact ⟨_, upd_same⟩
    · rw [upd_ne z]; exact S.sh.dom b w eb
  · by_cases z : j = k
    · subst z
      rw [List.getElem?_set_self hk] at ej
      cases ej
      exact ⟨_, ev, a, vs', rfl, n, upd_same, r'.le l.toLeP⟩
    · rw [List.getElem?_set_ne (Ne.symm z)] at ej
      obtain ⟨v, e3, r3⟩ := S.slots j sv ej
      refine ⟨v, e3, ?_⟩
      cases sv with
      | val u => exact RV.le l.toLeP r3
      | own us2 =>
        obtain ⟨b, vs2, rfl, nb, eb, rb⟩ := r3
        have ne : b ≠ a := fun q => by
          subst q
          rw [n] at nb
          cases nb
          exact z rfl
        exact ⟨b, vs2, rfl, nb, by rw [upd_ne ne]; exact eb, rb.le l.toLeP⟩
theorem Sim.upd_obj {i : Nat} {us us' : List U} {vs' : List V} {a : Addr} (S : Sim K W env h σ H) (e : obL h i = some us) (m : W.mp[i]? = some a) (r' : RVs K W H us' vs') :
    Sim K W env (h.set i (.lst us')) σ (upd H a (.lst vs')) ∧ LeW W H W (upd H a (.lst vs')) := by
  obtain ⟨n, vs, ea, rv⟩ := obL_at S.sh e m
  have l : LeW W H W (upd H a (.lst vs')) := S.sh.upd_ n (fun z => by cases z) ea
  have hi : i < h.length := by
    unfold obL at e
    split at e
    · rename_i e1; exact (List.getElem?_eq_some_iff.mp e1).1
    · cases e
  refine ⟨⟨⟨by simpa using S.sh.len, fun j o eo => ?_, fun b w eb => ?_⟩, S.len, fun j sv ej => ?_⟩, l⟩
  · by_cases z : j = i
    · subst z
      rw [List.getElem?_set_self hi] at eo
      cases eo
      exact ⟨a, m, n, vs', upd_same, r'.le l.toLeP⟩
    · rw [List.getElem?_set_ne (Ne.symm z)] at eo
      obtain ⟨b, mb, nb, ro⟩ := S.sh.objs j o eo
      have ne : b ≠ a := fun q => by
        subst q
        rw [n] at nb
        cases nb
        exact z rfl
      refine ⟨b, mb, nb, ?_⟩
      cases o with
      | lst us2 =>
        obtain ⟨vs2, e3, r3⟩ := ro
        exact ⟨vs2, by rw [upd_ne ne]; exact e3, r3.le l.toLeP⟩
  · by_cases z : b = a
    · subst z; exact ⟨_, upd_same⟩
    · rw [upd_ne z]; exact S.sh.dom b w eb
  · obtain ⟨v, e3, r3⟩ := S.slots j sv ej
    refine ⟨v, e3, ?_⟩
    cases sv with
    | val u => exact RV.le l.toLeP r3
    | own us2 =>
      obtain ⟨b, vs2, rfl, nb, eb, rb⟩ := r3
      exact ⟨b, vs2, rfl, nb, by rw [upd_ne (fun q => by subst q; rw [n] at nb; cases nb)]; exact eb, rb.le l.toLeP⟩
theorem Sim.own_at {k : Nat} {us : List U} (S : Sim K W env h σ H) (e : env[k]? = some (some (.own us))) : ∃ a vs, σ[k]? = some (some (.ref a)) ∧ H a = some (.lst vs) ∧ RVs K W H us vs := by
  obtain ⟨v, e1, a, vs, rfl, n, ea, rv⟩ := S.slots k _ e
  exact ⟨a, vs, e1, ea, rv⟩
end

/-! ### methods of a list that a name owns -/
abbrev UMt := List U → List U → (U → List U → Prop) → Prop
@[simp] def uMt (k : Nat) (f : UMt) (t : UA) : UE := fun env h Po Pe => (∃ us, env[k]? = some (some (.own us))) ∧ t env h (fun args env1 h1 => match env1[k]? with
  | some (some (.own us)) => f us args fun u us' => Po (.val u) (env1.set k (some (.own us'))) h1
  | _ => False) Pe
/-- the method's rule, by trees -/
def MtU (X : Cx) (id : String) (f : UMt) : Prop := MtR X id fun x vs H Q => ∃ K W us args a xs, x = .ref a ∧ H a = some (.lst xs) ∧ RVs K W H us xs ∧ RVs K W H args vs ∧ ∃ P, f us args P ∧ ∀ u us' v vs', RV K W H u v → RVs K W H us' vs' → P u us' → Q v (upd H a (.lst vs'))
section
variable {X : Cx} {L : Lx}
theorem we_mt {k : Nat} {f : UMt} {e : Expr} {es : List Expr} {x name : Str} {p apos cpos : Pos} {t : UA} {id : String} (hK : L.K = X.K) (slot : Slot "list" name id) (hty : typeOf (.builtin id) = pure (.type "method_descriptor")) (hm : MtU X id f)
    (hx : PE X (.Name x p) (tVar k)) (ha : WA X L (e :: es) t)
    (hbase : attributeBase (.Name x p) name X.env (eval (.Name x p) X.env) = eval (.Name x p) X.env := by rfl)
    (hfew : ((backTo cpos (starEach (e :: es) X.env)).all (fun x => !x.1) && (backToKw cpos (keywordEach [] X.env)).all (fun x => x.1.isSome) && decide ((e :: es).length + ([] : List Keyword).length + (if ([] : List Keyword).isEmpty then 0 else 1) < 30)) = true := by rfl)
    (hline : (apos.endLine == cpos.line) = true := by rfl) (hs : starEach (e :: es) X.env = (false, eval e X.env) :: starEach es X.env := by rfl) (hplain : (backTo cpos (starEach es X.env)).any (·.1) = false := by rfl) :
    WE X L (.Call (.Attribute (.Name x p) name apos) (e :: es) [] cpos) (uMt k f t) := by
  refine PE.wk (pe_bm PySem.F.plainAttrs_list slot hty hm hx ha hbase hfew hline hs hplain) fun σ H Q ⟨W, env, h, Po, Pe, S, ⟨⟨us0, e0⟩, ht⟩, c⟩ => ?_
  obtain ⟨a, vs0, ev, ea, _⟩ := S.own_at e0
  refine ⟨_, ev, .inl ⟨rfl, vs0, .inl (.inl ea)⟩, W, env, h, _, _, S, ht, ⟨fun W1 args env1 h1 avs H1 l1 S1 r1 q1 => ?_, c.er⟩⟩
  split at q1
  · rename_i us e1
    obtain ⟨b, vs, ev1, eb, rv⟩ := S1.own_at e1
    rw [ev] at ev1
    cases ev1
    refine ⟨L.K, W1, us, args, a, vs, rfl, eb, rv, r1, _, q1, fun u us' v vs' ru rus q => ?_⟩
    obtain ⟨S2, l2⟩ := S1.upd_slot e1 ev rus
    exact c.ok W1 (.val u) _ h1 v _ (l1.trans l2) S2 (RV.le l2.toLeP ru) q
  · exact q1.elim
theorem we_mt0 {k : Nat} {f : UMt} {x name : Str} {p apos cpos : Pos} {id : String} (hK : L.K = X.K) (slot : Slot "list" name id) (hty : typeOf (.builtin id) = pure (.type "method_descriptor")) (hm : MtU X id f)
    (hx : PE X (.Name x p) (tVar k))
    (hbase : attributeBase (.Name x p) name X.env (eval (.Name x p) X.env) = eval (.Name x p) X.env := by rfl)
    (hline : (apos.endLine == cpos.line) = true := by rfl) :
    WE X L (.Call (.Attribute (.Name x p) name apos) [] [] cpos) (uMt k f uNil) := by
  refine PE.wk (pe_bm0 PySem.F.plainAttrs_list slot hty hm hx hbase hline) fun σ H Q ⟨W, env, h, Po, Pe, S, ⟨⟨us0, e0⟩, q1⟩, c⟩ => ?_
  obtain ⟨a, vs0, ev, ea, rv⟩ := S.own_at e0
  refine ⟨_, ev, .inl ⟨rfl, vs0, .inl (.inl ea)⟩, ?_⟩
  have q2 : f us0 [] fun u us' => Po (.val u) (env.set k (some (.own us'))) h := by
    have q3 := q1
    unfold uNil at q3
    simp only [e0] at q3
    exact q3
  refine ⟨L.K, W, us0, [], a, vs0, rfl, ea, rv, .nil, _, q2, fun u us' v vs' ru rus q => ?_⟩
  obtain ⟨S2, l2⟩ := S.upd_slot e0 ev rus
  exact c.ok W (.val u) _ h v _ l2 S2 (RV.le l2.toLeP ru) q
@[simp] def fAppend : UMt := fun us args P => match args with
  | [u] => us.length < sizeLine ∧ P .non (us ++ [u])
  | _ => False
theorem mtU_append : MtU X "list.append" fAppend := by
  intro pins s σ H x xs v us Q I rx rs q
  obtain ⟨K, W, as, args, a, ys, rfl, ea, rv, ra, P, hf, c⟩ := q
  unfold fAppend at hf
  split at hf
  · obtain ⟨y, rfl, ry⟩ := RVs.one ra
    exact mt_append pins s σ H _ _ v us Q I rx rs ⟨a, ys, y, rfl, rfl, ea, by rw [← rv.length]; exact hf.1, c _ _ _ _ .non (rv.append (.cons ry .nil)) hf.2⟩
  · exact hf.elim
@[simp] def fInsert : UMt := fun us args P => match args with
  | [.int i, u] => us.length < sizeLine ∧ 0 ≤ i ∧ i < 2 ^ 63 ∧ P .non (us.take i.toNat ++ [u] ++ us.drop i.toNat)
  | _ => False
theorem mtU_insert : MtU X "list.insert" fInsert := by
  intro pins s σ H x xs v us Q I rx rs q
  obtain ⟨K, W, as, args, a, ys, rfl, ea, rv, ra, P, hf, c⟩ := q
  unfold fInsert at hf
  split at hf
  · obtain ⟨y, z, rfl, ry, rz⟩ := RVs.two ra
    cases ry.int_
    exact mt_insert pins s σ H _ _ v us Q I rx rs ⟨a, ys, _, z, rfl, rfl, ea, by rw [← rv.length]; exact hf.1, hf.2.1, hf.2.2.1, c _ _ _ _ .non (((rv.take _).append (.cons rz .nil)).append (rv.drop _)) hf.2.2.2⟩
  · exact hf.elim
end

/-! ### x[i] = e -/
/-- a list that a name owns, or a shared one -/
@[simp] def setAt (k : Nat) (i : U) (u : U) (env : En) (h : Hv) (Q : En → Hv → Prop) : Prop := match i, env[k]? with
  | .int i, some (some (.own us)) => (match ixN us.length i with
    | some j => Q (env.set k (some (.own (us.set j u)))) h
    | none => False)
  | .int i, some (some (.val (.ref r))) => (match obL h r with
    | some us => (match ixN us.length i with
      | some j => Q env (h.set r (.lst (us.set j u)))
      | none => False)
    | none => False)
  | _, _ => False
@[simp] def uSetIx (k : Nat) (ti te : UE) : US := fun env h P => te env h (fun sv env1 h1 => (∃ x, env1[k]? = some (some x)) ∧ ti env1 h1 (fun iv env2 h2 => setAt k iv.u sv.u env2 h2 P.nx) P.er) P.er
section
variable {X : Cx} {L : Lx}
/-- the store, by values -/
theorem setAt_ok {k : Nat} {i u : U} {W : Wd} {env : En} {h : Hv} {σ : L2.St} {H : Hp} {iv y : V} {P : En → Hv → Prop} (S : Sim L.K W env h σ H) (ri : RV L.K W H i iv) (ru : RV L.K W H u y) (q : setAt k i u env h P) :
    ∃ a xs z j, σ[k]? = some (some (.ref a)) ∧ iv = .int z ∧ H a = some (.lst xs) ∧ ixN xs.length z = some j ∧ ∃ env' h', Sim L.K W env' h' σ (upd H a (.lst (xs.set j y))) ∧ LeW W H W (upd H a (.lst (xs.set j y))) ∧ P env' h' := by
  unfold setAt at q
  split at q
  · rename_i z us e
    obtain ⟨a, vs, ev, ea, rv⟩ := S.own_at e
    split at q
    · rename_i j ej
      cases ri.int_
      obtain ⟨S2, l2⟩ := S.upd_slot e ev (rv.set ru j)
      exact ⟨a, vs, _, j, ev, rfl, ea, by rw [← rv.length]; exact ej, _, _, S2, l2, q⟩
    · exact q.elim
  · rename_i z r e
    obtain ⟨v, ev, rr⟩ := S.slots k _ e
    cases ri.int_
    split at q
    · rename_i us eo
      split at q
      · rename_i j ej
        cases rr with
        | ref m n =>
          obtain ⟨_, vs, ea, rv⟩ := obL_at S.sh eo m
          obtain ⟨S2, l2⟩ := S.upd_obj eo m (rv.set ru j)
          exact ⟨_, vs, _, j, ev, rfl, ea, by rw [← rv.length]; exact ej, _, _, S2, l2, q⟩
      · exact q.elim
    · exact q.elim
  · exact q.elim
theorem ws_setIx {k : Nat} {x : Str} {p pos pos' : Pos} {i e : Expr} {ti te : UE} (he : WE X L e te) (hx : PE X (.Name x p) (tVar k)) (hi : WE X L i ti) (hs : swapsWithSole [.Subscript (.Name x p) i pos'] e pos.line X.env = pure false := by rfl)
    (hw : swappedStores [.Subscript (.Name x p) i pos'] e X.env = pure none := by rfl) (h1 : (assignEach [.Subscript (.Name x p) i pos'] X.env).map (·.2) = [assign (.Subscript (.Name x p) i pos') X.env] := by rfl)
    (hsub : ∀ v, assign (.Subscript (.Name x p) i pos') X.env v = (do
      let ov ← holding [v] (eval (.Name x p) X.env)
      let iv ← holding [v, ov] (eval i X.env)
      standAt pos'
      holding [v, ov, iv] (setItem ov iv v)
      release [v, ov, iv] []) := by intro _; rfl) : WS X L (.Assign [.Subscript (.Name x p) i pos'] e pos) (uSetIx k ti te) := by
  refine PS.wk (ps_asg he (pg_sub hx hi set_list hsub) hs hw h1) fun D σ H ⟨W, env, h, P, S, ht, c⟩ => ?_
  refine ⟨W, env, h, _, _, S, ht, ⟨fun W1 sv env1 h1 y H1 l1 S1 r1 q1 => ?_, c.ret.er⟩⟩
  obtain ⟨W1', S1', l1', rv1⟩ := S1.freeze r1
  have c1 := c.le (l1.trans l1')
  obtain ⟨⟨x0, e0⟩, q1⟩ := q1
  obtain ⟨v, ev, _⟩ := S1'.slots k x0 e0
  refine ⟨v, ev, W1', env1, h1, _, _, S1', q1, ⟨fun W2 iv env2 h2 z H2 l2 S2 r2 q2 => ?_, c1.ret.er⟩⟩
  obtain ⟨W2', S2', l2', rv2⟩ := S2.freeze r2
  obtain ⟨a, xs, n, j, ev2, e3, ea, ej, env', h', S3, l3, q3⟩ := setAt_ok S2' rv2 (rv1.le (l2.trans l2').toLeP) q2
  rw [ev] at ev2
  cases ev2
  exact ⟨a, xs, n, j, rfl, e3, ea, ej, c1.nx W2' env' h' σ _ ((l2.trans l2').trans l3) S3 q3⟩
/-- x[i] += e, x a shared list -/
@[simp] def getAt (k : Nat) (i : U) (env : En) (h : Hv) (Q : U → Prop) : Prop := match i, env[k]? with
  | .int i, some (some (.own us)) => (match L2.atI us i with
    | some u => Q u
    | none => False)
  | .int i, some (some (.val (.ref r))) => (match obL h r with
    | some us => (match L2.atI us i with
      | some u => Q u
      | none => False)
    | none => False)
  | _, _ => False
theorem get_list : PGet X (rIxL X.K) := by
  intro pins s σ H o i ov iv Q I ro ri q
  obtain ⟨a, xs, n, y, rfl, rfl, hq, hy, q⟩ := q
  cases ro
  obtain ⟨t, rfl⟩ := ri
  obtain ⟨its, rv, pl, hz⟩ := I.list hq
  obtain ⟨j, g1, g2, g3, g4, g5⟩ := atI_get hy
  obtain ⟨w, ew, rw'⟩ := rv.get g2
  have hl := rv.length
  have hn := line63
  by_cases h0 : 0 ≤ n
  · have hj : n.toNat = j := Option.some.inj ((seqIndex_of h0 g5).symm.trans g1)
    exact wpAny_getItem_list pl.isList h0 (by omega) (x := w) (by rw [hj]; simpa using ew) ⟨y, H, I, rw', q⟩
  · have hj : (n + (its.toArray.size : Int)).toNat = j := by
      have g1' := g1
      rw [seqIndex_neg (by omega) g4] at g1'
      rw [List.size_toArray, ← hl]
      exact Option.some.inj g1'
    exact wpAny_getItem_list_neg pl.isList (by omega) (by rw [List.size_toArray]; omega) (by omega) (x := w) (by rw [hj]; simpa using ew) ⟨y, H, I, rw', q⟩
/-- an operator in its in-place form, by trees -/
def IpU (X : Cx) (op : Operator) (f : UO) : Prop := PIp X op (lo X.K f)
theorem ip_addU : IpU X .Add (bInt2 (fun _ _ => True) fun i j => i + j) := by
  intro pins s σ H x y v u Q I rx ry q
  obtain ⟨W, env, h, σ', a, b, P, S, ra, rb, ht, c⟩ := q
  unfold bInt2 at ht
  split at ht
  · cases ra; cases rb
    exact ip_add pins s σ H _ _ v u Q I rx ry ⟨_, _, rfl, rfl, c.val S (.int _) ht.2⟩
  · exact ht.elim
theorem ip_subU : IpU X .Sub bSub := by
  intro pins s σ H x y v u Q I rx ry q
  obtain ⟨W, env, h, σ', a, b, P, S, ra, rb, ht, c⟩ := q
  unfold bSub bInt2 at ht
  split at ht
  · cases ra; cases rb
    exact ip_sub pins s σ H _ _ v u Q I rx ry ⟨_, _, rfl, rfl, c.val S (.int _) ht.2⟩
  · exact ht.elim
@[simp] def uAug (k : Nat) (f : UO) (te : UE) : US := fun env h P => match env[k]? with
  | some (some (.val u)) => te env h (fun sv env1 h1 => f u sv.u h1 fun z h2 => k < env1.length ∧ P.nx (env1.set k (some (.val z.u))) h2) P.er
  | _ => False
theorem ws_aug {k : Nat} {x : Str} {pos pos' : Pos} {e : Expr} {te : UE} {op : Operator} {f : UO} (hp : PS X (.AugAssign (.Name x pos') op e pos) (tAug k (lg L (RT L) te) (lo X.K f))) (hK : L.K = X.K) : WS X L (.AugAssign (.Name x pos') op e pos) (uAug k f te) := by
  refine PS.wk hp fun D σ H ⟨W, env, h, P, S, ht, c⟩ => ?_
  unfold uAug at ht
  split at ht
  · rename_i u e0
    obtain ⟨v, ev, rv⟩ := S.slots k _ e0
    refine ⟨v, ev, W, env, h, _, _, S, ht, ⟨fun W1 sv env1 h1 y H1 l1 S1 r1 q1 => ?_, c.ret.er⟩⟩
    obtain ⟨W1', S1', l1', rv1⟩ := S1.freeze r1
    have c1 := c.le (l1.trans l1')
    have rv0 : RV L.K W H u v := rv
    rw [← hK]
    refine ⟨W1', env1, h1, σ, u, sv.u, _, S1', rv0.le (l1.trans l1').toLeP, rv1, q1, fun W3 z h3 v3 H3 l3 S3 r3 q3 => ?_⟩
    obtain ⟨W4, S4, l4, r4⟩ := S3.freeze r3
    exact c1.nx W4 _ h3 _ H3 (l3.trans l4) (S4.store q3.1 r4) q3.2
  · exact ht.elim
/-- x[i] op= e -/
@[simp] def uAugIx (k : Nat) (f : UO) (ti te : UE) : US := fun env h P => (∃ x, env[k]? = some (some x)) ∧ ti env h (fun iv env1 h1 => getAt k iv.u env1 h1 fun old => te env1 h1 (fun sv env2 h2 => f old sv.u h2 fun z h3 => setAt k iv.u z.u env2 h3 P.nx) P.er) P.er
theorem getAt_ok {k : Nat} {i : U} {W : Wd} {env : En} {h : Hv} {σ : L2.St} {H : Hp} {iv : V} {Q : U → Prop} (S : Sim L.K W env h σ H) (ri : RV L.K W H i iv) (q : getAt k i env h Q) :
    ∃ a xs z y u, σ[k]? = some (some (.ref a)) ∧ iv = .int z ∧ H a = some (.lst xs) ∧ L2.atI xs z = some y ∧ RV L.K W H u y ∧ Q u := by
  unfold getAt at q
  split at q
  · rename_i z us e
    obtain ⟨a, vs, ev, ea, rv⟩ := S.own_at e
    split at q
    · rename_i u eu
      cases ri.int_
      obtain ⟨y, ey, ry⟩ := rv.atI eu
      exact ⟨a, vs, _, y, u, ev, rfl, ea, ey, ry, q⟩
    · exact q.elim
  · rename_i z r e
    obtain ⟨v, ev, rr⟩ := S.slots k _ e
    cases ri.int_
    split at q
    · rename_i us eo
      split at q
      · rename_i u eu
        cases rr with
        | ref m n =>
          obtain ⟨_, vs, ea, rv⟩ := obL_at S.sh eo m
          obtain ⟨y, ey, ry⟩ := rv.atI eu
          exact ⟨_, vs, _, y, u, ev, rfl, ea, ey, ry, q⟩
      · exact q.elim
    · exact q.elim
  · exact q.elim
theorem ws_augIx {k : Nat} {x : Str} {p pos tpos : Pos} {i e : Expr} {ti te : UE} {op : Operator} {f : UO} (hK : L.K = X.K) (hx : PE X (.Name x p) (tVar k)) (hi : WE X L i ti) (he : WE X L e te) (hf : IpU X op f)
    (ha : ∀ ov iv new, augStore i ov iv new = (do holding [new, ov, iv] (setItem ov iv new); release [new, ov, iv] []; pure .next) := by intros; rfl) : WS X L (.AugAssign (.Subscript (.Name x p) i tpos) op e pos) (uAugIx k f ti te) := by
  refine PS.wk (ps_augS hx hi get_list he hf set_list ha) fun D σ H ⟨W, env, h, P, S, ⟨⟨x0, e0⟩, ht⟩, c⟩ => ?_
  obtain ⟨v, ev, _⟩ := S.slots k x0 e0
  refine ⟨v, ev, W, env, h, _, _, S, ht, ⟨fun W1 iv env1 h1 y1 H1 l1 S1 r1 q1 => ?_, c.ret.er⟩⟩
  obtain ⟨W1', S1', l1', rv1⟩ := S1.freeze r1
  have c1 := c.le (l1.trans l1')
  obtain ⟨a, xs, z, y, u, ev2, e3, ea, ey, ry, q2⟩ := getAt_ok S1' rv1 q1
  rw [ev] at ev2
  cases ev2
  subst e3
  refine ⟨a, xs, z, y, rfl, rfl, .inl (.inl ea), ey, ?_⟩
  refine ⟨W1', env1, h1, _, _, S1', q2, ⟨fun W2 sv env2 h2 y2 H2 l2 S2 r2 q3 => ?_, c1.ret.er⟩⟩
  obtain ⟨W2', S2', l2', rv2⟩ := S2.freeze r2
  have c2 := c1.le (l2.trans l2')
  rw [← hK]
  refine ⟨W2', env2, h2, σ, u, sv.u, _, S2', ry.le (l2.trans l2').toLeP, rv2, q3, fun W3 nz h3 v3 H3 l3 S3 r3 q4 => ?_⟩
  obtain ⟨W4, S4, l4, r4⟩ := S3.freeze r3
  obtain ⟨a', xs', z', j, ev3, e4, ea', ej, env', h', S5, l5, q5⟩ := setAt_ok S4 (rv1.le (((l2.trans l2').trans l3).trans l4).toLeP) r4 q4
  rw [ev] at ev3
  cases ev3
  cases e4
  exact ⟨a, xs', z, j, rfl, rfl, ea', ej, c2.nx W4 env' h' σ _ ((l3.trans l4).trans l5) S5 q5⟩
end
end Vi

/-! Vi6: slices, what is built in, comprehensions. -/
namespace Vi
open PySem PySem.Spec PyProof.Rows L2

/-! ### slices -/
def cutU {α : Type} (xs : List α) (lo hi : Option Int) : List α := (xs.drop (HT.sIx xs.length 0 lo)).take (HT.sIx xs.length xs.length hi - HT.sIx xs.length 0 lo)
abbrev USl := U → Option Int → Option Int → Hv → (Sv → Hv → Prop) → Prop
/-- a written end of a slice -/
@[simp] def uNoP : UM (Option Int) := fun env h Po _ => Po none env h
@[simp] def svI : Sv → (Int → Prop) → Prop
  | .val (.int i), P => P i
  | _, _ => False
@[simp] def uP (t : UE) : UM (Option Int) := fun env h Po Pe => t env h (fun sv env1 h1 => svI sv fun i => Po (some i) env1 h1) Pe
@[simp] def uSl (f : USl) (t : UE) (tl th : UM (Option Int)) : UE := fun env h Po Pe => t env h (fun sv env1 h1 => tl env1 h1 (fun lo env2 h2 => th env2 h2 (fun hi env3 h3 => f sv.u lo hi h3 fun r h4 => Po r env3 h4) Pe) Pe) Pe
abbrev RP : Wd → Hp → Option Int → Option Int → Prop := fun _ _ a b => a = b
def WP (X : Cx) (L : Lx) (e : Option Expr) (t : UM (Option Int)) : Prop := PO X e (lg L RP t)
@[simp] def bSl : USl := fun u lo hi h P => match u with
  | .tup us => P (.val (.tup (cutU us lo hi))) h
  | .lst us => P (.own (cutU us lo hi)) h
  | .scr ns => P (.own (cutU (ns.map U.int) lo hi)) h
  | _ => False
section
variable {X : Cx} {L : Lx} {K : PySem.W.Frag}
theorem PO.wk {e : Option Expr} {t t' : TO} (h : PO X e t) (w : ∀ σ H Q, t' σ H Q → t σ H Q) : PO X e t' := ⟨fun pins s σ H Q I q => h.run pins s σ H Q I (w _ _ _ q)⟩
theorem wp_none : WP X L none uNoP := PO.wk po_none fun σ H Q ⟨W, env, h, Po, Pe, S, ht, c⟩ => c.ok W none env h none H .refl S rfl ht
theorem wp_some {e : Expr} {t : UE} (h : WE X L e t) : WP X L (some e) (uP t) := by
  refine PO.wk (po_some h) fun σ H Q ⟨W, env, h, Po, Pe, S, ht, c⟩ => ?_
  refine ⟨W, env, h, _, _, S, ht, ⟨fun W1 sv env1 h1 y H1 l1 S1 r1 q1 => ?_, c.er⟩⟩
  unfold svI at q1
  split at q1
  · have r2 : RV L.K W1 H1 (.int _) y := r1
    cases r2.int_
    exact ⟨_, rfl, c.ok W1 _ env1 h1 _ H1 l1 S1 rfl q1⟩
  · exact q1.elim
/-- a slice by values, by trees -/
def lsl (K : PySem.W.Frag) (f : USl) : V → Option Int → Option Int → Hp → VK → Prop := fun x lo hi H Q => ∃ W env h σ u P, Sim K W env h σ H ∧ RV K W H u x ∧ f u lo hi h P ∧ OCont K W H env σ P Q
theorem we_sl {f : USl} {e : Expr} {lo hi : Option Expr} {t : UE} {tl th : UM (Option Int)} {p2 pos : Pos} (hr : SlR X (lsl L.K f)) (he : WE X L e t) (hl : WP X L lo tl) (hu : WP X L hi th) : WE X L (.Subscript e (.Slice lo hi none p2) pos) (uSl f t tl th) := by
  refine PE.wk (pe_slice hr he hl hu) fun σ H Q ⟨W, env, h, Po, Pe, S, ht, c⟩ => ?_
  refine ⟨W, env, h, _, _, S, ht, ⟨fun W1 sv env1 h1 y H1 l1 S1 r1 q1 => ?_, c.er⟩⟩
  obtain ⟨W1', S1', l1', rv1⟩ := S1.freeze r1
  have c1 := c.le (l1.trans l1')
  refine ⟨W1', env1, h1, _, _, S1', q1, ⟨fun W2 a env2 h2 b H2 l2 S2 r2 q2 => ?_, c1.er⟩⟩
  cases r2
  have c2 := c1.le l2
  refine ⟨W2, env2, h2, _, _, S2, q2, ⟨fun W3 a' env3 h3 b' H3 l3 S3 r3 q3 => ?_, c2.er⟩⟩
  cases r3
  exact ⟨W3, env3, h3, σ, sv.u, _, S3, rv1.le (l2.trans l3).toLeP, q3, fun W4 r h4 v4 H4 l4 S4 r4 q4 => (c2.le l3).ok W4 r env3 h4 v4 H4 l4 S4 r4 q4⟩
theorem RVs.cut {W : Wd} {H : Hp} {us : List U} {vs : List V} (r : RVs K W H us vs) (lo hi : Option Int) : RVs K W H (cutU us lo hi) (cutV vs lo hi) := by
  unfold cutU cutV
  rw [r.length]
  exact (r.drop _).take _
theorem SlR.wk {r r' : V → Option Int → Option Int → Hp → VK → Prop} (h : SlR X r) (w : ∀ x lo hi H Q, r' x lo hi H Q → r x lo hi H Q) : SlR X r' := fun pins s σ H x v vl vu lo hi sl Q I rx hs pl pu q => h pins s σ H x v vl vu lo hi sl Q I rx hs pl pu (w _ _ _ _ _ q)
theorem cutU_all {α : Type} {xs : List α} {lo hi : Option Int} (h : HT.sIx xs.length 0 lo = 0 ∧ HT.sIx xs.length xs.length hi = xs.length) : cutU xs lo hi = xs := by
  unfold cutU
  rw [h.1, h.2]
  simp
theorem sl_U : SlR X (lsl X.K bSl) := by
  refine SlR.wk (sl_list.or sl_tupA) fun x lo hi H Q ⟨W, env, h, σ, u, P, S, ru, ht, c⟩ => ?_
  unfold bSl at ht
  split at ht
  · rename_i us
    have ru0 := ru
    cases ru with
    | tup hq r =>
      have el := r.length
      refine .inr ⟨_, _, rfl, hq.sq, fun z => ?_, fun _ p hp => c.tup S (r.cut lo hi) ht hp⟩
      rw [← el] at z
      rw [cutU_all z] at ht
      exact c.val S ru0 ht
  · cases ru with
    | lst n e r => exact .inl ⟨_, _, rfl, .inl (.inl e), fun p hp => c.lst S (r.cut lo hi) ht hp⟩
  · cases ru with
    | scr e => exact .inl ⟨_, _, rfl, e.sq, fun p hp => c.lst S ((RVs.ints _).cut lo hi) ht hp⟩
  · exact ht.elim
end

/-! ### what is built in -/
section
variable {X : Cx} {K : PySem.W.Frag}
@[simp] def bLen : UB := fun us h P => match us with
  | [u] => (match itemsAt h u with
    | some xs => P (.val (.int (xs.length : Int))) h
    | none => (match u with
      | .str z => z.length ≤ sizeLine ∧ P (.val (.int (z.length : Int))) h
      | _ => False))
  | _ => False
theorem call_lenU : CallR X (.builtin "len") (lb X.K bLen) := by
  refine CallR.wk (Vi.CallR.or call_len_seq call_len_str) fun xs H Q ⟨W, env, h, σ, us, P, S, r, ht, c⟩ => ?_
  unfold bLen at ht
  split at ht
  · rename_i u
    obtain ⟨v, rfl, ru⟩ := RVs.one r
    split at ht
    · rename_i ys e
      obtain ⟨a, vs, rfl, hq, rs⟩ := ru.items S.sh e
      refine .inl ⟨a, vs, rfl, hq, ?_⟩
      rw [← rs.length]
      exact c.val S (.int _) ht
    · split at ht
      · cases ru
        exact .inr ⟨_, rfl, ht.1, c.val S (.int _) ht.2⟩
      · exact ht.elim
  · exact ht.elim
@[simp] def bInt : UB := fun us h P => match us with
  | [.int i] => P (.val (.int i)) h
  | [.bl b] => P (.val (.int (if b then 1 else 0))) h
  | [.str a] => (match PySem.intText? a with
    | some n => a.length ≤ 640 ∧ P (.val (.int n)) h
    | none => False)
  | _ => False
theorem call_intU : CallR X (.type "int") (lb X.K bInt) := by
  refine CallR.wk (Vi.CallR.or call_int1 L2.call_int_str) fun xs H Q ⟨W, env, h, σ, us, P, S, r, ht, c⟩ => ?_
  unfold bInt at ht
  split at ht
  · obtain ⟨v, rfl, ru⟩ := RVs.one r
    cases ru
    exact .inl (.inl ⟨_, rfl, c.val S (.int _) ht⟩)
  · obtain ⟨v, rfl, ru⟩ := RVs.one r
    cases ru
    exact .inl (.inr ⟨_, rfl, c.val S (.int _) ht⟩)
  · obtain ⟨v, rfl, ru⟩ := RVs.one r
    cases ru
    split at ht
    · rename_i n e
      exact .inr ⟨_, n, rfl, e, ht.1, c.val S (.int _) ht.2⟩
    · exact ht.elim
  · exact ht.elim
@[simp] def bTuple : UB := fun us h P => match us with
  | [u] => (match seqU u with
    | some xs => P (.val (.tup xs)) h
    | none => False)
  | _ => False
theorem call_tupleU : CallR X (.type "tuple") (lb X.K bTuple) := by
  refine CallR.wk call_tuple_of fun xs H Q ⟨W, env, h, σ, us, P, S, r, ht, c⟩ => ?_
  unfold bTuple at ht
  split at ht
  · obtain ⟨v, rfl, ru⟩ := RVs.one r
    split at ht
    · rename_i e
      have ru0 := ru
      cases ru with
      | tup hq rs => cases e; exact ⟨_, _, rfl, .inr ⟨hq.sq, c.val S ru0 ht⟩⟩
      | lst n hq rs => cases e; exact ⟨_, _, rfl, .inl ⟨.inl (.inl hq), fun p hp => c.tup S rs ht hp⟩⟩
      | _ => cases e
    · exact ht.elim
  · exact ht.elim
@[simp] def bList : UB := fun us h P => match us with
  | [u] => (match itemsAt h u with
    | some xs => P (.own xs) h
    | none => False)
  | _ => False
theorem call_listU : CallR X (.type "list") (lb X.K bList) := by
  refine CallR.wk call_list_of fun xs H Q ⟨W, env, h, σ, us, P, S, r, ht, c⟩ => ?_
  unfold bList at ht
  split at ht
  · obtain ⟨v, rfl, ru⟩ := RVs.one r
    split at ht
    · rename_i e
      obtain ⟨a, vs, rfl, hq, rs⟩ := ru.items S.sh e
      exact ⟨a, vs, rfl, hq, fun p hp => c.lst S rs ht hp⟩
    · exact ht.elim
  · exact ht.elim
/-- max, min of two ints -/
@[simp] def bMax : UB := fun us h P => match us with
  | [.int i, .int j] => P (.val (.int (if j > i then j else i))) h
  | _ => False
@[simp] def bMin : UB := fun us h P => match us with
  | [.int i, .int j] => P (.val (.int (if j < i then j else i))) h
  | _ => False
theorem call_maxU (hc : X.calm = true) : CallR X (.builtin "max") (lb X.K bMax) := by
  refine CallR.wk (call_max2 hc) fun xs H Q ⟨W, env, h, σ, us, P, S, r, ht, c⟩ => ?_
  unfold bMax at ht
  split at ht
  · obtain ⟨v, w, rfl, ru, rw_⟩ := RVs.two r
    cases ru; cases rw_
    exact ⟨_, _, rfl, c.val S (.int _) ht⟩
  · exact ht.elim
theorem call_minU (hc : X.calm = true) : CallR X (.builtin "min") (lb X.K bMin) := by
  refine CallR.wk (call_min2 hc) fun xs H Q ⟨W, env, h, σ, us, P, S, r, ht, c⟩ => ?_
  unfold bMin at ht
  split at ht
  · obtain ⟨v, w, rfl, ru, rw_⟩ := RVs.two r
    cases ru; cases rw_
    exact ⟨_, _, rfl, c.val S (.int _) ht⟩
  · exact ht.elim
/-- repr of data -/
def reprU (u : U) : Option Str := match toD u with
  | some d => if d.showable && !d.hasDict && decide (d.depth ≤ 60) && decide (d.shown.length ≤ sizeLine) then some d.shown else none
  | none => none
@[simp] def bRepr : UB := fun us h P => match us with
  | [u] => (match reprU u with
    | some x => P (.val (.str x)) h
    | none => False)
  | _ => False
theorem call_reprU (hg : X.A.guards = some []) (hu : X.A.units + 64 < cLine) : CallR X (.builtin "repr") (lb X.K bRepr) := by
  intro pins s σ H xs us Q I r q
  obtain ⟨W, env, h, σ', ws, P, S, rr, ht, c⟩ := q
  unfold bRepr at ht
  split at ht
  · rename_i u
    obtain ⟨v, rfl, ru⟩ := RVs.one rr
    split at ht
    · rename_i x ex
      unfold reprU at ex
      split at ex
      · rename_i d ed
        split at ex
        · rename_i hc
          simp only [Bool.and_eq_true, decide_eq_true_eq, Bool.not_eq_true'] at hc
          obtain ⟨⟨⟨hs, hd⟩, hdp⟩, hz⟩ := hc
          cases ex
          obtain ⟨w, rfl, rx⟩ := vals1 r
          have fin : ∀ (h' : Heap) (u' : Tok) (tk : Nat), (∀ b o, s.heap.get? b = some o → h'.get? b = some o) → EP X pins σ Q (.str d.shown u') { s with heap := h', toks := tk } := fun h' u' tk hk =>
            ⟨.str d.shown, H, I.kept (h' := h') (t' := tk) hk, ⟨u', rfl⟩, c.val S (.str _) ht⟩
          obtain ⟨as, rd⟩ := Dp.reads I d v w (ru.dp ed) rx
          cases rd with
          | none => exact PySem.P.repr_of_none (fin s.heap _ _ fun _ _ e => e)
          | bool b => exact PySem.P.repr_of_bool (by cases b <;> exact fin s.heap _ _ fun _ _ e => e)
          | int i t => exact PySem.P.repr_of_int (by simpa [PyData.showable] using hs) (fin s.heap _ _ fun _ _ e => e)
          | str z t => exact PySem.P.repr_of_str (fin s.heap _ _ fun _ _ e => e) (by simpa [PyData.shown] using hz)
          | list h1 h2 h3 h4 => exact PySem.repr_of_reads' (.list h1 h2 h3 h4) hs (fun z => by rw [hd] at z; cases z) hg (by omega) (fun _ _ e => e) (fun h' u' tk hk => fin h' u' tk hk) hz
          | tuple h1 h2 h3 h4 => exact PySem.repr_of_reads' (.tuple h1 h2 h3 h4) hs (fun z => by rw [hd] at z; cases z) hg (by omega) (fun _ _ e => e) (fun h' u' tk hk => fin h' u' tk hk) hz
          | dict h1 h2 h3 h4 h5 => simp [PyData.hasDict] at hd
        · cases ex
      · cases ex
    · exact ht.elim
  · exact ht.elim
end
end Vi

/-! Vi7: comprehensions; a list that a name owns, read; the end of a law. -/
namespace Vi
open PySem PySem.Spec PyProof.Rows L2

/-! ### comprehensions -/
@[simp] def wipeE (env : En) : List Nat → En
  | [] => env
  | v :: vs => (wipeE env vs).set v none
/-- behind the block: its own names as they were -/
@[simp] def restoreE (env0 env1 : En) : List Nat → En
  | [] => env1
  | v :: vs => (restoreE env0 env1 vs).set v (match env0[v]? with
    | some (some (.val u)) => some (.val u)
    | _ => none)
@[simp] def noEx : Ex → En → Hv → Prop := fun _ _ _ => False
def compU (g : UG) (tt : UT) (te : UE) (vs : List Nat) (Po : List U → En → Hv → Prop) : List U → List U → En → Hv → Prop
  | [], acc, env, h => Po acc env h
  | u :: us, acc, env, h => g u env h fun env1 h1 => tt env1 h1 (fun b env2 h2 => if b = true then te env2 h2 (fun sv env3 h3 => acc.length < sizeLine ∧ compU g tt te vs Po us (acc ++ [sv.u]) (wipeE env3 vs) h3) noEx
    else compU g tt te vs Po us acc (wipeE env2 vs) h2) noEx
@[simp] def uLc (ti : UM (List U)) (g : UG) (tt : UT) (te : UE) (vs : List Nat) : UE := fun env h Po Pe => ti env h (fun us env1 h1 => compU g tt te vs (fun acc env2 h2 => Po (.own acc) (restoreE env1 env2 vs) h2) us [] (wipeE env1 vs) h1) Pe
@[simp] def uYes : UT := fun env h Po _ => Po true env h
section
variable {K : PySem.W.Frag} {W : Wd} {H : Hp} {h : Hv} {env env0 env1 : En} {σ σ' : L2.St}
theorem wipeE_length : ∀ vs : List Nat, (wipeE env vs).length = env.length
  | [] => rfl
  | v :: vs => by unfold wipeE; rw [List.length_set, wipeE_length vs]
theorem wipeE_get {k : Nat} {sv : Sv} : ∀ {vs : List Nat}, (wipeE env vs)[k]? = some (some sv) → env[k]? = some (some sv) ∧ k ∉ vs
  | [], e => ⟨e, by simp⟩
  | v :: vs, e => by
    unfold wipeE at e
    by_cases z : k = v
    · subst z
      rw [List.getElem?_set] at e
      split at e
      · split at e <;> cases e
      · rename_i q; exact absurd rfl q
    · rw [List.getElem?_set_ne (Ne.symm z)] at e
      obtain ⟨h1, h2⟩ := wipeE_get e
      exact ⟨h1, by simp [z, h2]⟩
theorem wipe_get {k : Nat} : ∀ {vs : List Nat}, k ∉ vs → (wipe σ vs)[k]? = σ[k]?
  | [], _ => rfl
  | v :: vs, e => by
    unfold wipe
    rw [List.getElem?_set_ne (fun z => e (by simp [z]))]
    exact wipe_get (fun z => e (by simp [z]))
theorem Sim.wipe (S : Sim K W env h σ H) (vs : List Nat) : Sim K W (wipeE env vs) h (L2.wipe σ vs) H := by
  refine ⟨S.sh, by rw [wipeE_length, wipe_length, S.len], fun k sv e => ?_⟩
  obtain ⟨e1, e2⟩ := wipeE_get e
  obtain ⟨v, e3, r⟩ := S.slots k sv e1
  exact ⟨v, by rw [wipe_get e2]; exact e3, r⟩
theorem wipe_off {ks vs : List Nat} (hk : ∀ k ∈ ks, k ∈ vs) (o : SameOff ks σ σ') : L2.wipe σ' vs = L2.wipe σ vs := by
  have key : ∀ ws : List Nat, ∀ j, (j ∈ ws ∨ σ'[j]? = σ[j]?) → (L2.wipe σ' ws)[j]? = (L2.wipe σ ws)[j]? := by
    intro ws
    induction ws with
    | nil => intro j hj; rcases hj with z | z; cases z; exact z
    | cons w ws ih =>
      intro j hj
      unfold L2.wipe
      by_cases z : j = w
      · subst z
        rw [List.getElem?_set, List.getElem?_set, if_pos rfl, if_pos rfl, wipe_length, wipe_length, o.1]
      · rw [List.getElem?_set_ne (Ne.symm z), List.getElem?_set_ne (Ne.symm z)]
        exact ih j (hj.imp (fun q => (List.mem_cons.mp q).resolve_left z) fun q => q)
  apply List.ext_getElem?
  intro j
  by_cases z : j ∈ vs
  · exact key vs j (.inl z)
  · exact key vs j (.inr (o.2 j fun q => z (hk j q)).symm)
theorem wipe_wipe (vs : List Nat) : L2.wipe (L2.wipe σ vs) vs = L2.wipe σ vs :=
  wipe_off (ks := vs) (fun _ z => z) ⟨(wipe_length σ vs).symm, fun j hj => (wipe_get hj).symm⟩
theorem restoreE_length : ∀ vs : List Nat, (restoreE env0 env1 vs).length = env1.length
  | [] => rfl
  | v :: vs => by unfold restoreE; rw [List.length_set, restoreE_length vs]
theorem restoreE_get {k : Nat} {sv : Sv} : ∀ {vs : List Nat}, (restoreE env0 env1 vs)[k]? = some (some sv) → (k ∉ vs ∧ env1[k]? = some (some sv)) ∨ ∃ u, sv = .val u ∧ env0[k]? = some (some (.val u))
  | [], e => .inl ⟨by simp, e⟩
  | v :: vs, e => by
    unfold restoreE at e
    by_cases z : k = v
    · subst z
      rw [List.getElem?_set, if_pos rfl] at e
      split at e
      · split at e
        · rename_i u eu
          cases e
          exact .inr ⟨u, rfl, eu⟩
        · cases e
      · cases e
    · rw [List.getElem?_set_ne (Ne.symm z)] at e
      rcases restoreE_get e with ⟨h1, h2⟩ | h1
      · exact .inl ⟨by simp [z, h1], h2⟩
      · exact .inr h1
theorem Sim.restore {W1 : Wd} {H1 : Hp} {h1 : Hv} {vs : List Nat} (S0 : Sim K W env0 h σ H) (l : LeW W H W1 H1) (S1 : Sim K W1 env1 h1 (L2.wipe σ vs) H1) : Sim K W1 (restoreE env0 env1 vs) h1 σ H1 := by
  refine ⟨S1.sh, by rw [restoreE_length, S1.len, wipe_length], fun k sv e => ?_⟩
  rcases restoreE_get e with ⟨hk, e1⟩ | ⟨u, rfl, e1⟩
  · obtain ⟨v, ev, r⟩ := S1.slots k sv e1
    rw [wipe_get hk] at ev
    exact ⟨v, ev, r⟩
  · obtain ⟨v, ev, r⟩ := S0.slots k _ e1
    exact ⟨v, ev, RV.le l.toLeP r⟩
/-- what stands at a list that nobody owns yet changes: all else stays -/
theorem Sim.upd0 {D : Addr} {xs ys : List V} (S : Sim K W env h σ H) (n : W.own D = none) (e : H D = some (.lst xs)) : LeP W H W (upd H D (.lst ys)) ∧ Sim K W env h σ (upd H D (.lst ys)) := by
  have ne : ∀ b w, W.own b = some w → b ≠ D := fun b w q z => by subst z; rw [n] at q; cases q
  have l : LeP W H W (upd H D (.lst ys)) := by
    refine ⟨fun b o eb f => ⟨f, by rw [upd_ne (ne b _ f)]; exact eb⟩, fun b vs eb => ?_, fun b o u eb => ?_, ⟨[], by simp⟩, fun _ _ _ f => f⟩
    · rw [upd_ne (fun z => by subst z; rw [e] at eb; cases eb)]; exact eb
    · rw [upd_ne (fun z => by subst z; rw [e] at eb; cases eb)]; exact eb
  refine ⟨l, ⟨⟨S.sh.len, fun i o eo => ?_, fun a w ea => ?_⟩, S.len, fun k sv es => ?_⟩⟩
  · obtain ⟨a, m, na, r⟩ := S.sh.objs i o eo
    refine ⟨a, m, na, ?_⟩
    cases o with
    | lst us =>
      obtain ⟨vs, e1, rv⟩ := r
      exact ⟨vs, by rw [upd_ne (ne a _ na)]; exact e1, rv.le l⟩
  · by_cases z : a = D
    · subst z; exact ⟨_, upd_same⟩
    · rw [upd_ne z]; exact S.sh.dom a w ea
  · obtain ⟨v, e1, r⟩ := S.slots k sv es
    refine ⟨v, e1, ?_⟩
    cases sv with
    | val u => exact RV.le l r
    | own us =>
      obtain ⟨a, vs, rfl, na, ea, rv⟩ := r
      exact ⟨a, vs, rfl, na, by rw [upd_ne (ne a _ na)]; exact ea, rv.le l⟩
theorem LeW.upd0 {W0 : Wd} {H0 : Hp} {D : Addr} {xs ys : List V} (l : LeW W0 H0 W H) (n0 : H0 D = none) (n : W.own D = none) (e : H D = some (.lst xs)) : LeW W0 H0 W (upd H D (.lst ys)) := by
  refine ⟨⟨fun b o eb f => ?_, fun b vs eb => ?_, fun b o u eb => ?_, l.mp, l.ob⟩, fun b o eb f => ?_⟩
  · have ne : b ≠ D := fun z => by subst z; rw [n0] at eb; cases eb
    rw [upd_ne ne]; exact l.fr b o eb f
  · have ne : b ≠ D := fun z => by subst z; rw [n0] at eb; cases eb
    rw [upd_ne ne]; exact l.tp b vs eb
  · have ne : b ≠ D := fun z => by subst z; rw [n0] at eb; cases eb
    rw [upd_ne ne]; exact l.fz b o u eb
  · have ne : b ≠ D := fun z => by subst z; rw [n0] at eb; cases eb
    rw [upd_ne ne]; exact l.st b o eb f
end
/-- the block's tests -/
def WTs (X : Cx) (L : Lx) (ifs : List Expr) (t : UT) : Prop := PTs X ifs (lg L RB t)
section
variable {X : Cx} {L : Lx}
theorem PTs.wk {e : List Expr} {t t' : TT} (h : PTs X e t) (w : ∀ σ H Q, t' σ H Q → t σ H Q) : PTs X e t' := ⟨fun pins s σ H Q I q => h.run pins s σ H Q I (w _ _ _ q)⟩
theorem wts_nil : WTs X L [] uYes := PTs.wk pts_nil fun σ H Q ⟨W, env, h, Po, Pe, S, ht, c⟩ => c.ok W true env h true H .refl S rfl ht
theorem wts_one {c : Expr} {t : UT} (h : WT X L c t) : WTs X L [c] t := pts_one h
/-- where no exception is wished for -/
abbrev Lx.nox (L : Lx) : Lx := ⟨L.K, L.ga, fun _ _ _ _ => False⟩
theorem takes_nox {X : Cx} {L : Lx} : Takes X L.nox.wx := takes0
theorem lg_lc {tg iter : Expr} {ti : UM (List U)} {ks vs : List Nat} {g : UG} {tt : UT} {te : UE} (hks : ∀ k ∈ ks, k ∈ vs) {σ : L2.St} {H : Hp} {Q : VK} (h : lg L (RT L) (uLc ti g tt te vs) σ H Q) :
    tLc (lg L (Wk L.K) ti) (lgG L.nox ks g) (lg L.nox RB tt) (lg L.nox (RT L.nox) te) vs σ H Q := by
  obtain ⟨W, env, h, Po, Pe, S, hti, c⟩ := h
  refine ⟨W, env, h, _, _, S, hti, ⟨fun W1 us env1 h1 J H1 l1 S1 wk q1 => ?_, c.er⟩⟩
  intro D hD
  have nD : W1.own D = none := S1.sh.own_none hD
  have lD := LeW.none_ S1.sh hD (.lst [])
  refine ⟨fun i m H' => m = us.length - i ∧ i ≤ us.length ∧ ∃ W' env' h' acc accV, LeW W1 H1 W' H' ∧ Sim L.K W' env' h' (L2.wipe σ vs) H' ∧ W'.own D = none ∧ H' D = some (.lst accV) ∧ RVs L.K W' H' acc accV ∧
    compU g tt te vs (fun acc env2 h2 => Po (.own acc) (restoreE env1 env2 vs) h2) (us.drop i) acc env' h', ⟨us.length, by simp, Nat.zero_le _, W1, wipeE env1 vs, h1, [], [], lD, (S1.wipe vs).none_ hD _, nD, upd_same, .nil, q1⟩, ?_⟩
  rintro i m H' ⟨rfl, hi, W', env', h', acc, accV, l', S', n', eD, ra, q'⟩
  by_cases hlt : i < us.length
  · obtain ⟨go, yl⟩ := (wk W' H' l' i).2 us[i] (by simp [hlt])
    rw [List.drop_eq_getElem_cons hlt] at q'
    refine .inr ⟨go, fun H2 => ∃ W2 env2 h2 acc2 accV2, LeW W1 H1 W2 H2 ∧ Sim L.K W2 env2 h2 (L2.wipe σ vs) H2 ∧ W2.own D = none ∧ H2 D = some (.lst accV2) ∧ RVs L.K W2 H2 acc2 accV2 ∧
      compU g tt te vs (fun acc env2 h2 => Po (.own acc) (restoreE env1 env2 vs) h2) (us.drop (i + 1)) acc2 env2 h2, fun H2 z => ⟨us.length - (i + 1), by omega, rfl, hlt, z⟩, fun x H2 y => ?_⟩
    obtain ⟨l2, S2, rv⟩ := yl x H2 y
    refine ⟨W', env', h', _, _, S2 _ _ _ S', rv, q', fun env3 h3 σ3 S3 off q3 => ?_⟩
    have ew : L2.wipe σ3 vs = L2.wipe σ vs := (wipe_off hks off).trans (wipe_wipe vs)
    refine ⟨ew, W', env3, h3, _, _, S3, q3, ⟨fun W4 b env4 h4 b' H4 l4 S4 rb q4 => ?_, fun _ _ _ _ _ _ _ _ _ _ z => z.elim⟩⟩
    cases rb
    have l24 := l2.trans l4
    have l14 := l'.trans l24
    obtain ⟨n4, e4⟩ := l24.st D _ eD n'
    have ra4 := ra.le l24.toLeP
    cases b with
    | false =>
      rw [if_neg Bool.false_ne_true] at q4 ⊢
      have S5 := S4.wipe vs
      rw [ew] at S5
      exact ⟨W4, _, h4, acc, accV, l14, S5, n4, e4, ra4, q4⟩
    | true =>
      rw [if_pos rfl] at q4 ⊢
      refine ⟨W4, env4, h4, _, _, S4, q4, ⟨fun W5 sv env5 h5 v H5 l5 S5 r5 q5 => ?_, fun _ _ _ _ _ _ _ _ _ _ z => z.elim⟩⟩
      obtain ⟨W6, S6, l6, r6⟩ := S5.freeze r5
      have l56 := l5.trans l6
      obtain ⟨n6, e6⟩ := l56.st D _ e4 n4
      have l16 := l14.trans l56
      obtain ⟨lp, S7⟩ := S6.upd0 (ys := accV ++ [v]) n6 e6
      have S8 := S7.wipe vs
      rw [ew] at S8
      have ra6 := (ra4.le l56.toLeP)
      refine ⟨accV, e6, by rw [← ra.length]; exact q5.1, W6, _, h5, _, _, l16.upd0 hD n6 e6, S8, n6, upd_same, (ra6.le lp).append (.cons (r6.le lp) .nil), q5.2⟩
  · have e : i = us.length := by omega
    subst e
    refine .inl ⟨(wk W' H' l' _).1 (Nat.le_refl _), ?_⟩
    rw [List.drop_length] at q'
    have S2 : Sim L.K W' (restoreE env1 env' vs) h' σ H' := S1.restore l' S'
    -- the new list is ours
    have hne : ∀ b w, W'.own b = some w → b ≠ D := fun b w q z => by subst z; rw [n'] at q; cases q
    have lp : LeP W' H' (W'.put D (some .tmp)) H' := ⟨fun b o eb f => ⟨by rw [Wd.put_ne (hne b _ f)]; exact f, eb⟩, fun _ _ e => e, fun _ _ _ e => e, ⟨[], by simp [Wd.put]⟩, fun i b _ f => by rw [Wd.put_ne (hne b _ f)]; exact f⟩
    have lw : LeW W1 H1 (W'.put D (some .tmp)) H' := by
      refine ⟨l'.toLeP.trans lp, fun b o eb f => ?_⟩
      have ne : b ≠ D := fun z => by subst z; rw [hD] at eb; cases eb
      rw [Wd.put_ne ne]
      exact l'.st b o eb f
    refine c.ok (W'.put D (some .tmp)) (.own acc) _ h' (.ref D) H' (l1.trans lw) ⟨⟨S2.sh.len, fun j o eo => ?_, fun a w ea => ?_⟩, S2.len, fun k sv es => ?_⟩ ⟨D, accV, rfl, Wd.put_same, eD, ra.le lp⟩ q'
    · obtain ⟨a, m, na, r⟩ := S2.sh.objs j o eo
      refine ⟨a, m, by rw [Wd.put_ne (hne a _ na)]; exact na, ?_⟩
      cases o with
      | lst us2 =>
        obtain ⟨vs2, e3, r3⟩ := r
        exact ⟨vs2, e3, r3.le lp⟩
    · by_cases z : a = D
      · subst z; exact ⟨_, eD⟩
      · rw [Wd.put_ne z] at ea; exact S2.sh.dom a w ea
    · obtain ⟨v, e1, r⟩ := S2.slots k sv es
      refine ⟨v, e1, ?_⟩
      cases sv with
      | val u => exact RV.le lp r
      | own us2 =>
        obtain ⟨a, vs2, rfl, na, ea, rv⟩ := r
        exact ⟨a, vs2, rfl, by rw [Wd.put_ne (hne a _ na)]; exact na, ea, rv.le lp⟩
theorem we_lc {elt tg iter : Expr} {ifs : List Expr} {scope : Scope} {own : List (Str × Nat)} {pos : Pos} {ti : UM (List U)} {ks : List Nat} {g : UG} {tt : UT} {te : UE} (hc : X.calm = true) (hN : X.N.Nodup) (hi : WI X L tg iter ti) (ok : BlkOk X.N X.env.scope scope own) (hks : ∀ k ∈ ks, k ∈ own.map (·.2))
    (hg : ∀ (s : Shared) (H : Hp) (C : Addr) (cl : List (Str × Addr)) (fp : List Addr), WG (X.blk s H scope (compEnvC scope cl C X.env) fp) L.nox tg ks g) (ht : ∀ (s : Shared) (H : Hp) (C : Addr) (cl : List (Str × Addr)) (fp : List Addr), WTs (X.blk s H scope (compEnvC scope cl C X.env) fp) L.nox ifs tt)
    (he : ∀ (s : Shared) (H : Hp) (C : Addr) (cl : List (Str × Addr)) (fp : List Addr), WE (X.blk s H scope (compEnvC scope cl C X.env) fp) L.nox elt te) (hs : ∀ x, foldedSetIterable iter X.env x = pure x := by intro _; rfl) :
    WE X L (.ListComp elt [⟨tg, iter, ifs, 0⟩] scope pos) (uLc ti g tt te (own.map (·.2))) :=
  PE.wk (pe_lc hc hN hi ok hg ht he hs) fun _ _ _ h => lg_lc (tg := tg) (iter := iter) hks h
/-- name = [..] on one line, the name a plain local -/
theorem ps_lcU {i : Nat} {y : Str} {py : Pos} {elt tg iter : Expr} {ifs : List Expr} {scope : Scope} {own : List (Str × Nat)} {pos spos : Pos} {ti : UM (List U)} {ks : List Nat} {g : UG} {tt : UT} {te : UE} (hc : X.calm = true) (hN : X.N.Nodup) (hy : X.N[i]? = some y) (hyl : X.env.scope.names.lookup y = some .local)
    (hsw : swapsWith (.ListComp elt [⟨tg, iter, ifs, 0⟩] scope pos) (some (.Name y py)) spos.line X.env = pure true) (hi : WI X L tg iter ti) (ok : BlkOk X.N X.env.scope scope own) (hks : ∀ k ∈ ks, k ∈ own.map (·.2))
    (hg : ∀ (s : Shared) (H : Hp) (C : Addr) (cl : List (Str × Addr)) (fp : List Addr), WG (X.blk s H scope (compEnvC scope cl C X.env) fp) L.nox tg ks g) (ht : ∀ (s : Shared) (H : Hp) (C : Addr) (cl : List (Str × Addr)) (fp : List Addr), WTs (X.blk s H scope (compEnvC scope cl C X.env) fp) L.nox ifs tt)
    (he : ∀ (s : Shared) (H : Hp) (C : Addr) (cl : List (Str × Addr)) (fp : List Addr), WE (X.blk s H scope (compEnvC scope cl C X.env) fp) L.nox elt te) (hs : ∀ x, foldedSetIterable iter X.env x = pure x := by intro _; rfl) :
    PS X (.Assign [.Name y py] (.ListComp elt [⟨tg, iter, ifs, 0⟩] scope pos) spos) (tAsg (lg L (RT L) (uLc ti g tt te (own.map (·.2)))) (gName i)) :=
  PS.wk (ps_setLc hc hN hy hyl hsw hi ok hg ht he hs) fun D σ H h => lg_lc (tg := tg) (iter := iter) hks h
end
end Vi

/-! Vi8: a list that a name owns, read; the end of a law. -/
namespace Vi
open PySem PySem.Spec PyProof.Rows L2

/-! ### a list that a name owns, read where it stands -/
@[simp] def ownAt (env : En) (k : Nat) (Q : List U → Prop) : Prop := match env[k]? with
  | some (some (.own us)) => Q us
  | _ => False
@[simp] def uLenO (k : Nat) : UE := fun env h Po _ => ownAt env k fun us => Po (.val (.int (us.length : Int))) env h
@[simp] def uIxO (k : Nat) (ti : UE) : UE := fun env h Po Pe => (∃ us, env[k]? = some (some (.own us))) ∧ ti env h (fun iv env1 h1 => ownAt env1 k fun us => match iv.u with
  | .int i => (match L2.atI us i with
    | some u => Po (.val u) env1 h1
    | none => False)
  | _ => False) Pe
/-- x == e, x != e -/
@[simp] def uEqO (k : Nat) (neg : Bool) (tb : UE) : UE := fun env h Po Pe => (∃ us, env[k]? = some (some (.own us))) ∧ tb env h (fun sv env1 h1 => ownAt env1 k fun us => match eqD? (.lst us) sv.u with
  | some b => Po (.val (.bl (if neg then !b else b))) env1 h1
  | none => False) Pe
@[simp] def uInO (k : Nat) (neg : Bool) (te : UE) : UE := fun env h Po Pe => te env h (fun sv env1 h1 => ownAt env1 k fun us => match inU? sv.u (.lst us) with
  | some b => Po (.val (.bl (if neg then !b else b))) env1 h1
  | none => False) Pe
section
variable {X : Cx} {L : Lx} {K : PySem.W.Frag}
theorem ownAt_ok {W : Wd} {env : En} {h : Hv} {σ : L2.St} {H : Hp} {k : Nat} {Q : List U → Prop} (S : Sim K W env h σ H) (q : ownAt env k Q) : ∃ us a vs, env[k]? = some (some (.own us)) ∧ σ[k]? = some (some (.ref a)) ∧ H a = some (.lst vs) ∧ RVs K W H us vs ∧ Q us := by
  unfold ownAt at q
  split at q
  · rename_i us e
    obtain ⟨a, vs, e1, e2, e3⟩ := S.own_at e
    exact ⟨us, a, vs, e, e1, e2, e3, q⟩
  · exact q.elim
theorem we_lenO {k : Nat} {x : Str} {p p2 pos : Pos} (hK : L.K = X.K) (hx : PE X (.Name x p) (tVar k)) (hg : Gl X "len") (hm : X.mg "len" = none) (he : starEach [.Name x p] X.env = [(false, eval (.Name x p) X.env)] := by rfl) :
    WE X L (.Call (.Name "len" p2) [.Name x p] [] pos) (uLenO k) := by
  refine PE.wk (pe_callB call_len_seq hg hm PySem.boot_len (pa_cons hx pa_nil he) (he := he) (hpl := rfl)) fun σ H Q ⟨W, env, h, Po, Pe, S, ht, c⟩ => ?_
  obtain ⟨us, a, vs, e, ev, ea, rv, q⟩ := ownAt_ok S ht
  refine ⟨_, ev, a, vs, rfl, .inl (.inl (.inl ea)), ?_⟩
  rw [← rv.length]
  exact c.ok W (.val (.int us.length)) env h _ H .refl S (.int _) q
theorem we_ixO {k : Nat} {x : Str} {p pos : Pos} {i : Expr} {ti : UE} (hK : L.K = X.K) (hx : PE X (.Name x p) (tVar k)) (hi : WE X L i ti) (hs : PlainIx i) : WE X L (.Subscript (.Name x p) i pos) (uIxO k ti) := by
  refine PE.wk (pe_ix ix_list hx hi hs) fun σ H Q ⟨W, env, h, Po, Pe, S, ⟨⟨us0, e0⟩, ht⟩, c⟩ => ?_
  obtain ⟨a, vs0, ev, ea, _⟩ := S.own_at e0
  refine ⟨_, ev, W, env, h, _, _, S, ht, ⟨fun W1 iv env1 h1 y H1 l1 S1 r1 q1 => ?_, c.er⟩⟩
  obtain ⟨us, b, vs, e1, ev1, eb, rv, q⟩ := ownAt_ok S1 q1
  rw [ev] at ev1
  cases ev1
  split at q
  · rename_i z ez
    split at q
    · rename_i u eu
      cases iv with
      | own _ => cases ez
      | val w =>
        cases ez
        have r2 : RV L.K W1 H1 (.int z) y := r1
        cases r2.int_
        obtain ⟨v, ev2, rr⟩ := rv.atI eu
        exact ⟨a, vs, z, v, rfl, rfl, .inl (.inl eb), ev2, c.ok W1 (.val u) env1 h1 v H1 l1 S1 rr q⟩
    · exact q.elim
  · exact q.elim
theorem lg_eqO {k : Nat} {neg : Bool} {tb : UE} {σ : L2.St} {H : Hp} {Q : VK} (hK : L.K = X.K) (h : lg L (RT L) (uEqO k neg tb) σ H Q) : tOp (fun x y H Q => ∃ d e, Dp X.K H x d ∧ Dp X.K H y e ∧ SeqAt.shaped d = true ∧ SeqAt.shaped e = true ∧ Q (.bl (if neg then !PyData.eqv d e else PyData.eqv d e)) H) (tVar k) (lg L (RT L) tb) σ H Q := by
  obtain ⟨W, env, h, Po, Pe, S, ⟨⟨us0, e0⟩, ht⟩, c⟩ := h
  obtain ⟨a, vs0, ev, ea, _⟩ := S.own_at e0
  refine ⟨_, ev, W, env, h, _, _, S, ht, ⟨fun W1 sv env1 h1 y H1 l1 S1 r1 q1 => ?_, c.er⟩⟩
  obtain ⟨W2, S2, l2, r2⟩ := S1.freeze r1
  obtain ⟨us, b, vs, e1, ev1, eb, rv, q⟩ := ownAt_ok S2 q1
  rw [ev] at ev1
  cases ev1
  split at q
  · rename_i b eb2
    obtain ⟨d, e, h1', h2', h3, h4, rfl⟩ := eqD?_some eb2
    have hd : Dp L.K H1 (.ref a) d := by
      unfold toD at h1'
      cases z : toDs us with
      | none => rw [z] at h1'; cases h1'
      | some ds =>
        rw [z] at h1'
        cases h1'
        exact .lst (.inl (.inl eb)) (rv.dp z)
    rw [← hK]
    exact ⟨d, e, hd, r2.dp h2', h3, h4, c.ok W2 (.val (.bl _)) env1 h1 _ H1 (l1.trans l2) S2 (.bl _) q⟩
  · exact q.elim
theorem we_eqO {k : Nat} {x : Str} {p pos : Pos} {b : Expr} {tb : UE} (hK : L.K = X.K) (hu : X.A.units + 64 < cLine) (hx : PE X (.Name x p) (tVar k)) (hb : WE X L b tb) : WE X L (.Compare (.Name x p) [.Eq] [b] pos) (uEqO k false tb) :=
  PE.wk (pe_cmpR (op_eqD hu) hx hb (nomark _)) fun _ _ _ h => lg_eqO hK h
theorem we_neO {k : Nat} {x : Str} {p pos : Pos} {b : Expr} {tb : UE} (hK : L.K = X.K) (hu : X.A.units + 64 < cLine) (hx : PE X (.Name x p) (tVar k)) (hb : WE X L b tb) : WE X L (.Compare (.Name x p) [.NotEq] [b] pos) (uEqO k true tb) :=
  PE.wk (pe_cmpR (op_neD hu) hx hb (nomark _)) fun _ _ _ h => lg_eqO hK h
theorem wt_eqO {k : Nat} {x : Str} {p pos : Pos} {b : Expr} {tb : UE} (hK : L.K = X.K) (hu : X.A.units + 64 < cLine) (hx : PE X (.Name x p) (tVar k)) (hb : WE X L b tb) : WT X L (.Compare (.Name x p) [.Eq] [b] pos) (uB (uEqO k false tb)) :=
  PT.wk (pt_cmpR (op_eqD hu) hx hb (nomark _)) fun _ _ _ h => lg_eqO hK (lg_B h)
theorem wt_neO {k : Nat} {x : Str} {p pos : Pos} {b : Expr} {tb : UE} (hK : L.K = X.K) (hu : X.A.units + 64 < cLine) (hx : PE X (.Name x p) (tVar k)) (hb : WE X L b tb) : WT X L (.Compare (.Name x p) [.NotEq] [b] pos) (uB (uEqO k true tb)) :=
  PT.wk (pt_cmpR (op_neD hu) hx hb (nomark _)) fun _ _ _ h => lg_eqO hK (lg_B h)
theorem lg_inO {k : Nat} {neg : Bool} {te : UE} {σ : L2.St} {H : Hp} {Q : VK} (h : lg L (RT L) (uInO k neg te) σ H Q) : tOp (rIn L.K neg) (lg L (RT L) te) (tVar k) σ H Q := by
  obtain ⟨W, env, h, Po, Pe, S, ht, c⟩ := h
  refine ⟨W, env, h, _, _, S, ht, ⟨fun W1 sv env1 h1 y H1 l1 S1 r1 q1 => ?_, c.er⟩⟩
  obtain ⟨W2, S2, l2, r2⟩ := S1.freeze r1
  obtain ⟨us, b, vs, e1, ev1, eb, rv, q⟩ := ownAt_ok S2 q1
  refine ⟨_, ev1, ?_⟩
  split at q
  · rename_i b2 e2
    unfold inU? at e2
    split at e2
    · rename_i v ws h1' h2'
      cases e2
      obtain ⟨ev, fv⟩ := r2.flat h1'
      subst ev
      obtain ⟨e3, f3⟩ := rv.flat h2'
      subst e3
      exact ⟨b, _, rfl, .inl (.inl (.inl eb)), fv, f3, c.ok W2 (.val (.bl _)) env1 h1 _ H1 (l1.trans l2) S2 (.bl _) q⟩
    · cases e2
  · exact q.elim
theorem we_inO {k : Nat} {x : Str} {p pos : Pos} {a : Expr} {ta : UE} (hK : L.K = X.K) (ha : WE X L a ta) (hx : PE X (.Name x p) (tVar k)) (hm : behindInMarks .In (.Name x p) = false := by rfl) : WE X L (.Compare a [.In] [.Name x p] pos) (uInO k false ta) :=
  PE.wk (pe_cmpR op_in_seq ha hx hm) fun _ _ _ h => by rw [← hK]; exact lg_inO h
theorem we_notInO {k : Nat} {x : Str} {p pos : Pos} {a : Expr} {ta : UE} (hK : L.K = X.K) (ha : WE X L a ta) (hx : PE X (.Name x p) (tVar k)) (hm : behindInMarks .NotIn (.Name x p) = false := by rfl) : WE X L (.Compare a [.NotIn] [.Name x p] pos) (uInO k true ta) :=
  PE.wk (pe_cmpR op_notIn_seq ha hx hm) fun _ _ _ h => by rw [← hK]; exact lg_inO h
theorem wt_inO {k : Nat} {x : Str} {p pos : Pos} {a : Expr} {ta : UE} (hK : L.K = X.K) (ha : WE X L a ta) (hx : PE X (.Name x p) (tVar k)) (hm : behindInMarks .In (.Name x p) = false := by rfl) : WT X L (.Compare a [.In] [.Name x p] pos) (uB (uInO k false ta)) :=
  PT.wk (pt_cmpR op_in_seq ha hx hm) fun _ _ _ h => by rw [← hK]; exact lg_inO (lg_B h)
theorem wt_notInO {k : Nat} {x : Str} {p pos : Pos} {a : Expr} {ta : UE} (hK : L.K = X.K) (ha : WE X L a ta) (hx : PE X (.Name x p) (tVar k)) (hm : behindInMarks .NotIn (.Name x p) = false := by rfl) : WT X L (.Compare a [.NotIn] [.Name x p] pos) (uB (uInO k true ta)) :=
  PT.wk (pt_cmpR op_notIn_seq ha hx hm) fun _ _ _ h => by rw [← hK]; exact lg_inO (lg_B h)
/-- is, is not between truth values -/
@[simp] def bIsB (neg : Bool) : UO := fun u w h P => match u, w with
  | .bl a, .bl b => P (.val (.bl (if neg then !decide (a = b) else decide (a = b)))) h
  | _, _ => False
theorem op_isBU : OpR X (compareOp .Is) (lo X.K (bIsB false)) := by
  refine OpR.wk op_isBl fun x y H Q ⟨W, env, h, σ, u, w, P, S, ru, rw_, ht, c⟩ => ?_
  unfold bIsB at ht
  split at ht
  · cases ru; cases rw_
    exact ⟨_, _, rfl, rfl, c.val S (.bl _) ht⟩
  · exact ht.elim
theorem op_isNotBU : OpR X (compareOp .IsNot) (lo X.K (bIsB true)) := by
  refine OpR.wk op_notBl fun x y H Q ⟨W, env, h, σ, u, w, P, S, ru, rw_, ht, c⟩ => ?_
  unfold bIsB at ht
  split at ht
  · cases ru; cases rw_
    exact ⟨_, _, rfl, rfl, c.val S (.bl _) ht⟩
  · exact ht.elim
/-- a module's value -/
theorem we_glo {x : Str} {u : U} {v : V} {a : Value} {pos : Pos} (hg : Gl X x) (hm : X.mg x = some a) (r : RelV v a) (rv : ∀ W H, RV L.K W H u v) (hd : (x == ("__debug__" : Str)) = false := by decide) : WE X L (.Name x pos) (uVal u) :=
  we_const (pe_glob hg hm r hd) rv
end

/-! ### the end of a law -/
section
open PySem.W
variable {P : Program} {w : World} {K : PySem.W.Frag} {mg mb : Str → Option Value} {k : Nat} {fa a : Addr} {fd : FuncData} {x : Str} {ga : Str → Addr} {f : FS} {s1 : Shared} {vs : List Value} {ns : List Int}
/-- from an abstract heap that has at most the script -/
theorem law_at (KX : K.In s1.heap) (hns : s1.heap.Ns mainGlobals mg) (hb : s1.heap.Ns builtinsNs mb) (hbb : ∀ x : Str, x ≠ "__name__" → mb x = bootBuiltins x) (hlim : s1.heap.NoLimit) (hg : s1.gens = #[]) (ha : s1.heap.get? a = some { cls := .type "list", data := .seq vs.toArray }) (hr : Room k callerA)
    (F : ∀ base : Heap, K.In base → base.Ns mainGlobals mg → FnG P w K mg base k fa fd [x] (spF K ga 1 f)) (hbind : ∀ (s : Shared) (u : Value), BindsTo s fd ⟨[u], []⟩ [(x, u)])
    (hf : f [.scr ns] [] (fun sv _ => sv = .val (.bl true)) fun _ _ => False) (H : Hp) (hO : Only H) (hS : ScrS K H a (ns.map V.int)) (hok : HOk P w H s1.heap) (hA : ∀ b, H b ≠ none → b = a) (hK : H a ≠ none → K.lookup a = none) :
    codeAny (model P w) callerA (.call (.ref fa) ⟨[.ref a], []⟩) (fun r s' => r = .ok (.ret (.bool true)) ∧ OldK s1.heap s'.heap ∧ s'.os = s1.os ∧ AllBare s'.gens) s1 := by
  have outOf : ∀ {b : Addr} {o : Obj}, s1.heap.get? b = some o → (∀ its n, o.data ≠ .seq its n) → H b = none := by
    intro b o e d
    rcases hO b with z | ⟨ob, xs, z⟩
    · exact z
    · have eb := hA b (by rw [z]; exact fun q => by cases q)
      subst eb
      rw [ha] at e
      cases e
      exact absurd rfl (d _ _)
  have nsOf : ∀ {b : Addr} {m : Str → Option Value}, s1.heap.Ns b m → (hidT s1.heap H).Ns b m := by
    intro b m z
    obtain ⟨o, es, ep, e, d, r⟩ := z
    exact ⟨o, es, ep, hidT_get e (outOf e fun its n q => by rw [d] at q; cases q), d, r⟩
  have inB : K.In (hidT s1.heap H) := by
    intro b o e
    refine hidT_get (KX b o e) ?_
    by_cases z : H b = none
    · exact z
    · have eb := hA b z
      subst eb
      rw [hK z] at e
      cases e
  obtain ⟨mc, lim1, lim2⟩ := hlim
  have M : Mod K mg (hidT s1.heap H) := ⟨inB, nsOf hns, ⟨mb, nsOf hb, hbb⟩, ⟨mc, nsOf lim1, lim2⟩⟩
  have e0 : Env0 P w K mg (hidT s1.heap H) callerA [] s1 H := ⟨rfl, M, fun b o e => of_hidT e, Nat.le_of_eq (hidT_size _ _), trivial, fun b z => (by cases z), hok, .of_eq hg⟩
  let W0 : Wd := ⟨fun _ => none, []⟩
  have S0 : SimH K W0 [] H := ⟨rfl, fun i o e => by simp at e, fun b w e => by cases e⟩
  have want : spF K ga 1 f [.ref a] H (fun v _ => v = .bl true) fun _ _ _ => False := by
    refine ⟨rfl, W0, [.scr ns], [], _, _, S0, (fun b k e => by cases e), RVs.cons (.scr hS) .nil, hf, ⟨fun W' sv h' v H' _ _ r q => ?_, fun _ _ _ _ _ _ _ _ _ q => q⟩⟩
    subst q
    exact RV.bl_ r
  refine codeAny_mono ((F _ inB (nsOf hns)).run callerA [] s1 H ⟨[.ref a], []⟩ [.ref a] [.ref a] _ _ hr rfl e0 (hbind s1 (.ref a)) (.cons rfl .nil) want) fun res s2 z => ?_
  match res, z with
  | .ok .next, z => exact z.elim
  | .ok .brk, z => exact z.elim
  | .ok .cont, z => exact z.elim
  | .error e, ⟨_, _, _, _, _, _, _, _, _, _, _, _, q⟩ => exact q.elim
  | .ok (.ret u), ⟨v, H', os, bare, un, hok', r', q⟩ =>
    have q' : v = .bl true := q
    subst q'
    have eu : u = Value.bool true := r'
    subst eu
    refine ⟨rfl, OldK.of_keep fun b o e => ?_, os, bare⟩
    rcases hO b with z | ⟨ob, xs, z⟩
    · exact un.keep b o e z (by intro c; cases c) (by simp)
    · obtain ⟨g1, _⟩ := hok b _ z
      obtain ⟨g2, _⟩ := hok' b _ (un.frzs b ob _ z)
      rw [g1] at e
      cases e
      exact g2
theorem law_run (KX : K.In s1.heap) (hns : s1.heap.Ns mainGlobals mg) (hb : s1.heap.Ns builtinsNs mb) (hbb : ∀ x : Str, x ≠ "__name__" → mb x = bootBuiltins x) (hlim : s1.heap.NoLimit) (hg : s1.gens = #[]) (ha : s1.heap.get? a = some { cls := .type "list", data := .seq vs.toArray }) (hi : IntsAre vs ns) (hl : ns.length ≤ sizeLine) (hr : Room k callerA)
    (F : ∀ base : Heap, K.In base → base.Ns mainGlobals mg → FnG P w K mg base k fa fd [x] (spF K ga 1 f)) (hbind : ∀ (s : Shared) (u : Value), BindsTo s fd ⟨[u], []⟩ [(x, u)])
    (hf : f [.scr ns] [] (fun sv _ => sv = .val (.bl true)) fun _ _ => False) :
    codeAny (model P w) callerA (.call (.ref fa) ⟨[.ref a], []⟩) (fun r s' => r = .ok (.ret (.bool true)) ∧ OldK s1.heap s'.heap ∧ s'.os = s1.os ∧ AllBare s'.gens) s1 := by
  have go := law_at (vs := vs) KX hns hb hbb hlim hg ha hr F hbind hf
  cases hk : K.lookup a with
  | some o =>
    have e := KX a o hk
    rw [ha] at e
    cases e
    exact go (fun _ => none) (fun _ => .inl rfl) (.inr ⟨_, vs.toArray, _, hk, rfl, rfl, rfl, by rw [List.size_toArray, hi.length]; exact hl, by simpa using vals_ints hi⟩) (fun b u z => by cases z) (fun b z => absurd rfl z) (fun z => absurd rfl z)
  | none =>
    have at_ : ∀ b, (upd (fun _ => none) a (.frz { cls := .type "list", data := .seq vs.toArray } (.lst (ns.map V.int))) : Hp) b ≠ none → b = a := by
      intro b z
      by_cases q : b = a
      · exact q
      · rw [upd_ne q] at z; exact absurd rfl z
    refine go (upd (fun _ => none) a (.frz { cls := .type "list", data := .seq vs.toArray } (.lst (ns.map V.int)))) (fun b => ?_) (.inl ⟨_, upd_same⟩) (fun b u z => ?_) at_ (fun _ => hk)
    · by_cases q : b = a
      · subst q; exact .inr ⟨_, _, upd_same⟩
      · exact .inl (upd_ne q)
    · by_cases q : b = a
      · subst q
        rw [upd_same] at z
        cases z
        exact ⟨ha, by rw [List.length_map]; exact hl, vs, _, vals_ints hi, ha⟩
      · rw [upd_ne q] at z
        cases z
theorem law_end {l : OpenLaw} {q : Program} {loose : List Str} {XP : (Str → Option Value) → Heap → Prop} {YP : World → Heap → Prop} {d : DefRec} (hn : l.most = some 63) (hdf : d.params.defaults = []) (hr : Room k callerA)
    (F : ∀ (w : World) (mg : Str → Option Value) (fa : Addr) (h : Heap), YP w h → h.Ns mainGlobals mg → mg d.name = some (.ref fa) → ∃ (K : PySem.W.Frag) (fd : FuncData) (ga : Str → Addr) (f : FS), K.In h ∧ (∀ (s : Shared) (u : Value), BindsTo s fd ⟨[u], []⟩ [(x, u)]) ∧
      (∀ ns : List Int, ns.length ≤ 63 → (∀ z ∈ ns, Builtin.Int.intBits z ≤ 1048576) → f [.scr ns] [] (fun sv _ => sv = .val (.bl true)) fun _ _ => False) ∧ ∀ base : Heap, K.In base → base.Ns mainGlobals mg → FnG l.prog w K mg base k fa fd [x] (spF K ga 1 f)) :
    WalkO q loose XP YP l.row.toRowW d [] (fun f vs => PySem.call f vs) := by
  refine Att.attach_callB hn hdf fun w s0 s1 mg mb fa o pm cd doc a vs ns G Y ho hd hcd hmg hobj hints hlen hbits hg => ?_
  obtain ⟨K, fd, ga, f, KX, hb, hf, hF⟩ := F w mg fa _ Y G.T.g hmg
  exact law_run KX G.T.g G.T.b G.T.builtins G.T.nolimit hg hobj hints (Nat.le_trans hlen (by decide)) hr hF hb (hf ns hlen hbits)
end
end Vi

/-! Vi9: isinstance, minus, the written part read by a check, the Hook. -/
namespace Vi
open PySem PySem.Spec PyProof.Rows L2

section
variable {X : Cx} {L : Lx} {K : PySem.W.Frag}
/-- a built-in class's name as a value -/
theorem we_ty {x : Str} {n : String} {pos : Pos} (hg : Gl X x) (hm : X.mg x = none) (hv : bootBuiltins x = some (.type n)) (hn : x ≠ "__name__" := by decide) (hd : (x == ("__debug__" : Str)) = false := by decide) : WE X L (.Name x pos) (uVal (.ty n)) :=
  we_const (pe_bltn (v := .ty n) hg hm hv rfl hn hd) fun _ _ => .ty n
@[simp] def tyU : U → Option String
  | .non => some "NoneType"
  | .bl _ => some "bool"
  | .int _ => some "int"
  | .str _ => some "str"
  | .tup _ => some "tuple"
  | .lst _ => some "list"
  | .scr _ => some "list"
  | .ref _ => some "list"
  | .err _ => some "error"
  | _ => none
def clsNames : List String := ["int", "bool", "str", "tuple", "list", "NoneType"]
/-- isinstance of one of these types -/
def isT (a b : String) : Bool := a == b || (a == "bool" && b == "int")
theorem isT_kit : ∀ a ∈ clsNames, ∀ b ∈ ["int", "bool", "str", "tuple", "list"], kitB a b = some (isT a b) := by decide +kernel
theorem tyU_mem {u : U} {a : String} (h : tyU u = some a) (n : ¬ a = "error") : a ∈ clsNames := by
  cases u <;> first | (cases h; decide) | (cases h; exact absurd rfl n) | cases h
theorem isT_err : ∀ b ∈ ["int", "bool", "str", "tuple", "list"], isT "error" b = false := by decide +kernel
/-- what is asked of an error's class -/
theorem eclB_ok {K : PySem.W.Frag} {x : Str} (c : eclB K x = true) : (He.Fa.exc x).ok K = true ∧ L2.ExcC K (He.ga K x) ∧ ∀ b ∈ ["int", "bool", "str", "tuple", "list"], PySem.W.kitOne K (.ref (He.ga K x)) (.type b) = some false := by
  unfold eclB at c
  simp only [Bool.and_eq_true, List.all_eq_true, decide_eq_true_eq] at c
  obtain ⟨c0, c1, c2, c3, c4, c5, c6, c7, c8, _⟩ := c
  have cs := (He.exc_ok c0).2.2.1
  exact ⟨c0, ⟨He.eqO_ok c1, He.eqO_ok c2, cs, c3, He.eqO_ok c4, He.eqO_ok c5, c6, c7⟩, c8⟩
theorem eclB_sup {K : PySem.W.Frag} {x : Str} (c : eclB K x = true) : PySem.W.exmOne K (.ref (He.ga K x)) (.ref (He.ga K "SlotError")) = some true ∧ PySem.W.kitOne K (.ref (He.ga K x)) (.ref (He.ga K x)) = some true := by
  unfold eclB at c
  simp only [Bool.and_eq_true, List.all_eq_true, decide_eq_true_eq] at c
  exact c.2.2.2.2.2.2.2.2.2
theorem RV.tyX {W : Wd} {H : Hp} {h : Hv} {u : U} {v : V} {a : String} (S : SimH K W h H) (r : RV K W H u v) (e : tyU u = some a) (ne : ¬ a = "error") : TyX K H v (.type a) := by
  cases r with
  | non => cases e; exact .base .non
  | bl b => cases e; exact .base (.bl b)
  | int b => cases e; exact .base (.int b)
  | str b => cases e; exact .base (.str b)
  | ty b => cases e
  | err _ _ => cases e; exact absurd rfl ne
  | ecl _ _ => cases e
  | tup hq r =>
    cases e
    rcases hq with hq | ⟨o, its, n, hk, hc, _⟩
    · exact .base (.tup hq)
    · exact .kTuple hk hc
  | lst n hq r => cases e; exact .base (.lst hq)
  | scr hq =>
    cases e
    rcases hq with ⟨o, hq⟩ | ⟨o, its, n, hk, hc, _⟩
    · exact .base (.frz hq)
    · exact .kList hk hc
  | ref m n =>
    rename_i i p
    cases e
    have hi : i < h.length := by
      rw [← S.len]
      exact (List.getElem?_eq_some_iff.mp m).1
    cases q : h[i]? with
    | none =>
      have := List.getElem?_eq_none_iff.mp q
      omega
    | some ob =>
      obtain ⟨b, m2, n2, ro⟩ := S.objs _ _ q
      rw [m] at m2
      cases m2
      cases ob with
      | lst us =>
        obtain ⟨vs, e3, _⟩ := ro
        exact .base (.lst e3)
@[simp] def bIsi : UB := fun us h P => match us with
  | [u, .ty T] => (match tyU u with
    | some a => T ∈ ["int", "bool", "str", "tuple", "list"] ∧ P (.val (.bl (isT a T))) h
    | none => False)
  | _ => False
theorem call_isiU : CallR X (.builtin "isinstance") (lb X.K bIsi) := by
  intro pins s σ H xs us Q I r q
  obtain ⟨W, env, h, σ', ws, P, S, rr, ht, c⟩ := q
  unfold bIsi at ht
  split at ht
  · rename_i uu T
    obtain ⟨v, w, rfl, ru, rw_⟩ := RVs.two rr
    split at ht
    · rename_i a ea
      cases rw_
      by_cases ne : a = "error"
      · cases ru with
        | err he hc =>
          subst ne
          rename_i x b
          obtain ⟨oe, vs, e1, e2, e3, e4⟩ := he
          obtain ⟨_, C, k⟩ := eclB_ok hc
          obtain ⟨u1, u2, rfl, r1, r2⟩ := vals2 r
          cases r1
          have er : u2 = Value.type T := (L2.ClsV.ty T).eq r2
          subst er
          have g := (I.hok _ _ e1).1
          have J : PySem.W.InstAt s.heap b oe (He.ga X.K x) none := by
            obtain ⟨oc, od, oda, osl⟩ := oe
            dsimp only at e2 e3 e4
            subst e2 e3 e4
            exact ⟨g, rfl, rfl, trivial⟩
          have hF : isT "error" T = false := isT_err T ht.1
          rw [hF] at ht
          exact PySem.W.kia_one (PySem.W.handS_kitx_exc C.hg C.hk C.hs C.hd C.ha C.hn C.ht C.hm) I.kIn J (k T ht.1) (fun z => nomatch z) fun tk => ⟨.bl false, H, I.kept (t' := tk) fun _ _ z => z, rfl, c.val S (.bl _) ht.2⟩
        | ref _ _ => cases ea; exact absurd ne (by decide)
        | scr _ => cases ea; exact absurd ne (by decide)
        | lst _ _ _ => cases ea; exact absurd ne (by decide)
        | tup _ _ => cases ea; exact absurd ne (by decide)
        | ecl _ _ => cases ea
        | ty _ => cases ea
        | non => cases ea; exact absurd ne (by decide)
        | bl _ => cases ea; exact absurd ne (by decide)
        | int _ => cases ea; exact absurd ne (by decide)
        | str _ => cases ea; exact absurd ne (by decide)
      · exact call_isi pins s σ H _ us Q I r ⟨v, _, _, _, _, rfl, .ty _, ru.tyX S.sh ea ne, kit_ty (isT_kit a (tyU_mem ea ne) _ ht.1), c.val S (.bl _) ht.2⟩
    · exact ht.elim
  · exact ht.elim
@[simp] def uNeg (t : UE) : UE := fun env h Po Pe => t env h (fun sv env1 h1 => svI sv fun i => Po (.val (.int (-i))) env1 h1) Pe
theorem we_neg {a : Expr} {t : UE} {pos : Pos} (ha : WE X L a t) : WE X L (.UnaryOp .USub a pos) (uNeg t) := by
  refine PE.wk (pe_un un_neg ha) fun σ H Q ⟨W, env, h, Po, Pe, S, ht, c⟩ => ?_
  refine ⟨W, env, h, _, _, S, ht, ⟨fun W1 sv env1 h1 y H1 l1 S1 r1 q1 => ?_, c.er⟩⟩
  unfold svI at q1
  split at q1
  · have r2 : RV L.K W1 H1 (.int _) y := r1
    cases r2.int_
    exact ⟨_, rfl, c.ok W1 (.val (.int _)) env1 h1 _ H1 l1 S1 (.int _) q1⟩
  · exact q1.elim
end

/-! ### the written part, by a check -/
mutual
def cB (K : PySem.W.Frag) : U → Value → Bool
  | .non, v => match v with
    | .none => true
    | _ => false
  | .bl b, v => match v with
    | .bool c => b == c
    | _ => false
  | .int i, v => match v with
    | .int j _ => decide (i = j)
    | _ => false
  | .str x, v => match v with
    | .str y _ => decide (x = y)
    | _ => false
  | .tup us, v => match v with
    | .ref a => (match K.lookup a with
      | some ⟨.type c, _, .seq its _, _⟩ => decide (c = "tuple") && (decide (its.size ≤ sizeLine) && cBs K us its.toList)
      | _ => false)
    | _ => false
  | .ecl x, v => match v with
    | .ref a => decide (a = He.ga K x) && eclB K x
    | _ => false
  | _, _ => false
def cBs (K : PySem.W.Frag) : List U → List Value → Bool
  | [], vs => match vs with
    | [] => true
    | _ => false
  | u :: us, vs => match vs with
    | v :: vs => cB K u v && cBs K us vs
    | _ => false
end
mutual
theorem cB_ok {K : PySem.W.Frag} : ∀ {u : U} {a : Value}, cB K u a = true → ∃ v, RelV v a ∧ ∀ W H, RV K W H u v
  | .non, a, h => by
    unfold cB at h
    split at h
    · exact ⟨.non, rfl, fun _ _ => .non⟩
    · cases h
  | .bl b, a, h => by
    unfold cB at h
    split at h
    · cases eq_of_beq h
      exact ⟨.bl b, rfl, fun _ _ => .bl b⟩
    · cases h
  | .int i, a, h => by
    unfold cB at h
    split at h
    · cases of_decide_eq_true h
      exact ⟨.int i, ⟨_, rfl⟩, fun _ _ => .int i⟩
    · cases h
  | .str x, a, h => by
    unfold cB at h
    split at h
    · cases of_decide_eq_true h
      exact ⟨.str x, ⟨_, rfl⟩, fun _ _ => .str x⟩
    · cases h
  | .tup us, a, h => by
    unfold cB at h
    split at h
    · rename_i p
      split at h
      · rename_i c dd its n sl ek
        simp only [Bool.and_eq_true, decide_eq_true_eq] at h
        obtain ⟨ec, ez, hs⟩ := h
        obtain ⟨vs, rv, rr⟩ := cBs_ok hs
        subst ec
        exact ⟨.ref p, rfl, fun W H => .tup (.inr ⟨_, its, n, ek, rfl, rfl, ez, rv⟩) (rr W H)⟩
      · cases h
    · cases h
  | .lst _, _, h => by simp [cB] at h
  | .scr _, _, h => by simp [cB] at h
  | .ref _, _, h => by simp [cB] at h
  | .ty _, _, h => by simp [cB] at h
  | .err _, _, h => by simp [cB] at h
  | .ecl x, a, h => by
    unfold cB at h
    split at h
    · simp only [Bool.and_eq_true, decide_eq_true_eq] at h
      exact ⟨.ref _, rfl, fun W H => .ecl h.1 h.2⟩
    · cases h
theorem cBs_ok {K : PySem.W.Frag} : ∀ {us : List U} {as : List Value}, cBs K us as = true → ∃ vs, Vals vs as ∧ ∀ W H, RVs K W H us vs
  | [], as, h => by
    unfold cBs at h
    split at h
    · exact ⟨[], .nil, fun _ _ => .nil⟩
    · cases h
  | u :: us, as, h => by
    unfold cBs at h
    split at h
    · simp only [Bool.and_eq_true] at h
      obtain ⟨v, r1, r2⟩ := cB_ok h.1
      obtain ⟨vs, r3, r4⟩ := cBs_ok h.2
      exact ⟨v :: vs, .cons r1 r3, fun W H => .cons (r2 W H) (r4 W H)⟩
    · cases h
end
/-- the module's name x holds u -/
def gB (K : PySem.W.Frag) (p : Str × U) : Bool := match PySem.W.nsIn K mainGlobals p.1 with
  | some (some a) => cB K p.2 a
  | _ => false
theorem gB_ok {K : PySem.W.Frag} {h : Heap} {mg : Str → Option Value} (X : K.In h) (G : h.Ns mainGlobals mg) {x : Str} {u : U} (c : gB K (x, u) = true) : ∃ a v, mg x = some a ∧ RelV v a ∧ ∀ W H, RV K W H u v := by
  unfold gB at c
  split at c
  · rename_i a e
    obtain ⟨v, r, rr⟩ := cB_ok c
    exact ⟨a, v, PySem.W.mg_of X G e, r, rr⟩
  · cases c
/-! ### the Hook: facts by names, constants, defs -/
def obsV (fa : List He.Fa) (cs : List (Str × U)) (fn : List He.DefD) (K : PySem.W.Frag) : He.AlD := ((fa.all fun f => f.ok K) && ((cs.all fun p => gB K p) && fn.all fun d => d.ok K), fn.map fun d => He.fnW K d.at_)
def SaysV (fa : List He.Fa) (cs : List (Str × U)) (fn : List He.DefD) (K : PySem.W.Frag) : Prop := obsV fa cs fn K = (true, fn.map He.DefD.val)
def obsVG (n : Nat) (fa : List He.Fa) (cs : List (Str × U)) (fn : List He.DefD) (g : Addr → Option Obj) : He.AlD := obsV fa cs fn (He.frG g (He.asD g n))
def hookV (n : Nat) (fa : List He.Fa) (cs : List (Str × U)) (fn : List He.DefD) : PySem.W.Hook where
  α := He.AlD
  obs := fun s => obsVG n fa cs fn s.heap.get?
  val := fun _ => (true, fn.map He.DefD.val)
  says := fun _ h => ∃ K : PySem.W.Frag, K.In h ∧ SaysV fa cs fn K
  of := fun _ _ e => ⟨_, He.frG_in, e⟩
  keeps := fun _ _ _ ⟨K, hK, c⟩ k => ⟨K, PySem.W.Frag.In.keeps hK k, c⟩
theorem obsVG_eq {n : Nat} {fa : List He.Fa} {cs : List (Str × U)} {fn : List He.DefD} {g : Addr → Option Obj} {s : Shared} (h : ∀ a, g a = s.heap.get? a) : obsVG n fa cs fn g = (hookV n fa cs fn).obs s := by
  have e : g = s.heap.get? := funext h
  rw [e]
  rfl
/-- what a law's defs lean on -/
structure Tx (fa : List He.Fa) (cs : List (Str × U)) (fn : List He.DefD) (K : PySem.W.Frag) (mg : Str → Option Value) : Prop where
  says : SaysV fa cs fn K
  at_ : ∃ h : Heap, K.In h ∧ h.Ns mainGlobals mg
section
variable {fa : List He.Fa} {cs : List (Str × U)} {fn : List He.DefD} {K : PySem.W.Frag} {mg : Str → Option Value}
theorem SaysV.parts (c : SaysV fa cs fn K) : (∀ f ∈ fa, He.Fa.ok K f = true) ∧ (∀ p ∈ cs, gB K p = true) ∧ ∀ d ∈ fn, He.DefD.ok K d = true := by
  have e : ((fa.all fun f => f.ok K) && ((cs.all fun p => gB K p) && fn.all fun d => d.ok K)) = true := congrArg (fun z : He.AlD => z.1) c
  simp only [Bool.and_eq_true, List.all_eq_true] at e
  exact ⟨e.1, e.2.1, e.2.2⟩
theorem Tx.fact (T : Tx fa cs fn K mg) (i : Nat) {f : He.Fa} (h : fa[i]? = some f := by rfl) : f.ok K = true := T.says.parts.1 f (List.mem_of_getElem? h)
theorem Tx.glo (T : Tx fa cs fn K mg) (i : Nat) {x : Str} (h : fa[i]? = some (.glo x) := by rfl) : mg x = some (.ref (He.ga K x)) := by
  obtain ⟨hp, a, b⟩ := T.at_
  exact He.glo_ok a b (T.fact i h)
theorem Tx.free (T : Tx fa cs fn K mg) (i : Nat) {x : Str} (h : fa[i]? = some (.free x) := by rfl) : mg x = none := by
  obtain ⟨hp, a, b⟩ := T.at_
  exact He.free_ok a b (T.fact i h)
theorem Tx.cst (T : Tx fa cs fn K mg) (i : Nat) {x : Str} {u : U} (h : cs[i]? = some (x, u) := by rfl) : ∃ a v, mg x = some a ∧ RelV v a ∧ ∀ W H, RV K W H u v := by
  obtain ⟨hp, a, b⟩ := T.at_
  exact gB_ok a b (T.says.parts.2.1 _ (List.mem_of_getElem? h))
theorem Tx.def_ (T : Tx fa cs fn K mg) (i : Nat) {d : He.DefD} (h : fn[i]? = some d := by rfl) : ∃ fd, FunD K d.name d.qual d.params d.body d.scope (d.dvs K) (d.kws K) (He.fAd K d.at_) fd := by
  have c := T.says
  have e : fn.map (fun d => He.fnW K d.at_) = fn.map He.DefD.val := congrArg (fun z : He.AlD => z.2) c
  have e2 : (fn.map fun d => He.fnW K d.at_)[i]? = (fn.map He.DefD.val)[i]? := by rw [e]
  rw [List.getElem?_map, List.getElem?_map, h] at e2
  exact He.DefD.funD (Option.some.inj e2) (c.parts.2.2 d (List.mem_of_getElem? h))
end
end Vi

/-! Vi10: raise, pop, two names at once. -/
namespace Vi
open PySem PySem.Spec PyProof.Rows L2
@[simp] def uRaise (x : Str) : US := fun env h P => P.er ⟨x, none⟩ env h
section
variable {X : Cx} {L : Lx} {K : PySem.W.Frag}
theorem ws_raise {x m : Str} {j : Nat} {p p2 pos pos2 : Pos} (hc : X.calm = true) (tk : Takes X L.wx) (q : PySem.W.excIn X.K (L.ga x) He.veBase "ValueError.__new__" = true) (gC : X.mg x = some (.ref (L.ga x))) (kC : PySem.W.keepIn X.K (.ref (L.ga x)) = true)
    (r : Raises X (.ref (L.ga x))) (hg : Gl X x) (hdb : (x == ("__debug__" : Str)) = false := by decide) : WS X L (.Raise (some (.Call (.Name x p) [.Constant (.str m) j p2] [] pos)) none pos2) (uRaise x) := by
  refine PS.wk (ps_raise hc tk (pmk_own PySem.F.excBase_ValueError q gC kC r hg hdb)) fun D σ H ⟨W, env, h, P, S, ht, c⟩ => ?_
  exact c.er W ⟨x, none⟩ env h σ H _ none .refl S ⟨rfl, fun _ => rfl, fun f u e => by cases e⟩ ht
@[simp] def fPop : UMt := fun us args P => match args with
  | [] => (match us[us.length - 1]? with
    | some u => P u us.dropLast
    | none => False)
  | [.int i] => us.length ≤ sizeLine ∧ (match ixN us.length i with
    | some k => (match us[k]? with
      | some u => P u (us.eraseIdx k)
      | none => False)
    | none => False)
  | _ => False
theorem RVs.dropLast {W : Wd} {H : Hp} {us : List U} {vs : List V} (r : RVs K W H us vs) : RVs K W H us.dropLast vs.dropLast := by
  rw [List.dropLast_eq_take, List.dropLast_eq_take, r.length]
  exact r.take _
theorem RVs.erase {W : Wd} {H : Hp} : ∀ {us : List U} {vs : List V} (k : Nat), RVs K W H us vs → RVs K W H (us.eraseIdx k) (vs.eraseIdx k)
  | _, _, _, .nil => .nil
  | _, _, 0, .cons _ t => t
  | _, _, k + 1, .cons a t => .cons a (RVs.erase k t)
theorem mtU_pop : MtU X "list.pop" fPop := by
  intro pins s σ H x xs v us Q I rx rs q
  obtain ⟨K, W, as, args, a, ys, rfl, ea, rv, ra, P, hf, c⟩ := q
  unfold fPop at hf
  split at hf
  · cases ra
    split at hf
    · rename_i u eu
      obtain ⟨y, ey, ry⟩ := rv.get eu
      rw [rv.length] at ey
      exact mt_pop pins s σ H _ _ v us Q I rx rs ⟨a, ys, y, rfl, rfl, ea, ey, c _ _ _ _ ry rv.dropLast hf⟩
    · exact hf.elim
  · obtain ⟨y, rfl, ry⟩ := RVs.one ra
    cases ry.int_
    obtain ⟨hz, hf⟩ := hf
    split at hf
    · rename_i k ek
      split at hf
      · rename_i u eu
        obtain ⟨y, ey, ry⟩ := rv.get eu
        rw [rv.length] at ek hz
        obtain ⟨h1, h2, h3, h4⟩ := ixN_seq ek
        have hn := line63
        exact mt_popAt pins s σ H _ _ v us Q I rx rs ⟨a, ys, _, k, y, rfl, rfl, ea, by omega, by omega, h1, ey, c _ _ _ _ ry (rv.erase k) hf⟩
      · exact hf.elim
    · exact hf.elim
  · exact hf.elim
/-- a, b = x, y with plain local names -/
@[simp] def uPar2 (i j : Nat) (t : UA) : US := fun env h P => t env h (fun us env1 h1 => match us with
  | [u, w] => i < env1.length ∧ j < env1.length ∧ P.nx ((env1.set i (some (.val u))).set j (some (.val w))) h1
  | _ => False) P.er
theorem ws_par2 {i j : Nat} {s : Stmt} {t : UA} (hp : PS X s (tPar i j (lg L (RA L) t))) : WS X L s (uPar2 i j t) := by
  refine PS.wk hp fun D σ H ⟨W, env, h, P, S, ht, c⟩ => ?_
  refine ⟨W, env, h, _, _, S, ht, ⟨fun W1 us env1 h1 vs H1 l1 S1 r1 q1 => ?_, c.ret.er⟩⟩
  split at q1
  · obtain ⟨v, w, rfl, rv, rw_⟩ := RVs.two r1
    refine ⟨v, w, rfl, c.nx W1 _ h1 _ H1 l1 ((S1.store q1.1 rv).store (by simpa using q1.2.1) rw_) q1.2.2⟩
  · exact q1.elim
theorem vals_getD {us : List Value} {vs : List V} (r : Vals vs us) (i : Nat) : RelV (vs.getD i .non) (us.getD i .none) := by
  cases e : vs[i]? with
  | none =>
    have e2 := Vals.none_of r e
    rw [List.getD_eq_getElem?_getD, List.getD_eq_getElem?_getD, e, e2]
    rfl
  | some v =>
    obtain ⟨u, eu, ru⟩ := Vals.get r e
    rw [List.getD_eq_getElem?_getD, List.getD_eq_getElem?_getD, e, eu]
    exact ru
theorem rvs_getD {W : Wd} {H : Hp} {us : List U} {vs : List V} (r : RVs K W H us vs) (i : Nat) : RV K W H (us.getD i .non) (vs.getD i .non) := by
  cases e : us[i]? with
  | none =>
    have e2 : vs[i]? = none := by
      rw [List.getElem?_eq_none_iff] at e ⊢
      rw [← r.length]
      exact e
    rw [List.getD_eq_getElem?_getD, List.getD_eq_getElem?_getD, e, e2]
    exact .non
  | some v =>
    obtain ⟨u, eu, ru⟩ := r.get e
    rw [List.getD_eq_getElem?_getD, List.getD_eq_getElem?_getD, e, eu]
    exact ru
end
end Vi

/-! Vi11: facts for simp. -/
namespace Vi
open PySem PySem.Spec PyProof.Rows L2
theorem flatUs_strs : ∀ l : List Str, flatUs (l.map U.str) = some (l.map V.str)
  | [] => rfl
  | x :: l => by simp [flatUs, flatU, flatUs_strs l]
theorem inV_strs (x : Str) : ∀ l : List Str, inV (.str x) (l.map V.str) = decide (x ∈ l)
  | [] => rfl
  | y :: l => by
    have ih := inV_strs x l
    unfold inV at ih ⊢
    rw [List.map_cons, List.any_cons, ih]
    by_cases h : y = x
    · subst h; simp [eqV]
    · have h' : ¬ x = y := fun z => h z.symm
      simp [eqV, h, h']
theorem inU_tup (x : Str) (l : List Str) : inU? (.str x) (.tup (l.map U.str)) = some (decide (x ∈ l)) := by
  unfold inU?
  simp only [flatU, seqU, Option.bind_some, flatUs_strs, inV_strs]
theorem inU_lst (x : Str) (l : List Str) : inU? (.str x) (.lst (l.map U.str)) = some (decide (x ∈ l)) := by
  unfold inU?
  simp only [flatU, seqU, Option.bind_some, flatUs_strs, inV_strs]
@[simp] theorem eqU_str (x y : Str) : eqU? (.str x) (.str y) = some (decide (x = y)) := rfl
@[simp] theorem eqU_int (x y : Int) : eqU? (.int x) (.int y) = some (decide (x = y)) := rfl
@[simp] theorem eqU_bl (x y : Bool) : eqU? (.bl x) (.bl y) = some (decide (x = y)) := rfl
end Vi

/-! Vi12: values that repr shows within its limits. -/
namespace Vi
open PySem PySem.Spec PyProof.Rows L2
/-- data whose text has at most n signs, at most k deep -/
def ShB (u : U) (n k : Nat) : Prop := ∃ d, toD u = some d ∧ d.showable = true ∧ d.hasDict = false ∧ d.depth ≤ k ∧ d.shown.length ≤ n
def ShBs (us : List U) (n k : Nat) : Prop := ∃ ds, toDs us = some ds ∧ PyData.showableAll ds = true ∧ PyData.hasDictAll ds = false ∧ PyData.depthAll ds ≤ k ∧ ds.length = us.length ∧ ((PyData.shownAll ds).map (·.length)).sum ≤ n * us.length ∧ (PyData.shownAll ds).length = us.length
theorem ShB.some {u : U} {n k : Nat} (h : ShB u n k) (hn : n ≤ sizeLine) (hk : k ≤ 60) : ∃ x, reprU u = some x := by
  obtain ⟨d, e, h1, h2, h3, h4⟩ := h
  refine ⟨d.shown, ?_⟩
  unfold reprU
  rw [e]
  have a : d.depth ≤ 60 := by omega
  have b : d.shown.length ≤ sizeLine := by omega
  simp [h1, h2, a, b]
theorem ShB.mono {u : U} {n k n' k' : Nat} (h : ShB u n k) (hn : n ≤ n') (hk : k ≤ k') : ShB u n' k' := by
  obtain ⟨d, e, h1, h2, h3, h4⟩ := h
  exact ⟨d, e, h1, h2, by omega, by omega⟩
theorem sh_str {x : Str} {n : Nat} (h : (reprText x).length ≤ n) : ShB (.str x) n 0 := ⟨.str x, rfl, rfl, rfl, Nat.le_refl _, h⟩
theorem sh_bl {b : Bool} : ShB (.bl b) 5 0 := ⟨.bool b, rfl, rfl, rfl, Nat.le_refl _, by cases b <;> decide⟩
theorem sh_non : ShB .non 5 0 := ⟨.none, rfl, rfl, rfl, Nat.le_refl _, by decide⟩
theorem sh_int {i : Int} {k : Nat} (hk : k ≤ 1919) (h : i.natAbs.log2 ≤ k) : ShB (.int i) (k + 2) 0 := by
  refine ⟨.int i, rfl, ?_, rfl, Nat.le_refl _, ?_⟩
  · simp only [PyData.showable, decide_eq_true_eq]; omega
  · have e := int_text_length_le (a := i) (k := k + 1) (by omega) (by omega)
    show (PySem.Str.ofString (toString i)).length ≤ _
    rw [PySem.ofString_length]
    omega
theorem shs_of {n k : Nat} : ∀ {us : List U}, (∀ u ∈ us, ShB u n k) → ShBs us n k
  | [], _ => ⟨[], rfl, rfl, rfl, Nat.zero_le _, rfl, by simp [PyData.shownAll], rfl⟩
  | u :: us, h => by
    obtain ⟨d, e, h1, h2, h3, h4⟩ := h u (List.mem_cons_self ..)
    obtain ⟨ds, es, g1, g2, g3, g4, g5, g6⟩ := shs_of (us := us) fun w hw => h w (List.mem_cons_of_mem _ hw)
    refine ⟨d :: ds, ?_, ?_, ?_, ?_, ?_, ?_, ?_⟩
    · simp only [toDs, e, es]
    · simp only [PyData.showableAll, h1, g1, Bool.and_self]
    · simp only [PyData.hasDictAll, h2, g2, Bool.or_self]
    · simp only [PyData.depthAll]; omega
    · simp [g4]
    · simp only [PyData.shownAll, List.map_cons, List.sum_cons, List.length_cons, Nat.mul_add, Nat.mul_one]; omega
    · simp [PyData.shownAll, g6]
theorem ShBs.tup {us : List U} {n k : Nat} (h : ShBs us n k) : ShB (.tup us) ((n + 2) * us.length + 3) (k + 1) := by
  obtain ⟨ds, es, g1, g2, g3, g4, g5, g6⟩ := h
  refine ⟨.tuple ds, ?_, g1, g2, ?_, ?_⟩
  · simp only [toD, es, Option.map_some]
  · simp only [PyData.depth]; omega
  · simp only [PyData.shown]
    have e := tupleText_len_le (PyData.shownAll ds)
    rw [g6] at e
    rw [Nat.add_mul]; omega
theorem ShBs.lst {us : List U} {n k : Nat} (h : ShBs us n k) : ShB (.lst us) ((n + 2) * us.length + 3) (k + 1) := by
  obtain ⟨ds, es, g1, g2, g3, g4, g5, g6⟩ := h
  refine ⟨.list ds, ?_, g1, g2, ?_, ?_⟩
  · simp only [toD, es, Option.map_some]
  · simp only [PyData.depth]; omega
  · simp only [PyData.shown]
    have e := listText_len_le (PyData.shownAll ds)
    rw [g6] at e
    rw [Nat.add_mul]; omega
end Vi

/-! Vi13: loops with an invariant, the pot, bounds of bits. -/
namespace Vi
open PySem PySem.Spec PyProof.Rows L2
theorem forU_inv {g : UG} {b : US} {P : UD} (I : En → Hv → Prop) (last : ∀ e h, I e h → P.nx e h) : ∀ (l : List U), (∀ u ∈ l, ∀ e h F, I e h → (∀ e h, I e h → F e h) → g u e h fun e1 h1 => b e1 h1 { nx := F, rt := P.rt, er := P.er, bk := P.nx, ct := F }) → ∀ e h, I e h → forU g b P l e h
  | [], _, e, h, i => last e h i
  | u :: us, st, e, h, i => st u (List.mem_cons_self ..) e h _ i fun e1 h1 i1 => forU_inv I last us (fun w hw => st w (List.mem_cons_of_mem _ hw)) e1 h1 i1
/-- .. the invariant with the place -/
theorem forU_ix' {g : UG} {b : US} {P : UD} (I : Nat → En → Hv → Prop) : ∀ (l : List U) (k : Nat), (∀ e h, I (k + l.length) e h → P.nx e h) → (∀ j u, l[j]? = some u → ∀ e h F, I (k + j) e h → (∀ e h, I (k + j + 1) e h → F e h) → g u e h fun e1 h1 => b e1 h1 { nx := F, rt := P.rt, er := P.er, bk := P.nx, ct := F }) → ∀ e h, I k e h → forU g b P l e h
  | [], k, last, _, e, h, i => last e h (by simpa using i)
  | u :: us, k, last, st, e, h, i => by
    refine st 0 u (by simp) e h _ (by simpa using i) fun e1 h1 i1 => ?_
    refine forU_ix' I us (k + 1) (fun e h i => last e h ?_) (fun j w hw e h F i0 hF => st (j + 1) w (by simpa using hw) e h F ?_ fun e h i2 => hF e h ?_) e1 h1 (by simpa using i1)
    · rw [List.length_cons, show k + (us.length + 1) = k + 1 + us.length by omega]; exact i
    · rw [show k + (j + 1) = k + 1 + j by omega]; exact i0
    · rw [show k + 1 + j + 1 = k + (j + 1) + 1 by omega]; exact i2
theorem forU_ix {g : UG} {b : US} {P : UD} (I : Nat → En → Hv → Prop) {l : List U} (last : ∀ e h, I l.length e h → P.nx e h) (st : ∀ j u, l[j]? = some u → ∀ e h F, I j e h → (∀ e h, I (j + 1) e h → F e h) → g u e h fun e1 h1 => b e1 h1 { nx := F, rt := P.rt, er := P.er, bk := P.nx, ct := F }) {e : En} {h : Hv} (i : I 0 e h) : forU g b P l e h :=
  forU_ix' I l 0 (fun e h i => last e h (by simpa using i)) (fun j u hu e h F i0 hF => st j u hu e h F (by simpa using i0) fun e h i1 => hF e h (by simpa using i1)) e h i
/-- a comprehension: what holds of each item, what is kept; as many as walked -/
theorem compU_inv {g : UG} {tt : UT} {te : UE} {vs : List Nat} {Po : List U → En → Hv → Prop} (I : List U → En → Hv → Prop) (last : ∀ acc e h, I acc e h → Po acc e h) : ∀ (l : List U), (∀ u ∈ l, ∀ acc e h (F : List U → En → Hv → Prop), I acc e h → (∀ acc e h, I acc e h → F acc e h) → g u e h fun env1 h1 => tt env1 h1 (fun b env2 h2 => if b = true then te env2 h2 (fun sv env3 h3 => acc.length < sizeLine ∧ F (acc ++ [sv.u]) (wipeE env3 vs) h3) noEx else F acc (wipeE env2 vs) h2) noEx) → ∀ acc e h, I acc e h → compU g tt te vs Po l acc e h
  | [], _, acc, e, h, i => last acc e h i
  | u :: us, st, acc, e, h, i => st u (List.mem_cons_self ..) acc e h _ i fun a1 e1 h1 i1 => compU_inv I last us (fun w hw => st w (List.mem_cons_of_mem _ hw)) a1 e1 h1 i1
theorem compU_ix' {g : UG} {tt : UT} {te : UE} {vs : List Nat} {Po : List U → En → Hv → Prop} (I : Nat → List U → En → Hv → Prop) : ∀ (l : List U) (k : Nat), (∀ acc e h, I (k + l.length) acc e h → Po acc e h) → (∀ j u, l[j]? = some u → ∀ acc e h (F : List U → En → Hv → Prop), I (k + j) acc e h → (∀ acc e h, I (k + j + 1) acc e h → F acc e h) → g u e h fun env1 h1 => tt env1 h1 (fun b env2 h2 => if b = true then te env2 h2 (fun sv env3 h3 => acc.length < sizeLine ∧ F (acc ++ [sv.u]) (wipeE env3 vs) h3) noEx else F acc (wipeE env2 vs) h2) noEx) → ∀ acc e h, I k acc e h → compU g tt te vs Po l acc e h
  | [], k, last, _, acc, e, h, i => last acc e h (by simpa using i)
  | u :: us, k, last, st, acc, e, h, i => by
    refine st 0 u (by simp) acc e h _ (by simpa using i) fun a1 e1 h1 i1 => ?_
    refine compU_ix' I us (k + 1) (fun a e h i => last a e h ?_) (fun j w hw a e h F i0 hF => st (j + 1) w (by simpa using hw) a e h F ?_ fun a e h i2 => hF a e h ?_) a1 e1 h1 (by simpa using i1)
    · rw [List.length_cons, show k + (us.length + 1) = k + 1 + us.length by omega]; exact i
    · rw [show k + (j + 1) = k + 1 + j by omega]; exact i0
    · rw [show k + 1 + j + 1 = k + (j + 1) + 1 by omega]; exact i2
theorem compU_ix {g : UG} {tt : UT} {te : UE} {vs : List Nat} {Po : List U → En → Hv → Prop} (I : Nat → List U → En → Hv → Prop) {l : List U} (last : ∀ acc e h, I l.length acc e h → Po acc e h) (st : ∀ j u, l[j]? = some u → ∀ acc e h (F : List U → En → Hv → Prop), I j acc e h → (∀ acc e h, I (j + 1) acc e h → F acc e h) → g u e h fun env1 h1 => tt env1 h1 (fun b env2 h2 => if b = true then te env2 h2 (fun sv env3 h3 => acc.length < sizeLine ∧ F (acc ++ [sv.u]) (wipeE env3 vs) h3) noEx else F acc (wipeE env2 vs) h2) noEx) {acc : List U} {e : En} {h : Hv} (i : I 0 acc e h) : compU g tt te vs Po l acc e h :=
  compU_ix' I l 0 (fun a e h i => last a e h (by simpa using i)) (fun j u hu a e h F i0 hF => st j u hu a e h F (by simpa using i0) fun a e h i1 => hF a e h (by simpa using i1)) acc e h i
theorem rangeU_len (lo : Int) (n : Nat) : (rangeU lo n).length = n := by simp [rangeU]
theorem rangeU_at {lo : Int} {n j : Nat} {u : U} (h : (rangeU lo n)[j]? = some u) : j < n ∧ u = .int (lo + j) := by
  unfold rangeU at h
  rw [List.getElem?_map] at h
  by_cases hj : j < n
  · rw [List.getElem?_range hj] at h
    exact ⟨hj, by simpa using h.symm⟩
  · rw [List.getElem?_eq_none (by simpa using hj)] at h
    cases h
/-! ### bits -/
def LB (i : Int) (k : Nat) : Prop := i.natAbs < 2 ^ k
theorem LB.mul {i j : Int} {k m : Nat} (a : LB i k) (b : LB j m) : LB (i * j) (k + m) := by
  unfold LB at *
  rw [Int.natAbs_mul, Nat.pow_add]
  rcases Nat.eq_zero_or_pos j.natAbs with z | z
  · rw [z, Nat.mul_zero]; exact Nat.mul_pos (Nat.two_pow_pos _) (Nat.two_pow_pos _)
  · exact Nat.lt_of_lt_of_le (Nat.mul_lt_mul_of_pos_right a z) (Nat.mul_le_mul_left _ (Nat.le_of_lt b))
theorem LB.add {i j : Int} {k : Nat} (a : LB i k) (b : LB j k) : LB (i + j) (k + 1) := by
  unfold LB at *
  have := Int.natAbs_add_le i j
  rw [Nat.pow_succ]; omega
theorem LB.mono {i : Int} {k m : Nat} (a : LB i k) (h : k ≤ m) : LB i m := Nat.lt_of_lt_of_le a (Nat.pow_le_pow_right (by decide) h)
theorem LB.log {i : Int} {k : Nat} (a : LB i k) : i.natAbs.log2 ≤ k := by
  unfold LB at a
  by_cases z : i.natAbs = 0
  · rw [z]; simp
  · exact Nat.le_of_lt ((Nat.log2_lt z).mpr a)
theorem cmul_l {i j : Int} (h : -(2 ^ 64) < i ∧ i < 2 ^ 64) : CMul i j ∨ CMulW i j := .inl (.inl h)
theorem cmul_r {i j : Int} (h : -(2 ^ 64) < j ∧ j < 2 ^ 64) : CMul i j ∨ CMulW i j := .inl (.inr h)
theorem cmul_w {i j : Int} {k m : Nat} (a : LB i k) (b : LB j m) (h : k + m < 1000000) : CMul i j ∨ CMulW i j := by
  have := a.log; have := b.log
  exact .inr (show i.natAbs.log2 + j.natAbs.log2 < 1000000 by omega)
/-! ### the pot -/
/-- at i stands a pot that was drawn from at most k times -/
def PotAt (h : Hv) (i k : Nat) : Prop := ∃ a b n : Int, h[i]? = some (.lst [.int a, .int b, .int n]) ∧ 0 ≤ b ∧ b < 2 ^ 60 ∧ 0 ≤ n ∧ n ≤ k
theorem PotAt.mono {h : Hv} {i k m : Nat} (p : PotAt h i k) (hk : k ≤ m) : PotAt h i m := by
  obtain ⟨a, b, n, e, h1, h2, h3, h4⟩ := p
  exact ⟨a, b, n, e, h1, h2, h3, by omega⟩
/-- the rest of the heap stays -/
def Rest (i : Nat) (h h' : Hv) : Prop := h'.length = h.length ∧ ∀ j, j ≠ i → h'[j]? = h[j]?
theorem Rest.refl {i : Nat} {h : Hv} : Rest i h h := ⟨rfl, fun _ _ => rfl⟩
theorem Rest.trans {i : Nat} {h h1 h2 : Hv} (a : Rest i h h1) (b : Rest i h1 h2) : Rest i h h2 := ⟨b.1.trans a.1, fun j hj => (b.2 j hj).trans (a.2 j hj)⟩
theorem Rest.set {i : Nat} {h : Hv} {o : Ob} : Rest i h (h.set i o) := ⟨List.length_set, fun j hj => List.getElem?_set_ne (fun z => hj z.symm)⟩
theorem obL_of {h : Hv} {i : Nat} {us : List U} (e : h[i]? = some (.lst us)) : obL h i = some us := by unfold obL; rw [e]
theorem lt_of_at {h : Hv} {i : Nat} {o : Ob} (e : h[i]? = some o) : i < h.length := (List.getElem?_eq_some_iff.mp e).1
theorem obL_set {h : Hv} {i : Nat} {us : List U} (e : i < h.length) : obL (h.set i (.lst us)) i = some us := obL_of (by rw [List.getElem?_set_self e])
end Vi

/-! Vi14: an error object made as a value. -/
namespace Vi
open PySem PySem.Spec PyProof.Rows L2
@[simp] def uErr (x : Str) : UE := fun env h Po _ => Po (.val (.err x)) env h
section
variable {X : Cx} {L : Lx}
/-- a new thing at a free place, tracked -/
theorem hok_new {P : Program} {w : World} {H : Hp} {h h' : Heap} {a : Addr} {o : HO} (x : HOk P w H h) (k : ∀ b u, h.get? b = some u → h'.get? b = some u) (hn : H a = none) (new : ObjOk P w (upd H a o) h' a o) : HOk P w (upd H a o) h' := by
  intro b u e
  by_cases hb : b = a
  · subst hb
    rw [upd_same] at e
    cases e
    exact new
  · rw [upd_ne hb] at e
    refine (x b u e).stay (fun c v _ q => k c v q) (fun c q => ?_) (fun c xs q => ?_)
    · rw [upd_ne (ne_of_none q hn)]; exact q
    · rw [upd_ne (ne_of_none q hn)]; exact q
theorem un_new {fs ex : List Addr} {H : Hp} {h h' : Heap} {a : Addr} {o : HO} (k : ∀ b u, h.get? b = some u → h'.get? b = some u) (hg : h.get? a = none) (hn : H a = none) : Un fs ex H (upd H a o) h h' where
  keep := fun b ob e _ _ _ => k b ob e
  slot := fun b ob e _ _ => fun _ => ⟨ob.slots, k b ob e⟩
  free := fun b ob e n _ => by
    rw [upd_ne (fun z => by subst z; rw [hg] at e; cases e)]
    exact n
  there := fun b ob e _ => ⟨ob, k b ob e⟩
  tups := fun b xs e => by rw [upd_ne (ne_of_none e hn)]; exact e
  frzs := fun b ob z e => by rw [upd_ne (ne_of_none e hn)]; exact e
  tbls := fun b ps e => ⟨#[], by rw [upd_ne (ne_of_none e hn), e]; simp⟩
theorem we_err {x m : Str} {j : Nat} {p p2 pos : Pos} (q : eclB X.K x = true) (hK : L.K = X.K) (gC : X.mg x = some (.ref (He.ga X.K x))) (hg : Gl X x) (hdb : (x == ("__debug__" : Str)) = false := by decide) : WE X L (.Call (.Name x p) [.Constant (.str m) j p2] [] pos) (uErr x) := by
  obtain ⟨c0, _, _⟩ := eclB_ok q
  obtain ⟨c1, c2, c3, c4⟩ := He.exc_ok c0
  refine ⟨fun pins s σ H Q I ht => ?_⟩
  obtain ⟨W, env, h, Po, Pe, S, ht, c⟩ := ht
  have mk := pmk_own (j := j) (p := p) (p2 := p2) (pos := pos) (m := m) PySem.F.excBase_ValueError c1 gC c2 (raises_own c3 c4) hg hdb
  refine wpAny_mono (mk pins s σ H (fun cls d H' => cls = .ref (He.ga X.K x) ∧ d = none ∧ H' = H) I ⟨rfl, rfl, rfl⟩) (fun u s' mp => ?_) (fun _ _ z => z)
  obtain ⟨a, oe, vs, sI, H', cls, d, rfl, J, k, hne, he, hz, hd, _, na, os, ag, _, rfl, rfl, rfl⟩ := mp
  obtain ⟨S2, l2⟩ : Sim L.K W env h σ (upd H' a (.frz oe (.own a))) ∧ LeW W H' W (upd H' a (.frz oe (.own a))) := ⟨S.none_ na _, .none_ S.sh na _⟩
  have new : ObjOk X.prog X.w (upd H' a (.frz oe (.own a))) s'.heap a (.frz oe (.own a)) := ⟨he, oe, he⟩
  refine ⟨.ref a, _, J.call' (ch := []) os (un_new k hne na) (hok_new J.hok k na new) ag (fun _ z => by cases z), rfl, ?_⟩
  refine c.ok W (.val (.err x)) env h _ _ l2 S2 (.err ⟨oe, vs, upd_same, by rw [hK]; exact hz.1, hz.2, hd⟩ (by rw [hK]; exact q)) ht
end
@[simp] def uChn (f g : UO) (a b c : UE) : UE := fun env h Po Pe => a env h (fun x env1 h1 => b env1 h1 (fun y env2 h2 => f x.u y.u h2 (fun sv h3 => svB sv fun k => if k = true then c env2 h3 (fun z env4 h4 => g y.u z.u h4 (fun sv h5 => Po sv env4 h5)) Pe else Po (.val (.bl false)) env2 h3)) Pe) Pe
section
variable {X : Cx} {L : Lx} {pos : Pos} {a b c : Expr} {ta tb tc : UE} {f g : UO}
theorem lg_chn {σ : L2.St} {H : Hp} {Q : VK} (h : lg L (RT L) (uChn f g ta tb tc) σ H Q) : tChain (lo L.K f) (lo L.K g) (lg L (RT L) ta) (lg L (RT L) tb) (lg L (RT L) tc) σ H Q := by
  obtain ⟨W, env, h, Po, Pe, S, ht, c⟩ := h
  refine ⟨W, env, h, _, _, S, ht, ⟨fun W1 x env1 h1 v1 H1 l1 S1 r1 q1 => ?_, c.er⟩⟩
  obtain ⟨W1', S1', l1', rv1⟩ := S1.freeze r1
  have c1 := c.le (l1.trans l1')
  refine ⟨W1', env1, h1, _, _, S1', q1, ⟨fun W2 y env2 h2 v2 H2 l2 S2 r2 q2 => ?_, c1.er⟩⟩
  obtain ⟨W2', S2', l2', rv2⟩ := S2.freeze r2
  have c2 := c1.le (l2.trans l2')
  refine ⟨W2', env2, h2, σ, x.u, y.u, _, S2', rv1.le (l2.trans l2').toLeP, rv2, q2, fun W3 sv h3 v3 H3 l3 S3 r3 q3 => ?_⟩
  obtain ⟨k, rfl, q4⟩ := q3.at_ r3
  refine ⟨k, rfl, ?_⟩
  have c3 := c2.le l3
  cases k with
  | false => exact c3.ok W3 (.val (.bl false)) env2 h3 _ H3 .refl S3 (.bl _) q4
  | true =>
    refine ⟨W3, env2, h3, _, _, S3, q4, ⟨fun W4 z env4 h4 v4 H4 l4 S4 r4 q5 => ?_, c3.er⟩⟩
    obtain ⟨W4', S4', l4', rv4⟩ := S4.freeze r4
    have c4 := c3.le (l4.trans l4')
    exact ⟨W4', env4, h4, σ, y.u, z.u, _, S4', rv2.le (l3.trans (l4.trans l4')).toLeP, rv4, q5, fun W5 sv h5 v5 H5 l5 S5 r5 q6 => c4.ok W5 sv env4 h5 v5 H5 l5 S5 r5 q6⟩
theorem we_chn {o o' : CmpOp} (ho : OpR X (compareOp o) (lo L.K f)) (hg : OpR X (compareOp o') (lo L.K g)) (ha : WE X L a ta) (hb : WE X L b tb) (hc : WE X L c tc)
    (hm : lastMarks [o, o'] [b, c] = false := by with_unfolding_all rfl) : WE X L (.Compare a [o, o'] [b, c] pos) (uChn f g ta tb tc) :=
  PE.wk (pe_chain ho hg ha hb hc hm) fun _ _ _ => lg_chn
theorem wt_chn {o o' : CmpOp} (ho : OpR X (compareOp o) (lo L.K f)) (hg : OpR X (compareOp o') (lo L.K g)) (ha : WE X L a ta) (hb : WE X L b tb) (hc : WE X L c tc)
    (hm : lastMarks [o, o'] [b, c] = false := by with_unfolding_all rfl) : WT X L (.Compare a [o, o'] [b, c] pos) (uB (uChn f g ta tb tc)) :=
  PT.wk (pt_chain ho hg ha hb hc hm) fun _ _ _ h => lg_chn (lg_B h)
end
theorem Tx.ecl {fa : List He.Fa} {cs : List (Str × U)} {fn : List He.DefD} {K : PySem.W.Frag} {mg : Str → Option Value} (T : Tx fa cs fn K mg) (i : Nat) {x : Str} (h : cs[i]? = some (x, .ecl x) := by rfl) : eclB K x = true ∧ mg x = some (.ref (He.ga K x)) := by
  obtain ⟨a, v, m, r, rr⟩ := T.cst i h
  have z := rr ⟨fun _ => none, []⟩ (fun _ => none)
  cases z with
  | ecl e c =>
    subst e
    exact ⟨c, by rw [m, (show a = .ref _ from r)]⟩
end Vi

/-! Vi15: divmod, the first place of a value in a list, lists of ints. -/
namespace Vi
open PySem PySem.Spec PyProof.Rows L2
@[simp] def bDivmod : UB := fun us h P => match us with
  | [.int i, .int j] => CDiv i j ∧ P (.val (.tup [.int (i / j), .int (i % j)])) h
  | _ => False
theorem call_divmodU {X : Cx} {K : PySem.W.Frag} (hK : K = X.K) : CallR X (.builtin "divmod") (lb K bDivmod) := by
  refine CallR.wk call_divmod fun xs H Q ⟨W, env, h, σ, us, P, S, r, ht, c⟩ => ?_
  unfold bDivmod at ht
  split at ht
  · obtain ⟨v, w, rfl, ru, rw_⟩ := RVs.two r
    cases ru
    cases rw_
    refine ⟨_, _, rfl, ht.1, fun p hp => ?_⟩
    exact c.tup S (.cons (.int _) (.cons (.int _) .nil)) ht.2 hp
  · exact ht.elim
/-- x.index(e), x a name of a list that stays -/
@[simp] def uIdx (k : Nat) (r : UA) : UE := fun env h Po Pe => ∃ us vs, env[k]? = some (some (.val (.lst us))) ∧ flatUs us = some vs ∧ r env h (fun args env1 h1 => match args with
  | [u] => ∃ v j z, flatU u = some v ∧ vs[j]? = some z ∧ eqV z v = true ∧ (∀ (m : Nat) (z' : V), m < j → vs[m]? = some z' → eqV z' v = false) ∧ Po (.val (.int (j : Nat))) env1 h1
  | _ => False) Pe
theorem we_idx {X : Cx} {L : Lx} {k : Nat} {e : Expr} {x : Str} {p apos cpos : Pos} {r : UA} (hK : L.K = X.K)
    (hx : PE X (.Name x p) (tVar k)) (hA : WA X L [e] r)
    (hbase : attributeBase (.Name x p) "index" X.env (eval (.Name x p) X.env) = eval (.Name x p) X.env := by rfl)
    (hfew : ((backTo cpos (starEach [e] X.env)).all (fun x => !x.1) && (backToKw cpos (keywordEach [] X.env)).all (fun x => x.1.isSome) && decide ([e].length + ([] : List Keyword).length + (if ([] : List Keyword).isEmpty then 0 else 1) < 30)) = true := by rfl)
    (hline : (apos.endLine == cpos.line) = true := by rfl) (hs : starEach [e] X.env = (false, eval e X.env) :: starEach [] X.env := by rfl) (hplain : (backTo cpos (starEach [] X.env)).any (·.1) = false := by rfl) :
    WE X L (.Call (.Attribute (.Name x p) "index" apos) [e] [] cpos) (uIdx k r) := by
  refine PE.wk (pe_bm PySem.F.plainAttrs_list PySem.F.slot_list_index PySem.F.type_list_index mt_index hx hA hbase hfew hline hs hplain) fun σ H Q ⟨W, env, h, Po, Pe, S, ⟨us, vs, e0, ef, ht⟩, c⟩ => ?_
  obtain ⟨v, ev, rv⟩ := S.slots k _ e0
  have rv' : RV L.K W H (.lst us) v := rv
  cases rv' with
  | lst n ea rs =>
    rename_i a ws
    obtain ⟨e1, e2⟩ := rs.flat ef
    subst e1
    refine ⟨_, ev, .inl ⟨rfl, ws, .inl (.inl ea)⟩, W, env, h, _, _, S, ht, ⟨fun W1 args env1 h1 avs H1 l1 S1 r1 q1 => ?_, c.er⟩⟩
    split at q1
    · obtain ⟨y, rfl, ry⟩ := RVs.one r1
      obtain ⟨vv, j, z, f1, f2, f3, f4, f5⟩ := q1
      obtain ⟨g1, g2⟩ := ry.flat f1
      subst g1
      have ea1 := (l1.toLeP.fr _ _ ea n).2
      exact ⟨a, ws, y, j, z, rfl, rfl, .inl (.inl ea1), g2, e2, f2, f3, f4, c.ok W1 (.val (.int j)) env1 h1 _ H1 l1 S1 (.int _) f5⟩
    · exact q1.elim
/-! ### lists of ints -/
def intsU (ns : List Int) : U := .lst (ns.map U.int)
theorem toDs_ints : ∀ ns : List Int, toDs (ns.map U.int) = some (ns.map PyData.int)
  | [] => rfl
  | n :: ns => by simp [toDs, toD, toDs_ints ns]
theorem flatUs_ints : ∀ ns : List Int, flatUs (ns.map U.int) = some (ns.map V.int)
  | [] => rfl
  | n :: ns => by simp [flatUs_ints ns]
theorem shaped_ints (ns : List Int) : SeqAt.shaped (.list (ns.map PyData.int)) = true := by
  have h1 : ∀ ns : List Int, PyData.canLayAll0 (ns.map PyData.int) = true := fun ns => by
    induction ns with
    | nil => rfl
    | cons n ns ih => simp [PyData.canLayAll0, PyData.canLay0, ih]
  have h2 : ∀ ns : List Int, PyData.depthAll (ns.map PyData.int) = 0 := fun ns => by
    induction ns with
    | nil => rfl
    | cons n ns ih => simp [PyData.depthAll, PyData.depth, ih]
  simp [SeqAt.shaped, PyData.canLay0, PyData.depth, h1, h2]
theorem eqU_ints_nil (ns : List Int) : eqU? (.lst (ns.map U.int)) (.lst []) = some ns.isEmpty := by
  show eqD? _ _ = _
  have e : toD (.lst (ns.map U.int)) = some (.list (ns.map PyData.int)) := by simp [toD, toDs_ints]
  have s2 := shaped_ints []
  simp only [List.map_nil] at s2
  unfold eqD?
  rw [e]
  simp only [toD, toDs, Option.map_some, shaped_ints, s2, Bool.and_self, if_true]
  cases ns <;> rfl
end Vi

/-! Vi16: a tuple so many times, data in a tuple of data. -/
namespace Vi
open PySem PySem.Spec PyProof.Rows L2
/-- x in a tuple, by data -/
def inD? (u w : U) : Option Bool := match toD u, toD w with
  | some d, some (.tuple ds) => if SeqAt.shaped d && SeqAt.shaped (.tuple ds) then some (ds.any fun z => PyData.eqv z d) else none
  | _, _ => none
@[simp] def bInD (neg : Bool) : UO := fun u w h P => match inD? u w with
  | some b => P (.val (.bl (if neg then !b else b))) h
  | none => False
section
variable {X : Cx}
theorem inD_ok {u w : U} {b : Bool} (h : inD? u w = some b) : ∃ d ds, toD u = some d ∧ toD w = some (.tuple ds) ∧ SeqAt.shaped d = true ∧ SeqAt.shaped (.tuple ds) = true ∧ b = ds.any fun z => PyData.eqv z d := by
  unfold inD? at h
  split at h
  · rename_i d ds h1 h2
    split at h
    · rename_i h3
      simp only [Bool.and_eq_true] at h3
      cases h
      exact ⟨d, ds, h1, h2, h3.1, h3.2, rfl⟩
    · cases h
  · cases h
theorem op_inDU (hu : X.A.units + 64 + 1 < cLine) : OpR X (compareOp .In) (lo X.K (bInD false)) := by
  intro pins s σ H x y v u Q I rx ry q
  obtain ⟨W, env, h, σ', uu, ww, P, S, ru, rw_, ht, c⟩ := q
  unfold bInD at ht
  split at ht
  · rename_i b e
    obtain ⟨d, ds, h1, h2, h3, h4, rfl⟩ := inD_ok e
    obtain ⟨as, r1⟩ := Dp.reads I d x v (ru.dp h1) rx
    obtain ⟨bs, r2⟩ := Dp.reads I (.tuple ds) y u (rw_.dp h2) ry
    exact SeqAt.in_tuple_reads r2 r1 (SeqAt.canLay_of_shaped h4) (SeqAt.canLay_of_shaped h3) (room_in_shaped h3 hu) ⟨.bl _, H, I, rfl, c.val S (.bl _) ht⟩
  · exact ht.elim
/-- a tuple once is itself -/
theorem tuple_one (l : Addr) (items : Array Value) (n : Nat) (dd : Option Addr) (sl : Array (Option Value)) (u : Tok) :
    Meets (Builtin.«tuple.__mul__» ⟨[.ref l, .int 1 u], []⟩) (fun _ R s => s.heap.get? l = some { cls := .type "tuple", dict := dd, data := .seq items n, slots := sl } ∧ R (.ok (.ret (Value.ref l))) s) :=
  .of_wp fun prog w A R s h => by
    obtain ⟨hp, g, d, tk, os⟩ := s
    obtain ⟨hl, h⟩ := h
    have f1 := AutoSeq1.idx_int
    wp_walk using wpAny_loadPart' hl
    exact ⟨_, rfl, h⟩
theorem op_oneT : OpR X (binaryOp .Mult) (fun x y H Q => ∃ l xs, x = V.ref l ∧ y = V.int 1 ∧ SqT X.K H l xs ∧ Q (V.ref l) H) := by
  intro pins s σ H x y v u Q I rx ry h
  obtain ⟨l, xs, rfl, rfl, hT, q⟩ := h
  cases rx
  obtain ⟨t, rfl⟩ := ry
  obtain ⟨its, r, ⟨⟨cls, dd, data, sl⟩, ho, hc, n, hd⟩, hs⟩ := I.tuple hT
  simp only at hc hd
  subst hc hd
  have fin : EP X pins σ Q (.ref l) s := ⟨.ref l, H, I, rfl, q⟩
  exact wpAny_binaryOp_repeat_ref (T := "tuple") (U := "int") (by decide) ⟨_, ho, rfl⟩ (fun s' => typeIs_int s' 1 t) noFill_tuple_mul PySem.F.fills_int_mul PySem.F.slot_int_rmul repeat_tuple PySem.F.slot_int_index.lookup
    (call_meets PySem.F.slot_int_rmul (typeIs_int s 1 t) PySem.F.entry_int_rmul (PySem.F.args_int_rmul_2 _ _) (int_rmul_tuple 1 t l its.toArray n dd sl)
      ⟨ho, rfl, ⟨_, ho, rfl⟩, call_meets PySem.F.slot_tuple_mul ⟨_, ho, rfl⟩ PySem.F.entry_tuple_mul (PySem.F.args_tuple_mul_2 _ _) (tuple_one l its.toArray n dd sl t) ⟨ho, fin⟩⟩)
/-- .. not at all: a new empty one -/
theorem tuple_zero (l : Addr) (a : Value) (items : List Value) (n : Nat) (dd : Option Addr) (sl : Array (Option Value)) (u : Tok) :
    Meets (Builtin.«tuple.__mul__» ⟨[.ref l, .int 0 u], []⟩) (fun _ R s => s.heap.get? l = some { cls := .type "tuple", dict := dd, data := .seq (a :: items).toArray n, slots := sl } ∧
      R (.ok (.ret (Value.ref s.heap.objs.size))) { s with heap := s.heap.push { cls := Value.type "tuple", data := Data.seq #[] }, toks := s.toks }) :=
  .of_wp fun prog w A R s h => by
    obtain ⟨hp, g, d, tk, os⟩ := s
    obtain ⟨hl, h⟩ := h
    have f1 := AutoSeq1.idx_int
    wp_walk using wpAny_loadPart' hl
    exact ⟨_, rfl, h⟩
theorem op_zeroT : OpR X (binaryOp .Mult) (fun x y H Q => ∃ l xs, x = V.ref l ∧ y = V.int 0 ∧ SqT X.K H l xs ∧ xs ≠ [] ∧ ∀ p, H p = none → Q (V.ref p) (upd H p (.tup []))) := by
  intro pins s σ H x y v u Q I rx ry h
  obtain ⟨l, xs, rfl, rfl, hT, hne, q⟩ := h
  cases rx
  obtain ⟨t, rfl⟩ := ry
  obtain ⟨its, r, ⟨⟨cls, dd, data, sl⟩, ho, hc, n, hd⟩, hs⟩ := I.tuple hT
  simp only at hc hd
  subst hc hd
  cases its with
  | nil =>
    have e : xs.length = 0 := r.length
    exact absurd (List.length_eq_zero_iff.mp e) hne
  | cons a its =>
    have fin : EP X pins σ Q (.ref s.heap.objs.size) { s with heap := s.heap.push { cls := Value.type "tuple", data := Data.seq #[] }, toks := s.toks } :=
      ⟨.ref s.heap.objs.size, _, I.laid (t' := s.toks) (o := .tup []) (fun b ob z => Heap.get?_push_of_some _ z) (Nat.le_refl _) ⟨Nat.zero_le _, [], .nil, IsTup.new _ _⟩, rfl, q _ (I.hok.fresh (Nat.le_refl _))⟩
    exact wpAny_binaryOp_repeat_ref (T := "tuple") (U := "int") (by decide) ⟨_, ho, rfl⟩ (fun s' => typeIs_int s' 0 t) noFill_tuple_mul PySem.F.fills_int_mul PySem.F.slot_int_rmul repeat_tuple PySem.F.slot_int_index.lookup
      (call_meets PySem.F.slot_int_rmul (typeIs_int s 0 t) PySem.F.entry_int_rmul (PySem.F.args_int_rmul_2 _ _) (int_rmul_tuple 0 t l (a :: its).toArray n dd sl)
        ⟨ho, rfl, ⟨_, ho, rfl⟩, call_meets PySem.F.slot_tuple_mul ⟨_, ho, rfl⟩ PySem.F.entry_tuple_mul (PySem.F.args_tuple_mul_2 _ _) (tuple_zero l a its n dd sl t) ⟨ho, fin⟩⟩)
@[simp] def bMulT : UO := fun u w h P => match u, w with
  | .tup a, .int k => a ≠ [] ∧ 0 ≤ k ∧ k ≤ 1000 ∧ a.length ≤ 1000 ∧ P (.val (.tup (List.replicate k.toNat a).flatten)) h
  | _, _ => False
theorem op_mulTU : OpR X (binaryOp .Mult) (lo X.K bMulT) := by
  refine OpR.wk ((op_oneT.or op_zeroT).or op_repT) fun x y H Q ⟨W, env, h, σ, u, w, P, S, ru, rw_, ht, c⟩ => ?_
  unfold bMulT at ht
  split at ht
  · rename_i a k
    obtain ⟨h1, h2, h3, h4, q⟩ := ht
    have ru0 := ru
    cases rw_
    cases ru with
    | tup hq r =>
      by_cases hk : k = 1
      · subst hk
        refine .inl (.inl ⟨_, _, rfl, rfl, hq.sq, c.val S ru0 ?_⟩)
        simpa using q
      by_cases hk0 : k = 0
      · subst hk0
        refine .inl (.inr ⟨_, _, rfl, rfl, hq.sq, fun z => h1 (List.length_eq_zero_iff.mp (by rw [r.length, z]; rfl)), fun p hp => ?_⟩)
        exact c.tup S .nil (by simpa using q) hp
      · refine .inr ⟨_, _, _, rfl, rfl, hq.sq, fun z => h1 (List.length_eq_zero_iff.mp (by rw [r.length, z]; rfl)), by omega, h3, by rw [← r.length]; exact h4, fun p hp => ?_⟩
        exact c.tup S (r.rep k.toNat) q hp
  · exact ht.elim
end
theorem room5 {k : Nat} {A : Around} (r : Room k A) : A.units + 64 + 1 < cLine := by
  have := r.un
  omega
/-- a constant that is a default: the default's address is the global's -/
theorem Tx.cstA {fa : List He.Fa} {cs : List (Str × U)} {fn : List He.DefD} {K : PySem.W.Frag} {mg : Str → Option Value} (T : Tx fa cs fn K mg) (i j : Nat) {x : Str} {u : U} (h : cs[i]? = some (x, u) := by rfl) (hj : fa[j]? = some (.glo x) := by rfl) : ∀ W H, RV K W H u (.ref (He.ga K x)) := by
  obtain ⟨a, v, m, r, rr⟩ := T.cst i h
  have e := T.glo j hj
  rw [m] at e
  cases e
  cases v with
  | ref b =>
    have z : Value.ref (He.ga K x) = Value.ref b := r
    cases z
    exact rr
  | non => cases (show Value.ref _ = Value.none from r)
  | bl b => cases (show Value.ref _ = Value.bool b from r)
  | int b => obtain ⟨t, z⟩ := (show ∃ t, Value.ref _ = Value.int b t from r); cases z
  | str b => obtain ⟨t, z⟩ := (show ∃ t, Value.ref _ = Value.str b t from r); cases z
  | byt b => exact absurd r (by unfold L2.RelV; rintro ⟨_, z⟩; cases z)
  | flt b => exact absurd r (by unfold L2.RelV; rintro ⟨_, z⟩; cases z)
  | ty b => cases (show Value.ref _ = Value.type b from r)
end Vi

/-! Vi17: data that are equal to themselves; data within the limits of ==. -/
namespace Vi
open PySem PySem.Spec PyProof.Rows L2
/-- data at most k deep, its texts sound -/
def Shp (u : U) (k : Nat) : Prop := ∃ d, toD u = some d ∧ d.canLay0 = true ∧ d.depth ≤ k
theorem Shp.mono {u : U} {k m : Nat} (h : Shp u k) (z : k ≤ m) : Shp u m := by
  obtain ⟨d, e, h1, h2⟩ := h
  exact ⟨d, e, h1, by omega⟩
theorem shp_int (i : Int) : Shp (.int i) 0 := ⟨.int i, rfl, rfl, Nat.le_refl _⟩
theorem shp_bl (b : Bool) : Shp (.bl b) 0 := ⟨.bool b, rfl, rfl, Nat.le_refl _⟩
theorem shp_str {x : Str} (h : PyData.strOk x = true) : Shp (.str x) 0 := ⟨.str x, rfl, by simp [PyData.canLay0, h], Nat.le_refl _⟩
theorem shps {k : Nat} : ∀ {us : List U}, (∀ u ∈ us, Shp u k) → ∃ ds, toDs us = some ds ∧ PyData.canLayAll0 ds = true ∧ PyData.depthAll ds ≤ k
  | [], _ => ⟨[], rfl, rfl, Nat.zero_le _⟩
  | u :: us, h => by
    obtain ⟨d, e, h1, h2⟩ := h u (List.mem_cons_self ..)
    obtain ⟨ds, es, g1, g2⟩ := shps (us := us) fun w hw => h w (List.mem_cons_of_mem _ hw)
    refine ⟨d :: ds, by simp only [toDs, e, es], by simp only [PyData.canLayAll0, h1, g1, Bool.and_self], ?_⟩
    simp only [PyData.depthAll]
    omega
theorem shp_tup {us : List U} {k : Nat} (h : ∀ u ∈ us, Shp u k) : Shp (.tup us) (k + 1) := by
  obtain ⟨ds, es, g1, g2⟩ := shps h
  exact ⟨.tuple ds, by simp only [toD, es, Option.map_some], by simpa only [PyData.canLay0] using g1, by simp only [PyData.depth]; omega⟩
theorem shp_lst {us : List U} {k : Nat} (h : ∀ u ∈ us, Shp u k) : Shp (.lst us) (k + 1) := by
  obtain ⟨ds, es, g1, g2⟩ := shps h
  exact ⟨.list ds, by simp only [toD, es, Option.map_some], by simpa only [PyData.canLay0] using g1, by simp only [PyData.depth]; omega⟩
theorem eqD_same {u : U} {k : Nat} (h : Shp u k) (hk : k ≤ 64) : eqD? u u = some true := by
  obtain ⟨d, e, h1, h2⟩ := h
  have s : SeqAt.shaped d = true := by simp [SeqAt.shaped, h1]; omega
  unfold eqD?
  rw [e]
  simp [s, SeqAt.eqv_refl d h1]
end Vi

/-! Vi18: a caught error that is kept as a value behind its suite. -/
namespace Vi
open PySem PySem.Spec PyProof.Rows L2
section
variable {X : Cx} {pins : List (Addr × Obj)} {σ : L2.St} {H : Hp} {s : Shared}
/-- an object that stands in the heap and is new since the def's begin: told from here on -/
theorem inv_told {a : Addr} {oe : Obj} {vs : Array Value} (I : L2.Inv X pins σ H s) (he : s.heap.get? a = some oe) (hd : oe.data = .fields vs) (na : H a = none) (nl : a ≠ X.env.locals) (n0 : X.s_0.heap.get? a = none) (np : ∀ p ∈ X.pn ++ pins, p.1 ≠ a) :
    L2.Inv X pins σ (upd H a (.frz oe (.own a))) s where
  ok := I.ok
  os := I.os
  bare := I.bare
  base := {
    keep := I.base.keep
    slot := I.base.slot
    free := fun b o e n hx => by
      rw [upd_ne (fun z => by subst z; rw [n0] at e; cases e)]
      exact I.base.free b o e n hx
    there := I.base.there
    tups := fun b xs e => by
      have q := I.base.tups b xs e
      rw [upd_ne (ne_of_none q na)]; exact q
    frzs := fun b o u e => by
      have q := I.base.frzs b o u e
      rw [upd_ne (ne_of_none q na)]; exact q
    tbls := fun b ps e => by
      obtain ⟨m, q⟩ := I.base.tbls b ps e
      exact ⟨m, by rw [upd_ne (ne_of_none q na)]; exact q⟩ }
  loc := I.loc
  cell := I.cell
  free := by rw [upd_ne (Ne.symm nl)]; exact I.free
  freeC := fun x c e => by
    have q := I.freeC x c e
    rw [upd_ne (fun z => ?_)]
    · exact q
    · subst z
      obtain ⟨v, o, ho, hc⟩ := I.cell x c e
      rw [he] at ho
      cases ho
      rw [hd] at hc
      cases hc
  pin := fun p hp => by
    obtain ⟨q1, q2, q3⟩ := I.pin p hp
    exact ⟨q1, by rw [upd_ne (np p hp)]; exact q2, q3⟩
  hok := hok_new I.hok (fun _ _ e => e) na ⟨he, oe, he⟩
  len := I.len
/-- what is asked where the body's error comes: caught, it is kept as a told object -/
def wKeep (K : PySem.W.Frag) (c : Value) (i : Nat) (ts : Addr → Value → Option Addr → TS) (Wo : WX) (D : Ends) : WX := fun cls d σ H =>
  ∃ b, PySem.W.exmOne K cls c = some b ∧ (b = false → Wo cls d σ H) ∧ (b = true → ∀ a oe, H a = none → oe.cls = cls → oe.dict = d → (∃ vs, oe.data = .fields vs) →
    ts a cls d ⟨fun σ1 H1 => D.nx (σ1.set i none) (upd H1 a (.frz oe (.own a))), fun _ _ => False, fun _ _ => False, fun _ _ => False⟩ (σ.set i (some (.ref a))) H)
theorem ps_try_keep {x n : Str} {c : Value} {i : Nat} {body rest : List Stmt} {st : Stmt} {np p1 p2 : Pos} {tb : WX → TS} {ts : Addr → Value → Option Addr → TS} {Wo : WX}
    (hex : X.ex = []) (hs : X.stack = X.env :: X.outer) (hf : X.env.frame = some X.env.locals) (hN : X.N.Nodup) (hi : X.N[i]? = some n) (hln : X.env.kindOf n = some .local) (hc : Names X x c) (tk : Takes X Wo)
    (hb : ∀ (W : WX) (pn : List (Addr × Obj)) (xe : Value → Shared → Prop), Takes (X.tr pn xe) W → PassesOwn (model X.prog X.w) X.A X.env xe → PSs (X.tr pn xe) body (tb W))
    (hsu : ∀ (a : Addr) (oe : Obj) (cls : Value) (d : Option Addr) (pn : List (Addr × Obj)), PSs (X.suite a ((a, oe) :: pn)) (st :: rest) (ts a cls d)) :
    PS X (.Try body [.ExceptHandler (some (.Name x np)) (some n) (st :: rest) p2] [] [] p1) (fun D σ H => tb (wKeep X.K c i ts Wo D) D σ H) := by
  constructor
  intro pins s0 σ0 H0 D I0 h0
  have ok := I0.ok
  have hfr : X.A.frames = some (X.env :: X.outer) := by
    rw [← hs]
    exact ok.frames
  apply wpAny_Try_except
  have B0 := hb (wKeep X.K c i ts Wo D) (X.pn ++ pins) (fun e t1 => wpAny (model X.prog X.w) X.A (noteFrame e X.env) (fun _ t2 => wpAny (model X.prog X.w) X.A (setFlight e none)
      (fun _ t3 => wpAny (model X.prog X.w) X.A (handleBy e X.env [.ExceptHandler (some (.Name x np)) (some n) (st :: rest) p2]) (SP X pins D) X.xe t3) X.xe t2) X.xe t1) ?tk PassesOwn.looking
  case tk =>
    rintro u s' ⟨a, B, sI, pins', σ', H', cls, d, rfl, J', nb, up, sky, na, os, ag, b, hb1, hno, hyes⟩
    have J := J'.ofTry ok
    have sky' := sky
    rw [show (X.tr (X.pn ++ pins) _).stack = X.env :: X.outer from hs] at sky'
    refine Sky.land Zc.steady hfr hf sky' fun h3 fl3 up3 => ?_
    have J3 : L2.Inv X pins σ' H' { s' with heap := h3 } := J.landed nb fl3.1 (up.trans up3) os ag
    obtain ⟨oe3, vs3, he3, hz3, hd3⟩ := fl3.there
    have nfr : a ∉ frs (X.env :: X.outer) := fun hm => by
      obtain ⟨_, o1, g1, g2⟩ := fl3.2.2.1.mem hm
      rw [he3] at g1
      cases g1
      exact g2 _ hd3
    have nl : a ≠ X.env.locals := fun z => nfr (List.mem_filterMap.mpr ⟨X.env, List.mem_cons_self, by rw [z]; exact hf⟩)
    have nF : a ∉ X.fs := fun hm => by
      obtain ⟨e, m1, m2⟩ := List.mem_filterMap.mp hm
      exact nfr (List.mem_filterMap.mpr ⟨e, List.mem_cons_of_mem _ m1, m2⟩)
    have nB : B.get? a = none := fl3.2.1
    have notIn : ∀ o, ¬ sI.heap.get? a = some o := fun o e => by
      have := nb a o e (by rw [hs]; exact nfr)
      rw [nB] at this
      cases this
    refine wpAny_handleBy_cons (codeAny_handlers_test ?_) (by intro q; cases q)
    have S3 := J3.suite he3 hd3 na nl nF
    have LT : PySem.W.Looks (model X.prog X.w) h3 (typeOf (.ref a)) cls := fun A Q E s k q => by
      apply wpAny_typeOf_ref (k _ _ he3)
      rw [hz3.1]
      exact q
    have LM := PySem.W.exm_one (M := model X.prog X.w) J3.kIn LT hb1
    have name_ok : ∀ {Q E : Value → Shared → Prop}, Q c { s' with heap := h3 } → wpAny (model X.prog X.w) (X.A.mark (some (.ref a))) (eval (.Name x np) X.env) Q E { s' with heap := h3 } := by
      intro Q E q
      rcases hc with ⟨g1, g2, g3 | ⟨g3, g4, g5⟩⟩
      · exact ld_glob (X := X.suite a ((a, oe3) :: (X.pn ++ pins))) S3 g1 g3 q g2
      · exact ld_blt (X := X.suite a ((a, oe3) :: (X.pn ++ pins))) S3 g1 g3 g4 q g5 g2
    apply name_ok
    apply LM.here
    cases b with
    | false =>
      show wpAny _ X.A (handleBy (.ref a) X.env []) _ _ _
      apply wpAny_handleBy_nil
      have fl := fl3
      obtain ⟨_, _, _, o5, v5, T5, oT5, t5, e5, _, d5, f5, _⟩ := fl
      unfold PySem.passOn
      apply wpAny_bind
      apply wpAny_field e5 d5 f5
      rw [if_neg (show ¬ ((Value.ref T5 == Value.none) = true) by simp)]
      have out : wpAny (model X.prog X.w) X.A (setFlight (.ref a) X.env.frame) (fun _ t4 => wpAny (model X.prog X.w) X.A (throw (.ref a) : Sem Flow) (SP X pins D) X.xe t4) X.xe { s' with heap := h3 } := by
        rw [hf]
        refine HandSPX.setFlight_upZ fl3 fun h4 hh4 up4 => wpAny_throw (tk _ _ ?_)
        refine ⟨a, B, sI, pins, σ', H', cls, d, rfl, J, nb, (up.trans up3).trans up4, ?_, na, os, ag, hno rfl⟩
        rw [hs]
        exact .inr (.inr hh4)
      first
        | exact wpAny_bind out
        | exact wpAny_bind (wpAny_pure (wpAny_bind out))
    | true =>
      apply codeAny_handlers_suite_as
      refine HandSPX.lands_againZ fl3 fun h4 fl4 up4 => ?_
      have J4 : L2.Inv X pins σ' H' { s' with heap := h4 } := J.landed nb fl4.1 ((up.trans up3).trans up4) os ag
      obtain ⟨oe, vs4, he4, hz4, hd4⟩ := fl4.there
      refine store_ok (X := X.suite a ((a, oe) :: (X.pn ++ pins))) (v := .ref a) (J4.suite he4 hd4 na nl nF) hN hi (.inl hln) rfl (fun s5 S5 => ?_) (.inr hln)
      refine wpAny_mono ((hsu a oe cls d (X.pn ++ pins)).run [] s5 _ H' _ S5 (hyes rfl a oe na hz4.1 hz4.2 ⟨_, hd4⟩)) (fun f s6 hsp => ?_) (fun _ _ z => z.elim)
      cases f with
      | next =>
        obtain ⟨σ6, H6, S6, q6⟩ := hsp
        have pa := S6.pin (a, oe) (List.mem_append_left _ List.mem_cons_self)
        have U6 := S6.unsuite ok
        have t6 := inv_told U6 pa.1 hd4 pa.2.1 nl (by
          cases e : X.s_0.heap.get? a with
          | none => rfl
          | some o =>
            by_cases hx : a ∈ X.ex
            · rw [hex] at hx
              cases hx
            · obtain ⟨o', e'⟩ := J.base.there a o e hx
              exact absurd e' (notIn o')) (fun p hp z => by
          have := (J.pin p hp).1
          rw [z] at this
          exact notIn _ this)
        exact gone_ok t6 hN hi hln fun s7 J7 => ⟨_, _, J7, q6⟩
      | brk =>
        obtain ⟨_, _, _, q6⟩ := hsp
        exact q6.elim
      | cont =>
        obtain ⟨_, _, _, q6⟩ := hsp
        exact q6.elim
      | ret u =>
        obtain ⟨_, _, _, _, _, q6⟩ := hsp
        exact q6.elim
  refine wpAny_mono (B0.run [] s0 σ0 H0 D (I0.toTry _) h0) (fun f s1 hsp => ?_) (fun e s1 he => he)
  cases f with
  | next =>
    obtain ⟨σ1, H1, J1, q⟩ := hsp
    exact wpAny_execs_nil ⟨σ1, H1, J1.ofTry ok, q⟩
  | brk =>
    obtain ⟨σ1, H1, J1, q⟩ := hsp
    exact ⟨σ1, H1, J1.ofTry ok, q⟩
  | cont =>
    obtain ⟨σ1, H1, J1, q⟩ := hsp
    exact ⟨σ1, H1, J1.ofTry ok, q⟩
  | ret u =>
    obtain ⟨v, σ1, H1, J1, r, q⟩ := hsp
    exact ⟨v, σ1, H1, J1.ofTry ok, r, q⟩
end
/-! ### try: .. except SlotError as e: caught = e -/
@[simp] def uTry (xs : List Str) (i j : Nat) (b : US) : US := fun env h P => i ≠ j ∧ b env h ⟨P.nx, P.rt, fun ex env1 h1 => ex.arg = none ∧ ex.cls ∈ xs ∧ i < env1.length ∧ j < env1.length ∧ P.nx ((env1.set j (some (.val (.err ex.cls)))).set i none) h1, P.bk, P.ct⟩
theorem Sim.clear {K : PySem.W.Frag} {W : Wd} {env : En} {h : Hv} {σ σ1 : L2.St} {H : Hp} (S : Sim K W env h σ H) {i : Nat} (hl : σ1.length = σ.length) (hk : ∀ k, k ≠ i → σ1[k]? = σ[k]?) : Sim K W (env.set i none) h σ1 H where
  sh := S.sh
  len := by rw [List.length_set, S.len, hl]
  slots := fun k sv e => by
    by_cases z : k = i
    · subst z
      by_cases hk2 : k < env.length
      · rw [List.getElem?_set_self hk2] at e
        cases e
      · rw [List.getElem?_eq_none (by simpa using hk2)] at e
        cases e
    · rw [List.getElem?_set_ne (Ne.symm z)] at e
      rw [hk k z]
      exact S.slots k sv e
section
variable {X : Cx} {L : Lx}
theorem ws_try {xs : List Str} {n y : Str} {i j : Nat} {body : List Stmt} {np p1 p2 p3 p4 p5 : Pos} {b : US}
    (hx : ∀ x ∈ xs, eclB L.K x = true) (hK : L.K = X.K) (hga : L.ga = He.ga L.K) (hex : X.ex = []) (hs : X.stack = X.env :: X.outer) (hf : X.env.frame = some X.env.locals) (hN : X.N.Nodup) (hi : X.N[i]? = some n) (hln : X.env.kindOf n = some .local)
    (hc : Names X "SlotError" (.ref (L.ga "SlotError"))) (tk : Takes X L.wx)
    (hb : ∀ (W : WX) (pn : List (Addr × Obj)) (xe : Value → Shared → Prop), Takes (X.tr pn xe) W → PassesOwn (model X.prog X.w) X.A X.env xe → WSs (X.tr pn xe) ⟨L.K, L.ga, W⟩ body b)
    (hsu : ∀ (a : Addr) (oe : Obj) (cls : Value) (d : Option Addr) (pn : List (Addr × Obj)), PSs (X.suite a ((a, oe) :: pn)) [.Assign [.Name y p4] (.Name n p5) p3] (tAsg (tVar i) (gName j))) :
    WS X L (.Try body [.ExceptHandler (some (.Name "SlotError" np)) (some n) [.Assign [.Name y p4] (.Name n p5) p3] p2] [] [] p1) (uTry xs i j b) := by
  refine PS.wk (ps_try_keep (tb := fun W => ls ⟨L.K, L.ga, W⟩ b) hex hs hf hN hi hln hc tk hb hsu) fun D σ H ⟨W, env, h, P, S, ⟨nij, ht⟩, c⟩ => ?_
  refine ⟨W, env, h, _, S, ht, ⟨c.nx, c.bk, c.ct, c.rt, fun W1 ex env1 h1 σ1 H1 cls d l1 S1 x1 q1 => ?_⟩⟩
  obtain ⟨ea, em, li, lj, q⟩ := q1
  have hc1 := hx _ em
  obtain ⟨g1, g2⟩ := eclB_sup hc1
  refine ⟨true, ?_, (fun z => by cases z), fun _ a oe na z1 z2 z3 => ?_⟩
  · rw [x1.1, hga, ← hK]
    exact g1
  · have l2 : i < σ1.length := by rw [← S1.len]; exact li
    refine ⟨.ref a, List.getElem?_set_self l2, ?_⟩
    obtain ⟨vs3, z3'⟩ := z3
    have dn : d = none := x1.2.1 ea
    have lj1 : j < σ1.length := by rw [← S1.len]; exact lj
    have S2 := S1.none_ na (.frz oe (.own a))
    have le2 : LeW W1 H1 W1 (upd H1 a (.frz oe (.own a))) := .none_ S1.sh na _
    have rv : RV L.K W1 (upd H1 a (.frz oe (.own a))) (.err ex.cls) (.ref a) := .err ⟨oe, vs3, upd_same, by rw [z1, x1.1, hga], by rw [z2, dn], z3'⟩ hc1
    have S3 := S2.store lj rv
    refine c.nx W1 _ h1 _ _ (l1.trans le2) (S3.clear (σ1 := ((σ1.set i (some (.ref a))).set j (some (.ref a))).set i none) (i := i) (by simp) fun k hk => ?_) q
    rw [List.getElem?_set_ne (Ne.symm hk)]
    by_cases hj : k = j
    · subst hj
      rw [List.getElem?_set_self lj1, List.getElem?_set_self (by rw [List.length_set]; exact lj1)]
    · rw [List.getElem?_set_ne (Ne.symm hj), List.getElem?_set_ne (Ne.symm hj), List.getElem?_set_ne (Ne.symm hk)]
end
/-- isinstance of an error and its own class -/
@[simp] def bIse : UB := fun us h P => match us with
  | [.err x, .ecl y] => x = y ∧ P (.val (.bl true)) h
  | _ => False
section
variable {X : Cx}
theorem call_iseU : CallR X (.builtin "isinstance") (lb X.K bIse) := by
  intro pins s σ H xs us Q I r q
  obtain ⟨W, env, h, σ', ws, P, S, rr, ht, c⟩ := q
  unfold bIse at ht
  split at ht
  · rename_i x y
    obtain ⟨rfl, ht⟩ := ht
    obtain ⟨v, w, rfl, ru, rw_⟩ := RVs.two rr
    cases ru with
    | err he hc =>
      rename_i b
      cases rw_ with
      | ecl ea _ =>
        rename_i a2
        subst ea
        obtain ⟨oe, vs, e1, e2, e3, e4⟩ := he
        obtain ⟨_, C, _⟩ := eclB_ok hc
        obtain ⟨_, k⟩ := eclB_sup hc
        obtain ⟨u1, u2, rfl, r1, r2⟩ := vals2 r
        cases r1
        cases r2
        have g := (I.hok _ _ e1).1
        have J : PySem.W.InstAt s.heap b oe (He.ga X.K x) none := by
          obtain ⟨oc, od, oda, osl⟩ := oe
          dsimp only at e2 e3 e4
          subst e2 e3 e4
          exact ⟨g, rfl, rfl, trivial⟩
        exact PySem.W.kia_one (PySem.W.handS_kitx_exc C.hg C.hk C.hs C.hd C.ha C.hn C.ht C.hm) I.kIn J k (fun z => nomatch z) fun tk => ⟨.bl true, H, I.kept (t' := tk) fun _ _ z => z, rfl, c.val S (.bl _) ht⟩
  · exact ht.elim
end
end Vi

/-! Vi19: texts joined and split. -/
namespace Vi
open PySem PySem.Spec PyProof.Rows L2
/-- the texts of a list or tuple -/
def strsU : U → Option (List U)
  | .lst us => some us
  | .tup us => some us
  | _ => none
/-- all are texts -/
def allStr : List U → Option (List Str)
  | [] => some []
  | .str x :: us => (match allStr us with
    | some xs => some (x :: xs)
    | none => none)
  | _ :: _ => none
theorem allStr_map : ∀ xs : List Str, allStr (xs.map U.str) = some xs
  | [] => rfl
  | x :: xs => by simp [allStr, allStr_map xs]
theorem allStr_app : ∀ {us ws : List U} {xs ys : List Str}, allStr us = some xs → allStr ws = some ys → allStr (us ++ ws) = some (xs ++ ys)
  | [], ws, xs, ys, h, g => by
    cases h
    exact g
  | u :: us, ws, xs, ys, h, g => by
    cases u with
    | str x =>
      simp only [allStr] at h
      split at h
      · rename_i zs e
        cases h
        simp only [List.cons_append, allStr, allStr_app e g]
      · cases h
    | _ => simp [allStr] at h
theorem RVs.strs {K : PySem.W.Frag} {W : Wd} {H : Hp} : ∀ {us : List U} {vs : List V} {xs : List Str}, RVs K W H us vs → allStr us = some xs → vs = xs.map V.str
  | [], vs, xs, r, h => by
    cases h
    cases r
    rfl
  | u :: us, vs, xs, r, h => by
    cases u with
    | str x =>
      simp only [allStr] at h
      split at h
      · rename_i zs e
        cases h
        cases r with
        | cons a b =>
          cases a
          rw [RVs.strs b e]
          rfl
      · cases h
    | _ => simp [allStr] at h
@[simp] def uJoin (t te : UE) : UE := fun env h Po Pe => t env h (fun sv env1 h1 => match sv.u with
  | .str a => te env1 h1 (fun sw env2 h2 => match strsU sw.u with
    | some us => (match allStr us with
      | some ys => (ys.map (·.length)).sum + ys.length * a.length ≤ 16777216 ∧ Po (.val (.str (Txt.join a ys))) env2 h2
      | none => False)
    | none => False) Pe
  | _ => False) Pe
@[simp] def uSplit (t te : UE) : UE := fun env h Po Pe => t env h (fun sv env1 h1 => match sv.u with
  | .str a => te env1 h1 (fun sw env2 h2 => match sw.u with
    | .str b => (b.length == 0) = false ∧ a.length + 2 ≤ sizeLine ∧ Po (.own ((Txt.split a b).map U.str)) env2 h2
    | _ => False) Pe
  | _ => False) Pe
section
variable {X : Cx} {L : Lx} {o e : Expr} {t te : UE} {apos pos : Pos}
theorem RVs.of_strs {K : PySem.W.Frag} {W : Wd} {H : Hp} : ∀ xs : List Str, RVs K W H (xs.map U.str) (xs.map V.str)
  | [] => .nil
  | x :: xs => .cons (.str x) (RVs.of_strs xs)
theorem we_join (hK : L.K = X.K) (ho : WE X L o t) (he : WE X L e te) (hs : starEach [e] X.env = [(false, eval e X.env)] := by rfl) (hbase : attributeBase o "join" X.env (eval o X.env) = eval o X.env := by rfl) (hline : (apos.endLine == pos.line) = true := by rfl) :
    WE X L (.Call (.Attribute o "join" apos) [e] [] pos) (uJoin t te) := by
  refine PE.wk (L2.pe_join ho he hs hbase hline) fun σ H Q ⟨W, env, h, Po, Pe, S, ht, c⟩ => ?_
  refine ⟨W, env, h, _, _, S, ht, ⟨fun W1 sv env1 h1 v H1 l1 S1 r1 q1 => ?_, c.er⟩⟩
  obtain ⟨W1', S1', l1', rv1⟩ := S1.freeze r1
  split at q1
  · rename_i a ea
    rw [ea] at rv1
    cases rv1
    refine ⟨⟨a, rfl⟩, W1', env1, h1, _, _, S1', q1, ⟨fun W2 sw env2 h2 w H2 l2 S2 r2 q2 => ?_, (c.le (l1.trans l1')).er⟩⟩
    obtain ⟨W2', S2', l2', rv2⟩ := S2.freeze r2
    have c2 := (c.le (l1.trans l1')).le (l2.trans l2')
    split at q2
    · rename_i us e1
      split at q2
      · rename_i ys e2
        have fin := c2.ok W2' (.val (.str (Txt.join a ys))) env2 h2 (.str (Txt.join a ys)) H2 .refl S2' (.str _) q2.2
        generalize sw.u = u at e1 rv2
        cases u with
        | lst us' =>
          cases e1
          cases rv2 with
          | lst n ea rs =>
            have := rs.strs e2
            subst this
            exact ⟨a, _, ys, rfl, rfl, .inl (.inl (.inl ea)), q2.1, fin⟩
        | tup us' =>
          cases e1
          cases rv2 with
          | tup ht rs =>
            have := rs.strs e2
            subst this
            exact ⟨a, _, ys, rfl, rfl, .inr (hK ▸ ht.sq), q2.1, fin⟩
        | _ => cases e1
      · exact q2.elim
    · exact q2.elim
  · exact q1.elim
theorem we_split (hK : L.K = X.K) (ho : WE X L o t) (he : WE X L e te) (hs : starEach [e] X.env = [(false, eval e X.env)] := by rfl) (hbase : attributeBase o "split" X.env (eval o X.env) = eval o X.env := by rfl) (hline : (apos.endLine == pos.line) = true := by rfl) :
    WE X L (.Call (.Attribute o "split" apos) [e] [] pos) (uSplit t te) := by
  refine PE.wk (L2.pe_split ho he hs hbase hline) fun σ H Q ⟨W, env, h, Po, Pe, S, ht, c⟩ => ?_
  refine ⟨W, env, h, _, _, S, ht, ⟨fun W1 sv env1 h1 v H1 l1 S1 r1 q1 => ?_, c.er⟩⟩
  obtain ⟨W1', S1', l1', rv1⟩ := S1.freeze r1
  split at q1
  · rename_i a ea
    rw [ea] at rv1
    cases rv1
    refine ⟨⟨a, rfl⟩, W1', env1, h1, _, _, S1', q1, ⟨fun W2 sw env2 h2 w H2 l2 S2 r2 q2 => ?_, (c.le (l1.trans l1')).er⟩⟩
    obtain ⟨W2', S2', l2', rv2⟩ := S2.freeze r2
    have c2 := (c.le (l1.trans l1')).le (l2.trans l2')
    split at q2
    · rename_i b eb
      rw [eb] at rv2
      cases rv2
      refine ⟨a, b, rfl, rfl, q2.1, q2.2.1, fun p hp => ?_⟩
      obtain ⟨S3, l3⟩ := S2'.alloc hp (.lst ((Txt.split a b).map V.str)) .tmp
      exact c2.ok _ (.own _) env2 h2 _ _ l3 S3 ⟨p, _, rfl, Wd.put_same, upd_same, RVs.of_strs _⟩ q2.2.2
    · exact q2.elim
  · exact q1.elim
end
/-- a statement that is never reached -/
def uStuck : US := fun _ _ _ => False
theorem uStuck_iff {env : En} {h : Hv} {P : UD} : uStuck env h P ↔ False := Iff.rfl
theorem ws_stuck {X : Cx} {L : Lx} {s : Stmt} : WS X L s uStuck := ⟨fun _ _ _ _ _ _ q => by
  obtain ⟨_, _, _, _, _, z, _⟩ := q
  exact z.elim⟩
theorem we_ecl {X : Cx} {L : Lx} {x : Str} {p : Pos} (q : eclB L.K x = true ∧ X.mg x = some (.ref (He.ga L.K x))) (hg : Gl X x) (hd : (x == ("__debug__" : Str)) = false := by decide) : WE X L (.Name x p) (uVal (.ecl x)) :=
  we_glo hg q.2 (v := .ref (He.ga L.K x)) rfl (fun _ _ => .ecl rfl q.1) hd
end Vi

/-! Vi20: str(x), the signs of a text. -/
namespace Vi
open PySem PySem.Spec PyProof.Rows L2
/-- an int as a text -/
def numU (i : Int) : Str := Str.ofString (toString i)
@[simp] def bStr : UB := fun us h P => match us with
  | [.int i] => i.natAbs.log2 < 1920 ∧ P (.val (.str (numU i))) h
  | [.str a] => P (.val (.str a)) h
  | _ => False
section
variable {X : Cx} {L : Lx}
theorem call_strU : CallR X (.type "str") (lb X.K bStr) := by
  refine CallR.wk (Vi.CallR.or L2.call_str_int SkE.call_str_str) fun xs H Q ⟨W, env, h, σ, us, P, S, r, ht, c⟩ => ?_
  unfold bStr at ht
  split at ht
  · obtain ⟨v, rfl, ru⟩ := RVs.one r
    cases ru
    exact .inl ⟨_, rfl, ht.1, c.val S (.str _) ht.2⟩
  · obtain ⟨v, rfl, ru⟩ := RVs.one r
    cases ru
    exact .inr ⟨_, rfl, c.val S (.str _) ht⟩
  · exact ht.elim
/-- one sign in a text -/
@[simp] def bInS (neg : Bool) : UO := fun u w h P => match u, w with
  | .str x, .str z => (match x.cps.toList with
    | [c] => P (.val (.bl (if neg then !decide (c ∈ z.cps.toList) else decide (c ∈ z.cps.toList)))) h
    | _ => False)
  | _, _ => False
theorem op_inSU : OpR X (compareOp .In) (lo X.K (bInS false)) := by
  refine OpR.wk L2.op_in_sign fun x y H Q ⟨W, env, h, σ, u, w, P, S, ru, rw_, ht, c⟩ => ?_
  unfold bInS at ht
  split at ht
  · rename_i a z
    split at ht
    · rename_i k e
      cases ru
      cases rw_
      have ea : a = ⟨#[k]⟩ := by
        obtain ⟨⟨l⟩⟩ := a
        have e' : l = [k] := e
        rw [e']
      exact ⟨k, z, by rw [ea], rfl, c.val S (.bl _) ht⟩
    · exact ht.elim
  · exact ht.elim
theorem op_notInSU : OpR X (compareOp .NotIn) (lo X.K (bInS true)) := by
  refine OpR.wk L2.op_notIn_sign fun x y H Q ⟨W, env, h, σ, u, w, P, S, ru, rw_, ht, c⟩ => ?_
  unfold bInS at ht
  split at ht
  · rename_i a z
    split at ht
    · rename_i k e
      cases ru
      cases rw_
      have ea : a = ⟨#[k]⟩ := by
        obtain ⟨⟨l⟩⟩ := a
        have e' : l = [k] := e
        rw [e']
      exact ⟨k, z, by rw [ea], rfl, c.val S (.bl _) ht⟩
    · exact ht.elim
  · exact ht.elim
/-- the signs of a text -/
def signsU (x : Str) : List U := x.cps.toList.map fun c => U.str ⟨#[c]⟩
@[simp] def uSigns (t : UE) : UM (List U) := fun env h Po Pe => t env h (fun sv env1 h1 => match sv.u with
  | .str x => Po (signsU x) env1 h1
  | _ => False) Pe
theorem wk_str {K : PySem.W.Frag} {W : Wd} {H : Hp} {x : Str} : Wk K W H (signsU x) (L2.Its x) := fun W' H' l i => by
  unfold signsU
  refine ⟨fun hi => ?_, fun u e => ?_⟩
  · show x.cps.size ≤ i
    simpa using hi
  · rw [List.getElem?_map] at e
    cases q : x.cps.toList[i]? with
    | none => rw [q] at e; cases e
    | some c =>
      rw [q] at e
      cases e
      have q' : x.cps[i]? = some c := by rw [← Array.getElem?_toList]; exact q
      refine ⟨?_, fun v H'' ⟨e1, c', e2, e3⟩ => ?_⟩
      · show i < x.cps.size
        have := (List.getElem?_eq_some_iff.mp q).1
        simpa using this
      · subst e1
        subst e3
        rw [q'] at e2
        cases e2
        exact ⟨.refl, fun _ _ _ S => S, .str _⟩
theorem wi_str {l tg : Expr} {t : UE} (hl : WE X L l t) : WI X L tg l (uSigns t) := by
  refine PI.wk (L2.pi_str hl) fun σ H R ⟨W, env, h, Po, Pe, S, ht, c⟩ => ?_
  refine ⟨W, env, h, _, _, S, ht, ⟨fun W1 sv env1 h1 v1 H1 l1 S1 r1 q1 => ?_, c.er⟩⟩
  obtain ⟨W1', S1', l1', rv1⟩ := S1.freeze r1
  split at q1
  · rename_i x ex
    rw [ex] at rv1
    cases rv1
    exact ⟨x, rfl, c.ok W1' _ env1 h1 _ H1 (l1.trans l1') S1' wk_str q1⟩
  · exact q1.elim
end
end Vi

/-! Vi21: f-strings, methods of a shared list, the parts of a list. -/
namespace Vi
open PySem PySem.Spec PyProof.Rows L2
/-- {x}: a text or an int -/
@[simp] def uFmt (t : UE) : UE := fun env h Po Pe => t env h (fun sv env1 h1 => match sv.u with
  | .str y => y.length ≤ sizeLine ∧ Po (.val (.str y)) env1 h1
  | .int i => i.natAbs.log2 < 1920 ∧ Po (.val (.str (numU i))) env1 h1
  | _ => False) Pe
/-- the parts, one behind the other -/
@[simp] def uJs : List UE → Str → UE
  | [], acc => fun env h Po _ => Po (.val (.str acc)) env h
  | t :: ts, acc => fun env h Po Pe => t env h (fun sv env1 h1 => match sv.u with
    | .str y => (acc ++ y).length ≤ sizeLine ∧ uJs ts (acc ++ y) env1 h1 Po Pe
    | _ => False) Pe
section
variable {X : Cx} {L : Lx} {pos : Pos}
theorem we_fmt {e : Expr} {t : UE} (he : WE X L e t) : WE X L (.FormattedValue e (-1) none pos) (uFmt t) := by
  refine PE.wk (L2.pe_fmt he) fun σ H Q ⟨W, env, h, Po, Pe, S, ht, c⟩ => ?_
  refine ⟨W, env, h, _, _, S, ht, ⟨fun W1 sv env1 h1 v H1 l1 S1 r1 q1 => ?_, c.er⟩⟩
  obtain ⟨W1', S1', l1', rv1⟩ := S1.freeze r1
  split at q1
  · rename_i y e1
    rw [e1] at rv1
    cases rv1
    exact .inl ⟨y, rfl, q1.1, (c.le (l1.trans l1')).ok W1' (.val (.str y)) env1 h1 _ H1 .refl S1' (.str _) q1.2⟩
  · rename_i i e1
    rw [e1] at rv1
    cases rv1
    exact .inr ⟨i, rfl, q1.1, (c.le (l1.trans l1')).ok W1' (.val (.str (numU i))) env1 h1 _ H1 .refl S1' (.str _) q1.2⟩
  · exact q1.elim
theorem js_ok : ∀ {ts : List UE} {acc : Str} {W : Wd} {env : En} {h : Hv} {Po : Sv → En → Hv → Prop} {Pe : Ex → En → Hv → Prop} {σ : L2.St} {H : Hp} {Q : VK}, Sim L.K W env h σ H → uJs ts acc env h Po Pe → Cont L (RT L) W H σ Po Pe Q →
    L2.tJs (ts.map fun t => lg L (RT L) t) acc σ H fun out H1 => Q (.str out) H1
  | [], acc, W, env, h, Po, Pe, σ, H, Q, S, ht, c => c.ok W (.val (.str acc)) env h _ H .refl S (.str _) ht
  | t :: ts, acc, W, env, h, Po, Pe, σ, H, Q, S, ht, c => by
    refine ⟨W, env, h, _, _, S, ht, ⟨fun W1 sv env1 h1 v H1 l1 S1 r1 q1 => ?_, c.er⟩⟩
    obtain ⟨W1', S1', l1', rv1⟩ := S1.freeze r1
    split at q1
    · rename_i y e1
      rw [e1] at rv1
      cases rv1
      exact ⟨y, rfl, q1.1, js_ok S1' q1.2 (c.le (l1.trans l1'))⟩
    · exact q1.elim
def WJ (X : Cx) (L : Lx) (es : List Expr) (ts : List UE) : Prop := L2.PJ X es (ts.map fun t => lg L (RT L) t)
theorem wj_nil : WJ X L [] [] := .nil
theorem wj_cons {e : Expr} {es : List Expr} {t : UE} {ts : List UE} (h : WE X L e t) (r : WJ X L es ts) : WJ X L (e :: es) (t :: ts) := .cons h r
theorem we_js {v1 v2 : Expr} {rest : List Expr} {ts : List UE} (h : WJ X L (v1 :: v2 :: rest) ts) : WE X L (.JoinedStr (v1 :: v2 :: rest) pos) (uJs ts Str.empty) :=
  PE.wk (L2.pe_joined h) fun _ _ _ ⟨_, _, _, _, _, S, ht, c⟩ => js_ok S ht c
/-- x.m(e, ..), x a shared list -/
@[simp] def uMtR (k : Nat) (f : UMt) (t : UA) : UE := fun env h Po Pe => (∃ r us, env[k]? = some (some (.val (.ref r))) ∧ obL h r = some us) ∧ t env h (fun args env1 h1 => match env1[k]? with
  | some (some (.val (.ref r))) => (match obL h1 r with
    | some us => f us args fun u us' => Po (.val u) env1 (h1.set r (.lst us'))
    | none => False)
  | _ => False) Pe
theorem we_mtR {k : Nat} {f : UMt} {e : Expr} {es : List Expr} {x name : Str} {p apos cpos : Pos} {t : UA} {id : String} (hK : L.K = X.K) (slot : Slot "list" name id) (hty : typeOf (.builtin id) = pure (.type "method_descriptor")) (hm : MtU X id f)
    (hx : PE X (.Name x p) (tVar k)) (ha : WA X L (e :: es) t)
    (hbase : attributeBase (.Name x p) name X.env (eval (.Name x p) X.env) = eval (.Name x p) X.env := by rfl)
    (hfew : ((backTo cpos (starEach (e :: es) X.env)).all (fun x => !x.1) && (backToKw cpos (keywordEach [] X.env)).all (fun x => x.1.isSome) && decide ((e :: es).length + ([] : List Keyword).length + (if ([] : List Keyword).isEmpty then 0 else 1) < 30)) = true := by rfl)
    (hline : (apos.endLine == cpos.line) = true := by rfl) (hs : starEach (e :: es) X.env = (false, eval e X.env) :: starEach es X.env := by rfl) (hplain : (backTo cpos (starEach es X.env)).any (·.1) = false := by rfl) :
    WE X L (.Call (.Attribute (.Name x p) name apos) (e :: es) [] cpos) (uMtR k f t) := by
  refine PE.wk (pe_bm PySem.F.plainAttrs_list slot hty hm hx ha hbase hfew hline hs hplain) fun σ H Q ⟨W, env, h, Po, Pe, S, ⟨⟨r0, us0, e0, o0⟩, ht⟩, c⟩ => ?_
  obtain ⟨v0, ev, rr0⟩ := S.slots k _ e0
  have rr0' : RV L.K W H (.ref r0) v0 := rr0
  cases rr0' with
  | ref m0 n0 =>
    rename_i a
    obtain ⟨_, vs0, ea0, _⟩ := obL_at S.sh o0 m0
    refine ⟨_, ev, .inl ⟨rfl, vs0, .inl (.inl ea0)⟩, W, env, h, _, _, S, ht, ⟨fun W1 args env1 h1 avs H1 l1 S1 r1 q1 => ?_, c.er⟩⟩
    split at q1
    · rename_i r e1
      obtain ⟨v1, ev1, rr1⟩ := S1.slots k _ e1
      rw [ev] at ev1
      cases ev1
      have rr1' : RV L.K W1 H1 (.ref r) (.ref a) := rr1
      cases rr1' with
      | ref m1 n1 =>
        split at q1
        · rename_i us o1
          obtain ⟨_, vs, ea, rv⟩ := obL_at S1.sh o1 m1
          refine ⟨L.K, W1, us, args, a, vs, rfl, ea, rv, r1, _, q1, fun u us' v vs' ru rus q => ?_⟩
          obtain ⟨S2, l2⟩ := S1.upd_obj o1 m1 rus
          exact c.ok W1 (.val u) _ _ v _ (l1.trans l2) S2 (RV.le l2.toLeP ru) q
        · exact q1.elim
    · exact q1.elim
/-- a, b, .. = a list -/
@[simp] def gL (ks : List Nat) : UG := fun u env h Q => match u with
  | .lst us => setsU ks us env h Q
  | .ref r => (match obL h r with
    | some us => setsU ks us env h Q
    | none => False)
  | _ => False
theorem wg_lst {es : List Expr} {j : Nat} {ks : List Nat} (hc : X.calm = true) (hK : L.K = X.K) (h : PGs X es (gNames ks)) (hn : (assignEach es X.env).length = ks.length := by rfl) (hst : (assignEach es X.env).findIdx? (·.1) = none := by rfl) : WG X L (.Tuple es j pos) ks (gL ks) := by
  refine PG.wk (pg_lst (n := ks.length) hc h hn hst) fun v σ H Q ⟨W, env, h, u, P, S, r, ht, c⟩ => ?_
  cases u with
  | lst us =>
    cases r with
    | lst n e rs => exact ⟨_, _, rfl, .inl (.inl e), by rw [← rs.length]; exact setsU_len ht, sets_ok (fun _ z => z) S rs ht c⟩
  | ref i =>
    simp only [gL] at ht
    split at ht
    · rename_i us o
      cases r with
      | ref m n =>
        obtain ⟨_, vs, ea, rv⟩ := obL_at S.sh o m
        exact ⟨_, vs, rfl, .inl (.inl ea), by rw [← rv.length]; exact setsU_len ht, sets_ok (fun _ z => z) S rv ht c⟩
    · exact ht.elim
  | _ => exact ht.elim
end
end Vi

namespace Vi.Law
open PySem PySem.Spec PyProof.Rows L2 Vi
def isWhole : U → Int → Bool
  | .int i, l => decide (l ≤ i)
  | _, _ => false
def typed (u : U) : Bool := (tyU u).isSome
def wellT (u : U) : Bool := typed u && (match u with
  | .tup us => us.all typed
  | _ => true)
def okW (x : Str) : Bool := x.cps.toList.all (fun c => decide (c ≠ 32 ∧ c < 128)) && decide (x.length ≤ 9)
def isBl (u : U) : Bool := match u with
  | .bl _ => true
  | _ => false
def geU (b c a : U) : Bool := match b, c, a with
  | .int b, .int c, .int a => decide (a ≤ b + c)
  | _, _, _ => false
def ltU (e a : U) : Bool := match e, a with
  | .int e, .int a => decide (e < a)
  | _, _ => false
def hasM (a b c d : U) : Bool := isWhole a 1 && (isWhole b 1 && (isWhole c 0 && (isBl d && geU b c a)))
def isLay (u : U) : Bool := match u with
  | .tup [a, b, c, d, e, f] => hasM a b c d && (isWhole e 0 && (ltU e a && isWhole f 1))
  | _ => false
def layU (l s g : Int) (b : Bool) (o n : Int) : U := .tup [.int l, .int s, .int g, .bl b, .int o, .int n]
structure Lay (l s g o n : Int) : Prop where
  l1 : 1 ≤ l ∧ l < 1000000000
  s1 : 1 ≤ s ∧ s < 1000000000
  g0 : 0 ≤ g ∧ g < 1000000000
  sg : l ≤ s + g
  o0 : 0 ≤ o ∧ o < l
  n1 : 1 ≤ n ∧ n < 1000000000
def LayIs (u : U) : Prop := ∃ l s g b o n, u = layU l s g b o n ∧ Lay l s g o n
def wordsLay (l s g : Int) (b : Bool) (o n : Int) : List Str := ["line", numU l, "size", numU s, "gap", numU g, if b = true then "used" else "free", "offset", numU o, "slots", numU n]
def textL (l s g : Int) (b : Bool) (o n : Int) : Str := Txt.join " " (wordsLay l s g b o n)
def ExtH (h h' : Hv) : Prop := ∃ x, h' = h ++ x
def fitsB (ns : List Int) (n : Int) : Bool := match ns with
  | [a, b] => decide (a ≤ b + n)
  | [a, _, _] => decide (n < a)
  | _ => decide (1 ≤ n)
/-! ### the text by places -/
def topS (i : Nat) : Stmt := PySem.Challenge.pw_lentslots_k66_layouts_written.main.body.getD i (.Pass ⟨0, 0, 0, 0⟩)
abbrev s_is_whole : Stmt := topS 5
abbrev s_has_measures : Stmt := topS 6
abbrev s_is_layout : Stmt := topS 7
abbrev s_need_layout : Stmt := topS 8
abbrev s_write_layout : Stmt := topS 14
abbrev s_read_number : Stmt := topS 13
abbrev s_number_fits : Stmt := topS 15
abbrev s_read_layout : Stmt := topS 16
abbrev s_law_bag : Stmt := topS 18
abbrev s_law_draw : Stmt := topS 19
abbrev s_law_site : Stmt := topS 20
abbrev s_law_text : Stmt := topS 21
abbrev s_law_bad_site : Stmt := topS 22
abbrev s_law_great : Stmt := topS 23
abbrev s_law_refuses : Stmt := topS 24
abbrev s_law : Stmt := topS 25
def c_DIGITS : U := .str "0123456789"
def c_MOST_DIGITS : U := .int 9
def c_LAYOUT_WORDS : U := .tup [(.tup [(.str "line")]), (.tup []), (.tup [(.str "size")]), (.tup []), (.tup [(.str "gap")]), (.tup []), (.tup [(.str "used"), (.str "free")]), (.tup [(.str "offset")]), (.tup []), (.tup [(.str "slots")]), (.tup [])]
def c_InvalidLayout : U := .ecl "InvalidLayout"
def c_SlotError : U := .ecl "SlotError"
def d_is_whole : He.DefD := ⟨("is_whole", none), "is_whole", "is_whole", defArgs s_is_whole, defBody s_is_whole, defScope s_is_whole, [.int 0], []⟩
def d_has_measures : He.DefD := ⟨("has_measures", none), "has_measures", "has_measures", defArgs s_has_measures, defBody s_has_measures, defScope s_has_measures, [], []⟩
def d_is_layout : He.DefD := ⟨("is_layout", none), "is_layout", "is_layout", defArgs s_is_layout, defBody s_is_layout, defScope s_is_layout, [], []⟩
def d_need_layout : He.DefD := ⟨("need_layout", none), "need_layout", "need_layout", defArgs s_need_layout, defBody s_need_layout, defScope s_need_layout, [], []⟩
def d_write_layout : He.DefD := ⟨("write_layout", none), "write_layout", "write_layout", defArgs s_write_layout, defBody s_write_layout, defScope s_write_layout, [], []⟩
def d_read_number : He.DefD := ⟨("read_number", none), "read_number", "read_number", defArgs s_read_number, defBody s_read_number, defScope s_read_number, [], []⟩
def d_number_fits : He.DefD := ⟨("number_fits", none), "number_fits", "number_fits", defArgs s_number_fits, defBody s_number_fits, defScope s_number_fits, [], []⟩
def d_read_layout : He.DefD := ⟨("read_layout", none), "read_layout", "read_layout", defArgs s_read_layout, defBody s_read_layout, defScope s_read_layout, [], []⟩
def d_law_bag : He.DefD := ⟨("_law_bag", none), "_law_bag", "_law_bag", defArgs s_law_bag, defBody s_law_bag, defScope s_law_bag, [], []⟩
def d_law_draw : He.DefD := ⟨("_law_draw", none), "_law_draw", "_law_draw", defArgs s_law_draw, defBody s_law_draw, defScope s_law_draw, [], []⟩
def d_law_site : He.DefD := ⟨("_law_site", none), "_law_site", "_law_site", defArgs s_law_site, defBody s_law_site, defScope s_law_site, [], []⟩
def d_law_text : He.DefD := ⟨("_law_text", none), "_law_text", "_law_text", defArgs s_law_text, defBody s_law_text, defScope s_law_text, [], []⟩
def d_law_bad_site : He.DefD := ⟨("_law_bad_site", none), "_law_bad_site", "_law_bad_site", defArgs s_law_bad_site, defBody s_law_bad_site, defScope s_law_bad_site, [], []⟩
def d_law_great : He.DefD := ⟨("_law_great", none), "_law_great", "_law_great", defArgs s_law_great, defBody s_law_great, defScope s_law_great, [], []⟩
def d_law_refuses : He.DefD := ⟨("_law_refuses", none), "_law_refuses", "_law_refuses", defArgs s_law_refuses, defBody s_law_refuses, defScope s_law_refuses, [], []⟩
def d_law : He.DefD := ⟨("law", none), "law", "law", defArgs s_law, defBody s_law, defScope s_law, [], []⟩
def fns : List He.DefD := [d_is_whole, d_has_measures, d_is_layout, d_need_layout, d_write_layout, d_read_number, d_number_fits, d_read_layout, d_law_bag, d_law_draw, d_law_site, d_law_text, d_law_bad_site, d_law_great, d_law_refuses, d_law]
def fas : List He.Fa := [.glo "is_whole", .glo "has_measures", .glo "is_layout", .glo "need_layout", .glo "write_layout", .glo "read_number", .glo "number_fits", .glo "read_layout", .glo "_law_bag", .glo "_law_draw", .glo "_law_site", .glo "_law_text", .glo "_law_bad_site", .glo "_law_great", .glo "_law_refuses", .glo "law", .free "int", .free "isinstance", .free "bool", .free "tuple", .free "len", .free "range", .free "str", .free "list", .free "repr", .glo "InvalidLayout", .exc "InvalidLayout"]
def css : List (Str × U) := [("DIGITS", c_DIGITS), ("MOST_DIGITS", c_MOST_DIGITS), ("LAYOUT_WORDS", c_LAYOUT_WORDS), ("InvalidLayout", c_InvalidLayout), ("SlotError", c_SlotError)]
abbrev N_is_whole : List Str := ["value", "least"]
theorem sc_is_whole : FnScope N_is_whole ["value", "least"] (defScope s_is_whole) := ⟨rfl, rfl, rfl, by decide +kernel, rfl, by decide +kernel, by decide +kernel⟩
abbrev N_has_measures : List Str := ["line", "size", "gap", "used"]
theorem sc_has_measures : FnScope N_has_measures ["line", "size", "gap", "used"] (defScope s_has_measures) := ⟨rfl, rfl, rfl, by decide +kernel, rfl, by decide +kernel, by decide +kernel⟩
abbrev N_is_layout : List Str := ["value", "line", "size", "gap", "used", "offset", "slots"]
theorem sc_is_layout : FnScope N_is_layout ["value"] (defScope s_is_layout) := ⟨rfl, rfl, rfl, by decide +kernel, rfl, by decide +kernel, by decide +kernel⟩
abbrev N_need_layout : List Str := ["layout"]
theorem sc_need_layout : FnScope N_need_layout ["layout"] (defScope s_need_layout) := ⟨rfl, rfl, rfl, by decide +kernel, rfl, by decide +kernel, by decide +kernel⟩
abbrev N_write_layout : List Str := ["layout", "line", "size", "gap", "used", "offset", "slots", "word"]
theorem sc_write_layout : FnScope N_write_layout ["layout"] (defScope s_write_layout) := ⟨rfl, rfl, rfl, by decide +kernel, rfl, by decide +kernel, by decide +kernel⟩
abbrev N_read_number : List Str := ["word", "char"]
theorem sc_read_number : FnScope N_read_number ["word"] (defScope s_read_number) := ⟨rfl, rfl, rfl, by decide +kernel, rfl, by decide +kernel, by decide +kernel⟩
abbrev N_number_fits : List Str := ["numbers", "number"]
theorem sc_number_fits : FnScope N_number_fits ["numbers", "number"] (defScope s_number_fits) := ⟨rfl, rfl, rfl, by decide +kernel, rfl, by decide +kernel, by decide +kernel⟩
abbrev N_read_layout : List Str := ["words", "parts", "numbers", "place", "part", "number", "line", "size", "gap", "offset", "slots"]
theorem sc_read_layout : FnScope N_read_layout ["words"] (defScope s_read_layout) := ⟨rfl, rfl, rfl, by decide +kernel, rfl, by decide +kernel, by decide +kernel⟩
abbrev N_law_bag : List Str := ["cell", "spare"]
theorem sc_law_bag : FnScope N_law_bag ["cell"] (defScope s_law_bag) := ⟨rfl, rfl, rfl, by decide +kernel, rfl, by decide +kernel, by decide +kernel⟩
abbrev N_law_draw : List Str := ["bag", "many", "found", "turn", "mixed"]
theorem sc_law_draw : FnScope N_law_draw ["bag", "many"] (defScope s_law_draw) := ⟨rfl, rfl, rfl, by decide +kernel, rfl, by decide +kernel, by decide +kernel⟩
abbrev N_law_site : List Str := ["bag", "wide", "wide_line", "stride", "size", "many"]
theorem sc_law_site : FnScope N_law_site ["bag"] (defScope s_law_site) := ⟨rfl, rfl, rfl, by decide +kernel, rfl, by decide +kernel, by decide +kernel⟩
abbrev N_law_text : List Str := ["site", "wide_line", "size", "gap", "used", "spare", "many", "parts"]
theorem sc_law_text : FnScope N_law_text ["site"] (defScope s_law_text) := ⟨rfl, rfl, rfl, by decide +kernel, rfl, by decide +kernel, by decide +kernel⟩
abbrev N_law_bad_site : List Str := ["bag", "site", "wide_line", "many", "odd", "at", "choice", "word", "some"]
theorem sc_law_bad_site : FnScope N_law_bad_site ["bag", "site"] (defScope s_law_bad_site) := ⟨rfl, rfl, rfl, by decide +kernel, rfl, by decide +kernel, by decide +kernel⟩
abbrev N_law_great : List Str := ["bag", "wide_line", "size", "least", "gap", "spare", "many"]
theorem sc_law_great : FnScope N_law_great ["bag"] (defScope s_law_great) := ⟨rfl, rfl, rfl, by decide +kernel, rfl, by decide +kernel, by decide +kernel⟩
abbrev N_law_refuses : List Str := ["value", "caught", "e"]
theorem sc_law_refuses : FnScope N_law_refuses ["value"] (defScope s_law_refuses) := ⟨rfl, rfl, rfl, by decide +kernel, rfl, by decide +kernel, by decide +kernel⟩
abbrev N_law : List Str := ["script", "cell", "bag", "one", "other_one", "texts", "great", "read_one"]
theorem sc_law : FnScope N_law ["script"] (defScope s_law) := ⟨rfl, rfl, rfl, by decide +kernel, rfl, by decide +kernel, by decide +kernel⟩


def sp_is_whole : FS := fun us h Po _ => match us with
  | [u, .int l] => typed u = true ∧ Po (.val (.bl (isWhole u l))) h
  | _ => False
/-- slots: 0 value, 1 least -/
def p_is_whole : US :=
  (uRet (uV (uAnd (uB (uApp bIsi (uCons (uVar 0) (uCons (uVal (.ty "int")) uNil)))) (uAnd (uB (uV (uNot (uB (uApp bIsi (uCons (uVar 0) (uCons (uVal (.ty "bool")) uNil))))))) (uB (uBin bGe (uVar 0) (uVar 1)))))))


def sp_has_measures : FS := fun us h Po _ => match us with
  | [a, b, c, d] => typed a = true ∧ typed b = true ∧ typed c = true ∧ typed d = true ∧ Po (.val (.bl (hasM a b c d))) h
  | _ => False
/-- slots: 0 line, 1 size, 2 gap, 3 used -/
def p_has_measures : US :=
  (uSeq (uIf (uNot (uAnd (uB (uCall 2 sp_is_whole [] (uCons (uVar 0) (uCons (uVal (.int 1)) uNil)))) (uAnd (uB (uCall 2 sp_is_whole [] (uCons (uVar 1) (uCons (uVal (.int 1)) uNil)))) (uAnd (uB (uCall 2 sp_is_whole [.int 0] (uCons (uVar 2) uNil))) (uB (uApp bIsi (uCons (uVar 3) (uCons (uVal (.ty "bool")) uNil)))))))) (uRet (uVal (.bl false))) uNext)
  (uRet (uBin bGe (uBin bAdd (uVar 1) (uVar 2)) (uVar 0))))


def sp_is_layout : FS := fun us h Po _ => match us with
  | [u] => wellT u = true ∧ Po (.val (.bl (isLay u))) h
  | _ => False
/-- slots: 0 value, 1 line, 2 size, 3 gap, 4 used, 5 offset, 6 slots -/
def p_is_layout : US :=
  (uSeq (uIf (uOr (uNot (uB (uApp bIsi (uCons (uVar 0) (uCons (uVal (.ty "tuple")) uNil))))) (uB (uBin bNe (uApp bLen (uCons (uVar 0) uNil)) (uVal (.int 6))))) (uRet (uVal (.bl false))) uNext)
  (uSeq (uAsg (gT [1, 2, 3, 4, 5, 6]) (uVar 0))
  (uRet (uV (uAnd (uB (uCall 4 sp_has_measures [] (uCons (uVar 1) (uCons (uVar 2) (uCons (uVar 3) (uCons (uVar 4) uNil)))))) (uAnd (uB (uCall 2 sp_is_whole [.int 0] (uCons (uVar 5) uNil))) (uAnd (uB (uBin bLt (uVar 5) (uVar 1))) (uB (uCall 2 sp_is_whole [] (uCons (uVar 6) (uCons (uVal (.int 1)) uNil)))))))))))


def sp_need_layout : FS := fun us h Po Pe => match us with
  | [u] => wellT u = true ∧ (isLay u = true → Po (.val .non) h) ∧ (isLay u = false → Pe ⟨"InvalidLayout", none⟩ h)
  | _ => False
/-- slots: 0 layout -/
def p_need_layout : US :=
  (uIf (uNot (uB (uCall 1 sp_is_layout [] (uCons (uVar 0) uNil)))) (uRaise "InvalidLayout") uNext)


def sp_write_layout : FS := fun us h Po Pe => match us with
  | [u] => wellT u = true ∧ (isLay u = false → Pe ⟨"InvalidLayout", none⟩ h) ∧ (isLay u = true → ∃ l s g b o n, u = layU l s g b o n ∧ Lay l s g o n ∧ Po (.val (.str (textL l s g b o n))) h)
  | _ => False
/-- slots: 0 layout, 1 line, 2 size, 3 gap, 4 used, 5 offset, 6 slots, 7 word -/
def p_write_layout : US :=
  (uSeq (uDrop (uCall 1 sp_need_layout [] (uCons (uVar 0) uNil)))
  (uSeq (uAsg (gT [1, 2, 3, 4, 5, 6]) (uVar 0))
  (uSeq (uSet 7 (uIfE (uB (uVar 4)) (uVal (.str "used")) (uVal (.str "free"))))
  (uRet (uJs [(uVal (.str "line ")), (uFmt (uVar 1)), (uVal (.str " size ")), (uFmt (uVar 2)), (uVal (.str " gap ")), (uFmt (uVar 3)), (uVal (.str " ")), (uFmt (uVar 7)), (uVal (.str " offset ")), (uFmt (uVar 5)), (uVal (.str " slots ")), (uFmt (uVar 6))] Str.empty)))))


def sp_read_number : FS := fun us h Po _ => match us with
  | [.str x] => ∃ n : Nat, x = numU n ∧ n < 1000000000 ∧ Po (.val (.int n)) h
  | _ => False
def b1_read_number : US :=
  (uIf (uB (uBin (bInS true) (uVar 1) (uVal c_DIGITS))) (uRet (uVal .non)) uNext)
/-- slots: 0 word, 1 char -/
def p_read_number : US :=
  (uSeq (uIf (uOr (uB (uBin bEq (uVar 0) (uVal (.str "")))) (uB (uBin bGt (uApp bLen (uCons (uVar 0) uNil)) (uVal c_MOST_DIGITS)))) (uRet (uVal .non)) uNext)
  (uSeq (uFor (uSigns (uVar 0)) (gN 1) b1_read_number)
  (uSeq (uIf (uAnd (uB (uBin bEq (uBin bIx (uVar 0) (uVal (.int 0))) (uVal (.str "0")))) (uB (uBin bGt (uApp bLen (uCons (uVar 0) uNil)) (uVal (.int 1))))) (uRet (uVal .non)) uNext)
  (uRet (uApp bInt (uCons (uVar 0) uNil))))))


def sp_number_fits : FS := fun us h Po _ => match us with
  | [.ref r, .int n] => ∃ ns : List Int, obL h r = some (ns.map U.int) ∧ Po (.val (.bl (fitsB ns n))) h
  | _ => False
/-- slots: 0 numbers, 1 number -/
def p_number_fits : US :=
  (uSeq (uIf (uB (uBin bEq (uApp bLen (uCons (uVar 0) uNil)) (uVal (.int 2)))) (uRet (uBin bGe (uBin bAdd (uBin bIx (uVar 0) (uVal (.int 1))) (uVar 1)) (uBin bIx (uVar 0) (uVal (.int 0))))) uNext)
  (uSeq (uIf (uB (uBin bEq (uApp bLen (uCons (uVar 0) uNil)) (uVal (.int 3)))) (uRet (uBin bLt (uVar 1) (uBin bIx (uVar 0) (uVal (.int 0))))) uNext)
  (uRet (uBin bGe (uVar 1) (uVal (.int 1))))))


def sp_read_layout : FS := fun us h Po _ => match us with
  | [.str t] => ∃ l s g b o n, t = textL l s g b o n ∧ Lay l s g o n ∧ ∀ h', ExtH h h' → Po (.val (layU l s g b o n)) h'
  | _ => False
def b1_read_layout : US :=
  (uSeq (uSet 4 (uIfE (uB (uBin bLt (uVar 3) (uApp bLen (uCons (uVar 1) uNil)))) (uBin bIx (uVar 1) (uVar 3)) (uVal (.str ""))))
  (uIf (uB (uBin bEq (uBin bIx (uVal c_LAYOUT_WORDS) (uVar 3)) (uApp bTup uNil))) (uSeq (uSet 5 (uCall 1 sp_read_number [] (uCons (uVar 4) uNil)))
  (uSeq (uIf (uOr (uB (uBin (bIsN false) (uVar 5) (uVal .non))) (uNot (uB (uCall 2 sp_number_fits [] (uCons (uVar 2) (uCons (uVar 5) uNil)))))) uStuck uNext)
  (uDrop (uMtR 2 fAppend (uCons (uVar 5) uNil))))) (uIf (uB (uBin (bIn true) (uVar 4) (uBin bIx (uVal c_LAYOUT_WORDS) (uVar 3)))) uStuck uNext)))
/-- slots: 0 words, 1 parts, 2 numbers, 3 place, 4 part, 5 number, 6 line, 7 size, 8 gap, 9 offset, 10 slots -/
def p_read_layout : US :=
  (uSeq (uSet 1 (uSplit (uVar 0) (uVal (.str " "))))
  (uSeq (uSetR 2 (uApp bLst uNil))
  (uSeq (uFor (uIter bRange1 (uCons (uApp bLen (uCons (uVal c_LAYOUT_WORDS) uNil)) uNil)) (gN 3) b1_read_layout)
  (uSeq (uIf (uB (uBin bGt (uApp bLen (uCons (uVar 1) uNil)) (uApp bLen (uCons (uVal c_LAYOUT_WORDS) uNil)))) uStuck uNext)
  (uSeq (uAsg (gL [6, 7, 8, 9, 10]) (uVar 2))
  (uRet (uApp bTup (uCons (uVar 6) (uCons (uVar 7) (uCons (uVar 8) (uCons (uBin bEq (uBin bIx (uVar 1) (uVal (.int 6))) (uVal (.str "used"))) (uCons (uVar 9) (uCons (uVar 10) uNil)))))))))))))


def sp_law_bag : FS := fun us h Po _ => match us with
  | [.int _] => ∀ a b : Int, 0 ≤ b → b < 2 ^ 60 → Po (.own [.int a, .int b, .int 0]) h
  | _ => False
/-- slots: 0 cell, 1 spare -/
def p_law_bag : US :=
  (uSeq (uSet 1 (uVal (.int 0)))
  (uSeq (uIf (uB (uBin bGe (uVar 0) (uBin bPow (uVal (.int 10)) (uVal (.int 18))))) (uSet 1 (uBin bSub (uVar 0) (uBin bPow (uVal (.int 10)) (uVal (.int 18))))) uNext)
  (uRet (uApp bLst (uCons (uVar 1) (uCons (uBin bMod (uApp bInt (uCons (uVar 0) uNil)) (uVal (.int 999999999999999877))) (uCons (uVal (.int 0)) uNil)))))))


def sp_law_draw : FS := fun us h Po _ => match us with
  | [.ref i, .int m] => ∃ k, PotAt h i k ∧ k < 2 ^ 59 ∧ 0 < m ∧ m.natAbs.log2 < 9000 ∧ ∀ (h' : Hv) (d : Int), PotAt h' i (k + 1) → Rest i h h' → 0 ≤ d → d < m → Po (.val (.int d)) h'
  | _ => False
/-- slots: 0 bag, 1 many, 2 found, 3 turn, 4 mixed -/
def p_law_draw : US :=
  (uSeq (uIf (uB (uBin bGt (uBin bIx (uVar 0) (uVal (.int 0))) (uVal (.int 0)))) (uSeq (uSet 2 (uBin bMod (uApp bInt (uCons (uBin bIx (uVar 0) (uVal (.int 0))) uNil)) (uVar 1)))
  (uSeq (uSetIx 0 (uVal (.int 0)) (uBin bFdiv (uBin bIx (uVar 0) (uVal (.int 0))) (uVar 1)))
  (uRet (uVar 2)))) uNext)
  (uSeq (uSetIx 0 (uVal (.int 2)) (uBin bAdd (uBin bIx (uVar 0) (uVal (.int 2))) (uVal (.int 1))))
  (uSeq (uSet 3 (uBin bIx (uVar 0) (uVal (.int 2))))
  (uSeq (uSet 4 (uBin bAdd (uBin bAdd (uBin bIx (uVar 0) (uVal (.int 1))) (uBin bMul (uBin bMul (uVal (.int 6700417)) (uVar 3)) (uVar 3))) (uBin bMul (uVal (.int 7368787)) (uVar 3))))
  (uSeq (uSet 4 (uBin bFdiv (uBin bMod (uApp bInt (uCons (uBin bAdd (uBin bMul (uVar 4) (uVar 4)) (uBin bMul (uVal (.int 1299709)) (uVar 3))) uNil)) (uVal (.int 2305843009213693951))) (uVal (.int 8191))))
  (uRet (uBin bMod (uBin bFdiv (uBin bMod (uApp bInt (uCons (uBin bAdd (uBin bMul (uVar 4) (uVar 4)) (uVal (.int 15485863))) uNil)) (uVal (.int 1152921504606846883))) (uVal (.int 4096))) (uVar 1))))))))


def sp_law_site : FS := fun us h Po _ => match us with
  | [.ref i] => ∃ k, PotAt h i k ∧ k < 2 ^ 56 ∧ ∀ (h' : Hv) (u : U), PotAt h' i (k + 10) → Rest i h h' → LayIs u → Po (.val u) h'
  | _ => False
/-- slots: 0 bag, 1 wide, 2 wide_line, 3 stride, 4 size, 5 many -/
def p_law_site : US :=
  (uSeq (uSet 1 (uApp bInt (uCons (uBin bEq (uCall 2 sp_law_draw [] (uCons (uVar 0) (uCons (uVal (.int 4)) uNil))) (uVal (.int 0))) uNil)))
  (uSeq (uSet 2 (uBin bAdd (uVal (.int 1)) (uCall 2 sp_law_draw [] (uCons (uVar 0) (uCons (uBin bIx (uApp bLst (uCons (uVal (.int 4)) (uCons (uVal (.int 8)) uNil))) (uVar 1)) uNil)))))
  (uSeq (uSet 3 (uBin bAdd (uVar 2) (uCall 2 sp_law_draw [] (uCons (uVar 0) (uCons (uBin bIx (uApp bLst (uCons (uVal (.int 4)) (uCons (uBin bSub (uVal (.int 21)) (uVar 2)) uNil))) (uVar 1)) uNil)))))
  (uSeq (uSet 4 (uBin bAdd (uVal (.int 1)) (uCall 2 sp_law_draw [] (uCons (uVar 0) (uCons (uVar 3) uNil)))))
  (uSeq (uSet 5 (uBin bAdd (uVal (.int 1)) (uCall 2 sp_law_draw [] (uCons (uVar 0) (uCons (uBin bIx (uApp bLst (uCons (uVal (.int 3)) (uCons (uVal (.int 12)) uNil))) (uVar 1)) uNil)))))
  (uRet (uApp bTup (uCons (uVar 2) (uCons (uVar 4) (uCons (uBin bSub (uVar 3) (uVar 4)) (uCons (uBin bEq (uCall 2 sp_law_draw [] (uCons (uVar 0) (uCons (uVal (.int 2)) uNil))) (uVal (.int 1))) (uCons (uCall 2 sp_law_draw [] (uCons (uVar 0) (uCons (uVar 2) uNil))) (uCons (uVar 5) uNil)))))))))))))


def sp_law_text : FS := fun us h Po _ => match us with
  | [.tup [.int l, .int s, .int g, .bl b, .int o, .int n]] => Lay l s g o n ∧ Po (.val (.str (textL l s g b o n))) h
  | _ => False
/-- slots: 0 site, 1 wide_line, 2 size, 3 gap, 4 used, 5 spare, 6 many, 7 parts -/
def p_law_text : US :=
  (uSeq (uAsg (gT [1, 2, 3, 4, 5, 6]) (uVar 0))
  (uSeq (uSet 7 (uApp bLst (uCons (uVal (.str "line")) (uCons (uApp bStr (uCons (uVar 1) uNil)) (uCons (uVal (.str "size")) (uCons (uApp bStr (uCons (uVar 2) uNil)) (uCons (uVal (.str "gap")) (uCons (uApp bStr (uCons (uVar 3) uNil)) (uCons (uBin bIx (uApp bLst (uCons (uVal (.str "free")) (uCons (uVal (.str "used")) uNil))) (uApp bInt (uCons (uVar 4) uNil))) uNil)))))))))
  (uRet (uJoin (uVal (.str " ")) (uBin bAdd (uVar 7) (uApp bLst (uCons (uVal (.str "offset")) (uCons (uApp bStr (uCons (uVar 5) uNil)) (uCons (uVal (.str "slots")) (uCons (uApp bStr (uCons (uVar 6) uNil)) uNil))))))))))


def sp_law_bad_site : FS := fun us h Po _ => match us with
  | [.ref i, u] => ∃ k, PotAt h i k ∧ k < 2 ^ 56 ∧ LayIs u ∧ ∀ (h' : Hv) (w : U), PotAt h' i (k + 10) → Rest i h h' → wellT w = true → isLay w = false → Po (.val w) h'
  | _ => False
/-- slots: 0 bag, 1 site, 2 wide_line, 3 many, 4 odd, 5 at, 6 choice, 7 word, 8 some -/
def p_law_bad_site : US :=
  (uSeq (uPar2 2 3 (uCons (uBin bIx (uVar 1) (uVal (.int 0))) (uCons (uBin bIx (uVar 1) (uVal (.int 5))) uNil)))
  (uSeq (uSet 4 (uBin bIx (uApp bLst (uCons (uVal .non) (uCons (uVal (.bl true)) (uCons (uVal (.bl false)) (uCons (uVal (.str "1")) (uCons (uApp bTup (uCons (uVal (.int 1)) uNil)) (uCons (uApp bLst (uCons (uVal (.int 1)) uNil)) (uCons (uVal (.str "")) (uCons (uNeg (uVal (.int 1))) (uCons (uNeg (uBin bPow (uVal (.int 10)) (uVal (.int 30)))) (uCons (uApp bTup uNil) uNil))))))))))) (uCall 2 sp_law_draw [] (uCons (uVar 0) (uCons (uVal (.int 10)) uNil)))))
  (uSeq (uPar2 5 6 (uCons (uBin bIx (uApp bLst (uCons (uVal (.int 0)) (uCons (uVal (.int 1)) (uCons (uVal (.int 2)) (uCons (uVal (.int 4)) (uCons (uVal (.int 5)) uNil)))))) (uCall 2 sp_law_draw [] (uCons (uVar 0) (uCons (uVal (.int 5)) uNil)))) (uCons (uCall 2 sp_law_draw [] (uCons (uVar 0) (uCons (uVal (.int 13)) uNil))) uNil)))
  (uSeq (uSet 7 (uBin bIx (uApp bLst (uCons (uVal (.int 0)) (uCons (uVal (.int 1)) (uCons (uVal .non) (uCons (uVal (.str "used")) (uCons (uApp bLst (uCons (uVal (.bl true)) uNil)) uNil)))))) (uCall 2 sp_law_draw [] (uCons (uVar 0) (uCons (uVal (.int 5)) uNil)))))
  (uSeq (uSet 8 (uApp bLst (uCons (uBin bAdd (uBin bAdd (uSl bSl (uVar 1) uNoP (uP (uVar 5))) (uApp bTup (uCons (uVar 4) uNil))) (uSl bSl (uVar 1) (uP (uBin bAdd (uVar 5) (uVal (.int 1)))) uNoP)) (uCons (uBin bAdd (uBin bAdd (uSl bSl (uVar 1) uNoP (uP (uVar 5))) (uApp bTup (uCons (uVar 4) uNil))) (uSl bSl (uVar 1) (uP (uBin bAdd (uVar 5) (uVal (.int 1)))) uNoP)) (uCons (uBin bAdd (uBin bAdd (uApp bTup (uCons (uVal (.int 0)) uNil)) (uSl bSl (uVar 1) (uP (uVal (.int 1))) (uP (uVal (.int 4))))) (uApp bTup (uCons (uVal (.int 0)) (uCons (uVar 3) uNil)))) uNil)))))
  (uSeq (uSet 8 (uBin bAdd (uVar 8) (uApp bLst (uCons (uBin bAdd (uApp bTup (uCons (uVar 2) (uCons (uVal (.int 0)) (uCons (uVal (.int 20)) uNil)))) (uSl bSl (uVar 1) (uP (uVal (.int 3))) uNoP)) (uCons (uBin bAdd (uApp bTup (uCons (uBin bAdd (uBin bAdd (uBin bIx (uVar 1) (uVal (.int 1))) (uBin bIx (uVar 1) (uVal (.int 2)))) (uVal (.int 1))) uNil)) (uSl bSl (uVar 1) (uP (uVal (.int 1))) uNoP)) (uCons (uApp bList (uCons (uVar 1) uNil)) uNil))))))
  (uSeq (uSet 8 (uBin bAdd (uVar 8) (uApp bLst (uCons (uBin bAdd (uBin bAdd (uSl bSl (uVar 1) uNoP (uP (uVal (.int 3)))) (uApp bTup (uCons (uVar 7) uNil))) (uSl bSl (uVar 1) (uP (uVal (.int 4))) uNoP)) (uCons (uBin bAdd (uSl bSl (uVar 1) uNoP (uP (uVal (.int 4)))) (uApp bTup (uCons (uVar 2) (uCons (uVar 3) uNil)))) uNil)))))
  (uSeq (uSet 8 (uBin bAdd (uVar 8) (uApp bLst (uCons (uBin bAdd (uSl bSl (uVar 1) uNoP (uP (uVal (.int 5)))) (uApp bTup (uCons (uVal (.int 0)) uNil))) (uCons (uSl bSl (uVar 1) uNoP (uP (uVal (.int 5)))) (uCons (uBin bAdd (uVar 1) (uApp bTup (uCons (uVal (.int 1)) uNil))) (uCons (uVar 4) (uCons (uCall 1 sp_law_text [] (uCons (uVar 1) uNil)) uNil))))))))
  (uRet (uBin bIx (uVar 8) (uVar 6)))))))))))


def sp_law_great : FS := fun us h Po _ => match us with
  | [.ref i] => ∃ k, PotAt h i k ∧ k < 2 ^ 56 ∧ ∀ (h' : Hv) (u : U), PotAt h' i (k + 20) → Rest i h h' → LayIs u → Po (.val u) h'
  | _ => False
/-- slots: 0 bag, 1 wide_line, 2 size, 3 least, 4 gap, 5 spare, 6 many -/
def p_law_great : US :=
  (uSeq (uSet 1 (uBin bAdd (uVal (.int 1)) (uCall 2 sp_law_draw [] (uCons (uVar 0) (uCons (uBin bIx (uApp bLst (uCons (uVal (.int 9)) (uCons (uVal (.int 999999999)) (uCons (uVal (.int 12345)) uNil)))) (uCall 2 sp_law_draw [] (uCons (uVar 0) (uCons (uVal (.int 3)) uNil)))) uNil)))))
  (uSeq (uSet 2 (uBin bAdd (uVal (.int 1)) (uCall 2 sp_law_draw [] (uCons (uVar 0) (uCons (uBin bIx (uApp bLst (uCons (uVar 1) (uCons (uVal (.int 999999999)) (uCons (uVal (.int 1)) uNil)))) (uCall 2 sp_law_draw [] (uCons (uVar 0) (uCons (uVal (.int 3)) uNil)))) uNil)))))
  (uSeq (uSet 3 (uVal (.int 0)))
  (uSeq (uIf (uB (uBin bLt (uVar 2) (uVar 1))) (uSet 3 (uBin bSub (uVar 1) (uVar 2))) uNext)
  (uSeq (uSet 4 (uBin bAdd (uVar 3) (uCall 2 sp_law_draw [] (uCons (uVar 0) (uCons (uBin bIx (uApp bLst (uCons (uVal (.int 1)) (uCons (uBin bSub (uVal (.int 1000000000)) (uVar 3)) uNil))) (uCall 2 sp_law_draw [] (uCons (uVar 0) (uCons (uVal (.int 2)) uNil)))) uNil)))))
  (uSeq (uSet 5 (uBin bIx (uApp bLst (uCons (uVal (.int 0)) (uCons (uBin bSub (uVar 1) (uVal (.int 1))) (uCons (uCall 2 sp_law_draw [] (uCons (uVar 0) (uCons (uVar 1) uNil))) uNil)))) (uCall 2 sp_law_draw [] (uCons (uVar 0) (uCons (uVal (.int 3)) uNil)))))
  (uSeq (uSet 6 (uBin bIx (uApp bLst (uCons (uVal (.int 1)) (uCons (uVal (.int 999999999)) (uCons (uBin bAdd (uVal (.int 1)) (uCall 2 sp_law_draw [] (uCons (uVar 0) (uCons (uVal (.int 999999999)) uNil)))) uNil)))) (uCall 2 sp_law_draw [] (uCons (uVar 0) (uCons (uVal (.int 3)) uNil)))))
  (uRet (uApp bTup (uCons (uVar 1) (uCons (uVar 2) (uCons (uVar 4) (uCons (uBin bEq (uCall 2 sp_law_draw [] (uCons (uVar 0) (uCons (uVal (.int 2)) uNil))) (uVal (.int 1))) (uCons (uVar 5) (uCons (uVar 6) uNil)))))))))))))))


def sp_law_refuses : FS := fun us h Po _ => match us with
  | [u] => wellT u = true ∧ isLay u = false ∧ Po (.val (.bl true)) h
  | _ => False
/-- slots: 0 value, 1 caught, 2 e -/
def p_law_refuses : US :=
  (uSeq (uSet 1 (uVal .non))
  (uSeq (uTry ["InvalidLayout"] 2 1 (uDrop (uCall 1 sp_write_layout [] (uCons (uVar 0) uNil))))
  (uRet (uApp bIse (uCons (uVar 1) (uCons (uVal (.ecl "InvalidLayout")) uNil))))))


def sp_law : FS := fun us h Po _ => match us with
  | [.scr _] => ∀ h', Po (.val (.bl true)) h'
  | _ => False
def b1_law : US :=
  (uSeq (uSetR 2 (uCall 1 sp_law_bag [] (uCons (uVar 1) uNil)))
  (uSeq (uPar2 3 4 (uCons (uCall 1 sp_law_site [] (uCons (uVar 2) uNil)) (uCons (uCall 1 sp_law_site [] (uCons (uVar 2) uNil)) uNil)))
  (uSeq (uSet 5 (uApp bLst (uCons (uCall 1 sp_law_text [] (uCons (uVar 3) uNil)) (uCons (uCall 1 sp_law_text [] (uCons (uVar 4) uNil)) uNil))))
  (uSeq (uIf (uB (uBin bNe (uApp bRepr (uCons (uApp bLst (uCons (uCall 1 sp_write_layout [] (uCons (uVar 3) uNil)) (uCons (uCallK 1 sp_write_layout 0 1 (fun us ws => [ws.getD 0 .non]) uNil (uCons (uVar 4) uNil)) uNil))) uNil)) (uApp bRepr (uCons (uVar 5) uNil)))) (uRet (uVal (.bl false))) uNext)
  (uSeq (uIf (uB (uBin bNe (uApp bRepr (uCons (uApp bLst (uCons (uCall 1 sp_read_layout [] (uCons (uBin bIx (uVar 5) (uVal (.int 0))) uNil)) (uCons (uCallK 1 sp_read_layout 0 1 (fun us ws => [ws.getD 0 .non]) uNil (uCons (uBin bIx (uVar 5) (uVal (.int 1))) uNil)) uNil))) uNil)) (uApp bRepr (uCons (uApp bLst (uCons (uVar 3) (uCons (uVar 4) uNil))) uNil)))) (uRet (uVal (.bl false))) uNext)
  (uSeq (uSet 6 (uCall 1 sp_law_great [] (uCons (uVar 2) uNil)))
  (uSeq (uSet 7 (uCall 1 sp_read_layout [] (uCons (uCall 1 sp_law_text [] (uCons (uVar 6) uNil)) uNil)))
  (uSeq (uIf (uB (uBin bNe (uApp bRepr (uCons (uApp bLst (uCons (uVar 7) (uCons (uCall 1 sp_write_layout [] (uCons (uVar 7) uNil)) uNil))) uNil)) (uApp bRepr (uCons (uApp bLst (uCons (uVar 6) (uCons (uCall 1 sp_law_text [] (uCons (uVar 6) uNil)) uNil))) uNil)))) (uRet (uVal (.bl false))) uNext)
  (uIf (uNot (uB (uCall 1 sp_law_refuses [] (uCons (uCall 2 sp_law_bad_site [] (uCons (uVar 2) (uCons (uVar 3) uNil))) uNil)))) (uRet (uVal (.bl false))) uNext)))))))))
/-- slots: 0 script, 1 cell, 2 bag, 3 one, 4 other_one, 5 texts, 6 great, 7 read_one -/
def p_law : US :=
  (uSeq (uFor (uItems (uBin bAdd (uApp bLst (uCons (uVal (.int 4019283746501928374650192837465019283746)) uNil)) (uSl bSl (uVar 0) uNoP (uP (uVal (.int 30)))))) (gN 1) b1_law)
  (uRet (uVal (.bl true))))

end Vi.Law

namespace Vi.Law
open PySem PySem.Spec PyProof.Rows L2 Vi

theorem conf_is_whole : ∀ us h Po Pe, us.length = 2 → sp_is_whole us h Po Pe → p_is_whole (startE N_is_whole us) h (bodyD Po Pe) := by
  intro us h Po Pe hl hs
  match us, hl with
  | [u, w], _ =>
    unfold sp_is_whole at hs
    split at hs
    · rename_i u' l e
      cases e
      obtain ⟨ht, hp⟩ := hs
      cases u <;> simp [p_is_whole, startE, N_is_whole, isT, typed, isWhole] at ht hp ⊢ <;> exact hp
    · exact hs.elim

theorem joinL_len (S : List Nat) : ∀ l : List (List Nat), (TL.joinL S l).length ≤ (l.map (·.length)).sum + l.length * S.length
  | [] => by simp [TL.joinL]
  | [p] => by simp [TL.joinL]
  | p :: q :: r => by
    have ih := joinL_len S (q :: r)
    simp only [TL.joinL, List.length_append, List.map_cons, List.sum_cons, List.length_cons] at ih ⊢
    have : (r.length + 1 + 1) * S.length = (r.length + 1) * S.length + S.length := by rw [Nat.add_mul (r.length + 1) 1, Nat.one_mul]
    omega
theorem joinL_mem (S : List Nat) (c : Nat) : ∀ l : List (List Nat), c ∈ TL.joinL S l → c ∈ S ∨ ∃ p ∈ l, c ∈ p
  | [], h => by simp [TL.joinL] at h
  | [p], h => .inr ⟨p, by simp, by simpa [TL.joinL] using h⟩
  | p :: q :: r, h => by
    simp only [TL.joinL, List.mem_append] at h
    rcases h with h | h | h
    · exact .inr ⟨p, by simp, h⟩
    · exact .inl h
    · rcases joinL_mem S c (q :: r) h with h | ⟨z, hz, hc⟩
      · exact .inl h
      · exact .inr ⟨z, List.mem_cons_of_mem _ hz, hc⟩
theorem tl_sp : TL.tl (" " : Str) = [32] := by decide
theorem okW_tl {x : Str} (h : okW x = true) : 32 ∉ TL.tl x ∧ (∀ c ∈ TL.tl x, c < 128) ∧ (TL.tl x).length ≤ 9 := by
  simp only [okW, Bool.and_eq_true, List.all_eq_true, decide_eq_true_eq] at h
  refine ⟨fun z => (h.1 32 z).1 rfl, fun c hc => (h.1 c hc).2, ?_⟩
  have := TL.len_tl x
  omega
theorem text_tl (l : List Str) : TL.tl (Txt.join " " l) = TL.joinL [32] (l.map TL.tl) := by
  rw [TL.join_eq, TL.tl_join, tl_sp]
theorem text_ok {l : List Str} (h : ∀ x ∈ l, okW x = true) : (Txt.join " " l).length ≤ 10 * l.length ∧ ∀ c ∈ (Txt.join " " l).cps.toList, c < 128 := by
  constructor
  · have h0 := TL.len_tl (Txt.join " " l)
    rw [text_tl] at h0
    have h1 := joinL_len [32] (l.map TL.tl)
    have h2 : ∀ {l : List Str}, (∀ x ∈ l, okW x = true) → ((l.map TL.tl).map (·.length)).sum ≤ 9 * l.length := by
      intro l h
      induction l with
      | nil => exact Nat.le_refl _
      | cons x l ih =>
        have h1 := (okW_tl (h x (List.mem_cons_self ..))).2.2
        have h2 := ih fun y hy => h y (List.mem_cons_of_mem _ hy)
        simp only [List.map_cons, List.sum_cons, List.length_cons]
        omega
    have h3 := h2 h
    simp only [List.length_map, List.length_cons, List.length_nil] at h1
    omega
  · intro c hc
    have : c ∈ TL.tl (Txt.join " " l) := hc
    rw [text_tl] at this
    rcases joinL_mem _ _ _ this with h1 | ⟨p, hp, h1⟩
    · simp at h1
      omega
    · obtain ⟨x, hx, rfl⟩ := List.mem_map.mp hp
      exact (okW_tl (h x hx)).2.1 c h1
theorem text_split {l : List Str} (hne : l ≠ []) (h : ∀ x ∈ l, okW x = true) : Txt.split (Txt.join " " l) " " = l :=
  TL.split_join tl_sp (by decide +kernel) hne fun p hp => (okW_tl (h p hp)).1
theorem num_tl (n : Nat) : TL.tl (numU n) = TL.numL n := TL.tl_num n
theorem num_len {n : Nat} (h : n < 1000000000) : (TL.numL n).length ≤ 9 := TL.numL_len (k := 9) (by decide) h
theorem okW_num {n : Nat} (h : n < 1000000000) : okW (numU n) = true := by
  have h1 := num_tl n
  have h2 := num_len h
  have h3 := TL.len_tl (numU n)
  rw [h1] at h3
  simp only [okW, Bool.and_eq_true, List.all_eq_true, decide_eq_true_eq]
  refine ⟨fun c hc => ?_, by omega⟩
  have hc' : c ∈ TL.numL n := by rw [← h1]; exact hc
  have := TL.numL_digits n c hc'
  omega
theorem okW_len {x : Str} (h : okW x = true) : x.length ≤ 9 := by
  simp only [okW, Bool.and_eq_true, decide_eq_true_eq] at h
  exact h.2
theorem log_num {n : Nat} (h : n < 1000000000) : (n : Int).natAbs.log2 < 1920 := by
  have : LB (n : Int) 30 := by show Int.natAbs _ < 2 ^ 30; omega
  have := this.log
  omega
theorem conf_has_measures : ∀ us h Po Pe, us.length = 4 → sp_has_measures us h Po Pe → p_has_measures (startE N_has_measures us) h (bodyD Po Pe) := by
  intro us h Po Pe hl hs
  unfold sp_has_measures at hs
  split at hs
  · rename_i a b c d
    obtain ⟨h1, h2, h3, h4, hp⟩ := hs
    by_cases wa : isWhole a 1 = true
    · by_cases wb : isWhole b 1 = true
      · by_cases wc : isWhole c 0 = true
        · obtain ⟨i, rfl⟩ : ∃ i, a = .int i := by cases a <;> first | exact ⟨_, rfl⟩ | cases wa
          obtain ⟨j, rfl⟩ : ∃ i, b = .int i := by cases b <;> first | exact ⟨_, rfl⟩ | cases wb
          obtain ⟨k, rfl⟩ : ∃ i, c = .int i := by cases c <;> first | exact ⟨_, rfl⟩ | cases wc
          cases d with
          | bl x =>
            simp [p_has_measures, startE, N_has_measures, sp_is_whole, typed, wa, wb, wc, isT]
            simpa [hasM, wa, wb, wc, isBl, geU] using hp
          | _ => simp [p_has_measures, startE, N_has_measures, sp_is_whole, h1, h2, h3, wa, wb, wc, isT, typed] at h4 ⊢ <;> simpa [hasM, wa, wb, wc, isBl] using hp
        · simp [p_has_measures, startE, N_has_measures, sp_is_whole, h1, h2, h3, wa, wb, wc]
          simpa [hasM, wa, wb, wc] using hp
      · simp [p_has_measures, startE, N_has_measures, sp_is_whole, h1, h2, wa, wb]
        simpa [hasM, wa, wb] using hp
    · simp [p_has_measures, startE, N_has_measures, sp_is_whole, h1, wa]
      simpa [hasM, wa] using hp
  · exact hs.elim

theorem six_of {u : List U} (h : u.length = 6) : ∃ a b c d e f, u = [a, b, c, d, e, f] := match u, h with
  | [a, b, c, d, e, f], _ => ⟨a, b, c, d, e, f, rfl⟩
theorem conf_is_layout : ∀ us h Po Pe, us.length = 1 → sp_is_layout us h Po Pe → p_is_layout (startE N_is_layout us) h (bodyD Po Pe) := by
  intro us h Po Pe hl hs
  unfold sp_is_layout at hs
  split at hs
  · rename_i u
    obtain ⟨ht, hp⟩ := hs
    cases u with
    | tup us =>
      by_cases h6 : us.length = 6
      · obtain ⟨a, b, c, d, e, f, rfl⟩ := six_of h6
        simp [wellT] at ht
        obtain ⟨_, t1, t2, t3, t4, t5, t6⟩ := ht
        simp only [isLay] at hp
        by_cases hm : hasM a b c d = true
        · by_cases we : isWhole e 0 = true
          · have hm' := hm
            simp only [hasM, Bool.and_eq_true] at hm'
            have wa := hm'.1
            obtain ⟨i, rfl⟩ : ∃ i, a = .int i := by cases a <;> first | exact ⟨_, rfl⟩ | cases wa
            obtain ⟨j, rfl⟩ : ∃ i, e = .int i := by cases e <;> first | exact ⟨_, rfl⟩ | cases we
            by_cases hlt : j < i <;> simp [p_is_layout, startE, N_is_layout, isT, sp_has_measures, t1, t2, t3, t4, t5, t6, hm, sp_is_whole, we, hlt] <;> simpa [hm, we, ltU, hlt] using hp
          · simp [p_is_layout, startE, N_is_layout, isT, sp_has_measures, t1, t2, t3, t4, t5, t6, hm, sp_is_whole, we]
            simpa [hm, we] using hp
        · simp [p_is_layout, startE, N_is_layout, isT, sp_has_measures, t1, t2, t3, t4, hm]
          simpa [hm] using hp
      · have hd : isLay (.tup us) = false := by
          unfold isLay
          split
          · rename_i e
            cases e
            exact absurd rfl h6
          · rfl
        rw [hd] at hp
        have h6' : ¬ ((us.length : Int) = 6) := by omega
        simp [p_is_layout, startE, N_is_layout, isT, h6']
        exact hp
    | _ => simp [p_is_layout, startE, N_is_layout, isT, wellT, typed, isLay] at ht hp ⊢ <;> exact hp
  · exact hs.elim

theorem conf_need_layout : ∀ us h Po Pe, us.length = 1 → sp_need_layout us h Po Pe → p_need_layout (startE N_need_layout us) h (bodyD Po Pe) := by
  intro us h Po Pe hl hs
  unfold sp_need_layout at hs
  split at hs
  · rename_i u
    obtain ⟨ht, h1, h2⟩ := hs
    cases hd : isLay u <;> simp [p_need_layout, startE, N_need_layout, sp_is_layout, ht, hd] <;> simp_all
  · exact hs.elim

def t_write_layout_3 : US := (uRet (uJs [(uVal (.str "line ")), (uFmt (uVar 1)), (uVal (.str " size ")), (uFmt (uVar 2)), (uVal (.str " gap ")), (uFmt (uVar 3)), (uVal (.str " ")), (uFmt (uVar 7)), (uVal (.str " offset ")), (uFmt (uVar 5)), (uVal (.str " slots ")), (uFmt (uVar 6))] Str.empty))
def r_write_layout_3 : US := t_write_layout_3
def t_write_layout_2 : US := (uSet 7 (uIfE (uB (uVar 4)) (uVal (.str "used")) (uVal (.str "free"))))
def r_write_layout_2 : US := uSeq t_write_layout_2 r_write_layout_3
def t_write_layout_1 : US := (uAsg (gT [1, 2, 3, 4, 5, 6]) (uVar 0))
def r_write_layout_1 : US := uSeq t_write_layout_1 r_write_layout_2
def t_write_layout_0 : US := (uDrop (uCall 1 sp_need_layout [] (uCons (uVar 0) uNil)))
def r_write_layout_0 : US := uSeq t_write_layout_0 r_write_layout_1
theorem cut_write_layout : p_write_layout = r_write_layout_0 := rfl
theorem Lay.isLay {l s g o n : Int} (L : Lay l s g o n) (b : Bool) : isLay (layU l s g b o n) = true := by
  simp [Vi.Law.isLay, layU, hasM, isWhole, isBl, geU, ltU, L.l1, L.s1, L.g0, L.sg, L.o0, L.n1]
theorem lay_well (l s g : Int) (b : Bool) (o n : Int) : wellT (layU l s g b o n) = true := rfl
theorem nat_of {i : Int} (h : 0 ≤ i ∧ i < 1000000000) : ∃ k : Nat, i = (k : Int) ∧ k < 1000000000 := ⟨i.toNat, by omega, by omega⟩
theorem Lay.rng {l s g o n : Int} (L : Lay l s g o n) : (0 ≤ l ∧ l < 1000000000) ∧ (0 ≤ s ∧ s < 1000000000) ∧ (0 ≤ g ∧ g < 1000000000) ∧ (0 ≤ o ∧ o < 1000000000) ∧ (0 ≤ n ∧ n < 1000000000) := by
  have := L.l1; have := L.s1; have := L.g0; have := L.o0; have := L.n1
  omega
theorem okW_int {i : Int} (h : 0 ≤ i ∧ i < 1000000000) : okW (numU i) = true := by
  obtain ⟨k, rfl, hk⟩ := nat_of h
  exact okW_num hk
theorem log_int {i : Int} (h : 0 ≤ i ∧ i < 1000000000) : i.natAbs.log2 < 1920 := by
  obtain ⟨k, rfl, hk⟩ := nat_of h
  exact log_num hk
theorem slen (a b : Str) : (a ++ b).length = a.length + b.length := by
  have h1 := TL.len_tl (a ++ b)
  have h2 := TL.len_tl a
  have h3 := TL.len_tl b
  rw [TL.tl_append, List.length_append] at h1
  omega
theorem tl_inj {a b : Str} (h : TL.tl a = TL.tl b) : a = b := by
  have : [a] = [b] := TL.map_tl_inj (by simp [h])
  cases this
  rfl
theorem f_text (l s g : Int) (w : Str) (o n : Int) :
    (((((((((((Str.empty ++ "line ") ++ numU l) ++ " size ") ++ numU s) ++ " gap ") ++ numU g) ++ " ") ++ w) ++ " offset ") ++ numU o) ++ " slots ") ++ numU n =
      Txt.join " " ["line", numU l, "size", numU s, "gap", numU g, w, "offset", numU o, "slots", numU n] := by
  apply tl_inj
  have c0 : TL.tl Str.empty = [] := by decide
  have c1 : TL.tl ("line " : Str) = TL.tl ("line" : Str) ++ [32] := by decide
  have c2 : TL.tl (" size " : Str) = [32] ++ (TL.tl ("size" : Str) ++ [32]) := by decide
  have c3 : TL.tl (" gap " : Str) = [32] ++ (TL.tl ("gap" : Str) ++ [32]) := by decide
  have c4 : TL.tl (" " : Str) = [32] := by decide
  have c5 : TL.tl (" offset " : Str) = [32] ++ (TL.tl ("offset" : Str) ++ [32]) := by decide
  have c6 : TL.tl (" slots " : Str) = [32] ++ (TL.tl ("slots" : Str) ++ [32]) := by decide
  rw [text_tl]
  simp only [TL.tl_append, c0, c1, c2, c3, c4, c5, c6, List.map_cons, List.map_nil, TL.joinL, List.append_assoc, List.nil_append]
theorem conf_write_layout : ∀ us h Po Pe, us.length = 1 → sp_write_layout us h Po Pe → p_write_layout (startE N_write_layout us) h (bodyD Po Pe) := by
  intro us h Po Pe hl hs
  unfold sp_write_layout at hs
  split at hs
  · rename_i u
    obtain ⟨ht, h1, h2⟩ := hs
    cases hd : isLay u
    · simp [p_write_layout, startE, N_write_layout, sp_need_layout, ht, hd]
      exact h1 hd
    · obtain ⟨l, s, g, b, o, n, rfl, L, hp⟩ := h2 hd
      obtain ⟨r1, r2, r3, r4, r5⟩ := L.rng
      have q1 := okW_len (okW_int r1)
      have q2 := okW_len (okW_int r2)
      have q3 := okW_len (okW_int r3)
      have q4 := okW_len (okW_int r4)
      have q5 := okW_len (okW_int r5)
      have g1 := log_int r1
      have g2 := log_int r2
      have g3 := log_int r3
      have g4 := log_int r4
      have g5 := log_int r5
      have c0 : Str.empty.length = 0 := by decide
      have c1 : ("line " : Str).length = 5 := by decide
      have c2 : (" size " : Str).length = 6 := by decide
      have c3 : (" gap " : Str).length = 5 := by decide
      have c4 : (" " : Str).length = 1 := by decide
      have c5 : (" offset " : Str).length = 8 := by decide
      have c6 : (" slots " : Str).length = 7 := by decide
      rw [cut_write_layout]
      simp [r_write_layout_0, t_write_layout_0, startE, N_write_layout, sp_need_layout, ht, hd]
      simp [r_write_layout_1, t_write_layout_1, layU]
      have fin : ∀ w : Str, okW w = true → Txt.join " " ["line", numU l, "size", numU s, "gap", numU g, w, "offset", numU o, "slots", numU n] = textL l s g b o n →
          r_write_layout_3 [some (.val (.tup [.int l, .int s, .int g, .bl b, .int o, .int n])), some (.val (.int l)), some (.val (.int s)), some (.val (.int g)), some (.val (.bl b)), some (.val (.int o)), some (.val (.int n)), some (.val (.str w))] h (bodyD Po Pe) := by
        intro w hw e
        have qw := okW_len hw
        have ft := f_text l s g w o n
        rw [e] at ft
        simp [r_write_layout_3, t_write_layout_3, sizeLine_eq, slen, c0, c1, c2, c3, c4, c5, c6, g1, g2, g3, g4, g5]
        rw [ft]
        exact ⟨by omega, by omega, by omega, by omega, by omega, by omega, by omega, by omega, by omega, by omega, by omega, by omega, hp⟩
      cases b
      · simp [r_write_layout_2, t_write_layout_2]
        exact fin "free" (by decide +kernel) rfl
      · simp [r_write_layout_2, t_write_layout_2]
        exact fin "used" (by decide +kernel) rfl
  · exact hs.elim

def t_read_number_3 : US := (uRet (uApp bInt (uCons (uVar 0) uNil)))
def r_read_number_3 : US := t_read_number_3
def t_read_number_2 : US := (uIf (uAnd (uB (uBin bEq (uBin bIx (uVar 0) (uVal (.int 0))) (uVal (.str "0")))) (uB (uBin bGt (uApp bLen (uCons (uVar 0) uNil)) (uVal (.int 1))))) (uRet (uVal .non)) uNext)
def r_read_number_2 : US := uSeq t_read_number_2 r_read_number_3
def t_read_number_1 : US := (uFor (uSigns (uVar 0)) (gN 1) b1_read_number)
def r_read_number_1 : US := uSeq t_read_number_1 r_read_number_2
def t_read_number_0 : US := (uIf (uOr (uB (uBin bEq (uVar 0) (uVal (.str "")))) (uB (uBin bGt (uApp bLen (uCons (uVar 0) uNil)) (uVal c_MOST_DIGITS)))) (uRet (uVal .non)) uNext)
def r_read_number_0 : US := uSeq t_read_number_0 r_read_number_1
theorem cut_read_number : p_read_number = r_read_number_0 := rfl
theorem num_lead : ∀ n : Nat, 10 ≤ n → ∃ c r, TL.numL n = c :: r ∧ c ≠ 48 := by
  intro n
  induction n using Nat.strongRecOn with
  | _ n ih =>
    intro h
    rw [TL.numL_step h]
    by_cases h2 : n / 10 < 10
    · rw [TL.numL_lt h2]
      exact ⟨48 + n / 10, [48 + n % 10], rfl, by omega⟩
    · obtain ⟨c, r, e, hc⟩ := ih (n / 10) (by omega) (by omega)
      rw [e]
      exact ⟨c, r ++ [48 + n % 10], rfl, hc⟩
theorem digit_in {c : Nat} (h : 48 ≤ c ∧ c ≤ 57) : c ∈ ("0123456789" : Str).cps.toList := by
  have : ∀ c, c < 58 → 48 ≤ c → c ∈ ("0123456789" : Str).cps.toList := by decide +kernel
  exact this c (by omega) h.1
theorem dig_loop {v : Option Sv} {P : UD} {h : Hv} : ∀ (l : List Nat) (e : Option Sv), (∀ c ∈ l, 48 ≤ c ∧ c ≤ 57) → (∀ e, P.nx [v, e] h) → forU (gN 1) b1_read_number P (l.map fun c => U.str ⟨#[c]⟩) [v, e] h
  | [], e, _, q => q e
  | c :: l, e, hd, q => by
    have ih := dig_loop (v := v) (P := P) (h := h) l (some (.val (.str ⟨#[c]⟩))) (fun d hm => hd d (List.mem_cons_of_mem _ hm)) q
    rw [List.map_cons, forU]
    generalize forU (gN 1) b1_read_number P (l.map fun c => U.str ⟨#[c]⟩) = F at ih ⊢
    have hc := digit_in (hd c (List.mem_cons_self ..))
    simp [b1_read_number, show c_DIGITS = .str "0123456789" from rfl, hc]
    exact ih
theorem atI_zero {α : Type} (a : α) (l : List α) : L2.atI (a :: l) 0 = some a := by
  simp only [L2.atI, L2.ixN, List.length_cons]
  rw [if_pos (by omega), if_pos (by omega)]
  rfl
theorem one_zero (c : Nat) : ((⟨#[c]⟩ : Str) = "0") = (c = 48) := by
  have e : ("0" : Str) = ⟨#[48]⟩ := by decide +kernel
  rw [e]
  simp
theorem conf_read_number : ∀ us h Po Pe, us.length = 1 → sp_read_number us h Po Pe → p_read_number (startE N_read_number us) h (bodyD Po Pe) := by
  intro us h Po Pe hl hs
  unfold sp_read_number at hs
  split at hs
  · rename_i x
    obtain ⟨n, rfl, hn, hp⟩ := hs
    have e1 : (numU n).cps.toList = TL.numL n := num_tl n
    have e2 := num_len hn
    have e3 : (numU n).length = (TL.numL n).length := by
      have := TL.len_tl (numU n)
      rw [num_tl] at this
      exact this
    have e4 := TL.numL_ne n
    have e5 : 0 < (TL.numL n).length := List.length_pos_iff.mpr e4
    have hne : ¬ numU n = "" := fun z => by
      rw [z] at e3
      have : ("" : Str).length = 0 := by decide
      omega
    have h9 : ¬ (9 : Int) < ((numU n).length : Int) := by omega
    have ei : intText? (numU n) = some (n : Int) := TL.int_num (by omega)
    rw [cut_read_number]
    simp [r_read_number_0, t_read_number_0, startE, N_read_number, hne, itemsAt, sizeLine_eq, show c_MOST_DIGITS = .int 9 from rfl, h9]
    refine ⟨by omega, ?_⟩
    simp [r_read_number_1, t_read_number_1, signsU]
    rw [e1]
    refine dig_loop _ none (fun c hc => TL.numL_digits n c hc) fun e => ?_
    obtain ⟨c, r, er⟩ : ∃ c r, TL.numL n = c :: r := by
      cases hq : TL.numL n with
      | nil => exact absurd hq e4
      | cons c r => exact ⟨c, r, rfl⟩
    simp [r_read_number_2, t_read_number_2, itemsAt, sizeLine_eq]
    rw [show (numU n).cps.toList = c :: r from e1.trans er, atI_zero]
    refine ⟨by omega, ?_⟩
    have fin : r_read_number_3 [some (.val (.str (numU n))), e] h (bodyD Po Pe) := by
      simp [r_read_number_3, t_read_number_3, ei]
      exact ⟨by omega, hp⟩
    by_cases hc : c = 48
    · have hn10 : n < 10 := by
        cases Nat.lt_or_ge n 10 with
        | inl z => exact z
        | inr z =>
          obtain ⟨c', r', e', hc'⟩ := num_lead n z
          rw [er] at e'
          cases e'
          exact absurd hc hc'
      have : (TL.numL n).length = 1 := by rw [TL.numL_lt hn10]; rfl
      have h1 : ¬ (1 : Int) < ((numU n).length : Int) := by omega
      simp [one_zero, hc, h1]
      exact ⟨by omega, fin⟩
    · simp [one_zero, hc]
      exact fin
  · exact hs.elim

theorem conf_number_fits : ∀ us h Po Pe, us.length = 2 → sp_number_fits us h Po Pe → p_number_fits (startE N_number_fits us) h (bodyD Po Pe) := by
  intro us h Po Pe hl hs
  unfold sp_number_fits at hs
  split at hs
  · rename_i r n
    obtain ⟨ns, ho, hp⟩ := hs
    match ns, ho, hp with
    | [a, b], ho, hp =>
      simp at ho
      simp [p_number_fits, startE, N_number_fits, itemsAt, ho, L2.atI, L2.ixN]
      exact hp
    | [a, b, c], ho, hp =>
      simp at ho
      simp [p_number_fits, startE, N_number_fits, itemsAt, ho, L2.atI, L2.ixN]
      exact hp
    | [], ho, hp =>
      simp at ho
      simp [p_number_fits, startE, N_number_fits, itemsAt, ho]
      exact hp
    | [a], ho, hp =>
      simp at ho
      simp [p_number_fits, startE, N_number_fits, itemsAt, ho]
      exact hp
    | a :: b :: c :: d :: l, ho, hp =>
      simp at ho
      have h1 : ¬ ((l.length : Int) + 1 + 1 + 1 + 1 = 2) := by omega
      have h2 : ¬ ((l.length : Int) + 1 + 1 + 1 + 1 = 3) := by omega
      simp [p_number_fits, startE, N_number_fits, itemsAt, ho, h1, h2]
      exact hp
  · exact hs.elim

def t_read_layout_5 : US := (uRet (uApp bTup (uCons (uVar 6) (uCons (uVar 7) (uCons (uVar 8) (uCons (uBin bEq (uBin bIx (uVar 1) (uVal (.int 6))) (uVal (.str "used"))) (uCons (uVar 9) (uCons (uVar 10) uNil))))))))
def r_read_layout_5 : US := t_read_layout_5
def t_read_layout_4 : US := (uAsg (gL [6, 7, 8, 9, 10]) (uVar 2))
def r_read_layout_4 : US := uSeq t_read_layout_4 r_read_layout_5
def t_read_layout_3 : US := (uIf (uB (uBin bGt (uApp bLen (uCons (uVar 1) uNil)) (uApp bLen (uCons (uVal c_LAYOUT_WORDS) uNil)))) uStuck uNext)
def r_read_layout_3 : US := uSeq t_read_layout_3 r_read_layout_4
def t_read_layout_2 : US := (uFor (uIter bRange1 (uCons (uApp bLen (uCons (uVal c_LAYOUT_WORDS) uNil)) uNil)) (gN 3) b1_read_layout)
def r_read_layout_2 : US := uSeq t_read_layout_2 r_read_layout_3
def t_read_layout_1 : US := (uSetR 2 (uApp bLst uNil))
def r_read_layout_1 : US := uSeq t_read_layout_1 r_read_layout_2
def t_read_layout_0 : US := (uSet 1 (uSplit (uVar 0) (uVal (.str " "))))
def r_read_layout_0 : US := uSeq t_read_layout_0 r_read_layout_1
theorem cut_read_layout : p_read_layout = r_read_layout_0 := rfl
def layL : List U := [.tup [.str "line"], .tup [], .tup [.str "size"], .tup [], .tup [.str "gap"], .tup [], .tup [.str "used", .str "free"], .tup [.str "offset"], .tup [], .tup [.str "slots"], .tup []]
theorem layW_eq : c_LAYOUT_WORDS = .tup layL := rfl
theorem obL_last (g : Hv) (us : List U) : obL (g ++ [Ob.lst us]) g.length = some us := by simp [obL]
theorem set_last (g : Hv) (a b : Ob) : (g ++ [a]).set g.length b = g ++ [b] := by simp
theorem eq_nn : eqU? (.tup []) (.tup []) = some true := by decide +kernel
theorem wstep {words rest : List U} {P : UD} {h : Hv} {r : Nat} {e0 e3 e4 e5 e6 e7 e8 e9 e10 : Option Sv} {p : Nat} {c : Str} {lw : U} (hp : p < words.length) (ha : L2.atI words (p : Int) = some (.str c)) (hw : L2.atI layL (p : Int) = some lw) (he : eqU? lw (.tup []) = some false) (hin : inU? (.str c) lw = some true)
    (q : forU (gN 3) b1_read_layout P rest [e0, some (.val (.lst words)), some (.val (.ref r)), some (.val (.int p)), some (.val (.str c)), e5, e6, e7, e8, e9, e10] h) :
    forU (gN 3) b1_read_layout P (.int p :: rest) [e0, some (.val (.lst words)), some (.val (.ref r)), e3, e4, e5, e6, e7, e8, e9, e10] h := by
  rw [forU]
  generalize forU (gN 3) b1_read_layout P rest = F at q ⊢
  simp [b1_read_layout, layW_eq, hp, ha, hw, he, hin, sizeLine_eq]
  exact q
theorem nstep {words rest : List U} {P : UD} {g : Hv} {e0 e3 e4 e5 e6 e7 e8 e9 e10 : Option Sv} {p m : Nat} {ns : List Int} (hp : p < words.length) (ha : L2.atI words (p : Int) = some (.str (numU m))) (hm : m < 1000000000) (hw : L2.atI layL (p : Int) = some (.tup [])) (hf : fitsB ns m = true) (hl : ns.length < 100)
    (q : forU (gN 3) b1_read_layout P rest [e0, some (.val (.lst words)), some (.val (.ref g.length)), some (.val (.int p)), some (.val (.str (numU m))), some (.val (.int m)), e6, e7, e8, e9, e10] (g ++ [.lst ((ns ++ [(m : Int)]).map U.int)])) :
    forU (gN 3) b1_read_layout P (.int p :: rest) [e0, some (.val (.lst words)), some (.val (.ref g.length)), e3, e4, e5, e6, e7, e8, e9, e10] (g ++ [.lst (ns.map U.int)]) := by
  rw [forU]
  generalize forU (gN 3) b1_read_layout P rest = F at q ⊢
  simp [b1_read_layout, layW_eq, hp, ha, hw, eq_nn, sizeLine_eq]
  unfold sp_read_number
  refine ⟨m, rfl, hm, ?_⟩
  simp
  unfold sp_number_fits
  refine ⟨ns, obL_last g _, ?_⟩
  simp [hf, obL_last, sizeLine_eq]
  refine ⟨by omega, ?_⟩
  simpa using q
theorem at_nat {l : List U} {p : Nat} {u : U} (h : l[p]? = some u) : L2.atI l (p : Int) = some u := by
  have hp : p < l.length := (List.getElem?_eq_some_iff.mp h).1
  have hh : l[p]? = some l[p] := List.getElem?_eq_getElem hp
  rw [h] at hh
  cases hh
  simp [L2.atI, L2.ixN, hp]
theorem conf_read_layout : ∀ us h Po Pe, us.length = 1 → sp_read_layout us h Po Pe → p_read_layout (startE N_read_layout us) h (bodyD Po Pe) := by
  intro us h Po Pe hl hs
  unfold sp_read_layout at hs
  split at hs
  · rename_i t
    obtain ⟨l, s, g, b, o, n, rfl, L, hp⟩ := hs
    obtain ⟨r1, r2, r3, r4, r5⟩ := L.rng
    have okw : ∀ x ∈ wordsLay l s g b o n, okW x = true := by
      intro x hx
      simp only [wordsLay, List.mem_cons, List.not_mem_nil, or_false] at hx
      rcases hx with rfl | rfl | rfl | rfl | rfl | rfl | rfl | rfl | rfl | rfl | rfl
      · decide +kernel
      · exact okW_int r1
      · decide +kernel
      · exact okW_int r2
      · decide +kernel
      · exact okW_int r3
      · cases b <;> decide +kernel
      · decide +kernel
      · exact okW_int r4
      · decide +kernel
      · exact okW_int r5
    have tok := (text_ok okw).1
    have sp : Txt.split (textL l s g b o n) " " = wordsLay l s g b o n := text_split (by simp [wordsLay]) okw
    have tl1 : (textL l s g b o n).length ≤ 10 * (wordsLay l s g b o n).length := tok
    have wl : (wordsLay l s g b o n).length = 11 := rfl
    have esp : ((" " : Str).length == 0) = false := by decide
    have L1 := L.l1; have L2' := L.s1; have L3 := L.g0; have L4 := L.o0; have L5 := L.n1; have L6 := L.sg
    obtain ⟨l, rfl, hl'⟩ := nat_of r1
    obtain ⟨s, rfl, hs'⟩ := nat_of r2
    obtain ⟨g, rfl, hg'⟩ := nat_of r3
    obtain ⟨o, rfl, ho'⟩ := nat_of r4
    obtain ⟨n, rfl, hn'⟩ := nat_of r5
    rw [cut_read_layout]
    simp [r_read_layout_0, t_read_layout_0, startE, N_read_layout, esp, sizeLine_eq, sp]
    refine ⟨by omega, ?_⟩
    simp [r_read_layout_1, t_read_layout_1, sizeLine_eq]
    simp [r_read_layout_2, t_read_layout_2, layW_eq]
    rw [show rangeU 0 layL.length = [.int ((0 : Nat) : Int), .int ((1 : Nat) : Int), .int ((2 : Nat) : Int), .int ((3 : Nat) : Int), .int ((4 : Nat) : Int), .int ((5 : Nat) : Int), .int ((6 : Nat) : Int), .int ((7 : Nat) : Int), .int ((8 : Nat) : Int), .int ((9 : Nat) : Int), .int ((10 : Nat) : Int)] from rfl]
    have W : (wordsLay l s g b o n).map U.str = [.str "line", .str (numU l), .str "size", .str (numU s), .str "gap", .str (numU g), .str (if b = true then "used" else "free"), .str "offset", .str (numU o), .str "slots", .str (numU n)] := rfl
    rw [W]
    generalize hWW : ([.str "line", .str (numU l), .str "size", .str (numU s), .str "gap", .str (numU g), .str (if b = true then "used" else "free"), .str "offset", .str (numU o), .str "slots", .str (numU n)] : List U) = WW
    have wwl : WW.length = 11 := by rw [← hWW]; rfl
    rw [show (h ++ [Ob.lst []]) = h ++ [Ob.lst (([] : List Int).map U.int)] from rfl]
    refine ⟨by decide, ?_⟩
    refine wstep (lw := .tup [.str "line"]) (by omega) (at_nat (by rw [← hWW]; rfl)) (at_nat rfl) (by decide +kernel) (by decide +kernel) ?_
    refine nstep (m := l) (by omega) (at_nat (by rw [← hWW]; rfl)) hl' (at_nat rfl) (by simp [fitsB]; omega) (by simp) ?_
    refine wstep (lw := .tup [.str "size"]) (by omega) (at_nat (by rw [← hWW]; rfl)) (at_nat rfl) (by decide +kernel) (by decide +kernel) ?_
    refine nstep (m := s) (by omega) (at_nat (by rw [← hWW]; rfl)) hs' (at_nat rfl) (by simp [fitsB]; omega) (by simp) ?_
    refine wstep (lw := .tup [.str "gap"]) (by omega) (at_nat (by rw [← hWW]; rfl)) (at_nat rfl) (by decide +kernel) (by decide +kernel) ?_
    refine nstep (m := g) (by omega) (at_nat (by rw [← hWW]; rfl)) hg' (at_nat rfl) (by simp [fitsB]; omega) (by simp) ?_
    refine wstep (lw := .tup [.str "used", .str "free"]) (by omega) (at_nat (by rw [← hWW]; rfl)) (at_nat rfl) (by decide +kernel) (by cases b <;> decide +kernel) ?_
    refine wstep (lw := .tup [.str "offset"]) (by omega) (at_nat (by rw [← hWW]; rfl)) (at_nat rfl) (by decide +kernel) (by decide +kernel) ?_
    refine nstep (m := o) (by omega) (at_nat (by rw [← hWW]; rfl)) ho' (at_nat rfl) (by simp [fitsB]; omega) (by simp) ?_
    refine wstep (lw := .tup [.str "slots"]) (by omega) (at_nat (by rw [← hWW]; rfl)) (at_nat rfl) (by decide +kernel) (by decide +kernel) ?_
    refine nstep (m := n) (by omega) (at_nat (by rw [← hWW]; rfl)) hn' (at_nat rfl) (by simp [fitsB]; omega) (by simp) ?_
    rw [forU]
    have l11 : (layL.length : Int) = 11 := rfl
    have a6 : L2.atI WW 6 = some (.str (if b = true then "used" else "free")) := at_nat (p := 6) (by rw [← hWW]; rfl)
    have nuf : ¬ ("free" : Str) = "used" := by decide
    simp [r_read_layout_3, t_read_layout_3, layW_eq, wwl, l11, sizeLine_eq]
    simp [r_read_layout_4, t_read_layout_4, obL_last]
    have fin := hp (h ++ [.lst ([(l : Int), s, g, o, n].map U.int)]) ⟨_, rfl⟩
    cases b <;> simp [r_read_layout_5, t_read_layout_5, a6, sizeLine_eq, nuf] <;> simpa [layU] using fin
  · exact hs.elim

theorem conf_law_bag : ∀ us h Po Pe, us.length = 1 → sp_law_bag us h Po Pe → p_law_bag (startE N_law_bag us) h (bodyD Po Pe) := by
  intro us h Po Pe hl hs
  unfold sp_law_bag at hs
  split at hs
  · rename_i c
    have hb : ∀ a : Int, Po (.own [.int a, .int (c % 999999999999999877), .int 0]) h := fun a => hs a _ (by omega) (by omega)
    have hc : CPow 10 18 := ⟨by decide, by decide, by decide⟩
    by_cases h0 : (1000000000000000000 : Int) ≤ c <;> simp [p_law_bag, startE, N_law_bag, hc, h0, sizeLine_eq] <;> exact hb _
  · exact hs.elim

theorem conf_law_draw : ∀ us h Po Pe, us.length = 2 → sp_law_draw us h Po Pe → p_law_draw (startE N_law_draw us) h (bodyD Po Pe) := by
  intro us h Po Pe hl hs
  unfold sp_law_draw at hs
  split at hs
  · rename_i i m
    obtain ⟨k, ⟨a, b, n, e, hb0, hb1, hn0, hn1⟩, hk, hm, hml, hp⟩ := hs
    have eo := obL_of e
    have hi := lt_of_at e
    have hd : CDivW a m := ⟨hm, hml⟩
    by_cases h0 : 0 < a
    · simp [p_law_draw, startE, N_law_draw, h0, eo, L2.atI, L2.ixN, hd, hm]
      exact hp _ _ ⟨_, b, n, List.getElem?_set_self hi, hb0, hb1, hn0, by omega⟩ .set (Int.emod_nonneg _ (by omega)) (Int.emod_lt_of_pos _ hm)
    · have b2 : LB (n + 1) 60 := by show Int.natAbs _ < 2 ^ 60; omega
      have b1 : LB b 60 := by show Int.natAbs _ < 2 ^ 60; omega
      have b6 : LB (6700417 * (n + 1)) 83 := LB.mul (k := 23) (by show Int.natAbs _ < _; decide) b2
      have b7 : LB (7368787 * (n + 1)) 83 := LB.mul (k := 23) (by show Int.natAbs _ < _; decide) b2
      have b5 : LB (b + 6700417 * (n + 1) * (n + 1) + 7368787 * (n + 1)) 145 := ((b1.mono (by decide)).add (b6.mul b2)).add (b7.mono (by decide))
      have c1 : CMul 6700417 (n + 1) ∨ CMulW 6700417 (n + 1) := cmul_l (by decide)
      have c2 : CMul (6700417 * (n + 1)) (n + 1) ∨ CMulW (6700417 * (n + 1)) (n + 1) := cmul_r (by omega)
      have c3 : CMul 7368787 (n + 1) ∨ CMulW 7368787 (n + 1) := cmul_l (by decide)
      have c4 := cmul_w b5 b5 (by decide)
      generalize hg : b + 6700417 * (n + 1) * (n + 1) + 7368787 * (n + 1) = s at *
      have c5 : CMul 1299709 (n + 1) ∨ CMulW 1299709 (n + 1) := cmul_l (by decide)
      have d1 : CDivW ((s * s + 1299709 * (n + 1)) % 2305843009213693951) 8191 := ⟨by decide, by decide +kernel⟩
      generalize hr : (s * s + 1299709 * (n + 1)) % 2305843009213693951 / 8191 = r at *
      have r0 : 0 ≤ r ∧ r < 2305843009213693951 := by rw [← hr]; omega
      have c6 : CMul r r ∨ CMulW r r := cmul_l (by omega)
      have d2 : CDivW ((r * r + 15485863) % 1152921504606846883) 4096 := ⟨by decide, by decide +kernel⟩
      simp [p_law_draw, startE, N_law_draw, h0, eo, L2.atI, L2.ixN, obL_set hi, c1, c2, c3, c4, hg, c5, d1, hr, c6, d2, hm]
      exact hp _ _ ⟨a, b, n + 1, List.getElem?_set_self hi, hb0, hb1, by omega, by omega⟩ .set (Int.emod_nonneg _ (by omega)) (Int.emod_lt_of_pos _ hm)
  · exact hs.elim

def t_law_site_5 : US := (uRet (uApp bTup (uCons (uVar 2) (uCons (uVar 4) (uCons (uBin bSub (uVar 3) (uVar 4)) (uCons (uBin bEq (uCall 2 sp_law_draw [] (uCons (uVar 0) (uCons (uVal (.int 2)) uNil))) (uVal (.int 1))) (uCons (uCall 2 sp_law_draw [] (uCons (uVar 0) (uCons (uVar 2) uNil))) (uCons (uVar 5) uNil))))))))
def r_law_site_5 : US := t_law_site_5
def t_law_site_4 : US := (uSet 5 (uBin bAdd (uVal (.int 1)) (uCall 2 sp_law_draw [] (uCons (uVar 0) (uCons (uBin bIx (uApp bLst (uCons (uVal (.int 3)) (uCons (uVal (.int 12)) uNil))) (uVar 1)) uNil)))))
def r_law_site_4 : US := uSeq t_law_site_4 r_law_site_5
def t_law_site_3 : US := (uSet 4 (uBin bAdd (uVal (.int 1)) (uCall 2 sp_law_draw [] (uCons (uVar 0) (uCons (uVar 3) uNil)))))
def r_law_site_3 : US := uSeq t_law_site_3 r_law_site_4
def t_law_site_2 : US := (uSet 3 (uBin bAdd (uVar 2) (uCall 2 sp_law_draw [] (uCons (uVar 0) (uCons (uBin bIx (uApp bLst (uCons (uVal (.int 4)) (uCons (uBin bSub (uVal (.int 21)) (uVar 2)) uNil))) (uVar 1)) uNil)))))
def r_law_site_2 : US := uSeq t_law_site_2 r_law_site_3
def t_law_site_1 : US := (uSet 2 (uBin bAdd (uVal (.int 1)) (uCall 2 sp_law_draw [] (uCons (uVar 0) (uCons (uBin bIx (uApp bLst (uCons (uVal (.int 4)) (uCons (uVal (.int 8)) uNil))) (uVar 1)) uNil)))))
def r_law_site_1 : US := uSeq t_law_site_1 r_law_site_2
def t_law_site_0 : US := (uSet 1 (uApp bInt (uCons (uBin bEq (uCall 2 sp_law_draw [] (uCons (uVar 0) (uCons (uVal (.int 4)) uNil))) (uVal (.int 0))) uNil)))
def r_law_site_0 : US := uSeq t_law_site_0 r_law_site_1
theorem cut_law_site : p_law_site = r_law_site_0 := rfl
theorem atI_al (f : U → Bool) (l : List U) (hl : l.all f = true) {d : Int} (h0 : 0 ≤ d) (h1 : d < l.length) : ∃ x, L2.atI l d = some x ∧ f x = true := by
  obtain ⟨j, rfl⟩ : ∃ j : Nat, d = (j : Int) := ⟨d.toNat, by omega⟩
  have hj : j < l.length := by omega
  refine ⟨l[j], ?_, List.all_eq_true.mp hl _ (List.getElem_mem hj)⟩
  simp [L2.atI, L2.ixN, hj]
theorem lg_ok {m : Int} (h0 : 0 ≤ m) (h1 : m ≤ 1000000000) : m.natAbs.log2 < 9000 := Nat.lt_of_le_of_lt (LB.log (k := 31) (by show Int.natAbs _ < 2 ^ 31; omega)) (by decide)
theorem conf_law_site : ∀ us h Po Pe, us.length = 1 → sp_law_site us h Po Pe → p_law_site (startE N_law_site us) h (bodyD Po Pe) := by
  intro us h Po Pe hl hs
  unfold sp_law_site at hs
  split at hs
  · rename_i i
    obtain ⟨k, p, hk, q⟩ := hs
    rw [cut_law_site]
    simp [r_law_site_0, t_law_site_0, startE, N_law_site, sp_law_draw]
    refine ⟨k, p, by omega, by decide, fun h1 d p1 r1 d0 d1 => ?_⟩
    have main : ∀ (w : Int) (m : Int) (st : Int), (w = 0 ∨ w = 1) → True := fun _ _ _ _ => trivial
    have go : ∀ (c : Bool), r_law_site_1 [some (.val (.ref i)), some (.val (.int (if c = true then 1 else 0))), none, none, none, none] h1 (bodyD Po Pe) := by
      intro c
      cases c
      · simp [r_law_site_1, t_law_site_1, sp_law_draw, sizeLine_eq, L2.atI, L2.ixN]
        refine ⟨_, p1, by omega, by decide, fun h2 d2 p2 r2 e0 e1 => ?_⟩
        simp [r_law_site_2, t_law_site_2, sp_law_draw, sizeLine_eq, L2.atI, L2.ixN]
        refine ⟨_, p2, by omega, by decide, fun h3 d3 p3 r3 f0 f1 => ?_⟩
        simp [r_law_site_3, t_law_site_3, sp_law_draw]
        refine ⟨_, p3, by omega, by omega, lg_ok (by omega) (by omega), fun h4 d4 p4 r4 g0 g1 => ?_⟩
        simp [r_law_site_4, t_law_site_4, sp_law_draw, sizeLine_eq, L2.atI, L2.ixN]
        refine ⟨_, p4, by omega, by decide, fun h5 d5 p5 r5 i0 i1 => ?_⟩
        simp [r_law_site_5, t_law_site_5, sp_law_draw, sizeLine_eq]
        refine ⟨_, p5, by omega, by decide, fun h6 d6 p6 r6 j0 j1 => ?_⟩
        refine ⟨_, p6, by omega, by omega, lg_ok (by omega) (by omega), fun h7 d7 p7 r7 k0 k1 => ?_⟩
        exact q h7 _ (p7.mono (by omega)) ((((((r1.trans r2).trans r3).trans r4).trans r5).trans r6).trans r7) ⟨_, _, _, _, _, _, rfl, ⟨by omega, by omega, by omega, by omega, by omega, by omega⟩⟩
      · simp [r_law_site_1, t_law_site_1, sp_law_draw, sizeLine_eq, L2.atI, L2.ixN]
        refine ⟨_, p1, by omega, by decide, fun h2 d2 p2 r2 e0 e1 => ?_⟩
        simp [r_law_site_2, t_law_site_2, sp_law_draw, sizeLine_eq, L2.atI, L2.ixN]
        refine ⟨_, p2, by omega, by omega, lg_ok (by omega) (by omega), fun h3 d3 p3 r3 f0 f1 => ?_⟩
        simp [r_law_site_3, t_law_site_3, sp_law_draw]
        refine ⟨_, p3, by omega, by omega, lg_ok (by omega) (by omega), fun h4 d4 p4 r4 g0 g1 => ?_⟩
        simp [r_law_site_4, t_law_site_4, sp_law_draw, sizeLine_eq, L2.atI, L2.ixN]
        refine ⟨_, p4, by omega, by decide, fun h5 d5 p5 r5 i0 i1 => ?_⟩
        simp [r_law_site_5, t_law_site_5, sp_law_draw, sizeLine_eq]
        refine ⟨_, p5, by omega, by decide, fun h6 d6 p6 r6 j0 j1 => ?_⟩
        refine ⟨_, p6, by omega, by omega, lg_ok (by omega) (by omega), fun h7 d7 p7 r7 k0 k1 => ?_⟩
        exact q h7 _ (p7.mono (by omega)) ((((((r1.trans r2).trans r3).trans r4).trans r5).trans r6).trans r7) ⟨_, _, _, _, _, _, rfl, ⟨by omega, by omega, by omega, by omega, by omega, by omega⟩⟩
    have := go (decide (d = 0))
    by_cases hd : d = 0
    · simpa [hd] using this
    · simpa [hd] using this
  · exact hs.elim

def t_law_text_2 : US := (uRet (uJoin (uVal (.str " ")) (uBin bAdd (uVar 7) (uApp bLst (uCons (uVal (.str "offset")) (uCons (uApp bStr (uCons (uVar 5) uNil)) (uCons (uVal (.str "slots")) (uCons (uApp bStr (uCons (uVar 6) uNil)) uNil))))))))
def r_law_text_2 : US := t_law_text_2
def t_law_text_1 : US := (uSet 7 (uApp bLst (uCons (uVal (.str "line")) (uCons (uApp bStr (uCons (uVar 1) uNil)) (uCons (uVal (.str "size")) (uCons (uApp bStr (uCons (uVar 2) uNil)) (uCons (uVal (.str "gap")) (uCons (uApp bStr (uCons (uVar 3) uNil)) (uCons (uBin bIx (uApp bLst (uCons (uVal (.str "free")) (uCons (uVal (.str "used")) uNil))) (uApp bInt (uCons (uVar 4) uNil))) uNil)))))))))
def r_law_text_1 : US := uSeq t_law_text_1 r_law_text_2
def t_law_text_0 : US := (uAsg (gT [1, 2, 3, 4, 5, 6]) (uVar 0))
def r_law_text_0 : US := uSeq t_law_text_0 r_law_text_1
theorem cut_law_text : p_law_text = r_law_text_0 := rfl
theorem conf_law_text : ∀ us h Po Pe, us.length = 1 → sp_law_text us h Po Pe → p_law_text (startE N_law_text us) h (bodyD Po Pe) := by
  intro us h Po Pe hl hs
  unfold sp_law_text at hs
  split at hs
  · rename_i l s g b o n
    obtain ⟨L, hp⟩ := hs
    obtain ⟨r1, r2, r3, r4, r5⟩ := L.rng
    have q1 := okW_len (okW_int r1)
    have q2 := okW_len (okW_int r2)
    have q3 := okW_len (okW_int r3)
    have q4 := okW_len (okW_int r4)
    have q5 := okW_len (okW_int r5)
    have g1 := log_int r1
    have g2 := log_int r2
    have g3 := log_int r3
    have g4 := log_int r4
    have g5 := log_int r5
    have c1 : (" " : Str).length = 1 := by decide
    have d1 : ("line" : Str).length = 4 := by decide
    have d2 : ("size" : Str).length = 4 := by decide
    have d3 : ("gap" : Str).length = 3 := by decide
    have d4 : ("offset" : Str).length = 6 := by decide
    have d5 : ("slots" : Str).length = 5 := by decide
    have d6 : ("free" : Str).length = 4 := by decide
    have d7 : ("used" : Str).length = 4 := by decide
    rw [cut_law_text]
    simp [r_law_text_0, t_law_text_0, startE, N_law_text]
    cases b
    · simp [r_law_text_1, t_law_text_1, sizeLine_eq, g1, g2, g3, L2.atI, L2.ixN]
      simp [r_law_text_2, t_law_text_2, sizeLine_eq, g4, g5, strsU, allStr]
      exact ⟨by rw [c1, d1, d2, d3, d4, d5, d6]; omega, hp⟩
    · simp [r_law_text_1, t_law_text_1, sizeLine_eq, g1, g2, g3, L2.atI, L2.ixN]
      simp [r_law_text_2, t_law_text_2, sizeLine_eq, g4, g5, strsU, allStr]
      exact ⟨by rw [c1, d1, d2, d3, d4, d5, d7]; omega, hp⟩
  · exact hs.elim

def badW (u : U) : Bool := wellT u && !isLay u
def oddB (u : U) : Bool := typed u && (!isWhole u 0 && (!isWhole u 1 && badW u))
def wB (u : U) : Bool := typed u && !isBl u
def atB (u : U) : Bool := match u with
  | .int i => decide (i = 0 ∨ i = 1 ∨ i = 2 ∨ i = 4 ∨ i = 5)
  | _ => false
theorem bIx_all {f : U → Bool} {L : List U} {d : Int} {h : Hv} {P : Sv → Hv → Prop} (hl : L.all f = true) (h0 : 0 ≤ d) (h1 : d < L.length) (q : ∀ x, f x = true → P (.val x) h) : bIx (.lst L) (.int d) h P := by
  obtain ⟨x, ex, hx⟩ := atI_al f L hl h0 h1
  simp [ex]
  exact q x hx
theorem bad6 {a b c d e f : U} (ta : typed a = true) (tb : typed b = true) (tc : typed c = true) (td : typed d = true) (te : typed e = true) (tf : typed f = true)
    (h : isWhole a 1 = false ∨ isWhole b 1 = false ∨ isWhole c 0 = false ∨ isBl d = false ∨ geU b c a = false ∨ isWhole e 0 = false ∨ ltU e a = false ∨ isWhole f 1 = false) : badW (.tup [a, b, c, d, e, f]) = true := by
  have h1 : isLay (.tup [a, b, c, d, e, f]) = false := by rcases h with h | h | h | h | h | h | h | h <;> simp [isLay, hasM, h]
  have h2 : wellT (.tup [a, b, c, d, e, f]) = true := by
    simp only [wellT, List.all_cons, ta, tb, tc, td, te, tf]
    rfl
  simp [badW, h1, h2]
theorem conf_law_bad_site : ∀ us h Po Pe, us.length = 2 → sp_law_bad_site us h Po Pe → p_law_bad_site (startE N_law_bad_site us) h (bodyD Po Pe) := by
  intro us h Po Pe hl hs
  unfold sp_law_bad_site at hs
  split at hs
  · rename_i i u
    obtain ⟨k, p, hk, ⟨l, s, g, b, o, n, rfl, L⟩, q⟩ := hs
    have hc30 : CPow 10 30 := ⟨by decide, by decide, by decide⟩
    have L1 := L.l1; have L2' := L.s1; have L3 := L.g0; have L4 := L.o0; have L5 := L.n1; have L6 := L.sg
    repeat ((conv => whnf); refine And.intro (by (first | assumption | exact Nat.le_of_ble_eq_true rfl | omega | (simp [sizeLine_eq]; done) | (simp [sizeLine_eq]; omega))) ?_)
    refine ⟨k, p, by omega, by decide, by decide, fun h1 d p1 r1 d0 d1 => ?_⟩
    refine bIx_all (f := oddB) (L := [.non, .bl true, .bl false, .str "1", .tup [.int 1], .lst [.int 1], .str "", .int (-1), .int (-(10 ^ 30)), .tup []]) (by decide +kernel) d0 (by simpa using d1) fun odd ho => ?_
    repeat ((conv => whnf); refine And.intro (by (first | assumption | exact Nat.le_of_ble_eq_true rfl | omega | (simp [sizeLine_eq]; done) | (simp [sizeLine_eq]; omega))) ?_)
    refine ⟨_, p1, by omega, by decide, by decide, fun h2 d2 p2 r2 e0 e1 => ?_⟩
    refine bIx_all (f := atB) (L := [.int 0, .int 1, .int 2, .int 4, .int 5]) (by decide +kernel) e0 (by simpa using e1) fun at_ hat => ?_
    obtain ⟨a, rfl, ha⟩ : ∃ a, at_ = .int a ∧ (a = 0 ∨ a = 1 ∨ a = 2 ∨ a = 4 ∨ a = 5) := by
      cases at_ with
      | int a => exact ⟨a, rfl, by simpa [atB] using hat⟩
      | _ => cases hat
    repeat ((conv => whnf); refine And.intro (by (first | assumption | exact Nat.le_of_ble_eq_true rfl | omega | (simp [sizeLine_eq]; done) | (simp [sizeLine_eq]; omega))) ?_)
    refine ⟨_, p2, by omega, by decide, by decide, fun h3 ch p3 r3 ch0 ch1 => ?_⟩
    repeat ((conv => whnf); refine And.intro (by (first | assumption | exact Nat.le_of_ble_eq_true rfl | omega | (simp [sizeLine_eq]; done) | (simp [sizeLine_eq]; omega))) ?_)
    refine ⟨_, p3, by omega, by decide, by decide, fun h4 d4 p4 r4 f0 f1 => ?_⟩
    refine bIx_all (f := wB) (L := [.int 0, .int 1, .non, .str "used", .lst [.bl true]]) (by decide +kernel) f0 (by simpa using f1) fun word hwd => ?_
    have kc1 : (cutU [U.int l, .int s, .int g, .bl b, .int o, .int n] none (some a)).length ≤ 6 := by rcases ha with rfl | rfl | rfl | rfl | rfl <;> simp [cutU, HT.sIx]
    have kc2 : (cutU [U.int l, .int s, .int g, .bl b, .int o, .int n] (some (a + 1)) none).length ≤ 6 := by rcases ha with rfl | rfl | rfl | rfl | rfl <;> simp [cutU, HT.sIx]
    repeat ((conv => whnf); refine And.intro (by (first | assumption | exact Nat.le_of_ble_eq_true rfl | omega | (simp [sizeLine_eq]; done) | (simp [sizeLine_eq]; omega))) ?_)
    have ho' := ho
    simp only [oddB, Bool.and_eq_true, Bool.not_eq_true'] at ho'
    obtain ⟨o1, o2, o3, o4⟩ := ho'
    simp only [wB, Bool.and_eq_true, Bool.not_eq_true'] at hwd
    have ti : ∀ i : Int, typed (.int i) = true := fun _ => rfl
    have tb : typed (.bl b) = true := rfl
    have a1 : badW (.tup (cutU [U.int l, .int s, .int g, .bl b, .int o, .int n] none (some a) ++ [odd] ++ cutU [U.int l, .int s, .int g, .bl b, .int o, .int n] (some (a + 1)) none)) = true := by
      rcases ha with rfl | rfl | rfl | rfl | rfl
      · exact bad6 (a := odd) o1 (ti s) (ti g) tb (ti o) (ti n) (.inl o3)
      · exact bad6 (b := odd) (ti l) o1 (ti g) tb (ti o) (ti n) (.inr (.inl o3))
      · exact bad6 (c := odd) (ti l) (ti s) o1 tb (ti o) (ti n) (.inr (.inr (.inl o2)))
      · exact bad6 (e := odd) (ti l) (ti s) (ti g) tb o1 (ti n) (.inr (.inr (.inr (.inr (.inr (.inl o2))))))
      · exact bad6 (f := odd) (ti l) (ti s) (ti g) tb (ti o) o1 (.inr (.inr (.inr (.inr (.inr (.inr (.inr o3)))))))
    have a3 : badW (.tup [.int 0, .int s, .int g, .bl b, .int 0, .int n]) = true := bad6 (ti _) (ti _) (ti _) tb (ti _) (ti _) (.inl (by decide))
    have a4 : badW (.tup [.int l, .int 0, .int 20, .bl b, .int o, .int n]) = true := bad6 (ti _) (ti _) (ti _) tb (ti _) (ti _) (.inr (.inl (by decide)))
    have a5 : badW (.tup [.int (s + g + 1), .int s, .int g, .bl b, .int o, .int n]) = true := bad6 (ti _) (ti _) (ti _) tb (ti _) (ti _) (.inr (.inr (.inr (.inr (.inl (by simp [geU]; omega))))))
    have a6 : badW (.lst [.int l, .int s, .int g, .bl b, .int o, .int n]) = true := rfl
    have a7 : badW (.tup [.int l, .int s, .int g, word, .int o, .int n]) = true := bad6 (ti _) (ti _) (ti _) hwd.1 (ti _) (ti _) (.inr (.inr (.inr (.inl hwd.2))))
    have a8 : badW (.tup [.int l, .int s, .int g, .bl b, .int l, .int n]) = true := bad6 (ti _) (ti _) (ti _) tb (ti _) (ti _) (.inr (.inr (.inr (.inr (.inr (.inr (.inl (by simp [ltU]))))))))
    have a9 : badW (.tup [.int l, .int s, .int g, .bl b, .int o, .int 0]) = true := bad6 (ti _) (ti _) (ti _) tb (ti _) (ti _) (.inr (.inr (.inr (.inr (.inr (.inr (.inr (by decide))))))))
    have b1 : badW (.tup [.int l, .int s, .int g, .bl b, .int o]) = true := rfl
    have b2 : badW (.tup [.int l, .int s, .int g, .bl b, .int o, .int n, .int 1]) = true := rfl
    have b4 : badW (.str (textL l s g b o n)) = true := rfl
    refine bIx_all (f := badW) (L := _) (d := ch) ?_ ch0 (by simpa using ch1) fun z hz => ?_
    · show ((([_, _, _] ++ [_, _, _]) ++ [_, _]) ++ [_, _, _, _, _] : List U).all badW = true
      simp only [List.all_append, List.all_cons, List.all_nil, Bool.and_true, Bool.and_eq_true]
      exact ⟨⟨⟨⟨a1, a1, a3⟩, a4, a5, a6⟩, a7, a8⟩, a9, b1, b2, o4, b4⟩
    · simp only [badW, Bool.and_eq_true, Bool.not_eq_true'] at hz
      exact q h4 z (p4.mono (by omega)) (((r1.trans r2).trans r3).trans r4) hz.1 hz.2
  · exact hs.elim

def t_law_great_7 : US := (uRet (uApp bTup (uCons (uVar 1) (uCons (uVar 2) (uCons (uVar 4) (uCons (uBin bEq (uCall 2 sp_law_draw [] (uCons (uVar 0) (uCons (uVal (.int 2)) uNil))) (uVal (.int 1))) (uCons (uVar 5) (uCons (uVar 6) uNil))))))))
def r_law_great_7 : US := t_law_great_7
def t_law_great_6 : US := (uSet 6 (uBin bIx (uApp bLst (uCons (uVal (.int 1)) (uCons (uVal (.int 999999999)) (uCons (uBin bAdd (uVal (.int 1)) (uCall 2 sp_law_draw [] (uCons (uVar 0) (uCons (uVal (.int 999999999)) uNil)))) uNil)))) (uCall 2 sp_law_draw [] (uCons (uVar 0) (uCons (uVal (.int 3)) uNil)))))
def r_law_great_6 : US := uSeq t_law_great_6 r_law_great_7
def t_law_great_5 : US := (uSet 5 (uBin bIx (uApp bLst (uCons (uVal (.int 0)) (uCons (uBin bSub (uVar 1) (uVal (.int 1))) (uCons (uCall 2 sp_law_draw [] (uCons (uVar 0) (uCons (uVar 1) uNil))) uNil)))) (uCall 2 sp_law_draw [] (uCons (uVar 0) (uCons (uVal (.int 3)) uNil)))))
def r_law_great_5 : US := uSeq t_law_great_5 r_law_great_6
def t_law_great_4 : US := (uSet 4 (uBin bAdd (uVar 3) (uCall 2 sp_law_draw [] (uCons (uVar 0) (uCons (uBin bIx (uApp bLst (uCons (uVal (.int 1)) (uCons (uBin bSub (uVal (.int 1000000000)) (uVar 3)) uNil))) (uCall 2 sp_law_draw [] (uCons (uVar 0) (uCons (uVal (.int 2)) uNil)))) uNil)))))
def r_law_great_4 : US := uSeq t_law_great_4 r_law_great_5
def t_law_great_3 : US := (uIf (uB (uBin bLt (uVar 2) (uVar 1))) (uSet 3 (uBin bSub (uVar 1) (uVar 2))) uNext)
def r_law_great_3 : US := uSeq t_law_great_3 r_law_great_4
def t_law_great_2 : US := (uSet 3 (uVal (.int 0)))
def r_law_great_2 : US := uSeq t_law_great_2 r_law_great_3
def t_law_great_1 : US := (uSet 2 (uBin bAdd (uVal (.int 1)) (uCall 2 sp_law_draw [] (uCons (uVar 0) (uCons (uBin bIx (uApp bLst (uCons (uVar 1) (uCons (uVal (.int 999999999)) (uCons (uVal (.int 1)) uNil)))) (uCall 2 sp_law_draw [] (uCons (uVar 0) (uCons (uVal (.int 3)) uNil)))) uNil)))))
def r_law_great_1 : US := uSeq t_law_great_1 r_law_great_2
def t_law_great_0 : US := (uSet 1 (uBin bAdd (uVal (.int 1)) (uCall 2 sp_law_draw [] (uCons (uVar 0) (uCons (uBin bIx (uApp bLst (uCons (uVal (.int 9)) (uCons (uVal (.int 999999999)) (uCons (uVal (.int 12345)) uNil)))) (uCall 2 sp_law_draw [] (uCons (uVar 0) (uCons (uVal (.int 3)) uNil)))) uNil)))))
def r_law_great_0 : US := uSeq t_law_great_0 r_law_great_1
theorem cut_law_great : p_law_great = r_law_great_0 := rfl
def inR (a b : Int) (u : U) : Bool := match u with
  | .int i => decide (a ≤ i ∧ i ≤ b)
  | _ => false
theorem inR_int {a b : Int} {u : U} (h : inR a b u = true) : ∃ i, u = .int i ∧ a ≤ i ∧ i ≤ b := by
  cases u with
  | int i => exact ⟨i, rfl, by simpa [inR] using h⟩
  | _ => cases h
theorem conf_law_great : ∀ us h Po Pe, us.length = 1 → sp_law_great us h Po Pe → p_law_great (startE N_law_great us) h (bodyD Po Pe) := by
  intro us h Po Pe hl hs
  unfold sp_law_great at hs
  split at hs
  · rename_i i
    obtain ⟨k, p, hk, q⟩ := hs
    rw [cut_law_great]
    simp [r_law_great_0, t_law_great_0, startE, N_law_great, sp_law_draw, sizeLine_eq]
    refine ⟨k, p, by omega, by decide, fun h1 d p1 r1 d0 d1 => ?_⟩
    obtain ⟨x, ex, hx⟩ := atI_al (inR 1 999999999) [.int 9, .int 999999999, .int 12345] (by decide +kernel) d0 (by simpa using d1)
    obtain ⟨x1, rfl, hx0, hx1⟩ := inR_int hx
    rw [ex]
    simp
    refine ⟨_, p1, by omega, by omega, lg_ok (by omega) (by omega), fun h2 d2 p2 r2 e0 e1 => ?_⟩
    have hl1 : 1 ≤ 1 + d2 ∧ 1 + d2 < 1000000000 := by omega
    generalize 1 + d2 = l at hl1
    simp [r_law_great_1, t_law_great_1, sp_law_draw, sizeLine_eq]
    refine ⟨_, p2, by omega, by decide, fun h3 d3 p3 r3 f0 f1 => ?_⟩
    obtain ⟨x, ex, hx⟩ := atI_al (inR 1 999999999) [.int l, .int 999999999, .int 1] (by simp [inR]; omega) f0 (by simpa using f1)
    obtain ⟨x2, rfl, hx0, hx1⟩ := inR_int hx
    rw [ex]
    simp
    refine ⟨_, p3, by omega, by omega, lg_ok (by omega) (by omega), fun h4 d4 p4 r4 g0 g1 => ?_⟩
    have hs1 : 1 ≤ 1 + d4 ∧ 1 + d4 < 1000000000 := by omega
    generalize 1 + d4 = s at hs1
    simp [r_law_great_2, t_law_great_2]
    have go : ∀ ls : Int, 0 ≤ ls → ls < 1000000000 → l ≤ s + ls → r_law_great_4 [some (.val (.ref i)), some (.val (.int l)), some (.val (.int s)), some (.val (.int ls)), none, none, none] h4 (bodyD Po Pe) := by
      intro ls hls0 hls1 hls2
      simp [r_law_great_4, t_law_great_4, sp_law_draw, sizeLine_eq]
      refine ⟨_, p4, by omega, by decide, fun h5 d5 p5 r5 i0 i1 => ?_⟩
      obtain ⟨x, ex, hx⟩ := atI_al (inR 1 (1000000000 - ls)) [.int 1, .int (1000000000 - ls)] (by simp [inR]; omega) i0 (by simpa using i1)
      obtain ⟨x3, rfl, hx0, hx1⟩ := inR_int hx
      rw [ex]
      simp
      refine ⟨_, p5, by omega, by omega, lg_ok (by omega) (by omega), fun h6 d6 p6 r6 j0 j1 => ?_⟩
      have hg1 : 0 ≤ ls + d6 ∧ ls + d6 < 1000000000 ∧ l ≤ s + (ls + d6) := by omega
      generalize ls + d6 = g at hg1
      simp [r_law_great_5, t_law_great_5, sp_law_draw, sizeLine_eq]
      refine ⟨_, p6, by omega, by omega, lg_ok (by omega) (by omega), fun h7 d7 p7 r7 k0 k1 => ?_⟩
      refine ⟨_, p7, by omega, by decide, fun h8 d8 p8 r8 m0 m1 => ?_⟩
      obtain ⟨x, ex, hx⟩ := atI_al (inR 0 (l - 1)) [.int 0, .int (l - 1), .int d7] (by simp [inR]; omega) m0 (by simpa using m1)
      obtain ⟨o, rfl, ho0, ho1⟩ := inR_int hx
      rw [ex]
      simp
      simp [r_law_great_6, t_law_great_6, sp_law_draw, sizeLine_eq]
      refine ⟨_, p8, by omega, by decide, fun h9 d9 p9 r9 n0 n1 => ?_⟩
      refine ⟨_, p9, by omega, by decide, fun ha da pa ra o0 o1 => ?_⟩
      obtain ⟨x, ex, hx⟩ := atI_al (inR 1 999999999) [.int 1, .int 999999999, .int (1 + d9)] (by simp [inR]; omega) o0 (by simpa using o1)
      obtain ⟨n, rfl, hn0, hn1⟩ := inR_int hx
      rw [ex]
      simp
      simp [r_law_great_7, t_law_great_7, sp_law_draw, sizeLine_eq]
      refine ⟨_, pa, by omega, by decide, fun hb db pb rb q0 q1 => ?_⟩
      exact q hb _ (pb.mono (by omega)) (((((((((r1.trans r2).trans r3).trans r4).trans r5).trans r6).trans r7).trans r8).trans r9).trans (ra.trans rb)) ⟨_, _, _, _, _, _, rfl, ⟨by omega, by omega, by omega, by omega, by omega, by omega⟩⟩
    by_cases hlt : s < l
    · simp [r_law_great_3, t_law_great_3, hlt]
      exact go _ (by omega) (by omega) (by omega)
    · simp [r_law_great_3, t_law_great_3, hlt]
      exact go _ (by omega) (by omega) (by omega)
  · exact hs.elim

theorem conf_law_refuses : ∀ us h Po Pe, us.length = 1 → sp_law_refuses us h Po Pe → p_law_refuses (startE N_law_refuses us) h (bodyD Po Pe) := by
  intro us h Po Pe hl hs
  unfold sp_law_refuses at hs
  split at hs
  · obtain ⟨h1, h2, hp⟩ := hs
    simp [p_law_refuses, startE, N_law_refuses, sp_write_layout, h1, h2]
    exact hp
  · exact hs.elim

def t_law_b1_3a_0 : US := (uRet (uVal (.bl false)))
def r_law_b1_3a_0 : US := t_law_b1_3a_0
def t_law_b1_4a_0 : US := (uRet (uVal (.bl false)))
def r_law_b1_4a_0 : US := t_law_b1_4a_0
def t_law_b1_7a_0 : US := (uRet (uVal (.bl false)))
def r_law_b1_7a_0 : US := t_law_b1_7a_0
def t_law_b1_8a_0 : US := (uRet (uVal (.bl false)))
def r_law_b1_8a_0 : US := t_law_b1_8a_0
def t_law_b1_8 : US := (uIf (uNot (uB (uCall 1 sp_law_refuses [] (uCons (uCall 2 sp_law_bad_site [] (uCons (uVar 2) (uCons (uVar 3) uNil))) uNil)))) r_law_b1_8a_0 uNext)
def r_law_b1_8 : US := t_law_b1_8
def t_law_b1_7 : US := (uIf (uB (uBin bNe (uApp bRepr (uCons (uApp bLst (uCons (uVar 7) (uCons (uCall 1 sp_write_layout [] (uCons (uVar 7) uNil)) uNil))) uNil)) (uApp bRepr (uCons (uApp bLst (uCons (uVar 6) (uCons (uCall 1 sp_law_text [] (uCons (uVar 6) uNil)) uNil))) uNil)))) r_law_b1_7a_0 uNext)
def r_law_b1_7 : US := uSeq t_law_b1_7 r_law_b1_8
def t_law_b1_6 : US := (uSet 7 (uCall 1 sp_read_layout [] (uCons (uCall 1 sp_law_text [] (uCons (uVar 6) uNil)) uNil)))
def r_law_b1_6 : US := uSeq t_law_b1_6 r_law_b1_7
def t_law_b1_5 : US := (uSet 6 (uCall 1 sp_law_great [] (uCons (uVar 2) uNil)))
def r_law_b1_5 : US := uSeq t_law_b1_5 r_law_b1_6
def t_law_b1_4 : US := (uIf (uB (uBin bNe (uApp bRepr (uCons (uApp bLst (uCons (uCall 1 sp_read_layout [] (uCons (uBin bIx (uVar 5) (uVal (.int 0))) uNil)) (uCons (uCallK 1 sp_read_layout 0 1 (fun us ws => [ws.getD 0 .non]) uNil (uCons (uBin bIx (uVar 5) (uVal (.int 1))) uNil)) uNil))) uNil)) (uApp bRepr (uCons (uApp bLst (uCons (uVar 3) (uCons (uVar 4) uNil))) uNil)))) r_law_b1_4a_0 uNext)
def r_law_b1_4 : US := uSeq t_law_b1_4 r_law_b1_5
def t_law_b1_3 : US := (uIf (uB (uBin bNe (uApp bRepr (uCons (uApp bLst (uCons (uCall 1 sp_write_layout [] (uCons (uVar 3) uNil)) (uCons (uCallK 1 sp_write_layout 0 1 (fun us ws => [ws.getD 0 .non]) uNil (uCons (uVar 4) uNil)) uNil))) uNil)) (uApp bRepr (uCons (uVar 5) uNil)))) r_law_b1_3a_0 uNext)
def r_law_b1_3 : US := uSeq t_law_b1_3 r_law_b1_4
def t_law_b1_2 : US := (uSet 5 (uApp bLst (uCons (uCall 1 sp_law_text [] (uCons (uVar 3) uNil)) (uCons (uCall 1 sp_law_text [] (uCons (uVar 4) uNil)) uNil))))
def r_law_b1_2 : US := uSeq t_law_b1_2 r_law_b1_3
def t_law_b1_1 : US := (uPar2 3 4 (uCons (uCall 1 sp_law_site [] (uCons (uVar 2) uNil)) (uCons (uCall 1 sp_law_site [] (uCons (uVar 2) uNil)) uNil)))
def r_law_b1_1 : US := uSeq t_law_b1_1 r_law_b1_2
def t_law_b1_0 : US := (uSetR 2 (uCall 1 sp_law_bag [] (uCons (uVar 1) uNil)))
def r_law_b1_0 : US := uSeq t_law_b1_0 r_law_b1_1
theorem cut_law_b1 : b1_law = r_law_b1_0 := rfl
theorem sh_ok {x : Str} (h : okW x = true) : ShB (.str x) 100 0 := by
  refine sh_str ?_
  obtain ⟨_, h2, h3⟩ := okW_tl h
  have h4 := TL.len_tl x
  have := PySem.StrLaws.reprText_len x fun c hc => Nat.lt_of_lt_of_le (h2 c hc) (by decide)
  omega
theorem sh_text {l : List Str} (h : ∀ x ∈ l, okW x = true) (hl : l.length ≤ 100) : ShB (.str (Txt.join " " l)) 20000 0 := by
  refine sh_str ?_
  obtain ⟨h1, h2⟩ := text_ok h
  have := PySem.StrLaws.reprText_len (Txt.join " " l) fun c hc => Nat.lt_of_lt_of_le (h2 c hc) (by decide)
  omega
theorem okw_lay {l s g : Int} {b : Bool} {o n : Int} (L : Lay l s g o n) : ∀ x ∈ wordsLay l s g b o n, okW x = true := by
  obtain ⟨r1, r2, r3, r4, r5⟩ := L.rng
  intro x hx
  simp only [wordsLay, List.mem_cons, List.not_mem_nil, or_false] at hx
  rcases hx with rfl | rfl | rfl | rfl | rfl | rfl | rfl | rfl | rfl | rfl | rfl
  · decide +kernel
  · exact okW_int r1
  · decide +kernel
  · exact okW_int r2
  · decide +kernel
  · exact okW_int r3
  · cases b <;> decide +kernel
  · decide +kernel
  · exact okW_int r4
  · decide +kernel
  · exact okW_int r5
theorem sh_textL {l s g : Int} {b : Bool} {o n : Int} (L : Lay l s g o n) : ShB (.str (textL l s g b o n)) 20000 1 := (sh_text (okw_lay L) (by show 11 ≤ 100; decide)).mono (by decide) (by decide)
theorem sh_num {i : Int} (h : 0 ≤ i ∧ i < 1000000000) : ShB (.int i) 100 0 := by
  have hb : LB i 30 := by show Int.natAbs _ < 2 ^ 30; omega
  exact (sh_int (k := 30) (by decide) hb.log).mono (by decide) (by decide)
theorem sh_lay {l s g : Int} {b : Bool} {o n : Int} (L : Lay l s g o n) : ShB (layU l s g b o n) 20000 1 := by
  obtain ⟨r1, r2, r3, r4, r5⟩ := L.rng
  have : ShBs [.int l, .int s, .int g, .bl b, .int o, .int n] 100 0 := shs_of fun u hu => by
    simp only [List.mem_cons, List.not_mem_nil, or_false] at hu
    rcases hu with rfl | rfl | rfl | rfl | rfl | rfl
    · exact sh_num r1
    · exact sh_num r2
    · exact sh_num r3
    · exact sh_bl.mono (by decide) (by decide)
    · exact sh_num r4
    · exact sh_num r5
  exact this.tup.mono (by simp) (by decide)
theorem repr_two {a b : U} (ha : ShB a 20000 1) (hb : ShB b 20000 1) : ∃ z, reprU (.lst [a, b]) = some z := by
  have : ShBs [a, b] 20000 1 := shs_of fun u hu => by
    simp only [List.mem_cons, List.not_mem_nil, or_false] at hu
    rcases hu with rfl | rfl
    · exact ha
    · exact hb
  exact this.lst.some (by simp [sizeLine_eq]) (by decide)
theorem pot_ext {h h' : Hv} {i k : Nat} (p : PotAt h i k) (e : ExtH h h') : PotAt h' i k := by
  obtain ⟨x, rfl⟩ := e
  obtain ⟨a, b, n, g, r⟩ := p
  refine ⟨a, b, n, ?_, r⟩
  have := (List.getElem?_eq_some_iff.mp g).1
  rw [List.getElem?_append_left this]
  exact g
theorem conf_law : ∀ us h Po Pe, us.length = 1 → sp_law us h Po Pe → p_law (startE N_law us) h (bodyD Po Pe) := by
  intro us h Po Pe hl hs
  unfold sp_law at hs
  split at hs
  · rename_i ns
    simp [p_law, startE, N_law, sizeLine_eq]
    have hc : (cutU (ns.map U.int) none (some 30)).length ≤ 30 := by simp [cutU]; simp [HT.sIx]; omega
    refine ⟨by omega, forU_inv (fun e _ => ∃ e1 e2 e3 e4 e5 e6 e7, e = [some (.val (.scr ns)), e1, e2, e3, e4, e5, e6, e7]) (fun e h I => ?_) _ (fun u hu e h F I hF => ?_) _ _ ⟨_, _, _, _, _, _, _, rfl⟩⟩
    · obtain ⟨e1, e2, e3, e4, e5, e6, e7, rfl⟩ := I
      simp
      exact hs _
    · obtain ⟨e1, e2, e3, e4, e5, e6, e7, rfl⟩ := I
      obtain ⟨c, rfl⟩ : ∃ c, u = .int c := by
        rcases List.mem_cons.mp hu with rfl | hu
        · exact ⟨_, rfl⟩
        · have := List.mem_of_mem_drop (List.mem_of_mem_take hu)
          obtain ⟨c, _, rfl⟩ := List.mem_map.mp this
          exact ⟨c, rfl⟩
      have hF2 : ∀ e1 e2 e3 e4 e5 e6 e7 h, F [some (.val (.scr ns)), e1, e2, e3, e4, e5, e6, e7] h := fun _ _ _ _ _ _ _ h => hF _ h ⟨_, _, _, _, _, _, _, rfl⟩
      rw [cut_law_b1]
      simp [r_law_b1_0, t_law_b1_0, sp_law_bag]
      intro a0 b0 hb0 hb1
      have p0 : PotAt (h ++ [Ob.lst [.int a0, .int b0, .int 0]]) h.length 0 := ⟨a0, b0, 0, by simp, hb0, by omega, by omega, by omega⟩
      generalize h ++ [Ob.lst [.int a0, .int b0, .int 0]] = h0 at p0 ⊢
      generalize h.length = i at p0 ⊢
      simp [r_law_b1_1, t_law_b1_1, sp_law_site]
      refine ⟨_, p0, by omega, fun h1 u1 p1 r1 hu1 => ⟨_, p1, by omega, fun h2 u2 p2 r2 hu2 => ?_⟩⟩
      have hu1' := hu1
      obtain ⟨l1, s1, g1, y1, o1, n1, rfl, L1⟩ := hu1
      obtain ⟨l2, s2, g2, y2, o2, n2, rfl, L2'⟩ := hu2
      obtain ⟨z1, ez1⟩ := repr_two (sh_textL (b := y1) L1) (sh_textL (b := y2) L2')
      obtain ⟨z2, ez2⟩ := repr_two (sh_lay (b := y1) L1) (sh_lay (b := y2) L2')
      have w1 := lay_well l1 s1 g1 y1 o1 n1
      have w2 := lay_well l2 s2 g2 y2 o2 n2
      have i1 := L1.isLay y1
      have i2 := L2'.isLay y2
      have t1 : ∀ (Po : Sv → Hv → Prop) Pe h, Po (.val (.str (textL l1 s1 g1 y1 o1 n1))) h → sp_law_text [layU l1 s1 g1 y1 o1 n1] h Po Pe := fun _ _ _ z => ⟨L1, z⟩
      have t2 : ∀ (Po : Sv → Hv → Prop) Pe h, Po (.val (.str (textL l2 s2 g2 y2 o2 n2))) h → sp_law_text [layU l2 s2 g2 y2 o2 n2] h Po Pe := fun _ _ _ z => ⟨L2', z⟩
      simp [r_law_b1_2, t_law_b1_2, sizeLine_eq]
      refine t1 _ _ _ (t2 _ _ _ ?_)
      have wr1 : ∀ (Po : Sv → Hv → Prop) Pe h, Po (.val (.str (textL l1 s1 g1 y1 o1 n1))) h → sp_write_layout [layU l1 s1 g1 y1 o1 n1] h Po Pe := fun _ _ _ z => ⟨w1, (fun q => by rw [i1] at q; cases q), fun _ => ⟨_, _, _, _, _, _, rfl, L1, z⟩⟩
      have wr2 : ∀ (Po : Sv → Hv → Prop) Pe h, Po (.val (.str (textL l2 s2 g2 y2 o2 n2))) h → sp_write_layout [layU l2 s2 g2 y2 o2 n2] h Po Pe := fun _ _ _ z => ⟨w2, (fun q => by rw [i2] at q; cases q), fun _ => ⟨_, _, _, _, _, _, rfl, L2', z⟩⟩
      have rd1 : ∀ (Po : Sv → Hv → Prop) Pe h, (∀ h', ExtH h h' → Po (.val (layU l1 s1 g1 y1 o1 n1)) h') → sp_read_layout [.str (textL l1 s1 g1 y1 o1 n1)] h Po Pe := fun _ _ _ z => ⟨_, _, _, _, _, _, rfl, L1, z⟩
      have rd2 : ∀ (Po : Sv → Hv → Prop) Pe h, (∀ h', ExtH h h' → Po (.val (layU l2 s2 g2 y2 o2 n2)) h') → sp_read_layout [.str (textL l2 s2 g2 y2 o2 n2)] h Po Pe := fun _ _ _ z => ⟨_, _, _, _, _, _, rfl, L2', z⟩
      simp [r_law_b1_3, t_law_b1_3, sizeLine_eq]
      refine wr1 _ _ _ (wr2 _ _ _ ?_)
      simp [ez1]
      have x0 : L2.atI [U.str (textL l1 s1 g1 y1 o1 n1), .str (textL l2 s2 g2 y2 o2 n2)] 0 = some (.str (textL l1 s1 g1 y1 o1 n1)) := by simp [L2.atI, L2.ixN]
      have x1 : L2.atI [U.str (textL l1 s1 g1 y1 o1 n1), .str (textL l2 s2 g2 y2 o2 n2)] 1 = some (.str (textL l2 s2 g2 y2 o2 n2)) := by simp [L2.atI, L2.ixN]
      simp [r_law_b1_4, t_law_b1_4, sizeLine_eq, x0, x1]
      refine rd1 _ _ _ fun h3 e3 => rd2 _ _ _ fun h4 e4 => ?_
      simp [ez2]
      have p4 := pot_ext (pot_ext p2 e3) e4
      simp [r_law_b1_5, t_law_b1_5, sp_law_great]
      refine ⟨_, p4, by omega, fun h5 u3 p5 r5 hu3 => ?_⟩
      obtain ⟨l3, s3, g3, y3, o3, n3, rfl, L3⟩ := hu3
      have w3 := lay_well l3 s3 g3 y3 o3 n3
      have i3 := L3.isLay y3
      obtain ⟨z3, ez3⟩ := repr_two (sh_lay (b := y3) L3) (sh_textL (b := y3) L3)
      have t3 : ∀ (Po : Sv → Hv → Prop) Pe h, Po (.val (.str (textL l3 s3 g3 y3 o3 n3))) h → sp_law_text [layU l3 s3 g3 y3 o3 n3] h Po Pe := fun _ _ _ z => ⟨L3, z⟩
      have wr3 : ∀ (Po : Sv → Hv → Prop) Pe h, Po (.val (.str (textL l3 s3 g3 y3 o3 n3))) h → sp_write_layout [layU l3 s3 g3 y3 o3 n3] h Po Pe := fun _ _ _ z => ⟨w3, (fun q => by rw [i3] at q; cases q), fun _ => ⟨_, _, _, _, _, _, rfl, L3, z⟩⟩
      have rd3 : ∀ (Po : Sv → Hv → Prop) Pe h, (∀ h', ExtH h h' → Po (.val (layU l3 s3 g3 y3 o3 n3)) h') → sp_read_layout [.str (textL l3 s3 g3 y3 o3 n3)] h Po Pe := fun _ _ _ z => ⟨_, _, _, _, _, _, rfl, L3, z⟩
      simp [r_law_b1_6, t_law_b1_6]
      refine t3 _ _ _ (rd3 _ _ _ fun h6 e6 => ?_)
      have p6 := pot_ext p5 e6
      simp [r_law_b1_7, t_law_b1_7, sizeLine_eq]
      refine wr3 _ _ _ ?_
      simp [ez3]
      refine t3 _ _ _ ?_
      simp [ez3]
      simp [r_law_b1_8, t_law_b1_8, sp_law_bad_site]
      refine ⟨_, p6, by omega, hu1', fun h7 x p7 r7 x1 x2 => ?_⟩
      simp [sp_law_refuses, x1, x2]
      exact hF2 _ _ _ _ _ _ _ _
  · exact hs.elim

end Vi.Law

namespace Vi.Law
open PySem PySem.Spec PyProof.Rows L2 Vi

theorem ok_is_whole {P : Program} {w : World} {K : PySem.W.Frag} {mg : Str → Option Value} {base : Heap} (T : Tx fas css fns K mg) : ∃ fd, FunD K "is_whole" "is_whole" (defArgs s_is_whole) (defBody s_is_whole) (defScope s_is_whole) [.int 0] [] (He.ga K "is_whole") fd ∧ FnG P w K mg base 1 (He.ga K "is_whole") fd ["value", "least"] (spF K (He.ga K) 2 sp_is_whole) := by
  obtain ⟨fd, FD⟩ := T.def_ 0 (d := d_is_whole) rfl
  have FD : FunD K "is_whole" "is_whole" (defArgs s_is_whole) (defBody s_is_whole) (defScope s_is_whole) [.int 0] [] (He.ga K "is_whole") fd := FD
  refine ⟨fd, FD, fn_ok (ga := He.ga K) (t := p_is_whole) FD sc_is_whole (fun cdv A outer s H E hr hgd => ?_) conf_is_whole⟩
  have hu := hr.units
  exact (wss_one (ws_ret (we_and (we_callB call_isiU rfl (T.free 17) (by decide +kernel) (wa_cons (we_var (pv 0)) (wa_cons (we_ty rfl (T.free 16) (by decide +kernel)) wa_nil))) (we_and (we_not (we_callB call_isiU rfl (T.free 17) (by decide +kernel) (wa_cons (we_var (pv 0)) (wa_cons (we_ty rfl (T.free 18) (by decide +kernel)) wa_nil)))) (we_one (we_cmp op_geU (we_var (pv 0)) (we_var (pv 1)) (nomark _)))))))


theorem ok_has_measures {P : Program} {w : World} {K : PySem.W.Frag} {mg : Str → Option Value} {base : Heap} (T : Tx fas css fns K mg) : ∃ fd, FunD K "has_measures" "has_measures" (defArgs s_has_measures) (defBody s_has_measures) (defScope s_has_measures) [] [] (He.ga K "has_measures") fd ∧ FnG P w K mg base 2 (He.ga K "has_measures") fd ["line", "size", "gap", "used"] (spF K (He.ga K) 4 sp_has_measures) := by
  obtain ⟨fd, FD⟩ := T.def_ 1 (d := d_has_measures) rfl
  have FD : FunD K "has_measures" "has_measures" (defArgs s_has_measures) (defBody s_has_measures) (defScope s_has_measures) [] [] (He.ga K "has_measures") fd := FD
  obtain ⟨fd_is_whole, FD_is_whole, F_is_whole⟩ := ok_is_whole (P := P) (w := w) (base := base) T
  have mg_is_whole := T.glo 0 (x := "is_whole") rfl
  obtain ⟨ds_b_is_whole_1, hd_b_is_whole_1, b_is_whole_1⟩ := FD_is_whole.binds1 (ps := ["value", "least"]) 1 0 (by simp) rfl fun _ _ _ _ _ _ _ us its h1 h2 => match us, its, h1, h2 with | [_], [_], _, _ => ⟨_, rfl, rfl⟩
  have hD_b_is_whole_1 : ∀ (W : Wd) (H : Hp), RVs K W H [.int 0] _ := fun _ _ => .cons (.int _) (.nil)
  obtain ⟨ds_b_is_whole_2, hd_b_is_whole_2, b_is_whole_2⟩ := FD_is_whole.binds1 (ps := ["value", "least"]) 2 1 (by simp) rfl fun _ _ _ _ _ _ _ us its h1 h2 => match us, its, h1, h2 with | [_, _], [_], _, _ => ⟨_, rfl, rfl⟩
  have hD_b_is_whole_2 : ∀ (W : Wd) (H : Hp), RVs K W H [] _ := fun _ _ => .nil
  refine ⟨fd, FD, fn_ok (ga := He.ga K) (t := p_has_measures) FD sc_has_measures (fun cdv A outer s H E hr hgd => ?_) conf_has_measures⟩
  have hu := hr.units
  have hr_1 : Room 1 _ := hr.mono (by decide : 1 ≤ 1)
  exact (wss_cons (ws_if (wt_not (wt_bool (wt_and (wt_val (we_call (n := 2) (D := []) (F_is_whole.mono (by decide)) hr_1 hgd rfl mg_is_whole FD_is_whole.kp b_is_whole_2 hd_b_is_whole_2 hD_b_is_whole_2 (takes_of rfl rfl rfl rfl) (wa_cons (we_var (pv 0)) (wa_cons we_int wa_nil)))) (wt_and (wt_val (we_call (n := 2) (D := []) (F_is_whole.mono (by decide)) hr_1 hgd rfl mg_is_whole FD_is_whole.kp b_is_whole_2 hd_b_is_whole_2 hD_b_is_whole_2 (takes_of rfl rfl rfl rfl) (wa_cons (we_var (pv 1)) (wa_cons we_int wa_nil)))) (wt_and (wt_val (we_call (n := 2) (D := [.int 0]) (F_is_whole.mono (by decide)) hr_1 hgd rfl mg_is_whole FD_is_whole.kp b_is_whole_1 hd_b_is_whole_1 hD_b_is_whole_1 (takes_of rfl rfl rfl rfl) (wa_cons (we_var (pv 2)) wa_nil))) (wt_and1 (wt_val (we_callB call_isiU rfl (T.free 17) (by decide +kernel) (wa_cons (we_var (pv 3)) (wa_cons (we_ty rfl (T.free 18) (by decide +kernel)) wa_nil)))))))))) (wss_one (ws_ret we_bl)) wss_nil)
    (wss_one (ws_ret (we_cmp op_geU (we_bin op_addU (we_var (pv 1)) (we_var (pv 2))) (we_var (pv 0)) (nomark _)))))


theorem ok_is_layout {P : Program} {w : World} {K : PySem.W.Frag} {mg : Str → Option Value} {base : Heap} (T : Tx fas css fns K mg) : ∃ fd, FunD K "is_layout" "is_layout" (defArgs s_is_layout) (defBody s_is_layout) (defScope s_is_layout) [] [] (He.ga K "is_layout") fd ∧ FnG P w K mg base 3 (He.ga K "is_layout") fd ["value"] (spF K (He.ga K) 1 sp_is_layout) := by
  obtain ⟨fd, FD⟩ := T.def_ 2 (d := d_is_layout) rfl
  have FD : FunD K "is_layout" "is_layout" (defArgs s_is_layout) (defBody s_is_layout) (defScope s_is_layout) [] [] (He.ga K "is_layout") fd := FD
  obtain ⟨fd_has_measures, FD_has_measures, F_has_measures⟩ := ok_has_measures (P := P) (w := w) (base := base) T
  have mg_has_measures := T.glo 1 (x := "has_measures") rfl
  have b_has_measures_4 : L2.Binds K fd_has_measures ["line", "size", "gap", "used"] [] := FD_has_measures.bindsN fun _ _ _ _ _ _ us hl => match us, hl with | [_, _, _, _], _ => rfl
  have hd_b_has_measures_4 : Vals [] [] := .nil
  have hD_b_has_measures_4 : ∀ (W : Wd) (H : Hp), RVs K W H [] [] := fun _ _ => .nil
  obtain ⟨fd_is_whole, FD_is_whole, F_is_whole⟩ := ok_is_whole (P := P) (w := w) (base := base) T
  have mg_is_whole := T.glo 0 (x := "is_whole") rfl
  obtain ⟨ds_b_is_whole_1, hd_b_is_whole_1, b_is_whole_1⟩ := FD_is_whole.binds1 (ps := ["value", "least"]) 1 0 (by simp) rfl fun _ _ _ _ _ _ _ us its h1 h2 => match us, its, h1, h2 with | [_], [_], _, _ => ⟨_, rfl, rfl⟩
  have hD_b_is_whole_1 : ∀ (W : Wd) (H : Hp), RVs K W H [.int 0] _ := fun _ _ => .cons (.int _) (.nil)
  obtain ⟨ds_b_is_whole_2, hd_b_is_whole_2, b_is_whole_2⟩ := FD_is_whole.binds1 (ps := ["value", "least"]) 2 1 (by simp) rfl fun _ _ _ _ _ _ _ us its h1 h2 => match us, its, h1, h2 with | [_, _], [_], _, _ => ⟨_, rfl, rfl⟩
  have hD_b_is_whole_2 : ∀ (W : Wd) (H : Hp), RVs K W H [] _ := fun _ _ => .nil
  refine ⟨fd, FD, fn_ok (ga := He.ga K) (t := p_is_layout) FD sc_is_layout (fun cdv A outer s H E hr hgd => ?_) conf_is_layout⟩
  have hu := hr.units
  have hr_1 : Room 2 _ := hr.mono (by decide : 2 ≤ 2)
  have hr_2 : Room 2 _ := hr.mono (by decide : 2 ≤ 2)
  exact (wss_cons (ws_if (wt_bool (wt_or (wt_not (wt_val (we_callB call_isiU rfl (T.free 17) (by decide +kernel) (wa_cons (we_var (pv 0)) (wa_cons (we_ty rfl (T.free 19) (by decide +kernel)) wa_nil))))) (wt_or1 (wt_cmp (op_neU hu) (we_callB call_lenU rfl (T.free 20) (by decide +kernel) (wa_cons (we_var (pv 0)) wa_nil)) we_int (nomark _))))) (wss_one (ws_ret we_bl)) wss_nil)
    (wss_cons (ws_asg (we_var (pv 0)) (wg_tup rfl rfl (ks := [1, 2, 3, 4, 5, 6]) (pgs_cons (pg_name (i := 1) sc_is_layout.nd rfl (by first | exact Or.inl rfl | exact Or.inr rfl)) (pgs_cons (pg_name (i := 2) sc_is_layout.nd rfl (by first | exact Or.inl rfl | exact Or.inr rfl)) (pgs_cons (pg_name (i := 3) sc_is_layout.nd rfl (by first | exact Or.inl rfl | exact Or.inr rfl)) (pgs_cons (pg_name (i := 4) sc_is_layout.nd rfl (by first | exact Or.inl rfl | exact Or.inr rfl)) (pgs_cons (pg_name (i := 5) sc_is_layout.nd rfl (by first | exact Or.inl rfl | exact Or.inr rfl)) (pgs_cons (pg_name (i := 6) sc_is_layout.nd rfl (by first | exact Or.inl rfl | exact Or.inr rfl)) pgs_nil))))))))
    (wss_one (ws_ret (we_and (we_call (n := 4) (D := []) (F_has_measures.mono (by decide)) hr_2 hgd rfl mg_has_measures FD_has_measures.kp b_has_measures_4 hd_b_has_measures_4 hD_b_has_measures_4 (takes_of rfl rfl rfl rfl) (wa_cons (we_var (pv 1)) (wa_cons (we_var (pv 2)) (wa_cons (we_var (pv 3)) (wa_cons (we_var (pv 4)) wa_nil))))) (we_and (we_call (n := 2) (D := [.int 0]) (F_is_whole.mono (by decide)) hr_1 hgd rfl mg_is_whole FD_is_whole.kp b_is_whole_1 hd_b_is_whole_1 hD_b_is_whole_1 (takes_of rfl rfl rfl rfl) (wa_cons (we_var (pv 5)) wa_nil)) (we_and (we_cmp op_ltU (we_var (pv 5)) (we_var (pv 1)) (nomark _)) (we_one (we_call (n := 2) (D := []) (F_is_whole.mono (by decide)) hr_1 hgd rfl mg_is_whole FD_is_whole.kp b_is_whole_2 hd_b_is_whole_2 hD_b_is_whole_2 (takes_of rfl rfl rfl rfl) (wa_cons (we_var (pv 6)) (wa_cons we_int wa_nil)))))))))))


theorem ok_need_layout {P : Program} {w : World} {K : PySem.W.Frag} {mg : Str → Option Value} {base : Heap} (T : Tx fas css fns K mg) : ∃ fd, FunD K "need_layout" "need_layout" (defArgs s_need_layout) (defBody s_need_layout) (defScope s_need_layout) [] [] (He.ga K "need_layout") fd ∧ FnG P w K mg base 4 (He.ga K "need_layout") fd ["layout"] (spF K (He.ga K) 1 sp_need_layout) := by
  obtain ⟨fd, FD⟩ := T.def_ 3 (d := d_need_layout) rfl
  have FD : FunD K "need_layout" "need_layout" (defArgs s_need_layout) (defBody s_need_layout) (defScope s_need_layout) [] [] (He.ga K "need_layout") fd := FD
  obtain ⟨fd_is_layout, FD_is_layout, F_is_layout⟩ := ok_is_layout (P := P) (w := w) (base := base) T
  have mg_is_layout := T.glo 2 (x := "is_layout") rfl
  have b_is_layout_1 : L2.Binds K fd_is_layout ["value"] [] := FD_is_layout.bindsN fun _ _ _ _ _ _ us hl => match us, hl with | [_], _ => rfl
  have hd_b_is_layout_1 : Vals [] [] := .nil
  have hD_b_is_layout_1 : ∀ (W : Wd) (H : Hp), RVs K W H [] [] := fun _ _ => .nil
  have mg_InvalidLayout := T.glo 25 (x := "InvalidLayout") rfl
  have ex_InvalidLayout := He.exc_ok (T.fact 26 (f := .exc "InvalidLayout") rfl)
  refine ⟨fd, FD, fn_ok (ga := He.ga K) (t := p_need_layout) FD sc_need_layout (fun cdv A outer s H E hr hgd => ?_) conf_need_layout⟩
  have hu := hr.units
  have hr_3 : Room 3 _ := hr.mono (by decide : 3 ≤ 3)
  exact (wss_one (ws_if (wt_not (wt_val (we_call (n := 1) (D := []) (F_is_layout.mono (by decide)) hr_3 hgd rfl mg_is_layout FD_is_layout.kp b_is_layout_1 hd_b_is_layout_1 hD_b_is_layout_1 (takes_of rfl rfl rfl rfl) (wa_cons (we_var (pv 0)) wa_nil)))) (wss_one (ws_raise rfl (takes_of rfl rfl rfl rfl) ex_InvalidLayout.1 mg_InvalidLayout ex_InvalidLayout.2.1 (raises_own ex_InvalidLayout.2.2.1 ex_InvalidLayout.2.2.2) rfl)) wss_nil))


theorem ok_write_layout {P : Program} {w : World} {K : PySem.W.Frag} {mg : Str → Option Value} {base : Heap} (T : Tx fas css fns K mg) : ∃ fd, FunD K "write_layout" "write_layout" (defArgs s_write_layout) (defBody s_write_layout) (defScope s_write_layout) [] [] (He.ga K "write_layout") fd ∧ FnG P w K mg base 5 (He.ga K "write_layout") fd ["layout"] (spF K (He.ga K) 1 sp_write_layout) := by
  obtain ⟨fd, FD⟩ := T.def_ 4 (d := d_write_layout) rfl
  have FD : FunD K "write_layout" "write_layout" (defArgs s_write_layout) (defBody s_write_layout) (defScope s_write_layout) [] [] (He.ga K "write_layout") fd := FD
  obtain ⟨fd_need_layout, FD_need_layout, F_need_layout⟩ := ok_need_layout (P := P) (w := w) (base := base) T
  have mg_need_layout := T.glo 3 (x := "need_layout") rfl
  have b_need_layout_1 : L2.Binds K fd_need_layout ["layout"] [] := FD_need_layout.bindsN fun _ _ _ _ _ _ us hl => match us, hl with | [_], _ => rfl
  have hd_b_need_layout_1 : Vals [] [] := .nil
  have hD_b_need_layout_1 : ∀ (W : Wd) (H : Hp), RVs K W H [] [] := fun _ _ => .nil
  refine ⟨fd, FD, fn_ok (ga := He.ga K) (t := p_write_layout) FD sc_write_layout (fun cdv A outer s H E hr hgd => ?_) conf_write_layout⟩
  have hu := hr.units
  have hr_4 : Room 4 _ := hr.mono (by decide : 4 ≤ 4)
  exact (wss_cons (ws_expr (we_call (n := 1) (D := []) (F_need_layout.mono (by decide)) hr_4 hgd rfl mg_need_layout FD_need_layout.kp b_need_layout_1 hd_b_need_layout_1 hD_b_need_layout_1 (takes_of rfl rfl rfl rfl) (wa_cons (we_var (pv 0)) wa_nil)))
    (wss_cons (ws_asg (we_var (pv 0)) (wg_tup rfl rfl (ks := [1, 2, 3, 4, 5, 6]) (pgs_cons (pg_name (i := 1) sc_write_layout.nd rfl (by first | exact Or.inl rfl | exact Or.inr rfl)) (pgs_cons (pg_name (i := 2) sc_write_layout.nd rfl (by first | exact Or.inl rfl | exact Or.inr rfl)) (pgs_cons (pg_name (i := 3) sc_write_layout.nd rfl (by first | exact Or.inl rfl | exact Or.inr rfl)) (pgs_cons (pg_name (i := 4) sc_write_layout.nd rfl (by first | exact Or.inl rfl | exact Or.inr rfl)) (pgs_cons (pg_name (i := 5) sc_write_layout.nd rfl (by first | exact Or.inl rfl | exact Or.inr rfl)) (pgs_cons (pg_name (i := 6) sc_write_layout.nd rfl (by first | exact Or.inl rfl | exact Or.inr rfl)) pgs_nil))))))))
    (wss_cons (ws_set (ps_set (i := 7) sc_write_layout.nd rfl (by first | exact Or.inl rfl | exact Or.inr rfl) (we_ifE (wt_val (we_var (pv 4))) we_str we_str)))
    (wss_one (ws_ret (we_js (wj_cons we_str (wj_cons (we_fmt (we_var (pv 1))) (wj_cons we_str (wj_cons (we_fmt (we_var (pv 2))) (wj_cons we_str (wj_cons (we_fmt (we_var (pv 3))) (wj_cons we_str (wj_cons (we_fmt (we_var (pv 7))) (wj_cons we_str (wj_cons (we_fmt (we_var (pv 5))) (wj_cons we_str (wj_cons (we_fmt (we_var (pv 6))) wj_nil))))))))))))))))))


theorem ok_read_number {P : Program} {w : World} {K : PySem.W.Frag} {mg : Str → Option Value} {base : Heap} (T : Tx fas css fns K mg) : ∃ fd, FunD K "read_number" "read_number" (defArgs s_read_number) (defBody s_read_number) (defScope s_read_number) [] [] (He.ga K "read_number") fd ∧ FnG P w K mg base 1 (He.ga K "read_number") fd ["word"] (spF K (He.ga K) 1 sp_read_number) := by
  obtain ⟨fd, FD⟩ := T.def_ 5 (d := d_read_number) rfl
  have FD : FunD K "read_number" "read_number" (defArgs s_read_number) (defBody s_read_number) (defScope s_read_number) [] [] (He.ga K "read_number") fd := FD
  obtain ⟨a_DIGITS, v_DIGITS, mg_DIGITS, rv_DIGITS, rr_DIGITS⟩ := T.cst 0 (x := "DIGITS") (u := c_DIGITS) rfl
  obtain ⟨a_MOST_DIGITS, v_MOST_DIGITS, mg_MOST_DIGITS, rv_MOST_DIGITS, rr_MOST_DIGITS⟩ := T.cst 1 (x := "MOST_DIGITS") (u := c_MOST_DIGITS) rfl
  refine ⟨fd, FD, fn_ok (ga := He.ga K) (t := p_read_number) FD sc_read_number (fun cdv A outer s H E hr hgd => ?_) conf_read_number⟩
  have hu := hr.units
  exact (wss_cons (ws_if (wt_bool (wt_or (wt_cmp (op_eqU hu) (we_var (pv 0)) we_str (nomark _)) (wt_or1 (wt_cmp op_gtU (we_callB call_lenU rfl (T.free 20) (by decide +kernel) (wa_cons (we_var (pv 0)) wa_nil)) (we_glo rfl mg_MOST_DIGITS rv_MOST_DIGITS rr_MOST_DIGITS) (nomark _))))) (wss_one (ws_ret we_non)) wss_nil)
    (wss_cons (ws_for (passes_of rfl) rfl (wi_str (we_var (pv 0))) (wg_name (pg_name (i := 1) sc_read_number.nd rfl (by first | exact Or.inl rfl | exact Or.inr rfl))) (wss_one (ws_if (wt_cmp op_notInSU (we_var (pv 1)) (we_glo rfl mg_DIGITS rv_DIGITS rr_DIGITS) (by rfl)) (wss_one (ws_ret we_non)) wss_nil)))
    (wss_cons (ws_if (wt_bool (wt_and (wt_cmp (op_eqU hu) (we_ix ix_U (we_var (pv 0)) we_int (fun _ _ => rfl)) we_str (nomark _)) (wt_and1 (wt_cmp op_gtU (we_callB call_lenU rfl (T.free 20) (by decide +kernel) (wa_cons (we_var (pv 0)) wa_nil)) we_int (nomark _))))) (wss_one (ws_ret we_non)) wss_nil)
    (wss_one (ws_ret (we_callTy call_intU rfl (T.free 16) (by decide +kernel) (wa_cons (we_var (pv 0)) wa_nil)))))))


theorem ok_number_fits {P : Program} {w : World} {K : PySem.W.Frag} {mg : Str → Option Value} {base : Heap} (T : Tx fas css fns K mg) : ∃ fd, FunD K "number_fits" "number_fits" (defArgs s_number_fits) (defBody s_number_fits) (defScope s_number_fits) [] [] (He.ga K "number_fits") fd ∧ FnG P w K mg base 1 (He.ga K "number_fits") fd ["numbers", "number"] (spF K (He.ga K) 2 sp_number_fits) := by
  obtain ⟨fd, FD⟩ := T.def_ 6 (d := d_number_fits) rfl
  have FD : FunD K "number_fits" "number_fits" (defArgs s_number_fits) (defBody s_number_fits) (defScope s_number_fits) [] [] (He.ga K "number_fits") fd := FD
  refine ⟨fd, FD, fn_ok (ga := He.ga K) (t := p_number_fits) FD sc_number_fits (fun cdv A outer s H E hr hgd => ?_) conf_number_fits⟩
  have hu := hr.units
  exact (wss_cons (ws_if (wt_cmp (op_eqU hu) (we_callB call_lenU rfl (T.free 20) (by decide +kernel) (wa_cons (we_var (pv 0)) wa_nil)) we_int (nomark _)) (wss_one (ws_ret (we_cmp op_geU (we_bin op_addU (we_ix ix_U (we_var (pv 0)) we_int (fun _ _ => rfl)) (we_var (pv 1))) (we_ix ix_U (we_var (pv 0)) we_int (fun _ _ => rfl)) (nomark _)))) wss_nil)
    (wss_cons (ws_if (wt_cmp (op_eqU hu) (we_callB call_lenU rfl (T.free 20) (by decide +kernel) (wa_cons (we_var (pv 0)) wa_nil)) we_int (nomark _)) (wss_one (ws_ret (we_cmp op_ltU (we_var (pv 1)) (we_ix ix_U (we_var (pv 0)) we_int (fun _ _ => rfl)) (nomark _)))) wss_nil)
    (wss_one (ws_ret (we_cmp op_geU (we_var (pv 1)) we_int (nomark _))))))


theorem ok_read_layout {P : Program} {w : World} {K : PySem.W.Frag} {mg : Str → Option Value} {base : Heap} (T : Tx fas css fns K mg) : ∃ fd, FunD K "read_layout" "read_layout" (defArgs s_read_layout) (defBody s_read_layout) (defScope s_read_layout) [] [] (He.ga K "read_layout") fd ∧ FnG P w K mg base 2 (He.ga K "read_layout") fd ["words"] (spF K (He.ga K) 1 sp_read_layout) := by
  obtain ⟨fd, FD⟩ := T.def_ 7 (d := d_read_layout) rfl
  have FD : FunD K "read_layout" "read_layout" (defArgs s_read_layout) (defBody s_read_layout) (defScope s_read_layout) [] [] (He.ga K "read_layout") fd := FD
  obtain ⟨fd_number_fits, FD_number_fits, F_number_fits⟩ := ok_number_fits (P := P) (w := w) (base := base) T
  have mg_number_fits := T.glo 6 (x := "number_fits") rfl
  have b_number_fits_2 : L2.Binds K fd_number_fits ["numbers", "number"] [] := FD_number_fits.bindsN fun _ _ _ _ _ _ us hl => match us, hl with | [_, _], _ => rfl
  have hd_b_number_fits_2 : Vals [] [] := .nil
  have hD_b_number_fits_2 : ∀ (W : Wd) (H : Hp), RVs K W H [] [] := fun _ _ => .nil
  obtain ⟨fd_read_number, FD_read_number, F_read_number⟩ := ok_read_number (P := P) (w := w) (base := base) T
  have mg_read_number := T.glo 5 (x := "read_number") rfl
  have b_read_number_1 : L2.Binds K fd_read_number ["word"] [] := FD_read_number.bindsN fun _ _ _ _ _ _ us hl => match us, hl with | [_], _ => rfl
  have hd_b_read_number_1 : Vals [] [] := .nil
  have hD_b_read_number_1 : ∀ (W : Wd) (H : Hp), RVs K W H [] [] := fun _ _ => .nil
  obtain ⟨a_LAYOUT_WORDS, v_LAYOUT_WORDS, mg_LAYOUT_WORDS, rv_LAYOUT_WORDS, rr_LAYOUT_WORDS⟩ := T.cst 2 (x := "LAYOUT_WORDS") (u := c_LAYOUT_WORDS) rfl
  refine ⟨fd, FD, fn_ok (ga := He.ga K) (t := p_read_layout) FD sc_read_layout (fun cdv A outer s H E hr hgd => ?_) conf_read_layout⟩
  have hu := hr.units
  have hr_1 : Room 1 _ := hr.mono (by decide : 1 ≤ 1)
  exact (wss_cons (ws_set (ps_set (i := 1) sc_read_layout.nd rfl (by first | exact Or.inl rfl | exact Or.inr rfl) (we_split rfl (we_var (pv 0)) we_str)))
    (wss_cons (ws_setR (ps_set (i := 2) sc_read_layout.nd rfl (by first | exact Or.inl rfl | exact Or.inr rfl) (we_lst wa_nil)))
    (wss_cons (ws_for (passes_of rfl) rfl (wi_range1 rfl (T.free 21) (wa_cons (we_callB call_lenU rfl (T.free 20) (by decide +kernel) (wa_cons (we_glo rfl mg_LAYOUT_WORDS rv_LAYOUT_WORDS rr_LAYOUT_WORDS) wa_nil)) wa_nil)) (wg_name (pg_name (i := 3) sc_read_layout.nd rfl (by first | exact Or.inl rfl | exact Or.inr rfl))) (wss_cons (ws_set (ps_set (i := 4) sc_read_layout.nd rfl (by first | exact Or.inl rfl | exact Or.inr rfl) (we_ifE (wt_cmp op_ltU (we_var (pv 3)) (we_callB call_lenU rfl (T.free 20) (by decide +kernel) (wa_cons (we_var (pv 1)) wa_nil)) (nomark _)) (we_ix ix_U (we_var (pv 1)) (we_var (pv 3)) (fun _ _ => rfl)) we_str)))
    (wss_one (ws_if (wt_cmp (op_eqU hu) (we_ix ix_U (we_glo rfl mg_LAYOUT_WORDS rv_LAYOUT_WORDS rr_LAYOUT_WORDS) (we_var (pv 3)) (fun _ _ => rfl)) (we_tup wa_nil) (nomark _)) (wss_cons (ws_set (ps_set (i := 5) sc_read_layout.nd rfl (by first | exact Or.inl rfl | exact Or.inr rfl) (we_call (n := 1) (D := []) (F_read_number.mono (by decide)) hr_1 hgd rfl mg_read_number FD_read_number.kp b_read_number_1 hd_b_read_number_1 hD_b_read_number_1 (takes_of rfl rfl rfl rfl) (wa_cons (we_var (pv 4)) wa_nil))))
    (wss_cons (ws_if (wt_bool (wt_or (wt_cmp op_isNU (we_var (pv 5)) we_non (nomark _)) (wt_or1 (wt_not (wt_val (we_call (n := 2) (D := []) (F_number_fits.mono (by decide)) hr_1 hgd rfl mg_number_fits FD_number_fits.kp b_number_fits_2 hd_b_number_fits_2 hD_b_number_fits_2 (takes_of rfl rfl rfl rfl) (wa_cons (we_var (pv 2)) (wa_cons (we_var (pv 5)) wa_nil)))))))) (wss_one ws_stuck) wss_nil)
    (wss_one (ws_expr (we_mtR rfl PySem.F.slot_list_append PySem.F.type_list_append mtU_append (pv 2) (wa_cons (we_var (pv 5)) wa_nil)))))) (wss_one (ws_if (wt_cmp op_notInU (we_var (pv 4)) (we_ix ix_U (we_glo rfl mg_LAYOUT_WORDS rv_LAYOUT_WORDS rr_LAYOUT_WORDS) (we_var (pv 3)) (fun _ _ => rfl)) (by rfl)) (wss_one ws_stuck) wss_nil))))))
    (wss_cons (ws_if (wt_cmp op_gtU (we_callB call_lenU rfl (T.free 20) (by decide +kernel) (wa_cons (we_var (pv 1)) wa_nil)) (we_callB call_lenU rfl (T.free 20) (by decide +kernel) (wa_cons (we_glo rfl mg_LAYOUT_WORDS rv_LAYOUT_WORDS rr_LAYOUT_WORDS) wa_nil)) (nomark _)) (wss_one ws_stuck) wss_nil)
    (wss_cons (ws_asg (we_var (pv 2)) (wg_lst rfl rfl (ks := [6, 7, 8, 9, 10]) (pgs_cons (pg_name (i := 6) sc_read_layout.nd rfl (by first | exact Or.inl rfl | exact Or.inr rfl)) (pgs_cons (pg_name (i := 7) sc_read_layout.nd rfl (by first | exact Or.inl rfl | exact Or.inr rfl)) (pgs_cons (pg_name (i := 8) sc_read_layout.nd rfl (by first | exact Or.inl rfl | exact Or.inr rfl)) (pgs_cons (pg_name (i := 9) sc_read_layout.nd rfl (by first | exact Or.inl rfl | exact Or.inr rfl)) (pgs_cons (pg_name (i := 10) sc_read_layout.nd rfl (by first | exact Or.inl rfl | exact Or.inr rfl)) pgs_nil)))))))
    (wss_one (ws_ret (we_tup (wa_cons (we_var (pv 6)) (wa_cons (we_var (pv 7)) (wa_cons (we_var (pv 8)) (wa_cons (we_cmp (op_eqU hu) (we_ix ix_U (we_var (pv 1)) we_int (fun _ _ => rfl)) we_str (nomark _)) (wa_cons (we_var (pv 9)) (wa_cons (we_var (pv 10)) wa_nil))))))))))))))


theorem ok_law_bag {P : Program} {w : World} {K : PySem.W.Frag} {mg : Str → Option Value} {base : Heap} (T : Tx fas css fns K mg) : ∃ fd, FunD K "_law_bag" "_law_bag" (defArgs s_law_bag) (defBody s_law_bag) (defScope s_law_bag) [] [] (He.ga K "_law_bag") fd ∧ FnG P w K mg base 1 (He.ga K "_law_bag") fd ["cell"] (spF K (He.ga K) 1 sp_law_bag) := by
  obtain ⟨fd, FD⟩ := T.def_ 8 (d := d_law_bag) rfl
  have FD : FunD K "_law_bag" "_law_bag" (defArgs s_law_bag) (defBody s_law_bag) (defScope s_law_bag) [] [] (He.ga K "_law_bag") fd := FD
  refine ⟨fd, FD, fn_ok (ga := He.ga K) (t := p_law_bag) FD sc_law_bag (fun cdv A outer s H E hr hgd => ?_) conf_law_bag⟩
  have hu := hr.units
  exact (wss_cons (ws_set (ps_set (i := 1) sc_law_bag.nd rfl (by first | exact Or.inl rfl | exact Or.inr rfl) we_int))
    (wss_cons (ws_if (wt_cmp op_geU (we_var (pv 0)) (we_bin op_powU we_int we_int) (nomark _)) (wss_one (ws_set (ps_set (i := 1) sc_law_bag.nd rfl (by first | exact Or.inl rfl | exact Or.inr rfl) (we_bin op_subU (we_var (pv 0)) (we_bin op_powU we_int we_int))))) wss_nil)
    (wss_one (ws_ret (we_lst (wa_cons (we_var (pv 1)) (wa_cons (we_bin op_modU (we_callTy call_intU rfl (T.free 16) (by decide +kernel) (wa_cons (we_var (pv 0)) wa_nil)) we_int) (wa_cons we_int wa_nil))))))))


theorem ok_law_draw {P : Program} {w : World} {K : PySem.W.Frag} {mg : Str → Option Value} {base : Heap} (T : Tx fas css fns K mg) : ∃ fd, FunD K "_law_draw" "_law_draw" (defArgs s_law_draw) (defBody s_law_draw) (defScope s_law_draw) [] [] (He.ga K "_law_draw") fd ∧ FnG P w K mg base 1 (He.ga K "_law_draw") fd ["bag", "many"] (spF K (He.ga K) 2 sp_law_draw) := by
  obtain ⟨fd, FD⟩ := T.def_ 9 (d := d_law_draw) rfl
  have FD : FunD K "_law_draw" "_law_draw" (defArgs s_law_draw) (defBody s_law_draw) (defScope s_law_draw) [] [] (He.ga K "_law_draw") fd := FD
  refine ⟨fd, FD, fn_ok (ga := He.ga K) (t := p_law_draw) FD sc_law_draw (fun cdv A outer s H E hr hgd => ?_) conf_law_draw⟩
  have hu := hr.units
  exact (wss_cons (ws_if (wt_cmp op_gtU (we_ix ix_U (we_var (pv 0)) we_int (fun _ _ => rfl)) we_int (nomark _)) (wss_cons (ws_set (ps_set (i := 2) sc_law_draw.nd rfl (by first | exact Or.inl rfl | exact Or.inr rfl) (we_bin op_modU (we_callTy call_intU rfl (T.free 16) (by decide +kernel) (wa_cons (we_ix ix_U (we_var (pv 0)) we_int (fun _ _ => rfl)) wa_nil)) (we_var (pv 1)))))
    (wss_cons (ws_setIx (we_bin op_fdivU (we_ix ix_U (we_var (pv 0)) we_int (fun _ _ => rfl)) (we_var (pv 1))) (pv 0) we_int)
    (wss_one (ws_ret (we_var (pv 2)))))) wss_nil)
    (wss_cons (ws_setIx (we_bin op_addU (we_ix ix_U (we_var (pv 0)) we_int (fun _ _ => rfl)) we_int) (pv 0) we_int)
    (wss_cons (ws_set (ps_set (i := 3) sc_law_draw.nd rfl (by first | exact Or.inl rfl | exact Or.inr rfl) (we_ix ix_U (we_var (pv 0)) we_int (fun _ _ => rfl))))
    (wss_cons (ws_set (ps_set (i := 4) sc_law_draw.nd rfl (by first | exact Or.inl rfl | exact Or.inr rfl) (we_bin op_addU (we_bin op_addU (we_ix ix_U (we_var (pv 0)) we_int (fun _ _ => rfl)) (we_bin op_mulU (we_bin op_mulU we_int (we_var (pv 3))) (we_var (pv 3)))) (we_bin op_mulU we_int (we_var (pv 3))))))
    (wss_cons (ws_set (ps_set (i := 4) sc_law_draw.nd rfl (by first | exact Or.inl rfl | exact Or.inr rfl) (we_bin op_fdivU (we_bin op_modU (we_callTy call_intU rfl (T.free 16) (by decide +kernel) (wa_cons (we_bin op_addU (we_bin op_mulU (we_var (pv 4)) (we_var (pv 4))) (we_bin op_mulU we_int (we_var (pv 3)))) wa_nil)) we_int) we_int)))
    (wss_one (ws_ret (we_bin op_modU (we_bin op_fdivU (we_bin op_modU (we_callTy call_intU rfl (T.free 16) (by decide +kernel) (wa_cons (we_bin op_addU (we_bin op_mulU (we_var (pv 4)) (we_var (pv 4))) we_int) wa_nil)) we_int) we_int) (we_var (pv 1))))))))))


theorem ok_law_site {P : Program} {w : World} {K : PySem.W.Frag} {mg : Str → Option Value} {base : Heap} (T : Tx fas css fns K mg) : ∃ fd, FunD K "_law_site" "_law_site" (defArgs s_law_site) (defBody s_law_site) (defScope s_law_site) [] [] (He.ga K "_law_site") fd ∧ FnG P w K mg base 2 (He.ga K "_law_site") fd ["bag"] (spF K (He.ga K) 1 sp_law_site) := by
  obtain ⟨fd, FD⟩ := T.def_ 10 (d := d_law_site) rfl
  have FD : FunD K "_law_site" "_law_site" (defArgs s_law_site) (defBody s_law_site) (defScope s_law_site) [] [] (He.ga K "_law_site") fd := FD
  obtain ⟨fd_law_draw, FD_law_draw, F_law_draw⟩ := ok_law_draw (P := P) (w := w) (base := base) T
  have mg_law_draw := T.glo 9 (x := "_law_draw") rfl
  have b_law_draw_2 : L2.Binds K fd_law_draw ["bag", "many"] [] := FD_law_draw.bindsN fun _ _ _ _ _ _ us hl => match us, hl with | [_, _], _ => rfl
  have hd_b_law_draw_2 : Vals [] [] := .nil
  have hD_b_law_draw_2 : ∀ (W : Wd) (H : Hp), RVs K W H [] [] := fun _ _ => .nil
  refine ⟨fd, FD, fn_ok (ga := He.ga K) (t := p_law_site) FD sc_law_site (fun cdv A outer s H E hr hgd => ?_) conf_law_site⟩
  have hu := hr.units
  have hr_1 : Room 1 _ := hr.mono (by decide : 1 ≤ 1)
  exact (wss_cons (ws_set (ps_set (i := 1) sc_law_site.nd rfl (by first | exact Or.inl rfl | exact Or.inr rfl) (we_callTy call_intU rfl (T.free 16) (by decide +kernel) (wa_cons (we_cmp (op_eqU hu) (we_call (n := 2) (D := []) (F_law_draw.mono (by decide)) hr_1 hgd rfl mg_law_draw FD_law_draw.kp b_law_draw_2 hd_b_law_draw_2 hD_b_law_draw_2 (takes_of rfl rfl rfl rfl) (wa_cons (we_var (pv 0)) (wa_cons we_int wa_nil))) we_int (nomark _)) wa_nil))))
    (wss_cons (ws_set (ps_set (i := 2) sc_law_site.nd rfl (by first | exact Or.inl rfl | exact Or.inr rfl) (we_bin op_addU we_int (we_call (n := 2) (D := []) (F_law_draw.mono (by decide)) hr_1 hgd rfl mg_law_draw FD_law_draw.kp b_law_draw_2 hd_b_law_draw_2 hD_b_law_draw_2 (takes_of rfl rfl rfl rfl) (wa_cons (we_var (pv 0)) (wa_cons (we_ix ix_U (we_lst (wa_cons we_int (wa_cons we_int wa_nil))) (we_var (pv 1)) (fun _ _ => rfl)) wa_nil))))))
    (wss_cons (ws_set (ps_set (i := 3) sc_law_site.nd rfl (by first | exact Or.inl rfl | exact Or.inr rfl) (we_bin op_addU (we_var (pv 2)) (we_call (n := 2) (D := []) (F_law_draw.mono (by decide)) hr_1 hgd rfl mg_law_draw FD_law_draw.kp b_law_draw_2 hd_b_law_draw_2 hD_b_law_draw_2 (takes_of rfl rfl rfl rfl) (wa_cons (we_var (pv 0)) (wa_cons (we_ix ix_U (we_lst (wa_cons we_int (wa_cons (we_bin op_subU we_int (we_var (pv 2))) wa_nil))) (we_var (pv 1)) (fun _ _ => rfl)) wa_nil))))))
    (wss_cons (ws_set (ps_set (i := 4) sc_law_site.nd rfl (by first | exact Or.inl rfl | exact Or.inr rfl) (we_bin op_addU we_int (we_call (n := 2) (D := []) (F_law_draw.mono (by decide)) hr_1 hgd rfl mg_law_draw FD_law_draw.kp b_law_draw_2 hd_b_law_draw_2 hD_b_law_draw_2 (takes_of rfl rfl rfl rfl) (wa_cons (we_var (pv 0)) (wa_cons (we_var (pv 3)) wa_nil))))))
    (wss_cons (ws_set (ps_set (i := 5) sc_law_site.nd rfl (by first | exact Or.inl rfl | exact Or.inr rfl) (we_bin op_addU we_int (we_call (n := 2) (D := []) (F_law_draw.mono (by decide)) hr_1 hgd rfl mg_law_draw FD_law_draw.kp b_law_draw_2 hd_b_law_draw_2 hD_b_law_draw_2 (takes_of rfl rfl rfl rfl) (wa_cons (we_var (pv 0)) (wa_cons (we_ix ix_U (we_lst (wa_cons we_int (wa_cons we_int wa_nil))) (we_var (pv 1)) (fun _ _ => rfl)) wa_nil))))))
    (wss_one (ws_ret (we_tup (wa_cons (we_var (pv 2)) (wa_cons (we_var (pv 4)) (wa_cons (we_bin op_subU (we_var (pv 3)) (we_var (pv 4))) (wa_cons (we_cmp (op_eqU hu) (we_call (n := 2) (D := []) (F_law_draw.mono (by decide)) hr_1 hgd rfl mg_law_draw FD_law_draw.kp b_law_draw_2 hd_b_law_draw_2 hD_b_law_draw_2 (takes_of rfl rfl rfl rfl) (wa_cons (we_var (pv 0)) (wa_cons we_int wa_nil))) we_int (nomark _)) (wa_cons (we_call (n := 2) (D := []) (F_law_draw.mono (by decide)) hr_1 hgd rfl mg_law_draw FD_law_draw.kp b_law_draw_2 hd_b_law_draw_2 hD_b_law_draw_2 (takes_of rfl rfl rfl rfl) (wa_cons (we_var (pv 0)) (wa_cons (we_var (pv 2)) wa_nil))) (wa_cons (we_var (pv 5)) wa_nil))))))))))))))


theorem ok_law_text {P : Program} {w : World} {K : PySem.W.Frag} {mg : Str → Option Value} {base : Heap} (T : Tx fas css fns K mg) : ∃ fd, FunD K "_law_text" "_law_text" (defArgs s_law_text) (defBody s_law_text) (defScope s_law_text) [] [] (He.ga K "_law_text") fd ∧ FnG P w K mg base 1 (He.ga K "_law_text") fd ["site"] (spF K (He.ga K) 1 sp_law_text) := by
  obtain ⟨fd, FD⟩ := T.def_ 11 (d := d_law_text) rfl
  have FD : FunD K "_law_text" "_law_text" (defArgs s_law_text) (defBody s_law_text) (defScope s_law_text) [] [] (He.ga K "_law_text") fd := FD
  refine ⟨fd, FD, fn_ok (ga := He.ga K) (t := p_law_text) FD sc_law_text (fun cdv A outer s H E hr hgd => ?_) conf_law_text⟩
  have hu := hr.units
  exact (wss_cons (ws_asg (we_var (pv 0)) (wg_tup rfl rfl (ks := [1, 2, 3, 4, 5, 6]) (pgs_cons (pg_name (i := 1) sc_law_text.nd rfl (by first | exact Or.inl rfl | exact Or.inr rfl)) (pgs_cons (pg_name (i := 2) sc_law_text.nd rfl (by first | exact Or.inl rfl | exact Or.inr rfl)) (pgs_cons (pg_name (i := 3) sc_law_text.nd rfl (by first | exact Or.inl rfl | exact Or.inr rfl)) (pgs_cons (pg_name (i := 4) sc_law_text.nd rfl (by first | exact Or.inl rfl | exact Or.inr rfl)) (pgs_cons (pg_name (i := 5) sc_law_text.nd rfl (by first | exact Or.inl rfl | exact Or.inr rfl)) (pgs_cons (pg_name (i := 6) sc_law_text.nd rfl (by first | exact Or.inl rfl | exact Or.inr rfl)) pgs_nil))))))))
    (wss_cons (ws_set (ps_set (i := 7) sc_law_text.nd rfl (by first | exact Or.inl rfl | exact Or.inr rfl) (we_lst (wa_cons we_str (wa_cons (we_callTy call_strU rfl (T.free 22) (by decide +kernel) (wa_cons (we_var (pv 1)) wa_nil)) (wa_cons we_str (wa_cons (we_callTy call_strU rfl (T.free 22) (by decide +kernel) (wa_cons (we_var (pv 2)) wa_nil)) (wa_cons we_str (wa_cons (we_callTy call_strU rfl (T.free 22) (by decide +kernel) (wa_cons (we_var (pv 3)) wa_nil)) (wa_cons (we_ix ix_U (we_lst (wa_cons we_str (wa_cons we_str wa_nil))) (we_callTy call_intU rfl (T.free 16) (by decide +kernel) (wa_cons (we_var (pv 4)) wa_nil)) (fun _ _ => rfl)) wa_nil))))))))))
    (wss_one (ws_ret (we_join rfl we_str (we_bin op_addU (we_var (pv 7)) (we_lst (wa_cons we_str (wa_cons (we_callTy call_strU rfl (T.free 22) (by decide +kernel) (wa_cons (we_var (pv 5)) wa_nil)) (wa_cons we_str (wa_cons (we_callTy call_strU rfl (T.free 22) (by decide +kernel) (wa_cons (we_var (pv 6)) wa_nil)) wa_nil)))))))))))


theorem ok_law_bad_site {P : Program} {w : World} {K : PySem.W.Frag} {mg : Str → Option Value} {base : Heap} (T : Tx fas css fns K mg) : ∃ fd, FunD K "_law_bad_site" "_law_bad_site" (defArgs s_law_bad_site) (defBody s_law_bad_site) (defScope s_law_bad_site) [] [] (He.ga K "_law_bad_site") fd ∧ FnG P w K mg base 2 (He.ga K "_law_bad_site") fd ["bag", "site"] (spF K (He.ga K) 2 sp_law_bad_site) := by
  obtain ⟨fd, FD⟩ := T.def_ 12 (d := d_law_bad_site) rfl
  have FD : FunD K "_law_bad_site" "_law_bad_site" (defArgs s_law_bad_site) (defBody s_law_bad_site) (defScope s_law_bad_site) [] [] (He.ga K "_law_bad_site") fd := FD
  obtain ⟨fd_law_draw, FD_law_draw, F_law_draw⟩ := ok_law_draw (P := P) (w := w) (base := base) T
  have mg_law_draw := T.glo 9 (x := "_law_draw") rfl
  have b_law_draw_2 : L2.Binds K fd_law_draw ["bag", "many"] [] := FD_law_draw.bindsN fun _ _ _ _ _ _ us hl => match us, hl with | [_, _], _ => rfl
  have hd_b_law_draw_2 : Vals [] [] := .nil
  have hD_b_law_draw_2 : ∀ (W : Wd) (H : Hp), RVs K W H [] [] := fun _ _ => .nil
  obtain ⟨fd_law_text, FD_law_text, F_law_text⟩ := ok_law_text (P := P) (w := w) (base := base) T
  have mg_law_text := T.glo 11 (x := "_law_text") rfl
  have b_law_text_1 : L2.Binds K fd_law_text ["site"] [] := FD_law_text.bindsN fun _ _ _ _ _ _ us hl => match us, hl with | [_], _ => rfl
  have hd_b_law_text_1 : Vals [] [] := .nil
  have hD_b_law_text_1 : ∀ (W : Wd) (H : Hp), RVs K W H [] [] := fun _ _ => .nil
  refine ⟨fd, FD, fn_ok (ga := He.ga K) (t := p_law_bad_site) FD sc_law_bad_site (fun cdv A outer s H E hr hgd => ?_) conf_law_bad_site⟩
  have hu := hr.units
  have hr_1 : Room 1 _ := hr.mono (by decide : 1 ≤ 1)
  exact (wss_cons (ws_par2 (ps_par (i := 2) (j := 3) rfl sc_law_bad_site.nd rfl rfl (by decide) rfl rfl (wa_cons (we_ix ix_U (we_var (pv 1)) we_int (fun _ _ => rfl)) (wa_cons (we_ix ix_U (we_var (pv 1)) we_int (fun _ _ => rfl)) wa_nil)) (by rfl)))
    (wss_cons (ws_set (ps_set (i := 4) sc_law_bad_site.nd rfl (by first | exact Or.inl rfl | exact Or.inr rfl) (we_ix ix_U (we_lst (wa_cons we_non (wa_cons we_bl (wa_cons we_bl (wa_cons we_str (wa_cons (we_tup (wa_cons we_int wa_nil)) (wa_cons (we_lst (wa_cons we_int wa_nil)) (wa_cons we_str (wa_cons (we_neg we_int) (wa_cons (we_neg (we_bin op_powU we_int we_int)) (wa_cons (we_tup wa_nil) wa_nil))))))))))) (we_call (n := 2) (D := []) (F_law_draw.mono (by decide)) hr_1 hgd rfl mg_law_draw FD_law_draw.kp b_law_draw_2 hd_b_law_draw_2 hD_b_law_draw_2 (takes_of rfl rfl rfl rfl) (wa_cons (we_var (pv 0)) (wa_cons we_int wa_nil))) (fun _ _ => rfl))))
    (wss_cons (ws_par2 (ps_par (i := 5) (j := 6) rfl sc_law_bad_site.nd rfl rfl (by decide) rfl rfl (wa_cons (we_ix ix_U (we_lst (wa_cons we_int (wa_cons we_int (wa_cons we_int (wa_cons we_int (wa_cons we_int wa_nil)))))) (we_call (n := 2) (D := []) (F_law_draw.mono (by decide)) hr_1 hgd rfl mg_law_draw FD_law_draw.kp b_law_draw_2 hd_b_law_draw_2 hD_b_law_draw_2 (takes_of rfl rfl rfl rfl) (wa_cons (we_var (pv 0)) (wa_cons we_int wa_nil))) (fun _ _ => rfl)) (wa_cons (we_call (n := 2) (D := []) (F_law_draw.mono (by decide)) hr_1 hgd rfl mg_law_draw FD_law_draw.kp b_law_draw_2 hd_b_law_draw_2 hD_b_law_draw_2 (takes_of rfl rfl rfl rfl) (wa_cons (we_var (pv 0)) (wa_cons we_int wa_nil))) wa_nil)) (by rfl)))
    (wss_cons (ws_set (ps_set (i := 7) sc_law_bad_site.nd rfl (by first | exact Or.inl rfl | exact Or.inr rfl) (we_ix ix_U (we_lst (wa_cons we_int (wa_cons we_int (wa_cons we_non (wa_cons we_str (wa_cons (we_lst (wa_cons we_bl wa_nil)) wa_nil)))))) (we_call (n := 2) (D := []) (F_law_draw.mono (by decide)) hr_1 hgd rfl mg_law_draw FD_law_draw.kp b_law_draw_2 hd_b_law_draw_2 hD_b_law_draw_2 (takes_of rfl rfl rfl rfl) (wa_cons (we_var (pv 0)) (wa_cons we_int wa_nil))) (fun _ _ => rfl))))
    (wss_cons (ws_set (ps_set (i := 8) sc_law_bad_site.nd rfl (by first | exact Or.inl rfl | exact Or.inr rfl) (we_lst (wa_cons (we_bin op_addU (we_bin op_addU (we_sl sl_U (we_var (pv 1)) wp_none (wp_some (we_var (pv 5)))) (we_tup (wa_cons (we_var (pv 4)) wa_nil))) (we_sl sl_U (we_var (pv 1)) (wp_some (we_bin op_addU (we_var (pv 5)) we_int)) wp_none)) (wa_cons (we_bin op_addU (we_bin op_addU (we_sl sl_U (we_var (pv 1)) wp_none (wp_some (we_var (pv 5)))) (we_tup (wa_cons (we_var (pv 4)) wa_nil))) (we_sl sl_U (we_var (pv 1)) (wp_some (we_bin op_addU (we_var (pv 5)) we_int)) wp_none)) (wa_cons (we_bin op_addU (we_bin op_addU (we_tup (wa_cons we_int wa_nil)) (we_sl sl_U (we_var (pv 1)) (wp_some we_int) (wp_some we_int))) (we_tup (wa_cons we_int (wa_cons (we_var (pv 3)) wa_nil)))) wa_nil))))))
    (wss_cons (ws_set (ps_set (i := 8) sc_law_bad_site.nd rfl (by first | exact Or.inl rfl | exact Or.inr rfl) (we_bin op_addU (we_var (pv 8)) (we_lst (wa_cons (we_bin op_addU (we_tup (wa_cons (we_var (pv 2)) (wa_cons we_int (wa_cons we_int wa_nil)))) (we_sl sl_U (we_var (pv 1)) (wp_some we_int) wp_none)) (wa_cons (we_bin op_addU (we_tup (wa_cons (we_bin op_addU (we_bin op_addU (we_ix ix_U (we_var (pv 1)) we_int (fun _ _ => rfl)) (we_ix ix_U (we_var (pv 1)) we_int (fun _ _ => rfl))) we_int) wa_nil)) (we_sl sl_U (we_var (pv 1)) (wp_some we_int) wp_none)) (wa_cons (we_callTy call_listU rfl (T.free 23) (by decide +kernel) (wa_cons (we_var (pv 1)) wa_nil)) wa_nil)))))))
    (wss_cons (ws_set (ps_set (i := 8) sc_law_bad_site.nd rfl (by first | exact Or.inl rfl | exact Or.inr rfl) (we_bin op_addU (we_var (pv 8)) (we_lst (wa_cons (we_bin op_addU (we_bin op_addU (we_sl sl_U (we_var (pv 1)) wp_none (wp_some we_int)) (we_tup (wa_cons (we_var (pv 7)) wa_nil))) (we_sl sl_U (we_var (pv 1)) (wp_some we_int) wp_none)) (wa_cons (we_bin op_addU (we_sl sl_U (we_var (pv 1)) wp_none (wp_some we_int)) (we_tup (wa_cons (we_var (pv 2)) (wa_cons (we_var (pv 3)) wa_nil)))) wa_nil))))))
    (wss_cons (ws_set (ps_set (i := 8) sc_law_bad_site.nd rfl (by first | exact Or.inl rfl | exact Or.inr rfl) (we_bin op_addU (we_var (pv 8)) (we_lst (wa_cons (we_bin op_addU (we_sl sl_U (we_var (pv 1)) wp_none (wp_some we_int)) (we_tup (wa_cons we_int wa_nil))) (wa_cons (we_sl sl_U (we_var (pv 1)) wp_none (wp_some we_int)) (wa_cons (we_bin op_addU (we_var (pv 1)) (we_tup (wa_cons we_int wa_nil))) (wa_cons (we_var (pv 4)) (wa_cons (we_call (n := 1) (D := []) (F_law_text.mono (by decide)) hr_1 hgd rfl mg_law_text FD_law_text.kp b_law_text_1 hd_b_law_text_1 hD_b_law_text_1 (takes_of rfl rfl rfl rfl) (wa_cons (we_var (pv 1)) wa_nil)) wa_nil)))))))))
    (wss_one (ws_ret (we_ix ix_U (we_var (pv 8)) (we_var (pv 6)) (fun _ _ => rfl))))))))))))


theorem ok_law_great {P : Program} {w : World} {K : PySem.W.Frag} {mg : Str → Option Value} {base : Heap} (T : Tx fas css fns K mg) : ∃ fd, FunD K "_law_great" "_law_great" (defArgs s_law_great) (defBody s_law_great) (defScope s_law_great) [] [] (He.ga K "_law_great") fd ∧ FnG P w K mg base 2 (He.ga K "_law_great") fd ["bag"] (spF K (He.ga K) 1 sp_law_great) := by
  obtain ⟨fd, FD⟩ := T.def_ 13 (d := d_law_great) rfl
  have FD : FunD K "_law_great" "_law_great" (defArgs s_law_great) (defBody s_law_great) (defScope s_law_great) [] [] (He.ga K "_law_great") fd := FD
  obtain ⟨fd_law_draw, FD_law_draw, F_law_draw⟩ := ok_law_draw (P := P) (w := w) (base := base) T
  have mg_law_draw := T.glo 9 (x := "_law_draw") rfl
  have b_law_draw_2 : L2.Binds K fd_law_draw ["bag", "many"] [] := FD_law_draw.bindsN fun _ _ _ _ _ _ us hl => match us, hl with | [_, _], _ => rfl
  have hd_b_law_draw_2 : Vals [] [] := .nil
  have hD_b_law_draw_2 : ∀ (W : Wd) (H : Hp), RVs K W H [] [] := fun _ _ => .nil
  refine ⟨fd, FD, fn_ok (ga := He.ga K) (t := p_law_great) FD sc_law_great (fun cdv A outer s H E hr hgd => ?_) conf_law_great⟩
  have hu := hr.units
  have hr_1 : Room 1 _ := hr.mono (by decide : 1 ≤ 1)
  exact (wss_cons (ws_set (ps_set (i := 1) sc_law_great.nd rfl (by first | exact Or.inl rfl | exact Or.inr rfl) (we_bin op_addU we_int (we_call (n := 2) (D := []) (F_law_draw.mono (by decide)) hr_1 hgd rfl mg_law_draw FD_law_draw.kp b_law_draw_2 hd_b_law_draw_2 hD_b_law_draw_2 (takes_of rfl rfl rfl rfl) (wa_cons (we_var (pv 0)) (wa_cons (we_ix ix_U (we_lst (wa_cons we_int (wa_cons we_int (wa_cons we_int wa_nil)))) (we_call (n := 2) (D := []) (F_law_draw.mono (by decide)) hr_1 hgd rfl mg_law_draw FD_law_draw.kp b_law_draw_2 hd_b_law_draw_2 hD_b_law_draw_2 (takes_of rfl rfl rfl rfl) (wa_cons (we_var (pv 0)) (wa_cons we_int wa_nil))) (fun _ _ => rfl)) wa_nil))))))
    (wss_cons (ws_set (ps_set (i := 2) sc_law_great.nd rfl (by first | exact Or.inl rfl | exact Or.inr rfl) (we_bin op_addU we_int (we_call (n := 2) (D := []) (F_law_draw.mono (by decide)) hr_1 hgd rfl mg_law_draw FD_law_draw.kp b_law_draw_2 hd_b_law_draw_2 hD_b_law_draw_2 (takes_of rfl rfl rfl rfl) (wa_cons (we_var (pv 0)) (wa_cons (we_ix ix_U (we_lst (wa_cons (we_var (pv 1)) (wa_cons we_int (wa_cons we_int wa_nil)))) (we_call (n := 2) (D := []) (F_law_draw.mono (by decide)) hr_1 hgd rfl mg_law_draw FD_law_draw.kp b_law_draw_2 hd_b_law_draw_2 hD_b_law_draw_2 (takes_of rfl rfl rfl rfl) (wa_cons (we_var (pv 0)) (wa_cons we_int wa_nil))) (fun _ _ => rfl)) wa_nil))))))
    (wss_cons (ws_set (ps_set (i := 3) sc_law_great.nd rfl (by first | exact Or.inl rfl | exact Or.inr rfl) we_int))
    (wss_cons (ws_if (wt_cmp op_ltU (we_var (pv 2)) (we_var (pv 1)) (nomark _)) (wss_one (ws_set (ps_set (i := 3) sc_law_great.nd rfl (by first | exact Or.inl rfl | exact Or.inr rfl) (we_bin op_subU (we_var (pv 1)) (we_var (pv 2)))))) wss_nil)
    (wss_cons (ws_set (ps_set (i := 4) sc_law_great.nd rfl (by first | exact Or.inl rfl | exact Or.inr rfl) (we_bin op_addU (we_var (pv 3)) (we_call (n := 2) (D := []) (F_law_draw.mono (by decide)) hr_1 hgd rfl mg_law_draw FD_law_draw.kp b_law_draw_2 hd_b_law_draw_2 hD_b_law_draw_2 (takes_of rfl rfl rfl rfl) (wa_cons (we_var (pv 0)) (wa_cons (we_ix ix_U (we_lst (wa_cons we_int (wa_cons (we_bin op_subU we_int (we_var (pv 3))) wa_nil))) (we_call (n := 2) (D := []) (F_law_draw.mono (by decide)) hr_1 hgd rfl mg_law_draw FD_law_draw.kp b_law_draw_2 hd_b_law_draw_2 hD_b_law_draw_2 (takes_of rfl rfl rfl rfl) (wa_cons (we_var (pv 0)) (wa_cons we_int wa_nil))) (fun _ _ => rfl)) wa_nil))))))
    (wss_cons (ws_set (ps_set (i := 5) sc_law_great.nd rfl (by first | exact Or.inl rfl | exact Or.inr rfl) (we_ix ix_U (we_lst (wa_cons we_int (wa_cons (we_bin op_subU (we_var (pv 1)) we_int) (wa_cons (we_call (n := 2) (D := []) (F_law_draw.mono (by decide)) hr_1 hgd rfl mg_law_draw FD_law_draw.kp b_law_draw_2 hd_b_law_draw_2 hD_b_law_draw_2 (takes_of rfl rfl rfl rfl) (wa_cons (we_var (pv 0)) (wa_cons (we_var (pv 1)) wa_nil))) wa_nil)))) (we_call (n := 2) (D := []) (F_law_draw.mono (by decide)) hr_1 hgd rfl mg_law_draw FD_law_draw.kp b_law_draw_2 hd_b_law_draw_2 hD_b_law_draw_2 (takes_of rfl rfl rfl rfl) (wa_cons (we_var (pv 0)) (wa_cons we_int wa_nil))) (fun _ _ => rfl))))
    (wss_cons (ws_set (ps_set (i := 6) sc_law_great.nd rfl (by first | exact Or.inl rfl | exact Or.inr rfl) (we_ix ix_U (we_lst (wa_cons we_int (wa_cons we_int (wa_cons (we_bin op_addU we_int (we_call (n := 2) (D := []) (F_law_draw.mono (by decide)) hr_1 hgd rfl mg_law_draw FD_law_draw.kp b_law_draw_2 hd_b_law_draw_2 hD_b_law_draw_2 (takes_of rfl rfl rfl rfl) (wa_cons (we_var (pv 0)) (wa_cons we_int wa_nil)))) wa_nil)))) (we_call (n := 2) (D := []) (F_law_draw.mono (by decide)) hr_1 hgd rfl mg_law_draw FD_law_draw.kp b_law_draw_2 hd_b_law_draw_2 hD_b_law_draw_2 (takes_of rfl rfl rfl rfl) (wa_cons (we_var (pv 0)) (wa_cons we_int wa_nil))) (fun _ _ => rfl))))
    (wss_one (ws_ret (we_tup (wa_cons (we_var (pv 1)) (wa_cons (we_var (pv 2)) (wa_cons (we_var (pv 4)) (wa_cons (we_cmp (op_eqU hu) (we_call (n := 2) (D := []) (F_law_draw.mono (by decide)) hr_1 hgd rfl mg_law_draw FD_law_draw.kp b_law_draw_2 hd_b_law_draw_2 hD_b_law_draw_2 (takes_of rfl rfl rfl rfl) (wa_cons (we_var (pv 0)) (wa_cons we_int wa_nil))) we_int (nomark _)) (wa_cons (we_var (pv 5)) (wa_cons (we_var (pv 6)) wa_nil))))))))))))))))


theorem ok_law_refuses {P : Program} {w : World} {K : PySem.W.Frag} {mg : Str → Option Value} {base : Heap} (T : Tx fas css fns K mg) : ∃ fd, FunD K "_law_refuses" "_law_refuses" (defArgs s_law_refuses) (defBody s_law_refuses) (defScope s_law_refuses) [] [] (He.ga K "_law_refuses") fd ∧ FnG P w K mg base 6 (He.ga K "_law_refuses") fd ["value"] (spF K (He.ga K) 1 sp_law_refuses) := by
  obtain ⟨fd, FD⟩ := T.def_ 14 (d := d_law_refuses) rfl
  have FD : FunD K "_law_refuses" "_law_refuses" (defArgs s_law_refuses) (defBody s_law_refuses) (defScope s_law_refuses) [] [] (He.ga K "_law_refuses") fd := FD
  obtain ⟨fd_write_layout, FD_write_layout, F_write_layout⟩ := ok_write_layout (P := P) (w := w) (base := base) T
  have mg_write_layout := T.glo 4 (x := "write_layout") rfl
  have b_write_layout_1 : L2.Binds K fd_write_layout ["layout"] [] := FD_write_layout.bindsN fun _ _ _ _ _ _ us hl => match us, hl with | [_], _ => rfl
  have hd_b_write_layout_1 : Vals [] [] := .nil
  have hD_b_write_layout_1 : ∀ (W : Wd) (H : Hp), RVs K W H [] [] := fun _ _ => .nil
  have el_InvalidLayout := T.ecl 3 (x := "InvalidLayout") rfl
  have el_SlotError := T.ecl 4 (x := "SlotError") rfl
  refine ⟨fd, FD, fn_ok (ga := He.ga K) (t := p_law_refuses) FD sc_law_refuses (fun cdv A outer s H E hr hgd => ?_) conf_law_refuses⟩
  have hu := hr.units
  have hr_5 : Room 5 _ := hr.mono (by decide : 5 ≤ 5)
  exact (wss_cons (ws_set (ps_set (i := 1) sc_law_refuses.nd rfl (by first | exact Or.inl rfl | exact Or.inr rfl) we_non))
    (wss_cons (ws_try (i := 2) (j := 1) (by intro x hx; simp only [List.mem_cons, List.not_mem_nil, or_false] at hx; rcases hx with rfl <;> first | exact el_InvalidLayout.1) rfl rfl rfl rfl rfl sc_law_refuses.nd rfl rfl ⟨rfl, by decide, .inl el_SlotError.2⟩ (takes_of rfl rfl rfl rfl) (fun W pn xe tk _ => (wss_one (ws_expr (we_call (n := 1) (D := []) (F_write_layout.mono (by decide)) hr_5 hgd rfl mg_write_layout FD_write_layout.kp b_write_layout_1 hd_b_write_layout_1 hD_b_write_layout_1 tk (wa_cons (we_var (pv 0)) wa_nil))))) (fun a oe cls d pn => pss_one (ps_set (i := 1) sc_law_refuses.nd rfl (by first | exact Or.inl rfl | exact Or.inr rfl) (pv 2))))
    (wss_one (ws_ret (we_callB call_iseU rfl (T.free 17) (by decide +kernel) (wa_cons (we_var (pv 1)) (wa_cons (we_ecl el_InvalidLayout rfl) wa_nil)))))))


theorem ok_law {P : Program} {w : World} {K : PySem.W.Frag} {mg : Str → Option Value} {base : Heap} (T : Tx fas css fns K mg) : ∃ fd, FunD K "law" "law" (defArgs s_law) (defBody s_law) (defScope s_law) [] [] (He.ga K "law") fd ∧ FnG P w K mg base 7 (He.ga K "law") fd ["script"] (spF K (He.ga K) 1 sp_law) := by
  obtain ⟨fd, FD⟩ := T.def_ 15 (d := d_law) rfl
  have FD : FunD K "law" "law" (defArgs s_law) (defBody s_law) (defScope s_law) [] [] (He.ga K "law") fd := FD
  obtain ⟨fd_law_bad_site, FD_law_bad_site, F_law_bad_site⟩ := ok_law_bad_site (P := P) (w := w) (base := base) T
  have mg_law_bad_site := T.glo 12 (x := "_law_bad_site") rfl
  have b_law_bad_site_2 : L2.Binds K fd_law_bad_site ["bag", "site"] [] := FD_law_bad_site.bindsN fun _ _ _ _ _ _ us hl => match us, hl with | [_, _], _ => rfl
  have hd_b_law_bad_site_2 : Vals [] [] := .nil
  have hD_b_law_bad_site_2 : ∀ (W : Wd) (H : Hp), RVs K W H [] [] := fun _ _ => .nil
  obtain ⟨fd_law_bag, FD_law_bag, F_law_bag⟩ := ok_law_bag (P := P) (w := w) (base := base) T
  have mg_law_bag := T.glo 8 (x := "_law_bag") rfl
  have b_law_bag_1 : L2.Binds K fd_law_bag ["cell"] [] := FD_law_bag.bindsN fun _ _ _ _ _ _ us hl => match us, hl with | [_], _ => rfl
  have hd_b_law_bag_1 : Vals [] [] := .nil
  have hD_b_law_bag_1 : ∀ (W : Wd) (H : Hp), RVs K W H [] [] := fun _ _ => .nil
  obtain ⟨fd_law_great, FD_law_great, F_law_great⟩ := ok_law_great (P := P) (w := w) (base := base) T
  have mg_law_great := T.glo 13 (x := "_law_great") rfl
  have b_law_great_1 : L2.Binds K fd_law_great ["bag"] [] := FD_law_great.bindsN fun _ _ _ _ _ _ us hl => match us, hl with | [_], _ => rfl
  have hd_b_law_great_1 : Vals [] [] := .nil
  have hD_b_law_great_1 : ∀ (W : Wd) (H : Hp), RVs K W H [] [] := fun _ _ => .nil
  obtain ⟨fd_law_refuses, FD_law_refuses, F_law_refuses⟩ := ok_law_refuses (P := P) (w := w) (base := base) T
  have mg_law_refuses := T.glo 14 (x := "_law_refuses") rfl
  have b_law_refuses_1 : L2.Binds K fd_law_refuses ["value"] [] := FD_law_refuses.bindsN fun _ _ _ _ _ _ us hl => match us, hl with | [_], _ => rfl
  have hd_b_law_refuses_1 : Vals [] [] := .nil
  have hD_b_law_refuses_1 : ∀ (W : Wd) (H : Hp), RVs K W H [] [] := fun _ _ => .nil
  obtain ⟨fd_law_site, FD_law_site, F_law_site⟩ := ok_law_site (P := P) (w := w) (base := base) T
  have mg_law_site := T.glo 10 (x := "_law_site") rfl
  have b_law_site_1 : L2.Binds K fd_law_site ["bag"] [] := FD_law_site.bindsN fun _ _ _ _ _ _ us hl => match us, hl with | [_], _ => rfl
  have hd_b_law_site_1 : Vals [] [] := .nil
  have hD_b_law_site_1 : ∀ (W : Wd) (H : Hp), RVs K W H [] [] := fun _ _ => .nil
  obtain ⟨fd_law_text, FD_law_text, F_law_text⟩ := ok_law_text (P := P) (w := w) (base := base) T
  have mg_law_text := T.glo 11 (x := "_law_text") rfl
  have b_law_text_1 : L2.Binds K fd_law_text ["site"] [] := FD_law_text.bindsN fun _ _ _ _ _ _ us hl => match us, hl with | [_], _ => rfl
  have hd_b_law_text_1 : Vals [] [] := .nil
  have hD_b_law_text_1 : ∀ (W : Wd) (H : Hp), RVs K W H [] [] := fun _ _ => .nil
  obtain ⟨fd_read_layout, FD_read_layout, F_read_layout⟩ := ok_read_layout (P := P) (w := w) (base := base) T
  have mg_read_layout := T.glo 7 (x := "read_layout") rfl
  have k_read_layout_0_words : KBn K fd_read_layout ["words"] 0 ["words"] (fun us ws => [ws.getD 0 .none]) (fun us ws => [ws.getD 0 .non]) := by
    obtain ⟨oc, od, dV, kV, doc, pm, an, cdv, ct, osl, e, lk, hcd, hD, _⟩ := FD_read_layout.ex
    rcases hD with ⟨_, z⟩ | ⟨z, _⟩
    · subst e z
      refine ⟨fun s us ws _ l1 l2 => ?_, fun r1 r2 => ?_⟩
      · match us, ws, l1, l2 with
        | [], [w0], _, _ => exact .of_eq rfl
      · exact .cons (vals_getD r2 0) (.nil)
    · exact absurd rfl z
  have k_read_layout_0_words_U : ∀ {W : Wd} {H : Hp} {us ws : List U} {vs zs : List V}, RVs K W H us vs → RVs K W H ws zs → us.length = 0 → ws.length = 1 → RVs K W H ((fun us ws => [ws.getD 0 .non]) us ws) ((fun us ws => [ws.getD 0 .non]) vs zs) := fun r1 r2 _ _ => .cons (rvs_getD r2 0) (.nil)
  have b_read_layout_1 : L2.Binds K fd_read_layout ["words"] [] := FD_read_layout.bindsN fun _ _ _ _ _ _ us hl => match us, hl with | [_], _ => rfl
  have hd_b_read_layout_1 : Vals [] [] := .nil
  have hD_b_read_layout_1 : ∀ (W : Wd) (H : Hp), RVs K W H [] [] := fun _ _ => .nil
  obtain ⟨fd_write_layout, FD_write_layout, F_write_layout⟩ := ok_write_layout (P := P) (w := w) (base := base) T
  have mg_write_layout := T.glo 4 (x := "write_layout") rfl
  have k_write_layout_0_layout : KBn K fd_write_layout ["layout"] 0 ["layout"] (fun us ws => [ws.getD 0 .none]) (fun us ws => [ws.getD 0 .non]) := by
    obtain ⟨oc, od, dV, kV, doc, pm, an, cdv, ct, osl, e, lk, hcd, hD, _⟩ := FD_write_layout.ex
    rcases hD with ⟨_, z⟩ | ⟨z, _⟩
    · subst e z
      refine ⟨fun s us ws _ l1 l2 => ?_, fun r1 r2 => ?_⟩
      · match us, ws, l1, l2 with
        | [], [w0], _, _ => exact .of_eq rfl
      · exact .cons (vals_getD r2 0) (.nil)
    · exact absurd rfl z
  have k_write_layout_0_layout_U : ∀ {W : Wd} {H : Hp} {us ws : List U} {vs zs : List V}, RVs K W H us vs → RVs K W H ws zs → us.length = 0 → ws.length = 1 → RVs K W H ((fun us ws => [ws.getD 0 .non]) us ws) ((fun us ws => [ws.getD 0 .non]) vs zs) := fun r1 r2 _ _ => .cons (rvs_getD r2 0) (.nil)
  have b_write_layout_1 : L2.Binds K fd_write_layout ["layout"] [] := FD_write_layout.bindsN fun _ _ _ _ _ _ us hl => match us, hl with | [_], _ => rfl
  have hd_b_write_layout_1 : Vals [] [] := .nil
  have hD_b_write_layout_1 : ∀ (W : Wd) (H : Hp), RVs K W H [] [] := fun _ _ => .nil
  refine ⟨fd, FD, fn_ok (ga := He.ga K) (t := p_law) FD sc_law (fun cdv A outer s H E hr hgd => ?_) conf_law⟩
  have hu := hr.units
  have hr_1 : Room 6 _ := hr.mono (by decide : 6 ≤ 6)
  have hr_2 : Room 6 _ := hr.mono (by decide : 6 ≤ 6)
  have hr_5 : Room 6 _ := hr.mono (by decide : 6 ≤ 6)
  have hr_6 : Room 6 _ := hr.mono (by decide : 6 ≤ 6)
  exact (wss_cons (ws_for (passes_of rfl) rfl (wi_any rfl (we_bin op_addU (we_lst (wa_cons we_int wa_nil)) (we_sl sl_U (we_var (pv 0)) wp_none (wp_some we_int)))) (wg_name (pg_name (i := 1) sc_law.nd rfl (by first | exact Or.inl rfl | exact Or.inr rfl))) (wss_cons (ws_setR (ps_set (i := 2) sc_law.nd rfl (by first | exact Or.inl rfl | exact Or.inr rfl) (we_call (n := 1) (D := []) (F_law_bag.mono (by decide)) hr_1 hgd rfl mg_law_bag FD_law_bag.kp b_law_bag_1 hd_b_law_bag_1 hD_b_law_bag_1 (takes_of rfl rfl rfl rfl) (wa_cons (we_var (pv 1)) wa_nil))))
    (wss_cons (ws_par2 (ps_par (i := 3) (j := 4) rfl sc_law.nd rfl rfl (by decide) rfl rfl (wa_cons (we_call (n := 1) (D := []) (F_law_site.mono (by decide)) hr_2 hgd rfl mg_law_site FD_law_site.kp b_law_site_1 hd_b_law_site_1 hD_b_law_site_1 (takes_of rfl rfl rfl rfl) (wa_cons (we_var (pv 2)) wa_nil)) (wa_cons (we_call (n := 1) (D := []) (F_law_site.mono (by decide)) hr_2 hgd rfl mg_law_site FD_law_site.kp b_law_site_1 hd_b_law_site_1 hD_b_law_site_1 (takes_of rfl rfl rfl rfl) (wa_cons (we_var (pv 2)) wa_nil)) wa_nil)) (by rfl)))
    (wss_cons (ws_set (ps_set (i := 5) sc_law.nd rfl (by first | exact Or.inl rfl | exact Or.inr rfl) (we_lst (wa_cons (we_call (n := 1) (D := []) (F_law_text.mono (by decide)) hr_1 hgd rfl mg_law_text FD_law_text.kp b_law_text_1 hd_b_law_text_1 hD_b_law_text_1 (takes_of rfl rfl rfl rfl) (wa_cons (we_var (pv 3)) wa_nil)) (wa_cons (we_call (n := 1) (D := []) (F_law_text.mono (by decide)) hr_1 hgd rfl mg_law_text FD_law_text.kp b_law_text_1 hd_b_law_text_1 hD_b_law_text_1 (takes_of rfl rfl rfl rfl) (wa_cons (we_var (pv 4)) wa_nil)) wa_nil)))))
    (wss_cons (ws_if (wt_cmp (op_neU hu) (we_callB (call_reprU hgd hu) rfl (T.free 24) (by decide +kernel) (wa_cons (we_lst (wa_cons (we_call (n := 1) (D := []) (F_write_layout.mono (by decide)) hr_5 hgd rfl mg_write_layout FD_write_layout.kp b_write_layout_1 hd_b_write_layout_1 hD_b_write_layout_1 (takes_of rfl rfl rfl rfl) (wa_cons (we_var (pv 3)) wa_nil)) (wa_cons (we_callK0 (F_write_layout.mono (by decide)) hr_5 hgd rfl mg_write_layout FD_write_layout.kp k_write_layout_0_layout k_write_layout_0_layout_U rfl (takes_of rfl rfl rfl rfl) (wk_cons (we_var (pv 4)) wk_nil)) wa_nil))) wa_nil)) (we_callB (call_reprU hgd hu) rfl (T.free 24) (by decide +kernel) (wa_cons (we_var (pv 5)) wa_nil)) (nomark _)) (wss_one (ws_ret we_bl)) wss_nil)
    (wss_cons (ws_if (wt_cmp (op_neU hu) (we_callB (call_reprU hgd hu) rfl (T.free 24) (by decide +kernel) (wa_cons (we_lst (wa_cons (we_call (n := 1) (D := []) (F_read_layout.mono (by decide)) hr_2 hgd rfl mg_read_layout FD_read_layout.kp b_read_layout_1 hd_b_read_layout_1 hD_b_read_layout_1 (takes_of rfl rfl rfl rfl) (wa_cons (we_ix ix_U (we_var (pv 5)) we_int (fun _ _ => rfl)) wa_nil)) (wa_cons (we_callK0 (F_read_layout.mono (by decide)) hr_2 hgd rfl mg_read_layout FD_read_layout.kp k_read_layout_0_words k_read_layout_0_words_U rfl (takes_of rfl rfl rfl rfl) (wk_cons (we_ix ix_U (we_var (pv 5)) we_int (fun _ _ => rfl)) wk_nil)) wa_nil))) wa_nil)) (we_callB (call_reprU hgd hu) rfl (T.free 24) (by decide +kernel) (wa_cons (we_lst (wa_cons (we_var (pv 3)) (wa_cons (we_var (pv 4)) wa_nil))) wa_nil)) (nomark _)) (wss_one (ws_ret we_bl)) wss_nil)
    (wss_cons (ws_set (ps_set (i := 6) sc_law.nd rfl (by first | exact Or.inl rfl | exact Or.inr rfl) (we_call (n := 1) (D := []) (F_law_great.mono (by decide)) hr_2 hgd rfl mg_law_great FD_law_great.kp b_law_great_1 hd_b_law_great_1 hD_b_law_great_1 (takes_of rfl rfl rfl rfl) (wa_cons (we_var (pv 2)) wa_nil))))
    (wss_cons (ws_set (ps_set (i := 7) sc_law.nd rfl (by first | exact Or.inl rfl | exact Or.inr rfl) (we_call (n := 1) (D := []) (F_read_layout.mono (by decide)) hr_2 hgd rfl mg_read_layout FD_read_layout.kp b_read_layout_1 hd_b_read_layout_1 hD_b_read_layout_1 (takes_of rfl rfl rfl rfl) (wa_cons (we_call (n := 1) (D := []) (F_law_text.mono (by decide)) hr_1 hgd rfl mg_law_text FD_law_text.kp b_law_text_1 hd_b_law_text_1 hD_b_law_text_1 (takes_of rfl rfl rfl rfl) (wa_cons (we_var (pv 6)) wa_nil)) wa_nil))))
    (wss_cons (ws_if (wt_cmp (op_neU hu) (we_callB (call_reprU hgd hu) rfl (T.free 24) (by decide +kernel) (wa_cons (we_lst (wa_cons (we_var (pv 7)) (wa_cons (we_call (n := 1) (D := []) (F_write_layout.mono (by decide)) hr_5 hgd rfl mg_write_layout FD_write_layout.kp b_write_layout_1 hd_b_write_layout_1 hD_b_write_layout_1 (takes_of rfl rfl rfl rfl) (wa_cons (we_var (pv 7)) wa_nil)) wa_nil))) wa_nil)) (we_callB (call_reprU hgd hu) rfl (T.free 24) (by decide +kernel) (wa_cons (we_lst (wa_cons (we_var (pv 6)) (wa_cons (we_call (n := 1) (D := []) (F_law_text.mono (by decide)) hr_1 hgd rfl mg_law_text FD_law_text.kp b_law_text_1 hd_b_law_text_1 hD_b_law_text_1 (takes_of rfl rfl rfl rfl) (wa_cons (we_var (pv 6)) wa_nil)) wa_nil))) wa_nil)) (nomark _)) (wss_one (ws_ret we_bl)) wss_nil)
    (wss_one (ws_if (wt_not (wt_val (we_call (n := 1) (D := []) (F_law_refuses.mono (by decide)) hr_6 hgd rfl mg_law_refuses FD_law_refuses.kp b_law_refuses_1 hd_b_law_refuses_1 hD_b_law_refuses_1 (takes_of rfl rfl rfl rfl) (wa_cons (we_call (n := 2) (D := []) (F_law_bad_site.mono (by decide)) hr_2 hgd rfl mg_law_bad_site FD_law_bad_site.kp b_law_bad_site_2 hd_b_law_bad_site_2 hD_b_law_bad_site_2 (takes_of rfl rfl rfl rfl) (wa_cons (we_var (pv 2)) (wa_cons (we_var (pv 3)) wa_nil))) wa_nil)))) (wss_one (ws_ret we_bl)) wss_nil)))))))))))
    (wss_one (ws_ret we_bl)))

theorem law_true (ns : List Int) (hl : ns.length ≤ 63) (hb : ∀ z ∈ ns, Builtin.Int.intBits z ≤ 1048576) : sp_law [.scr ns] [] (fun sv _ => sv = .val (.bl true)) fun _ _ => False := fun _ => rfl

theorem fd_uniq {K : PySem.W.Frag} {x qual : Str} {params : Arguments} {body : List Stmt} {scope : Scope} {dvs : List V} {kws : List (Str × V)} {f : Addr} {fd fd' : FuncData} (a : FunD K x qual params body scope dvs kws f fd) (b : FunD K x qual params body scope dvs kws f fd') : fd = fd' := by
  obtain ⟨_, _, _, _, _, _, _, _, _, _, _, e, _⟩ := a.ex
  obtain ⟨_, _, _, _, _, _, _, _, _, _, _, e', _⟩ := b.ex
  rw [e] at e'
  cases e'
  rfl
def looseS : List String := ["SlotError", "InvalidLayout", "InvalidWords", "is_whole", "has_measures", "is_layout", "need_layout", "DIGITS", "MOST_DIGITS", "LAYOUT_WORDS", "read_number", "write_layout", "number_fits", "read_layout", "_law_bag", "_law_draw", "_law_site", "_law_text", "_law_bad_site", "_law_great", "_law_refuses"]
abbrev Rw : PySem.W.OpenRow := PySem.W.OpenLaw.row PySem.Challenge.rw_lentslots_k66_layouts_written
abbrev hk : PySem.W.Hook := hookV 4 fas css fns
def ob (s : PySem.W.SharedT) : He.AlD := obsVG 4 fas css fns (HandSHeadRun.getT s)
theorem ob_eq (s : PySem.W.SharedT) : ob s = hk.obs s.abs := obsVG_eq (HandSHeadRun.getT_eq s)
def looseL : List PySem.Str := looseS.map PySem.Str.ofString
theorem run (w : World) : HandSHeadRun.RunEq Rw (PySem.W.view Rw.prog [25]) hk ob 20000 looseL w := by
  intro os
  kernel_rfl
theorem facts {P : Program} {w : World} {K : PySem.W.Frag} {h : Heap} {mg : Str → Option Value} {f : Addr} (X : K.In h) (G : h.Ns mainGlobals mg) (hfa : mg ("law" : Str) = some (.ref f)) (c : SaysV fas css fns K) :
    ∃ fd : FuncData, (∀ (s : Shared) (v : Value), BindsTo s fd ⟨[v], []⟩ [("script", v)]) ∧ ∀ base : Heap, K.In base → base.Ns mainGlobals mg → FnG P w K mg base 7 f fd ["script"] (spF K (He.ga K) 1 sp_law) := by
  have T : Tx fas css fns K mg := ⟨c, h, X, G⟩
  obtain ⟨fd, F, _⟩ := ok_law (P := P) (w := w) (base := h) T
  have e := hfa.symm.trans (T.glo 15 (x := "law") rfl)
  cases e
  have b := FunD.bindsA (ps := ["script"]) F fun _ _ _ _ _ _ us hl => match us, hl with | [_], _ => rfl
  refine ⟨fd, fun s v => b s [v] rfl, fun base _ _ => ?_⟩
  obtain ⟨fd', F', H⟩ := ok_law (P := P) (w := w) (base := base) T
  cases fd_uniq F F'
  exact H
end Vi.Law
open PySem PySem.W PySem.Calls PyProof.Rows
theorem PySem.Challenge.cw_lentslots_k66_layouts_written_holds : PySem.Challenge.rw_lentslots_k66_layouts_written.Holds := by
  w_on; o_law
  refine HandSHeadRun.head_any (r := OpenLaw.row PySem.Challenge.rw_lentslots_k66_layouts_written) (q := view (OpenLaw.row PySem.Challenge.rw_lentslots_k66_layouts_written).prog [25]) (H := Vi.Law.hk) (ob := Vi.Law.ob) (M := 20000) (loose := Vi.Law.looseL) (d := HandSHeadRun.topDef (OpenLaw.row PySem.Challenge.rw_lentslots_k66_layouts_written).prog 25) (kwd := []) Vi.Law.ob_eq
    (by kernel_rfl) (fun s => by kernel_rfl) Vi.Law.run (by kernel_rfl) (by kernel_rfl) (by kernel_rfl) (by rfl) (by first | assumption | decide +kernel) (by decide +kernel) ⟨rfl, rfl, rfl, rfl, rfl, by decide +kernel⟩ ?hw ?hc
  case hw => w_witness2
  case hc =>
    refine Vi.law_end (l := PySem.Challenge.rw_lentslots_k66_layouts_written) (k := 7) (x := "script") rfl (by kernel_rfl) ⟨rfl, by decide, by decide⟩ ?F
    intro w mg fa h Y G hmg0
    obtain ⟨K, KX, c⟩ := Y
    have hmg : mg ("law" : PySem.Str) = some (.ref fa) := by
      have e : (HandSHeadRun.topDef (OpenLaw.row PySem.Challenge.rw_lentslots_k66_layouts_written).prog 25).name = ("law" : PySem.Str) := by kernel_rfl
      rw [← e]
      exact hmg0
    obtain ⟨fd, hb, hF⟩ := Vi.Law.facts (P := (PySem.Challenge.rw_lentslots_k66_layouts_written).prog) (w := w) KX G hmg c
    exact ⟨K, fd, He.ga K, Vi.Law.sp_law, KX, hb, Vi.Law.law_true, hF⟩
