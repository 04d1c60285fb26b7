import PyProof.Rows.All
import KE.KExcStr
import PyProof.ReprReads
import PyProof.StrHeap
import PyProof.ExcReprCall
import KE.KExcSuper
import HandS.ExcInit
import Wide.All
import OpenK.AllK
import Wide.FinOn
import HandS.ForMost
import HandS.Exc
import HandS.TupAny
import HandS.TupMul
import HandS.HeadHook1
import HandS.ExcField
import HandS.WordsExc
import HandS.Defaults
import HandS.CallSlots
import HandS.TryOnly
import HandS.ExcOwn
import HandS.Flow
import HandS.Wide
import HandS.ExcIs
import KE.KDictKeyed
import HandS.RaiseMore
import HandS.Comp
import HandS.Iter
import HandS.More
import HandS.Style
import HandS.Ends
import HandS.EndBits
import HandS.HeadEnd
import HandS.Deep
import HandS.Text
import HandS.Head0
import HandS.Head1
import HandS.Head2
import HandS.HeadHook2
import HandS.IsInst
import HandS.FStr
import KE.KDictWalk
import KE.KDictDisplayH
import HandS.NoneIn
import HandS.MakeKwOnly
import KE.KRevSl
import HandS.Strs
import PyProof.StrBlock2
import HandS.SetFor
import HandS.TupSets
import PyProof.SeqIndex
import HandS.TupLe
import PyProof.LongRange
import PySem.Challenge.RW_lentslots_k06_wrong_arguments_of_layouts
set_option Elab.async false
set_option linter.all false
set_option maxRecDepth 100000
set_option maxHeartbeats 8000000
/-! Vx1: repr of an error object of a class of one's own, made with a text; of data with such within. -/
namespace Vi
open PySem PySem.Spec
open Sem (wp)
open Builtin Builtin.Str Builtin.BaseException Builtin.Exceptions
open PySem.W (Looks Frag findIn subIn looks_findIn looks_subIn clsIn looks_clsIn)
/-- what is asked of the class -/
structure RepC (K : Frag) (C : Addr) (x : PySem.Str) : Prop where
  fnd : findIn K (.ref C) "__repr__" = some (some (.builtin "BaseException.__repr__"))
  sub : subIn K (.ref C) (.type "BaseException") = some true
  nam : ∃ cd, clsIn K C = some cd ∧ cd.name = x
/-- the text -/
def errText (x m : PySem.Str) : PySem.Str := excReprHead x.toString ++ "(" ++ reprText m ++ ")"
section
variable {prog : Program} {w : World} {A : Around} {E : Value → Shared → Prop} {s : Shared} {K : Frag} {C e t0 : Addr} {x : PySem.Str}
theorem nameWhole_C (X : ExcC K C e t0 s.heap) (R : RepC K C x) {M : Model} {Q : String → Shared → Prop} (hq : Q x.toString s) : wpAny M A (typeNameOfWhole (.ref e)) Q E s := by
  obtain ⟨cd, hcd, hn⟩ := R.nam
  have hno : (Value.ref C == Value.type "builtin_function_or_method") = false := rfl
  unfold typeNameOfWhole shownTypeOf
  refine wpAny_bind (wpAny_bind (X.LT.here ?_))
  simp only [hno, Bool.false_eq_true, if_false]
  refine wpAny_pure ?_
  unfold typeNameWhole
  refine wpAny_bind ((looks_clsIn X.1 hcd).here ?_)
  exact wpAny_pure (by rw [hn]; exact hq)
theorem reprAt_C (b : Nat) (X : ExcC K C e t0 s.heap) (R : RepC K C x) {m : PySem.Str} {tk : Tok} (ht : s.heap.TupAt t0 [.str m tk]) {Q : Fin → Shared → Prop}
    (hq : ∀ u t', Q (.done (.ret (.str (errText x m) u))) { s with toks := t' }) (hsz : b + (errText x m).length ≤ sizeLine) :
    wpAny (model prog w) A (Builtin.bexcReprAt b ⟨[.ref e], []⟩) Q E s := by
  have e1 : b + (PySem.Str.ofString ((x.toString.cutAt '.').getLastD "") ++ PySem.Str.ofString "(" ++ reprText m ++ PySem.Str.ofString ")").length ≤ sizeLine := hsz
  have hsz2 : (PySem.Str.ofString ((x.toString.cutAt '.').getLastD "") ++ PySem.Str.ofString "(" ++ reprText m ++ PySem.Str.ofString ")").length ≤ sizeLine := Nat.le_trans (Nat.le_add_left _ b) e1
  have eP : (PySem.Str.ofString "(").length = 1 := by rw [ofString_length]; rfl
  rw [strLen_append, strLen_append, strLen_append, eP] at e1
  have hsz1 : (reprText m).length ≤ sizeLine := by omega
  have hpile : b + ((PySem.Str.ofString ((x.toString.cutAt '.').getLastD "")).length + 1) ≤ sizeLine := by omega
  unfold Builtin.bexcReprAt
  repeat (first | with_reducible refine nameWhole_C X R ?_ | with_reducible refine bexcArgs_C X ht ?_ | rw [pyReprUnder_leaf (v := .str m tk) hpile (by intro a; nofun)] | with_reducible refine wpAny_pyRepr_str ?_ | wp_step)
  exact hq _ _
theorem call_repr_C (X : ExcC K C e t0 s.heap) (R : RepC K C x) {m : PySem.Str} {tk : Tok} (ht : s.heap.TupAt t0 [.str m tk]) {Q : Value → Shared → Prop}
    (hq : ∀ u t', Q (.str (errText x m) u) { s with toks := t' }) (hsz : (errText x m).length ≤ sizeLine) : wpAny (model prog w) A (call (.builtin "BaseException.__repr__") [.ref e]) Q E s := by
  refine wpAny_call (codeAny_call_builtin F.excStr_Exception.repr.plain F.entry_bexc_repr (@PySem.W.check_slot (model prog w) _ _ s "BaseException.__repr__" "BaseException" "__repr__" (.ref e) [] [] _ (by decide +kernel) (by decide +kernel) (X.LI R.sub) (F.args_bexc_repr _) ?_))
  exact reprAt_C 0 X R ht (fun u t' => hq u t') (by rw [Nat.zero_add]; exact hsz)
theorem call_repr_under_C (X : ExcC K C e t0 s.heap) (R : RepC K C x) {m : PySem.Str} {tk : Tok} (ht : s.heap.TupAt t0 [.str m tk]) {b : Nat} {Q : Value → Shared → Prop}
    (hq : ∀ u t', Q (.str (errText x m) u) { s with toks := t' }) (hsz : b + (errText x m).length ≤ sizeLine) : wpAny (model prog w) A (call (.builtin "BaseException.__repr__.under") [.ref e, rawInt b]) Q E s := by
  refine wpAny_call (codeAny_call_builtin F.plain_bexc_repr_under F.entry_bexc_repr_under ?_)
  rw [F.check_bexc_repr_under]
  refine wpAny_pure ?_
  show wpAny _ _ (reprTwin _ _ _) _ _ _
  rw [reprTwin_eq]
  refine wpAny_bind (@PySem.W.check_slot (model prog w) _ _ s "BaseException.__repr__" "BaseException" "__repr__" (.ref e) [] [] _ (by decide +kernel) (by decide +kernel) (X.LI R.sub) (F.args_bexc_repr _) ?_)
  exact reprAt_C b X R ht (fun u t' => hq u t') hsz
theorem bindBy_C (X : ExcC K C e t0 s.heap) (R : RepC K C x) {last : Value → List Value → Sem Value} {Q : Option Value → Shared → Prop}
    (hc : wpAny (model prog w) A (last (.builtin "BaseException.__repr__") [.ref e]) (fun v => Q (some v)) E s) : wpAny (model prog w) A (callSpecialIfBoundBy? last (.ref e) (PySem.Str.ofString "__repr__")) Q E s := by
  have hf : Looks (model prog w) s.heap (typeLookup (.ref C) (PySem.Str.ofString "__repr__")) (some (.builtin "BaseException.__repr__")) := looks_findIn X.1 R.fnd
  simp only [callSpecialIfBoundBy?, bindSpecialIfBound?]
  refine wpAny_holding (wpAny_bind (wpAny_bind ?_))
  unfold specialOf
  refine wpAny_bind (X.LT.here (hf.here ?_))
  simp only [F.excStr_Exception.repr.bind]
  refine wpAny_bind (wpAny_askSetting (wpAny_ite ?_))
  have fin : wpAny (model prog w) A (last (.builtin "BaseException.__repr__") [.ref e] >>= fun v => pure (some v)) Q E s :=
    wpAny_bind (wpAny_mono hc (fun v s' h' => wpAny_pure h') fun _ _ h' => h')
  split
  · exact wpAny_bind (wpAny_pure (wpAny_pure fin))
  · exact wpAny_tryCatch (wpAny_bind (wpAny_pure (wpAny_pure fin)))
theorem spec_C (X : ExcC K C e t0 s.heap) (R : RepC K C x) {Q : Option Value → Shared → Prop} (hq : Q (some (.builtin "BaseException.__repr__")) s) : wpAny (model prog w) A (specialOf (.ref e) (PySem.Str.ofString "__repr__")) Q E s := by
  have hf : Looks (model prog w) s.heap (typeLookup (.ref C) (PySem.Str.ofString "__repr__")) (some (.builtin "BaseException.__repr__")) := looks_findIn X.1 R.fnd
  unfold specialOf
  exact wpAny_bind (X.LT.here (hf.here hq))
theorem reprObjUnder_C (X : ExcC K C e t0 s.heap) (R : RepC K C x) {m : PySem.Str} {tk : Tok} (ht : s.heap.TupAt t0 [.str m tk]) {b : Nat} (hu : A.units < cLine) {Q : Value → Shared → Prop}
    (hq : ∀ u t', Q (.str (errText x m) u) { s with toks := t' }) (hsz : b + (errText x m).length ≤ sizeLine) : wpAny (model prog w) A (pyReprObjUnder b (.ref e)) Q E s := by
  unfold pyReprObjUnder pyReprObjBy
  refine wpAny_bind (wpAny_cRoomFor hu ?_)
  refine wpAny_bind (spec_C X R ?_)
  refine wpAny_bind (bindBy_C X R ?_)
  have htw : reprUnder? (.builtin "BaseException.__repr__") = some (.builtin "BaseException.__repr__.under") := rfl
  simp only [htw]
  refine call_repr_under_C X R ht (fun u t' => ?_) hsz
  exact wpAny_bind (wpAny_isInstance (T := "str") (b := true) rfl isSubtype_str_str (wpAny_pure (hq _ _)))
/-- repr(e) -/
theorem repr_C (X : ExcC K C e t0 s.heap) (R : RepC K C x) {m : PySem.Str} {tk : Tok} (ht : s.heap.TupAt t0 [.str m tk]) (hu : A.units + 1 < cLine) {Q : Value → Shared → Prop}
    (hq : ∀ u t', Q (.str (errText x m) u) { s with toks := t' }) (hsz : (errText x m).length ≤ sizeLine) : wpAny (model prog w) A (call (.builtin "repr") [.ref e]) Q E s := by
  refine Calls.call_function_entry F.kind_repr F.plain_repr F.entry_repr (F.args_repr1 _) ?_
  unfold Builtin.«repr»
  refine wpAny_bind (m := oneArg "repr" _) (wpAny_pure ?_)
  refine wpAny_bind (m := cRoomFor _ _) (wpAny_cRoomFor (by show A.units + 1 < cLine; exact hu) ?_)
  refine wpAny_bind (spec_C X R ?_)
  have hb := fun (Q : Option Value → Shared → Prop) hc => bindBy_C (prog := prog) (w := w) (A := A.in1) (E := E) (Q := Q) X R (last := fun g first => call g (first ++ [])) hc
  refine wpAny_bind (m := callSpecialIfBound? (.ref e) (PySem.Str.ofString "__repr__")) (hb _ (call_repr_C X R ht (fun u t' => ?_) hsz))
  refine wpAny_bind (wpAny_isInstance (T := "str") (b := true) rfl isSubtype_str_str ?_)
  exact wpAny_pure ⟨_, rfl, hq _ _⟩
end
end Vi

/-! Vx2: data with error objects within, as they lie in a heap, and their repr. -/
namespace Vi
open PySem PySem.Spec
open Sem (wp)
open Builtin Builtin.Str Builtin.BaseException Builtin.Exceptions
open PySem.W (Looks Frag findIn subIn looks_findIn looks_subIn clsIn looks_clsIn)
mutual
inductive Shw (K : Frag) (prog : Program) (w : World) (h : Heap) : Value → PySem.Str → Nat → Prop
  | leaf {v : Value} {t : PySem.Str} : ReprIs prog w v t → (∀ a, v ≠ .ref a) → Shw K prog w h v t 0
  | lst {a : Addr} {o : Obj} {vs : Array Value} {n : Nat} {ts : List PySem.Str} {k : Nat} : h.get? a = some o → o.cls = .type "list" → o.data = .seq vs n → ShwAll K prog w h vs.toList ts k → Shw K prog w h (.ref a) (listText ts) (k + 1)
  | tup {a : Addr} {o : Obj} {vs : Array Value} {n : Nat} {ts : List PySem.Str} {k : Nat} : h.get? a = some o → o.cls = .type "tuple" → o.data = .seq vs n → ShwAll K prog w h vs.toList ts k → Shw K prog w h (.ref a) (tupleText ts) (k + 1)
  | err {e t0 C : Addr} {x m : PySem.Str} {tk : Tok} : ExcC K C e t0 h → RepC K C x → h.TupAt t0 [.str m tk] → Shw K prog w h (.ref e) (errText x m) 0
inductive ShwAll (K : Frag) (prog : Program) (w : World) (h : Heap) : List Value → List PySem.Str → Nat → Prop
  | nil : ShwAll K prog w h [] [] 0
  | cons {v : Value} {t : PySem.Str} {n : Nat} {vs : List Value} {ts : List PySem.Str} {m : Nat} : Shw K prog w h v t n → ShwAll K prog w h vs ts m → ShwAll K prog w h (v :: vs) (t :: ts) (max n m)
end
section
variable {K : Frag} {prog : Program} {w : World} {h : Heap}
mutual
theorem Shw.det : ∀ {v : Value} {t t' : PySem.Str} {n n' : Nat}, Shw K prog w h v t n → Shw K prog w h v t' n' → n = n'
  | _, _, _, _, _, .leaf a b, q => by
    cases q with
    | leaf _ _ => rfl
    | lst _ _ _ _ => exact absurd rfl (b _)
    | tup _ _ _ _ => exact absurd rfl (b _)
    | err _ _ _ => exact absurd rfl (b _)
  | _, _, _, _, _, .lst h1 h2 h3 h4, q => by
    cases q with
    | leaf _ b => exact absurd rfl (b _)
    | lst g1 g2 g3 g4 =>
      rw [h1] at g1
      cases g1
      rw [h3] at g3
      cases g3
      rw [ShwAll.det h4 g4]
    | tup g1 g2 g3 g4 =>
      rw [h1] at g1
      cases g1
      rw [h2] at g2
      exact absurd (Value.type.inj g2) (by decide)
    | err x _ _ =>
      obtain ⟨_, o, _, g1, g2, _⟩ := x
      rw [h1] at g1
      cases g1
      rw [h2] at g2
      cases g2
  | _, _, _, _, _, .tup h1 h2 h3 h4, q => by
    cases q with
    | leaf _ b => exact absurd rfl (b _)
    | tup g1 g2 g3 g4 =>
      rw [h1] at g1
      cases g1
      rw [h3] at g3
      cases g3
      rw [ShwAll.det h4 g4]
    | lst g1 g2 g3 g4 =>
      rw [h1] at g1
      cases g1
      rw [h2] at g2
      exact absurd (Value.type.inj g2) (by decide)
    | err x _ _ =>
      obtain ⟨_, o, _, g1, g2, _⟩ := x
      rw [h1] at g1
      cases g1
      rw [h2] at g2
      cases g2
  | _, _, _, _, _, .err x _ _, q => by
    obtain ⟨_, o, _, g1, g2, _⟩ := x
    cases q with
    | leaf _ b => exact absurd rfl (b _)
    | tup h1 h2 _ _ =>
      rw [h1] at g1
      cases g1
      rw [h2] at g2
      cases g2
    | lst h1 h2 _ _ =>
      rw [h1] at g1
      cases g1
      rw [h2] at g2
      cases g2
    | err _ _ _ => rfl
theorem ShwAll.det : ∀ {vs : List Value} {ts ts' : List PySem.Str} {n n' : Nat}, ShwAll K prog w h vs ts n → ShwAll K prog w h vs ts' n' → n = n'
  | _, _, _, _, _, .nil, q => by cases q; rfl
  | _, _, _, _, _, .cons a b, q => by
    cases q with
    | cons c d => rw [Shw.det a c, ShwAll.det b d]
end
def ShwMost (K : Frag) (prog : Program) (w : World) (h : Heap) (n : Nat) (bs : List Addr) : Prop := ∀ b ∈ bs, ∃ t m, Shw K prog w h (.ref b) t m ∧ m ≤ n
theorem Shw.not_mem {a : Addr} {t : PySem.Str} {n m : Nat} {bs : List Addr} (r : Shw K prog w h (.ref a) t n) (hd : m < n) (hb : ShwMost K prog w h m bs) : a ∉ bs := by
  intro hm
  obtain ⟨t', n', r', hd'⟩ := hb a hm
  have := r.det r'
  omega
theorem reprK_err {e t0 C : Addr} {x m : PySem.Str} {tk : Tok} (X : ExcC K C e t0 h) (R : RepC K C x) (ht : h.TupAt t0 [.str m tk]) : ReprK prog w [] h 0 (.ref e) (errText x m) := by
  intro base hb A g E s Q hg hcl hu hk0 hQ
  obtain ⟨X0, o, vs, h1, h2, h3, h4⟩ := X
  obtain ⟨ot, k, t1, t2, t3⟩ := ht
  have X' : ExcC K C e t0 s.heap := ⟨X0.keeps hk0, o, vs, hk0 _ _ h1, h2, h3, h4⟩
  refine wpAny_pyReprUnder_ref (by omega) (reprObjUnder_C X' R ⟨ot, k, hk0 _ _ t1, t2, t3⟩ (by omega) (fun u t' => ⟨_, _, rfl, hQ s.heap t' fun _ _ e => e⟩) hb)
mutual
theorem Shw.reprK : ∀ {v : Value} {t : PySem.Str} {n : Nat}, Shw K prog w h v t n → t.length ≤ sizeLine → ∃ bs, ShwMost K prog w h n bs ∧ ReprK prog w bs h n v t
  | _, _, _, .leaf a _, _ => ⟨[], fun _ hb => (by cases hb), .of_is a _ _ _⟩
  | _, _, _, .err X R ht, hz => ⟨[], fun _ hb => (by cases hb), reprK_err X R ht⟩
  | _, _, _, .lst (a := a) (vs := vs) (ts := ts) (k := k) h1 h2 h3 h4, hz => by
    obtain ⟨bs, hb, hk⟩ := ShwAll.reprK h4 fun t ht => Nat.le_trans (listText_mem_le ht) hz
    have r : Shw K prog w h (.ref a) (listText ts) (k + 1) := .lst h1 h2 h3 h4
    have hna : a ∉ bs := r.not_mem (Nat.lt_succ_self _) hb
    refine ⟨a :: bs, fun b hm => ?_, ?_⟩
    · rcases List.mem_cons.mp hm with rfl | hm
      · exact ⟨_, _, r, Nat.le_refl _⟩
      · obtain ⟨t', m', r', l'⟩ := hb b hm
        exact ⟨t', m', r', by omega⟩
    · obtain ⟨l⟩ := vs
      cases l with
      | nil =>
        have h4' : ShwAll K prog w h [] ts k := h4
        cases h4'
        rw [listText_nil]
        exact ReprK.listEmpty h1 h2 h3
      | cons x l => exact ReprK.list h1 h2 h3 hna (by simpa using hk.length_eq) (fun i y e => hk.item i y (by simpa using e))
  | _, _, _, .tup (a := a) (vs := vs) (ts := ts) (k := k) h1 h2 h3 h4, hz => by
    obtain ⟨bs, hb, hk⟩ := ShwAll.reprK h4 fun t ht => Nat.le_trans (tupleText_mem_le ht) hz
    have r : Shw K prog w h (.ref a) (tupleText ts) (k + 1) := .tup h1 h2 h3 h4
    have hna : a ∉ bs := r.not_mem (Nat.lt_succ_self _) hb
    refine ⟨a :: bs, fun b hm => ?_, ReprK.tuple h1 h2 h3 hna hk⟩
    rcases List.mem_cons.mp hm with rfl | hm
    · exact ⟨_, _, r, Nat.le_refl _⟩
    · obtain ⟨t', m', r', l'⟩ := hb b hm
      exact ⟨t', m', r', by omega⟩
theorem ShwAll.reprK : ∀ {vs : List Value} {ts : List PySem.Str} {n : Nat}, ShwAll K prog w h vs ts n → (∀ t ∈ ts, t.length ≤ sizeLine) → ∃ bs, ShwMost K prog w h n bs ∧ ReprAllK prog w bs h n vs ts
  | _, _, _, .nil, _ => ⟨[], fun _ hb => (by cases hb), .nil⟩
  | _, _, _, .cons r rs, hz => by
    obtain ⟨b1, hb1, k1⟩ := Shw.reprK r (hz _ List.mem_cons_self)
    obtain ⟨b2, hb2, k2⟩ := ShwAll.reprK rs fun t ht => hz t (List.mem_cons_of_mem _ ht)
    refine ⟨b1 ++ b2, fun b hm => ?_, ?_⟩
    · rcases List.mem_append.mp hm with hm | hm
      · obtain ⟨t', m', r', l'⟩ := hb1 b hm
        exact ⟨t', m', r', Nat.le_trans l' (Nat.le_max_left _ _)⟩
      · obtain ⟨t', m', r', l'⟩ := hb2 b hm
        exact ⟨t', m', r', Nat.le_trans l' (Nat.le_max_right _ _)⟩
    · exact .cons ((k1.more fun b hb => List.mem_append_left _ hb).level_le (Nat.le_max_left _ _)) (k2.more_le (fun b hb => List.mem_append_right _ hb) (Nat.le_max_right _ _))
end
/-- repr(a), a an object -/
theorem Shw.call_repr {A : Around} {E : Value → Shared → Prop} {s : Shared} {Q : Value → Shared → Prop} {a : Addr} {t : PySem.Str} {n : Nat} (r : Shw K prog w h (.ref a) t n) (hg : A.guards = some []) (hu : A.units + (n + 1) < cLine) (hk0 : ∀ b o, h.get? b = some o → s.heap.get? b = some o)
    (hQ : ∀ h' u tk, (∀ b o, s.heap.get? b = some o → h'.get? b = some o) → Q (.str t u) { s with heap := h', toks := tk }) (hz : t.length ≤ sizeLine) : wpAny (model prog w) A (call (.builtin "repr") [.ref a]) Q E s := by
  cases r with
  | leaf _ b => exact absurd rfl (b _)
  | err X R ht =>
    obtain ⟨X0, o, vs, h1, h2, h3, h4⟩ := X
    obtain ⟨ot, k, t1, t2, t3⟩ := ht
    exact repr_C ⟨X0.keeps hk0, o, vs, hk0 _ _ h1, h2, h3, h4⟩ R ⟨ot, k, hk0 _ _ t1, t2, t3⟩ (by omega) (fun u t' => hQ s.heap u t' fun _ _ e => e) hz
  | lst h1 h2 h3 h4 =>
    rename_i o vs n ts k
    obtain ⟨bs, hb, hk⟩ := ShwAll.reprK h4 fun t ht => Nat.le_trans (listText_mem_le ht) hz
    have hna : a ∉ bs := Shw.not_mem (.lst h1 h2 h3 h4) (Nat.lt_succ_self _) hb
    refine call_repr_slot (by omega) ⟨o, hk0 _ _ h1, h2⟩ F.slot_list_repr.toG ?_
    obtain ⟨l⟩ := vs
    cases l with
    | nil =>
      have h4' : ShwAll K prog w h [] ts k := h4
      cases h4'
      rw [listText_nil] at hQ
      exact call_list_repr_empty ⟨o, hk0 _ _ h1, h2⟩ (hk0 _ _ h1) h3 ⟨_, _, rfl, hQ s.heap _ _ fun _ _ e => e⟩
    | cons x l =>
      exact call_list_reprK h1 h2 h3 hna (by simpa using hk.length_eq) (fun i y e => hk.item i y (by simpa using e)) hg (fun b _ => Clear.nil b) (by show A.units + 1 + (k + 1) < cLine; omega) hk0 (fun h' u tk q => ⟨_, _, rfl, hQ h' u tk q⟩) hz
  | tup h1 h2 h3 h4 =>
    rename_i o vs n ts k
    obtain ⟨bs, hb, hk⟩ := ShwAll.reprK h4 fun t ht => Nat.le_trans (tupleText_mem_le ht) hz
    have hna : a ∉ bs := Shw.not_mem (.tup h1 h2 h3 h4) (Nat.lt_succ_self _) hb
    exact call_repr_slot (by omega) ⟨o, hk0 _ _ h1, h2⟩ F.slot_tuple_repr (call_tuple_reprK h1 h2 h3 hna hk hg (fun b _ => Clear.nil b) (by show A.units + 1 + (k + 1) < cLine; omega) hk0 (fun h' u tk q => ⟨_, _, rfl, hQ h' u tk q⟩) hz)
end
end Vi

/-! Vx3: the __init__ of an error class of one's own that says super().__init__(text) and keeps one field. -/
namespace Vi
open PySem PySem.Spec PySem.Calls PyProof.Rows
open PySem.W (Looks Frag findIn subIn looks_findIn looks_subIn clsIn looks_clsIn InstAt kxs_mw ks_superIn KxsFacts)
section
variable {prog : Program} {w : World} {A : Around} {E : Value → Shared → Prop} {h : Heap} {g : Array GenState} {d : Drawn} {t : Nat} {os : OsState}
variable {nm q : Str} {C N : Addr} {bs bm : List Value} {hdct : Bool} {sn : List Str} {sub : List Value} {ab : Bool} {col : Option Bool} {dd : Option Addr} {k0 k1 k2 k3 k5 : Option Value}
theorem mw_call {u e t0 : Addr} {rest : List Value} {Q : Value → Shared → Prop}
    (hC : h.get? C = some (excClassObj nm q C N bs bm hdct sn sub ab col dd k0 k1 k2 k3 k5 "ValueError.__new__")) (he : h.get? e = some (PySem.HandSPX.excO C t0)) (hu : h.get? u = some (kxs_mw "ValueError.__init__" e)) (hrest : rest.length ≤ sizeLine)
    (hq : ∀ h' t1, (∀ b o, b ≠ e → h.get? b = some o → h'.get? b = some o) → h'.get? e = some (PySem.HandSPX.excO C t1) → Q .none ⟨h', g, d, t, os⟩) :
    wpAny (model prog w) A (call (.ref u) rest) Q E ⟨h, g, d, t, os⟩ := by
  have two : (Value.type "method-wrapper" == Value.type "method" || Value.type "method-wrapper" == Value.type "builtin_function_or_method" || Value.type "method-wrapper" == Value.type "method-wrapper") = true := by decide
  have VE := F.excBase_ValueError
  have last : codeAny (model prog w) A (.builtin "ValueError.__init__" ⟨.ref e :: rest, []⟩) (fun r s' => r = .ok (.ret .none) ∧ Q .none s') ⟨h, g, d, t, os⟩ :=
    codeAny_builtin VE.initEntry (PySem.W.exc_init_tree (cls := .ref C) (t0 := t0) (dv := none) (c2 := .none) (c3 := .none) (b4 := .bool false) he hrest (fun h' k e' _ => ⟨rfl, hq h' _ k e'⟩))
  refine wpAny_call (codeAny_of_tree (show wpAny _ A.in1 (callAny (.ref u) ⟨rest, []⟩) _ _ _ from ?_))
  simp only [callAny]
  refine wpAny_bind (wpAny_load hu ?_)
  simp only [kxs_mw, two, if_true]
  refine PySem.W.KFB.if_so rfl (wpAny_bind (PySem.W.check_bound_init VE.toExcCallFacts hC he rfl (wpAny_bind (wpAny_pure (wpAny_pure ⟨plainId_quiet VE.init.plain _, codeAny_mono last fun r s' z => ?_⟩)))))
  obtain ⟨rfl, z⟩ := z
  exact z
end
section
variable {prog : Program} {w : World} {A : Around} {E : Value → Shared → Prop} {hp : Heap} {g : Array GenState} {d : Drawn} {t : Nat} {os : OsState}
/-- what the written part says: the class at C, its __init__ at f with the cell cc -/
structure SupC (prog : Program) (K : Frag) (C f cc : Addr) (qual : Str) (params : Arguments) (body : List Stmt) (scope : Scope) (dV kV doc pm : Value) (an : Option Addr) (cdv ct : Value) : Prop where
  ox : L2.OexC K C
  sup : ks_superIn K C C "__init__" = some (some (.builtin "ValueError.__init__"))
  sub : subIn K (.ref C) (.type "ValueError") = some true
  mro : PySem.W.mroIn K C (.ref C) = some true
  any : PySem.W.nsIn K cStatics "thirdparty.any" = some none
  fn : ∃ oc od osl, K.lookup f = some ⟨oc, od, .func (PySem.W.fnX "__init__" qual params body scope [("__class__", cc)] dV kV doc pm an cdv ct), osl⟩
  cell : ∃ cl cld csl, K.lookup cc = some ⟨cl, cld, .cell (some (.ref C)), csl⟩
  code : ∃ cda ccl cdd vs ccs file tf, cdv = .ref cda ∧ K.lookup cda = some ⟨ccl, cdd, .fields vs, ccs⟩ ∧ vs[2]? = some (.str file tf) ∧ ((prog.main.file : Str) == file) = true
  htop : (prog.main.scope.names.lookup ("super" : Str)).isSome = false
/-- super().__init__(text) -/
theorem sup_stmt {K : Frag} {mg : Str → Option Value} {base : Heap} {C f cc L x : Addr} {qual : Str} {params : Arguments} {body body' : List Stmt} {scope : Scope} {dV kV doc pm : Value} {an : Option Addr} {cdv ct : Value} {ar : Arg} {m : Str → Option Value} {t0 : Addr} {txt : Str} {kk : Nat} {p0 p1 p2 p3 p4 p5 : Pos} {Q : Flow → Shared → Prop}
    (S : SupC prog K C f cc qual params body scope dV kV doc pm an cdv ct) (Md : L2.Mod K mg base) (hb : ∀ b o, base.get? b = some o → hp.get? b = some o) (hsu : mg "super" = none)
    (hp0 : (params.posonlyargs ++ params.args).head? = some ar) (hL : hp.Ns L m) (hv : m ar.arg = some (.ref x)) (hx : hp.get? x = some (PySem.HandSPX.excO C t0))
    (hks : scope.names.lookup ("super" : Str) = some .globalImplicit) (hkc : scope.names.lookup ("__class__" : Str) = some .free) (hka : scope.names.lookup ar.arg = some .local) (hk : scope.kind = .function)
    (hq : ∀ h' t1 tk, (∀ b o, b ≠ x → hp.get? b = some o → h'.get? b = some o) → h'.get? x = some (PySem.HandSPX.excO C t1) → Q .next ⟨h', g, d, tk, os⟩) 
    {pl : Sem Bool} (he : eval (.Call (.Attribute (.Call (.Name "super" p0) [] [] p1) "__init__" p2) [.Constant (.str txt) kk p3] [] p4) (PySem.W.ksEnv qual scope L f cdv cc) = (do
      let ov ← attributeBase (.Call (.Name "super" p0) [] [] p1) "__init__" (PySem.W.ksEnv qual scope L f cdv cc) (eval (.Call (.Name "super" p0) [] [] p1) (PySem.W.ksEnv qual scope L f cdv cc))
      standAt p2.atName
      let (f1, first) ← holding [ov] (getMethod ov "__init__" pl)
      callWith p4 f1 first (backTo p4 (starEach [.Constant (.str txt) kk p3] (PySem.W.ksEnv qual scope L f cdv cc))) []))
    (hi : interactive (PySem.W.ksEnv qual scope L f cdv cc) = false) (hsw : swapsWith (.Call (.Attribute (.Call (.Name "super" p0) [] [] p1) "__init__" p2) [.Constant (.str txt) kk p3] [] p4) none p5.line (PySem.W.ksEnv qual scope L f cdv cc) = pure false) :
    _root_.PySem.wpAt (model prog w) A (.func body' (PySem.W.ksEnv qual scope L f cdv cc)) (exec (.Expr (.Call (.Attribute (.Call (.Name "super" p0) [] [] p1) "__init__" p2) [.Constant (.str txt) kk p3] [] p4) p5) (PySem.W.ksEnv qual scope L f cdv cc)) Q E ⟨hp, g, d, t, os⟩ := by
  have X0 : K.In hp := Md.kin.keeps hb
  obtain ⟨oc, od, osl, hf⟩ := S.fn
  obtain ⟨cl, cld, csl, hcell⟩ := S.cell
  obtain ⟨cda, ccl, cdd, vs, ccs, file, tf, rfl, hcode, hvs, hfile⟩ := S.code
  obtain ⟨mb, hblt, hmb⟩ := Md.blt
  obtain ⟨nm, q, N, bs, bm, sn, sub, ab, col, dd, k0, k1, k2, k3, k5, hC, hbm⟩ := S.ox.cls
  have hcl : PySem.W.clsIn K C = some { name := nm, bases := bs, mro := .ref C :: bm, ns := N, qualname := q, hasDict := true, slotNames := sn, subclasses := sub, abstract := ab, collection := col, hasDel := false } := by unfold PySem.W.clsIn; rw [hC] <;> rfl
  have hsup := S.sup
  unfold ks_superIn at hsup
  rw [hcl] at hsup
  have I0 : ∀ {h' : Heap} {t1 : Addr}, h'.get? x = some (PySem.HandSPX.excO C t1) → InstAt h' x (PySem.HandSPX.excO C t1) C none := fun e => ⟨e, rfl, rfl, trivial⟩
  have hxC : x ≠ C := PySem.W.ks_ne X0 (I0 hx) hcl
  refine PySem.ks_wpAt_Expr_any ?_ hi hsw
  refine PySem.ks_wpAt_MethodCall (pl := pl) ?_ he
  refine PySem.ks_wpAt_super_base (env := PySem.W.ksEnv qual scope L f (.ref cda) cc) hks hkc (by decide) rfl (X0 _ _ hf) rfl hp0 rfl (X0 _ _ hcode) rfl hvs hfile S.htop ?_
  refine PySem.W.ks_loadName_global hk hks (loadGlobal_builtin (env := PySem.W.ksEnv qual scope L f (.ref cda) cc) (Md.glob.keeps hb) hsu (hblt.keeps hb) ((hmb _ (by decide)).trans PyProof.Rows.Boot.«super») ⟨rfl, ?_⟩)
  refine wpAny_loadName_free hk hkc rfl ⟨_, X0 _ _ hcell, rfl⟩ ?_
  refine wpAny_loadName_local hk hka hL hv ?_
  refine PySem.ks_wpAny_isType_cls (X0 _ _ hC) rfl ⟨rfl, ?_⟩
  refine PySem.ks_wpAny_call_super (X0 _ _ hC) rfl hx rfl (fun c e => by cases e) (PySem.W.looks_mroIn X0 S.mro) (fun h1 e1 k1 => ?_)
  have X1 : K.In h1 := Md.kin.keeps fun b o e => k1 _ _ (hb _ _ e)
  have LI : Looks (model prog w) h1 (isInstance (.ref x) (.type "ValueError")) true := (I0 (k1 _ _ hx)).type.andThen (looks_subIn X1 S.sub)
  refine PySem.W.kxs_getMethod PySem.W.kxs_ValueError e1 (PySem.W.looks_opaque X1 S.any) (l₀ := .ref C :: bm) (fun A Q E s k q => wpAny_bind ((looks_clsIn X1 hcl) A _ E s k (wpAny_pure q))) rfl X1 hsup LI hxC (by decide) ?_
  have k2 : ∀ b o, h1.get? b = some o → (h1.push (kxs_mw "ValueError.__init__" x)).get? b = some o := fun b o e => Heap.get?_push_of_some _ e
  have hu : (h1.push (kxs_mw "ValueError.__init__" x)).get? h1.objs.size = some (kxs_mw "ValueError.__init__" x) := Heap.get?_push_at rfl rfl
  refine PySem.W.kxs_callWith (i := "ValueError.__init__") (x := x) (by rfl) (evalArgs_plain (spliced_cons (wpAny_Constant_str (k := kk) (pos := p3) (spliced_nil ⟨hu, ?_⟩))))
  refine mw_call (X0.keeps (fun b o e => k2 _ _ (k1 _ _ e)) _ _ hC) (k2 _ _ (k1 _ _ hx)) hu (show (1 : Nat) ≤ sizeLine by rw [sizeLine_eq]; decide) fun h' t1 k3 hx' => ?_
  exact hq h' t1 _ (fun b o hb' e => k3 b o hb' (k2 _ _ (k1 _ _ e))) hx'
end
/-- the promise of that __init__ -/
def spSup (C : Addr) (fld : Str) : L2.Sp := fun vs H Q _ => ∃ (a : Addr) (v : L2.V), vs = [.ref a, v] ∧ H a = some (L2.exo a C none) ∧ ∀ dx, H dx = none → dx ≠ a → Q .non (L2.upd (L2.upd H dx (L2.exd dx [(fld, v)])) a (L2.exo a C (some dx)))
section
open L2
variable {P : Program} {w : World} {K : Frag} {mg : Str → Option Value} {base : Heap}
theorem fn_sup {CX : CXT} {C f cc : Addr} {qual : Str} {params : Arguments} {scope : Scope} {dV kV doc pm : Value} {an : Option Addr} {cdv ct : Value} {ar : Arg} {x y fld txt : Str} {kk : Nat} {p0 p1 p2 p3 p4 p5 p6 p7 p8 p9 : Pos} {k : Nat}
    (S : SupC P K C f cc qual params [.Expr (.Call (.Attribute (.Call (.Name "super" p0) [] [] p1) "__init__" p2) [.Constant (.str txt) kk p3] [] p4) p5, .Assign [.Attribute (.Name x p6) fld p7] (.Name y p8) p9] scope dV kV doc pm an cdv ct)
    (hcd : PySem.W.codeIn K cdv qual = true) (hsu : mg "super" = none) (hno : findIn K (.ref C) fld = some none)
    (hp0 : (params.posonlyargs ++ params.args).head? = some ar) (hax : ar.arg = x) (hxy : x ≠ y)
    (hks : scope.names.lookup ("super" : Str) = some .globalImplicit) (hkc : scope.names.lookup ("__class__" : Str) = some .free) (hkx : scope.names.lookup x = some .local) (hky : scope.names.lookup y = some .local) (hk : scope.kind = .function)
    (hco : scope.isCoroutine = false) (hgen : scope.isGenerator = false) (hcell : ∀ z ∈ scope.names, z.2 ≠ .cell) (hdx : (x == ("__debug__" : Str)) = false) (hdy : (y == ("__debug__" : Str)) = false)
    (pl : Sem Bool) (he : ∀ L, eval (.Call (.Attribute (.Call (.Name "super" p0) [] [] p1) "__init__" p2) [.Constant (.str txt) kk p3] [] p4) (PySem.W.ksEnv qual scope L f cdv cc) = (do
      let ov ← attributeBase (.Call (.Name "super" p0) [] [] p1) "__init__" (PySem.W.ksEnv qual scope L f cdv cc) (eval (.Call (.Name "super" p0) [] [] p1) (PySem.W.ksEnv qual scope L f cdv cc))
      standAt p2.atName
      let (f1, first) ← holding [ov] (getMethod ov "__init__" pl)
      callWith p4 f1 first (backTo p4 (starEach [.Constant (.str txt) kk p3] (PySem.W.ksEnv qual scope L f cdv cc))) []))
    (hi : ∀ L, interactive (PySem.W.ksEnv qual scope L f cdv cc) = false)
    (hsw : ∀ L, swapsWith (.Call (.Attribute (.Call (.Name "super" p0) [] [] p1) "__init__" p2) [.Constant (.str txt) kk p3] [] p4) none p5.line (PySem.W.ksEnv qual scope L f cdv cc) = pure false)
    (hs2 : ∀ L, swapsWith (.Name y p8) (some (.Attribute (.Name x p6) fld p7)) p9.line (PySem.W.ksEnv qual scope L f cdv cc) = pure false) :
    FnOk P w K mg base CX (k + 1) f (PySem.W.fnX "__init__" qual params [.Expr (.Call (.Attribute (.Call (.Name "super" p0) [] [] p1) "__init__" p2) [.Constant (.str txt) kk p3] [] p4) p5, .Assign [.Attribute (.Name x p6) fld p7] (.Name y p8) p9] scope [("__class__", cc)] dV kV doc pm an cdv ct) [x, y] (spSup C fld) := by
  refine ⟨fun vs H Q E z => ?_, fun A outer s H args us vs Q E hr e0 hb hv hsp => ?_⟩
  · obtain ⟨_, _, e, _⟩ := z
    rw [e]
    rfl
  obtain ⟨a, v, rfl, ea, hQ⟩ := hsp
  cases hv with
  | @cons _ u0 _ ur ra rw1 =>
  cases rw1 with
  | @cons _ u _ ur2 ru rnil =>
  cases rnil
  obtain rfl : u0 = Value.ref a := ra
  obtain ⟨oc, od, osl, hf⟩ := S.fn
  have X0 : K.In s.heap := e0.mod.kin.keeps fun b o e => (e0.bs b o e).1
  have lim : s.heap.NoLimit := e0.mod.nolimit.keeps fun b o e => (e0.bs b o e).1
  obtain ⟨nm, q, N, bs, bm, sn, sub, ab, col, dd, k0, k1, k2, k3, k5, hC, hbm⟩ := S.ox.cls
  have hcl : clsIn K C = some { name := nm, bases := bs, mro := .ref C :: bm, ns := N, qualname := q, hasDict := true, slotNames := sn, subclasses := sub, abstract := ab, collection := col, hasDel := false } := by unfold clsIn; rw [hC] <;> rfl
  obtain ⟨t1, ho⟩ := exo_at e0.hok ea
  obtain ⟨hp, g, d, t, os⟩ := s
  have hloc : ∀ z ∈ [x, y].zip [Value.ref a, u], scope.names.lookup z.1 = some .local := fun z hz => by
    rcases List.mem_cons.mp hz with rfl | hz
    · exact hkx
    rcases List.mem_cons.mp hz with rfl | hz
    · exact hky
    · cases hz
  refine ks_codeAny_call_defAt (by have := hr.depth; exact this) (X0 _ _ hf) rfl lim (PySem.W.codeRec_of X0 hcd) rfl hb hcell hloc (fun h1 hns hk1 => ?_) hco hgen hk
  show PySem.wpAt (model P w) (A.deeper (PySem.W.ksEnv qual scope hp.objs.size f cdv cc)) (.func _ (PySem.W.ksEnv qual scope hp.objs.size f cdv cc)) (execs _ (PySem.W.ksEnv qual scope hp.objs.size f cdv cc)) _ _ _
  have mx : (fun z => (List.lookup z ([x, y].zip [Value.ref a, u]).reverse)) x = some (.ref a) := by
    show List.lookup x [(y, u), (x, Value.ref a)] = _
    have ne : (x == y) = false := by simpa using hxy
    rw [List.lookup_cons, List.lookup_cons, ne]
    simp
  have my : (fun z => (List.lookup z ([x, y].zip [Value.ref a, u]).reverse)) y = some u := by
    show List.lookup y [(y, u), (x, Value.ref a)] = _
    rw [List.lookup_cons]
    simp
  have hL1 : ∃ o, h1.get? hp.objs.size = some o := by
    obtain ⟨o, _, _, e, _⟩ := hns
    exact ⟨o, e⟩
  have aL : hp.objs.size ≠ a := Nat.ne_of_gt (Heap.lt_size ho)
  refine ks_wpAt_execs_cons (sup_stmt S e0.mod (fun b o e => hk1 _ _ (e0.bs b o e).1) hsu hp0 hns (by rw [hax]; exact mx) (hk1 _ _ ho) hks hkc (by rw [hax]; exact hkx) hk (fun h2 t2 tk k2' hx2 => ?_) (he _) (hi _) (hsw _))
  refine PySem.wpAt_of_wpAny (wpAny_execs_cons (plainObj_wpAny_Assign_Attribute ?_ (hs2 _)))
  have hns2 : h2.Ns hp.objs.size _ := hns.at fun o e => k2' _ _ aL e
  refine wpAny_Name (wpAny_loadName_local hk hky hns2 my ?_) hdy
  refine wpAny_Name (wpAny_loadName_local hk hkx hns2 mx ?_) hdx
  have ka : ∀ b o, b ≠ a → hp.get? b = some o → h2.get? b = some o := fun b o n e => k2' b o n (hk1 _ _ e)
  have nba : ∀ b o, base.get? b = some o → b ≠ a := fun b o e z => by
    have y := (e0.bs b o e).2
    rw [z, ea] at y
    cases y
  have X2 : K.In h2 := e0.mod.kin.keeps fun b o e => ka _ _ (nba _ _ e) (e0.bs b o e).1
  refine PySem.W.set_plain X2 (ox := PySem.HandSPX.excO C t2) (od := none) ⟨hx2, rfl, rfl, trivial⟩ S.ox.sa (PySem.HandSPX.exc_osa X2 hx2 hcl (show PySem.HandSPX.refsVE (.ref C :: bm) = true from hbm) rfl hno (fun h3 tk3 dx k3' dn dne hx3 hn3 => ?_))
  refine wpAny_execs_nil ?_
  have kk : ∀ b o, b ≠ a → hp.get? b = some o → h3.get? b = some o := fun b o n e => k3' b o n (ka b o n e)
  have dsz : hp.objs.size ≤ dx := Nat.le_trans (Nat.le_of_lt (by
    obtain ⟨o, e⟩ := hL1
    exact Heap.lt_size (k2' _ _ aL e))) dn
  have hnd : H dx = none := e0.hok.fresh dsz
  have na : ∀ {b : Addr}, H b = none → b ≠ a := fun {b} n z => by
    rw [z] at n
    exact absurd (n.symm.trans ea) (by simp)
  have nd : ∀ {b : Addr} {o : Obj}, hp.get? b = some o → b ≠ dx := fun {b o} z => Nat.ne_of_lt (Nat.lt_of_lt_of_le (Heap.lt_size z) dsz)
  have up : ∀ {b : Addr}, b ≠ a → b ≠ dx → upd (upd H dx (exd dx [(fld, v)])) a (exo a C (some dx)) b = H b := fun {b} n1 n2 => (upd_ne n1).trans (upd_ne n2)
  refine ⟨.non, upd (upd H dx (exd dx [(fld, v)])) a (exo a C (some dx)), rfl, e0.bare, ⟨fun b o z n _ _ => kk b o (na n) z, fun b o z n _ _ => ⟨o.slots, kk b o (na n) z⟩, fun b o z n _ => (up (na n) (nd z)).trans n, fun b o z _ => ?_,
    fun b xs z => (up (at_ne ea z exo_tup) (ne_of_none z hnd)).trans z, fun b o v z => (up (at_ne ea z exo_frz) (ne_of_none z hnd)).trans z, fun b ps z => ⟨#[], ((up (at_ne ea z exo_tbl) (ne_of_none z hnd)).trans z).trans (by simp)⟩⟩, fun b o z => ?_, rfl, hQ dx hnd dne⟩
  · by_cases hb : b = a
    · exact ⟨_, hb ▸ hx3⟩
    · exact ⟨o, kk b o hb z⟩
  · by_cases hb : b = a
    · subst hb
      obtain rfl := Option.some.inj (upd_same.symm.trans z)
      exact exo_ok hx3
    · by_cases hd : b = dx
      · subst hd
        obtain rfl := Option.some.inj (upd_same.symm.trans ((upd_ne hb).symm.trans z))
        exact exd_ok hn3 (relO_put (fs := []) ru fun _ => True.intro)
      · exact (e0.hok b o ((up hb hd).symm.trans z)).stay (fun c o' hc y => kk c o' (hc.elim (fun e => e ▸ hb) fun e => at_ne ea e exo_own) y) (fun c hc => (up (at_ne ea hc exo_own) (ne_of_none hc hnd)).trans hc) fun c xs hc => (up (at_ne ea hc exo_tup) (ne_of_none hc hnd)).trans hc
end
end Vi

/-! Vi0: a new tuple's own object is known: it has no dict. -/
namespace Vi
open PySem PySem.Spec PyProof.Rows L2
/-- what follows a new tuple -/
def NewT (H : Hp) (Q : VK) (xs : List V) : Prop := ∀ (p : Addr) (ob : Obj), H p = none → ob.dict = none → Q (.ref p) (upd H p (.frz ob (.tup xs)))
section
variable {X : Cx} {pins : List (Addr × Obj)} {σ : L2.St} {H : Hp} {s : Shared} {Q : VK} {xs : List V}
theorem laidT (I : L2.Inv X pins σ H s) {its : List Value} {t' : Nat} (hz : xs.length ≤ sizeLine) (r : Vals xs its) (q : NewT H Q xs) :
    EP X pins σ Q (.ref s.heap.objs.size) { s with heap := s.heap.push { cls := .type "tuple", data := .seq its.toArray }, toks := t' } := by
  have hf : H s.heap.objs.size = none := I.hok.fresh (Nat.le_refl _)
  refine ⟨.ref s.heap.objs.size, _, I.laid (t' := t') (o := .frz { cls := .type "tuple", data := .seq its.toArray } (.tup xs)) (fun b u e => Heap.get?_push_of_some _ e) (Nat.le_refl _) ?_, rfl, q _ _ hf rfl⟩
  exact ⟨Heap.get?_push_size _ rfl, hz, its, r, IsTup.new _ _⟩
/-- (a, b) -/
def tTupF (t : TA) : TE := fun σ H Q => t σ H fun xs H1 => xs.length ≤ sizeLine ∧ NewT H1 Q xs
theorem pe_tupF {es : List Expr} {t : TA} {k : Nat} {pos : Pos} (h : PA X es t) : PE X (.Tuple es k pos) (tTupF t) :=
  ⟨fun pins s σ H Q I hq => wpAny_Tuple_spliced (thn (h.run pos pins s σ H _ I hq) fun us s1 ⟨xs, H1, I1, r, z, q⟩ => ⟨by rw [← r.length]; exact z, laidT I1 (t' := s1.toks) z r q⟩)⟩
/-- a + b, neither empty -/
theorem op_catF : OpR X (binaryOp .Add) (fun x y H Q => ∃ a b xs ys, x = .ref a ∧ y = .ref b ∧ SqT X.K H a xs ∧ SqT X.K H b ys ∧ xs ≠ [] ∧ ys ≠ [] ∧ xs.length + ys.length ≤ sizeLine ∧ NewT H Q (xs ++ ys)) := by
  rintro pins s σ H x y v u Q I rx ry ⟨a, b, xs, ys, rfl, rfl, ha, hb, hx, hy, hz, q⟩
  cases rx
  cases ry
  obtain ⟨_, r1, p1, _⟩ := I.tuple ha
  obtain ⟨_, r2, p2, _⟩ := I.tuple hb
  exact HT.cat_tup p1 p2 (fun z => hx (r1.nil_iff.mp z)) (fun z => absurd (r2.nil_iff.mp z) hy) (fun _ => laidT I (t' := s.toks) (by rw [List.length_append]; exact hz) (r1.append r2) q) (by rw [← r1.length, ← r2.length]; exact hz)
/-- t[a:b], not the whole -/
theorem sl_tupF : SlR X (fun x lo hi H Q => ∃ a xs, x = .ref a ∧ SqT X.K H a xs ∧ ¬ (HT.sIx xs.length 0 lo = 0 ∧ HT.sIx xs.length xs.length hi = xs.length) ∧ NewT H Q (cutV xs lo hi)) := by
  rintro pins s σ H x v vl vu lo hi sl Q I rx hs pl pu ⟨a, xs, rfl, hx, hw, q⟩
  cases rx
  obtain ⟨its, r, ht, hz⟩ := I.tuple hx
  have hlen : its.toArray.size = xs.length := (List.size_toArray).trans r.length.symm
  refine ⟨"tuple", _, slot_tuple_getitem.lookup, ht.typeIs, HT.getItem_tuple_cut ht hs pl pu (by rw [hlen]; exact hw) ?_ (by rw [hlen]; exact hz)⟩
  rw [hlen]
  exact laidT I (t' := s.toks) (Nat.le_trans (cutV_length xs lo hi) hz) ((r.drop (HT.sIx xs.length 0 lo)).take (HT.sIx xs.length xs.length hi - HT.sIx xs.length 0 lo)) q
/-- tuple(a list) -/
theorem call_tupF : CallR X (.type "tuple") (fun xs H Q => ∃ p ys, xs = [.ref p] ∧ SqL X.K H p ys ∧ NewT H Q ys) := by
  rintro pins s σ H xs us Q I r ⟨p, ys, rfl, hq, q⟩
  obtain ⟨u, rfl, rx⟩ := vals1 r
  cases rx
  obtain ⟨its, r', pl, hz⟩ := I.list hq
  have hlen := r'.length
  exact call_tuple_list pl.isList (fun h' kp => laidT (I.kept (h' := h') (t' := s.toks) kp) (t' := s.toks) hz r' q) (by simp only [List.size_toArray]; omega)
/-- divmod(a, b) -/
theorem call_divF : CallR X (.builtin "divmod") (fun xs H Q => ∃ i j, xs = [.int i, .int j] ∧ CDiv i j ∧ NewT H Q [.int (i / j), .int (i % j)]) := by
  rintro pins s σ H xs us Q I r ⟨i, j, rfl, ⟨h1, h2⟩, q⟩
  obtain ⟨u, w', rfl, ⟨t, rfl⟩, ⟨t', rfl⟩⟩ := vals2 r
  refine divmod_int (by omega) ?_ (.inl (PyProof.noPylong_small (by omega)))
  rw [Int.fdiv_eq_ediv_of_nonneg i (by omega), Int.fmod_eq_emod_of_nonneg i (by omega)]
  exact laidT I (xs := [.int (i / j), .int (i % j)]) (its := [.int (i / j) s.toks, .int (i % j) (s.toks + 1)]) (by simp only [List.length_cons, List.length_nil]; rw [sizeLine_eq]; decide) (.cons ⟨_, rfl⟩ (.cons ⟨_, rfl⟩ .nil)) q
/-- t * k, k from 2 on -/
theorem op_repF : OpR X (binaryOp .Mult) (fun x y H Q => ∃ l k xs, x = .ref l ∧ y = .int k ∧ SqT X.K H l xs ∧ xs ≠ [] ∧ 2 ≤ k ∧ k ≤ 4000 ∧ xs.length ≤ 1000 ∧ NewT H Q (List.replicate k.toNat xs).flatten) := by
  rintro pins s σ H x y v u Q I rx ry ⟨l, k, xs, rfl, rfl, hT, hne, h1, h2, hz, q⟩
  cases rx
  obtain ⟨t, rfl⟩ := ry
  obtain ⟨its, r, ⟨⟨cls, dd, data, sl⟩, ho, hc, n, hd⟩, hs⟩ := I.tuple hT
  dsimp only at hc hd
  subst hc hd
  have e1 : its.length = xs.length := r.length.symm
  have e2 : its.toArray.size = xs.length := (List.size_toArray).trans e1
  have hi : its.toArray.isEmpty = false := by
    cases its with
    | nil => exact absurd (List.length_eq_zero_iff.mp e1.symm) hne
    | cons _ _ => rfl
  have big : k.toNat * xs.length ≤ 4000000 := Nat.le_trans (Nat.mul_le_mul (show k.toNat ≤ 4000 by omega) hz) (by decide)
  have big2 : ((its.toArray.size : Nat) : Int) * k ≤ 4000000 := by
    have z : (((its.toArray.size * k.toNat : Nat)) : Int) = ((its.toArray.size : Nat) : Int) * k := by rw [Int.natCast_mul, Int.toNat_of_nonneg (by omega)]
    rw [← z, e2, Nat.mul_comm]
    exact Int.ofNat_le.mpr big
  have n1 : ¬ (k < -(2 ^ 63)) ∧ ¬ (k ≥ 2 ^ 63) ∧ ¬ (k ≤ 0) ∧ k ≠ 1 := ⟨by omega, by omega, by omega, by omega⟩
  have fl : (List.replicate k.toNat its).flatten.length ≤ sizeLine := by
    rw [lm_len_rep_flat, e1, sizeLine_eq]
    omega
  have wp := tuple_mulW l its.toArray n dd sl k t (by simp only [n1, decide_false, Bool.or_false]) (by rw [hi, Bool.false_or]; exact beq_eq_false_iff_ne.mpr n1.2.2.2) (by rw [hi, Bool.or_false]; exact decide_eq_false n1.2.2.1)
    (by omega) (by unfold Builtin.Tuple.tupleTooMany; rw [sizeLine_eq]; exact decide_eq_false (by omega)) (by rw [size_rep, List.size_toArray]; exact fl)
  refine wpAny_binaryOp_repeat_ref (T := "tuple") (U := "int") (by decide) ⟨_, ho, rfl⟩ (fun s' => typeIs_int s' k t) noFill_tuple_mul PySem.F.fills_int_mul PySem.F.slot_int_rmul repeat_tuple PySem.F.slot_int_index.lookup ?_
  refine call_meets PySem.F.slot_int_rmul (typeIs_int s k t) PySem.F.entry_int_rmul (PySem.F.args_int_rmul_2 _ _) (int_rmul_tuple k t l its.toArray n dd sl) ⟨ho, rfl, ⟨_, ho, rfl⟩, ?_⟩
  refine call_meets PySem.F.slot_tuple_mul ⟨_, ho, rfl⟩ PySem.F.entry_tuple_mul (PySem.F.args_tuple_mul_2 _ _) wp ⟨ho, ?_⟩
  rw [size_rep]
  exact laidT I (t' := s.toks) (by rw [lm_len_rep_flat, sizeLine_eq]; omega) (r.rep k.toNat) q
end
end Vi

/-! Vi1: values as trees over the hand layer: U, worlds, what stands for what. -/
namespace Vi
open PySem PySem.Spec PyProof.Rows L2
/-- the World that all stands in -/
class WW where
  w : World
variable [WW]

/-- a value as a tree; scr: the script; ref: a shared list by its number -/
inductive U where
  | non | bl (b : Bool) | int (i : Int) | str (x : Str) | tup (us : List U) | lst (us : List U) | scr (ns : List Int) | ref (i : Nat) | ty (n : String) | err (x : Str) (m : Option Str) | ecl (x : Str) | dic (ks vs : List U) | erf (x f : Str) (u : U)
/-- what a slot holds, what an expression gives: a value, or a list that nothing else names -/
inductive Sv where
  | val (u : U) | own (us : List U) | dic (ks vs : List U)
/-- who may write at an address -/
inductive Ow where
  | frz | tmp | obj (i : Nat) | slot (k : Nat)
  deriving DecidableEq
structure Wd where
  own : Addr → Option Ow
  mp : List Addr
/-- a shared object -/
inductive Ob where
  | lst (us : List U)
/-- an exception: its class by name, its field -/
structure Ex where
  cls : Str
  arg : Option (Str × U) := none
abbrev En := List (Option Sv)
abbrev Hv := List Ob

def Wd.put (W : Wd) (p : Addr) (w : Option Ow) : Wd := ⟨fun a => if a = p then w else W.own a, W.mp⟩
theorem Wd.put_same {W : Wd} {p : Addr} {w : Option Ow} : (W.put p w).own p = w := if_pos rfl
theorem Wd.put_ne {W : Wd} {p a : Addr} {w : Option Ow} (h : a ≠ p) : (W.put p w).own a = W.own a := if_neg h

/-- a dict -/
def isDO : HO → Prop
  | .dK _ => True
  | .ext _ => True
  | _ => False
/-- what stays: frozen lists, tuples, locked things, the shared objects' numbers -/
structure LeP (W : Wd) (H : Hp) (W' : Wd) (H' : Hp) : Prop where
  fr : ∀ a o, H a = some o → W.own a = some .frz → W'.own a = some .frz ∧ (H' a = some o ∨ (isDO o ∧ ∃ od, H' a = some (.frz od o)))
  tp : ∀ a vs, H a = some (.tup vs) → H' a = some (.tup vs)
  fz : ∀ a o u, H a = some (.frz o u) → H' a = some (.frz o u)
  mp : ∃ l, W'.mp = W.mp ++ l
  ob : ∀ i a, W.mp[i]? = some a → W.own a = some (.obj i) → W'.own a = some (.obj i)
/-- .. and all that is there and that nobody here owns -/
structure LeW (W : Wd) (H : Hp) (W' : Wd) (H' : Hp) : Prop extends LeP W H W' H' where
  st : ∀ a o, H a = some o → W.own a = none → W'.own a = none ∧ H' a = some o
theorem LeP.at_ {W W' : Wd} {H H' : Hp} (l : LeP W H W' H') {i : Nat} {a : Addr} (h : W.mp[i]? = some a) : W'.mp[i]? = some a := by
  obtain ⟨m, e⟩ := l.mp
  rw [e, List.getElem?_append_left (List.getElem?_eq_some_iff.mp h).1]
  exact h
theorem LeP.frl {W W' : Wd} {H H' : Hp} (l : LeP W H W' H') {a : Addr} {vs : List V} (h : H a = some (.lst vs)) (n : W.own a = some .frz) : W'.own a = some .frz ∧ H' a = some (.lst vs) := by
  obtain ⟨n1, h1 | ⟨z, _⟩⟩ := l.fr _ _ h n
  · exact ⟨n1, h1⟩
  · exact z.elim
theorem LeP.frx {W W' : Wd} {H H' : Hp} (l : LeP W H W' H') {a : Addr} {vs : List (Str × V)} (h : H a = some (.xd vs)) (n : W.own a = some .frz) : W'.own a = some .frz ∧ H' a = some (.xd vs) := by
  obtain ⟨n1, h1 | ⟨z, _⟩⟩ := l.fr _ _ h n
  · exact ⟨n1, h1⟩
  · exact z.elim
theorem LeP.refl {W : Wd} {H : Hp} : LeP W H W H := ⟨fun _ _ h n => ⟨n, .inl h⟩, fun _ _ h => h, fun _ _ _ h => h, ⟨[], by simp⟩, fun _ _ _ h => h⟩
theorem LeW.refl {W : Wd} {H : Hp} : LeW W H W H := ⟨.refl, fun _ _ h n => ⟨n, h⟩⟩
theorem LeP.trans {W W1 W2 : Wd} {H H1 H2 : Hp} (a : LeP W H W1 H1) (b : LeP W1 H1 W2 H2) : LeP W H W2 H2 where
  fr := fun c o h n => by
    obtain ⟨n1, h1 | ⟨z, od, h1⟩⟩ := a.fr c o h n
    · exact b.fr c o h1 n1
    · refine ⟨?_, .inr ⟨z, od, b.fz c od o h1⟩⟩
      obtain ⟨n2, _⟩ := b.fr c _ h1 n1
      exact n2
  tp := fun c vs h => b.tp c vs (a.tp c vs h)
  fz := fun c o u h => b.fz c o u (a.fz c o u h)
  mp := by
    obtain ⟨l, e⟩ := a.mp
    obtain ⟨m, e'⟩ := b.mp
    exact ⟨l ++ m, by rw [e', e, List.append_assoc]⟩
  ob := fun i c h n => b.ob i c (a.at_ h) (a.ob i c h n)
theorem LeW.trans {W W1 W2 : Wd} {H H1 H2 : Hp} (a : LeW W H W1 H1) (b : LeW W1 H1 W2 H2) : LeW W H W2 H2 :=
  ⟨a.toLeP.trans b.toLeP, fun c o h n => let ⟨n1, h1⟩ := a.st c o h n; b.st c o h1 n1⟩

/-! ### what stands for what -/
def TupS (K : PySem.W.Frag) (H : Hp) (a : Addr) (vs : List V) : Prop := (∃ o : Obj, o.dict = none ∧ H a = some (.frz o (.tup vs))) ∨ ∃ (o : Obj) (its : Array Value) (n : Nat), K.lookup a = some o ∧ o.cls = .type "tuple" ∧ o.dict = none ∧ o.data = .seq its n ∧ its.size ≤ sizeLine ∧ Vals vs its.toList
/-- the script: locked, or one of the module's own objects -/
def ScrS (K : PySem.W.Frag) (H : Hp) (a : Addr) (vs : List V) : Prop := (∃ o, H a = some (.frz o (.lst vs))) ∨ ∃ (o : Obj) (its : Array Value) (n : Nat), K.lookup a = some o ∧ o.cls = .type "list" ∧ o.dict = none ∧ o.data = .seq its n ∧ its.size ≤ sizeLine ∧ Vals vs its.toList
/-- an error class of one's own, with what is asked of it and of its objects -/
def eclB0 (K : PySem.W.Frag) (x : Str) : Bool := (He.Fa.exc x).ok K && (He.eqO (PySem.W.findIn K (.ref (He.ga K x)) "__getattribute__") (some (some (.builtin "BaseException.__getattribute__"))) && (He.eqO (PySem.W.findIn K (.ref (He.ga K x)) "__getattr__") (some none) &&
  (PySem.W.hasDictIn K (He.ga K x) && (He.eqO (PySem.W.findIn K (.ref (He.ga K x)) "__class__") (some (some (.builtin "object.__class__"))) && (He.eqO (PySem.W.specialIn K (.builtin "object.__class__") "__get__") (some (some (.builtin "getset_descriptor.__get__"))) &&
  (decide (PySem.W.takesIn K (.builtin "object.__class__") = some true) && (decide (PySem.W.mroIn K (He.ga K x) (.type "object") = some true) && ((["int", "bool", "str", "tuple", "list"].all fun b => decide (PySem.W.kitOne K (.ref (He.ga K x)) (.type b) = some false)) &&
  (decide (PySem.W.exmOne K (.ref (He.ga K x)) (.ref (He.ga K "SlotError")) = some true) && decide (PySem.W.kitOne K (.ref (He.ga K x)) (.ref (He.ga K x)) = some true))))))))))
/-- .. and of their repr -/
def erpB (K : PySem.W.Frag) (x : Str) : Bool := He.eqO (PySem.W.findIn K (.ref (He.ga K x)) "__repr__") (some (some (.builtin "BaseException.__repr__"))) && (decide (PySem.W.subIn K (.ref (He.ga K x)) (.type "BaseException") = some true) && (match PySem.W.clsIn K (He.ga K x) with
  | some cd => decide (cd.name = x)
  | none => false))
/-- .. and of its bases: no class of one's own but SlotError -/
def emrB (K : PySem.W.Frag) (x : Str) : Bool := (match PySem.W.clsIn K (He.ga K x) with
  | some cd => !cd.mro.isEmpty && cd.mro.all fun v => match v with
    | .ref a => decide (a = He.ga K x ∨ a = He.ga K "SlotError")
    | _ => true
  | none => false) && (match PySem.W.clsIn K (He.ga K "SlotError") with
  | some cd => decide (cd.name = "SlotError")
  | none => false)
def eclB (K : PySem.W.Frag) (x : Str) : Bool := eclB0 K x && (erpB K x && emrB K x)
theorem eclB_rep {K : PySem.W.Frag} {x : Str} (h : eclB K x = true) : RepC K (He.ga K x) x := by
  unfold eclB at h
  have h := (Bool.and_eq_true _ _ ▸ (Bool.and_eq_true _ _ ▸ h).2).1
  unfold erpB at h
  simp only [Bool.and_eq_true, decide_eq_true_eq] at h
  refine ⟨He.eqO_ok h.1, h.2.1, ?_⟩
  have h3 := h.2.2
  split at h3
  · rename_i cd e
    exact ⟨cd, e, of_decide_eq_true h3⟩
  · cases h3
/-- another class of one's own is no base -/
theorem eclB_other {K : PySem.W.Frag} {x y : Str} (hx : eclB K x = true) (hy : eclB K y = true) (ne : x ≠ y) (ns : y ≠ "SlotError") : PySem.W.kitOne K (.ref (He.ga K x)) (.ref (He.ga K y)) = some false := by
  obtain ⟨cx, ex, nx⟩ := (eclB_rep hx).nam
  obtain ⟨cy, ey, ny⟩ := (eclB_rep hy).nam
  have mx : emrB K x = true := by
    unfold eclB at hx
    simp only [Bool.and_eq_true] at hx
    exact hx.2.2
  unfold emrB at mx
  rw [ex] at mx
  cases es : PySem.W.clsIn K (He.ga K "SlotError") with
  | none => rw [es] at mx; simp at mx
  | some cs =>
    rw [es] at mx
    simp only [Bool.and_eq_true, decide_eq_true_eq, Bool.not_eq_true'] at mx
    obtain ⟨⟨m0, m1⟩, m2⟩ := mx
    have d1 : He.ga K y ≠ He.ga K x := fun z => by
      rw [z, ex] at ey
      cases ey
      exact ne (nx.symm.trans ny)
    have d2 : He.ga K y ≠ He.ga K "SlotError" := fun z => by
      rw [z, es] at ey
      cases ey
      exact ns (ny.symm.trans m2)
    have ty : PySem.W.typeIn K (.ref (He.ga K y)) = some (.type "type") := by
      have h0 : eclB0 K y = true := by
        unfold eclB at hy
        simp only [Bool.and_eq_true] at hy
        exact hy.1
      unfold eclB0 at h0
      simp only [Bool.and_eq_true] at h0
      exact (He.exc_ok h0.1).2.2.2
    have b1 : ((Value.ref (He.ga K x)) == Value.ref (He.ga K y)) = false := beq_eq_false_iff_ne.mpr fun z => d1 (Value.ref.inj z).symm
    have b2 : cx.mro.contains (Value.ref (He.ga K y)) = false := by
      cases q : cx.mro.contains (Value.ref (He.ga K y)) with
      | false => rfl
      | true =>
        have := List.all_eq_true.mp m1 _ (by simpa using q)
        simp only [decide_eq_true_eq] at this
        rcases this with z | z
        · exact absurd z d1
        · exact absurd z d2
    unfold PySem.W.kitOne
    rw [b1]
    simp only [Bool.false_eq_true, if_false]
    unfold PySem.W.kitCls
    simp only [ey, ty, Option.isSome_some, beq_self_eq_true, Bool.and_self, if_true, PySem.W.subIn, PySem.W.mroIn, ex, Option.bind_some, m0, b2, Bool.false_eq_true, if_false]
/-- an error object, made and not raised -/
def ErrS (K : PySem.W.Frag) (H : Hp) (a : Addr) (x : Str) (m : Option Str) : Prop := ∃ oe vs, H a = some (.frz oe (.own a)) ∧ oe.cls = .ref (He.ga K x) ∧ oe.dict = none ∧ oe.data = .fields vs ∧ ∀ t, m = some t → ∃ t0 ot, vs[0]? = some (.ref t0) ∧ H t0 = some (.frz ot (.tup [V.str t]))
-- a key as the library has it
mutual
def nkU : U → Option NestedKey
  | .non => some .none
  | .bl b => some (.num (if b = true then 1 else 0))
  | .int i => some (.num i)
  | .str x => some (.text x)
  | .tup us => (nkUs us).map .tup
  | _ => none
def nkUs : List U → Option (List NestedKey)
  | [] => some []
  | u :: us => match nkU u, nkUs us with
    | some k, some ks => some (k :: ks)
    | _, _ => none
end
def kU : Key → U
  | .inl i => .int i
  | .inr x => .str x
/-- a dict whose keys are tuples of any depth, at a -/
def DnO (a : Addr) (xs : List (NestedKey × Addr × V)) : HO := .ext fun h => (a == sysModules) = false ∧ ∃ ys : List (NestedKey × Addr × Value),
  Paired (fun p q => p.1 = q.1 ∧ p.2.1 = q.2.1 ∧ RelV p.2.2 q.2.2) xs ys ∧ ∃ o es ep, h.get? a = some o ∧ o.ExactDict ∧ o.data = .dict es ep ∧
  es.toList = ys.map (fun x => (⟨x.1.hash WW.w, .ref x.2.1, x.2.2⟩ : DictEntry)) ∧ (ys.map (·.1)).Nodup
/-- the dict o at a has the keys ks, kv, with the values vv -/
def DicS (a : Addr) (ks : List U) (kv vv : List V) (o : HO) : Prop :=
  (∃ kvs : List (Key × V), o = .dK kvs ∧ kv = kvs.map (fun p => kV p.1) ∧ vv = kvs.map (·.2) ∧ ks = kvs.map (fun p => kU p.1)) ∨
  (∃ xs : List (NestedKey × Addr × V), xs ≠ [] ∧ xs.length ≤ sizeLine ∧ (∀ x ∈ xs, x.1.depth ≤ 8) ∧ o = DnO a xs ∧ kv = xs.map (fun x => V.ref x.2.1) ∧ vv = xs.map (·.2.2) ∧ ks.map nkU = xs.map fun x => some x.1)
theorem DicS.isD {a : Addr} {ks : List U} {kv vv : List V} {o : HO} (d : DicS a ks kv vv o) : isDO o := by
  rcases d with ⟨_, rfl, _⟩ | ⟨_, _, _, _, rfl, _⟩
  · exact trivial
  · exact trivial
theorem isDO.mut {o : HO} (d : isDO o) : Mut (some o) := by
  cases o with
  | dK _ => exact trivial
  | ext _ => exact trivial
  | _ => exact d.elim
/-- an error object of a class of one's own, with one field -/
def ErrF (K : PySem.W.Frag) (H : Hp) (a d : Addr) (x : Str) : Prop := ∃ oe vs, H a = some (.frz oe (.own a)) ∧ oe.cls = .ref (He.ga K x) ∧ oe.dict = some d ∧ oe.data = .fields vs
/-- what is asked of an error class that keeps a field by an __init__ of its own -/
def ecfB (K : PySem.W.Frag) (x f : Str) : Bool := L2.xfB K (He.ga K x) && (decide (PySem.W.findIn K (.ref (He.ga K x)) f = some none) && decide (PySem.W.exmOne K (.ref (He.ga K x)) (.ref (He.ga K x)) = some true))
mutual
inductive RV (K : PySem.W.Frag) (W : Wd) (H : Hp) : U → V → Prop
  | non : RV K W H .non .non
  | bl (b : Bool) : RV K W H (.bl b) (.bl b)
  | int (i : Int) : RV K W H (.int i) (.int i)
  | str (x : Str) : RV K W H (.str x) (.str x)
  | ty (n : String) : RV K W H (.ty n) (.ty n)
  | tup {us : List U} {a : Addr} {vs : List V} : TupS K H a vs → RVs K W H us vs → RV K W H (.tup us) (.ref a)
  | lst {us : List U} {a : Addr} {vs : List V} : W.own a = some .frz → H a = some (.lst vs) → RVs K W H us vs → RV K W H (.lst us) (.ref a)
  | scr {ns : List Int} {a : Addr} : ScrS K H a (ns.map V.int) → RV K W H (.scr ns) (.ref a)
  | ref {i : Nat} {a : Addr} : W.mp[i]? = some a → W.own a = some (.obj i) → RV K W H (.ref i) (.ref a)
  | err {x : Str} {m : Option Str} {a : Addr} : ErrS K H a x m → eclB K x = true → RV K W H (.err x m) (.ref a)
  | ecl {x : Str} {a : Addr} : a = He.ga K x → eclB K x = true → RV K W H (.ecl x) (.ref a)
  | dic {ks vs : List U} {a : Addr} {o : HO} {kv vv : List V} : (W.own a = some .frz ∧ H a = some o) ∨ (∃ od, H a = some (.frz od o)) → DicS a ks kv vv o → RVs K W H ks kv → RVs K W H vs vv → RV K W H (.dic ks vs) (.ref a)
  | erf {x f : Str} {u : U} {v : V} {a d : Addr} : ErrF K H a d x → ecfB K x f = true → W.own d = some .frz → H d = some (.xd [(f, v)]) → RV K W H u v → RV K W H (.erf x f u) (.ref a)
inductive RVs (K : PySem.W.Frag) (W : Wd) (H : Hp) : List U → List V → Prop
  | nil : RVs K W H [] []
  | cons {u : U} {v : V} {us : List U} {vs : List V} : RV K W H u v → RVs K W H us vs → RVs K W H (u :: us) (v :: vs)
end
section
variable {K : PySem.W.Frag} {W W' : Wd} {H H' : Hp} {a : Addr} {vs : List V}
theorem TupS.le (l : LeP W H W' H') (h : TupS K H a vs) : TupS K H' a vs := by
  rcases h with ⟨o, d, h⟩ | h
  · exact .inl ⟨o, d, l.fz _ _ _ h⟩
  · exact .inr h
theorem ScrS.le (l : LeP W H W' H') (h : ScrS K H a vs) : ScrS K H' a vs := by
  rcases h with ⟨o, h⟩ | h
  · exact .inl ⟨o, l.fz _ _ _ h⟩
  · exact .inr h
theorem ScrS.sq (h : ScrS K H a vs) : SqL K H a vs := by
  rcases h with h | h
  · exact .inl (.inr h)
  · exact .inr h
theorem ErrS.le {x : Str} {m : Option Str} (l : LeP W H W' H') (h : ErrS K H a x m) : ErrS K H' a x m := by
  obtain ⟨oe, us, e, r1, r2, r3, r4⟩ := h
  exact ⟨oe, us, l.fz _ _ _ e, r1, r2, r3, fun t e => by
    obtain ⟨t0, ot, q1, q2⟩ := r4 t e
    exact ⟨t0, ot, q1, l.fz _ _ _ q2⟩⟩
theorem ErrF.le {x : Str} {d : Addr} (l : LeP W H W' H') (h : ErrF K H a d x) : ErrF K H' a d x := by
  obtain ⟨oe, us, e, r⟩ := h
  exact ⟨oe, us, l.fz _ _ _ e, r⟩
theorem dic_le {o : HO} (l : LeP W H W' H') (d : isDO o) (h : (W.own a = some .frz ∧ H a = some o) ∨ (∃ od, H a = some (.frz od o))) : (W'.own a = some .frz ∧ H' a = some o) ∨ (∃ od, H' a = some (.frz od o)) := by
  rcases h with ⟨n, h⟩ | ⟨od, h⟩
  · obtain ⟨n1, h1 | ⟨_, od, h1⟩⟩ := l.fr _ _ h n
    · exact .inl ⟨n1, h1⟩
    · exact .inr ⟨od, h1⟩
  · exact .inr ⟨od, l.fz _ _ _ h⟩
theorem TupS.sq (h : TupS K H a vs) : SqT K H a vs := by
  rcases h with ⟨o, _, h⟩ | ⟨o, its, n, h1, h2, _, h3, h4, h5⟩
  · exact .inl (.inr ⟨o, h⟩)
  · exact .inr ⟨o, its, n, h1, h2, h3, h4, h5⟩
/-- a tuple is one in the heap, and has no dict -/
theorem TupS.plain {X : Cx} {pins : List (Addr × Obj)} {σ : L2.St} {s : Shared} (I : L2.Inv X pins σ H s) (h : TupS X.K H a vs) : s.TypeIs (.ref a) "tuple" ∧ ∃ ob, s.heap.get? a = some ob ∧ ob.dict = none := by
  rcases h with ⟨o, d, h⟩ | ⟨o, its, n, h1, h2, d, _⟩
  · obtain ⟨g, _, _, _, t⟩ := I.hok _ _ h
    exact ⟨t.typeIs, o, g, d⟩
  · exact ⟨⟨o, I.kIn a o h1, h2⟩, o, I.kIn a o h1, d⟩
end
mutual
theorem RV.le {K : PySem.W.Frag} {W W' : Wd} {H H' : Hp} (l : LeP W H W' H') : ∀ {u : U} {v : V}, RV K W H u v → RV K W' H' u v
  | _, _, .non => .non
  | _, _, .bl b => .bl b
  | _, _, .int i => .int i
  | _, _, .str x => .str x
  | _, _, .ty n => .ty n
  | _, _, .tup h r => .tup (h.le l) (RVs.le l r)
  | _, _, .lst n h r => .lst (l.frl h n).1 (l.frl h n).2 (RVs.le l r)
  | _, _, .scr h => .scr (h.le l)
  | _, _, .ref h o => .ref (l.at_ h) (l.ob _ _ h o)
  | _, _, .err h c => .err (h.le l) c
  | _, _, .ecl e c => .ecl e c
  | _, _, .dic h d r s => .dic (dic_le l d.isD h) d (RVs.le l r) (RVs.le l s)
  | _, _, .erf h c n x r => .erf (h.le l) c (l.frx x n).1 (l.frx x n).2 (RV.le l r)
theorem RVs.le {K : PySem.W.Frag} {W W' : Wd} {H H' : Hp} (l : LeP W H W' H') : ∀ {us : List U} {vs : List V}, RVs K W H us vs → RVs K W' H' us vs
  | _, _, .nil => .nil
  | _, _, .cons a b => .cons (RV.le l a) (RVs.le l b)
end
section
variable {K : PySem.W.Frag} {W W' : Wd} {H H' : Hp}
theorem RVs.length : ∀ {us : List U} {vs : List V}, RVs K W H us vs → us.length = vs.length
  | _, _, .nil => rfl
  | _, _, .cons _ b => congrArg Nat.succ (RVs.length b)
theorem RVs.get : ∀ {us : List U} {vs : List V} {i : Nat} {u : U}, RVs K W H us vs → us[i]? = some u → ∃ v, vs[i]? = some v ∧ RV K W H u v
  | _, _, _, _, .nil, e => by simp at e
  | _, _, 0, _, .cons r _, e => by simp at e; subst e; exact ⟨_, rfl, r⟩
  | _, _, i + 1, u, .cons _ t, e => by
    obtain ⟨v, h1, h2⟩ := RVs.get (i := i) (u := u) t (by simpa using e)
    exact ⟨v, by simpa using h1, h2⟩
theorem RVs.append : ∀ {us us' : List U} {vs vs' : List V}, RVs K W H us vs → RVs K W H us' vs' → RVs K W H (us ++ us') (vs ++ vs')
  | _, _, _, _, .nil, s => s
  | _, _, _, _, .cons r t, s => .cons r (RVs.append t s)
theorem RVs.take : ∀ {us : List U} {vs : List V} (n : Nat), RVs K W H us vs → RVs K W H (us.take n) (vs.take n)
  | _, _, 0, _ => .nil
  | _, _, _ + 1, .nil => .nil
  | _, _, n + 1, .cons r t => .cons r (RVs.take n t)
theorem RVs.drop : ∀ {us : List U} {vs : List V} (n : Nat), RVs K W H us vs → RVs K W H (us.drop n) (vs.drop n)
  | _, _, 0, r => r
  | _, _, _ + 1, .nil => .nil
  | _, _, n + 1, .cons _ t => RVs.drop n t
theorem RVs.set {u : U} {v : V} (r : RV K W H u v) : ∀ {us : List U} {vs : List V} (i : Nat), RVs K W H us vs → RVs K W H (us.set i u) (vs.set i v)
  | _, _, _, .nil => .nil
  | _, _, 0, .cons _ t => .cons r t
  | _, _, i + 1, .cons q t => .cons q (RVs.set r i t)
theorem RVs.reverse : ∀ {us : List U} {vs : List V}, RVs K W H us vs → RVs K W H us.reverse vs.reverse
  | _, _, .nil => .nil
  | _, _, .cons r t => by
    rw [List.reverse_cons, List.reverse_cons]
    exact RVs.append (RVs.reverse t) (.cons r .nil)
end

def RSv (K : PySem.W.Frag) (W : Wd) (H : Hp) (w : Ow) : Sv → V → Prop
  | .val u, v => RV K W H u v
  | .own us, v => ∃ a vs, v = .ref a ∧ W.own a = some w ∧ H a = some (.lst vs) ∧ RVs K W H us vs
  | .dic ks us, v => ∃ a o kv vv, v = .ref a ∧ W.own a = some w ∧ H a = some o ∧ DicS a ks kv vv o ∧ RVs K W H ks kv ∧ RVs K W H us vv
def RO (K : PySem.W.Frag) (W : Wd) (H : Hp) (a : Addr) : Ob → Prop
  | .lst us => ∃ vs, H a = some (.lst vs) ∧ RVs K W H us vs

/-- the shared objects -/
structure SimH (K : PySem.W.Frag) (W : Wd) (h : Hv) (H : Hp) : Prop where
  len : W.mp.length = h.length
  objs : ∀ i o, h[i]? = some o → ∃ a, W.mp[i]? = some a ∧ W.own a = some (.obj i) ∧ RO K W H a o
  dom : ∀ a w, W.own a = some w → ∃ o, H a = some o
structure Sim (K : PySem.W.Frag) (W : Wd) (env : En) (h : Hv) (σ : L2.St) (H : Hp) : Prop where
  sh : SimH K W h H
  len : env.length = σ.length
  slots : ∀ k sv, env[k]? = some (some sv) → ∃ v, σ[k]? = some (some v) ∧ RSv K W H (.slot k) sv v

section
variable {K : PySem.W.Frag} {W W' : Wd} {H H' : Hp} {h : Hv} {env : En} {σ : L2.St} {p : Addr} {o : HO} {w w' : Ow}
/-- the world moves at one address alone: p is new, or owned and not frozen (and no shared object, or still that) -/
structure At (W : Wd) (H : Hp) (p : Addr) (w' : Option Ow) : Prop where
  ow : (H p = none ∧ W.own p = none) ∨ ∃ w, W.own p = some w ∧ w ≠ .frz
  ls : H p = none ∨ ∃ o, H p = some o ∧ Mut (some o)
  ob : ∀ i, W.own p = some (.obj i) → w' = some (.obj i)
theorem At.le (q : At W H p (some w')) (hH : ∀ a, a ≠ p → H' a = H a) : LeW W H (W.put p (some w')) H' where
  st := fun a u e n => by
    have ne : a ≠ p := fun z => by
      subst z
      rcases q.ow with ⟨h1, _⟩ | ⟨w, h1, _⟩
      · rw [h1] at e; cases e
      · rw [h1] at n; cases n
    exact ⟨by rw [Wd.put_ne ne]; exact n, by rw [hH a ne]; exact e⟩
  fr := fun a u e n => by
    have ne : a ≠ p := fun z => by
      subst z
      rcases q.ow with ⟨h1, _⟩ | ⟨w, h1, h2⟩
      · rw [h1] at e; cases e
      · rw [h1] at n; cases n; exact h2 rfl
    exact ⟨by rw [Wd.put_ne ne]; exact n, .inl (by rw [hH a ne]; exact e)⟩
  tp := fun a vs e => by
    have ne : a ≠ p := fun z => by
      subst z
      rcases q.ls with h1 | ⟨w, h1, m⟩
      · rw [h1] at e; cases e
      · rw [h1] at e; cases e; exact m.elim
    rw [hH a ne]; exact e
  fz := fun a o vs e => by
    have ne : a ≠ p := fun z => by
      subst z
      rcases q.ls with h1 | ⟨w, h1, m⟩
      · rw [h1] at e; cases e
      · rw [h1] at e; cases e; exact m.elim
    rw [hH a ne]; exact e
  mp := ⟨[], by simp [Wd.put]⟩
  ob := fun i a _ n => by
    by_cases e : a = p
    · subst e
      rw [Wd.put_same]
      exact q.ob i n
    · rw [Wd.put_ne e]; exact n
theorem At.new (S : SimH K W h H) (e : H p = none) : At W H p (some w') := by
  have n : W.own p = none := by
    cases q : W.own p with
    | none => rfl
    | some w =>
      obtain ⟨o, e'⟩ := S.dom p w q
      rw [e] at e'; cases e'
  exact ⟨.inl ⟨e, n⟩, .inl e, fun i z => by rw [n] at z; cases z⟩
theorem At.tmp {vs : List V} (e : W.own p = some .tmp) (l : H p = some (.lst vs)) : At W H p (some w') := ⟨.inr ⟨_, e, fun z => by cases z⟩, .inr ⟨_, l, trivial⟩, fun i z => by rw [e] at z; cases z⟩
theorem At.slot {k : Nat} {vs : List V} (e : W.own p = some (.slot k)) (l : H p = some (.lst vs)) : At W H p (some w') := ⟨.inr ⟨_, e, fun z => by cases z⟩, .inr ⟨_, l, trivial⟩, fun i z => by rw [e] at z; cases z⟩
theorem At.obj {i : Nat} {vs : List V} (e : W.own p = some (.obj i)) (l : H p = some (.lst vs)) : At W H p (some (.obj i)) := ⟨.inr ⟨_, e, fun z => by cases z⟩, .inr ⟨_, l, trivial⟩, fun j z => by rw [e] at z; cases z; rfl⟩

theorem SimH.step (S : SimH K W h H) (q : At W H p (some w')) (hno : ∀ i, W.own p ≠ some (.obj i)) (hH : ∀ a, a ≠ p → H' a = H a) (hp : ∃ o, H' p = some o) : SimH K (W.put p (some w')) h H' where
  len := S.len
  objs := fun i o e => by
    obtain ⟨a, m, n, r⟩ := S.objs i o e
    have ne : a ≠ p := fun z => by subst z; exact hno i n
    refine ⟨a, m, by rw [Wd.put_ne ne]; exact n, ?_⟩
    cases o with
    | lst us =>
      obtain ⟨vs, e1, rv⟩ := r
      exact ⟨vs, by rw [hH a ne]; exact e1, rv.le (q.le hH).toLeP⟩
  dom := fun a w e => by
    by_cases z : a = p
    · subst z; exact hp
    · rw [Wd.put_ne z] at e
      rw [hH a z]
      exact S.dom a w e
theorem Sim.step (S : Sim K W env h σ H) (q : At W H p (some w')) (hno : ∀ i, W.own p ≠ some (.obj i)) (hns : ∀ k, W.own p ≠ some (.slot k)) (hH : ∀ a, a ≠ p → H' a = H a) (hp : ∃ o, H' p = some o) : Sim K (W.put p (some w')) env h σ H' where
  sh := S.sh.step q hno hH hp
  len := S.len
  slots := fun k sv e => by
    obtain ⟨v, e1, r⟩ := S.slots k sv e
    refine ⟨v, e1, ?_⟩
    cases sv with
    | val u => exact RV.le (q.le hH).toLeP r
    | own us =>
      obtain ⟨a, vs, rfl, n, ea, rv⟩ := r
      have ne : a ≠ p := fun z => by subst z; exact hns k n
      exact ⟨a, vs, rfl, by rw [Wd.put_ne ne]; exact n, by rw [hH a ne]; exact ea, rv.le (q.le hH).toLeP⟩
    | dic ks us =>
      obtain ⟨a, o, kv, vv, rfl, n, ea, ds, r1, r2⟩ := r
      have ne : a ≠ p := fun z => by subst z; exact hns k n
      exact ⟨a, o, kv, vv, rfl, by rw [Wd.put_ne ne]; exact n, by rw [hH a ne]; exact ea, ds, r1.le (q.le hH).toLeP, r2.le (q.le hH).toLeP⟩
/-- a new object, ours for the moment (or frozen) -/
theorem Sim.alloc (S : Sim K W env h σ H) (e : H p = none) (o : HO) (w' : Ow) : Sim K (W.put p (some w')) env h σ (upd H p o) ∧ LeW W H (W.put p (some w')) (upd H p o) := by
  have q : At W H p (some w') := At.new S.sh e
  have n : W.own p = none := by
    rcases q.ow with ⟨_, n⟩ | ⟨w, n, _⟩
    · exact n
    · obtain ⟨o, e'⟩ := S.sh.dom p w n
      rw [e] at e'; cases e'
  exact ⟨S.step q (fun i z => by rw [n] at z; cases z) (fun i z => by rw [n] at z; cases z) (fun a ne => upd_ne ne) ⟨o, upd_same⟩, q.le fun a ne => upd_ne ne⟩
/-- .. nobody's: a tuple -/
theorem LeW.none_ (S : SimH K W h H) (e : H p = none) (o : HO) : LeW W H W (upd H p o) where
  st := fun a u ea n => ⟨n, by rw [upd_ne (fun z => by subst z; rw [e] at ea; cases ea)]; exact ea⟩
  fr := fun a u ea n => ⟨n, .inl (by rw [upd_ne (fun z => by subst z; rw [e] at ea; cases ea)]; exact ea)⟩
  tp := fun a u ea => by rw [upd_ne (fun z => by subst z; rw [e] at ea; cases ea)]; exact ea
  fz := fun a u _ ea => by rw [upd_ne (fun z => by subst z; rw [e] at ea; cases ea)]; exact ea
  mp := ⟨[], by simp⟩
  ob := fun _ _ _ n => n
theorem SimH.none_ (S : SimH K W h H) (e : H p = none) (o : HO) : SimH K W h (upd H p o) where
  len := S.len
  objs := fun i ob eo => by
    obtain ⟨a, m, n, r⟩ := S.objs i ob eo
    obtain ⟨z, ez⟩ := S.dom a _ n
    have ne : a ≠ p := fun q => by subst q; rw [e] at ez; cases ez
    refine ⟨a, m, n, ?_⟩
    cases ob with
    | lst us =>
      obtain ⟨vs, e1, rv⟩ := r
      exact ⟨vs, by rw [upd_ne ne]; exact e1, rv.le (LeW.none_ S e o).toLeP⟩
  dom := fun a w ea => by
    by_cases z : a = p
    · subst z; exact ⟨o, upd_same⟩
    · rw [upd_ne z]; exact S.dom a w ea
theorem Sim.none_ (S : Sim K W env h σ H) (e : H p = none) (o : HO) : Sim K W env h σ (upd H p o) where
  sh := S.sh.none_ e o
  len := S.len
  slots := fun k sv es => by
    obtain ⟨v, e1, r⟩ := S.slots k sv es
    refine ⟨v, e1, ?_⟩
    cases sv with
    | val u => exact RV.le (LeW.none_ S.sh e o).toLeP r
    | own us =>
      obtain ⟨a, vs, rfl, n, ea, rv⟩ := r
      have ne : a ≠ p := fun q => by subst q; rw [e] at ea; cases ea
      exact ⟨a, vs, rfl, n, by rw [upd_ne ne]; exact ea, rv.le (LeW.none_ S.sh e o).toLeP⟩
    | dic ks us =>
      obtain ⟨a, o2, kv, vv, rfl, n, ea, ds, r1, r2⟩ := r
      have ne : a ≠ p := fun q => by subst q; rw [e] at ea; cases ea
      exact ⟨a, o2, kv, vv, rfl, n, by rw [upd_ne ne]; exact ea, ds, r1.le (LeW.none_ S.sh e o).toLeP, r2.le (LeW.none_ S.sh e o).toLeP⟩
theorem SimH.own_none (S : SimH K W h H) (e : H p = none) : W.own p = none := by
  cases q : W.own p with
  | none => rfl
  | some w =>
    obtain ⟨o, e'⟩ := S.dom p w q
    rw [e] at e'; cases e'
/-- what an expression gave becomes a frozen value -/
@[simp] def Sv.u : Sv → U
  | .val u => u
  | .own us => .lst us
  | .dic ks us => .dic ks us
theorem At.tmpO {o : HO} (e : W.own p = some .tmp) (l : H p = some o) (m : Mut (some o)) : At W H p (some w') := ⟨.inr ⟨_, e, fun z => by cases z⟩, .inr ⟨_, l, m⟩, fun i z => by rw [e] at z; cases z⟩
theorem At.slotO {k : Nat} {o : HO} (e : W.own p = some (.slot k)) (l : H p = some o) (m : Mut (some o)) : At W H p (some w') := ⟨.inr ⟨_, e, fun z => by cases z⟩, .inr ⟨_, l, m⟩, fun i z => by rw [e] at z; cases z⟩
theorem Sim.freeze (S : Sim K W env h σ H) {sv : Sv} {v : V} (r : RSv K W H .tmp sv v) : ∃ W', Sim K W' env h σ H ∧ LeW W H W' H ∧ RV K W' H sv.u v := by
  cases sv with
  | val u => exact ⟨W, S, .refl, r⟩
  | own us =>
    obtain ⟨a, vs, rfl, n, ea, rv⟩ := r
    have q : At W H a (some .frz) := .tmp n ea
    have l : LeW W H (W.put a (some .frz)) H := q.le fun _ _ => rfl
    refine ⟨_, S.step q (fun i z => by rw [n] at z; cases z) (fun i z => by rw [n] at z; cases z) (fun _ _ => rfl) ⟨_, ea⟩, l, ?_⟩
    exact .lst Wd.put_same ea (rv.le l.toLeP)
  | dic ks us =>
    obtain ⟨a, o, kv, vv, rfl, n, ea, ds, r1, r2⟩ := r
    have q : At W H a (some .frz) := .tmpO n ea ds.isD.mut
    have l : LeW W H (W.put a (some .frz)) H := q.le fun _ _ => rfl
    refine ⟨_, S.step q (fun i z => by rw [n] at z; cases z) (fun i z => by rw [n] at z; cases z) (fun _ _ => rfl) ⟨_, ea⟩, l, ?_⟩
    exact .dic (.inl ⟨Wd.put_same, ea⟩) ds (r1.le l.toLeP) (r2.le l.toLeP)
/-- a value is stored in a slot -/
theorem Sim.store (S : Sim K W env h σ H) {k : Nat} {u : U} {v : V} (hk : k < env.length) (r : RV K W H u v) : Sim K W (env.set k (some (.val u))) h (σ.set k (some v)) H where
  sh := S.sh
  len := by simpa using S.len
  slots := fun j sv e => by
    by_cases z : j = k
    · subst z
      rw [List.getElem?_set_self hk] at e
      cases e
      exact ⟨v, List.getElem?_set_self (by rw [← S.len]; exact hk), r⟩
    · rw [List.getElem?_set_ne (Ne.symm z)] at e
      rw [List.getElem?_set_ne (Ne.symm z)]
      exact S.slots j sv e
end
end Vi

/-! Vi2: programs over trees: what they ask (u..), and that they tell what the text does (we_.., wt_.., ws_..). -/
namespace Vi
open PySem PySem.Spec PyProof.Rows L2
variable [WW]

/-- where one stands: the written part, the classes' places by name, the wish about exceptions -/
structure Lx where
  K : PySem.W.Frag
  ga : Str → Addr
  wx : WX
abbrev UM (α : Type) := En → Hv → (α → En → Hv → Prop) → (Ex → En → Hv → Prop) → Prop
abbrev UE := UM Sv
abbrev UT := UM Bool
abbrev UA := UM (List U)
structure UD where
  nx : En → Hv → Prop
  rt : Sv → En → Hv → Prop
  er : Ex → En → Hv → Prop
  bk : En → Hv → Prop := fun _ _ => False
  ct : En → Hv → Prop := fun _ _ => False
abbrev US := En → Hv → UD → Prop

def ExR (K : PySem.W.Frag) (ga : Str → Addr) (W : Wd) (H : Hp) (ex : Ex) (cls : Value) (d : Option Addr) : Prop :=
  cls = .ref (ga ex.cls) ∧ (ex.arg = none → d = none) ∧ ∀ f u, ex.arg = some (f, u) → ∃ dd v, d = some dd ∧ W.own dd = some .frz ∧ H dd = some (.xd [(f, v)]) ∧ RV K W H u v
/-- what follows, for every world from here on -/
structure Cont {α β : Type} (L : Lx) (R : Wd → Hp → α → β → Prop) (W : Wd) (H : Hp) (σ : L2.St) (Po : α → En → Hv → Prop) (Pe : Ex → En → Hv → Prop) (Q : β → Hp → Prop) : Prop where
  ok : ∀ W' x env' h' y H', LeW W H W' H' → Sim L.K W' env' h' σ H' → R W' H' x y → Po x env' h' → Q y H'
  er : ∀ W' ex env' h' H' cls d, LeW W H W' H' → Sim L.K W' env' h' σ H' → ExR L.K L.ga W' H' ex cls d → Pe ex env' h' → L.wx cls d σ H'
theorem Cont.le {α β : Type} {L : Lx} {R : Wd → Hp → α → β → Prop} {W W1 : Wd} {H H1 : Hp} {σ : L2.St} {Po : α → En → Hv → Prop} {Pe : Ex → En → Hv → Prop} {Q : β → Hp → Prop} (c : Cont L R W H σ Po Pe Q) (l : LeW W H W1 H1) : Cont L R W1 H1 σ Po Pe Q :=
  ⟨fun W' x env' h' y H' l' => c.ok W' x env' h' y H' (l.trans l'), fun W' ex env' h' H' cls d l' => c.er W' ex env' h' H' cls d (l.trans l')⟩
def lg {α β : Type} (L : Lx) (R : Wd → Hp → α → β → Prop) (t : UM α) : L2.St → Hp → (β → Hp → Prop) → Prop := fun σ H Q =>
  ∃ W env h Po Pe, Sim L.K W env h σ H ∧ t env h Po Pe ∧ Cont L R W H σ Po Pe Q
abbrev RT (L : Lx) : Wd → Hp → Sv → V → Prop := fun W H sv v => RSv L.K W H .tmp sv v
abbrev RB : Wd → Hp → Bool → Bool → Prop := fun _ _ b c => b = c
abbrev RA (L : Lx) : Wd → Hp → List U → List V → Prop := fun W H us vs => RVs L.K W H us vs
def WE (X : Cx) (L : Lx) (e : Expr) (t : UE) : Prop := PE X e (lg L (RT L) t)
def WT (X : Cx) (L : Lx) (e : Expr) (t : UT) : Prop := PT X e (lg L RB t)
def WTw (X : Cx) (L : Lx) (e : Expr) (t : UT) : Prop := PW X e (lg L RB t)
def WA (X : Cx) (L : Lx) (es : List Expr) (t : UA) : Prop := PA X es (lg L (RA L) t)
/-- what follows a statement -/
structure SCont (L : Lx) (W : Wd) (H : Hp) (P : UD) (D : Ends) : Prop where
  nx : ∀ W' env' h' σ' H', LeW W H W' H' → Sim L.K W' env' h' σ' H' → P.nx env' h' → D.nx σ' H'
  bk : ∀ W' env' h' σ' H', LeW W H W' H' → Sim L.K W' env' h' σ' H' → P.bk env' h' → D.bk σ' H'
  ct : ∀ W' env' h' σ' H', LeW W H W' H' → Sim L.K W' env' h' σ' H' → P.ct env' h' → D.ct σ' H'
  rt : ∀ W' sv env' h' σ' v H', LeW W H W' H' → Sim L.K W' env' h' σ' H' → RSv L.K W' H' .tmp sv v → P.rt sv env' h' → D.rt v H'
  er : ∀ W' ex env' h' σ' H' cls d, LeW W H W' H' → Sim L.K W' env' h' σ' H' → ExR L.K L.ga W' H' ex cls d → P.er ex env' h' → L.wx cls d σ' H'
theorem SCont.le {L : Lx} {W W1 : Wd} {H H1 : Hp} {P : UD} {D : Ends} (c : SCont L W H P D) (l : LeW W H W1 H1) : SCont L W1 H1 P D :=
  ⟨fun W' env' h' σ' H' l' => c.nx W' env' h' σ' H' (l.trans l'), fun W' env' h' σ' H' l' => c.bk W' env' h' σ' H' (l.trans l'), fun W' env' h' σ' H' l' => c.ct W' env' h' σ' H' (l.trans l'),
   fun W' sv env' h' σ' v H' l' => c.rt W' sv env' h' σ' v H' (l.trans l'), fun W' ex env' h' σ' H' cls d l' => c.er W' ex env' h' σ' H' cls d (l.trans l')⟩
def ls (L : Lx) (t : US) : TS := fun D σ H => ∃ W env h P, Sim L.K W env h σ H ∧ t env h P ∧ SCont L W H P D
def WS (X : Cx) (L : Lx) (s : Stmt) (t : US) : Prop := PS X s (ls L t)
def WSs (X : Cx) (L : Lx) (s : List Stmt) (t : US) : Prop := PSs X s (ls L t)

section
variable {X : Cx}
theorem PE.wk {e : Expr} {t t' : TE} (h : PE X e t) (w : ∀ σ H Q, t' σ H Q → t σ H Q) : PE X e t' := ⟨fun pins s σ H Q I q => h.run pins s σ H Q I (w _ _ _ q)⟩
theorem PT.wk {e : Expr} {t t' : TT} (h : PT X e t) (w : ∀ σ H Q, t' σ H Q → t σ H Q) : PT X e t' := ⟨fun pins s σ H Q I q => h.run pins s σ H Q I (w _ _ _ q)⟩
theorem PW.wk {e : Expr} {t t' : TT} (h : PW X e t) (w : ∀ σ H Q, t' σ H Q → t σ H Q) : PW X e t' := ⟨fun wh pins s σ H Q I q => h.run wh pins s σ H Q I (w _ _ _ q)⟩
theorem PA.wk {e : List Expr} {t t' : TA} (h : PA X e t) (w : ∀ σ H Q, t' σ H Q → t σ H Q) : PA X e t' := ⟨fun p pins s σ H Q I q => h.run p pins s σ H Q I (w _ _ _ q)⟩
theorem PS.wk {e : Stmt} {t t' : TS} (h : PS X e t) (w : ∀ D σ H, t' D σ H → t D σ H) : PS X e t' := ⟨fun pins s σ H D I q => h.run pins s σ H D I (w _ _ _ q)⟩
theorem PSs.wk {e : List Stmt} {t t' : TS} (h : PSs X e t) (w : ∀ D σ H, t' D σ H → t D σ H) : PSs X e t' := ⟨fun pins s σ H D I q => h.run pins s σ H D I (w _ _ _ q)⟩
end

/-! ### names and constants -/
@[simp] def uVal (u : U) : UE := fun env h Po _ => Po (.val u) env h
@[simp] def uVar (k : Nat) : UE := fun env h Po _ => match env[k]? with
  | some (some (.val u)) => Po (.val u) env h
  | some (some (.own us)) => Po (.val (.lst us)) (env.set k (some (.val (.lst us)))) h
  | some (some (.dic ks us)) => Po (.val (.dic ks us)) (env.set k (some (.val (.dic ks us)))) h
  | _ => False
section
variable {X : Cx} {L : Lx} {pos : Pos}
theorem Sim.thaw {K : PySem.W.Frag} {W : Wd} {env : En} {h : Hv} {σ : L2.St} {H : Hp} (S : Sim K W env h σ H) {k : Nat} {us : List U} (e : env[k]? = some (some (.own us))) :
    ∃ W' v, Sim K W' (env.set k (some (.val (.lst us)))) h σ H ∧ LeW W H W' H ∧ σ[k]? = some (some v) ∧ RV K W' H (.lst us) v := by
  obtain ⟨v, e1, a, vs, rfl, n, ea, rv⟩ := S.slots k _ e
  have q : At W H a (some .frz) := .slot n ea
  have l : LeW W H (W.put a (some .frz)) H := q.le fun _ _ => rfl
  have hk : k < env.length := (List.getElem?_eq_some_iff.mp e).1
  have r : RV K (W.put a (some .frz)) H (.lst us) (.ref a) := .lst Wd.put_same ea (rv.le l.toLeP)
  refine ⟨_, _, ⟨S.sh.step q (fun i z => by rw [n] at z; cases z) (fun _ _ => rfl) ⟨_, ea⟩, by simpa using S.len, fun j sv ej => ?_⟩, l, e1, r⟩
  by_cases z : j = k
  · subst z
    rw [List.getElem?_set_self hk] at ej
    cases ej
    exact ⟨_, e1, r⟩
  · rw [List.getElem?_set_ne (Ne.symm z)] at ej
    obtain ⟨v, e2, r2⟩ := S.slots j sv ej
    refine ⟨v, e2, ?_⟩
    cases sv with
    | val u => exact RV.le l.toLeP r2
    | own us2 =>
      obtain ⟨a2, vs2, rfl, n2, ea2, rv2⟩ := r2
      have ne : a2 ≠ a := fun q => by
        subst q
        rw [n] at n2
        cases n2
        exact z rfl
      exact ⟨a2, vs2, rfl, by rw [Wd.put_ne ne]; exact n2, ea2, rv2.le l.toLeP⟩
    | dic ks2 us2 =>
      obtain ⟨a2, o2, kv2, vv2, rfl, n2, ea2, ds2, r3, r4⟩ := r2
      have ne : a2 ≠ a := fun q => by
        subst q
        rw [n] at n2
        cases n2
        exact z rfl
      exact ⟨a2, o2, kv2, vv2, rfl, by rw [Wd.put_ne ne]; exact n2, ea2, ds2, r3.le l.toLeP, r4.le l.toLeP⟩
theorem Sim.thawD {K : PySem.W.Frag} {W : Wd} {env : En} {h : Hv} {σ : L2.St} {H : Hp} (S : Sim K W env h σ H) {k : Nat} {ks us : List U} (e : env[k]? = some (some (.dic ks us))) :
    ∃ W' v, Sim K W' (env.set k (some (.val (.dic ks us)))) h σ H ∧ LeW W H W' H ∧ σ[k]? = some (some v) ∧ RV K W' H (.dic ks us) v := by
  obtain ⟨v, e1, a, o, kv, vv, rfl, n, ea, ds, rk, rv⟩ := S.slots k _ e
  have q : At W H a (some .frz) := .slotO n ea ds.isD.mut
  have l : LeW W H (W.put a (some .frz)) H := q.le fun _ _ => rfl
  have hk : k < env.length := (List.getElem?_eq_some_iff.mp e).1
  have r : RV K (W.put a (some .frz)) H (.dic ks us) (.ref a) := .dic (.inl ⟨Wd.put_same, ea⟩) ds (rk.le l.toLeP) (rv.le l.toLeP)
  refine ⟨_, _, ⟨S.sh.step q (fun i z => by rw [n] at z; cases z) (fun _ _ => rfl) ⟨_, ea⟩, by simpa using S.len, fun j sv ej => ?_⟩, l, e1, r⟩
  by_cases z : j = k
  · subst z
    rw [List.getElem?_set_self hk] at ej
    cases ej
    exact ⟨_, e1, r⟩
  · rw [List.getElem?_set_ne (Ne.symm z)] at ej
    obtain ⟨v, e2, r2⟩ := S.slots j sv ej
    refine ⟨v, e2, ?_⟩
    cases sv with
    | val u => exact RV.le l.toLeP r2
    | own us2 =>
      obtain ⟨a2, vs2, rfl, n2, ea2, rv2⟩ := r2
      have ne : a2 ≠ a := fun q => by
        subst q
        rw [n] at n2
        cases n2
        exact z rfl
      exact ⟨a2, vs2, rfl, by rw [Wd.put_ne ne]; exact n2, ea2, rv2.le l.toLeP⟩
    | dic ks2 us2 =>
      obtain ⟨a2, o2, kv2, vv2, rfl, n2, ea2, ds2, r3, r4⟩ := r2
      have ne : a2 ≠ a := fun q => by
        subst q
        rw [n] at n2
        cases n2
        exact z rfl
      exact ⟨a2, o2, kv2, vv2, rfl, by rw [Wd.put_ne ne]; exact n2, ea2, ds2, r3.le l.toLeP, r4.le l.toLeP⟩
theorem we_var {k : Nat} {x : Str} (h : PE X (.Name x pos) (tVar k)) : WE X L (.Name x pos) (uVar k) := by
  refine PE.wk h fun σ H Q ⟨W, env, h, Po, Pe, S, ht, c⟩ => ?_
  unfold uVar at ht
  split at ht
  · rename_i u e
    obtain ⟨v, e1, r⟩ := S.slots k _ e
    exact ⟨v, e1, c.ok W (.val u) env h v H .refl S r ht⟩
  · rename_i us e
    obtain ⟨W', v, S', l, e1, r⟩ := S.thaw e
    exact ⟨v, e1, c.ok W' _ _ h v H l S' (show RSv L.K W' H .tmp (.val (.lst us)) v from r) ht⟩
  · rename_i ks us e
    obtain ⟨W', v, S', l, e1, r⟩ := S.thawD e
    exact ⟨v, e1, c.ok W' _ _ h v H l S' (show RSv L.K W' H .tmp (.val (.dic ks us)) v from r) ht⟩
  · exact ht.elim
theorem we_const {e : Expr} {u : U} {v : V} (h : PE X e (tC v)) (r : ∀ W H, RV L.K W H u v) : WE X L e (uVal u) :=
  PE.wk h fun σ H Q ⟨W, env, h, Po, Pe, S, ht, c⟩ => c.ok W (.val u) env h v H .refl S (r W H) ht
theorem we_int {i : Int} {j : Nat} : WE X L (.Constant (.int i) j pos) (uVal (.int i)) := we_const pe_int fun _ _ => .int i
theorem we_str {i : Str} {j : Nat} : WE X L (.Constant (.str i) j pos) (uVal (.str i)) := we_const pe_str fun _ _ => .str i
theorem we_bl {i : Bool} {j : Nat} : WE X L (.Constant (.bool i) j pos) (uVal (.bl i)) := we_const pe_bl fun _ _ => .bl i
theorem we_non {j : Nat} : WE X L (.Constant .none j pos) (uVal .non) := we_const pe_non fun _ _ => .non
end

/-! ### operators by values -/
abbrev UB := List U → Hv → (Sv → Hv → Prop) → Prop
abbrev UO := U → U → Hv → (Sv → Hv → Prop) → Prop
/-- what follows an operation -/
abbrev OCont (K : PySem.W.Frag) (W : Wd) (H : Hp) (env : En) (σ : L2.St) (P : Sv → Hv → Prop) (Q : VK) : Prop :=
  ∀ W' sv h' v H', LeW W H W' H' → Sim K W' env h' σ H' → RSv K W' H' .tmp sv v → P sv h' → Q v H'
def lo (K : PySem.W.Frag) (f : UO) : R2 := fun x y H Q => ∃ W env h σ u w P, Sim K W env h σ H ∧ RV K W H u x ∧ RV K W H w y ∧ f u w h P ∧ OCont K W H env σ P Q
def lb (K : PySem.W.Frag) (f : UB) : List V → Hp → VK → Prop := fun xs H Q => ∃ W env h σ us P, Sim K W env h σ H ∧ RVs K W H us xs ∧ f us h P ∧ OCont K W H env σ P Q
@[simp] def uBin (f : UO) (a b : UE) : UE := fun env h Po Pe => a env h (fun x env1 h1 => b env1 h1 (fun y env2 h2 => f x.u y.u h2 (fun sv h3 => Po sv env2 h3)) Pe) Pe
section
variable {X : Cx} {L : Lx} {pos : Pos} {a b : Expr} {ta tb : UE} {f : UO}
/-- two operands, then an operation by values -/
theorem lg_bin {σ : L2.St} {H : Hp} {Q : VK} (h : lg L (RT L) (uBin f ta tb) σ H Q) : tOp (lo L.K f) (lg L (RT L) ta) (lg L (RT L) tb) σ H Q := by
  obtain ⟨W, env, h, Po, Pe, S, ht, c⟩ := h
  refine ⟨W, env, h, _, _, S, ht, ⟨fun W1 x env1 h1 v1 H1 l1 S1 r1 q1 => ?_, c.er⟩⟩
  obtain ⟨W1', S1', l1', rv1⟩ := S1.freeze r1
  have c1 := c.le (l1.trans l1')
  refine ⟨W1', env1, h1, _, _, S1', q1, ⟨fun W2 y env2 h2 v2 H2 l2 S2 r2 q2 => ?_, c1.er⟩⟩
  obtain ⟨W2', S2', l2', rv2⟩ := S2.freeze r2
  have c2 := c1.le (l2.trans l2')
  exact ⟨W2', env2, h2, σ, x.u, y.u, _, S2', rv1.le (l2.trans l2').toLeP, rv2, q2, fun W3 sv h3 v3 H3 l3 S3 r3 q3 => c2.ok W3 sv env2 h3 v3 H3 l3 S3 r3 q3⟩
theorem we_bin {op : Operator} (ho : OpR X (binaryOp op) (lo L.K f)) (ha : WE X L a ta) (hb : WE X L b tb) : WE X L (.BinOp a op b pos) (uBin f ta tb) :=
  PE.wk (pe_op ho ha hb) fun _ _ _ => lg_bin
theorem we_cmp {op : CmpOp} (ho : OpR X (compareOp op) (lo L.K f)) (ha : WE X L a ta) (hb : WE X L b tb) (hm : behindInMarks op b = false) : WE X L (.Compare a [op] [b] pos) (uBin f ta tb) :=
  PE.wk (pe_cmpR ho ha hb hm) fun _ _ _ => lg_bin
theorem we_ix (ho : IxR X (lo L.K f)) (ha : WE X L a ta) (hb : WE X L b tb) (hs : PlainIx b) : WE X L (.Subscript a b pos) (uBin f ta tb) :=
  PE.wk (pe_ix ho ha hb hs) fun _ _ _ => lg_bin
end

/-! ### tests -/
@[simp] def svB : Sv → (Bool → Prop) → Prop
  | .val (.bl b), P => P b
  | _, _ => False
/-- a value that is True or False, as a test -/
@[simp] def uB (t : UE) : UT := fun env h Po Pe => t env h (fun sv env1 h1 => svB sv fun b => Po b env1 h1) Pe
section
variable {X : Cx} {L : Lx} {pos : Pos} {a b : Expr} {ta tb : UE} {f : UO} {A B : UT} {rest : List Expr}
theorem svB.at_ {K : PySem.W.Frag} {W : Wd} {H : Hp} {sv : Sv} {v : V} {P : Bool → Prop} (h : svB sv P) (r : RSv K W H .tmp sv v) : ∃ b, v = .bl b ∧ P b := by
  cases sv with
  | own us => exact h.elim
  | dic _ _ => exact h.elim
  | val u =>
    cases u with
    | bl b =>
      have r' : RV K W H (.bl b) v := r
      cases r'
      exact ⟨b, rfl, h⟩
    | _ => exact h.elim
theorem lg_B {t : UE} {σ : L2.St} {H : Hp} {Q : Bool → Hp → Prop} (h : lg L RB (uB t) σ H Q) : lg L (RT L) t σ H fun x H1 => ∃ c, x = .bl c ∧ Q c H1 := by
  obtain ⟨W, env, h, Po, Pe, S, ht, c⟩ := h
  refine ⟨W, env, h, _, _, S, ht, ⟨fun W1 x env1 h1 v1 H1 l1 S1 r1 q1 => ?_, c.er⟩⟩
  obtain ⟨b, rfl, q⟩ := q1.at_ r1
  exact ⟨b, rfl, c.ok W1 b env1 h1 b H1 l1 S1 rfl q⟩
theorem wt_val {e : Expr} {t : UE} (h : WE X L e t) (he : ∀ whole, isTrue e X.env whole = (do let v ← whole; standAt e.pos; holding [v] (truthy v)) := by intro _; rfl) : WT X L e (uB t) :=
  PT.wk (pt_val h he) fun _ _ _ => lg_B
theorem wt_cmp {op : CmpOp} (ho : OpR X (compareOp op) (lo L.K f)) (ha : WE X L a ta) (hb : WE X L b tb) (hm : behindInMarks op b = false) : WT X L (.Compare a [op] [b] pos) (uB (uBin f ta tb)) :=
  PT.wk (pt_cmpR ho ha hb hm) fun _ _ _ h => lg_bin (lg_B h)
@[simp] def uAnd (t u : UT) : UT := fun env h Po Pe => t env h (fun c env1 h1 => if c = true then u env1 h1 Po Pe else Po false env1 h1) Pe
@[simp] def uOr (t u : UT) : UT := fun env h Po Pe => t env h (fun c env1 h1 => if c = true then Po true env1 h1 else u env1 h1 Po Pe) Pe
@[simp] def uNot (t : UT) : UT := fun env h Po Pe => t env h (fun c env1 h1 => Po (!c) env1 h1) Pe
theorem wt_and1 (ha : WT X L a A) : WTw X L (.BoolOp .And [a] pos) A := pw_and1 ha
theorem wt_or1 (ha : WT X L a A) : WTw X L (.BoolOp .Or [a] pos) A := pw_or1 ha
theorem wt_and (ha : WT X L a A) (hb : WTw X L (.BoolOp .And (b :: rest) pos) B) : WTw X L (.BoolOp .And (a :: b :: rest) pos) (uAnd A B) := by
  refine PW.wk (pw_and ha hb) fun σ H Q ⟨W, env, h, Po, Pe, S, ht, c⟩ => ?_
  refine ⟨W, env, h, _, _, S, ht, ⟨fun W1 x env1 h1 y H1 l1 S1 r1 q1 => ?_, c.er⟩⟩
  cases r1
  cases x with
  | true => exact ⟨W1, env1, h1, Po, Pe, S1, q1, c.le l1⟩
  | false => exact c.ok W1 false env1 h1 false H1 l1 S1 rfl q1
theorem wt_or (ha : WT X L a A) (hb : WTw X L (.BoolOp .Or (b :: rest) pos) B) : WTw X L (.BoolOp .Or (a :: b :: rest) pos) (uOr A B) := by
  refine PW.wk (pw_or ha hb) fun σ H Q ⟨W, env, h, Po, Pe, S, ht, c⟩ => ?_
  refine ⟨W, env, h, _, _, S, ht, ⟨fun W1 x env1 h1 y H1 l1 S1 r1 q1 => ?_, c.er⟩⟩
  cases r1
  cases x with
  | false => exact ⟨W1, env1, h1, Po, Pe, S1, q1, c.le l1⟩
  | true => exact c.ok W1 true env1 h1 true H1 l1 S1 rfl q1
theorem wt_bool {e : Expr} (h : WTw X L e A) : WT X L e A := PW.pt h
theorem wt_not (ha : WT X L a A) : WT X L (.UnaryOp .Not a pos) (uNot A) := by
  refine PT.wk (pt_not ha) fun σ H Q ⟨W, env, h, Po, Pe, S, ht, c⟩ => ?_
  refine ⟨W, env, h, _, _, S, ht, ⟨fun W1 x env1 h1 y H1 l1 S1 r1 q1 => ?_, c.er⟩⟩
  cases r1
  exact c.ok W1 (!x) env1 h1 _ H1 l1 S1 rfl q1
/-- and, or, not as values that are True or False -/
@[simp] def uV (t : UT) : UE := fun env h Po Pe => t env h (fun c env1 h1 => Po (.val (.bl c)) env1 h1) Pe
theorem we_one {op : BoolOp} {t : UE} (h : WE X L a t) : WE X L (.BoolOp op [a] pos) (uV (uB t)) := by
  refine PE.wk (pe_one h) fun σ H Q ⟨W, env, h, Po, Pe, S, ht, c⟩ => ?_
  refine ⟨W, env, h, _, _, S, ht, ⟨fun W1 x env1 h1 y H1 l1 S1 r1 q1 => ?_, c.er⟩⟩
  obtain ⟨b, rfl, q⟩ := q1.at_ r1
  exact c.ok W1 (.val (.bl b)) env1 h1 _ H1 l1 S1 (.bl b) q
theorem lg_V {e : Expr} {t : UT} {σ : L2.St} {H : Hp} {Q : VK} (h : lg L (RT L) (uV t) σ H Q) : lg L RB t σ H fun c H1 => Q (.bl c) H1 := by
  obtain ⟨W, env, h, Po, Pe, S, ht, c⟩ := h
  refine ⟨W, env, h, _, _, S, ht, ⟨fun W1 x env1 h1 y H1 l1 S1 r1 q1 => ?_, c.er⟩⟩
  cases r1
  exact c.ok W1 (.val (.bl x)) env1 h1 _ H1 l1 S1 (.bl x) q1
theorem we_and {t : UE} (ha : WE X L a t) (hb : WE X L (.BoolOp .And (b :: rest) pos) (uV B)) : WE X L (.BoolOp .And (a :: b :: rest) pos) (uV (uAnd (uB t) B)) := by
  refine PE.wk (pe_and ha hb) fun σ H Q ⟨W, env, h, Po, Pe, S, ht, c⟩ => ?_
  refine ⟨W, env, h, _, _, S, ht, ⟨fun W1 x env1 h1 y H1 l1 S1 r1 q1 => ?_, c.er⟩⟩
  obtain ⟨k, rfl, q⟩ := q1.at_ r1
  refine ⟨k, rfl, ?_⟩
  cases k with
  | true => exact ⟨W1, env1, h1, Po, Pe, S1, q, c.le l1⟩
  | false => exact c.ok W1 (.val (.bl false)) env1 h1 _ H1 l1 S1 (.bl false) q
theorem we_or {t : UE} (ha : WE X L a t) (hb : WE X L (.BoolOp .Or (b :: rest) pos) (uV B)) : WE X L (.BoolOp .Or (a :: b :: rest) pos) (uV (uOr (uB t) B)) := by
  refine PE.wk (pe_or ha hb) fun σ H Q ⟨W, env, h, Po, Pe, S, ht, c⟩ => ?_
  refine ⟨W, env, h, _, _, S, ht, ⟨fun W1 x env1 h1 y H1 l1 S1 r1 q1 => ?_, c.er⟩⟩
  obtain ⟨k, rfl, q⟩ := q1.at_ r1
  refine ⟨k, rfl, ?_⟩
  cases k with
  | false => exact ⟨W1, env1, h1, Po, Pe, S1, q, c.le l1⟩
  | true => exact c.ok W1 (.val (.bl true)) env1 h1 _ H1 l1 S1 (.bl true) q
theorem we_not {t : UE} (ha : WE X L a t) : WE X L (.UnaryOp .Not a pos) (uV (uNot (uB t))) := by
  refine PE.wk (pe_not ha) fun σ H Q ⟨W, env, h, Po, Pe, S, ht, c⟩ => ?_
  refine ⟨W, env, h, _, _, S, ht, ⟨fun W1 x env1 h1 y H1 l1 S1 r1 q1 => ?_, c.er⟩⟩
  obtain ⟨k, rfl, q⟩ := q1.at_ r1
  exact ⟨k, rfl, c.ok W1 (.val (.bl (!k))) env1 h1 _ H1 l1 S1 (.bl _) q⟩
@[simp] def uIfE (t : UT) (x y : UE) : UE := fun env h Po Pe => t env h (fun c env1 h1 => if c = true then x env1 h1 Po Pe else y env1 h1 Po Pe) Pe
theorem we_ifE {c : Expr} (hc : WT X L c A) (ha : WE X L a ta) (hb : WE X L b tb) : WE X L (.IfExp c a b pos) (uIfE A ta tb) := by
  refine PE.wk (pe_ifExp hc ha hb) fun σ H Q ⟨W, env, h, Po, Pe, S, ht, c⟩ => ?_
  refine ⟨W, env, h, _, _, S, ht, ⟨fun W1 x env1 h1 y H1 l1 S1 r1 q1 => ?_, c.er⟩⟩
  cases r1
  cases x with
  | true => exact ⟨W1, env1, h1, Po, Pe, S1, q1, c.le l1⟩
  | false => exact ⟨W1, env1, h1, Po, Pe, S1, q1, c.le l1⟩
end

/-! ### several expressions; displays; calls of what is built in -/
@[simp] def uNil : UA := fun env h Po _ => Po [] env h
@[simp] def uCons (t : UE) (r : UA) : UA := fun env h Po Pe => t env h (fun x env1 h1 => r env1 h1 (fun xs env2 h2 => Po (x.u :: xs) env2 h2) Pe) Pe
@[simp] def uApp (f : UB) (t : UA) : UE := fun env h Po Pe => t env h (fun us env1 h1 => f us h1 fun sv h2 => Po sv env1 h2) Pe
@[simp] def bTup : UB := fun us h P => us.length ≤ sizeLine ∧ P (.val (.tup us)) h
@[simp] def bLst : UB := fun us h P => us.length ≤ sizeLine ∧ P (.own us) h
section
variable {X : Cx} {L : Lx} {pos : Pos} {e : Expr} {es : List Expr} {t : UE} {r : UA} {f : UB}
theorem wa_nil : WA X L [] uNil := PA.wk pa_nil fun σ H Q ⟨W, env, h, Po, Pe, S, ht, c⟩ => c.ok W [] env h [] H .refl S .nil ht
theorem wa_cons (ha : WE X L e t) (hr : WA X L es r) (hs : starEach (e :: es) X.env = (false, eval e X.env) :: starEach es X.env := by rfl) : WA X L (e :: es) (uCons t r) := by
  refine PA.wk (pa_cons ha hr hs) fun σ H Q ⟨W, env, h, Po, Pe, S, ht, c⟩ => ?_
  refine ⟨W, env, h, _, _, S, ht, ⟨fun W1 x env1 h1 v1 H1 l1 S1 r1 q1 => ?_, c.er⟩⟩
  obtain ⟨W1', S1', l1', rv1⟩ := S1.freeze r1
  have c1 := c.le (l1.trans l1')
  exact ⟨W1', env1, h1, _, _, S1', q1, ⟨fun W2 xs env2 h2 vs H2 l2 S2 r2 q2 => c1.ok W2 _ env2 h2 _ H2 l2 S2 (.cons (rv1.le l2.toLeP) r2) q2, c1.er⟩⟩
theorem lg_app {σ : L2.St} {H : Hp} {Q : VK} (h : lg L (RT L) (uApp f r) σ H Q) : lg L (RA L) r σ H fun vs H1 => lb L.K f vs H1 Q := by
  obtain ⟨W, env, h, Po, Pe, S, ht, c⟩ := h
  refine ⟨W, env, h, _, _, S, ht, ⟨fun W1 us env1 h1 vs H1 l1 S1 r1 q1 => ?_, c.er⟩⟩
  exact ⟨W1, env1, h1, σ, us, _, S1, r1, q1, fun W2 sv h2 v2 H2 l2 S2 r2 q2 => (c.le l1).ok W2 sv env1 h2 v2 H2 l2 S2 r2 q2⟩
theorem we_tup {k : Nat} (hr : WA X L es r) : WE X L (.Tuple es k pos) (uApp bTup r) := by
  refine PE.wk (pe_tupF hr) fun σ H Q h => ?_
  obtain ⟨W, env, h, Po, Pe, S, ht, c⟩ := h
  refine ⟨W, env, h, _, _, S, ht, ⟨fun W1 us env1 h1 vs H1 l1 S1 r1 q1 => ?_, c.er⟩⟩
  refine ⟨by rw [← r1.length]; exact q1.1, fun p ob hp hd => ?_⟩
  have l2 := LeW.none_ S1.sh hp (.frz ob (.tup vs))
  exact c.ok W1 (.val (.tup us)) env1 h1 _ _ (l1.trans l2) (S1.none_ hp _) (.tup (.inl ⟨ob, hd, upd_same⟩) (r1.le l2.toLeP)) q1.2
theorem we_lst (hr : WA X L es r) : WE X L (.List es pos) (uApp bLst r) := by
  refine PE.wk (pe_lst hr) fun σ H Q h => ?_
  obtain ⟨W, env, h, Po, Pe, S, ht, c⟩ := h
  refine ⟨W, env, h, _, _, S, ht, ⟨fun W1 us env1 h1 vs H1 l1 S1 r1 q1 => ?_, c.er⟩⟩
  refine ⟨by rw [← r1.length]; exact q1.1, fun p hp => ?_⟩
  obtain ⟨S2, l2⟩ := S1.alloc hp (.lst vs) .tmp
  exact c.ok _ (.own us) env1 h1 _ _ (l1.trans l2) S2 ⟨p, vs, rfl, Wd.put_same, upd_same, r1.le l2.toLeP⟩ q1.2
theorem we_callB {id : String} {x : Str} {p : Pos} (hc : CallR X (.builtin id) (lb L.K f)) (hg : Gl X x) (hm : X.mg x = none) (hv : bootBuiltins x = some (.builtin id)) (ha : WA X L (e :: es) r) (hn : x ≠ "__name__" := by decide) (hdb : (x == ("__debug__" : Str)) = false := by decide)
    (he : starEach (e :: es) X.env = (false, eval e X.env) :: starEach es X.env := by rfl) (hpl : (backTo pos (starEach es X.env)).any (·.1) = false := by rfl) : WE X L (.Call (.Name x p) (e :: es) [] pos) (uApp f r) :=
  PE.wk (pe_callB hc hg hm hv ha hn hdb he hpl) fun _ _ _ h => lg_app h
theorem we_callTy {T : String} {x : Str} {p : Pos} (hc : CallR X (.type T) (lb L.K f)) (hg : Gl X x) (hm : X.mg x = none) (hv : bootBuiltins x = some (.type T)) (ha : WA X L (e :: es) r) (hn : x ≠ "__name__" := by decide) (hdb : (x == ("__debug__" : Str)) = false := by decide)
    (he : starEach (e :: es) X.env = (false, eval e X.env) :: starEach es X.env := by rfl) (hpl : (backTo pos (starEach es X.env)).any (·.1) = false := by rfl) : WE X L (.Call (.Name x p) (e :: es) [] pos) (uApp f r) :=
  PE.wk (pe_callTy hc hg hm hv ha hn hdb he hpl) fun _ _ _ h => lg_app h
end

/-! ### statements -/
@[simp] def uNext : US := fun env h P => P.nx env h
@[simp] def uSeq (t u : US) : US := fun env h P => t env h { P with nx := fun env1 h1 => u env1 h1 P }
@[simp] def uBreak : US := fun env h P => P.bk env h
@[simp] def uCont : US := fun env h P => P.ct env h
@[simp] def uDrop (t : UE) : US := fun env h P => t env h (fun _ env1 h1 => P.nx env1 h1) P.er
@[simp] def uRet (t : UE) : US := fun env h P => t env h P.rt P.er
@[simp] def uRetN : US := fun env h P => P.rt (.val .non) env h
@[simp] def uIf (c : UT) (t u : US) : US := fun env h P => c env h (fun b env1 h1 => if b = true then t env1 h1 P else u env1 h1 P) P.er
/-- name = value, frozen | as it comes | as a shared list -/
@[simp] def uSet (k : Nat) (t : UE) : US := fun env h P => t env h (fun sv env1 h1 => k < env1.length ∧ P.nx (env1.set k (some (.val sv.u))) h1) P.er
@[simp] def uSetO (k : Nat) (t : UE) : US := fun env h P => t env h (fun sv env1 h1 => k < env1.length ∧ P.nx (env1.set k (some sv)) h1) P.er
@[simp] def uSetR (k : Nat) (t : UE) : US := fun env h P => t env h (fun sv env1 h1 => match sv with
  | .own us => k < env1.length ∧ P.nx (env1.set k (some (.val (.ref h1.length)))) (h1 ++ [.lst us])
  | _ => False) P.er
section
variable {X : Cx} {L : Lx} {pos : Pos} {st : Stmt} {rest : List Stmt} {t u : US} {e : Expr} {te : UE}
theorem SCont.ret {W : Wd} {H : Hp} {P : UD} {D : Ends} (c : SCont L W H P D) {σ : L2.St} : Cont L (RT L) W H σ P.rt P.er D.rt :=
  ⟨fun W' x env' h' y H' l S r q => c.rt W' x env' h' σ y H' l S r q, fun W' ex env' h' H' cls d l S r q => c.er W' ex env' h' σ H' cls d l S r q⟩
theorem wss_nil : WSs X L [] uNext := PSs.wk pss_nil fun D σ H ⟨W, env, h, P, S, ht, c⟩ => c.nx W env h σ H .refl S ht
theorem wss_cons (h1 : WS X L st t) (h2 : WSs X L rest u) : WSs X L (st :: rest) (uSeq t u) := by
  refine PSs.wk (pss_cons h1 h2) fun D σ H ⟨W, env, h, P, S, ht, c⟩ => ?_
  exact ⟨W, env, h, _, S, ht, ⟨fun W' env' h' σ' H' l S' q => ⟨W', env', h', P, S', q, c.le l⟩, c.bk, c.ct, c.rt, c.er⟩⟩
theorem wss_one (h1 : WS X L st t) : WSs X L [st] t := pss_one h1
theorem ws_pass : WS X L (.Pass pos) uNext := PS.wk ps_pass fun D σ H ⟨W, env, h, P, S, ht, c⟩ => c.nx W env h σ H .refl S ht
theorem ws_break : WS X L (.Break pos) uBreak := PS.wk ps_break fun D σ H ⟨W, env, h, P, S, ht, c⟩ => c.bk W env h σ H .refl S ht
theorem ws_continue : WS X L (.Continue pos) uCont := PS.wk ps_continue fun D σ H ⟨W, env, h, P, S, ht, c⟩ => c.ct W env h σ H .refl S ht
theorem ws_expr (he : WE X L e te) (hs : swapsWith e none pos.line X.env = pure false := by rfl) : WS X L (.Expr e pos) (uDrop te) := by
  refine PS.wk (ps_expr he hs) fun D σ H ⟨W, env, h, P, S, ht, c⟩ => ?_
  exact ⟨W, env, h, _, _, S, ht, ⟨fun W1 x env1 h1 y H1 l1 S1 r1 q1 => c.nx W1 env1 h1 σ H1 l1 S1 q1, c.ret.er⟩⟩
theorem ws_ret (he : WE X L e te) : WS X L (.Return (some e) pos) (uRet te) := by
  refine PS.wk (ps_ret he) fun D σ H ⟨W, env, h, P, S, ht, c⟩ => ?_
  exact ⟨W, env, h, _, _, S, ht, c.ret⟩
theorem ws_retN : WS X L (.Return none pos) uRetN := PS.wk ps_retN fun D σ H ⟨W, env, h, P, S, ht, c⟩ => c.rt W (.val .non) env h σ .non H .refl S (show RV L.K W H .non .non from .non) ht
theorem ws_if {c : Expr} {a b : List Stmt} {tc : UT} (hc : WT X L c tc) (ha : WSs X L a t) (hb : WSs X L b u) : WS X L (.If c a b pos) (uIf tc t u) := by
  refine PS.wk (ps_if hc ha hb) fun D σ H ⟨W, env, h, P, S, ht, c⟩ => ?_
  refine ⟨W, env, h, _, _, S, ht, ⟨fun W1 x env1 h1 y H1 l1 S1 r1 q1 => ?_, c.ret.er⟩⟩
  cases r1
  cases x with
  | true => exact ⟨W1, env1, h1, P, S1, q1, c.le l1⟩
  | false => exact ⟨W1, env1, h1, P, S1, q1, c.le l1⟩
theorem ws_set {k : Nat} {x : Str} {pos' : Pos} (hp : PS X (.Assign [.Name x pos'] e pos) (tAsg (lg L (RT L) te) (gName k))) : WS X L (.Assign [.Name x pos'] e pos) (uSet k te) := by
  refine PS.wk hp fun D σ H ⟨W, env, h, P, S, ht, c⟩ => ?_
  refine ⟨W, env, h, _, _, S, ht, ⟨fun W1 x env1 h1 y H1 l1 S1 r1 q1 => ?_, c.ret.er⟩⟩
  obtain ⟨W1', S1', l1', rv1⟩ := S1.freeze r1
  exact c.nx W1' _ h1 _ H1 (l1.trans l1') (S1'.store q1.1 rv1) q1.2
theorem Sim.storeO {K : PySem.W.Frag} {W : Wd} {env : En} {h : Hv} {σ : L2.St} {H : Hp} (S : Sim K W env h σ H) {k : Nat} {us : List U} {v : V} (hk : k < env.length) (r : RSv K W H .tmp (.own us) v) :
    ∃ W', Sim K W' (env.set k (some (.own us))) h (σ.set k (some v)) H ∧ LeW W H W' H := by
  obtain ⟨a, vs, rfl, n, ea, rv⟩ := r
  have q : At W H a (some (.slot k)) := .tmp n ea
  have l : LeW W H (W.put a (some (.slot k))) H := q.le fun _ _ => rfl
  have S1 := S.step q (fun i z => by rw [n] at z; cases z) (fun i z => by rw [n] at z; cases z) (fun _ _ => rfl) ⟨_, ea⟩
  refine ⟨_, ⟨S1.sh, by simpa using S.len, fun j sv e => ?_⟩, l⟩
  by_cases z : j = k
  · subst z
    rw [List.getElem?_set_self hk] at e
    cases e
    exact ⟨_, List.getElem?_set_self (by rw [← S.len]; exact hk), a, vs, rfl, Wd.put_same, ea, rv.le l.toLeP⟩
  · rw [List.getElem?_set_ne (Ne.symm z)] at e
    rw [List.getElem?_set_ne (Ne.symm z)]
    exact S1.slots j sv e
theorem Sim.storeD {K : PySem.W.Frag} {W : Wd} {env : En} {h : Hv} {σ : L2.St} {H : Hp} (S : Sim K W env h σ H) {k : Nat} {ks us : List U} {v : V} (hk : k < env.length) (r : RSv K W H .tmp (.dic ks us) v) :
    ∃ W', Sim K W' (env.set k (some (.dic ks us))) h (σ.set k (some v)) H ∧ LeW W H W' H := by
  obtain ⟨a, o, kv, vv, rfl, n, ea, ds, rk, rv⟩ := r
  have q : At W H a (some (.slot k)) := .tmpO n ea ds.isD.mut
  have l : LeW W H (W.put a (some (.slot k))) H := q.le fun _ _ => rfl
  have S1 := S.step q (fun i z => by rw [n] at z; cases z) (fun i z => by rw [n] at z; cases z) (fun _ _ => rfl) ⟨_, ea⟩
  refine ⟨_, ⟨S1.sh, by simpa using S.len, fun j sv e => ?_⟩, l⟩
  by_cases z : j = k
  · subst z
    rw [List.getElem?_set_self hk] at e
    cases e
    exact ⟨_, List.getElem?_set_self (by rw [← S.len]; exact hk), a, o, kv, vv, rfl, Wd.put_same, ea, ds, rk.le l.toLeP, rv.le l.toLeP⟩
  · rw [List.getElem?_set_ne (Ne.symm z)] at e
    rw [List.getElem?_set_ne (Ne.symm z)]
    exact S1.slots j sv e
theorem ws_setO {k : Nat} {x : Str} {pos' : Pos} (hp : PS X (.Assign [.Name x pos'] e pos) (tAsg (lg L (RT L) te) (gName k))) : WS X L (.Assign [.Name x pos'] e pos) (uSetO k te) := by
  refine PS.wk hp fun D σ H ⟨W, env, h, P, S, ht, c⟩ => ?_
  refine ⟨W, env, h, _, _, S, ht, ⟨fun W1 sv env1 h1 y H1 l1 S1 r1 q1 => ?_, c.ret.er⟩⟩
  cases sv with
  | val u => exact c.nx W1 _ h1 _ H1 l1 (S1.store q1.1 r1) q1.2
  | own us =>
    obtain ⟨W2, S2, l2⟩ := S1.storeO q1.1 r1
    exact c.nx W2 _ h1 _ H1 (l1.trans l2) S2 q1.2
  | dic ks us =>
    obtain ⟨W2, S2, l2⟩ := S1.storeD q1.1 r1
    exact c.nx W2 _ h1 _ H1 (l1.trans l2) S2 q1.2
/-- a list of one's own becomes a shared object -/
theorem Sim.share {K : PySem.W.Frag} {W : Wd} {env : En} {h : Hv} {σ : L2.St} {H : Hp} (S : Sim K W env h σ H) {us : List U} {v : V} (r : RSv K W H .tmp (.own us) v) :
    ∃ W', Sim K W' env (h ++ [.lst us]) σ H ∧ LeW W H W' H ∧ RV K W' H (.ref h.length) v := by
  obtain ⟨a, vs, rfl, n, ea, rv⟩ := r
  have hne : ∀ b w, W.own b = some w → w ≠ .tmp → b ≠ a := fun b w e z q => by subst q; rw [n] at e; cases e; exact z rfl
  have own : ∀ b, b ≠ a → (⟨fun b => if b = a then some (.obj h.length) else W.own b, W.mp ++ [a]⟩ : Wd).own b = W.own b := fun b ne => if_neg ne
  have l : LeW W H ⟨fun b => if b = a then some (.obj h.length) else W.own b, W.mp ++ [a]⟩ H := by
    refine ⟨⟨fun b o e f => ⟨?_, .inl e⟩, fun _ _ e => e, fun _ _ _ e => e, ⟨[a], rfl⟩, fun i b m f => ?_⟩, fun b o e f => ⟨?_, e⟩⟩
    · rw [own b (hne b _ f (by intro z; cases z))]; exact f
    · rw [own b (hne b _ f (by intro z; cases z))]; exact f
    · rw [own b (fun q => by subst q; rw [n] at f; cases f)]; exact f
  have RVl : ∀ {us vs}, RVs K W H us vs → RVs K ⟨fun b => if b = a then some (.obj h.length) else W.own b, W.mp ++ [a]⟩ H us vs := fun r => r.le l.toLeP
  refine ⟨_, ⟨⟨?_, fun i o e => ?_, fun b w e => ?_⟩, S.len, fun k sv e => ?_⟩, l, .ref (i := h.length) ?_ (if_pos rfl)⟩
  · simp [S.sh.len]
  · by_cases z : i < h.length
    · rw [List.getElem?_append_left z] at e
      obtain ⟨b, m, nb, ro⟩ := S.sh.objs i o e
      refine ⟨b, l.at_ m, l.ob i b m nb, ?_⟩
      cases o with
      | lst us' =>
        obtain ⟨vs', e1, r1⟩ := ro
        exact ⟨vs', e1, RVl r1⟩
    · have hi : i = h.length := by
        have := (List.getElem?_eq_some_iff.mp e).1
        simp at this
        omega
      subst hi
      have eo : o = .lst us := by simpa using e.symm
      subst eo
      refine ⟨a, ?_, if_pos rfl, vs, ea, RVl rv⟩
      rw [← S.sh.len]
      simp
  · by_cases z : b = a
    · subst z; exact ⟨_, ea⟩
    · rw [own b z] at e
      exact S.sh.dom b w e
  · obtain ⟨v, e1, r1⟩ := S.slots k sv e
    refine ⟨v, e1, ?_⟩
    cases sv with
    | val u => exact RV.le l.toLeP r1
    | own us2 =>
      obtain ⟨b, vs2, rfl, nb, eb, rb⟩ := r1
      exact ⟨b, vs2, rfl, by rw [own b (hne b _ nb (by intro z; cases z))]; exact nb, eb, RVl rb⟩
    | dic ks2 us2 =>
      obtain ⟨b, o2, kv2, vv2, rfl, nb, eb, ds2, r3, r4⟩ := r1
      exact ⟨b, o2, kv2, vv2, rfl, by rw [own b (hne b _ nb (by intro z; cases z))]; exact nb, eb, ds2, RVl r3, RVl r4⟩
  · rw [← S.sh.len]
    simp
theorem ws_setR {k : Nat} {x : Str} {pos' : Pos} (hp : PS X (.Assign [.Name x pos'] e pos) (tAsg (lg L (RT L) te) (gName k))) : WS X L (.Assign [.Name x pos'] e pos) (uSetR k te) := by
  refine PS.wk hp fun D σ H ⟨W, env, h, P, S, ht, c⟩ => ?_
  refine ⟨W, env, h, _, _, S, ht, ⟨fun W1 sv env1 h1 y H1 l1 S1 r1 q1 => ?_, c.ret.er⟩⟩
  cases sv with
  | val u => exact q1.elim
  | dic _ _ => exact q1.elim
  | own us =>
    obtain ⟨W2, S2, l2, r2⟩ := S1.share r1
    exact c.nx W2 _ _ _ H1 (l1.trans l2) (S2.store q1.1 r2) q1.2
end
end Vi

/-! Vi3: targets, loops, comprehensions, calls of defs, a def's promise. -/
namespace Vi
open PySem PySem.Spec PyProof.Rows L2
variable [WW]

/-! ### targets -/
abbrev UG := U → En → Hv → (En → Hv → Prop) → Prop
/-- alike but at the places ks -/
def SameOff (ks : List Nat) (σ σ' : L2.St) : Prop := σ.length = σ'.length ∧ ∀ j, j ∉ ks → σ[j]? = σ'[j]?
theorem SameOff.refl {ks : List Nat} {σ : L2.St} : SameOff ks σ σ := ⟨rfl, fun _ _ => rfl⟩
theorem SameOff.trans {ks : List Nat} {σ σ1 σ2 : L2.St} (a : SameOff ks σ σ1) (b : SameOff ks σ1 σ2) : SameOff ks σ σ2 := ⟨a.1.trans b.1, fun j h => (a.2 j h).trans (b.2 j h)⟩
theorem SameOff.set {ks : List Nat} {σ : L2.St} {k : Nat} {x : Option V} (h : k ∈ ks) : SameOff ks σ (σ.set k x) := ⟨by simp, fun j hj => by
  have ne : k ≠ j := fun z => by subst z; exact hj h
  rw [List.getElem?_set_ne ne]⟩
def lgG (L : Lx) (ks : List Nat) (g : UG) : TG := fun v σ H Q => ∃ W env h u P, Sim L.K W env h σ H ∧ RV L.K W H u v ∧ g u env h P ∧ ∀ env' h' σ', Sim L.K W env' h' σ' H → SameOff ks σ σ' → P env' h' → Q σ' H
def WG (X : Cx) (L : Lx) (tg : Expr) (ks : List Nat) (g : UG) : Prop := PG X tg (lgG L ks g)
@[simp] def gN (k : Nat) : UG := fun u env h Q => k < env.length ∧ Q (env.set k (some (.val u))) h
@[simp] def setsU : List Nat → List U → En → Hv → (En → Hv → Prop) → Prop
  | [], [], env, h, Q => Q env h
  | k :: ks, u :: us, env, h, Q => k < env.length ∧ setsU ks us (env.set k (some (.val u))) h Q
  | _, _, _, _, _ => False
@[simp] def gT (ks : List Nat) : UG := fun u env h Q => match u with
  | .tup us => setsU ks us env h Q
  | _ => False
theorem PG.wk {X : Cx} {e : Expr} {t t' : TG} (h : PG X e t) (w : ∀ v σ H Q, t' v σ H Q → t v σ H Q) : PG X e t' := ⟨fun pins s σ H v u Q I r q => h.run pins s σ H v u Q I r (w _ _ _ _ q)⟩
section
variable {X : Cx} {L : Lx} {pos : Pos}
theorem wg_name {k : Nat} {x : Str} (h : PG X (.Name x pos) (gName k)) : WG X L (.Name x pos) [k] (gN k) := by
  refine PG.wk h fun v σ H Q ⟨W, env, h, u, P, S, r, ht, c⟩ => ?_
  exact c _ h _ (S.store ht.1 r) (.set (by simp)) ht.2
/-- the slots of names, from the left -/
def gNames : List Nat → TGs
  | [] => gNil
  | k :: ks => gCons (gName k) (gNames ks)
theorem sets_ok {K : PySem.W.Frag} {W : Wd} {all : List Nat} : ∀ {ks : List Nat} {us : List U} {vs : List V} {env : En} {h : Hv} {σ : L2.St} {H : Hp} {P : En → Hv → Prop} {Q : L2.St → Hp → Prop}, (∀ k ∈ ks, k ∈ all) → Sim K W env h σ H → RVs K W H us vs → setsU ks us env h P →
    (∀ env' h' σ', Sim K W env' h' σ' H → SameOff all σ σ' → P env' h' → Q σ' H) → gNames ks vs σ H Q
  | [], [], _, _, _, _, _, _, _, _, S, .nil, ht, c => ⟨rfl, c _ _ _ S .refl ht⟩
  | k :: ks, u :: us, _, _, _, _, _, _, _, hk, S, .cons r rs, ht, c => ⟨_, _, rfl, sets_ok (fun j hj => hk j (List.mem_cons_of_mem _ hj)) (S.store ht.1 r) rs ht.2 fun env' h' σ' S' o q => c env' h' σ' S' ((SameOff.set (hk k (List.mem_cons_self ..))).trans o) q⟩
  | [], _ :: _, _, _, _, _, _, _, _, _, _, _, ht, _ => ht.elim
  | _ :: _, [], _, _, _, _, _, _, _, _, _, _, ht, _ => ht.elim
theorem setsU_len {ks : List Nat} {us : List U} {env : En} {h : Hv} {P : En → Hv → Prop} (ht : setsU ks us env h P) : us.length = ks.length := by
  induction ks generalizing us env with
  | nil =>
    cases us with
    | nil => rfl
    | cons u us => exact ht.elim
  | cons k ks ih =>
    cases us with
    | nil => exact ht.elim
    | cons u us => exact congrArg Nat.succ (ih ht.2)
theorem wg_tup {es : List Expr} {j : Nat} {ks : List Nat} (hc : X.calm = true) (hK : L.K = X.K) (h : PGs X es (gNames ks)) (hn : (assignEach es X.env).length = ks.length := by rfl) (hst : (assignEach es X.env).findIdx? (·.1) = none := by rfl) : WG X L (.Tuple es j pos) ks (gT ks) := by
  refine PG.wk (pg_tup (n := ks.length) hc h hn hst) fun v σ H Q ⟨W, env, h, u, P, S, r, ht, c⟩ => ?_
  cases u with
  | tup us =>
    cases r with
    | tup hq rs => exact ⟨_, _, rfl, hK ▸ hq.sq, by rw [← rs.length]; exact setsU_len ht, sets_ok (fun _ z => z) S rs ht c⟩
  | _ => exact ht.elim
end
@[simp] def uAsg (g : UG) (t : UE) : US := fun env h P => t env h (fun sv env1 h1 => g sv.u env1 h1 P.nx) P.er
theorem ws_asg {X : Cx} {L : Lx} {pos : Pos} {tg e : Expr} {te : UE} {ks : List Nat} {g : UG} (he : WE X L e te) (hg : WG X L tg ks g) (hs : swapsWithSole [tg] e pos.line X.env = pure false := by rfl) (hw : swappedStores [tg] e X.env = pure none := by rfl)
    (h1 : (assignEach [tg] X.env).map (·.2) = [assign tg X.env] := by rfl) : WS X L (.Assign [tg] e pos) (uAsg g te) := by
  refine PS.wk (ps_asg he hg hs hw h1) fun D σ H ⟨W, env, h, P, S, ht, c⟩ => ?_
  refine ⟨W, env, h, _, _, S, ht, ⟨fun W1 x env1 h1 y H1 l1 S1 r1 q1 => ?_, c.ret.er⟩⟩
  obtain ⟨W1', S1', l1', rv1⟩ := S1.freeze r1
  exact ⟨W1', env1, h1, x.u, _, S1', rv1, q1, fun env' h' σ' S' _ q => c.nx W1' env' h' σ' H1 (l1.trans l1') S' q⟩

/-! ### what is walked -/
/-- J walks the items us, whatever comes behind -/
def Wk (K : PySem.W.Frag) (W : Wd) (H : Hp) (us : List U) (J : It) : Prop := ∀ W' H', LeW W H W' H' → ∀ i,
  (us.length ≤ i → J.stop i H') ∧ (∀ u, us[i]? = some u → J.go i H' ∧ ∀ x H'', J.yld i H' x H'' → LeW W' H' W' H'' ∧ (∀ env h σ, Sim K W' env h σ H' → Sim K W' env h σ H'') ∧ RV K W' H'' u x)
def WI (X : Cx) (L : Lx) (tg iter : Expr) (t : UM (List U)) : Prop := PI X tg iter (lg L (Wk L.K) t)
theorem PI.wk {X : Cx} {tg e : Expr} {t t' : TI} (h : PI X tg e t) (w : ∀ σ H Q, t' σ H Q → t σ H Q) : PI X tg e t' := ⟨fun pins s σ H Q I q => h.run pins s σ H Q I (w _ _ _ q)⟩
section
variable {X : Cx} {L : Lx} {pos : Pos} {tg : Expr}
/-- a list or a tuple -/
theorem pi_any {l : Expr} {tl : TE} (hl : PE X l tl) : PI X tg l (fun σ H R => tl σ H fun x H1 => ∃ a, x = .ref a ∧ (((∃ xs, SqL X.K H1 a xs) ∧ R (Itl X.K a) H1) ∨ ((∃ xs, SqT X.K H1 a xs) ∧ R (Itt X.K a) H1))) := by
  refine ⟨fun pins s σ H R I h => ?_⟩
  refine thn (hl.run pins s σ H _ I h) fun v s1 ⟨x, H1, I1, r1, q1⟩ => ?_
  obtain ⟨a, e, q1⟩ := q1
  subst e
  cases r1
  rcases q1 with ⟨⟨xs, hq⟩, q⟩ | ⟨⟨xs, hq⟩, q⟩
  · obtain ⟨its, rv, p, hz⟩ := I1.list hq
    refine wpAny_pyIter_list p.isList ?_
    refine ⟨s1.heap.objs.size, [s1.heap.objs.size], _, _, H1, rfl, I1.kept (t' := s1.toks) fun b o e => Heap.get?_push_of_some _ e, turn_list a _, ⟨_, Heap.get?_push_size _ rfl, rfl, rfl⟩, fun b hb => ?_, q⟩
    have e : b = s1.heap.objs.size := by simpa using hb
    subst e
    exact I1.fpOk (Nat.le_refl _) (I1.hok.fresh (Nat.le_refl _))
  · obtain ⟨its, rv, p, hz⟩ := I1.tuple hq
    refine wpAny_pyIter_tuple (show s1.heap.IsTuple a its.toArray from p) ?_
    refine ⟨s1.heap.objs.size, [s1.heap.objs.size], _, _, H1, rfl, I1.kept (t' := s1.toks) fun b o e => Heap.get?_push_of_some _ e, turn_tuple a _, ⟨_, Heap.get?_push_size _ rfl, rfl, rfl⟩, fun b hb => ?_, q⟩
    have e : b = s1.heap.objs.size := by simpa using hb
    subst e
    exact I1.fpOk (Nat.le_refl _) (I1.hok.fresh (Nat.le_refl _))
/-- the items of a list or tuple -/
@[simp] def itemsU : U → (List U → Prop) → Prop
  | .lst us, P => P us
  | .tup us, P => P us
  | .scr ns, P => P (ns.map U.int)
  | _, _ => False
@[simp] def uItems (t : UE) : UM (List U) := fun env h Po Pe => t env h (fun sv env1 h1 => itemsU sv.u fun us => Po us env1 h1) Pe
theorem RVs.ints {K : PySem.W.Frag} {W : Wd} {H : Hp} : ∀ ns : List Int, RVs K W H (ns.map U.int) (ns.map V.int)
  | [] => .nil
  | n :: ns => .cons (.int n) (RVs.ints ns)
theorem wk_list {K : PySem.W.Frag} {W : Wd} {H : Hp} {us : List U} {vs : List V} {a : Addr} (st : ∀ W' H', LeW W H W' H' → SqL K H' a vs) (r : RVs K W H us vs) : Wk K W H us (Itl K a) := fun W' H' l i => by
  have h1 := st W' H' l
  refine ⟨fun hi => ⟨vs, h1, by rw [← r.length]; exact hi⟩, fun u e => ?_⟩
  obtain ⟨v, ev, rv⟩ := r.get e
  refine ⟨⟨vs, v, h1, ev⟩, fun x H'' ⟨e1, e2⟩ => ?_⟩
  subst e1
  have ex := e2 vs h1
  rw [ev] at ex
  cases ex
  exact ⟨.refl, fun _ _ _ S => S, rv.le l.toLeP⟩
theorem wk_tup {K : PySem.W.Frag} {W : Wd} {H : Hp} {us : List U} {vs : List V} {a : Addr} (st : ∀ W' H', LeW W H W' H' → SqT K H' a vs) (r : RVs K W H us vs) : Wk K W H us (Itt K a) := fun W' H' l i => by
  have h1 := st W' H' l
  refine ⟨fun hi => ⟨vs, h1, by rw [← r.length]; exact hi⟩, fun u e => ?_⟩
  obtain ⟨v, ev, rv⟩ := r.get e
  refine ⟨⟨vs, v, h1, ev⟩, fun x H'' ⟨e1, e2⟩ => ?_⟩
  subst e1
  have ex := e2 vs h1
  rw [ev] at ex
  cases ex
  exact ⟨.refl, fun _ _ _ S => S, rv.le l.toLeP⟩
theorem wi_any {l : Expr} {t : UE} (hK : L.K = X.K) (hl : WE X L l t) : WI X L tg l (uItems t) := by
  refine PI.wk (pi_any hl) fun σ H R ⟨W, env, h, Po, Pe, S, ht, c⟩ => ?_
  refine ⟨W, env, h, _, _, S, ht, ⟨fun W1 sv env1 h1 v1 H1 l1 S1 r1 q1 => ?_, c.er⟩⟩
  obtain ⟨W1', S1', l1', rv1⟩ := S1.freeze r1
  generalize sv.u = u at rv1 q1
  rw [← hK]
  cases rv1 with
  | lst n e rs => exact ⟨_, rfl, .inl ⟨⟨_, .inl (.inl e)⟩, c.ok W1' _ env1 h1 _ H1 (l1.trans l1') S1' (wk_list (fun W' H' l => .inl (.inl (l.frl e n).2)) rs) q1⟩⟩
  | tup e rs => exact ⟨_, rfl, .inr ⟨⟨_, e.sq⟩, c.ok W1' _ env1 h1 _ H1 (l1.trans l1') S1' (wk_tup (fun W' H' l => (e.le l.toLeP).sq) rs) q1⟩⟩
  | scr e => exact ⟨_, rfl, .inl ⟨⟨_, e.sq⟩, c.ok W1' _ env1 h1 _ H1 (l1.trans l1') S1' (wk_list (fun W' H' l => (e.le l.toLeP).sq) (RVs.ints _)) q1⟩⟩
  | _ => exact q1.elim
/-- range(n), range(a, b) -/
def rangeU (lo : Int) (n : Nat) : List U := (List.range n).map fun (k : Nat) => U.int (lo + k)
@[simp] def bRange1 : List U → (List U → Prop) → Prop
  | [.int j], P => -(2 ^ 62) ≤ j ∧ j < 2 ^ 62 ∧ P (rangeU 0 j.toNat)
  | _, _ => False
@[simp] def bRange2 : List U → (List U → Prop) → Prop
  | [.int i, .int j], P => (-(2 ^ 62) ≤ i ∧ i < 2 ^ 62 ∧ -(2 ^ 62) ≤ j ∧ j < 2 ^ 62) ∧ P (rangeU i (j - i).toNat)
  | _, _ => False
@[simp] def uIter (f : List U → (List U → Prop) → Prop) (t : UA) : UM (List U) := fun env h Po Pe => t env h (fun us env1 h1 => f us fun xs => Po xs env1 h1) Pe
theorem wk_range {K : PySem.W.Frag} {W : Wd} {H : Hp} {lo : Int} {n : Nat} : Wk K W H (rangeU lo n) (Itr lo n) := fun W' H' l i => by
  unfold rangeU
  refine ⟨fun hi => show n ≤ i by simpa using hi, fun u e => ?_⟩
  have hi : i < n := by
    have := (List.getElem?_eq_some_iff.mp e).1
    simpa using this
  have eu : u = U.int (lo + i) := by
    rw [List.getElem?_map, List.getElem?_range hi] at e
    exact (Option.some.inj e).symm
  subst eu
  refine ⟨hi, fun x H'' ⟨e1, e2⟩ => ?_⟩
  subst e1 e2
  exact ⟨.refl, fun _ _ _ S => S, .int _⟩
theorem RVs.one {K : PySem.W.Frag} {W : Wd} {H : Hp} {u : U} {vs : List V} (r : RVs K W H [u] vs) : ∃ v, vs = [v] ∧ RV K W H u v := by
  cases r with
  | cons a b =>
    cases b
    exact ⟨_, rfl, a⟩
theorem RVs.two {K : PySem.W.Frag} {W : Wd} {H : Hp} {u w : U} {vs : List V} (r : RVs K W H [u, w] vs) : ∃ v x, vs = [v, x] ∧ RV K W H u v ∧ RV K W H w x := by
  cases r with
  | cons a b =>
    obtain ⟨x, rfl, c⟩ := RVs.one b
    exact ⟨_, x, rfl, a, c⟩
theorem RV.int_ {K : PySem.W.Frag} {W : Wd} {H : Hp} {i : Int} {v : V} (r : RV K W H (.int i) v) : v = .int i := by cases r; rfl
theorem RV.str_ {K : PySem.W.Frag} {W : Wd} {H : Hp} {i : Str} {v : V} (r : RV K W H (.str i) v) : v = .str i := by cases r; rfl
theorem RV.bl_ {K : PySem.W.Frag} {W : Wd} {H : Hp} {i : Bool} {v : V} (r : RV K W H (.bl i) v) : v = .bl i := by cases r; rfl
theorem RV.non_ {K : PySem.W.Frag} {W : Wd} {H : Hp} {v : V} (r : RV K W H .non v) : v = .non := by cases r; rfl
theorem wi_range1 {a : Expr} {ta : UA} {p : Pos} (hg : Gl X "range") (hm : X.mg "range" = none) (ha : WA X L [a] ta) (hs : starEach [a] X.env = [(false, eval a X.env)] := by rfl) : WI X L tg (.Call (.Name "range" p) [a] [] pos) (uIter bRange1 ta) := by
  refine PI.wk (pi_range1 hg hm ha hs) fun σ H R ⟨W, env, h, Po, Pe, S, ht, c⟩ => ?_
  refine ⟨W, env, h, _, _, S, ht, ⟨fun W1 us env1 h1 vs H1 l1 S1 r1 q1 => ?_, c.er⟩⟩
  unfold bRange1 at q1
  split at q1
  · obtain ⟨v, rfl, r⟩ := RVs.one r1
    cases r.int_
    exact ⟨_, rfl, q1.1, q1.2.1, c.ok W1 _ env1 h1 _ H1 l1 S1 wk_range q1.2.2⟩
  · exact q1.elim
theorem wi_range2 {a b : Expr} {ta : UA} {p : Pos} (hg : Gl X "range") (hm : X.mg "range" = none) (ha : WA X L [a, b] ta) (hs : starEach [a, b] X.env = [(false, eval a X.env), (false, eval b X.env)] := by rfl) (hs2 : starEach [b] X.env = [(false, eval b X.env)] := by rfl) :
    WI X L tg (.Call (.Name "range" p) [a, b] [] pos) (uIter bRange2 ta) := by
  refine PI.wk (pi_range2 hg hm ha hs hs2) fun σ H R ⟨W, env, h, Po, Pe, S, ht, c⟩ => ?_
  refine ⟨W, env, h, _, _, S, ht, ⟨fun W1 us env1 h1 vs H1 l1 S1 r1 q1 => ?_, c.er⟩⟩
  unfold bRange2 at q1
  split at q1
  · obtain ⟨v, w, rfl, r, r'⟩ := RVs.two r1
    cases r.int_
    cases r'.int_
    exact ⟨_, _, rfl, q1.1, c.ok W1 _ env1 h1 _ H1 l1 S1 wk_range q1.2⟩
  · exact q1.elim
end

/-! ### for, while -/
def forU (g : UG) (b : US) (P : UD) : List U → En → Hv → Prop
  | [], env, h => P.nx env h
  | u :: us, env, h => g u env h fun env1 h1 => b env1 h1 { nx := forU g b P us, rt := P.rt, er := P.er, bk := P.nx, ct := forU g b P us }
@[simp] def uFor (ti : UM (List U)) (g : UG) (b : US) : US := fun env h P => ti env h (fun us env1 h1 => forU g b P us env1 h1) P.er
def whileU (c : UT) (b : US) (P : UD) : Nat → En → Hv → Prop
  | 0, _, _ => False
  | n + 1, env, h => c env h (fun t env1 h1 => if t = true then b env1 h1 { nx := whileU c b P n, rt := P.rt, er := P.er, bk := P.nx, ct := whileU c b P n } else P.nx env1 h1) P.er
def uWhile (c : UT) (b : US) : US := fun env h P => ∃ n, whileU c b P n env h
section
variable {X : Cx} {L : Lx} {pos : Pos} {tg : Expr}
theorem ws_for {iter : Expr} {body : List Stmt} {ti : UM (List U)} {ks : List Nat} {g : UG} {b : US} (hp : PassesOwn (model X.prog X.w) X.A X.env X.xe) (hc : X.calm = true) (hi : WI X L tg iter ti) (hg : WG X L tg ks g) (hb : WSs X L body b)
    (hs : ∀ x, foldedSetIterable iter X.env x = pure x := by intro _; rfl) : WS X L (.For tg iter body [] pos) (uFor ti g b) := by
  refine PS.wk (ps_for hp hc hi hg hb hs) fun D σ H ⟨W, env, h, P, S, ht, c⟩ => ?_
  refine ⟨W, env, h, _, _, S, ht, ⟨fun W1 us env1 h1 J H1 l1 S1 wk q1 => ?_, c.ret.er⟩⟩
  refine ⟨fun i m σ' H' => m = us.length - i ∧ i ≤ us.length ∧ ∃ W' env' h', LeW W1 H1 W' H' ∧ Sim L.K W' env' h' σ' H' ∧ forU g b P (us.drop i) env' h', ⟨us.length, by simp, Nat.zero_le _, W1, env1, h1, .refl, S1, q1⟩, ?_⟩
  rintro i m σ' H' ⟨rfl, hi, W', env', h', l', S', q'⟩
  by_cases hlt : i < us.length
  · obtain ⟨go, yl⟩ := (wk W' H' l' i).2 us[i] (by simp [hlt])
    refine .inr ⟨go, fun σ2 H2 => ∃ W2 env2 h2, LeW W1 H1 W2 H2 ∧ Sim L.K W2 env2 h2 σ2 H2 ∧ forU g b P (us.drop (i + 1)) env2 h2, fun σ2 H2 ⟨W2, env2, h2, l2, S2, q2⟩ => ⟨us.length - (i + 1), by omega, rfl, hlt, W2, env2, h2, l2, S2, q2⟩, fun x H2 y => ?_⟩
    obtain ⟨l2, S2, rv⟩ := yl x H2 y
    rw [List.drop_eq_getElem_cons hlt] at q'
    refine ⟨W', env', h', _, _, S2 _ _ _ S', rv, q', fun env3 h3 σ3 S3 _ q3 => ?_⟩
    have l3 : LeW W H W' H2 := (l1.trans l').trans l2
    exact ⟨W', env3, h3, _, S3, q3, ⟨fun W4 env4 h4 σ4 H4 l4 S4 q4 => ⟨W4, env4, h4, (l'.trans l2).trans l4, S4, q4⟩, fun W4 env4 h4 σ4 H4 l4 S4 q4 => c.nx W4 env4 h4 σ4 H4 (l3.trans l4) S4 q4,
      fun W4 env4 h4 σ4 H4 l4 S4 q4 => ⟨W4, env4, h4, (l'.trans l2).trans l4, S4, q4⟩, (c.le l3).rt, (c.le l3).er⟩⟩
  · have e : i = us.length := by omega
    subst e
    refine .inl ⟨(wk W' H' l' _).1 (Nat.le_refl _), ?_⟩
    rw [List.drop_length] at q'
    exact c.nx W' env' h' σ' H' (l1.trans l') S' q'
theorem ws_while {t : Expr} {body : List Stmt} {tt : UT} {b : US} (hp : PassesOwn (model X.prog X.w) X.A X.env X.xe) (hc : WT X L t tt) (hb : WSs X L body b) : WS X L (.While t body [] pos) (uWhile tt b) := by
  refine PS.wk (ps_while hp hc hb) fun D σ H ⟨W, env, h, P, S, ⟨n, ht⟩, c⟩ => ?_
  refine ⟨fun m σ' H' => ∃ W' env' h', LeW W H W' H' ∧ Sim L.K W' env' h' σ' H' ∧ whileU tt b P m env' h', ⟨n, W, env, h, .refl, S, ht⟩, ?_⟩
  rintro m σ' H' ⟨W', env', h', l', S', q'⟩
  cases m with
  | zero => exact q'.elim
  | succ m =>
    refine ⟨W', env', h', _, _, S', q', ⟨fun W1 x env1 h1 y H1 l1 S1 r1 q1 => ?_, (c.le l').ret.er⟩⟩
    cases r1
    cases x with
    | false => exact c.nx W1 env1 h1 σ' H1 (l'.trans l1) S1 q1
    | true =>
      refine ⟨fun σ2 H2 => ∃ W2 env2 h2, LeW W H W2 H2 ∧ Sim L.K W2 env2 h2 σ2 H2 ∧ whileU tt b P m env2 h2, fun σ2 H2 z => ⟨m, Nat.lt_succ_self m, z⟩, ?_⟩
      have l2 := l'.trans l1
      exact ⟨W1, env1, h1, _, S1, q1, ⟨fun W4 env4 h4 σ4 H4 l4 S4 q4 => ⟨W4, env4, h4, l2.trans l4, S4, q4⟩, fun W4 env4 h4 σ4 H4 l4 S4 q4 => c.nx W4 env4 h4 σ4 H4 (l2.trans l4) S4 q4,
        fun W4 env4 h4 σ4 H4 l4 S4 q4 => ⟨W4, env4, h4, l2.trans l4, S4, q4⟩, (c.le l2).rt, (c.le l2).er⟩⟩
end

/-! ### a def's promise -/
abbrev FS := List U → Hv → (Sv → Hv → Prop) → (Ex → Hv → Prop) → Prop
structure FCont (K : PySem.W.Frag) (ga : Str → Addr) (W : Wd) (H : Hp) (Po : Sv → Hv → Prop) (Pe : Ex → Hv → Prop) (Q : VK) (E : XK) : Prop where
  ok : ∀ W' sv h' v H', LeW W H W' H' → SimH K W' h' H' → RSv K W' H' .tmp sv v → Po sv h' → Q v H'
  er : ∀ W' ex h' H' cls d, LeW W H W' H' → SimH K W' h' H' → ExR K ga W' H' ex cls d → Pe ex h' → E cls d H'
def spF (K : PySem.W.Frag) (ga : Str → Addr) (n : Nat) (f : FS) : Sp := fun vs H Q E => vs.length = n ∧ ∃ W us h Po Pe, SimH K W h H ∧ (∀ a k, W.own a ≠ some (Ow.slot k)) ∧ RVs K W H us vs ∧ f us h Po Pe ∧ FCont K ga W H Po Pe Q E
def Wd.clean (W : Wd) : Wd := ⟨fun a => match W.own a with
  | some (.slot _) => none
  | some .tmp => none
  | o => o, W.mp⟩
/-- the caller's slots given back -/
def Wd.back (W W1 : Wd) : Wd := ⟨fun a => match W.own a with
  | some (.slot k) => some (.slot k)
  | _ => (match W1.own a with
    | some (.slot _) => none
    | o => o), W1.mp⟩
section
variable {K : PySem.W.Frag} {W W1 : Wd} {H H1 : Hp} {h h1 : Hv} {env : En} {σ : L2.St}
theorem clean_frz {a : Addr} : W.clean.own a = some .frz ↔ W.own a = some .frz := by
  unfold Wd.clean
  show (match W.own a with | some (.slot _) => none | some .tmp => none | o => o) = _ ↔ _
  split <;> simp_all
theorem clean_obj {a : Addr} {i : Nat} : W.clean.own a = some (.obj i) ↔ W.own a = some (.obj i) := by
  show (match W.own a with | some (.slot _) => none | some .tmp => none | o => o) = _ ↔ _
  split <;> simp_all
theorem clean_none {a : Addr} (e : W.own a = none) : W.clean.own a = none := by
  show (match W.own a with | some (.slot _) => none | some .tmp => none | o => o) = _
  rw [e]
theorem clean_slot {a : Addr} {k : Nat} (e : W.own a = some (.slot k)) : W.clean.own a = none := by
  show (match W.own a with | some (.slot _) => none | some .tmp => none | o => o) = _
  rw [e]
theorem LeP.clean : LeP W H W.clean H := ⟨fun a o e n => ⟨clean_frz.mpr n, .inl e⟩, fun _ _ e => e, fun _ _ _ e => e, ⟨[], by simp [Wd.clean]⟩, fun i a _ n => clean_obj.mpr n⟩
theorem SimH.clean (S : SimH K W h H) : SimH K W.clean h H where
  len := S.len
  objs := fun i o e => by
    obtain ⟨a, m, n, r⟩ := S.objs i o e
    refine ⟨a, m, clean_obj.mpr n, ?_⟩
    cases o with
    | lst us =>
      obtain ⟨vs, e1, rv⟩ := r
      exact ⟨vs, e1, rv.le LeP.clean⟩
  dom := fun a w e => by
    have : ∃ w', W.own a = some w' := by
      cases q : W.own a with
      | none => rw [clean_none q] at e; cases e
      | some w' => exact ⟨w', rfl⟩
    obtain ⟨w', e'⟩ := this
    exact S.dom a w' e'
theorem clean_noslot (a : Addr) (k : Nat) : W.clean.own a ≠ some (.slot k) := by
  show (match W.own a with | some (.slot _) => none | some .tmp => none | o => o) ≠ _
  split <;> simp_all
theorem back_slot {a : Addr} {k : Nat} (e : W.own a = some (.slot k)) : (W.back W1).own a = some (.slot k) := by
  show (match W.own a with | some (.slot k) => some (Ow.slot k) | _ => (match W1.own a with | some (.slot _) => none | o => o)) = _
  rw [e]
theorem back_else {a : Addr} (e : ∀ k, W.own a ≠ some (.slot k)) (e1 : ∀ k, W1.own a ≠ some (.slot k)) : (W.back W1).own a = W1.own a := by
  show (match W.own a with | some (.slot k) => some (Ow.slot k) | _ => (match W1.own a with | some (.slot _) => none | o => o)) = _
  split
  · rename_i k q; exact absurd q (e k)
  · split
    · rename_i k q; exact absurd q (e1 k)
    · rfl
/-- behind a call -/
theorem back_ok (S : Sim K W env h σ H) (l : LeW W.clean H W1 H1) (S1 : SimH K W1 h1 H1) : LeP W1 H1 (W.back W1) H1 ∧ LeW W H (W.back W1) H1 ∧ Sim K (W.back W1) env h1 σ H1 := by
  -- an address of a caller's slot is nobody's for the callee
  have ns : ∀ {a : Addr} {k : Nat}, W.own a = some (.slot k) → W1.own a = none := fun {a k} e => by
    obtain ⟨o, eo⟩ := S.sh.dom a _ e
    exact (l.st a o eo (clean_slot e)).1
  have own1 : ∀ {a} {w : Ow}, W1.own a = some w → (∀ k, w ≠ Ow.slot k) → (W.back W1).own a = some w := fun {a w} e hw => by
    rw [back_else (fun k q => by rw [ns q] at e; cases e) (fun k q => by rw [e] at q; cases q; exact hw k rfl)]
    exact e
  have p1 : LeP W1 H1 (W.back W1) H1 := ⟨fun a o e n => ⟨own1 n (fun _ z => by cases z), .inl e⟩, fun _ _ e => e, fun _ _ _ e => e, ⟨[], by simp [Wd.back]⟩, fun i a _ n => own1 n (fun _ z => by cases z)⟩
  have le : LeW W H (W.back W1) H1 := by
    refine ⟨⟨fun a o e n => ?_, l.tp, l.fz, l.mp, fun i a m n => ?_⟩, fun a o e n => ?_⟩
    · obtain ⟨n1, e1⟩ := l.fr a o e (clean_frz.mpr n)
      exact ⟨own1 n1 (fun _ z => by cases z), e1⟩
    · exact own1 (l.ob i a m (clean_obj.mpr n)) (fun _ z => by cases z)
    · obtain ⟨n1, e1⟩ := l.st a o e (clean_none n)
      refine ⟨?_, e1⟩
      rw [back_else (fun k q => by rw [n] at q; cases q) (fun k q => by rw [n1] at q; cases q)]
      exact n1
  refine ⟨p1, le, ⟨⟨S1.len, fun i o e => ?_, fun a w e => ?_⟩, S.len, fun k sv e => ?_⟩⟩
  · obtain ⟨a, m, n, r⟩ := S1.objs i o e
    refine ⟨a, m, own1 n (fun _ z => by cases z), ?_⟩
    cases o with
    | lst us =>
      obtain ⟨vs, e1, rv⟩ := r
      exact ⟨vs, e1, rv.le p1⟩
  · by_cases z : ∃ k, W.own a = some (.slot k)
    · obtain ⟨k, z⟩ := z
      obtain ⟨o, eo⟩ := S.sh.dom a _ z
      exact ⟨o, (l.st a o eo (clean_slot z)).2⟩
    · by_cases z1 : ∃ k, W1.own a = some (.slot k)
      · obtain ⟨k, z1⟩ := z1
        exact S1.dom a _ z1
      · rw [back_else (fun k q => z ⟨k, q⟩) (fun k q => z1 ⟨k, q⟩)] at e
        exact S1.dom a w e
  · obtain ⟨v, e1, r⟩ := S.slots k sv e
    refine ⟨v, e1, ?_⟩
    cases sv with
    | val u => exact RV.le le.toLeP r
    | own us =>
      obtain ⟨a, vs, rfl, n, ea, rv⟩ := r
      exact ⟨a, vs, rfl, back_slot n, (l.st a _ ea (clean_slot n)).2, rv.le le.toLeP⟩
    | dic ks us =>
      obtain ⟨a, o, kv, vv, rfl, n, ea, ds, r1, r2⟩ := r
      exact ⟨a, o, kv, vv, rfl, back_slot n, (l.st a _ ea (clean_slot n)).2, ds, r1.le le.toLeP, r2.le le.toLeP⟩
theorem RSv.back (p : LeP W1 H1 (W.back W1) H1) (S : Sim K W env h σ H) (l : LeW W.clean H W1 H1) {sv : Sv} {v : V} (r : RSv K W1 H1 .tmp sv v) : RSv K (W.back W1) H1 .tmp sv v := by
  cases sv with
  | val u => exact RV.le p r
  | own us =>
    obtain ⟨a, vs, rfl, n, ea, rv⟩ := r
    refine ⟨a, vs, rfl, ?_, ea, rv.le p⟩
    rw [back_else (fun k q => ?_) (fun k q => by rw [n] at q; cases q)]
    · exact n
    · obtain ⟨o, eo⟩ := S.sh.dom a _ q
      rw [(l.st a o eo (clean_slot q)).1] at n
      cases n
  | dic ks us =>
    obtain ⟨a, o, kv, vv, rfl, n, ea, ds, r1, r2⟩ := r
    refine ⟨a, o, kv, vv, rfl, ?_, ea, ds, r1.le p, r2.le p⟩
    rw [back_else (fun k q => ?_) (fun k q => by rw [n] at q; cases q)]
    · exact n
    · obtain ⟨o, eo⟩ := S.sh.dom a _ q
      rw [(l.st a o eo (clean_slot q)).1] at n
      cases n
theorem ExR.le {ga : Str → Addr} {W W' : Wd} (p : LeP W H1 W' H1) {ex : Ex} {cls : Value} {d : Option Addr} (r : ExR K ga W H1 ex cls d) : ExR K ga W' H1 ex cls d :=
  ⟨r.1, r.2.1, fun f u e => let ⟨dd, v, e1, n, e2, rv⟩ := r.2.2 f u e; ⟨dd, v, e1, (p.frx e2 n).1, (p.frx e2 n).2, rv.le p⟩⟩
end
/-- f(e, ..): D: the defaults that fill up -/
@[simp] def uCall (n : Nat) (f : FS) (D : List U) (t : UA) : UE := fun env h Po Pe => t env h (fun us env1 h1 => (us ++ D).length = n ∧ f (us ++ D) h1 (fun sv h2 => Po sv env1 h2) (fun ex h2 => Pe ex env1 h2)) Pe
section
variable {X : Cx} {L : Lx} {pos : Pos}
/-- the callee's promise, from what the caller knows -/
theorem sp_of {n : Nat} {f : FS} {W : Wd} {env : En} {h : Hv} {σ : L2.St} {H : Hp} {us : List U} {vs : List V} {Po : Sv → En → Hv → Prop} {Pe : Ex → En → Hv → Prop} {Q : VK} (S : Sim L.K W env h σ H) (r : RVs L.K W H us vs) (hn : vs.length = n)
    (hf : f us h (fun sv h2 => Po sv env h2) (fun ex h2 => Pe ex env h2)) (c : Cont L (RT L) W H σ Po Pe Q) : spF L.K L.ga n f vs H Q (fun cls d H' => L.wx cls d σ H') := by
  refine ⟨hn, W.clean, us, h, _, _, S.sh.clean, clean_noslot, r.le LeP.clean, hf, ⟨fun W1 sv h1 v H1 l S1 rv q => ?_, fun W1 ex h1 H1 cls d l S1 rx q => ?_⟩⟩
  · obtain ⟨p1, l1, S2⟩ := back_ok S l S1
    exact c.ok _ sv env h1 v H1 l1 S2 (RSv.back p1 S l rv) q
  · obtain ⟨p1, l1, S2⟩ := back_ok S l S1
    exact c.er _ ex env h1 H1 cls d l1 S2 (rx.le p1) q
/-- as FnOk, where no repr is under way around -/
structure FnG (P : Program) (w : World) (K : PySem.W.Frag) (mg : Str → Option Value) (base : Heap) (k : Nat) (f : Addr) (fd : FuncData) (ps : List Str) (sp : Sp) : Prop where
  len : ∀ vs H Q E, sp vs H Q E → vs.length = ps.length
  run : ∀ (A : Around) (outer : List Env) (s : Shared) (H : Hp) (args : Args) (us : List Value) (vs : List V) (Q : VK) (E : XK), Room k A → A.guards = some [] → Env0 P w K mg base A outer s H → BindsTo s fd args (ps.zip us) →
    Vals vs us → sp vs H Q E → codeAny (model P w) A (.call (.ref f) args) (CR (L2.CX P w) outer P w H s Q E) s
theorem FnG.mono {P : Program} {w : World} {K : PySem.W.Frag} {mg : Str → Option Value} {base : Heap} {j k : Nat} {f : Addr} {fd : FuncData} {ps : List Str} {sp : Sp} (F : FnG P w K mg base j f fd ps sp) (h : j ≤ k) : FnG P w K mg base k f fd ps sp :=
  ⟨F.len, fun A outer s H args us vs Q E hr => F.run A outer s H args us vs Q E (hr.mono h)⟩
section
variable {k : Nat} {f : Addr} {fd : FuncData} {ps : List Str} {sp : Sp} {dvs : List V} {ds : List Value} {E : L2.St → XK}
/-- the callee runs: args bind to all -/
theorem run_fnG {pins : List (Addr × Obj)} {σ : L2.St} {H : Hp} {s : Shared} {Q : VK} {args : Args} {all : List Value} {vs : List V} (F : FnG X.prog X.w X.K X.mg X.base k f fd ps sp) (hr : Room k X.A) (hgd : X.A.guards = some []) (hx : PassesAt (L2.CX X.prog X.w) X σ (E σ))
    (I : Inv X pins σ H s) (hb : all.length = ps.length → BindsTo s fd args (ps.zip all)) (r : Vals vs all) (h : sp vs H Q (E σ)) : codeAny (model X.prog X.w) X.A (.call (.ref f) args) (fun r s' => match r with
      | .ok (.ret u) => EP X pins σ Q u s'
      | .ok _ => False
      | .error e => X.xe e s') s := by
  have go := F.run X.A X.stack s H args all vs Q (E σ) hr hgd I.env0 (hb (r.length.symm.trans (F.len _ _ _ _ h))) r h
  refine codeAny_mono go fun res s2 q => ?_
  match res, q with
  | .error e, q => exact hx pins H s e s2 I q
  | .ok (.ret u), q => exact I.after q
  | .ok .next, q => exact q.elim
  | .ok .brk, q => exact q.elim
  | .ok .cont, q => exact q.elim
theorem pe_callG {x : Str} {p : Pos} {e : Expr} {es : List Expr} {t : TA} (F : FnG X.prog X.w X.K X.mg X.base k f fd ps sp) (hr : Room k X.A) (hgd : X.A.guards = some []) (hg : Gl X x) (hm : X.mg x = some (.ref f)) (hk : PySem.W.keepIn X.K (.ref f) = true) (hb : L2.Binds X.K fd ps ds)
    (hd : Vals dvs ds) (hx : ∀ σ, PassesAt (L2.CX X.prog X.w) X σ (E σ)) (ha : PA X (e :: es) t) (hdb : (x == ("__debug__" : Str)) = false := by decide) (he : starEach (e :: es) X.env = (false, eval e X.env) :: starEach es X.env := by rfl)
    (hpl : (backTo pos (starEach es X.env)).any (·.1) = false := by rfl) : PE X (.Call (.Name x p) (e :: es) [] pos) (tCallSD sp dvs E t) := by
  constructor
  intro pins s σ H Q I h
  apply wpAny_Call_Name_kw
  apply ld_glob I hg hm _ hdb
  refine PySem.W.callWith_K (h₀ := X.base) I.ok.mod.kin hk (thn (ha.run pos pins s σ H _ I h) fun us s1 z => ?_) he hpl
  obtain ⟨vs, H1, I1, r, q⟩ := z
  refine ⟨I1.kIn, wpAny_call (codeAny_mono (run_fnG (all := us ++ ds) F hr hgd (hx σ) I1 (fun hl => hb s1 us I1.kIn hl) (r.append hd) q) fun res s2 q2 => ?_)⟩
  match res, q2 with
  | .error e, q2 => exact q2
  | .ok (.ret u), q2 => exact q2
  | .ok .next, q2 => exact q2.elim
  | .ok .brk, q2 => exact q2.elim
  | .ok .cont, q2 => exact q2.elim
/-- f(e, .., k = v, ..), perhaps no positional one -/
theorem pe_callGK {n : Nat} {ks : List Str} {g : List Value → List Value → List Value} {gV : List V → List V → List V} {x : Str} {p : Pos} {e : Expr} {es : List Expr} {kws : List Keyword} {t tk : TA} (F : FnG X.prog X.w X.K X.mg X.base k f fd ps sp) (hr : Room k X.A) (hgd : X.A.guards = some []) (hg : Gl X x) (hm : X.mg x = some (.ref f))
    (hk : PySem.W.keepIn X.K (.ref f) = true) (hb : KBn X.K fd ps n ks g gV) (hx : ∀ σ, PassesAt (L2.CX X.prog X.w) X σ (E σ)) (ha : PA X (e :: es) t) (hkw : PK X kws tk) (hall : (backToKw pos (keywordEach kws X.env)).all (·.1.isSome) = true := by rfl)
    (hks : (backToKw pos (keywordEach kws X.env)).filterMap (·.1) = ks := by rfl) (hdb : (x == ("__debug__" : Str)) = false := by decide) (he : starEach (e :: es) X.env = (false, eval e X.env) :: starEach es X.env := by rfl)
    (hpl : ((backTo pos (starEach (e :: es) X.env)).any (·.1) || (backToKw pos (keywordEach kws X.env)).any (·.1.isNone)) = false := by rfl) :
    PE X (.Call (.Name x p) (e :: es) kws pos) (fun σ H Q => t σ H fun vs H1 => tk σ H1 fun zs H2 => vs.length = n ∧ zs.length = ks.length ∧ sp (gV vs zs) H2 Q (E σ)) := by
  constructor
  intro pins s σ H Q I h
  apply wpAny_Call_Name_kw
  apply ld_glob I hg hm _ hdb
  refine PySem.W.callWith_KW (h₀ := X.base) I.ok.mod.kin hk hall (thn (ha.run pos pins s σ H _ I h) fun us s1 z => ?_) hpl he
  obtain ⟨vs, H1, I1, r, q⟩ := z
  refine thn (hkw.run pos pins s1 σ H1 _ I1 q) fun ws s2 z2 => ?_
  obtain ⟨zs, H2, I2, rz, l1, l2, q2⟩ := z2
  refine ⟨I2.kIn, ?_⟩
  rw [hks]
  refine wpAny_call (codeAny_mono (run_fnG (all := g us ws) F hr hgd (hx σ) I2 (fun _ => hb.to s2 us ws I2.kIn (r.length.symm.trans l1) (rz.length.symm.trans l2)) (hb.rel r rz) q2) fun res s3 q3 => ?_)
  match res, q3 with
  | .error e, q3 => exact q3
  | .ok (.ret u), q3 => exact q3
  | .ok .next, q3 => exact q3.elim
  | .ok .brk, q3 => exact q3.elim
  | .ok .cont, q3 => exact q3.elim
theorem pe_callGK0 {ks : List Str} {g : List Value → List Value → List Value} {gV : List V → List V → List V} {x : Str} {p : Pos} {kws : List Keyword} {tk : TA} (F : FnG X.prog X.w X.K X.mg X.base k f fd ps sp) (hr : Room k X.A) (hgd : X.A.guards = some []) (hg : Gl X x) (hm : X.mg x = some (.ref f))
    (hk : PySem.W.keepIn X.K (.ref f) = true) (hb : KBn X.K fd ps 0 ks g gV) (hx : ∀ σ, PassesAt (L2.CX X.prog X.w) X σ (E σ)) (hkw : PK X kws tk) (hall : (backToKw pos (keywordEach kws X.env)).all (·.1.isSome) = true := by rfl)
    (hks : (backToKw pos (keywordEach kws X.env)).filterMap (·.1) = ks := by rfl) (hdb : (x == ("__debug__" : Str)) = false := by decide)
    (hpl : (backToKw pos (keywordEach kws X.env)).any (·.1.isNone) = false := by rfl) :
    PE X (.Call (.Name x p) [] kws pos) (fun σ H Q => tk σ H fun zs H2 => zs.length = ks.length ∧ sp (gV [] zs) H2 Q (E σ)) := by
  constructor
  intro pins s σ H Q I h
  apply wpAny_Call_Name_kw
  apply ld_glob I hg hm _ hdb
  refine PySem.W.callWith_KW0 (h₀ := X.base) I.ok.mod.kin hk hall (thn (hkw.run pos pins s σ H _ I h) fun ws s2 z2 => ?_) hpl
  obtain ⟨zs, H2, I2, rz, l2, q2⟩ := z2
  refine ⟨I2.kIn, ?_⟩
  rw [hks]
  refine wpAny_call (codeAny_mono (run_fnG (all := g [] ws) F hr hgd (hx σ) I2 (fun _ => hb.to s2 [] ws I2.kIn rfl (rz.length.symm.trans l2)) (hb.rel .nil rz) q2) fun res s3 q3 => ?_)
  match res, q3 with
  | .error e, q3 => exact q3
  | .ok (.ret u), q3 => exact q3
  | .ok .next, q3 => exact q3.elim
  | .ok .brk, q3 => exact q3.elim
  | .ok .cont, q3 => exact q3.elim
end
theorem we_call {k n : Nat} {fa : Addr} {fd : FuncData} {ps : List Str} {f : FS} {D : List U} {dvs : List V} {ds : List Value} {x : Str} {p : Pos} {e : Expr} {es : List Expr} {t : UA} (F : FnG X.prog X.w X.K X.mg X.base k fa fd ps (spF L.K L.ga n f)) (hr : Room k X.A) (hgd : X.A.guards = some []) (hg : Gl X x) (hm : X.mg x = some (.ref fa))
    (hk : PySem.W.keepIn X.K (.ref fa) = true) (hb : L2.Binds X.K fd ps ds) (hd : Vals dvs ds) (hD : ∀ W H, RVs L.K W H D dvs) (tk : Takes X L.wx) (ha : WA X L (e :: es) t)
    (hdb : (x == ("__debug__" : Str)) = false := by decide) (he : starEach (e :: es) X.env = (false, eval e X.env) :: starEach es X.env := by rfl) (hpl : (backTo pos (starEach es X.env)).any (·.1) = false := by rfl) : WE X L (.Call (.Name x p) (e :: es) [] pos) (uCall n f D t) := by
  refine PE.wk (pe_callG (E := fun σ cls d H => L.wx cls d σ H) F hr hgd hg hm hk hb hd (fun σ => passAt tk σ) ha hdb he hpl) fun σ H Q ⟨W, env, h, Po, Pe, S, ht, c⟩ => ?_
  refine ⟨W, env, h, _, _, S, ht, ⟨fun W1 us env1 h1 vs H1 l1 S1 r1 q1 => ?_, c.er⟩⟩
  have rr := RVs.append r1 (hD W1 H1)
  exact sp_of S1 rr (rr.length.symm.trans q1.1) q1.2 (c.le l1)
/-- keywords' values -/
def WK (X : Cx) (L : Lx) (kws : List Keyword) (t : UA) : Prop := PK X kws (lg L (RA L) t)
theorem PK.wk {kws : List Keyword} {t t' : TA} (h : PK X kws t) (w : ∀ σ H Q, t' σ H Q → t σ H Q) : PK X kws t' := ⟨fun p pins s σ H Q I q => h.run p pins s σ H Q I (w _ _ _ q)⟩
theorem wk_nil : WK X L [] uNil := PK.wk pk_nil fun σ H Q ⟨W, env, h, Po, Pe, S, ht, c⟩ => c.ok W [] env h [] H .refl S .nil ht
theorem wk_cons {e : Expr} {kws : List Keyword} {nm : Option Str} {kpos : Pos} {t : UE} {r : UA} (ha : WE X L e t) (hr : WK X L kws r) : WK X L (⟨nm, e, kpos⟩ :: kws) (uCons t r) := by
  refine PK.wk (pk_cons ha hr) fun σ H Q ⟨W, env, h, Po, Pe, S, ht, c⟩ => ?_
  refine ⟨W, env, h, _, _, S, ht, ⟨fun W1 x env1 h1 v1 H1 l1 S1 r1 q1 => ?_, c.er⟩⟩
  obtain ⟨W1', S1', l1', rv1⟩ := S1.freeze r1
  have c1 := c.le (l1.trans l1')
  exact ⟨W1', env1, h1, _, _, S1', q1, ⟨fun W2 xs env2 h2 vs H2 l2 S2 r2 q2 => c1.ok W2 _ env2 h2 _ H2 l2 S2 (.cons (rv1.le l2.toLeP) r2) q2, c1.er⟩⟩
/-- where each parameter comes from: a positional value, a keyword's, a default -/
inductive Src where
  | pos (i : Nat) | kw (i : Nat) | dfl (u : U)
def Src.u (us ws : List U) : Src → U
  | .pos i => us.getD i .non
  | .kw i => ws.getD i .non
  | .dfl u => u
/-- f(e, .., k = v, ..) -/
@[simp] def uCallK (n : Nat) (f : FS) (np nk : Nat) (g : List U → List U → List U) (t tk : UA) : UE := fun env h Po Pe => t env h (fun us env1 h1 => tk env1 h1 (fun ws env2 h2 => us.length = np ∧ ws.length = nk ∧ (g us ws).length = n ∧ f (g us ws) h2 (fun sv h3 => Po sv env2 h3) (fun ex h3 => Pe ex env2 h3)) Pe) Pe
theorem we_callK {k n np nk : Nat} {fa : Addr} {fd : FuncData} {ps ks : List Str} {f : FS} {g : List Value → List Value → List Value} {gV : List V → List V → List V} {gU : List U → List U → List U} {x : Str} {p : Pos} {e : Expr} {es : List Expr} {kws : List Keyword} {t tk : UA}
    (F : FnG X.prog X.w X.K X.mg X.base k fa fd ps (spF L.K L.ga n f)) (hr : Room k X.A) (hgd : X.A.guards = some []) (hg : Gl X x) (hm : X.mg x = some (.ref fa)) (hk : PySem.W.keepIn X.K (.ref fa) = true) (hb : KBn X.K fd ps np ks g gV)
    (hG : ∀ {W : Wd} {H : Hp} {us ws : List U} {vs zs : List V}, RVs L.K W H us vs → RVs L.K W H ws zs → us.length = np → ws.length = nk → RVs L.K W H (gU us ws) (gV vs zs)) (hnk : ks.length = nk) (tk' : Takes X L.wx) (ha : WA X L (e :: es) t) (hkw : WK X L kws tk)
    (hall : (backToKw pos (keywordEach kws X.env)).all (·.1.isSome) = true := by rfl)
    (hks : (backToKw pos (keywordEach kws X.env)).filterMap (·.1) = ks := by rfl) (hdb : (x == ("__debug__" : Str)) = false := by decide) (he : starEach (e :: es) X.env = (false, eval e X.env) :: starEach es X.env := by rfl)
    (hpl : ((backTo pos (starEach (e :: es) X.env)).any (·.1) || (backToKw pos (keywordEach kws X.env)).any (·.1.isNone)) = false := by rfl) :
    WE X L (.Call (.Name x p) (e :: es) kws pos) (uCallK n f np nk gU t tk) := by
  subst hnk
  refine PE.wk (pe_callGK (E := fun σ cls d H => L.wx cls d σ H) F hr hgd hg hm hk hb (fun σ => passAt tk' σ) ha hkw hall hks hdb he hpl) fun σ H Q ⟨W, env, h, Po, Pe, S, ht, c⟩ => ?_
  refine ⟨W, env, h, _, _, S, ht, ⟨fun W1 us env1 h1 vs H1 l1 S1 r1 q1 => ?_, c.er⟩⟩
  have c1 := c.le l1
  refine ⟨W1, env1, h1, _, _, S1, q1, ⟨fun W2 ws env2 h2 zs H2 l2 S2 r2 q2 => ?_, c1.er⟩⟩
  have r1' : RVs L.K W2 H2 us vs := RVs.le l2.toLeP r1
  have rr := hG r1' r2 q2.1 q2.2.1
  exact ⟨r1.length.symm.trans q2.1, r2.length.symm.trans q2.2.1, sp_of S2 rr (rr.length.symm.trans q2.2.2.1) q2.2.2.2 (c1.le l2)⟩
theorem we_callK0 {k n nk : Nat} {fa : Addr} {fd : FuncData} {ps ks : List Str} {f : FS} {g : List Value → List Value → List Value} {gV : List V → List V → List V} {gU : List U → List U → List U} {x : Str} {p : Pos} {kws : List Keyword} {tk : UA}
    (F : FnG X.prog X.w X.K X.mg X.base k fa fd ps (spF L.K L.ga n f)) (hr : Room k X.A) (hgd : X.A.guards = some []) (hg : Gl X x) (hm : X.mg x = some (.ref fa)) (hk : PySem.W.keepIn X.K (.ref fa) = true) (hb : KBn X.K fd ps 0 ks g gV)
    (hG : ∀ {W : Wd} {H : Hp} {us ws : List U} {vs zs : List V}, RVs L.K W H us vs → RVs L.K W H ws zs → us.length = 0 → ws.length = nk → RVs L.K W H (gU us ws) (gV vs zs)) (hnk : ks.length = nk) (tk' : Takes X L.wx) (hkw : WK X L kws tk)
    (hall : (backToKw pos (keywordEach kws X.env)).all (·.1.isSome) = true := by rfl)
    (hks : (backToKw pos (keywordEach kws X.env)).filterMap (·.1) = ks := by rfl) (hdb : (x == ("__debug__" : Str)) = false := by decide)
    (hpl : (backToKw pos (keywordEach kws X.env)).any (·.1.isNone) = false := by rfl) :
    WE X L (.Call (.Name x p) [] kws pos) (uCallK n f 0 nk gU uNil tk) := by
  subst hnk
  refine PE.wk (pe_callGK0 (E := fun σ cls d H => L.wx cls d σ H) F hr hgd hg hm hk hb (fun σ => passAt tk' σ) hkw hall hks hdb hpl) fun σ H Q ⟨W, env, h, Po, Pe, S, ht, c⟩ => ?_
  refine ⟨W, env, h, _, _, S, ht, ⟨fun W2 ws env2 h2 zs H2 l2 S2 r2 q2 => ?_, c.er⟩⟩
  have rr := hG .nil r2 rfl q2.2.1
  exact ⟨r2.length.symm.trans q2.2.1, sp_of S2 rr (rr.length.symm.trans q2.2.2.1) q2.2.2.2 (c.le l2)⟩
end

/-! ### a def keeps its promise -/
def startE (N : List Str) (us : List U) : En := us.map (fun u => some (.val u)) ++ List.replicate (N.length - us.length) none
theorem sim_start {K : PySem.W.Frag} {W : Wd} {h : Hv} {H : Hp} {N : List Str} {us : List U} {vs : List V} (S : SimH K W h H) (r : RVs K W H us vs) : Sim K W (startE N us) h (L2.start N vs) H := by
  have hl := r.length
  refine ⟨S, by simp [startE, L2.start, hl], fun k sv e => ?_⟩
  unfold startE at e
  by_cases hk : k < us.length
  · rw [List.getElem?_append_left (by simpa using hk), List.getElem?_map] at e
    obtain ⟨v, ev, rv⟩ := r.get (i := k) (u := us[k]) (by simp [hk])
    rw [show us[k]? = some us[k] by simp [hk]] at e
    cases e
    refine ⟨v, ?_, rv⟩
    unfold L2.start
    rw [List.getElem?_append_left (by simpa [hl] using hk), List.getElem?_map, ev]
    rfl
  · rw [List.getElem?_append_right (by simpa using hk), List.getElem?_replicate] at e
    split at e
    · cases e
    · cases e
/-- the body's ends, for the caller's wishes -/
abbrev bodyD (Po : Sv → Hv → Prop) (Pe : Ex → Hv → Prop) : UD := { nx := fun _ h' => Po (.val .non) h', rt := fun sv _ h' => Po sv h', er := fun ex _ h' => Pe ex h' }
theorem fn_ok {P : Program} {w : World} {K : PySem.W.Frag} {mg : Str → Option Value} {base : Heap} {ga : Str → Addr} {k : Nat} {fa : Addr} {fd : FuncData} {x qual : Str} {params : Arguments} {body : List Stmt} {scope : Scope} {dvs : List V} {kws : List (Str × V)} {N ps : List Str} {f : FS} {t : US}
    (F : FunD K x qual params body scope dvs kws fa fd) (S : FnScope N ps scope)
    (der : ∀ (cdv : Value) (A : Around) (outer : List Env) (s : Shared) (H : Hp) (E : XK), Room k (A.deeper (envOfC qual scope s.heap.objs.size fa cdv)) → A.guards = some [] →
      WSs (cxOf (L2.CX P w) P w K mg base N qual scope fa cdv A outer s H E) ⟨K, ga, fun cls d _ H => E cls d H⟩ body t)
    (conf : ∀ us h Po Pe, us.length = ps.length → f us h Po Pe → t (startE N us) h (bodyD Po Pe)) : FnG P w K mg base (k + 1) fa fd ps (spF K ga ps.length f) := by
  obtain ⟨oc, od, dV, kV, doc, pm, an, cdv, ct, osl, e, lk, hcd, _, _⟩ := F.ex
  subst e
  constructor
  · exact fun vs H Q E q => q.1
  intro A outer s H args us vs Q E hr hgd e0 hb r hsp
  have hl : vs.length = ps.length := hsp.1
  have inK : K.In s.heap := e0.mod.kin.keeps fun b o q => (e0.bs b o q).1
  have lim : s.heap.NoLimit := e0.mod.nolimit.keeps fun b o q => (e0.bs b o q).1
  have kinds : ∀ y ∈ ps.zip us, scope.names.lookup y.1 = some .local ∨ (scope.names.lookup y.1 = some .cell ∧ ((cellsFrom (s.heap.objs.size + 1) scope.names []).lookup y.1).isSome = true) := by
    intro y hy
    obtain ⟨n, v⟩ := y
    rcases S.par n (List.of_mem_zip hy).1 with q | q
    · exact .inl q
    · exact .inr ⟨q, PySem.W.cellsFrom_some _ _ _ (.inl q)⟩
  refine codeAny_call_function hr.depth (inK _ _ lk) rfl S.co S.gen rfl (PySem.W.codeRec_of inK hcd) (hb _ _ _ _ ?_)
  refine wpAny_newFunctionEnv_cells S.kind kinds fun env henv s1 x => ?_
  subst henv
  refine ⟨lim.keeps x.toInCall.keep, codeAny_func ?_⟩
  have D := der cdv A outer s H E (hr.deeper _) hgd
  have J : Inv (cxOf (L2.CX P w) P w K mg base N qual scope fa cdv A outer s H E) [] (L2.start N vs) H s1 := inv_start S hr.hd e0 hl r x
  obtain ⟨_, W, us', h, Po, Pe, SH, ns, rr, hf, fc⟩ := hsp
  have want : ls ⟨K, ga, fun cls d _ H => E cls d H⟩ t { nx := fun _ H' => Q .non H', rt := Q } (L2.start N vs) H := by
    refine ⟨W, startE N us', h, _, sim_start SH rr, conf us' h Po Pe (rr.length.trans hl) hf, ⟨fun W' env' h' σ' H' l S' q => fc.ok W' (.val .non) h' .non H' l S'.sh .non q, fun _ _ _ _ _ _ _ z => z.elim, fun _ _ _ _ _ _ _ z => z.elim,
      fun W' sv env' h' σ' v H' l S' rv q => fc.ok W' sv h' v H' l S'.sh rv q, fun W' ex env' h' σ' H' cls d l S' rx q => fc.er W' ex h' H' cls d l S'.sh rx q⟩⟩
  refine wpAny_mono (D.run [] s1 (L2.start N vs) H _ J want) (fun fl s2 q => ?_) fun e s2 q => q
  match fl, q with
  | .ret u, ⟨v, σ', H', J', rv, q⟩ => exact ⟨v, H', J'.os, J'.bare, J'.base, J'.hok, rv, q⟩
  | .next, ⟨σ', H', J', q⟩ => exact ⟨.non, H', J'.os, J'.bare, J'.base, J'.hok, rfl, q⟩
  | .brk, ⟨_, _, _, q⟩ => exact q.elim
  | .cont, ⟨_, _, _, q⟩ => exact q.elim
end Vi

/-! Vi4: operators and what is built in, by trees. -/
namespace Vi
open PySem PySem.Spec PyProof.Rows L2
variable [WW]
section
variable {X : Cx} {K : PySem.W.Frag}
theorem OpR.wk {f : Value → Value → Sem Value} {r r' : R2} (h : OpR X f r) (w : ∀ x y H Q, r' x y H Q → r x y H Q) : OpR X f r' := fun pins s σ H x y v u Q I rx ry q => h pins s σ H x y v u Q I rx ry (w _ _ _ _ q)
theorem IxR.wk {r r' : R2} (h : IxR X r) (w : ∀ x y H Q, r' x y H Q → r x y H Q) : IxR X r' := fun a b pins s σ H x y v u Q I rx ry q hs => h a b pins s σ H x y v u Q I rx ry (w _ _ _ _ q) hs
theorem CallR.wk {f : Value} {r r' : List V → Hp → VK → Prop} (h : CallR X f r) (w : ∀ x H Q, r' x H Q → r x H Q) : CallR X f r' := fun pins s σ H x v Q I rx q => h pins s σ H x v Q I rx (w _ _ _ q)
theorem CallR.or {f : Value} {r r' : List V → Hp → VK → Prop} (h : CallR X f r) (h' : CallR X f r') : CallR X f (fun x H Q => r x H Q ∨ r' x H Q) := by
  intro pins s σ H x us Q I rx q
  rcases q with q | q
  · exact h pins s σ H x us Q I rx q
  · exact h' pins s σ H x us Q I rx q
theorem PSet.wk {r r' : TSet} (h : PSet X r) (w : ∀ o i v H Q, r' o i v H Q → r o i v H Q) : PSet X r' := fun pins s σ H o i v ov iv u Q I a b c q => h pins s σ H o i v ov iv u Q I a b c (w _ _ _ _ _ q)

/-- a plain value is given -/
theorem OCont.val {W : Wd} {H : Hp} {env : En} {h : Hv} {σ : L2.St} {P : Sv → Hv → Prop} {Q : VK} (c : OCont K W H env σ P Q) (S : Sim K W env h σ H) {u : U} {v : V} (r : RV K W H u v) (q : P (.val u) h) : Q v H := c W (.val u) h v H .refl S r q
/-- a new tuple is given -/
theorem OCont.tup {W : Wd} {H : Hp} {env : En} {h : Hv} {σ : L2.St} {P : Sv → Hv → Prop} {Q : VK} (c : OCont K W H env σ P Q) (S : Sim K W env h σ H) {us : List U} {vs : List V} (r : RVs K W H us vs) (q : P (.val (.tup us)) h) : NewT H Q vs := fun p ob hp hd => by
  have l := LeW.none_ S.sh hp (.frz ob (.tup vs))
  exact c W (.val (.tup us)) h _ _ l (S.none_ hp _) (.tup (.inl ⟨ob, hd, upd_same⟩) (r.le l.toLeP)) q
/-- a new list is given -/
theorem OCont.lst {W : Wd} {H : Hp} {env : En} {h : Hv} {σ : L2.St} {P : Sv → Hv → Prop} {Q : VK} (c : OCont K W H env σ P Q) (S : Sim K W env h σ H) {us : List U} {vs : List V} (r : RVs K W H us vs) (q : P (.own us) h) {p : Addr} (hp : H p = none) : Q (.ref p) (upd H p (.lst vs)) := by
  obtain ⟨S2, l⟩ := S.alloc hp (.lst vs) .tmp
  exact c _ (.own us) h _ _ l S2 ⟨p, vs, rfl, Wd.put_same, upd_same, r.le l.toLeP⟩ q

/-! ### + - * // % ** -/
/-- a list and another, either of them the script -/
def rCatL (K : PySem.W.Frag) : R2 := fun x y H Q => ∃ l b xs zs, x = .ref l ∧ y = .ref b ∧ SqL K H l xs ∧ SqL K H b zs ∧ xs.length + zs.length ≤ sizeLine ∧ ∀ p, H p = none → Q (.ref p) (upd H p (.lst (xs ++ zs)))
theorem op_catL : OpR X (binaryOp .Add) (rCatL X.K) := by
  intro pins s σ H x y v u Q I rx ry h
  obtain ⟨l, b, xs, zs, rfl, rfl, hH, hB, hz, q⟩ := h
  cases rx
  cases ry
  obtain ⟨its, r, ⟨⟨cls, dd, data, sl⟩, n, ho, hc, hdd, hd⟩, z⟩ := I.list hH
  obtain ⟨its2, r2, ⟨⟨cls2, dd2, data2, sl2⟩, n2, ho2, hc2, hdd2, hd2⟩, z2⟩ := I.list hB
  simp only at hc hd hc2 hd2
  subst hc hd hc2 hd2
  have e : its.toArray ++ its2.toArray = (its ++ its2).toArray := by simp
  have l1 := r.length
  have l2 := r2.length
  refine concat_meets ⟨_, ho, rfl⟩ ⟨_, ho2, rfl⟩ noFill_list_add seq_list_add PySem.F.slot_list_add PySem.F.entry_list_add (PySem.F.args_list_add_2 _ _) (list_addW l b its.toArray its2.toArray n n2 dd dd2 sl sl2 (by simp; omega)) ⟨ho, ho2, ?_⟩
  rw [e]
  exact ⟨.ref _, _, I.lnew (t' := s.toks) (r.append r2) (by rw [List.length_append]; omega), rfl, q _ I.fresh⟩
@[simp] def bAdd : UO := fun u w h P => match u, w with
  | .int i, .int j => P (.val (.int (i + j))) h
  | .str x, .str y => x.length + y.length ≤ sizeLine ∧ P (.val (.str (x ++ y))) h
  | .tup a, .tup b => a.length + b.length ≤ sizeLine ∧ P (.val (.tup (a ++ b))) h
  | .lst a, .lst b => a.length + b.length ≤ sizeLine ∧ P (.own (a ++ b)) h
  | .scr a, .lst b => a.length + b.length ≤ sizeLine ∧ P (.own (a.map U.int ++ b)) h
  | .lst a, .scr b => a.length + b.length ≤ sizeLine ∧ P (.own (a ++ b.map U.int)) h
  | _, _ => False
theorem op_addU : OpR X (binaryOp .Add) (lo X.K bAdd) := by
  refine OpR.wk (op_add.or (op_add_str.or ((op_catA.or op_catF).or op_catL))) fun x y H Q ⟨W, env, h, σ, u, w, P, S, ru, rw_, ht, c⟩ => ?_
  unfold bAdd at ht
  split at ht
  · cases ru; cases rw_
    exact .inl ⟨_, _, rfl, rfl, c.val S (.int _) ht⟩
  · cases ru; cases rw_
    exact .inr (.inl ⟨_, _, rfl, rfl, ht.1, c.val S (.str _) ht.2⟩)
  · rename_i a b
    have ru0 := ru
    have rw0 := rw_
    cases ru with
    | tup h1 r1 =>
      cases rw_ with
      | tup h2 r2 =>
        have e1 := r1.length
        have e2 := r2.length
        by_cases hn : a = [] ∨ b = []
        case neg =>
          have n1 : a ≠ [] := fun z => hn (.inl z)
          have n2 : b ≠ [] := fun z => hn (.inr z)
          exact .inr (.inr (.inl (.inr ⟨_, _, _, _, rfl, rfl, h1.sq, h2.sq, fun z => n1 (List.length_eq_zero_iff.mp (by rw [e1, z]; rfl)), fun z => n2 (List.length_eq_zero_iff.mp (by rw [e2, z]; rfl)), by rw [← e1, ← e2]; exact ht.1, c.tup S (r1.append r2) ht.2⟩)))
        refine .inr (.inr (.inl (.inl ⟨_, _, _, _, rfl, rfl, h1.sq, h2.sq, by rw [← e1, ← e2]; exact ht.1, fun z => ?_, fun _ z => ?_, fun z1 z2 => ?_⟩)))
        rotate_left 2
        · exfalso
          rcases hn with z | z
          · exact z1 (List.length_eq_zero_iff.mp (by rw [← e1, z]; rfl))
          · exact z2 (List.length_eq_zero_iff.mp (by rw [← e2, z]; rfl))
        · have ea : a = [] := List.length_eq_zero_iff.mp (by rw [e1, z]; rfl)
          subst ea
          exact c.val S rw0 ht.2
        · have ea : b = [] := List.length_eq_zero_iff.mp (by rw [e2, z]; rfl)
          subst ea
          rw [List.append_nil] at ht
          exact c.val S ru0 ht.2
  · cases ru with
    | lst n1 h1 r1 =>
      cases rw_ with
      | lst n2 h2 r2 =>
        exact .inr (.inr (.inr ⟨_, _, _, _, rfl, rfl, .inl (.inl h1), .inl (.inl h2), by rw [← r1.length, ← r2.length]; exact ht.1, fun p hp => c.lst S (r1.append r2) ht.2 hp⟩))
  · cases ru with
    | scr h1 =>
      cases rw_ with
      | lst n2 h2 r2 =>
        exact .inr (.inr (.inr ⟨_, _, _, _, rfl, rfl, h1.sq, .inl (.inl h2), by rw [List.length_map, ← r2.length]; exact ht.1, fun p hp => c.lst S ((RVs.ints _).append r2) ht.2 hp⟩))
  · cases ru with
    | lst n1 h1 r1 =>
      cases rw_ with
      | scr h2 =>
        exact .inr (.inr (.inr ⟨_, _, _, _, rfl, rfl, .inl (.inl h1), h2.sq, by rw [List.length_map, ← r1.length]; exact ht.1, fun p hp => c.lst S (r1.append (RVs.ints _)) ht.2 hp⟩))
  · exact ht.elim
/-- an operation of two ints -/
@[simp] def bInt2 (C : Int → Int → Prop) (g : Int → Int → Int) : UO := fun u w h P => match u, w with
  | .int i, .int j => C i j ∧ P (.val (.int (g i j))) h
  | _, _ => False
theorem op_int2 {f : Value → Value → Sem Value} {C : Int → Int → Prop} {g : Int → Int → Int} (ho : OpR X f (rI C fun i j => .int (g i j))) : OpR X f (lo X.K (bInt2 C g)) := by
  refine OpR.wk ho fun x y H Q ⟨W, env, h, σ, u, w, P, S, ru, rw_, ht, c⟩ => ?_
  unfold bInt2 at ht
  split at ht
  · cases ru; cases rw_
    exact ⟨_, _, rfl, rfl, ht.1, c.val S (.int _) ht.2⟩
  · exact ht.elim
@[simp] def bSub : UO := bInt2 (fun _ _ => True) fun i j => i - j
theorem op_subU : OpR X (binaryOp .Sub) (lo X.K bSub) := op_int2 (OpR.wk op_sub fun x y H Q ⟨i, j, a, b, _, q⟩ => ⟨i, j, a, b, q⟩)
@[simp] def bFdiv : UO := bInt2 CDivW fun i j => i / j
theorem op_fdivU : OpR X (binaryOp .FloorDiv) (lo X.K bFdiv) := op_int2 op_fdivW
@[simp] def bMod : UO := bInt2 (fun _ j => 0 < j) fun i j => i % j
theorem op_modU : OpR X (binaryOp .Mod) (lo X.K bMod) := op_int2 op_mod
@[simp] def bPow : UO := bInt2 CPow fun i j => i ^ j.toNat
theorem op_powU : OpR X (binaryOp .Pow) (lo X.K bPow) := op_int2 op_pow
@[simp] def bMul : UO := fun u w h P => match u, w with
  | .int i, .int j => (CMul i j ∨ CMulW i j) ∧ P (.val (.int (i * j))) h
  | .lst a, .int k => -(2 ^ 63) ≤ k ∧ k < 2 ^ 63 ∧ a.length * k.toNat ≤ sizeLine ∧ P (.own (List.replicate k.toNat a).flatten) h
  | _, _ => False
theorem RVs.rep {W : Wd} {H : Hp} {us : List U} {vs : List V} (r : RVs K W H us vs) : ∀ n : Nat, RVs K W H (List.replicate n us).flatten (List.replicate n vs).flatten
  | 0 => .nil
  | n + 1 => by
    rw [List.replicate_succ, List.replicate_succ, List.flatten_cons, List.flatten_cons]
    exact r.append (RVs.rep r n)
theorem op_mulU : OpR X (binaryOp .Mult) (lo X.K bMul) := by
  refine OpR.wk (op_mul.or (op_mulW.or op_rep)) fun x y H Q ⟨W, env, h, σ, u, w, P, S, ru, rw_, ht, c⟩ => ?_
  unfold bMul at ht
  split at ht
  · cases ru; cases rw_
    rcases ht with ⟨ht | ht, q⟩
    · exact .inl ⟨_, _, rfl, rfl, ht, c.val S (.int _) q⟩
    · exact .inr (.inl ⟨_, _, rfl, rfl, ht, c.val S (.int _) q⟩)
  · cases rw_
    cases ru with
    | lst n1 h1 r1 =>
      exact .inr (.inr ⟨_, _, _, rfl, rfl, h1, ht.1, ht.2.1, by rw [← r1.length]; exact ht.2.2.1, fun p hp => c.lst S (r1.rep _) ht.2.2.2 hp⟩)
  · exact ht.elim

/-! ### comparisons -/
@[simp] def bIntC (g : Int → Int → Bool) : UO := fun u w h P => match u, w with
  | .int i, .int j => P (.val (.bl (g i j))) h
  | _, _ => False
theorem op_intC {f : Value → Value → Sem Value} {g : Int → Int → Bool} (ho : OpR X f (rI0 fun i j => .bl (g i j))) : OpR X f (lo X.K (bIntC g)) := by
  refine OpR.wk ho fun x y H Q ⟨W, env, h, σ, u, w, P, S, ru, rw_, ht, c⟩ => ?_
  unfold bIntC at ht
  split at ht
  · cases ru; cases rw_
    exact ⟨_, _, rfl, rfl, c.val S (.bl _) ht⟩
  · exact ht.elim
@[simp] def bLt : UO := bIntC fun i j => decide (i < j)
@[simp] def bLe : UO := bIntC fun i j => decide (i ≤ j)
@[simp] def bGt : UO := bIntC fun i j => decide (j < i)
@[simp] def bGe : UO := bIntC fun i j => decide (j ≤ i)
theorem op_ltU : OpR X (compareOp .Lt) (lo X.K bLt) := op_intC op_lt
theorem op_leU : OpR X (compareOp .LtE) (lo X.K bLe) := op_intC op_le
theorem op_gtU : OpR X (compareOp .Gt) (lo X.K bGt) := op_intC op_gt
theorem op_geU : OpR X (compareOp .GtE) (lo X.K bGe) := op_intC op_ge
mutual
def toD : U → Option PyData
  | .non => some .none
  | .bl b => some (.bool b)
  | .int i => some (.int i)
  | .str x => some (.str x)
  | .tup us => (toDs us).map .tuple
  | .lst us => (toDs us).map .list
  | .scr ns => some (.list (ns.map .int))
  | _ => none
def toDs : List U → Option (List PyData)
  | [] => some []
  | u :: us => match toD u, toDs us with
    | some d, some ds => some (d :: ds)
    | _, _ => none
end
theorem DpAll.ints {H : Hp} : ∀ ns : List Int, DpAll K H (ns.map V.int) (ns.map PyData.int)
  | [] => .nil
  | n :: ns => .cons (.int n) (DpAll.ints ns)
mutual
theorem RV.dp {W : Wd} {H : Hp} : ∀ {u : U} {v : V} {d : PyData}, RV K W H u v → toD u = some d → Dp K H v d
  | _, _, _, .non, e => by cases e; exact .non
  | _, _, _, .bl b, e => by cases e; exact .bl b
  | _, _, _, .int b, e => by cases e; exact .int b
  | _, _, _, .str b, e => by cases e; exact .str b
  | _, _, _, .ty b, e => by cases e
  | _, _, _, .tup (us := us) h r, e => by
    unfold toD at e
    cases q : toDs us with
    | none => rw [q] at e; cases e
    | some ds =>
      rw [q] at e
      cases e
      exact .tup h.sq (RVs.dp r q)
  | _, _, _, .lst (us := us) n h r, e => by
    unfold toD at e
    cases q : toDs us with
    | none => rw [q] at e; cases e
    | some ds =>
      rw [q] at e
      cases e
      exact .lst (.inl (.inl h)) (RVs.dp r q)
  | _, _, _, .scr (ns := ns) h, e => by
    cases e
    exact .lst h.sq (DpAll.ints ns)
  | _, _, _, .ref _ _, e => by cases e
  | _, _, _, .err _ _, e => by cases e
  | _, _, _, .ecl _ _, e => by cases e
  | _, _, _, .dic _ _ _ _, e => by cases e
  | _, _, _, .erf _ _ _ _ _, e => by cases e
theorem RVs.dp {W : Wd} {H : Hp} : ∀ {us : List U} {vs : List V} {ds : List PyData}, RVs K W H us vs → toDs us = some ds → DpAll K H vs ds
  | _, _, _, .nil, e => by cases e; exact .nil
  | _, _, _, .cons (u := u) (us := us) a b, e => by
    unfold toDs at e
    cases q : toD u with
    | none => rw [q] at e; cases e
    | some d =>
      cases q2 : toDs us with
      | none => rw [q, q2] at e; cases e
      | some ds =>
        rw [q, q2] at e
        cases e
        exact .cons (RV.dp a q) (RVs.dp b q2)
end
/-- a scalar -/
def flatS : U → Option V
  | .non => some .non
  | .bl b => some (.bl b)
  | .int i => some (.int i)
  | .str x => some (.str x)
  | _ => none
/-- == of data of any depth -/
def eqD? (u w : U) : Option Bool := match toD u, toD w with
  | some d, some e => if SeqAt.shaped d && SeqAt.shaped e then some (PyData.eqv d e) else none
  | _, _ => none
/-- == -/
def eqU? : U → U → Option Bool
  | .str x, .str y => some (decide (x = y))
  | .int i, .int j => some (decide (i = j))
  | .bl i, .bl j => some (decide (i = j))
  | .str _, .non => some false
  | .non, .str _ => some false
  | u, w => eqD? u w
@[simp] def bEq : UO := fun u w h P => match eqU? u w with
  | some b => P (.val (.bl b)) h
  | none => False
@[simp] def bNe : UO := fun u w h P => match eqU? u w with
  | some b => P (.val (.bl (!b))) h
  | none => False
theorem eqD?_some {u w : U} {b : Bool} (h : eqD? u w = some b) : ∃ d e, toD u = some d ∧ toD w = some e ∧ SeqAt.shaped d = true ∧ SeqAt.shaped e = true ∧ b = PyData.eqv d e := by
  unfold eqD? at h
  split at h
  · rename_i d e h1 h2
    split at h
    · rename_i h3
      simp only [Bool.and_eq_true] at h3
      cases h
      exact ⟨d, e, h1, h2, h3.1, h3.2, rfl⟩
    · cases h
  · cases h
/-- by scalars, or by data -/
theorem eqU?_some {u w : U} {b : Bool} (h : eqU? u w = some b) : (∃ x y, flatS u = some x ∧ flatS w = some y ∧ scal x y = true ∧ b = decide (x = y)) ∨ ∃ d e, toD u = some d ∧ toD w = some e ∧ SeqAt.shaped d = true ∧ SeqAt.shaped e = true ∧ b = PyData.eqv d e := by
  unfold eqU? at h
  split at h
  · cases h; exact .inl ⟨_, _, rfl, rfl, rfl, by simp⟩
  · cases h; exact .inl ⟨_, _, rfl, rfl, rfl, by simp⟩
  · cases h; exact .inl ⟨_, _, rfl, rfl, rfl, by simp⟩
  · cases h; exact .inl ⟨_, _, rfl, rfl, rfl, by simp⟩
  · cases h; exact .inl ⟨_, _, rfl, rfl, rfl, by simp⟩
  · exact .inr (eqD?_some h)
theorem RV.flatS {W : Wd} {H : Hp} {u : U} {v w : V} (r : RV K W H u v) (e : Vi.flatS u = some w) : v = w := by
  cases r <;> first | (cases e; rfl) | cases e
theorem op_eqU (hu : X.A.units + 64 < cLine) : OpR X (compareOp .Eq) (lo X.K bEq) := by
  refine OpR.wk (op_eq.or (op_eqD hu)) fun x y H Q ⟨W, env, h, σ, u, w, P, S, ru, rw_, ht, c⟩ => ?_
  unfold bEq at ht
  split at ht
  · rename_i b eb
    rcases eqU?_some eb with ⟨x, y, h1, h2, h3, rfl⟩ | ⟨d, e, h1, h2, h3, h4, rfl⟩
    · cases ru.flatS h1
      cases rw_.flatS h2
      exact .inl ⟨h3, c.val S (.bl _) ht⟩
    · exact .inr ⟨d, e, ru.dp h1, rw_.dp h2, h3, h4, c.val S (.bl _) ht⟩
  · exact ht.elim
theorem op_neU (hu : X.A.units + 64 < cLine) : OpR X (compareOp .NotEq) (lo X.K bNe) := by
  refine OpR.wk (op_ne.or (op_neD hu)) fun x y H Q ⟨W, env, h, σ, u, w, P, S, ru, rw_, ht, c⟩ => ?_
  unfold bNe at ht
  split at ht
  · rename_i b eb
    rcases eqU?_some eb with ⟨x, y, h1, h2, h3, rfl⟩ | ⟨d, e, h1, h2, h3, h4, rfl⟩
    · cases ru.flatS h1
      cases rw_.flatS h2
      exact .inl ⟨h3, c.val S (.bl _) ht⟩
    · exact .inr ⟨d, e, ru.dp h1, rw_.dp h2, h3, h4, c.val S (.bl _) ht⟩
  · exact ht.elim
/-- a flat value -/
@[simp] def flatU : U → Option V
  | .non => some .non
  | .bl b => some (.bl b)
  | .int i => some (.int i)
  | .str x => some (.str x)
  | _ => none
@[simp] def flatUs : List U → Option (List V)
  | [] => some []
  | u :: us => match flatU u, flatUs us with
    | some v, some vs => some (v :: vs)
    | _, _ => none
theorem RV.flat {W : Wd} {H : Hp} {u : U} {v w : V} (r : RV K W H u v) (e : flatU u = some w) : v = w ∧ flatV v = true := by
  cases r <;> first | (cases e; exact ⟨rfl, rfl⟩) | cases e
theorem RVs.flat {W : Wd} {H : Hp} : ∀ {us : List U} {vs ws : List V}, RVs K W H us vs → flatUs us = some ws → vs = ws ∧ vs.all flatV = true
  | _, _, _, .nil, e => by cases e; exact ⟨rfl, rfl⟩
  | _, _, _, .cons (u := u) (us := us) a b, e => by
    unfold flatUs at e
    cases q : flatU u with
    | none => rw [q] at e; cases e
    | some v =>
      cases q2 : flatUs us with
      | none => rw [q, q2] at e; cases e
      | some vs =>
        rw [q, q2] at e
        cases e
        obtain ⟨h1, h2⟩ := a.flat q
        obtain ⟨h3, h4⟩ := RVs.flat b q2
        exact ⟨by rw [h1, h3], by rw [List.all_cons, h2, h4]; rfl⟩
@[simp] def seqU : U → Option (List U)
  | .tup us => some us
  | .lst us => some us
  | _ => none
/-- x in a list or tuple of flat values -/
def inU? (u w : U) : Option Bool := match flatU u, (seqU w).bind flatUs with
  | some v, some vs => some (inV v vs)
  | _, _ => none
@[simp] def bIn (neg : Bool) : UO := fun u w h P => match inU? u w with
  | some b => P (.val (.bl (if neg then !b else b))) h
  | none => False
theorem rIn_of {neg : Bool} {x y : V} {H : Hp} {Q : VK} (h : lo K (bIn neg) x y H Q) : rIn K neg x y H Q := by
  obtain ⟨W, env, h, σ, u, w, P, S, ru, rw_, ht, c⟩ := h
  unfold bIn at ht
  split at ht
  · rename_i b e
    unfold inU? at e
    split at e
    · rename_i v vs h1 h2
      cases e
      obtain ⟨ev, fv⟩ := ru.flat h1
      subst ev
      cases rw_ with
      | tup hq r =>
        obtain ⟨e2, f2⟩ := r.flat h2
        subst e2
        exact ⟨_, _, rfl, .inr hq.sq, fv, f2, c.val S (.bl _) ht⟩
      | lst n hq r =>
        obtain ⟨e2, f2⟩ := r.flat h2
        subst e2
        exact ⟨_, _, rfl, .inl (.inl (.inl hq)), fv, f2, c.val S (.bl _) ht⟩
      | _ => cases h2
    · cases e
  · exact ht.elim
theorem op_inU : OpR X (compareOp .In) (lo X.K (bIn false)) := OpR.wk op_in_seq fun _ _ _ _ => rIn_of
theorem op_notInU : OpR X (compareOp .NotIn) (lo X.K (bIn true)) := OpR.wk op_notIn_seq fun _ _ _ _ => rIn_of
/-- is None -/
@[simp] def isNon : U → Bool
  | .non => true
  | _ => false
@[simp] def bIsN (neg : Bool) : UO := fun u w h P => match w with
  | .non => P (.val (.bl (if neg then !isNon u else isNon u))) h
  | _ => False
theorem RV.isNon {W : Wd} {H : Hp} {u : U} {v : V} (r : RV K W H u v) : decide (v = .non) = Vi.isNon u := by
  cases r <;> rfl
theorem op_isNU : OpR X (compareOp .Is) (lo X.K (bIsN false)) := by
  refine OpR.wk op_isN fun x y H Q ⟨W, env, h, σ, u, w, P, S, ru, rw_, ht, c⟩ => ?_
  unfold bIsN at ht
  split at ht
  · refine ⟨rw_.non_, ?_⟩
    rw [ru.isNon]
    exact c.val S (.bl _) ht
  · exact ht.elim
theorem op_notNU : OpR X (compareOp .IsNot) (lo X.K (bIsN true)) := by
  refine OpR.wk op_notN fun x y H Q ⟨W, env, h, σ, u, w, P, S, ru, rw_, ht, c⟩ => ?_
  unfold bIsN at ht
  split at ht
  · refine ⟨rw_.non_, ?_⟩
    rw [ru.isNon]
    exact c.val S (.bl _) ht
  · exact ht.elim

/-! ### subscripts -/
def obL (h : Hv) (i : Nat) : Option (List U) := match h[i]? with
  | some (.lst us) => some us
  | _ => none
/-- a list's, a tuple's items as they stand -/
@[simp] def itemsAt (h : Hv) : U → Option (List U)
  | .tup us => some us
  | .lst us => some us
  | .scr ns => some (ns.map U.int)
  | .ref i => obL h i
  | _ => none
theorem obL_at {W : Wd} {H : Hp} {h : Hv} {i : Nat} {us : List U} {a : Addr} (S : SimH K W h H) (e : obL h i = some us) (m : W.mp[i]? = some a) : W.own a = some (.obj i) ∧ ∃ vs, H a = some (.lst vs) ∧ RVs K W H us vs := by
  unfold obL at e
  split at e
  · rename_i us' e1
    cases e
    obtain ⟨b, m1, n, vs, e2, r⟩ := S.objs i _ e1
    rw [m] at m1
    cases m1
    exact ⟨n, vs, e2, r⟩
  · cases e
theorem RV.items {W : Wd} {H : Hp} {h : Hv} {u : U} {v : V} {us : List U} (S : SimH K W h H) (r : RV K W H u v) (e : itemsAt h u = some us) : ∃ a vs, v = .ref a ∧ (SqL K H a vs ∨ SqT K H a vs) ∧ RVs K W H us vs := by
  cases r with
  | tup hq r => cases e; exact ⟨_, _, rfl, .inr hq.sq, r⟩
  | lst n hq r => cases e; exact ⟨_, _, rfl, .inl (.inl (.inl hq)), r⟩
  | scr hq => cases e; exact ⟨_, _, rfl, .inl hq.sq, RVs.ints _⟩
  | ref m n =>
    obtain ⟨_, vs, e2, r⟩ := obL_at S e m
    exact ⟨_, vs, rfl, .inl (.inl (.inl e2)), r⟩
  | _ => cases e
theorem RVs.atI {W : Wd} {H : Hp} {us : List U} {vs : List V} {i : Int} {u : U} (r : RVs K W H us vs) (e : L2.atI us i = some u) : ∃ v, L2.atI vs i = some v ∧ RV K W H u v := by
  unfold L2.atI at e ⊢
  rw [← r.length]
  cases q : ixN us.length i with
  | none => rw [q] at e; cases e
  | some j =>
    rw [q] at e
    exact r.get e
@[simp] def bIx : UO := fun u w h P => match w with
  | .int i => (match itemsAt h u with
    | some us => (match L2.atI us i with
      | some x => P (.val x) h
      | none => False)
    | none => (match u with
      | .str z => z.length ≤ sizeLine ∧ (match L2.atI z.cps.toList i with
        | some c => P (.val (.str ⟨#[c]⟩)) h
        | none => False)
      | _ => False))
  | _ => False
theorem ix_U : IxR X (lo X.K bIx) := by
  refine IxR.wk ix_seq fun x y H Q ⟨W, env, h, σ, u, w, P, S, ru, rw_, ht, c⟩ => ?_
  unfold bIx at ht
  split at ht
  · cases rw_
    split at ht
    · rename_i us e
      split at ht
      · rename_i z ez
        obtain ⟨a, vs, rfl, hq, r⟩ := ru.items S.sh e
        obtain ⟨v, ev, rv⟩ := r.atI ez
        rcases hq with hq | hq
        · exact .inl ⟨a, vs, _, v, rfl, rfl, hq, ev, c.val S rv ht⟩
        · exact .inr (.inl ⟨a, vs, _, v, rfl, rfl, hq, ev, c.val S rv ht⟩)
      · exact ht.elim
    · split at ht
      · rename_i z _
        obtain ⟨hz, ht⟩ := ht
        split at ht
        · rename_i cc ec
          cases ru
          exact .inr (.inr ⟨z, _, cc, rfl, rfl, hz, ec, c.val S (.str _) ht⟩)
        · exact ht.elim
      · exact ht.elim
  · exact ht.elim
end
end Vi

/-! Vi5: lists that change, slices, what is built in, comprehensions. -/
namespace Vi
open PySem PySem.Spec PyProof.Rows L2
variable [WW]

/-! ### a list at its owner changes -/
section
variable {K : PySem.W.Frag} {W : Wd} {H : Hp} {h : Hv} {env : En} {σ : L2.St}
/-- what stands at a changes, its owner stays -/
theorem SimH.upd_ {a : Addr} {w : Ow} {o o' : HO} (S : SimH K W h H) (n : W.own a = some w) (hf : w ≠ .frz) (ea : H a = some o) (mu : Mut (some o)) : LeW W H W (upd H a o') := by
  have ne : ∀ b o, H b = some o → ¬ Mut (some o) → b ≠ a := fun b o e z q => by subst q; rw [ea] at e; cases e; exact z mu
  refine ⟨⟨fun b o e f => ⟨f, .inl ?_⟩, fun b u e => ?_, fun b o u e => ?_, ⟨[], by simp⟩, fun _ _ _ f => f⟩, fun b o e f => ⟨f, ?_⟩⟩
  · rw [upd_ne (fun q => by subst q; rw [n] at f; cases f; exact hf rfl)]; exact e
  · rw [upd_ne (ne b _ e (fun z => z))]; exact e
  · rw [upd_ne (ne b _ e (fun z => z))]; exact e
  · rw [upd_ne (fun q => by subst q; rw [n] at f; cases f)]; exact e
theorem Sim.upd_any {k : Nat} {sv' : Sv} {a : Addr} {o o' : HO} (S : Sim K W env h σ H) (hk : k < env.length) (ev : σ[k]? = some (some (.ref a))) (n : W.own a = some (.slot k)) (ea : H a = some o) (mu : Mut (some o))
    (new : RSv K W (upd H a o') (.slot k) sv' (.ref a)) : Sim K W (env.set k (some sv')) h σ (upd H a o') ∧ LeW W H W (upd H a o') := by
  have l : LeW W H W (upd H a o') := S.sh.upd_ n (fun z => by cases z) ea mu
  refine ⟨⟨⟨S.sh.len, fun i o eo => ?_, fun b w eb => ?_⟩, by simpa using S.len, fun j sv ej => ?_⟩, l⟩
  · obtain ⟨b, m, nb, ro⟩ := S.sh.objs i o eo
    refine ⟨b, m, nb, ?_⟩
    cases o with
    | lst us2 =>
      obtain ⟨vs2, e3, r3⟩ := ro
      exact ⟨vs2, by rw [upd_ne (fun q => by subst q; rw [n] at nb; cases nb)]; exact e3, r3.le l.toLeP⟩
  · by_cases z : b = a
    · subst z; exact ⟨_, upd_same⟩
    · rw [upd_ne z]; exact S.sh.dom b w eb
  · by_cases z : j = k
    · subst z
      rw [List.getElem?_set_self hk] at ej
      cases ej
      exact ⟨_, ev, new⟩
    · rw [List.getElem?_set_ne (Ne.symm z)] at ej
      obtain ⟨v, e3, r3⟩ := S.slots j sv ej
      refine ⟨v, e3, ?_⟩
      cases sv with
      | val u => exact RV.le l.toLeP r3
      | own us2 =>
        obtain ⟨b, vs2, rfl, nb, eb, rb⟩ := r3
        have ne : b ≠ a := fun q => by
          subst q
          rw [n] at nb
          cases nb
          exact z rfl
        exact ⟨b, vs2, rfl, nb, by rw [upd_ne ne]; exact eb, rb.le l.toLeP⟩
      | dic ks2 us2 =>
        obtain ⟨b, o2, kv2, vv2, rfl, nb, eb, ds, r4, r5⟩ := r3
        have ne : b ≠ a := fun q => by
          subst q
          rw [n] at nb
          cases nb
          exact z rfl
        exact ⟨b, o2, kv2, vv2, rfl, nb, by rw [upd_ne ne]; exact eb, ds, r4.le l.toLeP, r5.le l.toLeP⟩
theorem Sim.upd_slot {k : Nat} {us us' : List U} {vs' : List V} {a : Addr} (S : Sim K W env h σ H) (e : env[k]? = some (some (.own us))) (ev : σ[k]? = some (some (.ref a))) (r' : RVs K W H us' vs') :
    Sim K W (env.set k (some (.own us'))) h σ (upd H a (.lst vs')) ∧ LeW W H W (upd H a (.lst vs')) := by
  obtain ⟨v, e1, b, vs, e2, n, ea, rv⟩ := S.slots k _ e
  rw [ev] at e1
  cases e1
  cases e2
  have l : LeW W H W (upd H a (.lst vs')) := S.sh.upd_ n (fun z => by cases z) ea trivial
  exact S.upd_any (List.getElem?_eq_some_iff.mp e).1 ev n ea trivial ⟨a, vs', rfl, n, upd_same, r'.le l.toLeP⟩
theorem Sim.upd_obj {i : Nat} {us us' : List U} {vs' : List V} {a : Addr} (S : Sim K W env h σ H) (e : obL h i = some us) (m : W.mp[i]? = some a) (r' : RVs K W H us' vs') :
    Sim K W env (h.set i (.lst us')) σ (upd H a (.lst vs')) ∧ LeW W H W (upd H a (.lst vs')) := by
  obtain ⟨n, vs, ea, rv⟩ := obL_at S.sh e m
  have l : LeW W H W (upd H a (.lst vs')) := S.sh.upd_ n (fun z => by cases z) ea trivial
  have hi : i < h.length := by
    unfold obL at e
    split at e
    · rename_i e1; exact (List.getElem?_eq_some_iff.mp e1).1
    · cases e
  refine ⟨⟨⟨by simpa using S.sh.len, fun j o eo => ?_, fun b w eb => ?_⟩, S.len, fun j sv ej => ?_⟩, l⟩
  · by_cases z : j = i
    · subst z
      rw [List.getElem?_set_self hi] at eo
      cases eo
      exact ⟨a, m, n, vs', upd_same, r'.le l.toLeP⟩
    · rw [List.getElem?_set_ne (Ne.symm z)] at eo
      obtain ⟨b, mb, nb, ro⟩ := S.sh.objs j o eo
      have ne : b ≠ a := fun q => by
        subst q
        rw [n] at nb
        cases nb
        exact z rfl
      refine ⟨b, mb, nb, ?_⟩
      cases o with
      | lst us2 =>
        obtain ⟨vs2, e3, r3⟩ := ro
        exact ⟨vs2, by rw [upd_ne ne]; exact e3, r3.le l.toLeP⟩
  · by_cases z : b = a
    · subst z; exact ⟨_, upd_same⟩
    · rw [upd_ne z]; exact S.sh.dom b w eb
  · obtain ⟨v, e3, r3⟩ := S.slots j sv ej
    refine ⟨v, e3, ?_⟩
    cases sv with
    | val u => exact RV.le l.toLeP r3
    | own us2 =>
      obtain ⟨b, vs2, rfl, nb, eb, rb⟩ := r3
      exact ⟨b, vs2, rfl, nb, by rw [upd_ne (fun q => by subst q; rw [n] at nb; cases nb)]; exact eb, rb.le l.toLeP⟩
    | dic ks2 us2 =>
      obtain ⟨b, o2, kv2, vv2, rfl, nb, eb, ds, r4, r5⟩ := r3
      exact ⟨b, o2, kv2, vv2, rfl, nb, by rw [upd_ne (fun q => by subst q; rw [n] at nb; cases nb)]; exact eb, ds, r4.le l.toLeP, r5.le l.toLeP⟩
theorem Sim.own_at {k : Nat} {us : List U} (S : Sim K W env h σ H) (e : env[k]? = some (some (.own us))) : ∃ a vs, σ[k]? = some (some (.ref a)) ∧ H a = some (.lst vs) ∧ RVs K W H us vs := by
  obtain ⟨v, e1, a, vs, rfl, n, ea, rv⟩ := S.slots k _ e
  exact ⟨a, vs, e1, ea, rv⟩
end

/-! ### methods of a list that a name owns -/
abbrev UMt := List U → List U → (U → List U → Prop) → Prop
@[simp] def uMt (k : Nat) (f : UMt) (t : UA) : UE := fun env h Po Pe => (∃ us, env[k]? = some (some (.own us))) ∧ t env h (fun args env1 h1 => match env1[k]? with
  | some (some (.own us)) => f us args fun u us' => Po (.val u) (env1.set k (some (.own us'))) h1
  | _ => False) Pe
/-- the method's rule, by trees -/
def MtU (X : Cx) (id : String) (f : UMt) : Prop := MtR X id fun x vs H Q => ∃ K W us args a xs, x = .ref a ∧ H a = some (.lst xs) ∧ RVs K W H us xs ∧ RVs K W H args vs ∧ ∃ P, f us args P ∧ ∀ u us' v vs', RV K W H u v → RVs K W H us' vs' → P u us' → Q v (upd H a (.lst vs'))
section
variable {X : Cx} {L : Lx}
theorem we_mt {k : Nat} {f : UMt} {e : Expr} {es : List Expr} {x name : Str} {p apos cpos : Pos} {t : UA} {id : String} (hK : L.K = X.K) (slot : Slot "list" name id) (hty : typeOf (.builtin id) = pure (.type "method_descriptor")) (hm : MtU X id f)
    (hx : PE X (.Name x p) (tVar k)) (ha : WA X L (e :: es) t)
    (hbase : attributeBase (.Name x p) name X.env (eval (.Name x p) X.env) = eval (.Name x p) X.env := by rfl)
    (hfew : ((backTo cpos (starEach (e :: es) X.env)).all (fun x => !x.1) && (backToKw cpos (keywordEach [] X.env)).all (fun x => x.1.isSome) && decide ((e :: es).length + ([] : List Keyword).length + (if ([] : List Keyword).isEmpty then 0 else 1) < 30)) = true := by rfl)
    (hline : (apos.endLine == cpos.line) = true := by rfl) (hs : starEach (e :: es) X.env = (false, eval e X.env) :: starEach es X.env := by rfl) (hplain : (backTo cpos (starEach es X.env)).any (·.1) = false := by rfl) :
    WE X L (.Call (.Attribute (.Name x p) name apos) (e :: es) [] cpos) (uMt k f t) := by
  refine PE.wk (pe_bm PySem.F.plainAttrs_list slot hty hm hx ha hbase hfew hline hs hplain) fun σ H Q ⟨W, env, h, Po, Pe, S, ⟨⟨us0, e0⟩, ht⟩, c⟩ => ?_
  obtain ⟨a, vs0, ev, ea, _⟩ := S.own_at e0
  refine ⟨_, ev, .inl ⟨rfl, vs0, .inl (.inl ea)⟩, W, env, h, _, _, S, ht, ⟨fun W1 args env1 h1 avs H1 l1 S1 r1 q1 => ?_, c.er⟩⟩
  split at q1
  · rename_i us e1
    obtain ⟨b, vs, ev1, eb, rv⟩ := S1.own_at e1
    rw [ev] at ev1
    cases ev1
    refine ⟨L.K, W1, us, args, a, vs, rfl, eb, rv, r1, _, q1, fun u us' v vs' ru rus q => ?_⟩
    obtain ⟨S2, l2⟩ := S1.upd_slot e1 ev rus
    exact c.ok W1 (.val u) _ h1 v _ (l1.trans l2) S2 (RV.le l2.toLeP ru) q
  · exact q1.elim
theorem we_mt0 {k : Nat} {f : UMt} {x name : Str} {p apos cpos : Pos} {id : String} (hK : L.K = X.K) (slot : Slot "list" name id) (hty : typeOf (.builtin id) = pure (.type "method_descriptor")) (hm : MtU X id f)
    (hx : PE X (.Name x p) (tVar k))
    (hbase : attributeBase (.Name x p) name X.env (eval (.Name x p) X.env) = eval (.Name x p) X.env := by rfl)
    (hline : (apos.endLine == cpos.line) = true := by rfl) :
    WE X L (.Call (.Attribute (.Name x p) name apos) [] [] cpos) (uMt k f uNil) := by
  refine PE.wk (pe_bm0 PySem.F.plainAttrs_list slot hty hm hx hbase hline) fun σ H Q ⟨W, env, h, Po, Pe, S, ⟨⟨us0, e0⟩, q1⟩, c⟩ => ?_
  obtain ⟨a, vs0, ev, ea, rv⟩ := S.own_at e0
  refine ⟨_, ev, .inl ⟨rfl, vs0, .inl (.inl ea)⟩, ?_⟩
  have q2 : f us0 [] fun u us' => Po (.val u) (env.set k (some (.own us'))) h := by
    have q3 := q1
    unfold uNil at q3
    simp only [e0] at q3
    exact q3
  refine ⟨L.K, W, us0, [], a, vs0, rfl, ea, rv, .nil, _, q2, fun u us' v vs' ru rus q => ?_⟩
  obtain ⟨S2, l2⟩ := S.upd_slot e0 ev rus
  exact c.ok W (.val u) _ h v _ l2 S2 (RV.le l2.toLeP ru) q
@[simp] def fAppend : UMt := fun us args P => match args with
  | [u] => us.length < sizeLine ∧ P .non (us ++ [u])
  | _ => False
theorem mtU_append : MtU X "list.append" fAppend := by
  intro pins s σ H x xs v us Q I rx rs q
  obtain ⟨K, W, as, args, a, ys, rfl, ea, rv, ra, P, hf, c⟩ := q
  unfold fAppend at hf
  split at hf
  · obtain ⟨y, rfl, ry⟩ := RVs.one ra
    exact mt_append pins s σ H _ _ v us Q I rx rs ⟨a, ys, y, rfl, rfl, ea, by rw [← rv.length]; exact hf.1, c _ _ _ _ .non (rv.append (.cons ry .nil)) hf.2⟩
  · exact hf.elim
@[simp] def fInsert : UMt := fun us args P => match args with
  | [.int i, u] => us.length < sizeLine ∧ 0 ≤ i ∧ i < 2 ^ 63 ∧ P .non (us.take i.toNat ++ [u] ++ us.drop i.toNat)
  | _ => False
theorem mtU_insert : MtU X "list.insert" fInsert := by
  intro pins s σ H x xs v us Q I rx rs q
  obtain ⟨K, W, as, args, a, ys, rfl, ea, rv, ra, P, hf, c⟩ := q
  unfold fInsert at hf
  split at hf
  · obtain ⟨y, z, rfl, ry, rz⟩ := RVs.two ra
    cases ry.int_
    exact mt_insert pins s σ H _ _ v us Q I rx rs ⟨a, ys, _, z, rfl, rfl, ea, by rw [← rv.length]; exact hf.1, hf.2.1, hf.2.2.1, c _ _ _ _ .non (((rv.take _).append (.cons rz .nil)).append (rv.drop _)) hf.2.2.2⟩
  · exact hf.elim
end

/-! ### x[i] = e -/
/-- a list that a name owns, or a shared one -/
@[simp] def setAt (k : Nat) (i : U) (u : U) (env : En) (h : Hv) (Q : En → Hv → Prop) : Prop := match i, env[k]? with
  | .int i, some (some (.own us)) => (match ixN us.length i with
    | some j => Q (env.set k (some (.own (us.set j u)))) h
    | none => False)
  | .int i, some (some (.val (.ref r))) => (match obL h r with
    | some us => (match ixN us.length i with
      | some j => Q env (h.set r (.lst (us.set j u)))
      | none => False)
    | none => False)
  | _, _ => False
@[simp] def uSetIx (k : Nat) (ti te : UE) : US := fun env h P => te env h (fun sv env1 h1 => (∃ x, env1[k]? = some (some x)) ∧ ti env1 h1 (fun iv env2 h2 => setAt k iv.u sv.u env2 h2 P.nx) P.er) P.er
section
variable {X : Cx} {L : Lx}
/-- the store, by values -/
theorem setAt_ok {k : Nat} {i u : U} {W : Wd} {env : En} {h : Hv} {σ : L2.St} {H : Hp} {iv y : V} {P : En → Hv → Prop} (S : Sim L.K W env h σ H) (ri : RV L.K W H i iv) (ru : RV L.K W H u y) (q : setAt k i u env h P) :
    ∃ a xs z j, σ[k]? = some (some (.ref a)) ∧ iv = .int z ∧ H a = some (.lst xs) ∧ ixN xs.length z = some j ∧ ∃ env' h', Sim L.K W env' h' σ (upd H a (.lst (xs.set j y))) ∧ LeW W H W (upd H a (.lst (xs.set j y))) ∧ P env' h' := by
  unfold setAt at q
  split at q
  · rename_i z us e
    obtain ⟨a, vs, ev, ea, rv⟩ := S.own_at e
    split at q
    · rename_i j ej
      cases ri.int_
      obtain ⟨S2, l2⟩ := S.upd_slot e ev (rv.set ru j)
      exact ⟨a, vs, _, j, ev, rfl, ea, by rw [← rv.length]; exact ej, _, _, S2, l2, q⟩
    · exact q.elim
  · rename_i z r e
    obtain ⟨v, ev, rr⟩ := S.slots k _ e
    cases ri.int_
    split at q
    · rename_i us eo
      split at q
      · rename_i j ej
        cases rr with
        | ref m n =>
          obtain ⟨_, vs, ea, rv⟩ := obL_at S.sh eo m
          obtain ⟨S2, l2⟩ := S.upd_obj eo m (rv.set ru j)
          exact ⟨_, vs, _, j, ev, rfl, ea, by rw [← rv.length]; exact ej, _, _, S2, l2, q⟩
      · exact q.elim
    · exact q.elim
  · exact q.elim
theorem ws_setIx {k : Nat} {x : Str} {p pos pos' : Pos} {i e : Expr} {ti te : UE} (he : WE X L e te) (hx : PE X (.Name x p) (tVar k)) (hi : WE X L i ti) (hs : swapsWithSole [.Subscript (.Name x p) i pos'] e pos.line X.env = pure false := by rfl)
    (hw : swappedStores [.Subscript (.Name x p) i pos'] e X.env = pure none := by rfl) (h1 : (assignEach [.Subscript (.Name x p) i pos'] X.env).map (·.2) = [assign (.Subscript (.Name x p) i pos') X.env] := by rfl)
    (hsub : ∀ v, assign (.Subscript (.Name x p) i pos') X.env v = (do
      let ov ← holding [v] (eval (.Name x p) X.env)
      let iv ← holding [v, ov] (eval i X.env)
      standAt pos'
      holding [v, ov, iv] (setItem ov iv v)
      release [v, ov, iv] []) := by intro _; rfl) : WS X L (.Assign [.Subscript (.Name x p) i pos'] e pos) (uSetIx k ti te) := by
  refine PS.wk (ps_asg he (pg_sub hx hi set_list hsub) hs hw h1) fun D σ H ⟨W, env, h, P, S, ht, c⟩ => ?_
  refine ⟨W, env, h, _, _, S, ht, ⟨fun W1 sv env1 h1 y H1 l1 S1 r1 q1 => ?_, c.ret.er⟩⟩
  obtain ⟨W1', S1', l1', rv1⟩ := S1.freeze r1
  have c1 := c.le (l1.trans l1')
  obtain ⟨⟨x0, e0⟩, q1⟩ := q1
  obtain ⟨v, ev, _⟩ := S1'.slots k x0 e0
  refine ⟨v, ev, W1', env1, h1, _, _, S1', q1, ⟨fun W2 iv env2 h2 z H2 l2 S2 r2 q2 => ?_, c1.ret.er⟩⟩
  obtain ⟨W2', S2', l2', rv2⟩ := S2.freeze r2
  obtain ⟨a, xs, n, j, ev2, e3, ea, ej, env', h', S3, l3, q3⟩ := setAt_ok S2' rv2 (rv1.le (l2.trans l2').toLeP) q2
  rw [ev] at ev2
  cases ev2
  exact ⟨a, xs, n, j, rfl, e3, ea, ej, c1.nx W2' env' h' σ _ ((l2.trans l2').trans l3) S3 q3⟩
/-- x[i] += e, x a shared list -/
@[simp] def getAt (k : Nat) (i : U) (env : En) (h : Hv) (Q : U → Prop) : Prop := match i, env[k]? with
  | .int i, some (some (.own us)) => (match L2.atI us i with
    | some u => Q u
    | none => False)
  | .int i, some (some (.val (.ref r))) => (match obL h r with
    | some us => (match L2.atI us i with
      | some u => Q u
      | none => False)
    | none => False)
  | _, _ => False
theorem get_list : PGet X (rIxL X.K) := by
  intro pins s σ H o i ov iv Q I ro ri q
  obtain ⟨a, xs, n, y, rfl, rfl, hq, hy, q⟩ := q
  cases ro
  obtain ⟨t, rfl⟩ := ri
  obtain ⟨its, rv, pl, hz⟩ := I.list hq
  obtain ⟨j, g1, g2, g3, g4, g5⟩ := atI_get hy
  obtain ⟨w, ew, rw'⟩ := rv.get g2
  have hl := rv.length
  have hn := line63
  by_cases h0 : 0 ≤ n
  · have hj : n.toNat = j := Option.some.inj ((seqIndex_of h0 g5).symm.trans g1)
    exact wpAny_getItem_list pl.isList h0 (by omega) (x := w) (by rw [hj]; simpa using ew) ⟨y, H, I, rw', q⟩
  · have hj : (n + (its.toArray.size : Int)).toNat = j := by
      have g1' := g1
      rw [seqIndex_neg (by omega) g4] at g1'
      rw [List.size_toArray, ← hl]
      exact Option.some.inj g1'
    exact wpAny_getItem_list_neg pl.isList (by omega) (by rw [List.size_toArray]; omega) (by omega) (x := w) (by rw [hj]; simpa using ew) ⟨y, H, I, rw', q⟩
/-- an operator in its in-place form, by trees -/
def IpU (X : Cx) (op : Operator) (f : UO) : Prop := PIp X op (lo X.K f)
theorem ip_addU : IpU X .Add (bInt2 (fun _ _ => True) fun i j => i + j) := by
  intro pins s σ H x y v u Q I rx ry q
  obtain ⟨W, env, h, σ', a, b, P, S, ra, rb, ht, c⟩ := q
  unfold bInt2 at ht
  split at ht
  · cases ra; cases rb
    exact ip_add pins s σ H _ _ v u Q I rx ry ⟨_, _, rfl, rfl, c.val S (.int _) ht.2⟩
  · exact ht.elim
theorem ip_subU : IpU X .Sub bSub := by
  intro pins s σ H x y v u Q I rx ry q
  obtain ⟨W, env, h, σ', a, b, P, S, ra, rb, ht, c⟩ := q
  unfold bSub bInt2 at ht
  split at ht
  · cases ra; cases rb
    exact ip_sub pins s σ H _ _ v u Q I rx ry ⟨_, _, rfl, rfl, c.val S (.int _) ht.2⟩
  · exact ht.elim
@[simp] def uAug (k : Nat) (f : UO) (te : UE) : US := fun env h P => match env[k]? with
  | some (some (.val u)) => te env h (fun sv env1 h1 => f u sv.u h1 fun z h2 => k < env1.length ∧ P.nx (env1.set k (some (.val z.u))) h2) P.er
  | _ => False
theorem ws_aug {k : Nat} {x : Str} {pos pos' : Pos} {e : Expr} {te : UE} {op : Operator} {f : UO} (hp : PS X (.AugAssign (.Name x pos') op e pos) (tAug k (lg L (RT L) te) (lo X.K f))) (hK : L.K = X.K) : WS X L (.AugAssign (.Name x pos') op e pos) (uAug k f te) := by
  refine PS.wk hp fun D σ H ⟨W, env, h, P, S, ht, c⟩ => ?_
  unfold uAug at ht
  split at ht
  · rename_i u e0
    obtain ⟨v, ev, rv⟩ := S.slots k _ e0
    refine ⟨v, ev, W, env, h, _, _, S, ht, ⟨fun W1 sv env1 h1 y H1 l1 S1 r1 q1 => ?_, c.ret.er⟩⟩
    obtain ⟨W1', S1', l1', rv1⟩ := S1.freeze r1
    have c1 := c.le (l1.trans l1')
    have rv0 : RV L.K W H u v := rv
    rw [← hK]
    refine ⟨W1', env1, h1, σ, u, sv.u, _, S1', rv0.le (l1.trans l1').toLeP, rv1, q1, fun W3 z h3 v3 H3 l3 S3 r3 q3 => ?_⟩
    obtain ⟨W4, S4, l4, r4⟩ := S3.freeze r3
    exact c1.nx W4 _ h3 _ H3 (l3.trans l4) (S4.store q3.1 r4) q3.2
  · exact ht.elim
/-- x[i] op= e -/
@[simp] def uAugIx (k : Nat) (f : UO) (ti te : UE) : US := fun env h P => (∃ x, env[k]? = some (some x)) ∧ ti env h (fun iv env1 h1 => getAt k iv.u env1 h1 fun old => te env1 h1 (fun sv env2 h2 => f old sv.u h2 fun z h3 => setAt k iv.u z.u env2 h3 P.nx) P.er) P.er
theorem getAt_ok {k : Nat} {i : U} {W : Wd} {env : En} {h : Hv} {σ : L2.St} {H : Hp} {iv : V} {Q : U → Prop} (S : Sim L.K W env h σ H) (ri : RV L.K W H i iv) (q : getAt k i env h Q) :
    ∃ a xs z y u, σ[k]? = some (some (.ref a)) ∧ iv = .int z ∧ H a = some (.lst xs) ∧ L2.atI xs z = some y ∧ RV L.K W H u y ∧ Q u := by
  unfold getAt at q
  split at q
  · rename_i z us e
    obtain ⟨a, vs, ev, ea, rv⟩ := S.own_at e
    split at q
    · rename_i u eu
      cases ri.int_
      obtain ⟨y, ey, ry⟩ := rv.atI eu
      exact ⟨a, vs, _, y, u, ev, rfl, ea, ey, ry, q⟩
    · exact q.elim
  · rename_i z r e
    obtain ⟨v, ev, rr⟩ := S.slots k _ e
    cases ri.int_
    split at q
    · rename_i us eo
      split at q
      · rename_i u eu
        cases rr with
        | ref m n =>
          obtain ⟨_, vs, ea, rv⟩ := obL_at S.sh eo m
          obtain ⟨y, ey, ry⟩ := rv.atI eu
          exact ⟨_, vs, _, y, u, ev, rfl, ea, ey, ry, q⟩
      · exact q.elim
    · exact q.elim
  · exact q.elim
theorem ws_augIx {k : Nat} {x : Str} {p pos tpos : Pos} {i e : Expr} {ti te : UE} {op : Operator} {f : UO} (hK : L.K = X.K) (hx : PE X (.Name x p) (tVar k)) (hi : WE X L i ti) (he : WE X L e te) (hf : IpU X op f)
    (ha : ∀ ov iv new, augStore i ov iv new = (do holding [new, ov, iv] (setItem ov iv new); release [new, ov, iv] []; pure .next) := by intros; rfl) : WS X L (.AugAssign (.Subscript (.Name x p) i tpos) op e pos) (uAugIx k f ti te) := by
  refine PS.wk (ps_augS hx hi get_list he hf set_list ha) fun D σ H ⟨W, env, h, P, S, ⟨⟨x0, e0⟩, ht⟩, c⟩ => ?_
  obtain ⟨v, ev, _⟩ := S.slots k x0 e0
  refine ⟨v, ev, W, env, h, _, _, S, ht, ⟨fun W1 iv env1 h1 y1 H1 l1 S1 r1 q1 => ?_, c.ret.er⟩⟩
  obtain ⟨W1', S1', l1', rv1⟩ := S1.freeze r1
  have c1 := c.le (l1.trans l1')
  obtain ⟨a, xs, z, y, u, ev2, e3, ea, ey, ry, q2⟩ := getAt_ok S1' rv1 q1
  rw [ev] at ev2
  cases ev2
  subst e3
  refine ⟨a, xs, z, y, rfl, rfl, .inl (.inl ea), ey, ?_⟩
  refine ⟨W1', env1, h1, _, _, S1', q2, ⟨fun W2 sv env2 h2 y2 H2 l2 S2 r2 q3 => ?_, c1.ret.er⟩⟩
  obtain ⟨W2', S2', l2', rv2⟩ := S2.freeze r2
  have c2 := c1.le (l2.trans l2')
  rw [← hK]
  refine ⟨W2', env2, h2, σ, u, sv.u, _, S2', ry.le (l2.trans l2').toLeP, rv2, q3, fun W3 nz h3 v3 H3 l3 S3 r3 q4 => ?_⟩
  obtain ⟨W4, S4, l4, r4⟩ := S3.freeze r3
  obtain ⟨a', xs', z', j, ev3, e4, ea', ej, env', h', S5, l5, q5⟩ := setAt_ok S4 (rv1.le (((l2.trans l2').trans l3).trans l4).toLeP) r4 q4
  rw [ev] at ev3
  cases ev3
  cases e4
  exact ⟨a, xs', z, j, rfl, rfl, ea', ej, c2.nx W4 env' h' σ _ ((l3.trans l4).trans l5) S5 q5⟩
end
end Vi

/-! Vi6: slices, what is built in, comprehensions. -/
namespace Vi
open PySem PySem.Spec PyProof.Rows L2
variable [WW]

/-! ### slices -/
def cutU {α : Type} (xs : List α) (lo hi : Option Int) : List α := (xs.drop (HT.sIx xs.length 0 lo)).take (HT.sIx xs.length xs.length hi - HT.sIx xs.length 0 lo)
abbrev USl := U → Option Int → Option Int → Hv → (Sv → Hv → Prop) → Prop
/-- a written end of a slice -/
@[simp] def uNoP : UM (Option Int) := fun env h Po _ => Po none env h
@[simp] def svI : Sv → (Int → Prop) → Prop
  | .val (.int i), P => P i
  | _, _ => False
@[simp] def uP (t : UE) : UM (Option Int) := fun env h Po Pe => t env h (fun sv env1 h1 => svI sv fun i => Po (some i) env1 h1) Pe
@[simp] def uSl (f : USl) (t : UE) (tl th : UM (Option Int)) : UE := fun env h Po Pe => t env h (fun sv env1 h1 => tl env1 h1 (fun lo env2 h2 => th env2 h2 (fun hi env3 h3 => f sv.u lo hi h3 fun r h4 => Po r env3 h4) Pe) Pe) Pe
abbrev RP : Wd → Hp → Option Int → Option Int → Prop := fun _ _ a b => a = b
def WP (X : Cx) (L : Lx) (e : Option Expr) (t : UM (Option Int)) : Prop := PO X e (lg L RP t)
@[simp] def bSl : USl := fun u lo hi h P => match u with
  | .tup us => P (.val (.tup (cutU us lo hi))) h
  | .lst us => P (.own (cutU us lo hi)) h
  | .scr ns => P (.own (cutU (ns.map U.int) lo hi)) h
  | .str z => z.length ≤ sizeLine ∧ P (.val (.str (cutS z lo hi))) h
  | _ => False
section
variable {X : Cx} {L : Lx} {K : PySem.W.Frag}
theorem PO.wk {e : Option Expr} {t t' : TO} (h : PO X e t) (w : ∀ σ H Q, t' σ H Q → t σ H Q) : PO X e t' := ⟨fun pins s σ H Q I q => h.run pins s σ H Q I (w _ _ _ q)⟩
theorem wp_none : WP X L none uNoP := PO.wk po_none fun σ H Q ⟨W, env, h, Po, Pe, S, ht, c⟩ => c.ok W none env h none H .refl S rfl ht
theorem wp_some {e : Expr} {t : UE} (h : WE X L e t) : WP X L (some e) (uP t) := by
  refine PO.wk (po_some h) fun σ H Q ⟨W, env, h, Po, Pe, S, ht, c⟩ => ?_
  refine ⟨W, env, h, _, _, S, ht, ⟨fun W1 sv env1 h1 y H1 l1 S1 r1 q1 => ?_, c.er⟩⟩
  unfold svI at q1
  split at q1
  · have r2 : RV L.K W1 H1 (.int _) y := r1
    cases r2.int_
    exact ⟨_, rfl, c.ok W1 _ env1 h1 _ H1 l1 S1 rfl q1⟩
  · exact q1.elim
/-- a slice by values, by trees -/
def lsl (K : PySem.W.Frag) (f : USl) : V → Option Int → Option Int → Hp → VK → Prop := fun x lo hi H Q => ∃ W env h σ u P, Sim K W env h σ H ∧ RV K W H u x ∧ f u lo hi h P ∧ OCont K W H env σ P Q
theorem we_sl {f : USl} {e : Expr} {lo hi : Option Expr} {t : UE} {tl th : UM (Option Int)} {p2 pos : Pos} (hr : SlR X (lsl L.K f)) (he : WE X L e t) (hl : WP X L lo tl) (hu : WP X L hi th) : WE X L (.Subscript e (.Slice lo hi none p2) pos) (uSl f t tl th) := by
  refine PE.wk (pe_slice hr he hl hu) fun σ H Q ⟨W, env, h, Po, Pe, S, ht, c⟩ => ?_
  refine ⟨W, env, h, _, _, S, ht, ⟨fun W1 sv env1 h1 y H1 l1 S1 r1 q1 => ?_, c.er⟩⟩
  obtain ⟨W1', S1', l1', rv1⟩ := S1.freeze r1
  have c1 := c.le (l1.trans l1')
  refine ⟨W1', env1, h1, _, _, S1', q1, ⟨fun W2 a env2 h2 b H2 l2 S2 r2 q2 => ?_, c1.er⟩⟩
  cases r2
  have c2 := c1.le l2
  refine ⟨W2, env2, h2, _, _, S2, q2, ⟨fun W3 a' env3 h3 b' H3 l3 S3 r3 q3 => ?_, c2.er⟩⟩
  cases r3
  exact ⟨W3, env3, h3, σ, sv.u, _, S3, rv1.le (l2.trans l3).toLeP, q3, fun W4 r h4 v4 H4 l4 S4 r4 q4 => (c2.le l3).ok W4 r env3 h4 v4 H4 l4 S4 r4 q4⟩
theorem RVs.cut {W : Wd} {H : Hp} {us : List U} {vs : List V} (r : RVs K W H us vs) (lo hi : Option Int) : RVs K W H (cutU us lo hi) (cutV vs lo hi) := by
  unfold cutU cutV
  rw [r.length]
  exact (r.drop _).take _
theorem SlR.wk {r r' : V → Option Int → Option Int → Hp → VK → Prop} (h : SlR X r) (w : ∀ x lo hi H Q, r' x lo hi H Q → r x lo hi H Q) : SlR X r' := fun pins s σ H x v vl vu lo hi sl Q I rx hs pl pu q => h pins s σ H x v vl vu lo hi sl Q I rx hs pl pu (w _ _ _ _ _ q)
theorem cutU_all {α : Type} {xs : List α} {lo hi : Option Int} (h : HT.sIx xs.length 0 lo = 0 ∧ HT.sIx xs.length xs.length hi = xs.length) : cutU xs lo hi = xs := by
  unfold cutU
  rw [h.1, h.2]
  simp
theorem sl_U : SlR X (lsl X.K bSl) := by
  refine SlR.wk (sl_list.or (sl_tupA.or (sl_tupF.or sl_str))) fun x lo hi H Q ⟨W, env, h, σ, u, P, S, ru, ht, c⟩ => ?_
  unfold bSl at ht
  split at ht
  · rename_i us
    have ru0 := ru
    cases ru with
    | tup hq r =>
      have el := r.length
      by_cases z : HT.sIx us.length 0 lo = 0 ∧ HT.sIx us.length us.length hi = us.length
      · refine .inr (.inl ⟨_, _, rfl, hq.sq, fun _ => ?_, fun z' => absurd (by rw [← el]; exact z) z'⟩)
        rw [cutU_all z] at ht
        exact c.val S ru0 ht
      · exact .inr (.inr (.inl ⟨_, _, rfl, hq.sq, by rw [← el]; exact z, c.tup S (r.cut lo hi) ht⟩))
  · cases ru with
    | lst n e r => exact .inl ⟨_, _, rfl, .inl (.inl e), fun p hp => c.lst S (r.cut lo hi) ht hp⟩
  · cases ru with
    | scr e => exact .inl ⟨_, _, rfl, e.sq, fun p hp => c.lst S ((RVs.ints _).cut lo hi) ht hp⟩
  · cases ru
    exact .inr (.inr (.inr ⟨_, rfl, ht.1, c.val S (.str _) ht.2⟩))
  · exact ht.elim
end

/-! ### what is built in -/
section
variable {X : Cx} {K : PySem.W.Frag}
@[simp] def bLen : UB := fun us h P => match us with
  | [u] => (match itemsAt h u with
    | some xs => P (.val (.int (xs.length : Int))) h
    | none => (match u with
      | .str z => z.length ≤ sizeLine ∧ P (.val (.int (z.length : Int))) h
      | _ => False))
  | _ => False
theorem call_lenU : CallR X (.builtin "len") (lb X.K bLen) := by
  refine CallR.wk (Vi.CallR.or call_len_seq call_len_str) fun xs H Q ⟨W, env, h, σ, us, P, S, r, ht, c⟩ => ?_
  unfold bLen at ht
  split at ht
  · rename_i u
    obtain ⟨v, rfl, ru⟩ := RVs.one r
    split at ht
    · rename_i ys e
      obtain ⟨a, vs, rfl, hq, rs⟩ := ru.items S.sh e
      refine .inl ⟨a, vs, rfl, hq, ?_⟩
      rw [← rs.length]
      exact c.val S (.int _) ht
    · split at ht
      · cases ru
        exact .inr ⟨_, rfl, ht.1, c.val S (.int _) ht.2⟩
      · exact ht.elim
  · exact ht.elim
@[simp] def bInt : UB := fun us h P => match us with
  | [.int i] => P (.val (.int i)) h
  | [.bl b] => P (.val (.int (if b then 1 else 0))) h
  | [.str a] => (match PySem.intText? a with
    | some n => a.length ≤ 640 ∧ P (.val (.int n)) h
    | none => False)
  | _ => False
theorem call_intU : CallR X (.type "int") (lb X.K bInt) := by
  refine CallR.wk (Vi.CallR.or call_int1 L2.call_int_str) fun xs H Q ⟨W, env, h, σ, us, P, S, r, ht, c⟩ => ?_
  unfold bInt at ht
  split at ht
  · obtain ⟨v, rfl, ru⟩ := RVs.one r
    cases ru
    exact .inl (.inl ⟨_, rfl, c.val S (.int _) ht⟩)
  · obtain ⟨v, rfl, ru⟩ := RVs.one r
    cases ru
    exact .inl (.inr ⟨_, rfl, c.val S (.int _) ht⟩)
  · obtain ⟨v, rfl, ru⟩ := RVs.one r
    cases ru
    split at ht
    · rename_i n e
      exact .inr ⟨_, n, rfl, e, ht.1, c.val S (.int _) ht.2⟩
    · exact ht.elim
  · exact ht.elim
@[simp] def bTuple : UB := fun us h P => match us with
  | [u] => (match seqU u with
    | some xs => P (.val (.tup xs)) h
    | none => False)
  | _ => False
theorem call_tupleU : CallR X (.type "tuple") (lb X.K bTuple) := by
  refine CallR.wk (call_tuple_of.or call_tupF) fun xs H Q ⟨W, env, h, σ, us, P, S, r, ht, c⟩ => ?_
  unfold bTuple at ht
  split at ht
  · obtain ⟨v, rfl, ru⟩ := RVs.one r
    split at ht
    · rename_i e
      have ru0 := ru
      cases ru with
      | tup hq rs => cases e; exact .inl ⟨_, _, rfl, .inr ⟨hq.sq, c.val S ru0 ht⟩⟩
      | lst n hq rs => cases e; exact .inr ⟨_, _, rfl, .inl (.inl hq), c.tup S rs ht⟩
      | _ => cases e
    · exact ht.elim
  · exact ht.elim
@[simp] def bList : UB := fun us h P => match us with
  | [u] => (match itemsAt h u with
    | some xs => P (.own xs) h
    | none => False)
  | _ => False
theorem call_listU : CallR X (.type "list") (lb X.K bList) := by
  refine CallR.wk call_list_of fun xs H Q ⟨W, env, h, σ, us, P, S, r, ht, c⟩ => ?_
  unfold bList at ht
  split at ht
  · obtain ⟨v, rfl, ru⟩ := RVs.one r
    split at ht
    · rename_i e
      obtain ⟨a, vs, rfl, hq, rs⟩ := ru.items S.sh e
      exact ⟨a, vs, rfl, hq, fun p hp => c.lst S rs ht hp⟩
    · exact ht.elim
  · exact ht.elim
/-- max, min of two ints -/
@[simp] def bMax : UB := fun us h P => match us with
  | [.int i, .int j] => P (.val (.int (if j > i then j else i))) h
  | _ => False
@[simp] def bMin : UB := fun us h P => match us with
  | [.int i, .int j] => P (.val (.int (if j < i then j else i))) h
  | _ => False
theorem call_maxU (hc : X.calm = true) : CallR X (.builtin "max") (lb X.K bMax) := by
  refine CallR.wk (call_max2 hc) fun xs H Q ⟨W, env, h, σ, us, P, S, r, ht, c⟩ => ?_
  unfold bMax at ht
  split at ht
  · obtain ⟨v, w, rfl, ru, rw_⟩ := RVs.two r
    cases ru; cases rw_
    exact ⟨_, _, rfl, c.val S (.int _) ht⟩
  · exact ht.elim
theorem call_minU (hc : X.calm = true) : CallR X (.builtin "min") (lb X.K bMin) := by
  refine CallR.wk (call_min2 hc) fun xs H Q ⟨W, env, h, σ, us, P, S, r, ht, c⟩ => ?_
  unfold bMin at ht
  split at ht
  · obtain ⟨v, w, rfl, ru, rw_⟩ := RVs.two r
    cases ru; cases rw_
    exact ⟨_, _, rfl, c.val S (.int _) ht⟩
  · exact ht.elim
/-- repr of data -/
def reprU (u : U) : Option Str := match toD u with
  | some d => if d.showable && !d.hasDict && decide (d.depth ≤ 60) && decide (d.shown.length ≤ sizeLine) then some d.shown else none
  | none => none
@[simp] def bRepr : UB := fun us h P => match us with
  | [u] => (match reprU u with
    | some x => P (.val (.str x)) h
    | none => False)
  | _ => False
theorem call_reprU (hg : X.A.guards = some []) (hu : X.A.units + 64 < cLine) : CallR X (.builtin "repr") (lb X.K bRepr) := by
  intro pins s σ H xs us Q I r q
  obtain ⟨W, env, h, σ', ws, P, S, rr, ht, c⟩ := q
  unfold bRepr at ht
  split at ht
  · rename_i u
    obtain ⟨v, rfl, ru⟩ := RVs.one rr
    split at ht
    · rename_i x ex
      unfold reprU at ex
      split at ex
      · rename_i d ed
        split at ex
        · rename_i hc
          simp only [Bool.and_eq_true, decide_eq_true_eq, Bool.not_eq_true'] at hc
          obtain ⟨⟨⟨hs, hd⟩, hdp⟩, hz⟩ := hc
          cases ex
          obtain ⟨w, rfl, rx⟩ := vals1 r
          have fin : ∀ (h' : Heap) (u' : Tok) (tk : Nat), (∀ b o, s.heap.get? b = some o → h'.get? b = some o) → EP X pins σ Q (.str d.shown u') { s with heap := h', toks := tk } := fun h' u' tk hk =>
            ⟨.str d.shown, H, I.kept (h' := h') (t' := tk) hk, ⟨u', rfl⟩, c.val S (.str _) ht⟩
          obtain ⟨as, rd⟩ := Dp.reads I d v w (ru.dp ed) rx
          cases rd with
          | none => exact PySem.P.repr_of_none (fin s.heap _ _ fun _ _ e => e)
          | bool b => exact PySem.P.repr_of_bool (by cases b <;> exact fin s.heap _ _ fun _ _ e => e)
          | int i t => exact PySem.P.repr_of_int (by simpa [PyData.showable] using hs) (fin s.heap _ _ fun _ _ e => e)
          | str z t => exact PySem.P.repr_of_str (fin s.heap _ _ fun _ _ e => e) (by simpa [PyData.shown] using hz)
          | list h1 h2 h3 h4 => exact PySem.repr_of_reads' (.list h1 h2 h3 h4) hs (fun z => by rw [hd] at z; cases z) hg (by omega) (fun _ _ e => e) (fun h' u' tk hk => fin h' u' tk hk) hz
          | tuple h1 h2 h3 h4 => exact PySem.repr_of_reads' (.tuple h1 h2 h3 h4) hs (fun z => by rw [hd] at z; cases z) hg (by omega) (fun _ _ e => e) (fun h' u' tk hk => fin h' u' tk hk) hz
          | dict h1 h2 h3 h4 h5 => simp [PyData.hasDict] at hd
        · cases ex
      · cases ex
    · exact ht.elim
  · exact ht.elim
end
end Vi

/-! Vi7: comprehensions; a list that a name owns, read; the end of a law. -/
namespace Vi
open PySem PySem.Spec PyProof.Rows L2
variable [WW]

/-! ### comprehensions -/
@[simp] def wipeE (env : En) : List Nat → En
  | [] => env
  | v :: vs => (wipeE env vs).set v none
/-- behind the block: its own names as they were -/
@[simp] def restoreE (env0 env1 : En) : List Nat → En
  | [] => env1
  | v :: vs => (restoreE env0 env1 vs).set v (match env0[v]? with
    | some (some (.val u)) => some (.val u)
    | _ => none)
@[simp] def noEx : Ex → En → Hv → Prop := fun _ _ _ => False
def compU (g : UG) (tt : UT) (te : UE) (vs : List Nat) (Po : List U → En → Hv → Prop) : List U → List U → En → Hv → Prop
  | [], acc, env, h => Po acc env h
  | u :: us, acc, env, h => g u env h fun env1 h1 => tt env1 h1 (fun b env2 h2 => if b = true then te env2 h2 (fun sv env3 h3 => acc.length < sizeLine ∧ compU g tt te vs Po us (acc ++ [sv.u]) (wipeE env3 vs) h3) noEx
    else compU g tt te vs Po us acc (wipeE env2 vs) h2) noEx
@[simp] def uLc (ti : UM (List U)) (g : UG) (tt : UT) (te : UE) (vs : List Nat) : UE := fun env h Po Pe => ti env h (fun us env1 h1 => compU g tt te vs (fun acc env2 h2 => Po (.own acc) (restoreE env1 env2 vs) h2) us [] (wipeE env1 vs) h1) Pe
@[simp] def uYes : UT := fun env h Po _ => Po true env h
section
variable {K : PySem.W.Frag} {W : Wd} {H : Hp} {h : Hv} {env env0 env1 : En} {σ σ' : L2.St}
theorem wipeE_length : ∀ vs : List Nat, (wipeE env vs).length = env.length
  | [] => rfl
  | v :: vs => by unfold wipeE; rw [List.length_set, wipeE_length vs]
theorem wipeE_get {k : Nat} {sv : Sv} : ∀ {vs : List Nat}, (wipeE env vs)[k]? = some (some sv) → env[k]? = some (some sv) ∧ k ∉ vs
  | [], e => ⟨e, by simp⟩
  | v :: vs, e => by
    unfold wipeE at e
    by_cases z : k = v
    · subst z
      rw [List.getElem?_set] at e
      split at e
      · split at e <;> cases e
      · rename_i q; exact absurd rfl q
    · rw [List.getElem?_set_ne (Ne.symm z)] at e
      obtain ⟨h1, h2⟩ := wipeE_get e
      exact ⟨h1, by simp [z, h2]⟩
theorem wipe_get {k : Nat} : ∀ {vs : List Nat}, k ∉ vs → (wipe σ vs)[k]? = σ[k]?
  | [], _ => rfl
  | v :: vs, e => by
    unfold wipe
    rw [List.getElem?_set_ne (fun z => e (by simp [z]))]
    exact wipe_get (fun z => e (by simp [z]))
theorem Sim.wipe (S : Sim K W env h σ H) (vs : List Nat) : Sim K W (wipeE env vs) h (L2.wipe σ vs) H := by
  refine ⟨S.sh, by rw [wipeE_length, wipe_length, S.len], fun k sv e => ?_⟩
  obtain ⟨e1, e2⟩ := wipeE_get e
  obtain ⟨v, e3, r⟩ := S.slots k sv e1
  exact ⟨v, by rw [wipe_get e2]; exact e3, r⟩
theorem wipe_off {ks vs : List Nat} (hk : ∀ k ∈ ks, k ∈ vs) (o : SameOff ks σ σ') : L2.wipe σ' vs = L2.wipe σ vs := by
  have key : ∀ ws : List Nat, ∀ j, (j ∈ ws ∨ σ'[j]? = σ[j]?) → (L2.wipe σ' ws)[j]? = (L2.wipe σ ws)[j]? := by
    intro ws
    induction ws with
    | nil => intro j hj; rcases hj with z | z; cases z; exact z
    | cons w ws ih =>
      intro j hj
      unfold L2.wipe
      by_cases z : j = w
      · subst z
        rw [List.getElem?_set, List.getElem?_set, if_pos rfl, if_pos rfl, wipe_length, wipe_length, o.1]
      · rw [List.getElem?_set_ne (Ne.symm z), List.getElem?_set_ne (Ne.symm z)]
        exact ih j (hj.imp (fun q => (List.mem_cons.mp q).resolve_left z) fun q => q)
  apply List.ext_getElem?
  intro j
  by_cases z : j ∈ vs
  · exact key vs j (.inl z)
  · exact key vs j (.inr (o.2 j fun q => z (hk j q)).symm)
theorem wipe_wipe (vs : List Nat) : L2.wipe (L2.wipe σ vs) vs = L2.wipe σ vs :=
  wipe_off (ks := vs) (fun _ z => z) ⟨(wipe_length σ vs).symm, fun j hj => (wipe_get hj).symm⟩
theorem restoreE_length : ∀ vs : List Nat, (restoreE env0 env1 vs).length = env1.length
  | [] => rfl
  | v :: vs => by unfold restoreE; rw [List.length_set, restoreE_length vs]
theorem restoreE_get {k : Nat} {sv : Sv} : ∀ {vs : List Nat}, (restoreE env0 env1 vs)[k]? = some (some sv) → (k ∉ vs ∧ env1[k]? = some (some sv)) ∨ ∃ u, sv = .val u ∧ env0[k]? = some (some (.val u))
  | [], e => .inl ⟨by simp, e⟩
  | v :: vs, e => by
    unfold restoreE at e
    by_cases z : k = v
    · subst z
      rw [List.getElem?_set, if_pos rfl] at e
      split at e
      · split at e
        · rename_i u eu
          cases e
          exact .inr ⟨u, rfl, eu⟩
        · cases e
      · cases e
    · rw [List.getElem?_set_ne (Ne.symm z)] at e
      rcases restoreE_get e with ⟨h1, h2⟩ | h1
      · exact .inl ⟨by simp [z, h1], h2⟩
      · exact .inr h1
theorem Sim.restore {W1 : Wd} {H1 : Hp} {h1 : Hv} {vs : List Nat} (S0 : Sim K W env0 h σ H) (l : LeW W H W1 H1) (S1 : Sim K W1 env1 h1 (L2.wipe σ vs) H1) : Sim K W1 (restoreE env0 env1 vs) h1 σ H1 := by
  refine ⟨S1.sh, by rw [restoreE_length, S1.len, wipe_length], fun k sv e => ?_⟩
  rcases restoreE_get e with ⟨hk, e1⟩ | ⟨u, rfl, e1⟩
  · obtain ⟨v, ev, r⟩ := S1.slots k sv e1
    rw [wipe_get hk] at ev
    exact ⟨v, ev, r⟩
  · obtain ⟨v, ev, r⟩ := S0.slots k _ e1
    exact ⟨v, ev, RV.le l.toLeP r⟩
/-- what stands at a list that nobody owns yet changes: all else stays -/
theorem Sim.upd0 {D : Addr} {xs ys : List V} (S : Sim K W env h σ H) (n : W.own D = none) (e : H D = some (.lst xs)) : LeP W H W (upd H D (.lst ys)) ∧ Sim K W env h σ (upd H D (.lst ys)) := by
  have ne : ∀ b w, W.own b = some w → b ≠ D := fun b w q z => by subst z; rw [n] at q; cases q
  have l : LeP W H W (upd H D (.lst ys)) := by
    refine ⟨fun b o eb f => ⟨f, .inl (by rw [upd_ne (ne b _ f)]; exact eb)⟩, fun b vs eb => ?_, fun b o u eb => ?_, ⟨[], by simp⟩, fun _ _ _ f => f⟩
    · rw [upd_ne (fun z => by subst z; rw [e] at eb; cases eb)]; exact eb
    · rw [upd_ne (fun z => by subst z; rw [e] at eb; cases eb)]; exact eb
  refine ⟨l, ⟨⟨S.sh.len, fun i o eo => ?_, fun a w ea => ?_⟩, S.len, fun k sv es => ?_⟩⟩
  · obtain ⟨a, m, na, r⟩ := S.sh.objs i o eo
    refine ⟨a, m, na, ?_⟩
    cases o with
    | lst us =>
      obtain ⟨vs, e1, rv⟩ := r
      exact ⟨vs, by rw [upd_ne (ne a _ na)]; exact e1, rv.le l⟩
  · by_cases z : a = D
    · subst z; exact ⟨_, upd_same⟩
    · rw [upd_ne z]; exact S.sh.dom a w ea
  · obtain ⟨v, e1, r⟩ := S.slots k sv es
    refine ⟨v, e1, ?_⟩
    cases sv with
    | val u => exact RV.le l r
    | own us =>
      obtain ⟨a, vs, rfl, na, ea, rv⟩ := r
      exact ⟨a, vs, rfl, na, by rw [upd_ne (ne a _ na)]; exact ea, rv.le l⟩
    | dic ks us =>
      obtain ⟨a, o, kv, vv, rfl, na, ea, ds, r1, r2⟩ := r
      exact ⟨a, o, kv, vv, rfl, na, by rw [upd_ne (ne a _ na)]; exact ea, ds, r1.le l, r2.le l⟩
theorem LeW.upd0 {W0 : Wd} {H0 : Hp} {D : Addr} {xs ys : List V} (l : LeW W0 H0 W H) (n0 : H0 D = none) (n : W.own D = none) (e : H D = some (.lst xs)) : LeW W0 H0 W (upd H D (.lst ys)) := by
  refine ⟨⟨fun b o eb f => ?_, fun b vs eb => ?_, fun b o u eb => ?_, l.mp, l.ob⟩, fun b o eb f => ?_⟩
  · have ne : b ≠ D := fun z => by subst z; rw [n0] at eb; cases eb
    rw [upd_ne ne]; exact l.fr b o eb f
  · have ne : b ≠ D := fun z => by subst z; rw [n0] at eb; cases eb
    rw [upd_ne ne]; exact l.tp b vs eb
  · have ne : b ≠ D := fun z => by subst z; rw [n0] at eb; cases eb
    rw [upd_ne ne]; exact l.fz b o u eb
  · have ne : b ≠ D := fun z => by subst z; rw [n0] at eb; cases eb
    rw [upd_ne ne]; exact l.st b o eb f
end
/-- the block's tests -/
def WTs (X : Cx) (L : Lx) (ifs : List Expr) (t : UT) : Prop := PTs X ifs (lg L RB t)
section
variable {X : Cx} {L : Lx}
theorem PTs.wk {e : List Expr} {t t' : TT} (h : PTs X e t) (w : ∀ σ H Q, t' σ H Q → t σ H Q) : PTs X e t' := ⟨fun pins s σ H Q I q => h.run pins s σ H Q I (w _ _ _ q)⟩
theorem wts_nil : WTs X L [] uYes := PTs.wk pts_nil fun σ H Q ⟨W, env, h, Po, Pe, S, ht, c⟩ => c.ok W true env h true H .refl S rfl ht
theorem wts_one {c : Expr} {t : UT} (h : WT X L c t) : WTs X L [c] t := pts_one h
/-- where no exception is wished for -/
abbrev Lx.nox (L : Lx) : Lx := ⟨L.K, L.ga, fun _ _ _ _ => False⟩
theorem takes_nox {X : Cx} {L : Lx} : Takes X L.nox.wx := takes0
theorem lg_lc {tg iter : Expr} {ti : UM (List U)} {ks vs : List Nat} {g : UG} {tt : UT} {te : UE} (hks : ∀ k ∈ ks, k ∈ vs) {σ : L2.St} {H : Hp} {Q : VK} (h : lg L (RT L) (uLc ti g tt te vs) σ H Q) :
    tLc (lg L (Wk L.K) ti) (lgG L.nox ks g) (lg L.nox RB tt) (lg L.nox (RT L.nox) te) vs σ H Q := by
  obtain ⟨W, env, h, Po, Pe, S, hti, c⟩ := h
  refine ⟨W, env, h, _, _, S, hti, ⟨fun W1 us env1 h1 J H1 l1 S1 wk q1 => ?_, c.er⟩⟩
  intro D hD
  have nD : W1.own D = none := S1.sh.own_none hD
  have lD := LeW.none_ S1.sh hD (.lst [])
  refine ⟨fun i m H' => m = us.length - i ∧ i ≤ us.length ∧ ∃ W' env' h' acc accV, LeW W1 H1 W' H' ∧ Sim L.K W' env' h' (L2.wipe σ vs) H' ∧ W'.own D = none ∧ H' D = some (.lst accV) ∧ RVs L.K W' H' acc accV ∧
    compU g tt te vs (fun acc env2 h2 => Po (.own acc) (restoreE env1 env2 vs) h2) (us.drop i) acc env' h', ⟨us.length, by simp, Nat.zero_le _, W1, wipeE env1 vs, h1, [], [], lD, (S1.wipe vs).none_ hD _, nD, upd_same, .nil, q1⟩, ?_⟩
  rintro i m H' ⟨rfl, hi, W', env', h', acc, accV, l', S', n', eD, ra, q'⟩
  by_cases hlt : i < us.length
  · obtain ⟨go, yl⟩ := (wk W' H' l' i).2 us[i] (by simp [hlt])
    rw [List.drop_eq_getElem_cons hlt] at q'
    refine .inr ⟨go, fun H2 => ∃ W2 env2 h2 acc2 accV2, LeW W1 H1 W2 H2 ∧ Sim L.K W2 env2 h2 (L2.wipe σ vs) H2 ∧ W2.own D = none ∧ H2 D = some (.lst accV2) ∧ RVs L.K W2 H2 acc2 accV2 ∧
      compU g tt te vs (fun acc env2 h2 => Po (.own acc) (restoreE env1 env2 vs) h2) (us.drop (i + 1)) acc2 env2 h2, fun H2 z => ⟨us.length - (i + 1), by omega, rfl, hlt, z⟩, fun x H2 y => ?_⟩
    obtain ⟨l2, S2, rv⟩ := yl x H2 y
    refine ⟨W', env', h', _, _, S2 _ _ _ S', rv, q', fun env3 h3 σ3 S3 off q3 => ?_⟩
    have ew : L2.wipe σ3 vs = L2.wipe σ vs := (wipe_off hks off).trans (wipe_wipe vs)
    refine ⟨ew, W', env3, h3, _, _, S3, q3, ⟨fun W4 b env4 h4 b' H4 l4 S4 rb q4 => ?_, fun _ _ _ _ _ _ _ _ _ _ z => z.elim⟩⟩
    cases rb
    have l24 := l2.trans l4
    have l14 := l'.trans l24
    obtain ⟨n4, e4⟩ := l24.st D _ eD n'
    have ra4 := ra.le l24.toLeP
    cases b with
    | false =>
      rw [if_neg Bool.false_ne_true] at q4 ⊢
      have S5 := S4.wipe vs
      rw [ew] at S5
      exact ⟨W4, _, h4, acc, accV, l14, S5, n4, e4, ra4, q4⟩
    | true =>
      rw [if_pos rfl] at q4 ⊢
      refine ⟨W4, env4, h4, _, _, S4, q4, ⟨fun W5 sv env5 h5 v H5 l5 S5 r5 q5 => ?_, fun _ _ _ _ _ _ _ _ _ _ z => z.elim⟩⟩
      obtain ⟨W6, S6, l6, r6⟩ := S5.freeze r5
      have l56 := l5.trans l6
      obtain ⟨n6, e6⟩ := l56.st D _ e4 n4
      have l16 := l14.trans l56
      obtain ⟨lp, S7⟩ := S6.upd0 (ys := accV ++ [v]) n6 e6
      have S8 := S7.wipe vs
      rw [ew] at S8
      have ra6 := (ra4.le l56.toLeP)
      refine ⟨accV, e6, by rw [← ra.length]; exact q5.1, W6, _, h5, _, _, l16.upd0 hD n6 e6, S8, n6, upd_same, (ra6.le lp).append (.cons (r6.le lp) .nil), q5.2⟩
  · have e : i = us.length := by omega
    subst e
    refine .inl ⟨(wk W' H' l' _).1 (Nat.le_refl _), ?_⟩
    rw [List.drop_length] at q'
    have S2 : Sim L.K W' (restoreE env1 env' vs) h' σ H' := S1.restore l' S'
    -- the new list is ours
    have hne : ∀ b w, W'.own b = some w → b ≠ D := fun b w q z => by subst z; rw [n'] at q; cases q
    have lp : LeP W' H' (W'.put D (some .tmp)) H' := ⟨fun b o eb f => ⟨by rw [Wd.put_ne (hne b _ f)]; exact f, .inl eb⟩, fun _ _ e => e, fun _ _ _ e => e, ⟨[], by simp [Wd.put]⟩, fun i b _ f => by rw [Wd.put_ne (hne b _ f)]; exact f⟩
    have lw : LeW W1 H1 (W'.put D (some .tmp)) H' := by
      refine ⟨l'.toLeP.trans lp, fun b o eb f => ?_⟩
      have ne : b ≠ D := fun z => by subst z; rw [hD] at eb; cases eb
      rw [Wd.put_ne ne]
      exact l'.st b o eb f
    refine c.ok (W'.put D (some .tmp)) (.own acc) _ h' (.ref D) H' (l1.trans lw) ⟨⟨S2.sh.len, fun j o eo => ?_, fun a w ea => ?_⟩, S2.len, fun k sv es => ?_⟩ ⟨D, accV, rfl, Wd.put_same, eD, ra.le lp⟩ q'
    · obtain ⟨a, m, na, r⟩ := S2.sh.objs j o eo
      refine ⟨a, m, by rw [Wd.put_ne (hne a _ na)]; exact na, ?_⟩
      cases o with
      | lst us2 =>
        obtain ⟨vs2, e3, r3⟩ := r
        exact ⟨vs2, e3, r3.le lp⟩
    · by_cases z : a = D
      · subst z; exact ⟨_, eD⟩
      · rw [Wd.put_ne z] at ea; exact S2.sh.dom a w ea
    · obtain ⟨v, e1, r⟩ := S2.slots k sv es
      refine ⟨v, e1, ?_⟩
      cases sv with
      | val u => exact RV.le lp r
      | own us2 =>
        obtain ⟨a, vs2, rfl, na, ea, rv⟩ := r
        exact ⟨a, vs2, rfl, by rw [Wd.put_ne (hne a _ na)]; exact na, ea, rv.le lp⟩
      | dic ks2 us2 =>
        obtain ⟨a, o2, kv2, vv2, rfl, na, ea, ds, r3, r4⟩ := r
        exact ⟨a, o2, kv2, vv2, rfl, by rw [Wd.put_ne (hne a _ na)]; exact na, ea, ds, r3.le lp, r4.le lp⟩
theorem we_lc {elt tg iter : Expr} {ifs : List Expr} {scope : Scope} {own : List (Str × Nat)} {pos : Pos} {ti : UM (List U)} {ks : List Nat} {g : UG} {tt : UT} {te : UE} (hc : X.calm = true) (hN : X.N.Nodup) (hi : WI X L tg iter ti) (ok : BlkOk X.N X.env.scope scope own) (hks : ∀ k ∈ ks, k ∈ own.map (·.2))
    (hg : ∀ (s : Shared) (H : Hp) (C : Addr) (cl : List (Str × Addr)) (fp : List Addr), WG (X.blk s H scope (compEnvC scope cl C X.env) fp) L.nox tg ks g) (ht : ∀ (s : Shared) (H : Hp) (C : Addr) (cl : List (Str × Addr)) (fp : List Addr), WTs (X.blk s H scope (compEnvC scope cl C X.env) fp) L.nox ifs tt)
    (he : ∀ (s : Shared) (H : Hp) (C : Addr) (cl : List (Str × Addr)) (fp : List Addr), WE (X.blk s H scope (compEnvC scope cl C X.env) fp) L.nox elt te) (hs : ∀ x, foldedSetIterable iter X.env x = pure x := by intro _; rfl) :
    WE X L (.ListComp elt [⟨tg, iter, ifs, 0⟩] scope pos) (uLc ti g tt te (own.map (·.2))) :=
  PE.wk (pe_lc hc hN hi ok hg ht he hs) fun _ _ _ h => lg_lc (tg := tg) (iter := iter) hks h
/-- name = [..] on one line, the name a plain local -/
theorem ps_lcU {i : Nat} {y : Str} {py : Pos} {elt tg iter : Expr} {ifs : List Expr} {scope : Scope} {own : List (Str × Nat)} {pos spos : Pos} {ti : UM (List U)} {ks : List Nat} {g : UG} {tt : UT} {te : UE} (hc : X.calm = true) (hN : X.N.Nodup) (hy : X.N[i]? = some y) (hyl : X.env.scope.names.lookup y = some .local)
    (hsw : swapsWith (.ListComp elt [⟨tg, iter, ifs, 0⟩] scope pos) (some (.Name y py)) spos.line X.env = pure true) (hi : WI X L tg iter ti) (ok : BlkOk X.N X.env.scope scope own) (hks : ∀ k ∈ ks, k ∈ own.map (·.2))
    (hg : ∀ (s : Shared) (H : Hp) (C : Addr) (cl : List (Str × Addr)) (fp : List Addr), WG (X.blk s H scope (compEnvC scope cl C X.env) fp) L.nox tg ks g) (ht : ∀ (s : Shared) (H : Hp) (C : Addr) (cl : List (Str × Addr)) (fp : List Addr), WTs (X.blk s H scope (compEnvC scope cl C X.env) fp) L.nox ifs tt)
    (he : ∀ (s : Shared) (H : Hp) (C : Addr) (cl : List (Str × Addr)) (fp : List Addr), WE (X.blk s H scope (compEnvC scope cl C X.env) fp) L.nox elt te) (hs : ∀ x, foldedSetIterable iter X.env x = pure x := by intro _; rfl) :
    PS X (.Assign [.Name y py] (.ListComp elt [⟨tg, iter, ifs, 0⟩] scope pos) spos) (tAsg (lg L (RT L) (uLc ti g tt te (own.map (·.2)))) (gName i)) :=
  PS.wk (ps_setLc hc hN hy hyl hsw hi ok hg ht he hs) fun D σ H h => lg_lc (tg := tg) (iter := iter) hks h
end
end Vi

/-! Vi8: a list that a name owns, read; the end of a law. -/
namespace Vi
open PySem PySem.Spec PyProof.Rows L2
variable [WW]

/-! ### a list that a name owns, read where it stands -/
@[simp] def ownAt (env : En) (k : Nat) (Q : List U → Prop) : Prop := match env[k]? with
  | some (some (.own us)) => Q us
  | _ => False
@[simp] def uLenO (k : Nat) : UE := fun env h Po _ => ownAt env k fun us => Po (.val (.int (us.length : Int))) env h
@[simp] def uIxO (k : Nat) (ti : UE) : UE := fun env h Po Pe => (∃ us, env[k]? = some (some (.own us))) ∧ ti env h (fun iv env1 h1 => ownAt env1 k fun us => match iv.u with
  | .int i => (match L2.atI us i with
    | some u => Po (.val u) env1 h1
    | none => False)
  | _ => False) Pe
/-- x == e, x != e -/
@[simp] def uEqO (k : Nat) (neg : Bool) (tb : UE) : UE := fun env h Po Pe => (∃ us, env[k]? = some (some (.own us))) ∧ tb env h (fun sv env1 h1 => ownAt env1 k fun us => match eqD? (.lst us) sv.u with
  | some b => Po (.val (.bl (if neg then !b else b))) env1 h1
  | none => False) Pe
@[simp] def uInO (k : Nat) (neg : Bool) (te : UE) : UE := fun env h Po Pe => te env h (fun sv env1 h1 => ownAt env1 k fun us => match inU? sv.u (.lst us) with
  | some b => Po (.val (.bl (if neg then !b else b))) env1 h1
  | none => False) Pe
section
variable {X : Cx} {L : Lx} {K : PySem.W.Frag}
theorem ownAt_ok {W : Wd} {env : En} {h : Hv} {σ : L2.St} {H : Hp} {k : Nat} {Q : List U → Prop} (S : Sim K W env h σ H) (q : ownAt env k Q) : ∃ us a vs, env[k]? = some (some (.own us)) ∧ σ[k]? = some (some (.ref a)) ∧ H a = some (.lst vs) ∧ RVs K W H us vs ∧ Q us := by
  unfold ownAt at q
  split at q
  · rename_i us e
    obtain ⟨a, vs, e1, e2, e3⟩ := S.own_at e
    exact ⟨us, a, vs, e, e1, e2, e3, q⟩
  · exact q.elim
theorem we_lenO {k : Nat} {x : Str} {p p2 pos : Pos} (hK : L.K = X.K) (hx : PE X (.Name x p) (tVar k)) (hg : Gl X "len") (hm : X.mg "len" = none) (he : starEach [.Name x p] X.env = [(false, eval (.Name x p) X.env)] := by rfl) :
    WE X L (.Call (.Name "len" p2) [.Name x p] [] pos) (uLenO k) := by
  refine PE.wk (pe_callB call_len_seq hg hm PySem.boot_len (pa_cons hx pa_nil he) (he := he) (hpl := rfl)) fun σ H Q ⟨W, env, h, Po, Pe, S, ht, c⟩ => ?_
  obtain ⟨us, a, vs, e, ev, ea, rv, q⟩ := ownAt_ok S ht
  refine ⟨_, ev, a, vs, rfl, .inl (.inl (.inl ea)), ?_⟩
  rw [← rv.length]
  exact c.ok W (.val (.int us.length)) env h _ H .refl S (.int _) q
theorem we_ixO {k : Nat} {x : Str} {p pos : Pos} {i : Expr} {ti : UE} (hK : L.K = X.K) (hx : PE X (.Name x p) (tVar k)) (hi : WE X L i ti) (hs : PlainIx i) : WE X L (.Subscript (.Name x p) i pos) (uIxO k ti) := by
  refine PE.wk (pe_ix ix_list hx hi hs) fun σ H Q ⟨W, env, h, Po, Pe, S, ⟨⟨us0, e0⟩, ht⟩, c⟩ => ?_
  obtain ⟨a, vs0, ev, ea, _⟩ := S.own_at e0
  refine ⟨_, ev, W, env, h, _, _, S, ht, ⟨fun W1 iv env1 h1 y H1 l1 S1 r1 q1 => ?_, c.er⟩⟩
  obtain ⟨us, b, vs, e1, ev1, eb, rv, q⟩ := ownAt_ok S1 q1
  rw [ev] at ev1
  cases ev1
  split at q
  · rename_i z ez
    split at q
    · rename_i u eu
      cases iv with
      | own _ => cases ez
      | dic _ _ => cases ez
      | val w =>
        cases ez
        have r2 : RV L.K W1 H1 (.int z) y := r1
        cases r2.int_
        obtain ⟨v, ev2, rr⟩ := rv.atI eu
        exact ⟨a, vs, z, v, rfl, rfl, .inl (.inl eb), ev2, c.ok W1 (.val u) env1 h1 v H1 l1 S1 rr q⟩
    · exact q.elim
  · exact q.elim
theorem lg_eqO {k : Nat} {neg : Bool} {tb : UE} {σ : L2.St} {H : Hp} {Q : VK} (hK : L.K = X.K) (h : lg L (RT L) (uEqO k neg tb) σ H Q) : tOp (fun x y H Q => ∃ d e, Dp X.K H x d ∧ Dp X.K H y e ∧ SeqAt.shaped d = true ∧ SeqAt.shaped e = true ∧ Q (.bl (if neg then !PyData.eqv d e else PyData.eqv d e)) H) (tVar k) (lg L (RT L) tb) σ H Q := by
  obtain ⟨W, env, h, Po, Pe, S, ⟨⟨us0, e0⟩, ht⟩, c⟩ := h
  obtain ⟨a, vs0, ev, ea, _⟩ := S.own_at e0
  refine ⟨_, ev, W, env, h, _, _, S, ht, ⟨fun W1 sv env1 h1 y H1 l1 S1 r1 q1 => ?_, c.er⟩⟩
  obtain ⟨W2, S2, l2, r2⟩ := S1.freeze r1
  obtain ⟨us, b, vs, e1, ev1, eb, rv, q⟩ := ownAt_ok S2 q1
  rw [ev] at ev1
  cases ev1
  split at q
  · rename_i b eb2
    obtain ⟨d, e, h1', h2', h3, h4, rfl⟩ := eqD?_some eb2
    have hd : Dp L.K H1 (.ref a) d := by
      unfold toD at h1'
      cases z : toDs us with
      | none => rw [z] at h1'; cases h1'
      | some ds =>
        rw [z] at h1'
        cases h1'
        exact .lst (.inl (.inl eb)) (rv.dp z)
    rw [← hK]
    exact ⟨d, e, hd, r2.dp h2', h3, h4, c.ok W2 (.val (.bl _)) env1 h1 _ H1 (l1.trans l2) S2 (.bl _) q⟩
  · exact q.elim
theorem we_eqO {k : Nat} {x : Str} {p pos : Pos} {b : Expr} {tb : UE} (hK : L.K = X.K) (hu : X.A.units + 64 < cLine) (hx : PE X (.Name x p) (tVar k)) (hb : WE X L b tb) : WE X L (.Compare (.Name x p) [.Eq] [b] pos) (uEqO k false tb) :=
  PE.wk (pe_cmpR (op_eqD hu) hx hb (nomark _)) fun _ _ _ h => lg_eqO hK h
theorem we_neO {k : Nat} {x : Str} {p pos : Pos} {b : Expr} {tb : UE} (hK : L.K = X.K) (hu : X.A.units + 64 < cLine) (hx : PE X (.Name x p) (tVar k)) (hb : WE X L b tb) : WE X L (.Compare (.Name x p) [.NotEq] [b] pos) (uEqO k true tb) :=
  PE.wk (pe_cmpR (op_neD hu) hx hb (nomark _)) fun _ _ _ h => lg_eqO hK h
theorem wt_eqO {k : Nat} {x : Str} {p pos : Pos} {b : Expr} {tb : UE} (hK : L.K = X.K) (hu : X.A.units + 64 < cLine) (hx : PE X (.Name x p) (tVar k)) (hb : WE X L b tb) : WT X L (.Compare (.Name x p) [.Eq] [b] pos) (uB (uEqO k false tb)) :=
  PT.wk (pt_cmpR (op_eqD hu) hx hb (nomark _)) fun _ _ _ h => lg_eqO hK (lg_B h)
theorem wt_neO {k : Nat} {x : Str} {p pos : Pos} {b : Expr} {tb : UE} (hK : L.K = X.K) (hu : X.A.units + 64 < cLine) (hx : PE X (.Name x p) (tVar k)) (hb : WE X L b tb) : WT X L (.Compare (.Name x p) [.NotEq] [b] pos) (uB (uEqO k true tb)) :=
  PT.wk (pt_cmpR (op_neD hu) hx hb (nomark _)) fun _ _ _ h => lg_eqO hK (lg_B h)
theorem lg_inO {k : Nat} {neg : Bool} {te : UE} {σ : L2.St} {H : Hp} {Q : VK} (h : lg L (RT L) (uInO k neg te) σ H Q) : tOp (rIn L.K neg) (lg L (RT L) te) (tVar k) σ H Q := by
  obtain ⟨W, env, h, Po, Pe, S, ht, c⟩ := h
  refine ⟨W, env, h, _, _, S, ht, ⟨fun W1 sv env1 h1 y H1 l1 S1 r1 q1 => ?_, c.er⟩⟩
  obtain ⟨W2, S2, l2, r2⟩ := S1.freeze r1
  obtain ⟨us, b, vs, e1, ev1, eb, rv, q⟩ := ownAt_ok S2 q1
  refine ⟨_, ev1, ?_⟩
  split at q
  · rename_i b2 e2
    unfold inU? at e2
    split at e2
    · rename_i v ws h1' h2'
      cases e2
      obtain ⟨ev, fv⟩ := r2.flat h1'
      subst ev
      obtain ⟨e3, f3⟩ := rv.flat h2'
      subst e3
      exact ⟨b, _, rfl, .inl (.inl (.inl eb)), fv, f3, c.ok W2 (.val (.bl _)) env1 h1 _ H1 (l1.trans l2) S2 (.bl _) q⟩
    · cases e2
  · exact q.elim
theorem we_inO {k : Nat} {x : Str} {p pos : Pos} {a : Expr} {ta : UE} (hK : L.K = X.K) (ha : WE X L a ta) (hx : PE X (.Name x p) (tVar k)) (hm : behindInMarks .In (.Name x p) = false := by rfl) : WE X L (.Compare a [.In] [.Name x p] pos) (uInO k false ta) :=
  PE.wk (pe_cmpR op_in_seq ha hx hm) fun _ _ _ h => by rw [← hK]; exact lg_inO h
theorem we_notInO {k : Nat} {x : Str} {p pos : Pos} {a : Expr} {ta : UE} (hK : L.K = X.K) (ha : WE X L a ta) (hx : PE X (.Name x p) (tVar k)) (hm : behindInMarks .NotIn (.Name x p) = false := by rfl) : WE X L (.Compare a [.NotIn] [.Name x p] pos) (uInO k true ta) :=
  PE.wk (pe_cmpR op_notIn_seq ha hx hm) fun _ _ _ h => by rw [← hK]; exact lg_inO h
theorem wt_inO {k : Nat} {x : Str} {p pos : Pos} {a : Expr} {ta : UE} (hK : L.K = X.K) (ha : WE X L a ta) (hx : PE X (.Name x p) (tVar k)) (hm : behindInMarks .In (.Name x p) = false := by rfl) : WT X L (.Compare a [.In] [.Name x p] pos) (uB (uInO k false ta)) :=
  PT.wk (pt_cmpR op_in_seq ha hx hm) fun _ _ _ h => by rw [← hK]; exact lg_inO (lg_B h)
theorem wt_notInO {k : Nat} {x : Str} {p pos : Pos} {a : Expr} {ta : UE} (hK : L.K = X.K) (ha : WE X L a ta) (hx : PE X (.Name x p) (tVar k)) (hm : behindInMarks .NotIn (.Name x p) = false := by rfl) : WT X L (.Compare a [.NotIn] [.Name x p] pos) (uB (uInO k true ta)) :=
  PT.wk (pt_cmpR op_notIn_seq ha hx hm) fun _ _ _ h => by rw [← hK]; exact lg_inO (lg_B h)
/-- is, is not between truth values -/
@[simp] def bIsB (neg : Bool) : UO := fun u w h P => match u, w with
  | .bl a, .bl b => P (.val (.bl (if neg then !decide (a = b) else decide (a = b)))) h
  | _, _ => False
theorem op_isBU : OpR X (compareOp .Is) (lo X.K (bIsB false)) := by
  refine OpR.wk op_isBl fun x y H Q ⟨W, env, h, σ, u, w, P, S, ru, rw_, ht, c⟩ => ?_
  unfold bIsB at ht
  split at ht
  · cases ru; cases rw_
    exact ⟨_, _, rfl, rfl, c.val S (.bl _) ht⟩
  · exact ht.elim
theorem op_isNotBU : OpR X (compareOp .IsNot) (lo X.K (bIsB true)) := by
  refine OpR.wk op_notBl fun x y H Q ⟨W, env, h, σ, u, w, P, S, ru, rw_, ht, c⟩ => ?_
  unfold bIsB at ht
  split at ht
  · cases ru; cases rw_
    exact ⟨_, _, rfl, rfl, c.val S (.bl _) ht⟩
  · exact ht.elim
/-- a module's value -/
theorem we_glo {x : Str} {u : U} {v : V} {a : Value} {pos : Pos} (hg : Gl X x) (hm : X.mg x = some a) (r : RelV v a) (rv : ∀ W H, RV L.K W H u v) (hd : (x == ("__debug__" : Str)) = false := by decide) : WE X L (.Name x pos) (uVal u) :=
  we_const (pe_glob hg hm r hd) rv
end

/-! ### the end of a law -/
section
open PySem.W
variable {P : Program} {w : World} {K : PySem.W.Frag} {mg mb : Str → Option Value} {k : Nat} {fa a : Addr} {fd : FuncData} {x : Str} {ga : Str → Addr} {f : FS} {s1 : Shared} {vs : List Value} {ns : List Int}
/-- from an abstract heap that has at most the script -/
theorem law_at (KX : K.In s1.heap) (hns : s1.heap.Ns mainGlobals mg) (hb : s1.heap.Ns builtinsNs mb) (hbb : ∀ x : Str, x ≠ "__name__" → mb x = bootBuiltins x) (hlim : s1.heap.NoLimit) (hg : s1.gens = #[]) (ha : s1.heap.get? a = some { cls := .type "list", data := .seq vs.toArray }) (hr : Room k callerA)
    (F : ∀ base : Heap, K.In base → base.Ns mainGlobals mg → FnG P w K mg base k fa fd [x] (spF K ga 1 f)) (hbind : ∀ (s : Shared) (u : Value), BindsTo s fd ⟨[u], []⟩ [(x, u)])
    (hf : f [.scr ns] [] (fun sv _ => sv = .val (.bl true)) fun _ _ => False) (H : Hp) (hO : Only H) (hS : ScrS K H a (ns.map V.int)) (hok : HOk P w H s1.heap) (hA : ∀ b, H b ≠ none → b = a) (hK : H a ≠ none → K.lookup a = none) :
    codeAny (model P w) callerA (.call (.ref fa) ⟨[.ref a], []⟩) (fun r s' => r = .ok (.ret (.bool true)) ∧ OldK s1.heap s'.heap ∧ s'.os = s1.os ∧ AllBare s'.gens) s1 := by
  have outOf : ∀ {b : Addr} {o : Obj}, s1.heap.get? b = some o → (∀ its n, o.data ≠ .seq its n) → H b = none := by
    intro b o e d
    rcases hO b with z | ⟨ob, xs, z⟩
    · exact z
    · have eb := hA b (by rw [z]; exact fun q => by cases q)
      subst eb
      rw [ha] at e
      cases e
      exact absurd rfl (d _ _)
  have nsOf : ∀ {b : Addr} {m : Str → Option Value}, s1.heap.Ns b m → (hidT s1.heap H).Ns b m := by
    intro b m z
    obtain ⟨o, es, ep, e, d, r⟩ := z
    exact ⟨o, es, ep, hidT_get e (outOf e fun its n q => by rw [d] at q; cases q), d, r⟩
  have inB : K.In (hidT s1.heap H) := by
    intro b o e
    refine hidT_get (KX b o e) ?_
    by_cases z : H b = none
    · exact z
    · have eb := hA b z
      subst eb
      rw [hK z] at e
      cases e
  obtain ⟨mc, lim1, lim2⟩ := hlim
  have M : Mod K mg (hidT s1.heap H) := ⟨inB, nsOf hns, ⟨mb, nsOf hb, hbb⟩, ⟨mc, nsOf lim1, lim2⟩⟩
  have e0 : Env0 P w K mg (hidT s1.heap H) callerA [] s1 H := ⟨rfl, M, fun b o e => of_hidT e, Nat.le_of_eq (hidT_size _ _), trivial, fun b z => (by cases z), hok, .of_eq hg⟩
  let W0 : Wd := ⟨fun _ => none, []⟩
  have S0 : SimH K W0 [] H := ⟨rfl, fun i o e => by simp at e, fun b w e => by cases e⟩
  have want : spF K ga 1 f [.ref a] H (fun v _ => v = .bl true) fun _ _ _ => False := by
    refine ⟨rfl, W0, [.scr ns], [], _, _, S0, (fun b k e => by cases e), RVs.cons (.scr hS) .nil, hf, ⟨fun W' sv h' v H' _ _ r q => ?_, fun _ _ _ _ _ _ _ _ _ q => q⟩⟩
    subst q
    exact RV.bl_ r
  refine codeAny_mono ((F _ inB (nsOf hns)).run callerA [] s1 H ⟨[.ref a], []⟩ [.ref a] [.ref a] _ _ hr rfl e0 (hbind s1 (.ref a)) (.cons rfl .nil) want) fun res s2 z => ?_
  match res, z with
  | .ok .next, z => exact z.elim
  | .ok .brk, z => exact z.elim
  | .ok .cont, z => exact z.elim
  | .error e, ⟨_, _, _, _, _, _, _, _, _, _, _, _, q⟩ => exact q.elim
  | .ok (.ret u), ⟨v, H', os, bare, un, hok', r', q⟩ =>
    have q' : v = .bl true := q
    subst q'
    have eu : u = Value.bool true := r'
    subst eu
    refine ⟨rfl, OldK.of_keep fun b o e => ?_, os, bare⟩
    rcases hO b with z | ⟨ob, xs, z⟩
    · exact un.keep b o e z (by intro c; cases c) (by simp)
    · obtain ⟨g1, _⟩ := hok b _ z
      obtain ⟨g2, _⟩ := hok' b _ (un.frzs b ob _ z)
      rw [g1] at e
      cases e
      exact g2
theorem law_run (KX : K.In s1.heap) (hns : s1.heap.Ns mainGlobals mg) (hb : s1.heap.Ns builtinsNs mb) (hbb : ∀ x : Str, x ≠ "__name__" → mb x = bootBuiltins x) (hlim : s1.heap.NoLimit) (hg : s1.gens = #[]) (ha : s1.heap.get? a = some { cls := .type "list", data := .seq vs.toArray }) (hi : IntsAre vs ns) (hl : ns.length ≤ sizeLine) (hr : Room k callerA)
    (F : ∀ base : Heap, K.In base → base.Ns mainGlobals mg → FnG P w K mg base k fa fd [x] (spF K ga 1 f)) (hbind : ∀ (s : Shared) (u : Value), BindsTo s fd ⟨[u], []⟩ [(x, u)])
    (hf : f [.scr ns] [] (fun sv _ => sv = .val (.bl true)) fun _ _ => False) :
    codeAny (model P w) callerA (.call (.ref fa) ⟨[.ref a], []⟩) (fun r s' => r = .ok (.ret (.bool true)) ∧ OldK s1.heap s'.heap ∧ s'.os = s1.os ∧ AllBare s'.gens) s1 := by
  have go := law_at (vs := vs) KX hns hb hbb hlim hg ha hr F hbind hf
  cases hk : K.lookup a with
  | some o =>
    have e := KX a o hk
    rw [ha] at e
    cases e
    exact go (fun _ => none) (fun _ => .inl rfl) (.inr ⟨_, vs.toArray, _, hk, rfl, rfl, rfl, by rw [List.size_toArray, hi.length]; exact hl, by simpa using vals_ints hi⟩) (fun b u z => by cases z) (fun b z => absurd rfl z) (fun z => absurd rfl z)
  | none =>
    have at_ : ∀ b, (upd (fun _ => none) a (.frz { cls := .type "list", data := .seq vs.toArray } (.lst (ns.map V.int))) : Hp) b ≠ none → b = a := by
      intro b z
      by_cases q : b = a
      · exact q
      · rw [upd_ne q] at z; exact absurd rfl z
    refine go (upd (fun _ => none) a (.frz { cls := .type "list", data := .seq vs.toArray } (.lst (ns.map V.int)))) (fun b => ?_) (.inl ⟨_, upd_same⟩) (fun b u z => ?_) at_ (fun _ => hk)
    · by_cases q : b = a
      · subst q; exact .inr ⟨_, _, upd_same⟩
      · exact .inl (upd_ne q)
    · by_cases q : b = a
      · subst q
        rw [upd_same] at z
        cases z
        exact ⟨ha, by rw [List.length_map]; exact hl, vs, _, vals_ints hi, ha⟩
      · rw [upd_ne q] at z
        cases z
omit [WW] in
theorem law_end {l : OpenLaw} {q : Program} {loose : List Str} {XP : (Str → Option Value) → Heap → Prop} {YP : World → Heap → Prop} {d : DefRec} (hn : l.most = some 63) (hdf : d.params.defaults = []) (hr : Room k callerA)
    (F : ∀ (w : World) (mg : Str → Option Value) (fa : Addr) (h : Heap), YP w h → h.Ns mainGlobals mg → mg d.name = some (.ref fa) → ∃ (K : PySem.W.Frag) (fd : FuncData) (ga : Str → Addr) (f : FS), K.In h ∧ (∀ (s : Shared) (u : Value), BindsTo s fd ⟨[u], []⟩ [(x, u)]) ∧
      (∀ ns : List Int, ns.length ≤ 63 → (∀ z ∈ ns, Builtin.Int.intBits z ≤ 1048576) → f [.scr ns] [] (fun sv _ => sv = .val (.bl true)) fun _ _ => False) ∧ ∀ base : Heap, K.In base → base.Ns mainGlobals mg → FnG l.prog w K mg base k fa fd [x] (@spF ⟨w⟩ K ga 1 f)) :
    WalkO q loose XP YP l.row.toRowW d [] (fun f vs => PySem.call f vs) := by
  refine Att.attach_callB hn hdf fun w s0 s1 mg mb fa o pm cd doc a vs ns G Y ho hd hcd hmg hobj hints hlen hbits hg => ?_
  obtain ⟨K, fd, ga, f, KX, hb, hf, hF⟩ := F w mg fa _ Y G.T.g hmg
  letI : WW := ⟨w⟩
  exact law_run KX G.T.g G.T.b G.T.builtins G.T.nolimit hg hobj hints (Nat.le_trans hlen (by decide)) hr hF hb (hf ns hlen hbits)
end
end Vi

/-! Vi9: isinstance, minus, the written part read by a check, the Hook. -/
namespace Vi
open PySem PySem.Spec PyProof.Rows L2
variable [WW]

section
variable {X : Cx} {L : Lx} {K : PySem.W.Frag}
/-- a built-in class's name as a value -/
theorem we_ty {x : Str} {n : String} {pos : Pos} (hg : Gl X x) (hm : X.mg x = none) (hv : bootBuiltins x = some (.type n)) (hn : x ≠ "__name__" := by decide) (hd : (x == ("__debug__" : Str)) = false := by decide) : WE X L (.Name x pos) (uVal (.ty n)) :=
  we_const (pe_bltn (v := .ty n) hg hm hv rfl hn hd) fun _ _ => .ty n
@[simp] def tyU : U → Option String
  | .non => some "NoneType"
  | .bl _ => some "bool"
  | .int _ => some "int"
  | .str _ => some "str"
  | .tup _ => some "tuple"
  | .lst _ => some "list"
  | .scr _ => some "list"
  | .ref _ => some "list"
  | .err _ _ => some "error"
  | _ => none
def clsNames : List String := ["int", "bool", "str", "tuple", "list", "NoneType"]
/-- isinstance of one of these types -/
def isT (a b : String) : Bool := a == b || (a == "bool" && b == "int")
theorem isT_kit : ∀ a ∈ clsNames, ∀ b ∈ ["int", "bool", "str", "tuple", "list"], kitB a b = some (isT a b) := by decide +kernel
theorem tyU_mem {u : U} {a : String} (h : tyU u = some a) (n : ¬ a = "error") : a ∈ clsNames := by
  cases u <;> first | (cases h; decide) | (cases h; exact absurd rfl n) | cases h
theorem isT_err : ∀ b ∈ ["int", "bool", "str", "tuple", "list"], isT "error" b = false := by decide +kernel
/-- what is asked of an error's class -/
theorem eclB_ok {K : PySem.W.Frag} {x : Str} (c : eclB K x = true) : (He.Fa.exc x).ok K = true ∧ L2.ExcC K (He.ga K x) ∧ ∀ b ∈ ["int", "bool", "str", "tuple", "list"], PySem.W.kitOne K (.ref (He.ga K x)) (.type b) = some false := by
  unfold eclB eclB0 at c
  simp only [Bool.and_eq_true, List.all_eq_true, decide_eq_true_eq] at c
  obtain ⟨⟨c0, c1, c2, c3, c4, c5, c6, c7, c8, _⟩, _⟩ := c
  have cs := (He.exc_ok c0).2.2.1
  exact ⟨c0, ⟨He.eqO_ok c1, He.eqO_ok c2, cs, c3, He.eqO_ok c4, He.eqO_ok c5, c6, c7⟩, c8⟩
theorem eclB_sup {K : PySem.W.Frag} {x : Str} (c : eclB K x = true) : PySem.W.exmOne K (.ref (He.ga K x)) (.ref (He.ga K "SlotError")) = some true ∧ PySem.W.kitOne K (.ref (He.ga K x)) (.ref (He.ga K x)) = some true := by
  unfold eclB eclB0 at c
  simp only [Bool.and_eq_true, List.all_eq_true, decide_eq_true_eq] at c
  exact c.1.2.2.2.2.2.2.2.2.2
theorem RV.tyX {W : Wd} {H : Hp} {h : Hv} {u : U} {v : V} {a : String} (S : SimH K W h H) (r : RV K W H u v) (e : tyU u = some a) (ne : ¬ a = "error") : TyX K H v (.type a) := by
  cases r with
  | non => cases e; exact .base .non
  | bl b => cases e; exact .base (.bl b)
  | int b => cases e; exact .base (.int b)
  | str b => cases e; exact .base (.str b)
  | ty b => cases e
  | err _ _ => cases e; exact absurd rfl ne
  | ecl _ _ => cases e
  | dic _ _ _ _ => cases e
  | erf _ _ _ _ _ => cases e
  | tup hq r =>
    cases e
    rcases hq with ⟨_, _, hq⟩ | ⟨o, its, n, hk, hc, _⟩
    · exact .fTuple hq
    · exact .kTuple hk hc
  | lst n hq r => cases e; exact .base (.lst hq)
  | scr hq =>
    cases e
    rcases hq with ⟨o, hq⟩ | ⟨o, its, n, hk, hc, _⟩
    · exact .base (.frz hq)
    · exact .kList hk hc
  | ref m n =>
    rename_i i p
    cases e
    have hi : i < h.length := by
      rw [← S.len]
      exact (List.getElem?_eq_some_iff.mp m).1
    cases q : h[i]? with
    | none =>
      have := List.getElem?_eq_none_iff.mp q
      omega
    | some ob =>
      obtain ⟨b, m2, n2, ro⟩ := S.objs _ _ q
      rw [m] at m2
      cases m2
      cases ob with
      | lst us =>
        obtain ⟨vs, e3, _⟩ := ro
        exact .base (.lst e3)
@[simp] def bIsi : UB := fun us h P => match us with
  | [u, .ty T] => (match tyU u with
    | some a => T ∈ ["int", "bool", "str", "tuple", "list"] ∧ P (.val (.bl (isT a T))) h
    | none => False)
  | _ => False
theorem call_isiU : CallR X (.builtin "isinstance") (lb X.K bIsi) := by
  intro pins s σ H xs us Q I r q
  obtain ⟨W, env, h, σ', ws, P, S, rr, ht, c⟩ := q
  unfold bIsi at ht
  split at ht
  · rename_i uu T
    obtain ⟨v, w, rfl, ru, rw_⟩ := RVs.two rr
    split at ht
    · rename_i a ea
      cases rw_
      by_cases ne : a = "error"
      · cases ru with
        | err he hc =>
          subst ne
          rename_i x m b
          obtain ⟨oe, vs, e1, e2, e3, e4, _⟩ := he
          obtain ⟨_, C, k⟩ := eclB_ok hc
          obtain ⟨u1, u2, rfl, r1, r2⟩ := vals2 r
          cases r1
          have er : u2 = Value.type T := (L2.ClsV.ty T).eq r2
          subst er
          have g := (I.hok _ _ e1).1
          have J : PySem.W.InstAt s.heap b oe (He.ga X.K x) none := by
            obtain ⟨oc, od, oda, osl⟩ := oe
            dsimp only at e2 e3 e4
            subst e2 e3 e4
            exact ⟨g, rfl, rfl, trivial⟩
          have hF : isT "error" T = false := isT_err T ht.1
          rw [hF] at ht
          exact PySem.W.kia_one (PySem.W.handS_kitx_exc C.hg C.hk C.hs C.hd C.ha C.hn C.ht C.hm) I.kIn J (k T ht.1) (fun z => nomatch z) fun tk => ⟨.bl false, H, I.kept (t' := tk) fun _ _ z => z, rfl, c.val S (.bl _) ht.2⟩
        | ref _ _ => cases ea; exact absurd ne (by decide)
        | scr _ => cases ea; exact absurd ne (by decide)
        | lst _ _ _ => cases ea; exact absurd ne (by decide)
        | tup _ _ => cases ea; exact absurd ne (by decide)
        | ecl _ _ => cases ea
        | dic _ _ _ _ => cases ea
        | erf _ _ _ _ _ => cases ea
        | ty _ => cases ea
        | non => cases ea; exact absurd ne (by decide)
        | bl _ => cases ea; exact absurd ne (by decide)
        | int _ => cases ea; exact absurd ne (by decide)
        | str _ => cases ea; exact absurd ne (by decide)
      · exact call_isi pins s σ H _ us Q I r ⟨v, _, _, _, _, rfl, .ty _, ru.tyX S.sh ea ne, kit_ty (isT_kit a (tyU_mem ea ne) _ ht.1), c.val S (.bl _) ht.2⟩
    · exact ht.elim
  · exact ht.elim
@[simp] def uNeg (t : UE) : UE := fun env h Po Pe => t env h (fun sv env1 h1 => svI sv fun i => Po (.val (.int (-i))) env1 h1) Pe
theorem we_neg {a : Expr} {t : UE} {pos : Pos} (ha : WE X L a t) : WE X L (.UnaryOp .USub a pos) (uNeg t) := by
  refine PE.wk (pe_un un_neg ha) fun σ H Q ⟨W, env, h, Po, Pe, S, ht, c⟩ => ?_
  refine ⟨W, env, h, _, _, S, ht, ⟨fun W1 sv env1 h1 y H1 l1 S1 r1 q1 => ?_, c.er⟩⟩
  unfold svI at q1
  split at q1
  · have r2 : RV L.K W1 H1 (.int _) y := r1
    cases r2.int_
    exact ⟨_, rfl, c.ok W1 (.val (.int _)) env1 h1 _ H1 l1 S1 (.int _) q1⟩
  · exact q1.elim
end

/-! ### the written part, by a check -/
mutual
def cB (K : PySem.W.Frag) : U → Value → Bool
  | .non, v => match v with
    | .none => true
    | _ => false
  | .bl b, v => match v with
    | .bool c => b == c
    | _ => false
  | .int i, v => match v with
    | .int j _ => decide (i = j)
    | _ => false
  | .str x, v => match v with
    | .str y _ => decide (x = y)
    | _ => false
  | .tup us, v => match v with
    | .ref a => (match K.lookup a with
      | some ⟨.type c, none, .seq its _, _⟩ => decide (c = "tuple") && (decide (its.size ≤ sizeLine) && cBs K us its.toList)
      | _ => false)
    | _ => false
  | .ecl x, v => match v with
    | .ref a => decide (a = He.ga K x) && eclB K x
    | _ => false
  | _, _ => false
def cBs (K : PySem.W.Frag) : List U → List Value → Bool
  | [], vs => match vs with
    | [] => true
    | _ => false
  | u :: us, vs => match vs with
    | v :: vs => cB K u v && cBs K us vs
    | _ => false
end
mutual
theorem cB_ok {K : PySem.W.Frag} : ∀ {u : U} {a : Value}, cB K u a = true → ∃ v, RelV v a ∧ ∀ W H, RV K W H u v
  | .non, a, h => by
    unfold cB at h
    split at h
    · exact ⟨.non, rfl, fun _ _ => .non⟩
    · cases h
  | .bl b, a, h => by
    unfold cB at h
    split at h
    · cases eq_of_beq h
      exact ⟨.bl b, rfl, fun _ _ => .bl b⟩
    · cases h
  | .int i, a, h => by
    unfold cB at h
    split at h
    · cases of_decide_eq_true h
      exact ⟨.int i, ⟨_, rfl⟩, fun _ _ => .int i⟩
    · cases h
  | .str x, a, h => by
    unfold cB at h
    split at h
    · cases of_decide_eq_true h
      exact ⟨.str x, ⟨_, rfl⟩, fun _ _ => .str x⟩
    · cases h
  | .tup us, a, h => by
    unfold cB at h
    split at h
    · rename_i p
      split at h
      · rename_i c its n sl ek
        simp only [Bool.and_eq_true, decide_eq_true_eq] at h
        obtain ⟨ec, ez, hs⟩ := h
        obtain ⟨vs, rv, rr⟩ := cBs_ok hs
        subst ec
        exact ⟨.ref p, rfl, fun W H => .tup (.inr ⟨_, its, n, ek, rfl, rfl, rfl, ez, rv⟩) (rr W H)⟩
      · cases h
    · cases h
  | .lst _, _, h => by simp [cB] at h
  | .scr _, _, h => by simp [cB] at h
  | .ref _, _, h => by simp [cB] at h
  | .ty _, _, h => by simp [cB] at h
  | .err _ _, _, h => by simp [cB] at h
  | .dic _ _, _, h => by simp [cB] at h
  | .erf _ _ _, _, h => by simp [cB] at h
  | .ecl x, a, h => by
    unfold cB at h
    split at h
    · simp only [Bool.and_eq_true, decide_eq_true_eq] at h
      exact ⟨.ref _, rfl, fun W H => .ecl h.1 h.2⟩
    · cases h
theorem cBs_ok {K : PySem.W.Frag} : ∀ {us : List U} {as : List Value}, cBs K us as = true → ∃ vs, Vals vs as ∧ ∀ W H, RVs K W H us vs
  | [], as, h => by
    unfold cBs at h
    split at h
    · exact ⟨[], .nil, fun _ _ => .nil⟩
    · cases h
  | u :: us, as, h => by
    unfold cBs at h
    split at h
    · simp only [Bool.and_eq_true] at h
      obtain ⟨v, r1, r2⟩ := cB_ok h.1
      obtain ⟨vs, r3, r4⟩ := cBs_ok h.2
      exact ⟨v :: vs, .cons r1 r3, fun W H => .cons (r2 W H) (r4 W H)⟩
    · cases h
end
/-- the module's name x holds u -/
def gB (K : PySem.W.Frag) (p : Str × U) : Bool := match PySem.W.nsIn K mainGlobals p.1 with
  | some (some a) => cB K p.2 a
  | _ => false
theorem gB_ok {K : PySem.W.Frag} {h : Heap} {mg : Str → Option Value} (X : K.In h) (G : h.Ns mainGlobals mg) {x : Str} {u : U} (c : gB K (x, u) = true) : ∃ a v, mg x = some a ∧ RelV v a ∧ ∀ W H, RV K W H u v := by
  unfold gB at c
  split at c
  · rename_i a e
    obtain ⟨v, r, rr⟩ := cB_ok c
    exact ⟨a, v, PySem.W.mg_of X G e, r, rr⟩
  · cases c
/-! ### the Hook: facts by names, constants, defs -/
/-- the class -/
def supC1 (K : PySem.W.Frag) (C : Addr) : Bool := match K.lookup C with
  | some ⟨.type ty, _, .cls cd, sl⟩ => (match cd.mro, sl.toList with
    | .ref C' :: bm, [_, _, _, _, some (.builtin n), _] => decide (ty = "type") && (decide (C' = C) && (decide (n = "ValueError.__new__") && (!cd.hasDel && (cd.hasDict && PySem.HandSPX.refsVE bm))))
    | _, _ => false)
  | _ => false
/-- .. what its names mean -/
def supC2 (K : PySem.W.Frag) (C : Addr) : Bool := decide (PySem.W.findIn K (.ref C) "__setattr__" = some (some (.builtin "object.__setattr__"))) && (decide (PySem.W.subIn K (.ref C) (.type "BaseException") = some true) && (decide (PySem.W.typeIn K (.ref C) = some (.type "type")) && (PySem.W.keepIn K (.ref C) &&
  (decide (PySem.W.ks_superIn K C C "__init__" = some (some (.builtin "ValueError.__init__"))) && (decide (PySem.W.subIn K (.ref C) (.type "ValueError") = some true) && (decide (PySem.W.mroIn K C (.ref C) = some true) && (decide (PySem.W.nsIn K cStatics "thirdparty.any" = some none) &&
  (decide (PySem.W.findIn K (.ref C) "__init__" = some (some (.ref (He.ma K C "__init__")))) && decide (PySem.W.typeIn K (.ref (He.ma K C "__init__")) = some (.type "function"))))))))))
def fl2 (vs : Array Value) : Option Value := vs[2]?
/-- .. its __init__'s cell and code -/
def supC3 (K : PySem.W.Frag) (C : Addr) (file : Str) : Bool := match K.lookup (He.ma K C "__init__") with
  | some ⟨_, _, .func fd, _⟩ => (decide (fd.defaults = .none) && decide (fd.kwdefaults = .none)) && (match fd.closure with
    | [(n, cc)] => decide (n = "__class__") && (match K.lookup cc with
      | some ⟨_, _, .cell (some (.ref D)), _⟩ => decide (D = C)
      | _ => false)
    | _ => false) && (match fd.code with
    | .ref cda => (match K.lookup cda with
      | some ⟨_, _, .fields vs, _⟩ => (match fl2 vs with
        | some (.str fl _) => decide (fl = file)
        | _ => false)
      | _ => false)
    | _ => false)
  | _ => false
def supB (K : PySem.W.Frag) (x f file : Str) : Bool := ecfB K x f && (supC1 K (He.ga K x) && (supC2 K (He.ga K x) && supC3 K (He.ga K x) file))
/-- a def as it stands; of a method: without what its cells are -/
def fnM (K : PySem.W.Frag) (p : Str × Option Str) : He.FnW := match p.2 with
  | none => He.fnW K p
  | some _ => (He.fnW K p).map fun z => (z.1, z.2.1, z.2.2.1, z.2.2.2.1, z.2.2.2.2.1, z.2.2.2.2.2.1, [], z.2.2.2.2.2.2.2)
/-- of an error class's __init__: what stands about it -/
def dX (K : PySem.W.Frag) (d : He.DefD) : Bool := match d.at_.2 with
  | none => true
  | some _ => (match d.body with
    | [_, .Assign [.Attribute _ f _] _ _] => supB K d.at_.1 f "/claim/cut.py"
    | _ => true)
def obsV (fa : List He.Fa) (cs : List (Str × U)) (fn : List He.DefD) (K : PySem.W.Frag) : He.AlD := ((fa.all fun f => f.ok K) && ((cs.all fun p => gB K p) && fn.all fun d => d.ok K && dX K d), fn.map fun d => fnM K d.at_)
def SaysV (fa : List He.Fa) (cs : List (Str × U)) (fn : List He.DefD) (K : PySem.W.Frag) : Prop := obsV fa cs fn K = (true, fn.map He.DefD.val)
def obsVG (n : Nat) (fa : List He.Fa) (cs : List (Str × U)) (fn : List He.DefD) (g : Addr → Option Obj) : He.AlD := obsV fa cs fn (He.frG g (He.asD g n ++ [cStatics]))
def hookV (n : Nat) (fa : List He.Fa) (cs : List (Str × U)) (fn : List He.DefD) : PySem.W.Hook where
  α := He.AlD
  obs := fun s => obsVG n fa cs fn s.heap.get?
  val := fun _ => (true, fn.map He.DefD.val)
  says := fun _ h => ∃ K : PySem.W.Frag, K.In h ∧ SaysV fa cs fn K
  of := fun _ _ e => ⟨_, He.frG_in, e⟩
  keeps := fun _ _ _ ⟨K, hK, c⟩ k => ⟨K, PySem.W.Frag.In.keeps hK k, c⟩
theorem obsVG_eq {n : Nat} {fa : List He.Fa} {cs : List (Str × U)} {fn : List He.DefD} {g : Addr → Option Obj} {s : Shared} (h : ∀ a, g a = s.heap.get? a) : obsVG n fa cs fn g = (hookV n fa cs fn).obs s := by
  have e : g = s.heap.get? := funext h
  rw [e]
  rfl
/-- what a law's defs lean on -/
structure Tx (fa : List He.Fa) (cs : List (Str × U)) (fn : List He.DefD) (K : PySem.W.Frag) (mg : Str → Option Value) : Prop where
  says : SaysV fa cs fn K
  at_ : ∃ h : Heap, K.In h ∧ h.Ns mainGlobals mg
section
variable {fa : List He.Fa} {cs : List (Str × U)} {fn : List He.DefD} {K : PySem.W.Frag} {mg : Str → Option Value}
theorem SaysV.parts (c : SaysV fa cs fn K) : (∀ f ∈ fa, He.Fa.ok K f = true) ∧ (∀ p ∈ cs, gB K p = true) ∧ ∀ d ∈ fn, He.DefD.ok K d = true ∧ dX K d = true := by
  have e : ((fa.all fun f => f.ok K) && ((cs.all fun p => gB K p) && fn.all fun d => d.ok K && dX K d)) = true := congrArg (fun z : He.AlD => z.1) c
  simp only [Bool.and_eq_true, List.all_eq_true] at e
  exact ⟨e.1, e.2.1, e.2.2⟩
theorem Tx.fact (T : Tx fa cs fn K mg) (i : Nat) {f : He.Fa} (h : fa[i]? = some f := by rfl) : f.ok K = true := T.says.parts.1 f (List.mem_of_getElem? h)
theorem Tx.glo (T : Tx fa cs fn K mg) (i : Nat) {x : Str} (h : fa[i]? = some (.glo x) := by rfl) : mg x = some (.ref (He.ga K x)) := by
  obtain ⟨hp, a, b⟩ := T.at_
  exact He.glo_ok a b (T.fact i h)
theorem Tx.free (T : Tx fa cs fn K mg) (i : Nat) {x : Str} (h : fa[i]? = some (.free x) := by rfl) : mg x = none := by
  obtain ⟨hp, a, b⟩ := T.at_
  exact He.free_ok a b (T.fact i h)
theorem Tx.cst (T : Tx fa cs fn K mg) (i : Nat) {x : Str} {u : U} (h : cs[i]? = some (x, u) := by rfl) : ∃ a v, mg x = some a ∧ RelV v a ∧ ∀ W H, RV K W H u v := by
  obtain ⟨hp, a, b⟩ := T.at_
  exact gB_ok a b (T.says.parts.2.1 _ (List.mem_of_getElem? h))
theorem Tx.fnM (T : Tx fa cs fn K mg) (i : Nat) {d : He.DefD} (h : fn[i]? = some d := by rfl) : Vi.fnM K d.at_ = d.val := by
  have c := T.says
  have e : fn.map (fun d => Vi.fnM K d.at_) = fn.map He.DefD.val := congrArg (fun z : He.AlD => z.2) c
  have e2 : (fn.map fun d => Vi.fnM K d.at_)[i]? = (fn.map He.DefD.val)[i]? := by rw [e]
  rw [List.getElem?_map, List.getElem?_map, h] at e2
  exact Option.some.inj e2
theorem Tx.def_ (T : Tx fa cs fn K mg) (i : Nat) {d : He.DefD} (h : fn[i]? = some d := by rfl) (hz : d.at_.2 = none := by rfl) : ∃ fd, FunD K d.name d.qual d.params d.body d.scope (d.dvs K) (d.kws K) (He.fAd K d.at_) fd := by
  have e := T.fnM i h
  unfold Vi.fnM at e
  rw [hz] at e
  exact He.DefD.funD e (T.says.parts.2.2 d (List.mem_of_getElem? h)).1
/-- a method -/
theorem Tx.meth_ (T : Tx fa cs fn K mg) (i : Nat) {d : He.DefD} {m : Str} (h : fn[i]? = some d := by rfl) (hz : d.at_.2 = some m := by rfl) : dX K d = true ∧ ∀ oc od fd osl, K.lookup (He.fAd K d.at_) = some ⟨oc, od, .func fd, osl⟩ →
    fd.name = d.name ∧ fd.qualname = d.qual ∧ fd.params = d.params ∧ fd.body = .stmts d.body ∧ fd.scope = d.scope ∧ fd.globals = mainGlobals ∧ fd.builtins = builtinsNs ∧ PySem.W.codeIn K fd.code d.qual = true := by
  have e := T.fnM i h
  have c := T.says.parts.2.2 d (List.mem_of_getElem? h)
  refine ⟨c.2, fun oc od fd osl hl => ?_⟩
  unfold Vi.fnM at e
  rw [hz] at e
  dsimp only at e
  unfold He.fnW He.DefD.val at e
  rw [hl] at e
  have c1 := c.1
  unfold He.DefD.ok at c1
  rw [hl] at c1
  simp only [Bool.and_eq_true] at c1
  simp only [Option.map_some, Option.some.injEq, Prod.mk.injEq] at e
  obtain ⟨e1, e2, e3, e4, e5, e6, _, e8⟩ := e
  exact ⟨e1, e2, e3, e4, e5, e6, e8, c1.2.1⟩
end
end Vi

/-! Vi10: raise, pop, two names at once. -/
namespace Vi
open PySem PySem.Spec PyProof.Rows L2
variable [WW]
@[simp] def uRaise (x : Str) : US := fun env h P => P.er ⟨x, none⟩ env h
section
variable {X : Cx} {L : Lx} {K : PySem.W.Frag}
theorem ws_raise {x m : Str} {j : Nat} {p p2 pos pos2 : Pos} (hc : X.calm = true) (tk : Takes X L.wx) (q : PySem.W.excIn X.K (L.ga x) He.veBase "ValueError.__new__" = true) (gC : X.mg x = some (.ref (L.ga x))) (kC : PySem.W.keepIn X.K (.ref (L.ga x)) = true)
    (r : Raises X (.ref (L.ga x))) (hg : Gl X x) (hdb : (x == ("__debug__" : Str)) = false := by decide) : WS X L (.Raise (some (.Call (.Name x p) [.Constant (.str m) j p2] [] pos)) none pos2) (uRaise x) := by
  refine PS.wk (ps_raise hc tk (pmk_own PySem.F.excBase_ValueError q gC kC r hg hdb)) fun D σ H ⟨W, env, h, P, S, ht, c⟩ => ?_
  exact c.er W ⟨x, none⟩ env h σ H _ none .refl S ⟨rfl, fun _ => rfl, fun f u e => by cases e⟩ ht
@[simp] def fPop : UMt := fun us args P => match args with
  | [] => (match us[us.length - 1]? with
    | some u => P u us.dropLast
    | none => False)
  | [.int i] => us.length ≤ sizeLine ∧ (match ixN us.length i with
    | some k => (match us[k]? with
      | some u => P u (us.eraseIdx k)
      | none => False)
    | none => False)
  | _ => False
theorem RVs.dropLast {W : Wd} {H : Hp} {us : List U} {vs : List V} (r : RVs K W H us vs) : RVs K W H us.dropLast vs.dropLast := by
  rw [List.dropLast_eq_take, List.dropLast_eq_take, r.length]
  exact r.take _
theorem RVs.erase {W : Wd} {H : Hp} : ∀ {us : List U} {vs : List V} (k : Nat), RVs K W H us vs → RVs K W H (us.eraseIdx k) (vs.eraseIdx k)
  | _, _, _, .nil => .nil
  | _, _, 0, .cons _ t => t
  | _, _, k + 1, .cons a t => .cons a (RVs.erase k t)
theorem mtU_pop : MtU X "list.pop" fPop := by
  intro pins s σ H x xs v us Q I rx rs q
  obtain ⟨K, W, as, args, a, ys, rfl, ea, rv, ra, P, hf, c⟩ := q
  unfold fPop at hf
  split at hf
  · cases ra
    split at hf
    · rename_i u eu
      obtain ⟨y, ey, ry⟩ := rv.get eu
      rw [rv.length] at ey
      exact mt_pop pins s σ H _ _ v us Q I rx rs ⟨a, ys, y, rfl, rfl, ea, ey, c _ _ _ _ ry rv.dropLast hf⟩
    · exact hf.elim
  · obtain ⟨y, rfl, ry⟩ := RVs.one ra
    cases ry.int_
    obtain ⟨hz, hf⟩ := hf
    split at hf
    · rename_i k ek
      split at hf
      · rename_i u eu
        obtain ⟨y, ey, ry⟩ := rv.get eu
        rw [rv.length] at ek hz
        obtain ⟨h1, h2, h3, h4⟩ := ixN_seq ek
        have hn := line63
        exact mt_popAt pins s σ H _ _ v us Q I rx rs ⟨a, ys, _, k, y, rfl, rfl, ea, by omega, by omega, h1, ey, c _ _ _ _ ry (rv.erase k) hf⟩
      · exact hf.elim
    · exact hf.elim
  · exact hf.elim
/-- a, b = x, y with plain local names -/
@[simp] def uPar2 (i j : Nat) (t : UA) : US := fun env h P => t env h (fun us env1 h1 => match us with
  | [u, w] => i < env1.length ∧ j < env1.length ∧ P.nx ((env1.set i (some (.val u))).set j (some (.val w))) h1
  | _ => False) P.er
theorem ws_par2 {i j : Nat} {s : Stmt} {t : UA} (hp : PS X s (tPar i j (lg L (RA L) t))) : WS X L s (uPar2 i j t) := by
  refine PS.wk hp fun D σ H ⟨W, env, h, P, S, ht, c⟩ => ?_
  refine ⟨W, env, h, _, _, S, ht, ⟨fun W1 us env1 h1 vs H1 l1 S1 r1 q1 => ?_, c.ret.er⟩⟩
  split at q1
  · obtain ⟨v, w, rfl, rv, rw_⟩ := RVs.two r1
    refine ⟨v, w, rfl, c.nx W1 _ h1 _ H1 l1 ((S1.store q1.1 rv).store (by simpa using q1.2.1) rw_) q1.2.2⟩
  · exact q1.elim
theorem vals_getD {us : List Value} {vs : List V} (r : Vals vs us) (i : Nat) : RelV (vs.getD i .non) (us.getD i .none) := by
  cases e : vs[i]? with
  | none =>
    have e2 := Vals.none_of r e
    rw [List.getD_eq_getElem?_getD, List.getD_eq_getElem?_getD, e, e2]
    rfl
  | some v =>
    obtain ⟨u, eu, ru⟩ := Vals.get r e
    rw [List.getD_eq_getElem?_getD, List.getD_eq_getElem?_getD, e, eu]
    exact ru
theorem rvs_getD {W : Wd} {H : Hp} {us : List U} {vs : List V} (r : RVs K W H us vs) (i : Nat) : RV K W H (us.getD i .non) (vs.getD i .non) := by
  cases e : us[i]? with
  | none =>
    have e2 : vs[i]? = none := by
      rw [List.getElem?_eq_none_iff] at e ⊢
      rw [← r.length]
      exact e
    rw [List.getD_eq_getElem?_getD, List.getD_eq_getElem?_getD, e, e2]
    exact .non
  | some v =>
    obtain ⟨u, eu, ru⟩ := r.get e
    rw [List.getD_eq_getElem?_getD, List.getD_eq_getElem?_getD, e, eu]
    exact ru
end
end Vi

/-! Vi11: facts for simp. -/
namespace Vi
open PySem PySem.Spec PyProof.Rows L2
variable [WW]
theorem flatUs_strs : ∀ l : List Str, flatUs (l.map U.str) = some (l.map V.str)
  | [] => rfl
  | x :: l => by simp [flatUs, flatU, flatUs_strs l]
theorem inV_strs (x : Str) : ∀ l : List Str, inV (.str x) (l.map V.str) = decide (x ∈ l)
  | [] => rfl
  | y :: l => by
    have ih := inV_strs x l
    unfold inV at ih ⊢
    rw [List.map_cons, List.any_cons, ih]
    by_cases h : y = x
    · subst h; simp [eqV]
    · have h' : ¬ x = y := fun z => h z.symm
      simp [eqV, h, h']
theorem inU_tup (x : Str) (l : List Str) : inU? (.str x) (.tup (l.map U.str)) = some (decide (x ∈ l)) := by
  unfold inU?
  simp only [flatU, seqU, Option.bind_some, flatUs_strs, inV_strs]
theorem inU_lst (x : Str) (l : List Str) : inU? (.str x) (.lst (l.map U.str)) = some (decide (x ∈ l)) := by
  unfold inU?
  simp only [flatU, seqU, Option.bind_some, flatUs_strs, inV_strs]
@[simp] theorem eqU_str (x y : Str) : eqU? (.str x) (.str y) = some (decide (x = y)) := rfl
@[simp] theorem eqU_int (x y : Int) : eqU? (.int x) (.int y) = some (decide (x = y)) := rfl
@[simp] theorem eqU_bl (x y : Bool) : eqU? (.bl x) (.bl y) = some (decide (x = y)) := rfl
end Vi

/-! Vi12: values that repr shows within its limits. -/
namespace Vi
open PySem PySem.Spec PyProof.Rows L2
variable [WW]
/-- data whose text has at most n signs, at most k deep -/
def ShB (u : U) (n k : Nat) : Prop := ∃ d, toD u = some d ∧ d.showable = true ∧ d.hasDict = false ∧ d.depth ≤ k ∧ d.shown.length ≤ n
def ShBs (us : List U) (n k : Nat) : Prop := ∃ ds, toDs us = some ds ∧ PyData.showableAll ds = true ∧ PyData.hasDictAll ds = false ∧ PyData.depthAll ds ≤ k ∧ ds.length = us.length ∧ ((PyData.shownAll ds).map (·.length)).sum ≤ n * us.length ∧ (PyData.shownAll ds).length = us.length
theorem ShB.some {u : U} {n k : Nat} (h : ShB u n k) (hn : n ≤ sizeLine) (hk : k ≤ 60) : ∃ x, reprU u = some x := by
  obtain ⟨d, e, h1, h2, h3, h4⟩ := h
  refine ⟨d.shown, ?_⟩
  unfold reprU
  rw [e]
  have a : d.depth ≤ 60 := by omega
  have b : d.shown.length ≤ sizeLine := by omega
  simp [h1, h2, a, b]
theorem ShB.mono {u : U} {n k n' k' : Nat} (h : ShB u n k) (hn : n ≤ n') (hk : k ≤ k') : ShB u n' k' := by
  obtain ⟨d, e, h1, h2, h3, h4⟩ := h
  exact ⟨d, e, h1, h2, by omega, by omega⟩
theorem sh_str {x : Str} {n : Nat} (h : (reprText x).length ≤ n) : ShB (.str x) n 0 := ⟨.str x, rfl, rfl, rfl, Nat.le_refl _, h⟩
theorem sh_bl {b : Bool} : ShB (.bl b) 5 0 := ⟨.bool b, rfl, rfl, rfl, Nat.le_refl _, by cases b <;> decide⟩
theorem sh_non : ShB .non 5 0 := ⟨.none, rfl, rfl, rfl, Nat.le_refl _, by decide⟩
theorem sh_int {i : Int} {k : Nat} (hk : k ≤ 1919) (h : i.natAbs.log2 ≤ k) : ShB (.int i) (k + 2) 0 := by
  refine ⟨.int i, rfl, ?_, rfl, Nat.le_refl _, ?_⟩
  · simp only [PyData.showable, decide_eq_true_eq]; omega
  · have e := int_text_length_le (a := i) (k := k + 1) (by omega) (by omega)
    show (PySem.Str.ofString (toString i)).length ≤ _
    rw [PySem.ofString_length]
    omega
theorem shs_of {n k : Nat} : ∀ {us : List U}, (∀ u ∈ us, ShB u n k) → ShBs us n k
  | [], _ => ⟨[], rfl, rfl, rfl, Nat.zero_le _, rfl, by simp [PyData.shownAll], rfl⟩
  | u :: us, h => by
    obtain ⟨d, e, h1, h2, h3, h4⟩ := h u (List.mem_cons_self ..)
    obtain ⟨ds, es, g1, g2, g3, g4, g5, g6⟩ := shs_of (us := us) fun w hw => h w (List.mem_cons_of_mem _ hw)
    refine ⟨d :: ds, ?_, ?_, ?_, ?_, ?_, ?_, ?_⟩
    · simp only [toDs, e, es]
    · simp only [PyData.showableAll, h1, g1, Bool.and_self]
    · simp only [PyData.hasDictAll, h2, g2, Bool.or_self]
    · simp only [PyData.depthAll]; omega
    · simp [g4]
    · simp only [PyData.shownAll, List.map_cons, List.sum_cons, List.length_cons, Nat.mul_add, Nat.mul_one]; omega
    · simp [PyData.shownAll, g6]
theorem ShBs.tup {us : List U} {n k : Nat} (h : ShBs us n k) : ShB (.tup us) ((n + 2) * us.length + 3) (k + 1) := by
  obtain ⟨ds, es, g1, g2, g3, g4, g5, g6⟩ := h
  refine ⟨.tuple ds, ?_, g1, g2, ?_, ?_⟩
  · simp only [toD, es, Option.map_some]
  · simp only [PyData.depth]; omega
  · simp only [PyData.shown]
    have e := tupleText_len_le (PyData.shownAll ds)
    rw [g6] at e
    rw [Nat.add_mul]; omega
theorem ShBs.lst {us : List U} {n k : Nat} (h : ShBs us n k) : ShB (.lst us) ((n + 2) * us.length + 3) (k + 1) := by
  obtain ⟨ds, es, g1, g2, g3, g4, g5, g6⟩ := h
  refine ⟨.list ds, ?_, g1, g2, ?_, ?_⟩
  · simp only [toD, es, Option.map_some]
  · simp only [PyData.depth]; omega
  · simp only [PyData.shown]
    have e := listText_len_le (PyData.shownAll ds)
    rw [g6] at e
    rw [Nat.add_mul]; omega
end Vi

/-! Vi13: loops with an invariant, the pot, bounds of bits. -/
namespace Vi
open PySem PySem.Spec PyProof.Rows L2
variable [WW]
theorem forU_inv {g : UG} {b : US} {P : UD} (I : En → Hv → Prop) (last : ∀ e h, I e h → P.nx e h) : ∀ (l : List U), (∀ u ∈ l, ∀ e h F, I e h → (∀ e h, I e h → F e h) → g u e h fun e1 h1 => b e1 h1 { nx := F, rt := P.rt, er := P.er, bk := P.nx, ct := F }) → ∀ e h, I e h → forU g b P l e h
  | [], _, e, h, i => last e h i
  | u :: us, st, e, h, i => st u (List.mem_cons_self ..) e h _ i fun e1 h1 i1 => forU_inv I last us (fun w hw => st w (List.mem_cons_of_mem _ hw)) e1 h1 i1
/-- .. the invariant with the place -/
theorem forU_ix' {g : UG} {b : US} {P : UD} (I : Nat → En → Hv → Prop) : ∀ (l : List U) (k : Nat), (∀ e h, I (k + l.length) e h → P.nx e h) → (∀ j u, l[j]? = some u → ∀ e h F, I (k + j) e h → (∀ e h, I (k + j + 1) e h → F e h) → g u e h fun e1 h1 => b e1 h1 { nx := F, rt := P.rt, er := P.er, bk := P.nx, ct := F }) → ∀ e h, I k e h → forU g b P l e h
  | [], k, last, _, e, h, i => last e h (by simpa using i)
  | u :: us, k, last, st, e, h, i => by
    refine st 0 u (by simp) e h _ (by simpa using i) fun e1 h1 i1 => ?_
    refine forU_ix' I us (k + 1) (fun e h i => last e h ?_) (fun j w hw e h F i0 hF => st (j + 1) w (by simpa using hw) e h F ?_ fun e h i2 => hF e h ?_) e1 h1 (by simpa using i1)
    · rw [List.length_cons, show k + (us.length + 1) = k + 1 + us.length by omega]; exact i
    · rw [show k + (j + 1) = k + 1 + j by omega]; exact i0
    · rw [show k + 1 + j + 1 = k + (j + 1) + 1 by omega]; exact i2
theorem forU_ix {g : UG} {b : US} {P : UD} (I : Nat → En → Hv → Prop) {l : List U} (last : ∀ e h, I l.length e h → P.nx e h) (st : ∀ j u, l[j]? = some u → ∀ e h F, I j e h → (∀ e h, I (j + 1) e h → F e h) → g u e h fun e1 h1 => b e1 h1 { nx := F, rt := P.rt, er := P.er, bk := P.nx, ct := F }) {e : En} {h : Hv} (i : I 0 e h) : forU g b P l e h :=
  forU_ix' I l 0 (fun e h i => last e h (by simpa using i)) (fun j u hu e h F i0 hF => st j u hu e h F (by simpa using i0) fun e h i1 => hF e h (by simpa using i1)) e h i
/-- a comprehension: what holds of each item, what is kept; as many as walked -/
theorem compU_inv {g : UG} {tt : UT} {te : UE} {vs : List Nat} {Po : List U → En → Hv → Prop} (I : List U → En → Hv → Prop) (last : ∀ acc e h, I acc e h → Po acc e h) : ∀ (l : List U), (∀ u ∈ l, ∀ acc e h (F : List U → En → Hv → Prop), I acc e h → (∀ acc e h, I acc e h → F acc e h) → g u e h fun env1 h1 => tt env1 h1 (fun b env2 h2 => if b = true then te env2 h2 (fun sv env3 h3 => acc.length < sizeLine ∧ F (acc ++ [sv.u]) (wipeE env3 vs) h3) noEx else F acc (wipeE env2 vs) h2) noEx) → ∀ acc e h, I acc e h → compU g tt te vs Po l acc e h
  | [], _, acc, e, h, i => last acc e h i
  | u :: us, st, acc, e, h, i => st u (List.mem_cons_self ..) acc e h _ i fun a1 e1 h1 i1 => compU_inv I last us (fun w hw => st w (List.mem_cons_of_mem _ hw)) a1 e1 h1 i1
theorem compU_ix' {g : UG} {tt : UT} {te : UE} {vs : List Nat} {Po : List U → En → Hv → Prop} (I : Nat → List U → En → Hv → Prop) : ∀ (l : List U) (k : Nat), (∀ acc e h, I (k + l.length) acc e h → Po acc e h) → (∀ j u, l[j]? = some u → ∀ acc e h (F : List U → En → Hv → Prop), I (k + j) acc e h → (∀ acc e h, I (k + j + 1) acc e h → F acc e h) → g u e h fun env1 h1 => tt env1 h1 (fun b env2 h2 => if b = true then te env2 h2 (fun sv env3 h3 => acc.length < sizeLine ∧ F (acc ++ [sv.u]) (wipeE env3 vs) h3) noEx else F acc (wipeE env2 vs) h2) noEx) → ∀ acc e h, I k acc e h → compU g tt te vs Po l acc e h
  | [], k, last, _, acc, e, h, i => last acc e h (by simpa using i)
  | u :: us, k, last, st, acc, e, h, i => by
    refine st 0 u (by simp) acc e h _ (by simpa using i) fun a1 e1 h1 i1 => ?_
    refine compU_ix' I us (k + 1) (fun a e h i => last a e h ?_) (fun j w hw a e h F i0 hF => st (j + 1) w (by simpa using hw) a e h F ?_ fun a e h i2 => hF a e h ?_) a1 e1 h1 (by simpa using i1)
    · rw [List.length_cons, show k + (us.length + 1) = k + 1 + us.length by omega]; exact i
    · rw [show k + (j + 1) = k + 1 + j by omega]; exact i0
    · rw [show k + 1 + j + 1 = k + (j + 1) + 1 by omega]; exact i2
theorem compU_ix {g : UG} {tt : UT} {te : UE} {vs : List Nat} {Po : List U → En → Hv → Prop} (I : Nat → List U → En → Hv → Prop) {l : List U} (last : ∀ acc e h, I l.length acc e h → Po acc e h) (st : ∀ j u, l[j]? = some u → ∀ acc e h (F : List U → En → Hv → Prop), I j acc e h → (∀ acc e h, I (j + 1) acc e h → F acc e h) → g u e h fun env1 h1 => tt env1 h1 (fun b env2 h2 => if b = true then te env2 h2 (fun sv env3 h3 => acc.length < sizeLine ∧ F (acc ++ [sv.u]) (wipeE env3 vs) h3) noEx else F acc (wipeE env2 vs) h2) noEx) {acc : List U} {e : En} {h : Hv} (i : I 0 acc e h) : compU g tt te vs Po l acc e h :=
  compU_ix' I l 0 (fun a e h i => last a e h (by simpa using i)) (fun j u hu a e h F i0 hF => st j u hu a e h F (by simpa using i0) fun a e h i1 => hF a e h (by simpa using i1)) acc e h i
theorem rangeU_len (lo : Int) (n : Nat) : (rangeU lo n).length = n := by simp [rangeU]
theorem rangeU_at {lo : Int} {n j : Nat} {u : U} (h : (rangeU lo n)[j]? = some u) : j < n ∧ u = .int (lo + j) := by
  unfold rangeU at h
  rw [List.getElem?_map] at h
  by_cases hj : j < n
  · rw [List.getElem?_range hj] at h
    exact ⟨hj, by simpa using h.symm⟩
  · rw [List.getElem?_eq_none (by simpa using hj)] at h
    cases h
/-! ### bits -/
def LB (i : Int) (k : Nat) : Prop := i.natAbs < 2 ^ k
theorem LB.mul {i j : Int} {k m : Nat} (a : LB i k) (b : LB j m) : LB (i * j) (k + m) := by
  unfold LB at *
  rw [Int.natAbs_mul, Nat.pow_add]
  rcases Nat.eq_zero_or_pos j.natAbs with z | z
  · rw [z, Nat.mul_zero]; exact Nat.mul_pos (Nat.two_pow_pos _) (Nat.two_pow_pos _)
  · exact Nat.lt_of_lt_of_le (Nat.mul_lt_mul_of_pos_right a z) (Nat.mul_le_mul_left _ (Nat.le_of_lt b))
theorem LB.add {i j : Int} {k : Nat} (a : LB i k) (b : LB j k) : LB (i + j) (k + 1) := by
  unfold LB at *
  have := Int.natAbs_add_le i j
  rw [Nat.pow_succ]; omega
theorem LB.mono {i : Int} {k m : Nat} (a : LB i k) (h : k ≤ m) : LB i m := Nat.lt_of_lt_of_le a (Nat.pow_le_pow_right (by decide) h)
theorem LB.log {i : Int} {k : Nat} (a : LB i k) : i.natAbs.log2 ≤ k := by
  unfold LB at a
  by_cases z : i.natAbs = 0
  · rw [z]; simp
  · exact Nat.le_of_lt ((Nat.log2_lt z).mpr a)
theorem cmul_l {i j : Int} (h : -(2 ^ 64) < i ∧ i < 2 ^ 64) : CMul i j ∨ CMulW i j := .inl (.inl h)
theorem cmul_r {i j : Int} (h : -(2 ^ 64) < j ∧ j < 2 ^ 64) : CMul i j ∨ CMulW i j := .inl (.inr h)
theorem cmul_w {i j : Int} {k m : Nat} (a : LB i k) (b : LB j m) (h : k + m < 1000000) : CMul i j ∨ CMulW i j := by
  have := a.log; have := b.log
  exact .inr (show i.natAbs.log2 + j.natAbs.log2 < 1000000 by omega)
/-! ### the pot -/
/-- at i stands a pot that was drawn from at most k times -/
def PotAt (h : Hv) (i k : Nat) : Prop := ∃ a b n : Int, h[i]? = some (.lst [.int a, .int b, .int n]) ∧ 0 ≤ b ∧ b < 2 ^ 60 ∧ 0 ≤ n ∧ n ≤ k
theorem PotAt.mono {h : Hv} {i k m : Nat} (p : PotAt h i k) (hk : k ≤ m) : PotAt h i m := by
  obtain ⟨a, b, n, e, h1, h2, h3, h4⟩ := p
  exact ⟨a, b, n, e, h1, h2, h3, by omega⟩
/-- the rest of the heap stays -/
def Rest (i : Nat) (h h' : Hv) : Prop := h'.length = h.length ∧ ∀ j, j ≠ i → h'[j]? = h[j]?
theorem Rest.refl {i : Nat} {h : Hv} : Rest i h h := ⟨rfl, fun _ _ => rfl⟩
theorem Rest.trans {i : Nat} {h h1 h2 : Hv} (a : Rest i h h1) (b : Rest i h1 h2) : Rest i h h2 := ⟨b.1.trans a.1, fun j hj => (b.2 j hj).trans (a.2 j hj)⟩
theorem Rest.set {i : Nat} {h : Hv} {o : Ob} : Rest i h (h.set i o) := ⟨List.length_set, fun j hj => List.getElem?_set_ne (fun z => hj z.symm)⟩
theorem obL_of {h : Hv} {i : Nat} {us : List U} (e : h[i]? = some (.lst us)) : obL h i = some us := by unfold obL; rw [e]
theorem lt_of_at {h : Hv} {i : Nat} {o : Ob} (e : h[i]? = some o) : i < h.length := (List.getElem?_eq_some_iff.mp e).1
theorem obL_set {h : Hv} {i : Nat} {us : List U} (e : i < h.length) : obL (h.set i (.lst us)) i = some us := obL_of (by rw [List.getElem?_set_self e])
end Vi

/-! Vi14: an error object made as a value. -/
namespace Vi
open PySem PySem.Spec PyProof.Rows L2
variable [WW]
@[simp] def uErr (x m : Str) : UE := fun env h Po _ => Po (.val (.err x (some m))) env h
section
variable {X : Cx} {L : Lx}
/-- a new thing at a free place, tracked -/
theorem hok_new {P : Program} {w : World} {H : Hp} {h h' : Heap} {a : Addr} {o : HO} (x : HOk P w H h) (k : ∀ b u, h.get? b = some u → h'.get? b = some u) (hn : H a = none) (new : ObjOk P w (upd H a o) h' a o) : HOk P w (upd H a o) h' := by
  intro b u e
  by_cases hb : b = a
  · subst hb
    rw [upd_same] at e
    cases e
    exact new
  · rw [upd_ne hb] at e
    refine (x b u e).stay (fun c v _ q => k c v q) (fun c q => ?_) (fun c xs q => ?_)
    · rw [upd_ne (ne_of_none q hn)]; exact q
    · rw [upd_ne (ne_of_none q hn)]; exact q
theorem un_new {fs ex : List Addr} {H : Hp} {h h' : Heap} {a : Addr} {o : HO} (k : ∀ b u, h.get? b = some u → h'.get? b = some u) (hg : h.get? a = none) (hn : H a = none) : Un fs ex H (upd H a o) h h' where
  keep := fun b ob e _ _ _ => k b ob e
  slot := fun b ob e _ _ => fun _ => ⟨ob.slots, k b ob e⟩
  free := fun b ob e n _ => by
    rw [upd_ne (fun z => by subst z; rw [hg] at e; cases e)]
    exact n
  there := fun b ob e _ => ⟨ob, k b ob e⟩
  tups := fun b xs e => by rw [upd_ne (ne_of_none e hn)]; exact e
  frzs := fun b ob z e => by rw [upd_ne (ne_of_none e hn)]; exact e
  tbls := fun b ps e => ⟨#[], by rw [upd_ne (ne_of_none e hn), e]; simp⟩
/-- two new things -/
theorem un_new2 {fs ex : List Addr} {H : Hp} {h h' : Heap} {a b : Addr} {o p : HO} (k : ∀ c u, h.get? c = some u → h'.get? c = some u) (hg : h.get? a = none) (hn : H a = none) (hg2 : h.get? b = none) (hn2 : H b = none) : Un fs ex H (upd (upd H a o) b p) h h' where
  keep := fun c ob e _ _ _ => k c ob e
  slot := fun c ob e _ _ => fun _ => ⟨ob.slots, k c ob e⟩
  free := fun c ob e n _ => by
    rw [upd_ne (fun z => by subst z; rw [hg2] at e; cases e), upd_ne (fun z => by subst z; rw [hg] at e; cases e)]
    exact n
  there := fun c ob e _ => ⟨ob, k c ob e⟩
  tups := fun c xs e => by rw [upd_ne (ne_of_none e hn2), upd_ne (ne_of_none e hn)]; exact e
  frzs := fun c ob z e => by rw [upd_ne (ne_of_none e hn2), upd_ne (ne_of_none e hn)]; exact e
  tbls := fun c ps e => ⟨#[], by rw [upd_ne (ne_of_none e hn2), upd_ne (ne_of_none e hn), e]; simp⟩
theorem we_err {x m : Str} {j : Nat} {p p2 pos : Pos} (q : eclB X.K x = true) (hK : L.K = X.K) (gC : X.mg x = some (.ref (He.ga X.K x))) (hg : Gl X x) (hdb : (x == ("__debug__" : Str)) = false := by decide) : WE X L (.Call (.Name x p) [.Constant (.str m) j p2] [] pos) (uErr x m) := by
  obtain ⟨c0, _, _⟩ := eclB_ok q
  obtain ⟨c1, c2, c3, c4⟩ := He.exc_ok c0
  refine ⟨fun pins s σ H Q I ht => ?_⟩
  refine wpAny_Call_Name_kw (ld_glob I hg gC ?_ hdb)
  have ha : PA X [.Constant (.str m) j p2] (tCons (tC (.str m)) tNil) := pa_cons pe_str pa_nil
  refine PySem.W.callWith_K (h₀ := X.base) I.ok.mod.kin c2 (thn (ha.run pos pins s σ H (fun vs H1 => vs = [V.str m] ∧ H = H1) I ⟨rfl, rfl⟩) fun us s1 hh => ?_)
  obtain ⟨vs, H1, I1, r1, ev, eH⟩ := hh
  subst ev
  rw [← eH] at I1
  refine ⟨I1.kIn, ?_⟩
  cases r1 with
  | cons ru rn =>
    rename_i u us'
    cases rn
    show wpAny _ _ (call (.ref _) [u]) _ _ _
    obtain ⟨bm, N, nm, qn, bs, hdct, sn, sub, ab, col, dd, k0, k1, k2, k3, k5, mN, hC, hN, hni, T⟩ := exc_obj I1.kIn c1
    refine wpAny_call_exc_subT PySem.F.excBase_ValueError T hC hN hni (fun h' e hm => ?_) (by show 1 ≤ sizeLine; rw [sizeLine_eq]; omega)
    obtain ⟨kp, nw, t, he, nt, hT⟩ := hm
    obtain ⟨W, env, h, Po, Pe, S, ht, c⟩ := ht
    have ne : H e = none := I1.hok.gone nw
    have nH : H t = none := I1.hok.gone nt
    have key : ∃ oe ot : Obj, h'.get? e = some oe ∧ h'.get? t = some ot ∧ oe.cls = .ref (He.ga X.K x) ∧ oe.dict = none ∧ (∃ vs, oe.data = .fields vs ∧ vs[0]? = some (.ref t)) ∧ ot.cls = .type "tuple" ∧ ∃ n, ot.data = .seq [u].toArray n := ⟨_, _, he, hT, rfl, rfl, ⟨_, rfl, rfl⟩, rfl, _, rfl⟩
    obtain ⟨oe, ot, he2, hT2, z1, z2, ⟨vs, z3, z4⟩, z5, n, z6⟩ := key
    have et : e ≠ t := fun z => by
      subst z
      rw [← Option.some.inj (he2.symm.trans hT2), z1] at z5
      cases z5
    have S1 : Sim L.K W env h σ (upd H t (.frz ot (.tup [V.str m]))) := S.none_ nH _
    have l1 : LeW W H W (upd H t (.frz ot (.tup [V.str m]))) := .none_ S.sh nH _
    have ne' : (upd H t (.frz ot (.tup [V.str m]))) e = none := by rw [upd_ne et]; exact ne
    have l2 : LeW W (upd H t (.frz ot (.tup [V.str m]))) W (upd (upd H t (.frz ot (.tup [V.str m]))) e (.frz oe (.own e))) := .none_ S1.sh ne' _
    have S2 : Sim L.K W env h σ (upd (upd H t (.frz ot (.tup [V.str m]))) e (.frz oe (.own e))) := S1.none_ ne' _
    have k1 : HOk X.prog X.w (upd H t (.frz ot (.tup [V.str m]))) h' := hok_new I1.hok kp nH (show ObjOk _ _ _ _ _ (.frz ot _) from by
      rw [show upd H t (.frz ot (.tup [V.str m])) = upd H t (.frz ot (.tup [V.str m])) from rfl]
      exact ⟨hT2, by show 1 ≤ sizeLine; rw [sizeLine_eq]; omega, [u], .cons ru .nil, ⟨ot, hT2, z5, n, z6⟩⟩)
    have k2 : HOk X.prog X.w (upd (upd H t (.frz ot (.tup [V.str m]))) e (.frz oe (.own e))) h' := hok_new k1 (fun _ _ q => q) ne' ⟨he2, oe, he2⟩
    refine ⟨.ref e, _, I1.call' (ch := []) (s' := { s1 with heap := h' }) rfl (un_new2 kp nt nH nw ne) k2 I1.bare (fun _ z => by cases z), rfl, ?_⟩
    refine c.ok W (.val (.err x (some m))) env h _ _ (l1.trans l2) S2 (.err ⟨oe, vs, upd_same, by rw [hK]; exact z1, z2, z3, fun t' e' => by
      cases e'
      exact ⟨t, ot, z4, by rw [upd_ne (Ne.symm et)]; exact upd_same⟩⟩ (by rw [hK]; exact q)) ht
end
@[simp] def uChn (f g : UO) (a b c : UE) : UE := fun env h Po Pe => a env h (fun x env1 h1 => b env1 h1 (fun y env2 h2 => f x.u y.u h2 (fun sv h3 => svB sv fun k => if k = true then c env2 h3 (fun z env4 h4 => g y.u z.u h4 (fun sv h5 => Po sv env4 h5)) Pe else Po (.val (.bl false)) env2 h3)) Pe) Pe
section
variable {X : Cx} {L : Lx} {pos : Pos} {a b c : Expr} {ta tb tc : UE} {f g : UO}
theorem lg_chn {σ : L2.St} {H : Hp} {Q : VK} (h : lg L (RT L) (uChn f g ta tb tc) σ H Q) : tChain (lo L.K f) (lo L.K g) (lg L (RT L) ta) (lg L (RT L) tb) (lg L (RT L) tc) σ H Q := by
  obtain ⟨W, env, h, Po, Pe, S, ht, c⟩ := h
  refine ⟨W, env, h, _, _, S, ht, ⟨fun W1 x env1 h1 v1 H1 l1 S1 r1 q1 => ?_, c.er⟩⟩
  obtain ⟨W1', S1', l1', rv1⟩ := S1.freeze r1
  have c1 := c.le (l1.trans l1')
  refine ⟨W1', env1, h1, _, _, S1', q1, ⟨fun W2 y env2 h2 v2 H2 l2 S2 r2 q2 => ?_, c1.er⟩⟩
  obtain ⟨W2', S2', l2', rv2⟩ := S2.freeze r2
  have c2 := c1.le (l2.trans l2')
  refine ⟨W2', env2, h2, σ, x.u, y.u, _, S2', rv1.le (l2.trans l2').toLeP, rv2, q2, fun W3 sv h3 v3 H3 l3 S3 r3 q3 => ?_⟩
  obtain ⟨k, rfl, q4⟩ := q3.at_ r3
  refine ⟨k, rfl, ?_⟩
  have c3 := c2.le l3
  cases k with
  | false => exact c3.ok W3 (.val (.bl false)) env2 h3 _ H3 .refl S3 (.bl _) q4
  | true =>
    refine ⟨W3, env2, h3, _, _, S3, q4, ⟨fun W4 z env4 h4 v4 H4 l4 S4 r4 q5 => ?_, c3.er⟩⟩
    obtain ⟨W4', S4', l4', rv4⟩ := S4.freeze r4
    have c4 := c3.le (l4.trans l4')
    exact ⟨W4', env4, h4, σ, y.u, z.u, _, S4', rv2.le (l3.trans (l4.trans l4')).toLeP, rv4, q5, fun W5 sv h5 v5 H5 l5 S5 r5 q6 => c4.ok W5 sv env4 h5 v5 H5 l5 S5 r5 q6⟩
theorem we_chn {o o' : CmpOp} (ho : OpR X (compareOp o) (lo L.K f)) (hg : OpR X (compareOp o') (lo L.K g)) (ha : WE X L a ta) (hb : WE X L b tb) (hc : WE X L c tc)
    (hm : lastMarks [o, o'] [b, c] = false := by with_unfolding_all rfl) : WE X L (.Compare a [o, o'] [b, c] pos) (uChn f g ta tb tc) :=
  PE.wk (pe_chain ho hg ha hb hc hm) fun _ _ _ => lg_chn
theorem wt_chn {o o' : CmpOp} (ho : OpR X (compareOp o) (lo L.K f)) (hg : OpR X (compareOp o') (lo L.K g)) (ha : WE X L a ta) (hb : WE X L b tb) (hc : WE X L c tc)
    (hm : lastMarks [o, o'] [b, c] = false := by with_unfolding_all rfl) : WT X L (.Compare a [o, o'] [b, c] pos) (uB (uChn f g ta tb tc)) :=
  PT.wk (pt_chain ho hg ha hb hc hm) fun _ _ _ h => lg_chn (lg_B h)
end
theorem Tx.ecl {fa : List He.Fa} {cs : List (Str × U)} {fn : List He.DefD} {K : PySem.W.Frag} {mg : Str → Option Value} (T : Tx fa cs fn K mg) (i : Nat) {x : Str} (h : cs[i]? = some (x, .ecl x) := by rfl) : eclB K x = true ∧ mg x = some (.ref (He.ga K x)) := by
  obtain ⟨a, v, m, r, rr⟩ := T.cst i h
  have z := rr ⟨fun _ => none, []⟩ (fun _ => none)
  cases z with
  | ecl e c =>
    subst e
    exact ⟨c, by rw [m, (show a = .ref _ from r)]⟩
end Vi

/-! Vi15: divmod, the first place of a value in a list, lists of ints. -/
namespace Vi
open PySem PySem.Spec PyProof.Rows L2
variable [WW]
@[simp] def bDivmod : UB := fun us h P => match us with
  | [.int i, .int j] => CDiv i j ∧ P (.val (.tup [.int (i / j), .int (i % j)])) h
  | _ => False
theorem call_divmodU {X : Cx} {K : PySem.W.Frag} (hK : K = X.K) : CallR X (.builtin "divmod") (lb K bDivmod) := by
  refine CallR.wk call_divF fun xs H Q ⟨W, env, h, σ, us, P, S, r, ht, c⟩ => ?_
  unfold bDivmod at ht
  split at ht
  · obtain ⟨v, w, rfl, ru, rw_⟩ := RVs.two r
    cases ru
    cases rw_
    exact ⟨_, _, rfl, ht.1, c.tup S (.cons (.int _) (.cons (.int _) .nil)) ht.2⟩
  · exact ht.elim
/-- x.index(e), x a name of a list that stays -/
@[simp] def uIdx (k : Nat) (r : UA) : UE := fun env h Po Pe => ∃ us vs, env[k]? = some (some (.val (.lst us))) ∧ flatUs us = some vs ∧ r env h (fun args env1 h1 => match args with
  | [u] => ∃ v j z, flatU u = some v ∧ vs[j]? = some z ∧ eqV z v = true ∧ (∀ (m : Nat) (z' : V), m < j → vs[m]? = some z' → eqV z' v = false) ∧ Po (.val (.int (j : Nat))) env1 h1
  | _ => False) Pe
theorem we_idx {X : Cx} {L : Lx} {k : Nat} {e : Expr} {x : Str} {p apos cpos : Pos} {r : UA} (hK : L.K = X.K)
    (hx : PE X (.Name x p) (tVar k)) (hA : WA X L [e] r)
    (hbase : attributeBase (.Name x p) "index" X.env (eval (.Name x p) X.env) = eval (.Name x p) X.env := by rfl)
    (hfew : ((backTo cpos (starEach [e] X.env)).all (fun x => !x.1) && (backToKw cpos (keywordEach [] X.env)).all (fun x => x.1.isSome) && decide ([e].length + ([] : List Keyword).length + (if ([] : List Keyword).isEmpty then 0 else 1) < 30)) = true := by rfl)
    (hline : (apos.endLine == cpos.line) = true := by rfl) (hs : starEach [e] X.env = (false, eval e X.env) :: starEach [] X.env := by rfl) (hplain : (backTo cpos (starEach [] X.env)).any (·.1) = false := by rfl) :
    WE X L (.Call (.Attribute (.Name x p) "index" apos) [e] [] cpos) (uIdx k r) := by
  refine PE.wk (pe_bm PySem.F.plainAttrs_list PySem.F.slot_list_index PySem.F.type_list_index mt_index hx hA hbase hfew hline hs hplain) fun σ H Q ⟨W, env, h, Po, Pe, S, ⟨us, vs, e0, ef, ht⟩, c⟩ => ?_
  obtain ⟨v, ev, rv⟩ := S.slots k _ e0
  have rv' : RV L.K W H (.lst us) v := rv
  cases rv' with
  | lst n ea rs =>
    rename_i a ws
    obtain ⟨e1, e2⟩ := rs.flat ef
    subst e1
    refine ⟨_, ev, .inl ⟨rfl, ws, .inl (.inl ea)⟩, W, env, h, _, _, S, ht, ⟨fun W1 args env1 h1 avs H1 l1 S1 r1 q1 => ?_, c.er⟩⟩
    split at q1
    · obtain ⟨y, rfl, ry⟩ := RVs.one r1
      obtain ⟨vv, j, z, f1, f2, f3, f4, f5⟩ := q1
      obtain ⟨g1, g2⟩ := ry.flat f1
      subst g1
      have ea1 := (l1.toLeP.frl ea n).2
      exact ⟨a, ws, y, j, z, rfl, rfl, .inl (.inl ea1), g2, e2, f2, f3, f4, c.ok W1 (.val (.int j)) env1 h1 _ H1 l1 S1 (.int _) f5⟩
    · exact q1.elim
/-! ### lists of ints -/
def intsU (ns : List Int) : U := .lst (ns.map U.int)
theorem toDs_ints : ∀ ns : List Int, toDs (ns.map U.int) = some (ns.map PyData.int)
  | [] => rfl
  | n :: ns => by simp [toDs, toD, toDs_ints ns]
theorem flatUs_ints : ∀ ns : List Int, flatUs (ns.map U.int) = some (ns.map V.int)
  | [] => rfl
  | n :: ns => by simp [flatUs_ints ns]
theorem shaped_ints (ns : List Int) : SeqAt.shaped (.list (ns.map PyData.int)) = true := by
  have h1 : ∀ ns : List Int, PyData.canLayAll0 (ns.map PyData.int) = true := fun ns => by
    induction ns with
    | nil => rfl
    | cons n ns ih => simp [PyData.canLayAll0, PyData.canLay0, ih]
  have h2 : ∀ ns : List Int, PyData.depthAll (ns.map PyData.int) = 0 := fun ns => by
    induction ns with
    | nil => rfl
    | cons n ns ih => simp [PyData.depthAll, PyData.depth, ih]
  simp [SeqAt.shaped, PyData.canLay0, PyData.depth, h1, h2]
theorem eqU_ints_nil (ns : List Int) : eqU? (.lst (ns.map U.int)) (.lst []) = some ns.isEmpty := by
  show eqD? _ _ = _
  have e : toD (.lst (ns.map U.int)) = some (.list (ns.map PyData.int)) := by simp [toD, toDs_ints]
  have s2 := shaped_ints []
  simp only [List.map_nil] at s2
  unfold eqD?
  rw [e]
  simp only [toD, toDs, Option.map_some, shaped_ints, s2, Bool.and_self, if_true]
  cases ns <;> rfl
end Vi

/-! Vi16: a tuple so many times, data in a tuple of data. -/
namespace Vi
open PySem PySem.Spec PyProof.Rows L2
variable [WW]
/-- x in a tuple, by data -/
def inD? (u w : U) : Option Bool := match toD u, toD w with
  | some d, some (.tuple ds) => if SeqAt.shaped d && SeqAt.shaped (.tuple ds) then some (ds.any fun z => PyData.eqv z d) else none
  | _, _ => none
@[simp] def bInD (neg : Bool) : UO := fun u w h P => match inD? u w with
  | some b => P (.val (.bl (if neg then !b else b))) h
  | none => False
section
variable {X : Cx}
theorem inD_ok {u w : U} {b : Bool} (h : inD? u w = some b) : ∃ d ds, toD u = some d ∧ toD w = some (.tuple ds) ∧ SeqAt.shaped d = true ∧ SeqAt.shaped (.tuple ds) = true ∧ b = ds.any fun z => PyData.eqv z d := by
  unfold inD? at h
  split at h
  · rename_i d ds h1 h2
    split at h
    · rename_i h3
      simp only [Bool.and_eq_true] at h3
      cases h
      exact ⟨d, ds, h1, h2, h3.1, h3.2, rfl⟩
    · cases h
  · cases h
theorem op_inDU (hu : X.A.units + 64 + 1 < cLine) : OpR X (compareOp .In) (lo X.K (bInD false)) := by
  intro pins s σ H x y v u Q I rx ry q
  obtain ⟨W, env, h, σ', uu, ww, P, S, ru, rw_, ht, c⟩ := q
  unfold bInD at ht
  split at ht
  · rename_i b e
    obtain ⟨d, ds, h1, h2, h3, h4, rfl⟩ := inD_ok e
    obtain ⟨as, r1⟩ := Dp.reads I d x v (ru.dp h1) rx
    obtain ⟨bs, r2⟩ := Dp.reads I (.tuple ds) y u (rw_.dp h2) ry
    exact SeqAt.in_tuple_reads r2 r1 (SeqAt.canLay_of_shaped h4) (SeqAt.canLay_of_shaped h3) (room_in_shaped h3 hu) ⟨.bl _, H, I, rfl, c.val S (.bl _) ht⟩
  · exact ht.elim
/-- a tuple once is itself -/
theorem tuple_one (l : Addr) (items : Array Value) (n : Nat) (dd : Option Addr) (sl : Array (Option Value)) (u : Tok) :
    Meets (Builtin.«tuple.__mul__» ⟨[.ref l, .int 1 u], []⟩) (fun _ R s => s.heap.get? l = some { cls := .type "tuple", dict := dd, data := .seq items n, slots := sl } ∧ R (.ok (.ret (Value.ref l))) s) :=
  .of_wp fun prog w A R s h => by
    obtain ⟨hp, g, d, tk, os⟩ := s
    obtain ⟨hl, h⟩ := h
    have f1 := AutoSeq1.idx_int
    wp_walk using wpAny_loadPart' hl
    exact ⟨_, rfl, h⟩
theorem op_oneT : OpR X (binaryOp .Mult) (fun x y H Q => ∃ l xs, x = V.ref l ∧ y = V.int 1 ∧ SqT X.K H l xs ∧ Q (V.ref l) H) := by
  intro pins s σ H x y v u Q I rx ry h
  obtain ⟨l, xs, rfl, rfl, hT, q⟩ := h
  cases rx
  obtain ⟨t, rfl⟩ := ry
  obtain ⟨its, r, ⟨⟨cls, dd, data, sl⟩, ho, hc, n, hd⟩, hs⟩ := I.tuple hT
  simp only at hc hd
  subst hc hd
  have fin : EP X pins σ Q (.ref l) s := ⟨.ref l, H, I, rfl, q⟩
  exact wpAny_binaryOp_repeat_ref (T := "tuple") (U := "int") (by decide) ⟨_, ho, rfl⟩ (fun s' => typeIs_int s' 1 t) noFill_tuple_mul PySem.F.fills_int_mul PySem.F.slot_int_rmul repeat_tuple PySem.F.slot_int_index.lookup
    (call_meets PySem.F.slot_int_rmul (typeIs_int s 1 t) PySem.F.entry_int_rmul (PySem.F.args_int_rmul_2 _ _) (int_rmul_tuple 1 t l its.toArray n dd sl)
      ⟨ho, rfl, ⟨_, ho, rfl⟩, call_meets PySem.F.slot_tuple_mul ⟨_, ho, rfl⟩ PySem.F.entry_tuple_mul (PySem.F.args_tuple_mul_2 _ _) (tuple_one l its.toArray n dd sl t) ⟨ho, fin⟩⟩)
/-- .. not at all: a new empty one -/
theorem tuple_zero (l : Addr) (a : Value) (items : List Value) (n : Nat) (dd : Option Addr) (sl : Array (Option Value)) (u : Tok) :
    Meets (Builtin.«tuple.__mul__» ⟨[.ref l, .int 0 u], []⟩) (fun _ R s => s.heap.get? l = some { cls := .type "tuple", dict := dd, data := .seq (a :: items).toArray n, slots := sl } ∧
      R (.ok (.ret (Value.ref s.heap.objs.size))) { s with heap := s.heap.push { cls := Value.type "tuple", data := Data.seq #[] }, toks := s.toks }) :=
  .of_wp fun prog w A R s h => by
    obtain ⟨hp, g, d, tk, os⟩ := s
    obtain ⟨hl, h⟩ := h
    have f1 := AutoSeq1.idx_int
    wp_walk using wpAny_loadPart' hl
    exact ⟨_, rfl, h⟩
theorem op_zeroT : OpR X (binaryOp .Mult) (fun x y H Q => ∃ l xs, x = V.ref l ∧ y = V.int 0 ∧ SqT X.K H l xs ∧ xs ≠ [] ∧ NewT H Q []) := by
  intro pins s σ H x y v u Q I rx ry h
  obtain ⟨l, xs, rfl, rfl, hT, hne, q⟩ := h
  cases rx
  obtain ⟨t, rfl⟩ := ry
  obtain ⟨its, r, ⟨⟨cls, dd, data, sl⟩, ho, hc, n, hd⟩, hs⟩ := I.tuple hT
  simp only at hc hd
  subst hc hd
  cases its with
  | nil =>
    have e : xs.length = 0 := r.length
    exact absurd (List.length_eq_zero_iff.mp e) hne
  | cons a its =>
    have fin : EP X pins σ Q (.ref s.heap.objs.size) { s with heap := s.heap.push { cls := Value.type "tuple", data := Data.seq #[] }, toks := s.toks } :=
      laidT I (its := []) (Nat.zero_le _) .nil q
    exact wpAny_binaryOp_repeat_ref (T := "tuple") (U := "int") (by decide) ⟨_, ho, rfl⟩ (fun s' => typeIs_int s' 0 t) noFill_tuple_mul PySem.F.fills_int_mul PySem.F.slot_int_rmul repeat_tuple PySem.F.slot_int_index.lookup
      (call_meets PySem.F.slot_int_rmul (typeIs_int s 0 t) PySem.F.entry_int_rmul (PySem.F.args_int_rmul_2 _ _) (int_rmul_tuple 0 t l (a :: its).toArray n dd sl)
        ⟨ho, rfl, ⟨_, ho, rfl⟩, call_meets PySem.F.slot_tuple_mul ⟨_, ho, rfl⟩ PySem.F.entry_tuple_mul (PySem.F.args_tuple_mul_2 _ _) (tuple_zero l a its n dd sl t) ⟨ho, fin⟩⟩)
@[simp] def bMulT : UO := fun u w h P => match u, w with
  | .tup a, .int k => a ≠ [] ∧ 0 ≤ k ∧ k ≤ 4000 ∧ a.length ≤ 1000 ∧ P (.val (.tup (List.replicate k.toNat a).flatten)) h
  | _, _ => False
theorem op_mulTU : OpR X (binaryOp .Mult) (lo X.K bMulT) := by
  refine OpR.wk ((op_oneT.or op_zeroT).or op_repF) fun x y H Q ⟨W, env, h, σ, u, w, P, S, ru, rw_, ht, c⟩ => ?_
  unfold bMulT at ht
  split at ht
  · rename_i a k
    obtain ⟨h1, h2, h3, h4, q⟩ := ht
    have ru0 := ru
    cases rw_
    cases ru with
    | tup hq r =>
      by_cases hk : k = 1
      · subst hk
        refine .inl (.inl ⟨_, _, rfl, rfl, hq.sq, c.val S ru0 ?_⟩)
        simpa using q
      by_cases hk0 : k = 0
      · subst hk0
        refine .inl (.inr ⟨_, _, rfl, rfl, hq.sq, fun z => h1 (List.length_eq_zero_iff.mp (by rw [r.length, z]; rfl)), ?_⟩)
        exact c.tup S .nil (by simpa using q)
      · refine .inr ⟨_, _, _, rfl, rfl, hq.sq, fun z => h1 (List.length_eq_zero_iff.mp (by rw [r.length, z]; rfl)), by omega, h3, by rw [← r.length]; exact h4, ?_⟩
        exact c.tup S (r.rep k.toNat) q
  · exact ht.elim
end
theorem room5 {k : Nat} {A : Around} (r : Room k A) : A.units + 64 + 1 < cLine := by
  have := r.un
  omega
/-- a constant that is a default: the default's address is the global's -/
theorem Tx.cstA {fa : List He.Fa} {cs : List (Str × U)} {fn : List He.DefD} {K : PySem.W.Frag} {mg : Str → Option Value} (T : Tx fa cs fn K mg) (i j : Nat) {x : Str} {u : U} (h : cs[i]? = some (x, u) := by rfl) (hj : fa[j]? = some (.glo x) := by rfl) : ∀ W H, RV K W H u (.ref (He.ga K x)) := by
  obtain ⟨a, v, m, r, rr⟩ := T.cst i h
  have e := T.glo j hj
  rw [m] at e
  cases e
  cases v with
  | ref b =>
    have z : Value.ref (He.ga K x) = Value.ref b := r
    cases z
    exact rr
  | non => cases (show Value.ref _ = Value.none from r)
  | bl b => cases (show Value.ref _ = Value.bool b from r)
  | int b => obtain ⟨t, z⟩ := (show ∃ t, Value.ref _ = Value.int b t from r); cases z
  | str b => obtain ⟨t, z⟩ := (show ∃ t, Value.ref _ = Value.str b t from r); cases z
  | byt b => exact absurd r (by unfold L2.RelV; rintro ⟨_, z⟩; cases z)
  | flt b => exact absurd r (by unfold L2.RelV; rintro ⟨_, z⟩; cases z)
  | ty b => cases (show Value.ref _ = Value.type b from r)
end Vi

/-! Vi17: data that are equal to themselves; data within the limits of ==. -/
namespace Vi
open PySem PySem.Spec PyProof.Rows L2
variable [WW]
/-- data at most k deep, its texts sound -/
def Shp (u : U) (k : Nat) : Prop := ∃ d, toD u = some d ∧ d.canLay0 = true ∧ d.depth ≤ k
theorem Shp.mono {u : U} {k m : Nat} (h : Shp u k) (z : k ≤ m) : Shp u m := by
  obtain ⟨d, e, h1, h2⟩ := h
  exact ⟨d, e, h1, by omega⟩
theorem shp_int (i : Int) : Shp (.int i) 0 := ⟨.int i, rfl, rfl, Nat.le_refl _⟩
theorem shp_bl (b : Bool) : Shp (.bl b) 0 := ⟨.bool b, rfl, rfl, Nat.le_refl _⟩
theorem shp_str {x : Str} (h : PyData.strOk x = true) : Shp (.str x) 0 := ⟨.str x, rfl, by simp [PyData.canLay0, h], Nat.le_refl _⟩
theorem shps {k : Nat} : ∀ {us : List U}, (∀ u ∈ us, Shp u k) → ∃ ds, toDs us = some ds ∧ PyData.canLayAll0 ds = true ∧ PyData.depthAll ds ≤ k
  | [], _ => ⟨[], rfl, rfl, Nat.zero_le _⟩
  | u :: us, h => by
    obtain ⟨d, e, h1, h2⟩ := h u (List.mem_cons_self ..)
    obtain ⟨ds, es, g1, g2⟩ := shps (us := us) fun w hw => h w (List.mem_cons_of_mem _ hw)
    refine ⟨d :: ds, by simp only [toDs, e, es], by simp only [PyData.canLayAll0, h1, g1, Bool.and_self], ?_⟩
    simp only [PyData.depthAll]
    omega
theorem shp_tup {us : List U} {k : Nat} (h : ∀ u ∈ us, Shp u k) : Shp (.tup us) (k + 1) := by
  obtain ⟨ds, es, g1, g2⟩ := shps h
  exact ⟨.tuple ds, by simp only [toD, es, Option.map_some], by simpa only [PyData.canLay0] using g1, by simp only [PyData.depth]; omega⟩
theorem shp_lst {us : List U} {k : Nat} (h : ∀ u ∈ us, Shp u k) : Shp (.lst us) (k + 1) := by
  obtain ⟨ds, es, g1, g2⟩ := shps h
  exact ⟨.list ds, by simp only [toD, es, Option.map_some], by simpa only [PyData.canLay0] using g1, by simp only [PyData.depth]; omega⟩
theorem eqD_same {u : U} {k : Nat} (h : Shp u k) (hk : k ≤ 64) : eqD? u u = some true := by
  obtain ⟨d, e, h1, h2⟩ := h
  have s : SeqAt.shaped d = true := by simp [SeqAt.shaped, h1]; omega
  unfold eqD?
  rw [e]
  simp [s, SeqAt.eqv_refl d h1]
end Vi

/-! Vi18: a caught error that is kept as a value behind its suite. -/
namespace Vi
open PySem PySem.Spec PyProof.Rows L2
variable [WW]
section
variable {X : Cx} {pins : List (Addr × Obj)} {σ : L2.St} {H : Hp} {s : Shared}
/-- an object that stands in the heap and is new since the def's begin: told from here on -/
theorem inv_told {a : Addr} {oe : Obj} {vs : Array Value} (I : L2.Inv X pins σ H s) (he : s.heap.get? a = some oe) (hd : oe.data = .fields vs) (na : H a = none) (nl : a ≠ X.env.locals) (n0 : X.s_0.heap.get? a = none) (np : ∀ p ∈ X.pn ++ pins, p.1 ≠ a) :
    L2.Inv X pins σ (upd H a (.frz oe (.own a))) s where
  ok := I.ok
  os := I.os
  bare := I.bare
  base := {
    keep := I.base.keep
    slot := I.base.slot
    free := fun b o e n hx => by
      rw [upd_ne (fun z => by subst z; rw [n0] at e; cases e)]
      exact I.base.free b o e n hx
    there := I.base.there
    tups := fun b xs e => by
      have q := I.base.tups b xs e
      rw [upd_ne (ne_of_none q na)]; exact q
    frzs := fun b o u e => by
      have q := I.base.frzs b o u e
      rw [upd_ne (ne_of_none q na)]; exact q
    tbls := fun b ps e => by
      obtain ⟨m, q⟩ := I.base.tbls b ps e
      exact ⟨m, by rw [upd_ne (ne_of_none q na)]; exact q⟩ }
  loc := I.loc
  cell := I.cell
  free := by rw [upd_ne (Ne.symm nl)]; exact I.free
  freeC := fun x c e => by
    have q := I.freeC x c e
    rw [upd_ne (fun z => ?_)]
    · exact q
    · subst z
      obtain ⟨v, o, ho, hc⟩ := I.cell x c e
      rw [he] at ho
      cases ho
      rw [hd] at hc
      cases hc
  pin := fun p hp => by
    obtain ⟨q1, q2, q3⟩ := I.pin p hp
    exact ⟨q1, by rw [upd_ne (np p hp)]; exact q2, q3⟩
  hok := hok_new I.hok (fun _ _ e => e) na ⟨he, oe, he⟩
  len := I.len
/-- what is asked where the body's error comes: caught, it is kept as a told object -/
def wKeep (K : PySem.W.Frag) (c : Value) (i : Nat) (ts : Addr → Value → Option Addr → TS) (Wo : WX) (D : Ends) : WX := fun cls d σ H =>
  ∃ b, PySem.W.exmOne K cls c = some b ∧ (b = false → Wo cls d σ H) ∧ (b = true → ∀ a oe, H a = none → oe.cls = cls → oe.dict = d → (∃ vs, oe.data = .fields vs) →
    ts a cls d ⟨fun σ1 H1 => D.nx (σ1.set i none) (upd H1 a (.frz oe (.own a))), fun _ _ => False, fun _ _ => False, fun _ _ => False⟩ (σ.set i (some (.ref a))) H)
theorem ps_try_keep {x n : Str} {c : Value} {i : Nat} {body rest : List Stmt} {st : Stmt} {np p1 p2 : Pos} {tb : WX → TS} {ts : Addr → Value → Option Addr → TS} {Wo : WX}
    (hex : X.ex = []) (hs : X.stack = X.env :: X.outer) (hf : X.env.frame = some X.env.locals) (hN : X.N.Nodup) (hi : X.N[i]? = some n) (hln : X.env.kindOf n = some .local) (hc : Names X x c) (tk : Takes X Wo)
    (hb : ∀ (W : WX) (pn : List (Addr × Obj)) (xe : Value → Shared → Prop), Takes (X.tr pn xe) W → PassesOwn (model X.prog X.w) X.A X.env xe → PSs (X.tr pn xe) body (tb W))
    (hsu : ∀ (a : Addr) (oe : Obj) (cls : Value) (d : Option Addr) (pn : List (Addr × Obj)), PSs (X.suite a ((a, oe) :: pn)) (st :: rest) (ts a cls d)) :
    PS X (.Try body [.ExceptHandler (some (.Name x np)) (some n) (st :: rest) p2] [] [] p1) (fun D σ H => tb (wKeep X.K c i ts Wo D) D σ H) := by
  constructor
  intro pins s0 σ0 H0 D I0 h0
  have ok := I0.ok
  have hfr : X.A.frames = some (X.env :: X.outer) := by
    rw [← hs]
    exact ok.frames
  apply wpAny_Try_except
  have B0 := hb (wKeep X.K c i ts Wo D) (X.pn ++ pins) (fun e t1 => wpAny (model X.prog X.w) X.A (noteFrame e X.env) (fun _ t2 => wpAny (model X.prog X.w) X.A (setFlight e none)
      (fun _ t3 => wpAny (model X.prog X.w) X.A (handleBy e X.env [.ExceptHandler (some (.Name x np)) (some n) (st :: rest) p2]) (SP X pins D) X.xe t3) X.xe t2) X.xe t1) ?tk PassesOwn.looking
  case tk =>
    rintro u s' ⟨a, B, sI, pins', σ', H', cls, d, rfl, J', nb, up, sky, na, os, ag, b, hb1, hno, hyes⟩
    have J := J'.ofTry ok
    have sky' := sky
    rw [show (X.tr (X.pn ++ pins) _).stack = X.env :: X.outer from hs] at sky'
    refine Sky.land Zc.steady hfr hf sky' fun h3 fl3 up3 => ?_
    have J3 : L2.Inv X pins σ' H' { s' with heap := h3 } := J.landed nb fl3.1 (up.trans up3) os ag
    obtain ⟨oe3, vs3, he3, hz3, hd3⟩ := fl3.there
    have nfr : a ∉ frs (X.env :: X.outer) := fun hm => by
      obtain ⟨_, o1, g1, g2⟩ := fl3.2.2.1.mem hm
      rw [he3] at g1
      cases g1
      exact g2 _ hd3
    have nl : a ≠ X.env.locals := fun z => nfr (List.mem_filterMap.mpr ⟨X.env, List.mem_cons_self, by rw [z]; exact hf⟩)
    have nF : a ∉ X.fs := fun hm => by
      obtain ⟨e, m1, m2⟩ := List.mem_filterMap.mp hm
      exact nfr (List.mem_filterMap.mpr ⟨e, List.mem_cons_of_mem _ m1, m2⟩)
    have nB : B.get? a = none := fl3.2.1
    have notIn : ∀ o, ¬ sI.heap.get? a = some o := fun o e => by
      have := nb a o e (by rw [hs]; exact nfr)
      rw [nB] at this
      cases this
    refine wpAny_handleBy_cons (codeAny_handlers_test ?_) (by intro q; cases q)
    have S3 := J3.suite he3 hd3 na nl nF
    have LT : PySem.W.Looks (model X.prog X.w) h3 (typeOf (.ref a)) cls := fun A Q E s k q => by
      apply wpAny_typeOf_ref (k _ _ he3)
      rw [hz3.1]
      exact q
    have LM := PySem.W.exm_one (M := model X.prog X.w) J3.kIn LT hb1
    have name_ok : ∀ {Q E : Value → Shared → Prop}, Q c { s' with heap := h3 } → wpAny (model X.prog X.w) (X.A.mark (some (.ref a))) (eval (.Name x np) X.env) Q E { s' with heap := h3 } := by
      intro Q E q
      rcases hc with ⟨g1, g2, g3 | ⟨g3, g4, g5⟩⟩
      · exact ld_glob (X := X.suite a ((a, oe3) :: (X.pn ++ pins))) S3 g1 g3 q g2
      · exact ld_blt (X := X.suite a ((a, oe3) :: (X.pn ++ pins))) S3 g1 g3 g4 q g5 g2
    apply name_ok
    apply LM.here
    cases b with
    | false =>
      show wpAny _ X.A (handleBy (.ref a) X.env []) _ _ _
      apply wpAny_handleBy_nil
      have fl := fl3
      obtain ⟨_, _, _, o5, v5, T5, oT5, t5, e5, _, d5, f5, _⟩ := fl
      unfold PySem.passOn
      apply wpAny_bind
      apply wpAny_field e5 d5 f5
      rw [if_neg (show ¬ ((Value.ref T5 == Value.none) = true) by simp)]
      have out : wpAny (model X.prog X.w) X.A (setFlight (.ref a) X.env.frame) (fun _ t4 => wpAny (model X.prog X.w) X.A (throw (.ref a) : Sem Flow) (SP X pins D) X.xe t4) X.xe { s' with heap := h3 } := by
        rw [hf]
        refine HandSPX.setFlight_upZ fl3 fun h4 hh4 up4 => wpAny_throw (tk _ _ ?_)
        refine ⟨a, B, sI, pins, σ', H', cls, d, rfl, J, nb, (up.trans up3).trans up4, ?_, na, os, ag, hno rfl⟩
        rw [hs]
        exact .inr (.inr hh4)
      first
        | exact wpAny_bind out
        | exact wpAny_bind (wpAny_pure (wpAny_bind out))
    | true =>
      apply codeAny_handlers_suite_as
      refine HandSPX.lands_againZ fl3 fun h4 fl4 up4 => ?_
      have J4 : L2.Inv X pins σ' H' { s' with heap := h4 } := J.landed nb fl4.1 ((up.trans up3).trans up4) os ag
      obtain ⟨oe, vs4, he4, hz4, hd4⟩ := fl4.there
      refine store_ok (X := X.suite a ((a, oe) :: (X.pn ++ pins))) (v := .ref a) (J4.suite he4 hd4 na nl nF) hN hi (.inl hln) rfl (fun s5 S5 => ?_) (.inr hln)
      refine wpAny_mono ((hsu a oe cls d (X.pn ++ pins)).run [] s5 _ H' _ S5 (hyes rfl a oe na hz4.1 hz4.2 ⟨_, hd4⟩)) (fun f s6 hsp => ?_) (fun _ _ z => z.elim)
      cases f with
      | next =>
        obtain ⟨σ6, H6, S6, q6⟩ := hsp
        have pa := S6.pin (a, oe) (List.mem_append_left _ List.mem_cons_self)
        have U6 := S6.unsuite ok
        have t6 := inv_told U6 pa.1 hd4 pa.2.1 nl (by
          cases e : X.s_0.heap.get? a with
          | none => rfl
          | some o =>
            by_cases hx : a ∈ X.ex
            · rw [hex] at hx
              cases hx
            · obtain ⟨o', e'⟩ := J.base.there a o e hx
              exact absurd e' (notIn o')) (fun p hp z => by
          have := (J.pin p hp).1
          rw [z] at this
          exact notIn _ this)
        exact gone_ok t6 hN hi hln fun s7 J7 => ⟨_, _, J7, q6⟩
      | brk =>
        obtain ⟨_, _, _, q6⟩ := hsp
        exact q6.elim
      | cont =>
        obtain ⟨_, _, _, q6⟩ := hsp
        exact q6.elim
      | ret u =>
        obtain ⟨_, _, _, _, _, q6⟩ := hsp
        exact q6.elim
  refine wpAny_mono (B0.run [] s0 σ0 H0 D (I0.toTry _) h0) (fun f s1 hsp => ?_) (fun e s1 he => he)
  cases f with
  | next =>
    obtain ⟨σ1, H1, J1, q⟩ := hsp
    exact wpAny_execs_nil ⟨σ1, H1, J1.ofTry ok, q⟩
  | brk =>
    obtain ⟨σ1, H1, J1, q⟩ := hsp
    exact ⟨σ1, H1, J1.ofTry ok, q⟩
  | cont =>
    obtain ⟨σ1, H1, J1, q⟩ := hsp
    exact ⟨σ1, H1, J1.ofTry ok, q⟩
  | ret u =>
    obtain ⟨v, σ1, H1, J1, r, q⟩ := hsp
    exact ⟨v, σ1, H1, J1.ofTry ok, r, q⟩
end
/-! ### try: .. except SlotError as e: caught = e -/
@[simp] def uTry (xs : List Str) (i j : Nat) (b : US) : US := fun env h P => i ≠ j ∧ b env h ⟨P.nx, P.rt, fun ex env1 h1 => ex.arg = none ∧ ex.cls ∈ xs ∧ i < env1.length ∧ j < env1.length ∧ P.nx ((env1.set j (some (.val (.err ex.cls none)))).set i none) h1, P.bk, P.ct⟩
theorem Sim.clear {K : PySem.W.Frag} {W : Wd} {env : En} {h : Hv} {σ σ1 : L2.St} {H : Hp} (S : Sim K W env h σ H) {i : Nat} (hl : σ1.length = σ.length) (hk : ∀ k, k ≠ i → σ1[k]? = σ[k]?) : Sim K W (env.set i none) h σ1 H where
  sh := S.sh
  len := by rw [List.length_set, S.len, hl]
  slots := fun k sv e => by
    by_cases z : k = i
    · subst z
      by_cases hk2 : k < env.length
      · rw [List.getElem?_set_self hk2] at e
        cases e
      · rw [List.getElem?_eq_none (by simpa using hk2)] at e
        cases e
    · rw [List.getElem?_set_ne (Ne.symm z)] at e
      rw [hk k z]
      exact S.slots k sv e
section
variable {X : Cx} {L : Lx}
theorem ws_try {xs : List Str} {n y : Str} {i j : Nat} {body : List Stmt} {np p1 p2 p3 p4 p5 : Pos} {b : US}
    (hx : ∀ x ∈ xs, eclB L.K x = true) (hK : L.K = X.K) (hga : L.ga = He.ga L.K) (hex : X.ex = []) (hs : X.stack = X.env :: X.outer) (hf : X.env.frame = some X.env.locals) (hN : X.N.Nodup) (hi : X.N[i]? = some n) (hln : X.env.kindOf n = some .local)
    (hc : Names X "SlotError" (.ref (L.ga "SlotError"))) (tk : Takes X L.wx)
    (hb : ∀ (W : WX) (pn : List (Addr × Obj)) (xe : Value → Shared → Prop), Takes (X.tr pn xe) W → PassesOwn (model X.prog X.w) X.A X.env xe → WSs (X.tr pn xe) ⟨L.K, L.ga, W⟩ body b)
    (hsu : ∀ (a : Addr) (oe : Obj) (cls : Value) (d : Option Addr) (pn : List (Addr × Obj)), PSs (X.suite a ((a, oe) :: pn)) [.Assign [.Name y p4] (.Name n p5) p3] (tAsg (tVar i) (gName j))) :
    WS X L (.Try body [.ExceptHandler (some (.Name "SlotError" np)) (some n) [.Assign [.Name y p4] (.Name n p5) p3] p2] [] [] p1) (uTry xs i j b) := by
  refine PS.wk (ps_try_keep (tb := fun W => ls ⟨L.K, L.ga, W⟩ b) hex hs hf hN hi hln hc tk hb hsu) fun D σ H ⟨W, env, h, P, S, ⟨nij, ht⟩, c⟩ => ?_
  refine ⟨W, env, h, _, S, ht, ⟨c.nx, c.bk, c.ct, c.rt, fun W1 ex env1 h1 σ1 H1 cls d l1 S1 x1 q1 => ?_⟩⟩
  obtain ⟨ea, em, li, lj, q⟩ := q1
  have hc1 := hx _ em
  obtain ⟨g1, g2⟩ := eclB_sup hc1
  refine ⟨true, ?_, (fun z => by cases z), fun _ a oe na z1 z2 z3 => ?_⟩
  · rw [x1.1, hga, ← hK]
    exact g1
  · have l2 : i < σ1.length := by rw [← S1.len]; exact li
    refine ⟨.ref a, List.getElem?_set_self l2, ?_⟩
    obtain ⟨vs3, z3'⟩ := z3
    have dn : d = none := x1.2.1 ea
    have lj1 : j < σ1.length := by rw [← S1.len]; exact lj
    have S2 := S1.none_ na (.frz oe (.own a))
    have le2 : LeW W1 H1 W1 (upd H1 a (.frz oe (.own a))) := .none_ S1.sh na _
    have rv : RV L.K W1 (upd H1 a (.frz oe (.own a))) (.err ex.cls none) (.ref a) := .err ⟨oe, vs3, upd_same, by rw [z1, x1.1, hga], by rw [z2, dn], z3', fun _ z => by cases z⟩ hc1
    have S3 := S2.store lj rv
    refine c.nx W1 _ h1 _ _ (l1.trans le2) (S3.clear (σ1 := ((σ1.set i (some (.ref a))).set j (some (.ref a))).set i none) (i := i) (by simp) fun k hk => ?_) q
    rw [List.getElem?_set_ne (Ne.symm hk)]
    by_cases hj : k = j
    · subst hj
      rw [List.getElem?_set_self lj1, List.getElem?_set_self (by rw [List.length_set]; exact lj1)]
    · rw [List.getElem?_set_ne (Ne.symm hj), List.getElem?_set_ne (Ne.symm hj), List.getElem?_set_ne (Ne.symm hk)]
end
/-- isinstance of an error and its own class -/
@[simp] def bIse : UB := fun us h P => match us with
  | [.err x _, .ecl y] => P (.val (.bl (decide (x = y) || decide (y = "SlotError")))) h
  | _ => False
section
variable {X : Cx}
theorem call_iseU : CallR X (.builtin "isinstance") (lb X.K bIse) := by
  intro pins s σ H xs us Q I r q
  obtain ⟨W, env, h, σ', ws, P, S, rr, ht, c⟩ := q
  unfold bIse at ht
  split at ht
  · rename_i x mm y
    obtain ⟨v, w, rfl, ru, rw_⟩ := RVs.two rr
    cases ru with
    | err he hc =>
      rename_i b
      cases rw_ with
      | ecl ea hcy =>
        rename_i a2
        subst ea
        obtain ⟨oe, vs, e1, e2, e3, e4, _⟩ := he
        obtain ⟨_, C, _⟩ := eclB_ok hc
        have k : PySem.W.kitOne X.K (.ref (He.ga X.K x)) (.ref (He.ga X.K y)) = some (decide (x = y) || decide (y = "SlotError")) := by
          by_cases e1 : x = y
          · subst e1
            rw [(eclB_sup hc).2, decide_eq_true rfl, Bool.true_or]
          · by_cases e2 : y = "SlotError"
            · subst e2
              have z := (eclB_sup hc).1
              unfold PySem.W.exmOne at z
              split at z
              · rw [decide_eq_true rfl, Bool.or_true]
                unfold PySem.W.kitOne
                split
                · rfl
                · exact z
              · cases z
            · rw [eclB_other hc hcy e1 e2, decide_eq_false e1, decide_eq_false e2]
              rfl
        obtain ⟨u1, u2, rfl, r1, r2⟩ := vals2 r
        cases r1
        cases r2
        have g := (I.hok _ _ e1).1
        have J : PySem.W.InstAt s.heap b oe (He.ga X.K x) none := by
          obtain ⟨oc, od, oda, osl⟩ := oe
          dsimp only at e2 e3 e4
          subst e2 e3 e4
          exact ⟨g, rfl, rfl, trivial⟩
        exact PySem.W.kia_one (PySem.W.handS_kitx_exc C.hg C.hk C.hs C.hd C.ha C.hn C.ht C.hm) I.kIn J k (fun z => nomatch z) fun tk => ⟨.bl _, H, I.kept (t' := tk) fun _ _ z => z, rfl, c.val S (.bl _) ht⟩
  · exact ht.elim
end
end Vi

/-! Vi19: texts joined and split. -/
namespace Vi
open PySem PySem.Spec PyProof.Rows L2
variable [WW]
/-- the texts of a list or tuple -/
def strsU : U → Option (List U)
  | .lst us => some us
  | .tup us => some us
  | _ => none
/-- all are texts -/
def allStr : List U → Option (List Str)
  | [] => some []
  | .str x :: us => (match allStr us with
    | some xs => some (x :: xs)
    | none => none)
  | _ :: _ => none
theorem allStr_map : ∀ xs : List Str, allStr (xs.map U.str) = some xs
  | [] => rfl
  | x :: xs => by simp [allStr, allStr_map xs]
theorem allStr_app : ∀ {us ws : List U} {xs ys : List Str}, allStr us = some xs → allStr ws = some ys → allStr (us ++ ws) = some (xs ++ ys)
  | [], ws, xs, ys, h, g => by
    cases h
    exact g
  | u :: us, ws, xs, ys, h, g => by
    cases u with
    | str x =>
      simp only [allStr] at h
      split at h
      · rename_i zs e
        cases h
        simp only [List.cons_append, allStr, allStr_app e g]
      · cases h
    | _ => simp [allStr] at h
theorem RVs.strs {K : PySem.W.Frag} {W : Wd} {H : Hp} : ∀ {us : List U} {vs : List V} {xs : List Str}, RVs K W H us vs → allStr us = some xs → vs = xs.map V.str
  | [], vs, xs, r, h => by
    cases h
    cases r
    rfl
  | u :: us, vs, xs, r, h => by
    cases u with
    | str x =>
      simp only [allStr] at h
      split at h
      · rename_i zs e
        cases h
        cases r with
        | cons a b =>
          cases a
          rw [RVs.strs b e]
          rfl
      · cases h
    | _ => simp [allStr] at h
@[simp] def uJoin (t te : UE) : UE := fun env h Po Pe => t env h (fun sv env1 h1 => match sv.u with
  | .str a => te env1 h1 (fun sw env2 h2 => match strsU sw.u with
    | some us => (match allStr us with
      | some ys => (ys.map (·.length)).sum + ys.length * a.length ≤ 16777216 ∧ Po (.val (.str (Txt.join a ys))) env2 h2
      | none => False)
    | none => False) Pe
  | _ => False) Pe
@[simp] def uSplit (t te : UE) : UE := fun env h Po Pe => t env h (fun sv env1 h1 => match sv.u with
  | .str a => te env1 h1 (fun sw env2 h2 => match sw.u with
    | .str b => (b.length == 0) = false ∧ a.length + 2 ≤ sizeLine ∧ Po (.own ((Txt.split a b).map U.str)) env2 h2
    | _ => False) Pe
  | _ => False) Pe
section
variable {X : Cx} {L : Lx} {o e : Expr} {t te : UE} {apos pos : Pos}
theorem RVs.of_strs {K : PySem.W.Frag} {W : Wd} {H : Hp} : ∀ xs : List Str, RVs K W H (xs.map U.str) (xs.map V.str)
  | [] => .nil
  | x :: xs => .cons (.str x) (RVs.of_strs xs)
theorem we_join (hK : L.K = X.K) (ho : WE X L o t) (he : WE X L e te) (hs : starEach [e] X.env = [(false, eval e X.env)] := by rfl) (hbase : attributeBase o "join" X.env (eval o X.env) = eval o X.env := by rfl) (hline : (apos.endLine == pos.line) = true := by rfl) :
    WE X L (.Call (.Attribute o "join" apos) [e] [] pos) (uJoin t te) := by
  refine PE.wk (L2.pe_join ho he hs hbase hline) fun σ H Q ⟨W, env, h, Po, Pe, S, ht, c⟩ => ?_
  refine ⟨W, env, h, _, _, S, ht, ⟨fun W1 sv env1 h1 v H1 l1 S1 r1 q1 => ?_, c.er⟩⟩
  obtain ⟨W1', S1', l1', rv1⟩ := S1.freeze r1
  split at q1
  · rename_i a ea
    rw [ea] at rv1
    cases rv1
    refine ⟨⟨a, rfl⟩, W1', env1, h1, _, _, S1', q1, ⟨fun W2 sw env2 h2 w H2 l2 S2 r2 q2 => ?_, (c.le (l1.trans l1')).er⟩⟩
    obtain ⟨W2', S2', l2', rv2⟩ := S2.freeze r2
    have c2 := (c.le (l1.trans l1')).le (l2.trans l2')
    split at q2
    · rename_i us e1
      split at q2
      · rename_i ys e2
        have fin := c2.ok W2' (.val (.str (Txt.join a ys))) env2 h2 (.str (Txt.join a ys)) H2 .refl S2' (.str _) q2.2
        generalize sw.u = u at e1 rv2
        cases u with
        | lst us' =>
          cases e1
          cases rv2 with
          | lst n ea rs =>
            have := rs.strs e2
            subst this
            exact ⟨a, _, ys, rfl, rfl, .inl (.inl (.inl ea)), q2.1, fin⟩
        | tup us' =>
          cases e1
          cases rv2 with
          | tup ht rs =>
            have := rs.strs e2
            subst this
            exact ⟨a, _, ys, rfl, rfl, .inr (hK ▸ ht.sq), q2.1, fin⟩
        | _ => cases e1
      · exact q2.elim
    · exact q2.elim
  · exact q1.elim
theorem we_split (hK : L.K = X.K) (ho : WE X L o t) (he : WE X L e te) (hs : starEach [e] X.env = [(false, eval e X.env)] := by rfl) (hbase : attributeBase o "split" X.env (eval o X.env) = eval o X.env := by rfl) (hline : (apos.endLine == pos.line) = true := by rfl) :
    WE X L (.Call (.Attribute o "split" apos) [e] [] pos) (uSplit t te) := by
  refine PE.wk (L2.pe_split ho he hs hbase hline) fun σ H Q ⟨W, env, h, Po, Pe, S, ht, c⟩ => ?_
  refine ⟨W, env, h, _, _, S, ht, ⟨fun W1 sv env1 h1 v H1 l1 S1 r1 q1 => ?_, c.er⟩⟩
  obtain ⟨W1', S1', l1', rv1⟩ := S1.freeze r1
  split at q1
  · rename_i a ea
    rw [ea] at rv1
    cases rv1
    refine ⟨⟨a, rfl⟩, W1', env1, h1, _, _, S1', q1, ⟨fun W2 sw env2 h2 w H2 l2 S2 r2 q2 => ?_, (c.le (l1.trans l1')).er⟩⟩
    obtain ⟨W2', S2', l2', rv2⟩ := S2.freeze r2
    have c2 := (c.le (l1.trans l1')).le (l2.trans l2')
    split at q2
    · rename_i b eb
      rw [eb] at rv2
      cases rv2
      refine ⟨a, b, rfl, rfl, q2.1, q2.2.1, fun p hp => ?_⟩
      obtain ⟨S3, l3⟩ := S2'.alloc hp (.lst ((Txt.split a b).map V.str)) .tmp
      exact c2.ok _ (.own _) env2 h2 _ _ l3 S3 ⟨p, _, rfl, Wd.put_same, upd_same, RVs.of_strs _⟩ q2.2.2
    · exact q2.elim
  · exact q1.elim
end
/-- a statement that is never reached -/
def uStuck : US := fun _ _ _ => False
theorem uStuck_iff {env : En} {h : Hv} {P : UD} : uStuck env h P ↔ False := Iff.rfl
theorem ws_stuck {X : Cx} {L : Lx} {s : Stmt} : WS X L s uStuck := ⟨fun _ _ _ _ _ _ q => by
  obtain ⟨_, _, _, _, _, z, _⟩ := q
  exact z.elim⟩
theorem we_ecl {X : Cx} {L : Lx} {x : Str} {p : Pos} (q : eclB L.K x = true ∧ X.mg x = some (.ref (He.ga L.K x))) (hg : Gl X x) (hd : (x == ("__debug__" : Str)) = false := by decide) : WE X L (.Name x p) (uVal (.ecl x)) :=
  we_glo hg q.2 (v := .ref (He.ga L.K x)) rfl (fun _ _ => .ecl rfl q.1) hd
end Vi

/-! Vi20: str(x), the signs of a text. -/
namespace Vi
open PySem PySem.Spec PyProof.Rows L2
variable [WW]
/-- an int as a text -/
def numU (i : Int) : Str := Str.ofString (toString i)
@[simp] def bStr : UB := fun us h P => match us with
  | [.int i] => i.natAbs.log2 < 1920 ∧ P (.val (.str (numU i))) h
  | [.str a] => P (.val (.str a)) h
  | _ => False
section
variable {X : Cx} {L : Lx}
theorem call_strU : CallR X (.type "str") (lb X.K bStr) := by
  refine CallR.wk (Vi.CallR.or L2.call_str_int SkE.call_str_str) fun xs H Q ⟨W, env, h, σ, us, P, S, r, ht, c⟩ => ?_
  unfold bStr at ht
  split at ht
  · obtain ⟨v, rfl, ru⟩ := RVs.one r
    cases ru
    exact .inl ⟨_, rfl, ht.1, c.val S (.str _) ht.2⟩
  · obtain ⟨v, rfl, ru⟩ := RVs.one r
    cases ru
    exact .inr ⟨_, rfl, c.val S (.str _) ht⟩
  · exact ht.elim
/-- one sign in a text -/
@[simp] def bInS (neg : Bool) : UO := fun u w h P => match u, w with
  | .str x, .str z => (match x.cps.toList with
    | [c] => P (.val (.bl (if neg then !decide (c ∈ z.cps.toList) else decide (c ∈ z.cps.toList)))) h
    | _ => False)
  | _, _ => False
theorem op_inSU : OpR X (compareOp .In) (lo X.K (bInS false)) := by
  refine OpR.wk L2.op_in_sign fun x y H Q ⟨W, env, h, σ, u, w, P, S, ru, rw_, ht, c⟩ => ?_
  unfold bInS at ht
  split at ht
  · rename_i a z
    split at ht
    · rename_i k e
      cases ru
      cases rw_
      have ea : a = ⟨#[k]⟩ := by
        obtain ⟨⟨l⟩⟩ := a
        have e' : l = [k] := e
        rw [e']
      exact ⟨k, z, by rw [ea], rfl, c.val S (.bl _) ht⟩
    · exact ht.elim
  · exact ht.elim
theorem op_notInSU : OpR X (compareOp .NotIn) (lo X.K (bInS true)) := by
  refine OpR.wk L2.op_notIn_sign fun x y H Q ⟨W, env, h, σ, u, w, P, S, ru, rw_, ht, c⟩ => ?_
  unfold bInS at ht
  split at ht
  · rename_i a z
    split at ht
    · rename_i k e
      cases ru
      cases rw_
      have ea : a = ⟨#[k]⟩ := by
        obtain ⟨⟨l⟩⟩ := a
        have e' : l = [k] := e
        rw [e']
      exact ⟨k, z, by rw [ea], rfl, c.val S (.bl _) ht⟩
    · exact ht.elim
  · exact ht.elim
/-- the signs of a text -/
def signsU (x : Str) : List U := x.cps.toList.map fun c => U.str ⟨#[c]⟩
@[simp] def uSigns (t : UE) : UM (List U) := fun env h Po Pe => t env h (fun sv env1 h1 => match sv.u with
  | .str x => Po (signsU x) env1 h1
  | _ => False) Pe
theorem wk_str {K : PySem.W.Frag} {W : Wd} {H : Hp} {x : Str} : Wk K W H (signsU x) (L2.Its x) := fun W' H' l i => by
  unfold signsU
  refine ⟨fun hi => ?_, fun u e => ?_⟩
  · show x.cps.size ≤ i
    simpa using hi
  · rw [List.getElem?_map] at e
    cases q : x.cps.toList[i]? with
    | none => rw [q] at e; cases e
    | some c =>
      rw [q] at e
      cases e
      have q' : x.cps[i]? = some c := by rw [← Array.getElem?_toList]; exact q
      refine ⟨?_, fun v H'' ⟨e1, c', e2, e3⟩ => ?_⟩
      · show i < x.cps.size
        have := (List.getElem?_eq_some_iff.mp q).1
        simpa using this
      · subst e1
        subst e3
        rw [q'] at e2
        cases e2
        exact ⟨.refl, fun _ _ _ S => S, .str _⟩
theorem wi_str {l tg : Expr} {t : UE} (hl : WE X L l t) : WI X L tg l (uSigns t) := by
  refine PI.wk (L2.pi_str hl) fun σ H R ⟨W, env, h, Po, Pe, S, ht, c⟩ => ?_
  refine ⟨W, env, h, _, _, S, ht, ⟨fun W1 sv env1 h1 v1 H1 l1 S1 r1 q1 => ?_, c.er⟩⟩
  obtain ⟨W1', S1', l1', rv1⟩ := S1.freeze r1
  split at q1
  · rename_i x ex
    rw [ex] at rv1
    cases rv1
    exact ⟨x, rfl, c.ok W1' _ env1 h1 _ H1 (l1.trans l1') S1' wk_str q1⟩
  · exact q1.elim
end
end Vi

/-! Vi21: f-strings, methods of a shared list, the parts of a list. -/
namespace Vi
open PySem PySem.Spec PyProof.Rows L2
variable [WW]
/-- {x}: a text or an int -/
@[simp] def uFmt (t : UE) : UE := fun env h Po Pe => t env h (fun sv env1 h1 => match sv.u with
  | .str y => y.length ≤ sizeLine ∧ Po (.val (.str y)) env1 h1
  | .int i => i.natAbs.log2 < 1920 ∧ Po (.val (.str (numU i))) env1 h1
  | _ => False) Pe
/-- the parts, one behind the other -/
@[simp] def uJs : List UE → Str → UE
  | [], acc => fun env h Po _ => Po (.val (.str acc)) env h
  | t :: ts, acc => fun env h Po Pe => t env h (fun sv env1 h1 => match sv.u with
    | .str y => (acc ++ y).length ≤ sizeLine ∧ uJs ts (acc ++ y) env1 h1 Po Pe
    | _ => False) Pe
section
variable {X : Cx} {L : Lx} {pos : Pos}
theorem we_fmt {e : Expr} {t : UE} (he : WE X L e t) : WE X L (.FormattedValue e (-1) none pos) (uFmt t) := by
  refine PE.wk (L2.pe_fmt he) fun σ H Q ⟨W, env, h, Po, Pe, S, ht, c⟩ => ?_
  refine ⟨W, env, h, _, _, S, ht, ⟨fun W1 sv env1 h1 v H1 l1 S1 r1 q1 => ?_, c.er⟩⟩
  obtain ⟨W1', S1', l1', rv1⟩ := S1.freeze r1
  split at q1
  · rename_i y e1
    rw [e1] at rv1
    cases rv1
    exact .inl ⟨y, rfl, q1.1, (c.le (l1.trans l1')).ok W1' (.val (.str y)) env1 h1 _ H1 .refl S1' (.str _) q1.2⟩
  · rename_i i e1
    rw [e1] at rv1
    cases rv1
    exact .inr ⟨i, rfl, q1.1, (c.le (l1.trans l1')).ok W1' (.val (.str (numU i))) env1 h1 _ H1 .refl S1' (.str _) q1.2⟩
  · exact q1.elim
theorem js_ok : ∀ {ts : List UE} {acc : Str} {W : Wd} {env : En} {h : Hv} {Po : Sv → En → Hv → Prop} {Pe : Ex → En → Hv → Prop} {σ : L2.St} {H : Hp} {Q : VK}, Sim L.K W env h σ H → uJs ts acc env h Po Pe → Cont L (RT L) W H σ Po Pe Q →
    L2.tJs (ts.map fun t => lg L (RT L) t) acc σ H fun out H1 => Q (.str out) H1
  | [], acc, W, env, h, Po, Pe, σ, H, Q, S, ht, c => c.ok W (.val (.str acc)) env h _ H .refl S (.str _) ht
  | t :: ts, acc, W, env, h, Po, Pe, σ, H, Q, S, ht, c => by
    refine ⟨W, env, h, _, _, S, ht, ⟨fun W1 sv env1 h1 v H1 l1 S1 r1 q1 => ?_, c.er⟩⟩
    obtain ⟨W1', S1', l1', rv1⟩ := S1.freeze r1
    split at q1
    · rename_i y e1
      rw [e1] at rv1
      cases rv1
      exact ⟨y, rfl, q1.1, js_ok S1' q1.2 (c.le (l1.trans l1'))⟩
    · exact q1.elim
def WJ (X : Cx) (L : Lx) (es : List Expr) (ts : List UE) : Prop := L2.PJ X es (ts.map fun t => lg L (RT L) t)
theorem wj_nil : WJ X L [] [] := .nil
theorem wj_cons {e : Expr} {es : List Expr} {t : UE} {ts : List UE} (h : WE X L e t) (r : WJ X L es ts) : WJ X L (e :: es) (t :: ts) := .cons h r
theorem we_js {v1 v2 : Expr} {rest : List Expr} {ts : List UE} (h : WJ X L (v1 :: v2 :: rest) ts) : WE X L (.JoinedStr (v1 :: v2 :: rest) pos) (uJs ts Str.empty) :=
  PE.wk (L2.pe_joined h) fun _ _ _ ⟨_, _, _, _, _, S, ht, c⟩ => js_ok S ht c
/-- x.m(e, ..), x a shared list -/
@[simp] def uMtR (k : Nat) (f : UMt) (t : UA) : UE := fun env h Po Pe => (∃ r us, env[k]? = some (some (.val (.ref r))) ∧ obL h r = some us) ∧ t env h (fun args env1 h1 => match env1[k]? with
  | some (some (.val (.ref r))) => (match obL h1 r with
    | some us => f us args fun u us' => Po (.val u) env1 (h1.set r (.lst us'))
    | none => False)
  | _ => False) Pe
theorem we_mtR {k : Nat} {f : UMt} {e : Expr} {es : List Expr} {x name : Str} {p apos cpos : Pos} {t : UA} {id : String} (hK : L.K = X.K) (slot : Slot "list" name id) (hty : typeOf (.builtin id) = pure (.type "method_descriptor")) (hm : MtU X id f)
    (hx : PE X (.Name x p) (tVar k)) (ha : WA X L (e :: es) t)
    (hbase : attributeBase (.Name x p) name X.env (eval (.Name x p) X.env) = eval (.Name x p) X.env := by rfl)
    (hfew : ((backTo cpos (starEach (e :: es) X.env)).all (fun x => !x.1) && (backToKw cpos (keywordEach [] X.env)).all (fun x => x.1.isSome) && decide ((e :: es).length + ([] : List Keyword).length + (if ([] : List Keyword).isEmpty then 0 else 1) < 30)) = true := by rfl)
    (hline : (apos.endLine == cpos.line) = true := by rfl) (hs : starEach (e :: es) X.env = (false, eval e X.env) :: starEach es X.env := by rfl) (hplain : (backTo cpos (starEach es X.env)).any (·.1) = false := by rfl) :
    WE X L (.Call (.Attribute (.Name x p) name apos) (e :: es) [] cpos) (uMtR k f t) := by
  refine PE.wk (pe_bm PySem.F.plainAttrs_list slot hty hm hx ha hbase hfew hline hs hplain) fun σ H Q ⟨W, env, h, Po, Pe, S, ⟨⟨r0, us0, e0, o0⟩, ht⟩, c⟩ => ?_
  obtain ⟨v0, ev, rr0⟩ := S.slots k _ e0
  have rr0' : RV L.K W H (.ref r0) v0 := rr0
  cases rr0' with
  | ref m0 n0 =>
    rename_i a
    obtain ⟨_, vs0, ea0, _⟩ := obL_at S.sh o0 m0
    refine ⟨_, ev, .inl ⟨rfl, vs0, .inl (.inl ea0)⟩, W, env, h, _, _, S, ht, ⟨fun W1 args env1 h1 avs H1 l1 S1 r1 q1 => ?_, c.er⟩⟩
    split at q1
    · rename_i r e1
      obtain ⟨v1, ev1, rr1⟩ := S1.slots k _ e1
      rw [ev] at ev1
      cases ev1
      have rr1' : RV L.K W1 H1 (.ref r) (.ref a) := rr1
      cases rr1' with
      | ref m1 n1 =>
        split at q1
        · rename_i us o1
          obtain ⟨_, vs, ea, rv⟩ := obL_at S1.sh o1 m1
          refine ⟨L.K, W1, us, args, a, vs, rfl, ea, rv, r1, _, q1, fun u us' v vs' ru rus q => ?_⟩
          obtain ⟨S2, l2⟩ := S1.upd_obj o1 m1 rus
          exact c.ok W1 (.val u) _ _ v _ (l1.trans l2) S2 (RV.le l2.toLeP ru) q
        · exact q1.elim
    · exact q1.elim
/-- a, b, .. = a list -/
@[simp] def gL (ks : List Nat) : UG := fun u env h Q => match u with
  | .lst us => setsU ks us env h Q
  | .ref r => (match obL h r with
    | some us => setsU ks us env h Q
    | none => False)
  | _ => False
theorem wg_lst {es : List Expr} {j : Nat} {ks : List Nat} (hc : X.calm = true) (hK : L.K = X.K) (h : PGs X es (gNames ks)) (hn : (assignEach es X.env).length = ks.length := by rfl) (hst : (assignEach es X.env).findIdx? (·.1) = none := by rfl) : WG X L (.Tuple es j pos) ks (gL ks) := by
  refine PG.wk (pg_lst (n := ks.length) hc h hn hst) fun v σ H Q ⟨W, env, h, u, P, S, r, ht, c⟩ => ?_
  cases u with
  | lst us =>
    cases r with
    | lst n e rs => exact ⟨_, _, rfl, .inl (.inl e), by rw [← rs.length]; exact setsU_len ht, sets_ok (fun _ z => z) S rs ht c⟩
  | ref i =>
    simp only [gL] at ht
    split at ht
    · rename_i us o
      cases r with
      | ref m n =>
        obtain ⟨_, vs, ea, rv⟩ := obL_at S.sh o m
        exact ⟨_, vs, rfl, .inl (.inl ea), by rw [← rv.length]; exact setsU_len ht, sets_ok (fun _ z => z) S rv ht c⟩
    · exact ht.elim
  | _ => exact ht.elim
end
end Vi

/-! Vi22: a new list stored in a shared list, repr of a shared list. -/
namespace Vi
open PySem PySem.Spec PyProof.Rows L2
variable [WW]
/-- x[i] = a new list, x a shared list: the new one is shared, too -/
@[simp] def uSetIxR (k : Nat) (ti te : UE) : US := fun env h P => te env h (fun sv env1 h1 => match sv with
  | .own us => (∃ x, env1[k]? = some (some x)) ∧ ti env1 (h1 ++ [.lst us]) (fun iv env2 h2 => setAt k iv.u (.ref h1.length) env2 h2 P.nx) P.er
  | _ => False) P.er
@[simp] def bReprR : UB := fun us h P => match us with
  | [.ref r] => (match obL h r with
    | some xs => (match reprU (.lst xs) with
      | some x => P (.val (.str x)) h
      | none => False)
    | none => False)
  | _ => False
section
variable {X : Cx} {L : Lx}
theorem ws_setIxR {k : Nat} {x : Str} {p pos pos' : Pos} {i e : Expr} {ti te : UE} (he : WE X L e te) (hx : PE X (.Name x p) (tVar k)) (hi : WE X L i ti) (hs : swapsWithSole [.Subscript (.Name x p) i pos'] e pos.line X.env = pure false := by rfl)
    (hw : swappedStores [.Subscript (.Name x p) i pos'] e X.env = pure none := by rfl) (h1 : (assignEach [.Subscript (.Name x p) i pos'] X.env).map (·.2) = [assign (.Subscript (.Name x p) i pos') X.env] := by rfl)
    (hsub : ∀ v, assign (.Subscript (.Name x p) i pos') X.env v = (do
      let ov ← holding [v] (eval (.Name x p) X.env)
      let iv ← holding [v, ov] (eval i X.env)
      standAt pos'
      holding [v, ov, iv] (setItem ov iv v)
      release [v, ov, iv] []) := by intro _; rfl) : WS X L (.Assign [.Subscript (.Name x p) i pos'] e pos) (uSetIxR k ti te) := by
  refine PS.wk (ps_asg he (pg_sub hx hi set_list hsub) hs hw h1) fun D σ H ⟨W, env, h, P, S, ht, c⟩ => ?_
  refine ⟨W, env, h, _, _, S, ht, ⟨fun W1 sv env1 h1 y H1 l1 S1 r1 q1 => ?_, c.ret.er⟩⟩
  cases sv with
  | val u => exact q1.elim
  | dic _ _ => exact q1.elim
  | own us =>
    obtain ⟨W1', S1', l1', rv1⟩ := S1.share r1
    have c1 := c.le (l1.trans l1')
    obtain ⟨⟨x0, e0⟩, q1⟩ := q1
    obtain ⟨v, ev, _⟩ := S1'.slots k x0 e0
    refine ⟨v, ev, W1', env1, _, _, _, S1', q1, ⟨fun W2 iv env2 h2 z H2 l2 S2 r2 q2 => ?_, c1.ret.er⟩⟩
    obtain ⟨W2', S2', l2', rv2⟩ := S2.freeze r2
    obtain ⟨a, xs, n, j, ev2, e3, ea, ej, env', h', S3, l3, q3⟩ := setAt_ok S2' rv2 (rv1.le (l2.trans l2').toLeP) q2
    rw [ev] at ev2
    cases ev2
    exact ⟨a, xs, n, j, rfl, e3, ea, ej, c1.nx W2' env' h' σ _ ((l2.trans l2').trans l3) S3 q3⟩
theorem call_reprRU (hg : X.A.guards = some []) (hu : X.A.units + 64 < cLine) : CallR X (.builtin "repr") (lb X.K bReprR) := by
  intro pins s σ H xs us Q I r q
  obtain ⟨W, env, h, σ', ws, P, S, rr, ht, c⟩ := q
  unfold bReprR at ht
  split at ht
  · rename_i i
    obtain ⟨v, rfl, ru⟩ := RVs.one rr
    split at ht
    · rename_i xs' eo
      split at ht
      · rename_i x ex
        unfold reprU at ex
        split at ex
        · rename_i d ed
          split at ex
          · rename_i hc
            simp only [Bool.and_eq_true, decide_eq_true_eq, Bool.not_eq_true'] at hc
            obtain ⟨⟨⟨hs, hd⟩, hdp⟩, hz⟩ := hc
            cases ex
            obtain ⟨w, rfl, rx⟩ := vals1 r
            have fin : ∀ (h' : Heap) (u' : Tok) (tk : Nat), (∀ b o, s.heap.get? b = some o → h'.get? b = some o) → EP X pins σ Q (.str d.shown u') { s with heap := h', toks := tk } := fun h' u' tk hk =>
              ⟨.str d.shown, H, I.kept (h' := h') (t' := tk) hk, ⟨u', rfl⟩, c.val S (.str _) ht⟩
            cases ru with
            | ref m n =>
              rename_i a
              obtain ⟨_, vs, ea, rv⟩ := obL_at S.sh eo m
              have dp : Dp X.K H (.ref a) d := by
                simp only [toD] at ed
                obtain ⟨ds, eds, rfl⟩ := Option.map_eq_some_iff.mp ed
                exact .lst (.inl (.inl ea)) (rv.dp eds)
              obtain ⟨as, rd⟩ := Dp.reads I d (.ref a) w dp rx
              cases rd with
              | list h1 h2 h3 h4 => exact PySem.repr_of_reads' (.list h1 h2 h3 h4) hs (fun z => by rw [hd] at z; cases z) hg (by omega) (fun _ _ e => e) (fun h' u' tk hk => fin h' u' tk hk) hz
              | tuple h1 h2 h3 h4 => exact PySem.repr_of_reads' (.tuple h1 h2 h3 h4) hs (fun z => by rw [hd] at z; cases z) hg (by omega) (fun _ _ e => e) (fun h' u' tk hk => fin h' u' tk hk) hz
              | dict h1 h2 h3 h4 h5 => simp [PyData.hasDict] at hd
              | none => exact PySem.P.repr_of_none (fin s.heap _ _ fun _ _ e => e)
              | bool b => exact PySem.P.repr_of_bool (by cases b <;> exact fin s.heap _ _ fun _ _ e => e)
              | int i t => exact PySem.P.repr_of_int (by simpa [PyData.showable] using hs) (fin s.heap _ _ fun _ _ e => e)
              | str z t => exact PySem.P.repr_of_str (fin s.heap _ _ fun _ _ e => e) (by simpa [PyData.shown] using hz)
          · cases ex
        · cases ex
      · exact ht.elim
    · exact ht.elim
  · exact ht.elim
end
end Vi

/-! Vi23: dicts. -/
namespace Vi
open PySem PySem.Spec PyProof.Rows L2
variable [WW]
section
variable {X : Cx} {pins : List (Addr × Obj)} {σ : L2.St} {H : Hp} {s : Shared} {W : Wd}
/-! ### a tree as a key -/
mutual
theorem RV.key (I : L2.Inv X pins σ H s) : ∀ {u : U} {v : V} {a : Value} {k : NestedKey}, RV X.K W H u v → RelV v a → nkU u = some k → NestedIs s.heap k a
  | _, _, _, _, .non, r, e => by
    cases e
    obtain rfl := show _ = Value.none from r
    exact .none
  | _, _, _, _, .bl b, r, e => by
    cases e
    obtain rfl := show _ = Value.bool b from r
    exact .bool rfl
  | _, _, _, _, .int i, r, e => by
    cases e
    obtain ⟨t, rfl⟩ := show ∃ t, _ = Value.int i t from r
    exact .int i t
  | _, _, _, _, .str x, r, e => by
    cases e
    obtain ⟨t, rfl⟩ := show ∃ t, _ = Value.str x t from r
    exact .text x t
  | _, _, _, _, .ty _, r, e => by cases e
  | _, _, _, _, .tup (us := us) (vs := vs) h rs, r, e => by
    obtain rfl := show _ = Value.ref _ from r
    obtain ⟨ks, e1, rfl⟩ := Option.map_eq_some_iff.mp (show (nkUs us).map NestedKey.tup = _ from e)
    obtain ⟨its, rv, ⟨o, ho, hc, n, hd⟩, _⟩ := I.tuple h.sq
    exact .tup ho hc hd (by simpa using RVs.keys I rs rv e1)
  | _, _, _, _, .lst _ _ _, r, e => by cases e
  | _, _, _, _, .scr _, r, e => by cases e
  | _, _, _, _, .ref _ _, r, e => by cases e
  | _, _, _, _, .err _ _, r, e => by cases e
  | _, _, _, _, .ecl _ _, r, e => by cases e
  | _, _, _, _, .dic _ _ _ _, r, e => by cases e
  | _, _, _, _, .erf _ _ _ _ _, r, e => by cases e
theorem RVs.keys (I : L2.Inv X pins σ H s) : ∀ {us : List U} {vs : List V} {as : List Value} {ks : List NestedKey}, RVs X.K W H us vs → Vals vs as → nkUs us = some ks → NestedAll s.heap ks as
  | _, _, _, _, .nil, r, e => by cases e; cases r; exact .nil
  | _, _, _, _, .cons (u := u) (us := us) a b, r, e => by
    cases r with
    | cons r1 r2 =>
      unfold nkUs at e
      cases q : nkU u with
      | none => rw [q] at e; cases e
      | some k =>
        cases q2 : nkUs us with
        | none => rw [q, q2] at e; cases e
        | some ks =>
          rw [q, q2] at e
          cases e
          exact .cons (RV.key I a r1 q) (RVs.keys I b r2 q2)
end
end
/-! ### what a dict holds -/
def dicAt : List U → List U → NestedKey → Option U
  | u :: us, v :: vs, k => if nkU u = some k then some v else dicAt us vs k
  | _, _, _ => none
def dicHas (ks : List U) (k : NestedKey) : Bool := ks.any fun u => decide (nkU u = some k)
def putV : List U → List U → NestedKey → U → List U
  | u :: us, v :: vs, k, x => (if nkU u = some k then x else v) :: putV us vs k x
  | _, vs, _, _ => vs
def putKs (ks : List U) (k : NestedKey) (u : U) : List U := if dicHas ks k then ks else ks ++ [u]
def putVs (ks vs : List U) (k : NestedKey) (x : U) : List U := if dicHas ks k then putV ks vs k x else vs ++ [x]
def isSc : U → Bool
  | .int _ => true
  | .str _ => true
  | _ => false
def isTp : U → Bool
  | .tup _ => true
  | _ => false
/-- the key u suits the keys that stand there -/
def keyOk (ks : List U) (u : U) : Prop := (isSc u = true ∧ ∀ k ∈ ks, isSc k = true) ∨ (isTp u = true ∧ ∀ k ∈ ks, isTp k = true)
def nkK : Key → NestedKey
  | .inl i => .num i
  | .inr x => .text x
theorem nkU_kU (k : Key) : nkU (kU k) = some (nkK k) := by cases k <;> rfl
theorem nkK_inj {a b : Key} (e : nkK a = nkK b) : a = b := by
  cases a <;> cases b <;> cases e <;> rfl
theorem nkU_kU_eq (k j : Key) : (nkU (kU k) = some (nkK j)) ↔ k = j := by
  rw [nkU_kU]
  exact ⟨fun e => nkK_inj (Option.some.inj e), fun e => by rw [e]⟩
theorem isSc_kU {u : U} (h : isSc u = true) : ∃ k : Key, u = kU k := by
  cases u with
  | int i => exact ⟨.inl i, rfl⟩
  | str x => exact ⟨.inr x, rfl⟩
  | _ => cases h
theorem RV.kU_ {K : PySem.W.Frag} {W : Wd} {H : Hp} {k : Key} {v : V} (r : RV K W H (kU k) v) : v = kV k := by
  cases k with
  | inl i => cases r; rfl
  | inr x => cases r; rfl
/-- what is found stands for what is found -/
def Fnd (K : PySem.W.Frag) (W : Wd) (H : Hp) : Option U → Option V → Prop
  | some u, some v => RV K W H u v
  | none, none => True
  | _, _ => False
theorem Fnd.isSome {K : PySem.W.Frag} {W : Wd} {H : Hp} {a : Option U} {b : Option V} (f : Fnd K W H a b) : a.isSome = b.isSome := by
  cases a <;> cases b <;> first | rfl | exact f.elim
theorem fnd_K {K : PySem.W.Frag} {W : Wd} {H : Hp} (key : Key) : ∀ {kvs : List (Key × V)} {vs : List U}, RVs K W H vs (kvs.map (·.2)) → Fnd K W H (dicAt (kvs.map fun p => kU p.1) vs (nkK key)) (valV kvs key)
  | [], vs, r => by
    cases r
    exact trivial
  | p :: kvs, _, r => by
    cases r with
    | @cons u _ us _ a b =>
      by_cases e : p.1 = key
      · rw [valV_pos e]
        show Fnd K W H (if nkU (kU p.1) = some (nkK key) then some u else _) _
        rw [if_pos ((nkU_kU_eq _ _).mpr e)]
        exact a
      · rw [valV_neg e]
        show Fnd K W H (if nkU (kU p.1) = some (nkK key) then some u else _) _
        rw [if_neg (fun z => e ((nkU_kU_eq _ _).mp z))]
        exact fnd_K key b
abbrev YP (xs : List (NestedKey × Addr × V)) (ys : List (NestedKey × Addr × Value)) : Prop := Paired (fun p q => p.1 = q.1 ∧ p.2.1 = q.2.1 ∧ RelV p.2.2 q.2.2) xs ys
theorem fnd_N {K : PySem.W.Frag} {W : Wd} {H : Hp} (key : NestedKey) : ∀ {xs : List (NestedKey × Addr × V)} {ys : List (NestedKey × Addr × Value)} {ks vs : List U}, YP xs ys → ks.map nkU = xs.map (fun x => some x.1) → RVs K W H vs (xs.map (·.2.2)) →
    ∃ r : Option V, Fnd K W H (dicAt ks vs key) r ∧ RelO r ((atKey ys key).map (·.2))
  | _, _, ks, vs, .nil, e, r => by
    cases ks with
    | nil => exact ⟨none, by cases r; exact trivial, trivial⟩
    | cons _ _ => simp at e
  | _, _, ks, vs, .cons (a := a) (b := b) (l₂ := bs) h t, e, r => by
    cases ks with
    | nil => simp at e
    | cons u us =>
      cases r with
      | @cons x _ xs _ r1 r2 =>
        rw [List.map_cons, List.map_cons, List.cons.injEq] at e
        obtain ⟨e1, e2⟩ := e
        by_cases q : a.1 = key
        · refine ⟨some a.2.2, ?_, ?_⟩
          · show Fnd K W H (if nkU u = some key then some x else _) _
            rw [if_pos (by rw [e1, q])]
            exact r1
          · have : (atKey (b :: bs) key) = some b.2 := by simp [atKey, ← h.1, q]
            rw [this]
            exact h.2.2
        · obtain ⟨o, f1, f2⟩ := fnd_N key (ks := us) t e2 r2
          refine ⟨o, ?_, ?_⟩
          · show Fnd K W H (if nkU u = some key then some x else _) _
            rw [if_neg (fun z => q (by rw [e1] at z; exact Option.some.inj z))]
            exact f1
          · have : (atKey (b :: bs) key) = atKey bs key := by simp [atKey, ← h.1, q]
            rw [this]
            exact f2
theorem dicHas_isSome : ∀ {ks vs : List U} {k : NestedKey}, ks.length = vs.length → dicHas ks k = (dicAt ks vs k).isSome
  | [], [], _, _ => rfl
  | [], _ :: _, _, e => by simp at e
  | _ :: _, [], _, e => by simp at e
  | u :: us, v :: vs, k, e => by
    show (decide (nkU u = some k) || dicHas us k) = (if nkU u = some k then some v else dicAt us vs k).isSome
    by_cases q : nkU u = some k
    · simp [q]
    · simp [q]
      exact dicHas_isSome (by simpa using e)
/-! ### the dict in the heap -/
section
variable {X : Cx} {pins : List (Addr × Obj)} {σ : L2.St} {H : Hp} {s : Shared} {W : Wd} {a : Addr} {o : HO} {ks vs : List U} {kv vv : List V} {u : U} {x : V} {ax : Value} {k : NestedKey}
theorem dn_heap (hw : X.w = WW.w) (I : L2.Inv X pins σ H s) {xs : List (NestedKey × Addr × V)} (hx : Rd H a (DnO a xs)) (hd : ∀ x ∈ xs, x.1.depth ≤ 8) (ek : kv = xs.map (fun x => V.ref x.2.1)) (en : ks.map nkU = xs.map fun x => some x.1)
    (rk : RVs X.K W H ks kv) : (a == sysModules) = false ∧ ∃ ys, YP xs ys ∧ s.heap.DictOfH (nestedKind X.prog X.w) a ys := by
  obtain ⟨⟨hs, ys, hp, ob, es, ep, h1, h2, h3, h4, h5⟩, zz⟩ := hx.ok I.hok
  clear zz
  refine ⟨hs, ys, hp, ob, es, ep, h1, h2, h3, ?_, ?_, h5⟩
  · rw [h4]
    refine List.map_congr_left fun x _ => ?_
    show (⟨x.1.hash WW.w, .ref x.2.1, x.2.2⟩ : DictEntry) = ⟨x.1.hash X.w, .ref x.2.1, x.2.2⟩
    rw [hw]
  · -- the keys
    clear h1 h2 h3 h4 h5 hx
    subst ek
    induction hp generalizing ks with
    | nil => intro x hx; cases hx
    | @cons p q ps qs h t ih =>
      cases ks with
      | nil => simp at en
      | cons u us =>
        rw [List.map_cons, List.map_cons, List.cons.injEq] at en
        rw [List.map_cons] at rk
        cases rk with
        | cons r1 r2 =>
          intro x hx
          rcases List.mem_cons.mp hx with e | hx
          · subst e
            refine ⟨?_, by rw [← h.1]; exact hd _ List.mem_cons_self⟩
            have := r1.key I (a := .ref x.2.1) (k := x.1) (by rw [h.2.1]; rfl) (by rw [en.1, h.1])
            exact this
          · exact ih (fun x hx => hd x (List.mem_cons_of_mem _ hx)) en.2 r2 x hx
/-- the dict at a answers for the key u -/
structure DicAns (X : Cx) (pins : List (Addr × Obj)) (σ : L2.St) (H : Hp) (s : Shared) (W : Wd) (a : Addr) (ax : Value) (f : Option U) : Prop where
  ty : s.TypeIs (.ref a) "dict"
  nod : ∀ b, Value.ref a = .ref b → ∃ ob, s.heap.get? b = some ob ∧ ob.dict = none
  at_ : ∃ r : Option V, Fnd X.K W H f r ∧
    (∀ (A : Around) (E : Value → Shared → Prop) (Q : Value → Shared → Prop), A.units + 16 < cLine → (∀ s', L2.Inv X pins σ H s' → Q (.bool r.isSome) s') → wpAny (model X.prog X.w) A (compareOp .In ax (.ref a)) Q E s) ∧
    (∀ (A : Around) (E : Value → Shared → Prop) (Q : Value → Shared → Prop), A.units + 16 < cLine → (∀ s', L2.Inv X pins σ H s' → Q (.bool (!r.isSome)) s') → wpAny (model X.prog X.w) A (compareOp .NotIn ax (.ref a)) Q E s) ∧
    (∀ (A : Around) (E : Value → Shared → Prop) (Q : Value → Shared → Prop) (v : V), A.units + 16 < cLine → r = some v → (∀ w' s', L2.Inv X pins σ H s' → RelV v w' → Q w' s') → wpAny (model X.prog X.w) A (getItem (.ref a) ax) Q E s) ∧
    (∀ (A : Around) (E : Value → Shared → Prop) (Q : Value → Shared → Prop) (d : V) (ad : Value), A.units + 16 < cLine → RelV d ad → (∀ w' s', L2.Inv X pins σ H s' → RelV (r.getD d) w' → Q w' s') → wpAny (model X.prog X.w) A (call (.builtin "dict.get") [.ref a, ax, ad]) Q E s) ∧
    (∀ (A : Around) (E : Value → Shared → Prop) (Q : Value → Shared → Prop), A.units + 16 < cLine → (∀ w' s', L2.Inv X pins σ H s' → RelV (r.getD .non) w' → Q w' s') → wpAny (model X.prog X.w) A (call (.builtin "dict.get") [.ref a, ax]) Q E s)
theorem room8 {A : Around} (h : A.units + 16 < cLine) : A.in1.units + 8 < cLine := by
  have : A.in1.units ≤ A.units + 1 := Nat.le_refl _
  omega
/-- by the library's kind of nested keys -/
theorem dic_ansN (hw : X.w = WW.w) (I : L2.Inv X pins σ H s) {ys : List (NestedKey × Addr × Value)} {b : Addr} {r : Option V} {f : Option U} (hsm : (a == sysModules) = false) (dd : s.heap.DictOfH (nestedKind X.prog X.w) a ys)
    (hb : (nestedKind X.prog X.w).is s.heap k b) (f1 : Fnd X.K W H f r) (f2 : RelO r ((atKey ys k).map (·.2))) : DicAns X pins σ H s W a (.ref b) f := by
  have dk : s.heap.DictKeyed (nestedKind X.prog X.w) a (pairsH ys) := ⟨ys, dd, rfl⟩
  rw [← valueAt_pairsH] at f2
  refine ⟨dd.typeIs, ?_, r, f1, ?_, ?_, ?_, ?_, ?_⟩
  · intro c e
    cases e
    obtain ⟨ob, _, _, h1, h2, _⟩ := dd
    exact ⟨ob, h1, h2.2.1⟩
  · intro A E Q hu q
    refine in_keyed (knd := nestedKind X.prog X.w) (room8 hu) hb hsm dk ?_
    rw [← f2.isSome_eq]
    exact q _ (I.tok _)
  · intro A E Q hu q
    refine notIn_keyed (knd := nestedKind X.prog X.w) (room8 hu) hb hsm dk ?_
    rw [← f2.isSome_eq]
    exact q _ (I.tok _)
  · intro A E Q v hu e q
    subst e
    obtain ⟨w', hw', rw'⟩ := RelO.some_of (v := v) f2
    exact getItem_keyed (knd := nestedKind X.prog X.w) (room8 hu) hb dk hw' (q w' _ (I.tok _) rw')
  · intro A E Q d ad hu rd q
    exact getOr_keyed (knd := nestedKind X.prog X.w) (room8 hu) hb hsm dk (q _ _ (I.tok _) (f2.getD rd))
  · intro A E Q hu q
    exact get_keyed (knd := nestedKind X.prog X.w) (room8 hu) hb hsm dk (q _ _ (I.tok _) (f2.getD rfl))
theorem dic_ans (hw : X.w = WW.w) (I : L2.Inv X pins σ H s) (hx : Rd H a o) (ds : DicS a ks kv vv o) (rk : RVs X.K W H ks kv) (rv : RVs X.K W H vs vv) (ru : RV X.K W H u x) (rx : RelV x ax) (hk : nkU u = some k) (hd : k.depth ≤ 8) (ok : keyOk ks u) :
    DicAns X pins σ H s W a ax (dicAt ks vs k) := by
  rcases ds with ⟨kvs, rfl, rfl, rfl, rfl⟩ | ⟨xs, hne, hz, hdp, rfl, rfl, rfl, en⟩
  · by_cases hsc : isSc u = true
    · obtain ⟨key, rfl⟩ := isSc_kU hsc
      rw [nkU_kU] at hk
      cases hk
      have ex := ru.kU_
      subst ex
      have g : DGet H a (kV key) (valV kvs key) := .inl ⟨kvs, key, hx, rfl, rfl⟩
      refine ⟨dict_typeIs I g, dict_noDict I g, valV kvs key, fnd_K key rv, ?_, ?_, ?_, ?_, ?_⟩
      · intro A E Q hu q; exact d_in (by omega) I g rx q
      · intro A E Q hu q; exact d_notIn (by omega) I g rx q
      · intro A E Q v hu e q; exact d_getItem (by omega) I (by rw [e] at g; exact g) rx q
      · intro A E Q d ad hu rd q; exact d_get2 (by omega) I g rx rd q
      · intro A E Q hu q; exact d_get1 (by omega) I g rx q
    · have ht : isTp u = true ∧ ∀ k ∈ kvs.map (fun p => kU p.1), isTp k = true := by
        rcases ok with ⟨z, _⟩ | z
        · exact absurd z hsc
        · exact z
      have e0 : kvs = [] := by
        cases kvs with
        | nil => rfl
        | cons p _ =>
          have := ht.2 (kU p.1) (by simp)
          cases hp : p.1 <;> (rw [hp] at this; cases this)
      subst e0
      cases rk
      cases rv
      obtain ⟨z, hsm, _, rel, dd⟩ := dk_rd I.hok hx
      cases rel
      obtain ⟨ob, es, ep, h1, h2, h3, h4⟩ := dd
      have dd2 : s.heap.DictOfH (nestedKind X.prog X.w) a [] := ⟨ob, es, ep, h1, h2, h3, (by
        have z := h4.2.1
        generalize es.toList = l at z
        cases z
        rfl), (fun x hx => by cases hx), List.nodup_nil⟩
      cases u with
      | tup us =>
        cases ru with
        | tup h rs =>
          obtain rfl := show _ = Value.ref _ from rx
          exact dic_ansN (r := none) hw I hsm dd2 ⟨RV.key I (.tup h rs) rx hk, hd⟩ trivial trivial
      | _ => exact absurd ht.1 (by simp [isTp])
  · have ht : isTp u = true := by
      rcases ok with ⟨_, z⟩ | z
      · exfalso
        cases ks with
        | nil =>
          cases xs with
          | nil => exact hne rfl
          | cons _ _ => simp at en
        | cons k0 ks =>
          cases xs with
          | nil => exact hne rfl
          | cons x0 xs =>
            have q := z k0 List.mem_cons_self
            rw [List.map_cons] at rk
            cases rk with
            | cons r1 _ =>
              cases k0 with
              | int _ => cases r1
              | str _ => cases r1
              | _ => cases q
      · exact z.1
    obtain ⟨hsm, ys, hp, dd⟩ := dn_heap hw I hx hdp rfl en rk
    obtain ⟨r, f1, f2⟩ := fnd_N (K := X.K) (W := W) (H := H) k hp en rv
    cases u with
    | tup us =>
      cases ru with
      | tup h rs =>
        obtain rfl := show _ = Value.ref _ from rx
        exact dic_ansN hw I hsm dd ⟨RV.key I (.tup h rs) rx hk, hd⟩ f1 f2
    | _ => exact absurd ht (by simp [isTp])
end
end Vi

/-! Vi24: dicts: in, d[k], d.get, d[k] = v, {}, {k: v}, walks. -/
namespace Vi
open PySem PySem.Spec PyProof.Rows L2
variable [WW]
def DicV (K : PySem.W.Frag) (W : Wd) (H : Hp) (ks vs : List U) (a : Addr) : Prop := ∃ o kv vv, Rd H a o ∧ DicS a ks kv vv o ∧ RVs K W H ks kv ∧ RVs K W H vs vv
/-- u is the key k, for keys like ks -/
structure KeyIn (ks : List U) (u : U) (k : NestedKey) : Prop where
  nk : nkU u = some k
  dp : k.depth ≤ 8
  ok : keyOk ks u
@[simp] def dicSlot (env : En) (k : Nat) (Q : List U → List U → Prop) : Prop := match env[k]? with
  | some (some (.dic ks vs)) => Q ks vs
  | some (some (.val (.dic ks vs))) => Q ks vs
  | _ => False
def xorB (neg b : Bool) : Bool := if neg then !b else b
@[simp] theorem xorB_false (b : Bool) : xorB false b = b := rfl
@[simp] theorem xorB_true (b : Bool) : xorB true b = !b := rfl
@[simp] def uInD (k : Nat) (neg : Bool) (te : UE) : UE := fun env h Po Pe => te env h (fun sv env1 h1 => dicSlot env1 k fun ks vs => ∃ key, KeyIn ks sv.u key ∧ Po (.val (.bl (xorB neg (dicAt ks vs key).isSome))) env1 h1) Pe
@[simp] def uIxD (k : Nat) (ti : UE) : UE := fun env h Po Pe => (dicSlot env k fun _ _ => True) ∧ ti env h (fun iv env1 h1 => dicSlot env1 k fun ks vs => ∃ key v, KeyIn ks iv.u key ∧ dicAt ks vs key = some v ∧ Po (.val v) env1 h1) Pe
@[simp] def uGetD (k : Nat) (ti tx : UE) : UE := fun env h Po Pe => (dicSlot env k fun _ _ => True) ∧ ti env h (fun iv env1 h1 => tx env1 h1 (fun xv env2 h2 => dicSlot env2 k fun ks vs => ∃ key, KeyIn ks iv.u key ∧ Po (.val ((dicAt ks vs key).getD xv.u)) env2 h2) Pe) Pe
@[simp] def uSetD (k : Nat) (ti te : UE) : US := fun env h P => te env h (fun sv env1 h1 => (∃ ks vs, env1[k]? = some (some (.dic ks vs))) ∧ ti env1 h1 (fun iv env2 h2 => match env2[k]? with
  | some (some (.dic ks vs)) => ∃ key, KeyIn ks iv.u key ∧ ks.length < sizeLine ∧ P.nx (env2.set k (some (.dic (putKs ks key iv.u) (putVs ks vs key sv.u)))) h2
  | _ => False) P.er) P.er
@[simp] def uDic0 : UE := fun env h Po _ => Po (.dic [] []) env h
@[simp] def uDic1 (tk tv : UE) : UE := fun env h Po Pe => tk env h (fun x env1 h1 => tv env1 h1 (fun y env2 h2 => ∃ key, KeyIn [] x.u key ∧ Po (.dic [x.u] [y.u]) env2 h2) Pe) Pe
@[simp] def uKeys (te : UE) : UM (List U) := fun env h Po Pe => te env h (fun sv env1 h1 => match sv.u with
  | .dic ks _ => Po ks env1 h1
  | _ => False) Pe
section
variable {X : Cx} {L : Lx} {pins : List (Addr × Obj)} {σ : L2.St} {H : Hp} {s : Shared} {W : Wd}
theorem RV.dicV {K : PySem.W.Frag} {ks vs : List U} {y : V} (r : RV K W H (.dic ks vs) y) : ∃ a, y = .ref a ∧ DicV K W H ks vs a := by
  cases r with
  | dic h d r1 r2 =>
    refine ⟨_, rfl, _, _, _, ?_, d, r1, r2⟩
    rcases h with ⟨_, h⟩ | h
    · exact .inl h
    · exact .inr h
theorem dicSlot_ok {K : PySem.W.Frag} {env : En} {h : Hv} {k : Nat} {Q : List U → List U → Prop} (S : Sim K W env h σ H) (q : dicSlot env k Q) : ∃ ks vs a, σ[k]? = some (some (.ref a)) ∧ DicV K W H ks vs a ∧ Q ks vs := by
  unfold dicSlot at q
  split at q
  · rename_i ks vs e
    obtain ⟨v, e1, a, o, kv, vv, rfl, n, ea, ds, r1, r2⟩ := S.slots k _ e
    exact ⟨ks, vs, a, e1, ⟨o, kv, vv, .inl ea, ds, r1, r2⟩, q⟩
  · rename_i ks vs e
    obtain ⟨v, e1, r⟩ := S.slots k _ e
    obtain ⟨a, rfl, d⟩ := RV.dicV r
    exact ⟨ks, vs, a, e1, d, q⟩
  · exact q.elim
/-! ### in -/
def rDicIn (K : PySem.W.Frag) (neg : Bool) : R2 := fun x y H Q => ∃ W a ks vs u k, y = .ref a ∧ DicV K W H ks vs a ∧ RV K W H u x ∧ KeyIn ks u k ∧ Q (.bl (xorB neg (dicAt ks vs k).isSome)) H
theorem op_dicIn (hw : X.w = WW.w) (hu : X.A.units + 64 < cLine) : OpR X (compareOp .In) (rDicIn X.K false) := by
  intro pins s σ H x y v u Q I rx ry ⟨W, a, ks, vs, t, k, ey, ⟨o, kv, vv, hx, ds, rk, rv⟩, ru, ki, q⟩
  subst ey
  obtain rfl : u = Value.ref a := ry
  obtain ⟨_, _, r, f, c, _⟩ := dic_ans hw I hx ds rk rv ru rx ki.nk ki.dp ki.ok
  exact c X.A X.xe _ (by omega) fun s' I' => ⟨.bl r.isSome, H, I', rfl, by rw [← f.isSome]; exact q⟩
theorem op_dicNotIn (hw : X.w = WW.w) (hu : X.A.units + 64 < cLine) : OpR X (compareOp .NotIn) (rDicIn X.K true) := by
  intro pins s σ H x y v u Q I rx ry ⟨W, a, ks, vs, t, k, ey, ⟨o, kv, vv, hx, ds, rk, rv⟩, ru, ki, q⟩
  subst ey
  obtain rfl : u = Value.ref a := ry
  obtain ⟨_, _, r, f, _, c, _⟩ := dic_ans hw I hx ds rk rv ru rx ki.nk ki.dp ki.ok
  exact c X.A X.xe _ (by omega) fun s' I' => ⟨.bl (!r.isSome), H, I', rfl, by rw [← f.isSome]; exact q⟩
theorem lg_inD {k : Nat} {neg : Bool} {te : UE} {σ : L2.St} {H : Hp} {Q : VK} (h : lg L (RT L) (uInD k neg te) σ H Q) : tOp (rDicIn L.K neg) (lg L (RT L) te) (tVar k) σ H Q := by
  obtain ⟨W, env, h, Po, Pe, S, ht, c⟩ := h
  refine ⟨W, env, h, _, _, S, ht, ⟨fun W1 sv env1 h1 y H1 l1 S1 r1 q1 => ?_, c.er⟩⟩
  obtain ⟨W2, S2, l2, r2⟩ := S1.freeze r1
  obtain ⟨ks, vs, a, ev, dv, key, ki, q⟩ := dicSlot_ok S2 q1
  exact ⟨_, ev, W2, a, ks, vs, sv.u, key, rfl, dv, r2, ki, c.ok W2 (.val (.bl _)) env1 h1 _ H1 (l1.trans l2) S2 (.bl _) q⟩
theorem we_inD {k : Nat} {a : Expr} {te : UE} {x : Str} {p pos : Pos} (hw : X.w = WW.w) (hK : L.K = X.K) (hu : X.A.units + 64 < cLine) (ha : WE X L a te) (hx : PE X (.Name x p) (tVar k)) (hm : behindInMarks .In (.Name x p) = false := by rfl) : WE X L (.Compare a [.In] [.Name x p] pos) (uInD k false te) :=
  PE.wk (pe_cmpR (op_dicIn hw hu) ha hx hm) fun _ _ _ h => by rw [← hK]; exact lg_inD h
theorem we_notInD {k : Nat} {a : Expr} {te : UE} {x : Str} {p pos : Pos} (hw : X.w = WW.w) (hK : L.K = X.K) (hu : X.A.units + 64 < cLine) (ha : WE X L a te) (hx : PE X (.Name x p) (tVar k)) (hm : behindInMarks .NotIn (.Name x p) = false := by rfl) : WE X L (.Compare a [.NotIn] [.Name x p] pos) (uInD k true te) :=
  PE.wk (pe_cmpR (op_dicNotIn hw hu) ha hx hm) fun _ _ _ h => by rw [← hK]; exact lg_inD h
theorem wt_inD {k : Nat} {a : Expr} {te : UE} {x : Str} {p pos : Pos} (hw : X.w = WW.w) (hK : L.K = X.K) (hu : X.A.units + 64 < cLine) (ha : WE X L a te) (hx : PE X (.Name x p) (tVar k)) (hm : behindInMarks .In (.Name x p) = false := by rfl) : WT X L (.Compare a [.In] [.Name x p] pos) (uB (uInD k false te)) :=
  PT.wk (pt_cmpR (op_dicIn hw hu) ha hx hm) fun _ _ _ h => by rw [← hK]; exact lg_inD (lg_B h)
theorem wt_notInD {k : Nat} {a : Expr} {te : UE} {x : Str} {p pos : Pos} (hw : X.w = WW.w) (hK : L.K = X.K) (hu : X.A.units + 64 < cLine) (ha : WE X L a te) (hx : PE X (.Name x p) (tVar k)) (hm : behindInMarks .NotIn (.Name x p) = false := by rfl) : WT X L (.Compare a [.NotIn] [.Name x p] pos) (uB (uInD k true te)) :=
  PT.wk (pt_cmpR (op_dicNotIn hw hu) ha hx hm) fun _ _ _ h => by rw [← hK]; exact lg_inD (lg_B h)
/-! ### d[k] -/
def rDicIx (K : PySem.W.Frag) : R2 := fun x y H Q => ∃ W a ks vs u k uv, x = .ref a ∧ DicV K W H ks vs a ∧ RV K W H u y ∧ KeyIn ks u k ∧ dicAt ks vs k = some uv ∧ ∀ v, RV K W H uv v → Q v H
theorem ix_dic (hw : X.w = WW.w) (hu : X.A.units + 64 < cLine) : IxR X (rDicIx X.K) := by
  intro value slice pins s σ H x y v u Q I rx ry ⟨W, a, ks, vs, t, k, uv, ex, ⟨o, kv, vv, hx, ds, rk, rv⟩, ru, ki, e, q⟩ hs
  subst ex
  obtain rfl : v = Value.ref a := rx
  obtain ⟨hT, _, r, f, _, _, c, _⟩ := dic_ans hw I hx ds rk rv ru ry ki.nk ki.dp ki.ok
  rw [e] at f
  cases r with
  | none => exact f.elim
  | some rv =>
    unfold subscriptTail
    refine wpAny_bind ?_
    rw [getitemInPython_of_ne hT.not_modules]
    refine wpAny_bind (wpAny_specialOf hT PySem.F.slot_dict_getitem.lookup ?_)
    have fin : wpAny (model X.prog X.w) X.A (subscripted slice false (.ref a) u) (fun r s₃ => wpAny (model X.prog X.w) X.A (letTemporaryGo value (.ref a) r >>= fun _ => pure r) (EP X pins σ Q) X.xe s₃) X.xe s := by
      rw [hs]
      exact wpAny_operating (c X.A X.xe _ rv (by omega) rfl fun w' s' I' rw' => wpAny_bind (wpAny_letTemporaryGo (wpAny_pure ⟨rv, H, I', rw', q _ f⟩)))
    first
      | exact wpAny_pure (wpAny_bind fin)
      | exact wpAny_bind (wpAny_pure (wpAny_bind fin))
      | exact wpAny_bind fin
theorem we_ixD {k : Nat} {x : Str} {p pos : Pos} {i : Expr} {ti : UE} (hw : X.w = WW.w) (hK : L.K = X.K) (hu : X.A.units + 64 < cLine) (hx : PE X (.Name x p) (tVar k)) (hi : WE X L i ti) (hs : PlainIx i) : WE X L (.Subscript (.Name x p) i pos) (uIxD k ti) := by
  refine PE.wk (pe_ix (ix_dic hw hu) hx hi hs) fun σ H Q ⟨W, env, h, Po, Pe, S, ⟨q0, ht⟩, c⟩ => ?_
  obtain ⟨_, _, a0, ev0, _⟩ := dicSlot_ok S q0
  refine ⟨_, ev0, W, env, h, _, _, S, ht, ⟨fun W1 iv env1 h1 y H1 l1 S1 r1 q1 => ?_, c.er⟩⟩
  obtain ⟨W2, S2, l2, r2⟩ := S1.freeze r1
  obtain ⟨ks, vs, a, ev, dv, key, v, ki, e, q⟩ := dicSlot_ok S2 q1
  rw [ev0] at ev
  cases ev
  rw [← hK]
  exact ⟨W2, a0, ks, vs, iv.u, key, v, rfl, dv, r2, ki, e, fun v' r' => c.ok W2 (.val v) env1 h1 v' H1 (l1.trans l2) S2 r' q⟩
/-! ### d.get(k, x) -/
theorem dicV_ty (hw : X.w = WW.w) (I : L2.Inv X pins σ H s) {ks vs : List U} {a : Addr} (d : DicV X.K W H ks vs a) : s.TypeIs (.ref a) "dict" ∧ ∀ b, Value.ref a = .ref b → ∃ ob, s.heap.get? b = some ob ∧ ob.dict = none := by
  obtain ⟨o, kv, vv, hx, ds, rk, rv⟩ := d
  rcases ds with ⟨kvs, rfl, rfl, rfl, rfl⟩ | ⟨xs, hne, hz, hdp, rfl, rfl, rfl, en⟩
  · obtain ⟨t1, t2, _⟩ := isD_at I (.inl ⟨kvs, hx⟩)
    exact ⟨t1, t2⟩
  · obtain ⟨hsm, ys, hp, dd⟩ := dn_heap hw I hx hdp rfl en rk
    refine ⟨dd.typeIs, fun c e => ?_⟩
    cases e
    obtain ⟨ob, _, _, h1, h2, _⟩ := dd
    exact ⟨ob, h1, h2.2.1⟩
def tGetD (K : PySem.W.Frag) (td ty tx : TE) : TE := fun σ H Q => td σ H fun x H1 => ∃ a, x = .ref a ∧ (∃ W ks vs, DicV K W H1 ks vs a) ∧ ty σ H1 fun y H2 => tx σ H2 fun z H3 => ∃ W ks vs u k d, DicV K W H3 ks vs a ∧ RV K W H3 u y ∧ RV K W H3 d z ∧ KeyIn ks u k ∧ ∀ v, RV K W H3 ((dicAt ks vs k).getD d) v → Q v H3
theorem pe_getD {o e f : Expr} {apos cpos : Pos} {td ty tx : TE} (hw : X.w = WW.w) (hu : X.A.units + 64 < cLine) (ho : PE X o td) (he : PE X e ty) (hf : PE X f tx) (m : M2 X o "get" apos e f cpos) : PE X (.Call (.Attribute o "get" apos) [e, f] [] cpos) (tGetD X.K td ty tx) := by
  refine ⟨fun pins s σ H Q I h => ?_⟩
  refine wpAny_Call_method m.base m.few m.line PySem.F.plainAttrs_dict PySem.F.slot_dict_get PySem.F.type_dict_get (thn (ho.run pins s σ H _ I h) fun u s1 ⟨x, H1, I1, rx, a, ex, ⟨W0, ks0, vs0, d0⟩, q1⟩ => ?_)
  subst ex
  obtain rfl : u = Value.ref a := rx
  obtain ⟨t1, t2⟩ := dicV_ty hw I1 d0
  refine ⟨t1, t2, ?_⟩
  rw [m.trees]
  refine Calls.callWith_builtin rfl (Calls.evalArgs_plain (Calls.spliced_cons (thn (he.run pins s1 σ H1 _ I1 q1) fun iv s2 ⟨y, H2, I2, ry, q2⟩ =>
    Calls.spliced_cons (thn (hf.run pins s2 σ H2 _ I2 q2) fun fv s3 ⟨z, H3, I3, rz, W, ks, vs, u, k, d, ⟨o, kv, vv, hx, ds, rk, rv⟩, ru, rd, ki, q3⟩ => Calls.spliced_nil ?_))))
  obtain ⟨_, _, r, f, _, _, _, c, _⟩ := dic_ans hw I3 hx ds rk rv ru ry ki.nk ki.dp ki.ok
  refine c X.A X.xe _ z fv (by omega) rz fun w' s4 I4 rw' => ⟨_, H3, I4, rw', q3 _ ?_⟩
  cases hf1 : dicAt ks vs k <;> rw [hf1] at f <;> cases r
  · exact rd
  · exact f.elim
  · exact f.elim
  · exact f
theorem we_getD {k : Nat} {e f : Expr} {ti tx : UE} {x : Str} {p apos cpos : Pos} (hw : X.w = WW.w) (hK : L.K = X.K) (hu : X.A.units + 64 < cLine) (hx : PE X (.Name x p) (tVar k)) (he : WE X L e ti) (hf : WE X L f tx)
    (hbase : attributeBase (.Name x p) "get" X.env (eval (.Name x p) X.env) = eval (.Name x p) X.env := by rfl) (hline : (apos.endLine == cpos.line) = true := by rfl)
    (hfew : ((backTo cpos (starEach [e, f] X.env)).all (fun x => !x.1) && (backToKw cpos (keywordEach [] X.env)).all (fun x => x.1.isSome) && decide (([e, f] : List Expr).length + ([] : List Keyword).length + (if ([] : List Keyword).isEmpty then 0 else 1) < 30)) = true := by rfl)
    (htr : backTo cpos (starEach [e, f] X.env) = [(false, eval e X.env), (false, eval f X.env)] := by rfl) : WE X L (.Call (.Attribute (.Name x p) "get" apos) [e, f] [] cpos) (uGetD k ti tx) := by
  refine PE.wk (pe_getD hw hu hx he hf ⟨hbase, hfew, hline, htr⟩) fun σ H Q ⟨W, env, h, Po, Pe, S, ⟨q0, ht⟩, c⟩ => ?_
  obtain ⟨ks0, vs0, a0, ev0, d0, _⟩ := dicSlot_ok S q0
  rw [← hK]
  refine ⟨_, ev0, a0, rfl, ⟨W, ks0, vs0, d0⟩, W, env, h, _, _, S, ht, ⟨fun W1 iv env1 h1 y H1 l1 S1 r1 q1 => ?_, c.er⟩⟩
  obtain ⟨W2, S2, l2, r2⟩ := S1.freeze r1
  have c1 := c.le (l1.trans l2)
  refine ⟨W2, env1, h1, _, _, S2, q1, ⟨fun W3 xv env2 h2 z H2 l3 S3 r3 q2 => ?_, c1.er⟩⟩
  obtain ⟨W4, S4, l4, r4⟩ := S3.freeze r3
  obtain ⟨ks, vs, a, ev, dv, key, ki, q⟩ := dicSlot_ok S4 q2
  rw [ev0] at ev
  cases ev
  exact ⟨W4, ks, vs, iv.u, key, xv.u, dv, r2.le (l3.trans l4).toLeP, r4, ki, fun v' r' => c1.ok W4 (.val _) env2 h2 v' H2 (l3.trans l4) S4 r' q⟩
end
end Vi

/-! Vi25: dicts: d[k] = v, {}, {k: v}, walks. -/
namespace Vi
open PySem PySem.Spec PyProof.Rows L2
variable [WW]
section
variable {X : Cx} {L : Lx} {pins : List (Addr × Obj)} {σ : L2.St} {H : Hp} {s : Shared} {W : Wd} {a : Addr} {o : HO} {ks vs : List U} {kv vv : List V} {u uv : U} {x v : V} {ax av : Value} {k : NestedKey}
/-- in its place, or at the end -/
def putX (xs : List (NestedKey × Addr × V)) (k : NestedKey) (b : Addr) (v : V) : List (NestedKey × Addr × V) :=
  if xs.any (fun x => decide (x.1 = k)) then xs.map (fun x => if x.1 = k then (x.1, x.2.1, v) else x) else xs ++ [(k, b, v)]
theorem YP.any {xs : List (NestedKey × Addr × V)} {ys : List (NestedKey × Addr × Value)} (h : YP xs ys) (k : NestedKey) : (xs.any fun x => decide (x.1 = k)) = (atKey ys k).isSome := by
  unfold YP at h
  induction h with
  | nil => rfl
  | @cons p q ps qs h t ih =>
    by_cases e : p.1 = k
    · have : (atKey (q :: qs) k) = some q.2 := by simp [atKey, ← h.1, e]
      rw [this]
      simp [e]
    · have : (atKey (q :: qs) k) = atKey qs k := by simp [atKey, ← h.1, e]
      rw [this, ← ih]
      simp [e]
theorem YP.map_ {xs : List (NestedKey × Addr × V)} {ys : List (NestedKey × Addr × Value)} (h : YP xs ys) (k : NestedKey) (r : RelV v av) : YP (xs.map (fun x => if x.1 = k then (x.1, x.2.1, v) else x)) (ys.map (putAt k av)) := by
  unfold YP at h ⊢
  induction h with
  | nil => exact .nil
  | @cons p q ps qs h t ih =>
    refine .cons ?_ ih
    obtain ⟨p1, p2, p3⟩ := p
    obtain ⟨q1, q2, q3⟩ := q
    obtain ⟨e1, e2, e3⟩ := h
    dsimp only at e1 e2 e3
    subst e1 e2
    unfold putAt
    dsimp only
    by_cases e : p1 = k
    · rw [if_pos e, if_pos e]; exact ⟨rfl, rfl, r⟩
    · rw [if_neg e, if_neg e]; exact ⟨rfl, rfl, e3⟩
theorem YP.snoc {xs : List (NestedKey × Addr × V)} {ys : List (NestedKey × Addr × Value)} (h : YP xs ys) (k : NestedKey) (b : Addr) (r : RelV v av) : YP (xs ++ [(k, b, v)]) (ys ++ [(k, b, av)]) := by
  unfold YP at h ⊢
  induction h with
  | nil => exact .cons ⟨rfl, rfl, r⟩ .nil
  | @cons p q ps qs h t ih => exact .cons h ih
theorem YP.put {xs : List (NestedKey × Addr × V)} {ys : List (NestedKey × Addr × Value)} (h : YP xs ys) (k : NestedKey) (b : Addr) (r : RelV v av) : YP (putX xs k b v) (storedH ys k b av) := by
  unfold putX storedH
  rw [← h.any k]
  split
  · exact h.map_ k r
  · exact h.snoc k b r
theorem any_nk : ∀ {xs : List (NestedKey × Addr × V)} {ks : List U}, ks.map nkU = xs.map (fun x => some x.1) → ∀ k, dicHas ks k = xs.any fun x => decide (x.1 = k)
  | [], [], _, _ => rfl
  | [], _ :: _, e, _ => by simp at e
  | _ :: _, [], e, _ => by simp at e
  | x :: xs, u :: us, e, k => by
    rw [List.map_cons, List.map_cons, List.cons.injEq] at e
    show (decide (nkU u = some k) || dicHas us k) = (decide (x.1 = k) || _)
    rw [any_nk e.2 k, e.1]
    congr 1
    exact decide_eq_decide.mpr ⟨fun z => Option.some.inj z, fun z => by rw [z]⟩
theorem putX_keys (xs : List (NestedKey × Addr × V)) (ks : List U) (e : ks.map nkU = xs.map fun x => some x.1) (k : NestedKey) (b : Addr) (v : V) (u : U) (hu : nkU u = some k) : (putKs ks k u).map nkU = (putX xs k b v).map fun x => some x.1 := by
  unfold putKs putX
  rw [any_nk e k]
  split
  · rw [List.map_map]
    rw [e]
    refine List.map_congr_left fun x _ => ?_
    simp only [Function.comp]
    split <;> rfl
  · simp [e, hu]
theorem putX_rk {K : PySem.W.Frag} {xs : List (NestedKey × Addr × V)} (e : ks.map nkU = xs.map fun x => some x.1) (rk : RVs K W H ks (xs.map fun x => V.ref x.2.1)) {b : Addr} (rb : RV K W H u (.ref b)) : RVs K W H (putKs ks k u) ((putX xs k b v).map fun x => V.ref x.2.1) := by
  unfold putKs putX
  rw [any_nk e k]
  split
  · rw [List.map_map]
    have : (xs.map fun x => V.ref x.2.1) = xs.map ((fun x => V.ref x.2.1) ∘ fun x => if x.1 = k then (x.1, x.2.1, v) else x) := by
      refine List.map_congr_left fun x _ => ?_
      simp only [Function.comp]
      split <;> rfl
    rw [← this]
    exact rk
  · rw [List.map_append]
    exact rk.append (.cons rb .nil)
theorem putX_rv {K : PySem.W.Frag} : ∀ {xs : List (NestedKey × Addr × V)} {ks vs : List U}, ks.map nkU = xs.map (fun x => some x.1) → RVs K W H vs (xs.map (·.2.2)) → ∀ {b : Addr} {v : V}, RV K W H uv v → RVs K W H (putVs ks vs k uv) ((putX xs k b v).map (·.2.2)) := by
  intro xs ks vs e rv b v r
  have go : ∀ {xs : List (NestedKey × Addr × V)} {ks vs : List U}, ks.map nkU = xs.map (fun x => some x.1) → RVs K W H vs (xs.map (·.2.2)) → RVs K W H (putV ks vs k uv) ((xs.map fun x => if x.1 = k then (x.1, x.2.1, v) else x).map (·.2.2)) := by
    intro xs
    induction xs with
    | nil =>
      intro ks vs e rv
      cases ks with
      | nil => cases rv; exact .nil
      | cons _ _ => simp at e
    | cons x xs ih =>
      intro ks vs e rv
      cases ks with
      | nil => simp at e
      | cons u us =>
        rw [List.map_cons, List.map_cons, List.cons.injEq] at e
        cases rv with
        | cons r1 r2 =>
          show RVs K W H ((if nkU u = some k then uv else _) :: putV us _ k uv) _
          rw [List.map_cons, List.map_cons]
          refine .cons ?_ (ih e.2 r2)
          by_cases q : x.1 = k
          · rw [if_pos (by rw [e.1, q]), if_pos q]; exact r
          · rw [if_neg (fun z => q (by rw [e.1] at z; exact Option.some.inj z)), if_neg q]; exact r1
  unfold putVs putX
  rw [any_nk e k]
  split
  · exact go e rv
  · rw [List.map_append]
    exact rv.append (.cons r .nil)
theorem putX_le (xs : List (NestedKey × Addr × V)) (b : Addr) : (putX xs k b v).length ≤ xs.length + 1 := by
  unfold putX
  split <;> simp
theorem putX_dp {xs : List (NestedKey × Addr × V)} (hd : ∀ x ∈ xs, x.1.depth ≤ 8) (hk : k.depth ≤ 8) (b : Addr) : ∀ x ∈ putX xs k b v, x.1.depth ≤ 8 := by
  intro x hx
  unfold putX at hx
  split at hx
  · obtain ⟨y, hy, rfl⟩ := List.mem_map.mp hx
    split
    · exact hd y hy
    · exact hd y hy
  · rcases List.mem_append.mp hx with h | h
    · exact hd x h
    · have e : x = (k, b, v) := by simpa using h
      rw [e]; exact hk
theorem putX_ne (xs : List (NestedKey × Addr × V)) (b : Addr) : putX xs k b v ≠ [] := by
  unfold putX
  split
  · rename_i h
    intro e
    have : xs = [] := by simpa using e
    rw [this] at h
    simp at h
  · simp
/-- the scalar keys -/
theorem putK_ks (kvs : List (Key × V)) (key : Key) (v : V) : putKs (kvs.map fun p => kU p.1) (nkK key) (kU key) = (putK kvs key v).map fun p => kU p.1 := by
  unfold putKs putK
  have e : dicHas (kvs.map fun p => kU p.1) (nkK key) = kvs.any fun kv => decide (kv.1 = key) := by
    unfold dicHas
    rw [List.any_map]
    congr 1
    funext p
    simp only [Function.comp]
    exact decide_eq_decide.mpr (nkU_kU_eq _ _)
  rw [e]
  split
  · rw [List.map_map]
    refine List.map_congr_left fun x _ => ?_
    simp only [Function.comp]
    split <;> rfl
  · simp
theorem putK_vs {K : PySem.W.Frag} {kvs : List (Key × V)} (key : Key) (rv : RVs K W H vs (kvs.map (·.2))) (r : RV K W H uv v) : RVs K W H (putVs (kvs.map fun p => kU p.1) vs (nkK key) uv) ((putK kvs key v).map (·.2)) := by
  have go : ∀ {kvs : List (Key × V)} {vs : List U}, RVs K W H vs (kvs.map (·.2)) → RVs K W H (putV (kvs.map fun p => kU p.1) vs (nkK key) uv) ((kvs.map fun kv => if kv.1 = key then (kv.1, v) else kv).map (·.2)) := by
    intro kvs
    induction kvs with
    | nil => intro vs rv; cases rv; exact .nil
    | cons p kvs ih =>
      intro vs rv
      cases rv with
      | cons r1 r2 =>
        show RVs K W H ((if nkU (kU p.1) = some (nkK key) then uv else _) :: putV _ _ (nkK key) uv) _
        rw [List.map_cons, List.map_cons]
        refine .cons ?_ (ih r2)
        by_cases q : p.1 = key
        · rw [if_pos ((nkU_kU_eq _ _).mpr q), if_pos q]; exact r
        · rw [if_neg (fun z => q ((nkU_kU_eq _ _).mp z)), if_neg q]; exact r1
  unfold putVs putK
  have e : dicHas (kvs.map fun p => kU p.1) (nkK key) = kvs.any fun kv => decide (kv.1 = key) := by
    unfold dicHas
    rw [List.any_map]
    congr 1
    funext p
    simp only [Function.comp]
    exact decide_eq_decide.mpr (nkU_kU_eq _ _)
  rw [e]
  split
  · exact go rv
  · rw [List.map_append]
    exact rv.append (.cons r .nil)
theorem kv_rvs {K : PySem.W.Frag} : ∀ kvs : List (Key × V), RVs K W H (kvs.map fun p => kU p.1) (kvs.map fun p => kV p.1)
  | [] => .nil
  | p :: kvs => by
    refine .cons ?_ (kv_rvs kvs)
    obtain ⟨key, v⟩ := p
    cases key with
    | inl i => exact .int i
    | inr x => exact .str x
theorem dn_write {A : Around} {E : Value → Shared → Prop} {Q : Unit → Shared → Prop} (hw : X.w = WW.w) (hu : A.units + 16 < cLine) (I : L2.Inv X pins σ H s) {xs : List (NestedKey × Addr × V)} {ys : List (NestedKey × Addr × Value)} {b : Addr} (hx : H a = some o) (mu : Mut (some o)) (hsm : (a == sysModules) = false)
    (hp : YP xs ys) (dd : s.heap.DictOfH (nestedKind X.prog X.w) a ys) (hb : (nestedKind X.prog X.w).is s.heap k b) (hz : xs.length < sizeLine) (ra : RelV v av)
    (q : ∀ s', L2.Inv X pins σ (upd H a (DnO a (putX xs k b v))) s' → Q () s') : wpAny (model X.prog X.w) A (setItem (.ref a) (.ref b) av) Q E s := by
  have hl : ys.length = xs.length := (Paired.length hp).symm
  refine wpAny_setItem_heap (knd := nestedKind X.prog X.w) (hsz := by omega) (room8 hu) hb dd fun h' dd' hs => q _ ?_
  obtain ⟨ob, es, ep, h1, h2, h3, h4, _, h5⟩ := dd'
  refine d_write I (by rw [hx]; exact mu) hs ⟨ob, h1⟩ ?_
  refine ⟨⟨hsm, _, hp.put k b ra, ob, es, ep, h1, h2, h3, ?_, h5⟩, ⟨ob, h1⟩, ?_⟩
  · rw [h4]
    refine List.map_congr_left fun x _ => ?_
    show (⟨x.1.hash X.w, .ref x.2.1, x.2.2⟩ : DictEntry) = ⟨x.1.hash WW.w, .ref x.2.1, x.2.2⟩
    rw [hw]
  · rintro g1 g2 ⟨k1, ys', k2, ob', es', ep', k3, k4⟩ st
    exact ⟨k1, ys', k2, ob', es', ep', st _ k3, k4⟩
theorem dic_put {A : Around} {E : Value → Shared → Prop} {Q : Unit → Shared → Prop} (hw : X.w = WW.w) (hu : A.units + 16 < cLine) (I : L2.Inv X pins σ H s) (hx : H a = some o) (ds : DicS a ks kv vv o) (rk : RVs X.K W H ks kv) (rv : RVs X.K W H vs vv) (ru : RV X.K W H u x) (rx : RelV x ax) (ki : KeyIn ks u k)
    (ruv : RV X.K W H uv v) (ra : RelV v av) (hz : ks.length < sizeLine) (q : ∀ o' kv' vv' s', isDO o' → DicS a (putKs ks k u) kv' vv' o' → RVs X.K W H (putKs ks k u) kv' → RVs X.K W H (putVs ks vs k uv) vv' → L2.Inv X pins σ (upd H a o') s' → Q () s') :
    wpAny (model X.prog X.w) A (setItem (.ref a) ax av) Q E s := by
  obtain ⟨hk, hd, ok⟩ := ki
  rcases ds with ⟨kvs, rfl, rfl, rfl, rfl⟩ | ⟨xs, hne, hzx, hdp, rfl, rfl, rfl, en⟩
  · by_cases hsc : isSc u = true
    · obtain ⟨key, rfl⟩ := isSc_kU hsc
      rw [nkU_kU] at hk
      cases hk
      have ex := ru.kU_
      subst ex
      refine d_setItem (by omega) I (DPut.k hx (by simpa using hz)) rx ra fun s' I' => q (.dK _) _ _ s' True.intro (.inl ⟨_, rfl, rfl, rfl, putK_ks kvs key v⟩) ?_ (putK_vs key rv ruv) I'
      rw [putK_ks kvs key v]
      exact kv_rvs _
    · have ht : isTp u = true ∧ ∀ k ∈ kvs.map (fun p => kU p.1), isTp k = true := by
        rcases ok with ⟨z, _⟩ | z
        · exact absurd z hsc
        · exact z
      have e0 : kvs = [] := by
        cases kvs with
        | nil => rfl
        | cons p _ =>
          have := ht.2 (kU p.1) (by simp)
          cases hp : p.1 <;> (rw [hp] at this; cases this)
      subst e0
      cases rk
      cases rv
      obtain ⟨z, hsm, _, rel, dd⟩ := dk_rd I.hok (.inl hx)
      cases rel
      obtain ⟨ob, es, ep, h1, h2, h3, h4⟩ := dd
      have dd2 : s.heap.DictOfH (nestedKind X.prog X.w) a [] := ⟨ob, es, ep, h1, h2, h3, (by
        have z := h4.2.1
        generalize es.toList = l at z
        cases z
        rfl), (fun x hx => by cases hx), List.nodup_nil⟩
      cases u with
      | tup us =>
        cases ru with
        | tup h rs =>
          obtain rfl := show _ = Value.ref _ from rx
          refine dn_write (xs := []) hw hu I hx trivial hsm .nil dd2 ⟨RV.key I (.tup h rs) rx hk, hd⟩ (by rw [sizeLine_eq]; decide) ra fun s' I' => q (DnO _ _) _ _ s' True.intro (.inr ⟨_, putX_ne _ _, ?_, putX_dp (fun x hx => by cases hx) hd _, rfl, rfl, rfl, putX_keys [] _ rfl k _ v _ hk⟩) ?_ ?_ I'
          · have := putX_le (k := k) (v := v) [] (by assumption)
            rw [sizeLine_eq]
            have : (putX [] k (by assumption) v).length ≤ 1 := by simpa using this
            omega
          · exact putX_rk (xs := []) rfl .nil (.tup h rs)
          · exact putX_rv (xs := []) rfl .nil ruv
      | _ => exact absurd ht.1 (by simp [isTp])
  · have ht : isTp u = true := by
      rcases ok with ⟨_, z⟩ | z
      · exfalso
        cases ks with
        | nil =>
          cases xs with
          | nil => exact hne rfl
          | cons _ _ => simp at en
        | cons k0 ks =>
          cases xs with
          | nil => exact hne rfl
          | cons x0 xs =>
            have q := z k0 List.mem_cons_self
            rw [List.map_cons] at rk
            cases rk with
            | cons r1 _ =>
              cases k0 with
              | int _ => cases r1
              | str _ => cases r1
              | _ => cases q
      · exact z.1
    obtain ⟨hsm, ys, hp, dd⟩ := dn_heap hw I (.inl hx) hdp rfl en rk
    have hl : ks.length = xs.length := by simpa using congrArg List.length en
    cases u with
    | tup us =>
      cases ru with
      | @tup _ b _ h rs =>
        obtain rfl := show _ = Value.ref _ from rx
        refine dn_write hw hu I hx trivial hsm hp dd ⟨RV.key I (.tup h rs) rx hk, hd⟩ (by omega) ra fun s' I' => q (DnO _ _) _ _ s' True.intro (.inr ⟨_, putX_ne _ _, ?_, putX_dp hdp hd _, rfl, rfl, rfl, putX_keys xs _ en k _ v _ hk⟩) ?_ ?_ I'
        · have := putX_le (k := k) (v := v) xs b
          omega
        · exact putX_rk en rk (.tup h rs)
        · exact putX_rv en rv ruv
    | _ => exact absurd ht (by simp [isTp])
end
end Vi

/-! Vi26: dicts: the statements' rules. -/
namespace Vi
open PySem PySem.Spec PyProof.Rows L2
variable [WW]
section
variable {X : Cx} {L : Lx} {pins : List (Addr × Obj)} {σ : L2.St} {H : Hp} {s : Shared} {W : Wd}
/-! ### d[k] = v -/
def SetQ (X : Cx) (σ : L2.St) (x y v : V) (H : Hp) (Qn : Hp → Prop) : Prop := ∀ (pins : List (Addr × Obj)) (s : Shared) (u ay av : Value), L2.Inv X pins σ H s → RelV x u → RelV y ay → RelV v av →
  wpAny (model X.prog X.w) X.A (setItem u ay av) (fun _ s' => ∃ H', L2.Inv X pins σ H' s' ∧ Qn H') X.xe s
theorem ps_dputG {o i value : Expr} {pos pos' : Pos} {td ty tv : TE} (ho : PE X o td) (hi : PE X i ty) (hv : PE X value tv) (hs : swapsWith value (some (.Subscript o i pos')) pos.line X.env = pure false) :
    PS X (.Assign [.Subscript o i pos'] value pos) (fun D σ H => tv σ H fun v H1 => td σ H1 fun x H2 => ty σ H2 fun y H3 => SetQ X σ x y v H3 fun H4 => D.nx σ H4) := by
  refine ⟨fun pins s σ H D I h => ?_⟩
  refine wpAny_Assign_Subscript (thn (hv.run pins s σ H _ I h) fun r s1 ⟨v, H1, I1, rv, q1⟩ => thn (ho.run pins s1 σ H1 _ I1 q1) fun u s2 ⟨x, H2, I2, rx, q2⟩ => thn (hi.run pins s2 σ H2 _ I2 q2) fun iv s3 ⟨y, H3, I3, ry, q3⟩ => ?_) hs
  exact wpAny_mono (q3 pins s3 u iv r I3 rx ry rv) (fun _ s4 ⟨H4, I4, q4⟩ => ⟨σ, H4, I4, q4⟩) fun _ _ z => z
theorem ws_setD {k : Nat} {x : Str} {p pos pos' : Pos} {i e : Expr} {ti te : UE} (hw : X.w = WW.w) (hK : L.K = X.K) (hu : X.A.units + 64 < cLine) (he : WE X L e te) (hx : PE X (.Name x p) (tVar k)) (hi : WE X L i ti) (hs : swapsWith e (some (.Subscript (.Name x p) i pos')) pos.line X.env = pure false := by rfl) :
    WS X L (.Assign [.Subscript (.Name x p) i pos'] e pos) (uSetD k ti te) := by
  refine PS.wk (ps_dputG hx hi he hs) fun D σ H ⟨W, env, h, P, S, ht, c⟩ => ?_
  refine ⟨W, env, h, _, _, S, ht, ⟨fun W1 sv env1 h1 v H1 l1 S1 r1 q1 => ?_, c.ret.er⟩⟩
  obtain ⟨W2, S2, l2, r2⟩ := S1.freeze r1
  have c1 := c.le (l1.trans l2)
  obtain ⟨⟨ks0, vs0, e0⟩, q1⟩ := q1
  obtain ⟨v0, ev0, a0, o0, kv0, vv0, ex0, _⟩ := S2.slots k _ e0
  subst ex0
  refine ⟨_, ev0, W2, env1, h1, _, _, S2, q1, ⟨fun W3 iv env2 h2 y H2 l3 S3 r3 q2 => ?_, c1.ret.er⟩⟩
  obtain ⟨W4, S4, l4, r4⟩ := S3.freeze r3
  split at q2
  · rename_i ks vs ek
    obtain ⟨key, ki, hz, q2⟩ := q2
    obtain ⟨v1, ev1, a, o, kv, vv, ex, n, ea, ds, rk, rv⟩ := S4.slots k _ ek
    rw [ev0] at ev1
    cases ev1
    cases ex
    intro pins s u ay av I rx ry ra
    obtain rfl : u = Value.ref a0 := rx
    rw [hK] at rk rv r4 r2
    refine dic_put hw (by omega) I ea ds rk rv r4 ry ki (r2.le (l3.trans l4).toLeP) ra hz fun o' kv' vv' s' hd' ds' rk' rv' I' => ⟨_, I', ?_⟩
    have l5 : LeW W4 H2 W4 (upd H2 a0 o') := S4.sh.upd_ n (fun z => by cases z) ea ds.isD.mut
    obtain ⟨S5, _⟩ := S4.upd_any (sv' := .dic (putKs ks key iv.u) (putVs ks vs key sv.u)) (o' := o') (List.getElem?_eq_some_iff.mp ek).1 ev0 n ea ds.isD.mut ⟨a0, o', kv', vv', rfl, n, upd_same, ds', by rw [hK]; exact rk'.le l5.toLeP, by rw [hK]; exact rv'.le l5.toLeP⟩
    exact c1.nx W4 _ h2 σ _ ((l3.trans l4).trans l5) S5 q2
  · exact q2.elim
/-! ### {}, {k: v} -/
theorem we_dic0 {pos : Pos} : WE X L (.Dict [] [] pos) uDic0 := by
  refine PE.wk pe_dnewK fun σ H Q ⟨W, env, h, Po, Pe, S, ht, c⟩ => ?_
  intro p hp
  obtain ⟨S2, l⟩ := S.alloc hp (.dK []) .tmp
  exact c.ok _ (.dic [] []) env h _ _ l S2 ⟨p, _, [], [], rfl, Wd.put_same, upd_same, .inl ⟨[], rfl, rfl, rfl, rfl⟩, .nil, .nil⟩ ht
/-- what stands at an address that nobody owns yet changes -/
theorem Sim.upd0D {K : PySem.W.Frag} {env : En} {h : Hv} {D : Addr} {o o' : HO} (S : Sim K W env h σ H) (n : W.own D = none) (e : H D = some o) (mu : Mut (some o)) : LeP W H (W.put D (some .tmp)) (upd H D o') ∧ Sim K (W.put D (some .tmp)) env h σ (upd H D o') := by
  have ne : ∀ b w, W.own b = some w → b ≠ D := fun b w q z => by subst z; rw [n] at q; cases q
  have l : LeP W H (W.put D (some .tmp)) (upd H D o') := by
    refine ⟨fun b o eb f => ⟨by rw [Wd.put_ne (ne b _ f)]; exact f, .inl (by rw [upd_ne (ne b _ f)]; exact eb)⟩, fun b vs eb => ?_, fun b o u eb => ?_, ⟨[], by simp [Wd.put]⟩, fun i b _ f => by rw [Wd.put_ne (ne b _ f)]; exact f⟩
    · rw [upd_ne (fun z => by subst z; rw [e] at eb; cases eb; exact mu)]; exact eb
    · rw [upd_ne (fun z => by subst z; rw [e] at eb; cases eb; exact mu)]; exact eb
  refine ⟨l, ⟨⟨S.sh.len, fun i o eo => ?_, fun a w ea => ?_⟩, S.len, fun k sv es => ?_⟩⟩
  · obtain ⟨a, m, na, r⟩ := S.sh.objs i o eo
    refine ⟨a, m, by rw [Wd.put_ne (ne a _ na)]; exact na, ?_⟩
    cases o with
    | lst us =>
      obtain ⟨vs, e1, rv⟩ := r
      exact ⟨vs, by rw [upd_ne (ne a _ na)]; exact e1, rv.le l⟩
  · by_cases z : a = D
    · subst z; exact ⟨_, upd_same⟩
    · rw [Wd.put_ne z] at ea
      rw [upd_ne z]; exact S.sh.dom a w ea
  · obtain ⟨v, e1, r⟩ := S.slots k sv es
    refine ⟨v, e1, ?_⟩
    cases sv with
    | val u => exact RV.le l r
    | own us =>
      obtain ⟨a, vs, rfl, na, ea, rv⟩ := r
      exact ⟨a, vs, rfl, by rw [Wd.put_ne (ne a _ na)]; exact na, by rw [upd_ne (ne a _ na)]; exact ea, rv.le l⟩
    | dic ks us =>
      obtain ⟨a, o, kv, vv, rfl, na, ea, ds, r1, r2⟩ := r
      exact ⟨a, o, kv, vv, rfl, by rw [Wd.put_ne (ne a _ na)]; exact na, by rw [upd_ne (ne a _ na)]; exact ea, ds, r1.le l, r2.le l⟩
theorem dict_pairsX {prog : Program} {w : World} {A : Around} {E : Value → Shared → Prop} {s : Shared} {knd : HeapKind prog w NestedKey} {env : Env} {keys : List (Option Expr)} {values : List Expr} {pos : Pos} {Q : Value → Shared → Prop} (hu : knd.room A)
    (hall : keys.all (·.isSome) = true) (hl : keys.length = values.length) (h0 : keys ≠ []) (hlen : keys.length ≤ 15)
    (h : wpAny (model prog w) A (evalPairs (pairTrees keys values env pos)) (fun vs s₁ => ∃ ps, CarriesH knd s₁.heap vs ps ∧ s₁.heap.DictOfH knd s.heap.objs.size [] ∧
      ∀ h' tk, h'.DictOfH knd s.heap.objs.size (storedAllH [] ps) → Heap.SameBut s.heap.objs.size s₁.heap h' → Q (.ref s.heap.objs.size) { s₁ with heap := h', toks := tk }) E
      { s with heap := s.heap.push { cls := .type "dict", data := .dict #[] } }) :
    wpAny (model prog w) A (eval (.Dict keys values pos) env) Q E s := by
  have hn := pairTrees_length keys values env pos hall hl
  have hne : pairTrees keys values env pos ≠ [] := by
    intro he
    rw [he] at hn
    exact h0 (List.length_eq_zero_iff.mp hn.symm)
  rw [arm_eval_Dict, zip_pairTrees keys values env pos hall hl, dictDisplay_pairs _ hne (by rw [hn]; omega)]
  exact wpAny_bind (wpAny_standAt (wpAny_bind (wpAny_subDictH (knd := knd) (Q := fun d s' => wpAny (model prog w) A (pure (Value.ref d)) Q E s') hu (by rw [hn]; exact hlen)
    (wpAny_mono h (fun vs s₁ h₁ => by obtain ⟨ps, hc, hm, hq⟩ := h₁; exact ⟨ps, hc, hm, fun h' tk a b => wpAny_pure (hq h' tk a b)⟩) fun _ _ e => e))))
theorem pe_disp1 {ek ev : Expr} {pos : Pos} {tk tv : TE} (hw : X.w = WW.w) (hu : X.A.units + 64 < cLine) (hk : PE X ek tk) (hv : PE X ev tv) : PE X (.Dict [some ek] [ev] pos)
    (fun σ H Q => ∀ p, H p = none → tk σ (upd H p (.dK [])) fun x H1 => tv σ H1 fun y H2 => H2 p = some (.dK []) ∧ ∃ W u uv key, RV X.K W H2 u x ∧ RV X.K W H2 uv y ∧ KeyIn [] u key ∧ isTp u = true ∧
      ∀ o' kv' vv', isDO o' → DicS p [u] kv' vv' o' → RVs X.K W H2 [u] kv' → RVs X.K W H2 [uv] vv' → Q (.ref p) (upd H2 p o')) := by
  refine ⟨fun pins s σ H Q I q => ?_⟩
  have hn := I.hok.fresh (Nat.le_refl s.heap.objs.size)
  have I1 := I.laid (a := s.heap.objs.size) (o := .dK []) (h' := s.heap.push { cls := .type "dict", data := .dict #[] }) (t' := s.toks) (fun _ _ q => Heap.get?_push_of_some _ q) (Nat.le_refl _) (dk_empty s.heap I.big)
  have q0 := q _ hn
  refine dict_pairsX (knd := nestedKind X.prog X.w) (show X.A.units + 8 < cLine by omega) rfl rfl (by simp) (by simp) (pairTrees_cons_walk (thn (hk.run pins _ σ _ _ I1 q0) fun ux s2 ⟨x, H1, I2, rx, q1⟩ => thn (hv.run pins s2 σ H1 _ I2 q1) fun uy s3 ⟨y, H2, I3, ry, e, W, u, uv, key, ru, ruv, ki, ht, q2⟩ => pairTrees_nil_walk ?_))
  cases u with
  | tup us =>
    cases ru with
    | @tup _ b _ h rs =>
      obtain rfl := show _ = Value.ref _ from rx
      obtain ⟨z, hsm, _, rel, dd⟩ := dk_rd I3.hok (.inl e)
      cases rel
      obtain ⟨ob, es, ep, h1, h2, h3, h4⟩ := dd
      have dd2 : s3.heap.DictOfH (nestedKind X.prog X.w) s.heap.objs.size [] := ⟨ob, es, ep, h1, h2, h3, (by
        have z := h4.2.1
        generalize es.toList = l at z
        cases z
        rfl), (fun x hx => by cases hx), List.nodup_nil⟩
      refine ⟨[(key, b, uy)], ⟨rfl, rfl, ⟨RV.key I3 (.tup h rs) rx ki.nk, ki.dp⟩, trivial⟩, dd2, fun h' tk dd' hs => ?_⟩
      obtain ⟨ob', es', ep', g1, g2, g3, g4, _, g5⟩ := dd'
      refine ⟨.ref s.heap.objs.size, _, ?_, rfl, q2 (DnO s.heap.objs.size [(key, b, y)]) [.ref b] [y] True.intro (.inr ⟨_, by simp, by rw [sizeLine_eq]; simp, ?_, rfl, rfl, rfl, ?_⟩) (.cons (.tup h rs) .nil) (.cons ruv .nil)⟩
      · refine d_write I3 (by rw [e]; exact True.intro) hs ⟨ob', g1⟩ ?_
        refine ⟨⟨hsm, [(key, b, uy)], .cons ⟨rfl, rfl, ry⟩ .nil, ob', es', ep', g1, g2, g3, ?_, g5⟩, ⟨ob', g1⟩, ?_⟩
        · rw [g4]
          show [(⟨key.hash X.w, .ref b, uy⟩ : DictEntry)] = [⟨key.hash WW.w, .ref b, uy⟩]
          rw [hw]
        · rintro m1 m2 ⟨k1, ys', k2, ob', es', ep', k3, k4⟩ st
          exact ⟨k1, ys', k2, ob', es', ep', st _ k3, k4⟩
      · intro x hx
        have e : x = (key, b, y) := by simpa using hx
        rw [e]; exact ki.dp
      · show [nkU (.tup us)] = [some key]
        rw [ki.nk]
  | _ => cases ht
@[simp] def uDicT (tk tv : UE) : UE := fun env h Po Pe => tk env h (fun x env1 h1 => tv env1 h1 (fun y env2 h2 => ∃ key, KeyIn [] x.u key ∧ isTp x.u = true ∧ Po (.dic [x.u] [y.u]) env2 h2) Pe) Pe
theorem we_dicT {ek ev : Expr} {pos : Pos} {tk tv : UE} (hw : X.w = WW.w) (hK : L.K = X.K) (hu : X.A.units + 64 < cLine) (hk : WE X L ek tk) (hv : WE X L ev tv) : WE X L (.Dict [some ek] [ev] pos) (uDicT tk tv) := by
  refine PE.wk (pe_disp1 hw hu hk hv) fun σ H Q ⟨W, env, h, Po, Pe, S, ht, c⟩ => ?_
  intro p hp
  have n0 := S.sh.own_none hp
  have l0 := LeW.none_ S.sh hp (.dK [])
  have c0 := c.le l0
  refine ⟨W, env, h, _, _, S.none_ hp _, ht, ⟨fun W1 x env1 h1 v1 H1 l1 S1 r1 q1 => ?_, c0.er⟩⟩
  obtain ⟨W2, S2, l2, r2⟩ := S1.freeze r1
  have c1 := c0.le (l1.trans l2)
  refine ⟨W2, env1, h1, _, _, S2, q1, ⟨fun W3 y env2 h2 v2 H2 l3 S3 r3 q2 => ?_, c1.er⟩⟩
  obtain ⟨W4, S4, l4, r4⟩ := S3.freeze r3
  have lw := ((l1.trans l2).trans (l3.trans l4))
  obtain ⟨n4, e4⟩ := lw.st p _ upd_same n0
  obtain ⟨key, ki, ht', q3⟩ := q2
  rw [← hK]
  refine ⟨e4, W4, x.u, y.u, key, r2.le (l3.trans l4).toLeP, r4, ki, ht', fun o' kv' vv' hd' ds' rk' rv' => ?_⟩
  obtain ⟨lp, S5⟩ := S4.upd0D n4 e4 (o' := o') trivial
  have l5 : LeW W H (W4.put p (some .tmp)) (upd H2 p o') := by
    have l6 := l0.trans lw
    refine ⟨⟨fun b o eb f => ?_, fun b vs eb => ?_, fun b o u eb => ?_, ?_, fun i b m f => ?_⟩, fun b o eb f => ?_⟩
    · have ne : b ≠ p := fun z => by subst z; rw [hp] at eb; cases eb
      rw [upd_ne ne, Wd.put_ne ne]; exact l6.fr b o eb f
    · have ne : b ≠ p := fun z => by subst z; rw [hp] at eb; cases eb
      rw [upd_ne ne]; exact l6.tp b vs eb
    · have ne : b ≠ p := fun z => by subst z; rw [hp] at eb; cases eb
      rw [upd_ne ne]; exact l6.fz b o u eb
    · exact l6.mp
    · have ne : b ≠ p := fun z => by subst z; rw [n0] at f; cases f
      rw [Wd.put_ne ne]; exact l6.ob i b m f
    · have ne : b ≠ p := fun z => by subst z; rw [hp] at eb; cases eb
      rw [upd_ne ne, Wd.put_ne ne]; exact l6.st b o eb f
  exact c.ok _ (.dic [x.u] [y.u]) env2 h2 _ _ l5 S5 ⟨p, o', kv', vv', rfl, Wd.put_same, upd_same, ds', rk'.le lp, rv'.le lp⟩ q3
/-! ### walks -/
def Itkn (d : Addr) (o : Obj) (xs : List (NestedKey × Addr × V)) : It :=
  ⟨fun i H => H d = some (.frz o (DnO d xs)) ∧ i < xs.length, fun i H x H' => H' = H ∧ ∃ y, xs[i]? = some y ∧ x = .ref y.2.1, fun i H => H d = some (.frz o (DnO d xs)) ∧ xs.length ≤ i⟩
theorem frzN (I : L2.Inv X pins σ H s) {d : Addr} {o : Obj} {xs : List (NestedKey × Addr × V)} (h : H d = some (.frz o (DnO d xs))) :
    (d == sysModules) = false ∧ s.heap.get? d = some o ∧ o.ExactDict ∧ ∃ (es : Array DictEntry) (ep : Nat), o.data = .dict es ep ∧ es.size = xs.length ∧ ∀ (i : Nat) (y : NestedKey × Addr × V), xs[i]? = some y → ∃ en : DictEntry, es[i]? = some en ∧ en.key = .ref y.2.1 := by
  obtain ⟨hd, ⟨hs, ys, hp, o', es, ep, ho, hx, hdt, he, _⟩, _⟩ := I.hok d _ h
  rw [hd] at ho
  cases ho
  have l1 : xs.length = ys.length := Paired.length hp
  have l2 : es.size = ys.length := by rw [← Array.length_toList, he, List.length_map]
  refine ⟨hs, hd, hx, es, ep, hdt, by omega, fun i y ey => ?_⟩
  obtain ⟨q, eq, _, e2, _⟩ := paired_get hp ey
  refine ⟨_, by rw [← Array.getElem?_toList, he, List.getElem?_map, eq]; rfl, ?_⟩
  show Value.ref q.2.1 = _
  rw [← e2]
theorem turn_keysN {P : Program} {w : World} {K : PySem.W.Frag} {tg : Expr} {d : Addr} {o : Obj} {es : Array DictEntry} {ep : Nat} {xs : List (NestedKey × Addr × V)} (it : Addr) (hod : o.data = .dict es ep) : Turn P w K tg (Itkn d o xs) [it] it (fun i h => h.IsKeyIter it d i xs.length ep) where
  mem := by simp
  obj := fun i h st b hb => by
    have e : b = it := by simpa using hb
    subst e
    obtain ⟨oi, e, c, dd⟩ := st
    exact ⟨oi, e, fun v z => by rw [dd] at z; cases z⟩
  keep := fun i h h' st k => st.at fun oi e => k it (by simp) oi e
  item := by
    intro X hP hw hK hc i pins s σ H E I hf st hg
    subst hP hw hK
    obtain ⟨hd, hi⟩ := hg
    obtain ⟨f0, f1, f2, f3, f4, f5⟩ := hf it (by simp)
    obtain ⟨hs, hgd, hx, es', ep', hdt, hsz, ent⟩ := frzN I hd
    obtain ⟨rfl, rfl⟩ := dict_ep hod hdt
    obtain ⟨y, hy⟩ : ∃ p, xs[i]? = some p := ⟨xs[i], List.getElem?_eq_getElem hi⟩
    obtain ⟨en, hen, hkey⟩ := ent i y hy
    refine next_key_item st hgd hdt hsz hen fun h' st' sb => ?_
    have I1 : L2.Inv X pins σ H { s with heap := h' } := I.turned (t' := s.toks) (fun b ob hb e => (sb.2 b hb).trans e) f0 f1 f3 f4 f5
    obtain ⟨oi, e, c, dd⟩ := id st'
    exact ⟨en.key, rfl, go_of (s := { s with heap := h' }) e c dd (by decide) ⟨.ref y.2.1, H, I1, hkey, ⟨rfl, y, hy, rfl⟩, st', fun b hb => (hf b hb).1⟩⟩
  done := by
    intro X hP hw hK hc i pins s σ H E I hf st hg
    subst hP hw hK
    obtain ⟨hd, hi⟩ := hg
    obtain ⟨f0, f1, f2, f3, f4, f5⟩ := hf it (by simp)
    obtain ⟨hs, hgd, hx, es', ep', hdt, hsz, ent⟩ := frzN I hd
    obtain ⟨rfl, rfl⟩ := dict_ep hod hdt
    exact next_key_end (I.ok.hd hc) st hgd hdt hsz hi fun h' eb => ⟨rfl, I.turned (t' := s.toks) (fun b ob hb e => eb b ob hb e) f0 f1 f3 f4 f5⟩
  self := fun A i s Q E st h => wpAny_pyIter_keyiter st h
/-- the keys' walk over the dict at d -/
def KItS (d : Addr) (o : HO) (J : Obj → It) : Prop := (∃ kvs, o = .dK kvs ∧ J = fun od => Itk d od kvs) ∨ ∃ xs, o = DnO d xs ∧ J = fun od => Itkn d od xs
theorem pi_keysD {tg e : Expr} {td : TE} (he : PE X e td) : PI X tg e (fun σ H R => td σ H fun x H1 => ∃ d o J, x = .ref d ∧ isDO o ∧ KItS d o J ∧
    ((H1 d = some o ∧ ∀ od, R (J od) (upd H1 d (.frz od o))) ∨ ∃ od, H1 d = some (.frz od o) ∧ R (J od) H1)) := by
  refine ⟨fun pins s σ H R I h => ?_⟩
  refine thn (he.run pins s σ H _ I h) fun u s1 ⟨x, H1, I1, rx, d, o, J, ex, hd, hk, q⟩ => ?_
  subst ex
  obtain rfl : u = Value.ref d := rx
  have go : ∀ (H2 : Hp) (od : Obj), L2.Inv X pins σ H2 s1 → H2 d = some (.frz od o) → R (J od) H2 → wpAny (model X.prog X.w) X.A (pyIter (.ref d)) (PIE X pins σ tg R) X.xe s1 := by
    intro H2 od I2 e2 q2
    rcases hk with ⟨kvs, rfl, rfl⟩ | ⟨xs, rfl, rfl⟩
    · obtain ⟨hs, hgd, hx, es, ep, vs, hdt, hsz, kv, hm⟩ := I2.frzK e2
      refine iter_keys hs hgd hx hdt (pi_one (tk := s1.toks) I2 _ (turn_keys _ hdt) ⟨_, Heap.get?_push_size _ rfl, rfl, ?_⟩ q2)
      rw [hsz] <;> rfl
    · obtain ⟨hs, hgd, hx, es, ep, hdt, hsz, ent⟩ := frzN I2 e2
      refine iter_keys hs hgd hx hdt (pi_one (tk := s1.toks) I2 _ (turn_keysN _ hdt) ⟨_, Heap.get?_push_size _ rfl, rfl, ?_⟩ q2)
      rw [hsz] <;> rfl
  rcases q with ⟨e1, q⟩ | ⟨od, e1, q⟩
  · obtain ⟨od, I2⟩ := I1.lock e1 hd.mut
    exact go _ od I2 upd_same (q od)
  · exact go H1 od I1 e1 q
/-- a frozen dict is locked -/
theorem Sim.lockD {K : PySem.W.Frag} {env : En} {h : Hv} {d : Addr} {o : HO} (S : Sim K W env h σ H) (n : W.own d = some .frz) (e : H d = some o) (hd : isDO o) (od : Obj) : Sim K W env h σ (upd H d (.frz od o)) ∧ LeW W H W (upd H d (.frz od o)) := by
  have l : LeW W H W (upd H d (.frz od o)) := by
    refine ⟨⟨fun b u eb f => ⟨f, ?_⟩, fun b vs eb => ?_, fun b u w eb => ?_, ⟨[], by simp⟩, fun _ _ _ f => f⟩, fun b u eb f => ⟨f, ?_⟩⟩
    · by_cases z : b = d
      · subst z
        rw [e] at eb
        cases eb
        exact .inr ⟨hd, od, upd_same⟩
      · exact .inl (by rw [upd_ne z]; exact eb)
    · rw [upd_ne (fun z => by subst z; rw [e] at eb; cases eb; exact hd)]; exact eb
    · rw [upd_ne (fun z => by subst z; rw [e] at eb; cases eb; exact hd)]; exact eb
    · rw [upd_ne (fun z => by subst z; rw [n] at f; cases f)]; exact eb
  have ne : ∀ b w, W.own b = some w → w ≠ .frz → b ≠ d := fun b w q hw z => by subst z; rw [n] at q; cases q; exact hw rfl
  refine ⟨⟨⟨S.sh.len, fun i o2 eo => ?_, fun a w ea => ?_⟩, S.len, fun k sv es => ?_⟩, l⟩
  · obtain ⟨a, m, na, r⟩ := S.sh.objs i o2 eo
    refine ⟨a, m, na, ?_⟩
    cases o2 with
    | lst us =>
      obtain ⟨vs, e1, rv⟩ := r
      exact ⟨vs, by rw [upd_ne (ne a _ na (fun z => by cases z))]; exact e1, rv.le l.toLeP⟩
  · by_cases z : a = d
    · subst z; exact ⟨_, upd_same⟩
    · rw [upd_ne z]; exact S.sh.dom a w ea
  · obtain ⟨v, e1, r⟩ := S.slots k sv es
    refine ⟨v, e1, ?_⟩
    cases sv with
    | val u => exact RV.le l.toLeP r
    | own us =>
      obtain ⟨a, vs, rfl, na, ea, rv⟩ := r
      exact ⟨a, vs, rfl, na, by rw [upd_ne (ne a _ na (fun z => by cases z))]; exact ea, rv.le l.toLeP⟩
    | dic ks us =>
      obtain ⟨a, o2, kv, vv, rfl, na, ea, ds, r1, r2⟩ := r
      exact ⟨a, o2, kv, vv, rfl, na, by rw [upd_ne (ne a _ na (fun z => by cases z))]; exact ea, ds, r1.le l.toLeP, r2.le l.toLeP⟩
theorem wk_keysK {K : PySem.W.Frag} {d : Addr} {od : Obj} {kvs : List (Key × V)} (e : H d = some (.frz od (.dK kvs))) : Wk K W H (kvs.map fun p => kU p.1) (Itk d od kvs) := by
  intro W' H' l i
  have e' := l.fz _ _ _ e
  refine ⟨fun hi => ⟨e', by simpa using hi⟩, fun u eu => ?_⟩
  have hi : i < kvs.length := by
    have := (List.getElem?_eq_some_iff.mp eu).1
    simpa using this
  refine ⟨⟨e', hi⟩, fun x H'' ⟨eH, key, v, ek, ex⟩ => ?_⟩
  subst eH ex
  refine ⟨.refl, fun _ _ _ S => S, ?_⟩
  rw [List.getElem?_map, ek] at eu
  cases eu
  cases key with
  | inl i => exact .int i
  | inr x => exact .str x
theorem wk_keysN {K : PySem.W.Frag} {d : Addr} {od : Obj} {xs : List (NestedKey × Addr × V)} {ks : List U} (e : H d = some (.frz od (DnO d xs))) (rk : RVs K W H ks (xs.map fun x => V.ref x.2.1)) : Wk K W H ks (Itkn d od xs) := by
  intro W' H' l i
  have e' := l.fz _ _ _ e
  have rl : ks.length = xs.length := by simpa using rk.length
  refine ⟨fun hi => ⟨e', by omega⟩, fun u eu => ?_⟩
  have hi : i < xs.length := by
    have := (List.getElem?_eq_some_iff.mp eu).1
    omega
  refine ⟨⟨e', hi⟩, fun x H'' ⟨eH, y, ey, ex⟩ => ?_⟩
  subst eH ex
  refine ⟨.refl, fun _ _ _ S => S, ?_⟩
  obtain ⟨v, ev, rv⟩ := rk.get eu
  rw [List.getElem?_map, ey] at ev
  cases ev
  exact rv.le l.toLeP
theorem wi_keys {tg e : Expr} {te : UE} (hK : L.K = X.K) (he : WE X L e te) : WI X L tg e (uKeys te) := by
  refine PI.wk (pi_keysD he) fun σ H R ⟨W, env, h, Po, Pe, S, ht, c⟩ => ?_
  refine ⟨W, env, h, _, _, S, ht, ⟨fun W1 sv env1 h1 y H1 l1 S1 r1 q1 => ?_, c.er⟩⟩
  obtain ⟨W2, S2, l2, r2⟩ := S1.freeze r1
  split at q1
  · rename_i ks vs eu
    rw [eu] at r2
    cases r2 with
    | @dic _ _ d o kv vv hx ds rk rv =>
      have kd : ∃ J, KItS d o J ∧ ∀ (W : Wd) (H : Hp) (od : Obj), H d = some (.frz od o) → RVs L.K W H ks kv → Wk L.K W H ks (J od) := by
        rcases ds with ⟨kvs, rfl, rfl, rfl, rfl⟩ | ⟨xs, hne, hz, hdp, rfl, rfl, rfl, en⟩
        · exact ⟨_, .inl ⟨kvs, rfl, rfl⟩, fun W H od e _ => wk_keysK e⟩
        · exact ⟨_, .inr ⟨xs, rfl, rfl⟩, fun W H od e rk => wk_keysN e rk⟩
      obtain ⟨J, kj, hJ⟩ := kd
      refine ⟨d, o, J, rfl, ds.isD, kj, ?_⟩
      rcases hx with ⟨n, e⟩ | ⟨od, e⟩
      · refine .inl ⟨e, fun od => ?_⟩
        obtain ⟨S3, l3⟩ := S2.lockD n e ds.isD od
        exact c.ok W2 ks env1 h1 _ _ ((l1.trans l2).trans l3) S3 (hJ W2 _ od upd_same (rk.le l3.toLeP)) q1
      · exact .inr ⟨od, e, c.ok W2 ks env1 h1 _ _ (l1.trans l2) S2 (hJ W2 _ od e rk) q1⟩
  · exact q1.elim
end
end Vi

/-! Vi27: dicts whose keys are images of plain data. -/
namespace Vi
open PySem PySem.Spec PyProof.Rows L2
variable [WW]
/-- f writes data as values that are keys, key tells which -/
structure KeyFn {α : Type} (f : α → U) (key : α → NestedKey) : Prop where
  nk : ∀ x, nkU (f x) = some (key x)
  dp : ∀ x, (key x).depth ≤ 8
  inj : ∀ x y, key x = key y → x = y
  kd : (∀ x, isTp (f x) = true) ∨ ∀ x, isSc (f x) = true
section
variable {α : Type} [DecidableEq α] {f : α → U} {key : α → NestedKey}
theorem KeyFn.keyIn (F : KeyFn f key) (l : List α) (x : α) : KeyIn (l.map f) (f x) (key x) := by
  refine ⟨F.nk x, F.dp x, ?_⟩
  rcases F.kd with h | h
  · refine .inr ⟨h x, fun k hk => ?_⟩
    obtain ⟨y, _, rfl⟩ := List.mem_map.mp hk
    exact h y
  · refine .inl ⟨h x, fun k hk => ?_⟩
    obtain ⟨y, _, rfl⟩ := List.mem_map.mp hk
    exact h y
theorem KeyFn.keyIn0 (F : KeyFn f key) (x : α) : KeyIn [] (f x) (key x) := F.keyIn [] x
theorem KeyFn.eq (F : KeyFn f key) (x y : α) : (nkU (f x) = some (key y)) ↔ x = y := by
  rw [F.nk]
  exact ⟨fun e => F.inj _ _ (Option.some.inj e), fun e => by rw [e]⟩
theorem KeyFn.has (F : KeyFn f key) (x : α) : ∀ l : List α, dicHas (l.map f) (key x) = decide (x ∈ l)
  | [] => rfl
  | y :: l => by
    show (decide (nkU (f y) = some (key x)) || dicHas (l.map f) (key x)) = _
    rw [F.has x l]
    by_cases e : y = x
    · rw [decide_eq_true ((F.eq y x).mpr e)]; simp [e]
    · rw [decide_eq_false (fun z => e ((F.eq y x).mp z))]
      have e' : ¬ x = y := fun z => e z.symm
      simp [e']
theorem KeyFn.isSome (F : KeyFn f key) (x : α) {l : List α} {vs : List U} (h : vs.length = l.length) : (dicAt (l.map f) vs (key x)).isSome = decide (x ∈ l) := by
  rw [← dicHas_isSome (by simp [h]), F.has]
theorem KeyFn.miss (F : KeyFn f key) (x : α) {l : List α} {vs : List U} (h : vs.length = l.length) : (dicAt (l.map f) vs (key x) = none) ↔ x ∉ l := by
  have q := F.isSome x (l := l) h
  rw [← Option.isNone_iff_eq_none, ← Option.not_isSome]
  rw [q]
  simp
theorem KeyFn.at_ (F : KeyFn f key) (g : α → U) (x : α) : ∀ l : List α, dicAt (l.map f) (l.map g) (key x) = if x ∈ l then some (g x) else none
  | [] => rfl
  | y :: l => by
    show (if nkU (f y) = some (key x) then some (g y) else dicAt (l.map f) (l.map g) (key x)) = _
    by_cases e : y = x
    · rw [if_pos ((F.eq y x).mpr e), e, if_pos List.mem_cons_self]
    · rw [if_neg (fun z => e ((F.eq y x).mp z)), F.at_ g x l]
      have e' : ¬ x = y := fun z => e z.symm
      simp [e']
theorem KeyFn.putKs (F : KeyFn f key) (x : α) (l : List α) : putKs (l.map f) (key x) (f x) = (if x ∈ l then l else l ++ [x]).map f := by
  unfold Vi.putKs
  rw [F.has]
  by_cases h : x ∈ l
  · simp [h]
  · simp [h]
theorem KeyFn.putVs_new (F : KeyFn f key) {x : α} {l : List α} (h : x ∉ l) (vs : List U) (v : U) : putVs (l.map f) vs (key x) v = vs ++ [v] := by
  unfold Vi.putVs
  rw [F.has]
  simp [h]
theorem KeyFn.putV (F : KeyFn f key) (g : α → U) (v : U) (x : α) : ∀ l : List α, putV (l.map f) (l.map g) (key x) v = l.map fun y => if y = x then v else g y
  | [] => rfl
  | y :: l => by
    show (if nkU (f y) = some (key x) then v else g y) :: Vi.putV (l.map f) (l.map g) (key x) v = _
    rw [F.putV g v x l, List.map_cons]
    congr 1
    by_cases e : y = x
    · rw [if_pos ((F.eq y x).mpr e), if_pos e]
    · rw [if_neg (fun z => e ((F.eq y x).mp z)), if_neg e]
theorem KeyFn.putVs_old (F : KeyFn f key) {x : α} {l : List α} (h : x ∈ l) (g : α → U) (v : U) : putVs (l.map f) (l.map g) (key x) v = l.map fun y => if y = x then v else g y := by
  unfold Vi.putVs
  rw [F.has, if_pos (by simp [h]), F.putV]
end
theorem nkUs_map {α : Type} (f : α → U) (g : α → NestedKey) (h : ∀ x, nkU (f x) = some (g x)) : ∀ l : List α, nkUs (l.map f) = some (l.map g)
  | [] => rfl
  | x :: l => by
    rw [List.map_cons, List.map_cons]
    unfold nkUs
    rw [h x, nkUs_map f g h l]
theorem nkU_int (i : Int) : nkU (.int i) = some (.num i) := rfl
theorem nkU_str (x : Str) : nkU (.str x) = some (.text x) := rfl
theorem nkU_bl (b : Bool) : nkU (.bl b) = some (.num (if b = true then 1 else 0)) := rfl
theorem nkU_tup {us : List U} {ks : List NestedKey} (h : nkUs us = some ks) : nkU (.tup us) = some (.tup ks) := by
  show (nkUs us).map NestedKey.tup = _
  rw [h]; rfl
theorem nkUs_cons {u : U} {us : List U} {k : NestedKey} {ks : List NestedKey} (h : nkU u = some k) (t : nkUs us = some ks) : nkUs (u :: us) = some (k :: ks) := by
  unfold nkUs
  rw [h, t]
theorem depthAll_le {n : Nat} : ∀ {l : List NestedKey}, (∀ k ∈ l, k.depth ≤ n) → NestedKey.depthAll l ≤ n
  | [], _ => by unfold NestedKey.depthAll; omega
  | k :: l, h => by
    unfold NestedKey.depthAll
    have h1 := h k List.mem_cons_self
    have h2 := depthAll_le (l := l) fun x hx => h x (List.mem_cons_of_mem _ hx)
    omega
theorem depth_tup {l : List NestedKey} {n : Nat} (h : ∀ k ∈ l, k.depth ≤ n) : (NestedKey.tup l).depth ≤ n + 1 := by
  unfold NestedKey.depth
  have := depthAll_le h
  omega
/-- a list beside the empty one -/
theorem eqU_nil {us : List U} {k : Nat} (h : ∀ u ∈ us, Shp u k) (hk : k < 64) : eqU? (.lst us) (.lst []) = some (decide (us = [])) := by
  obtain ⟨ds, es, g1, g2⟩ := shps h
  show eqD? _ _ = _
  have s1 : SeqAt.shaped (.list ds) = true := by
    have hd : (PyData.list ds).depth ≤ 64 := by
      simp only [PyData.depth]
      omega
    simp [SeqAt.shaped, PyData.canLay0, g1, hd]
  have s2 : SeqAt.shaped (.list []) = true := by decide
  have e1 : toD (.lst us) = some (.list ds) := by simp only [toD, es, Option.map_some]
  unfold eqD?
  rw [e1]
  have e2 : toD (.lst []) = some (.list []) := rfl
  rw [e2]
  simp only [s1, s2, Bool.and_self, if_true]
  cases us with
  | nil =>
    cases es
    rfl
  | cons u us =>
    cases ds with
    | nil =>
      unfold toDs at es
      split at es <;> cases es
    | cons d ds => rfl
/-- where a parameter comes from: the positional values, the lacking ones' values, the keywords' values -/
inductive Sr where
  | p (i : Nat) | m (i : Nat) | k (i : Nat)
def pick {α : Type} (us mv ws : List α) : List Sr → List α
  | [] => []
  | .p i :: l => (us.drop i).take 1 ++ pick us mv ws l
  | .m i :: l => (mv.drop i).take 1 ++ pick us mv ws l
  | .k i :: l => (ws.drop i).take 1 ++ pick us mv ws l
omit [WW] in
theorem pick_rel {vs mz zs : List V} {us mv ws : List Value} (r1 : Vals vs us) (r2 : Vals mz mv) (r3 : Vals zs ws) : ∀ l : List Sr, Vals (pick vs mz zs l) (pick us mv ws l)
  | [] => .nil
  | .p i :: l => Vals.append (Vals.take 1 (Vals.drop i r1)) (pick_rel r1 r2 r3 l)
  | .m i :: l => Vals.append (Vals.take 1 (Vals.drop i r2)) (pick_rel r1 r2 r3 l)
  | .k i :: l => Vals.append (Vals.take 1 (Vals.drop i r3)) (pick_rel r1 r2 r3 l)
end Vi

/-! Vi28: a name's own list is handed over. -/
namespace Vi
open PySem PySem.Spec PyProof.Rows L2
variable [WW]
/-- a name read for the last time: what it owns is handed over -/
@[simp] def uVarO (k : Nat) : UE := fun env h Po _ => match env[k]? with
  | some (some (.val u)) => Po (.val u) env h
  | some (some (.own us)) => Po (.own us) (env.set k none) h
  | some (some (.dic ks us)) => Po (.dic ks us) (env.set k none) h
  | _ => False
section
variable {X : Cx} {L : Lx} {pos : Pos}
theorem Sim.give {K : PySem.W.Frag} {W : Wd} {env : En} {h : Hv} {σ : L2.St} {H : Hp} (S : Sim K W env h σ H) {k : Nat} {sv : Sv} (e : env[k]? = some (some sv)) (hn : ∀ u, sv ≠ .val u) :
    ∃ W' v, Sim K W' (env.set k none) h σ H ∧ LeW W H W' H ∧ σ[k]? = some (some v) ∧ RSv K W' H .tmp sv v := by
  have hk : k < env.length := (List.getElem?_eq_some_iff.mp e).1
  have core : ∀ (a : Addr) (o : HO), W.own a = some (.slot k) → H a = some o → Mut (some o) → LeW W H (W.put a (some .tmp)) H ∧ Sim K (W.put a (some .tmp)) (env.set k none) h σ H := by
    intro a o n ea mu
    have q : At W H a (some .tmp) := .slotO n ea mu
    have l : LeW W H (W.put a (some .tmp)) H := q.le fun _ _ => rfl
    refine ⟨l, ⟨S.sh.step q (fun i z => by rw [n] at z; cases z) (fun _ _ => rfl) ⟨_, ea⟩, by simpa using S.len, fun j sv ej => ?_⟩⟩
    by_cases z : j = k
    · subst z
      rw [List.getElem?_set_self hk] at ej
      cases ej
    · rw [List.getElem?_set_ne (Ne.symm z)] at ej
      obtain ⟨v, e2, r2⟩ := S.slots j sv ej
      refine ⟨v, e2, ?_⟩
      cases sv with
      | val u => exact RV.le l.toLeP r2
      | own us2 =>
        obtain ⟨a2, vs2, rfl, n2, ea2, rv2⟩ := r2
        have ne : a2 ≠ a := fun q => by
          subst q
          rw [n] at n2
          cases n2
          exact z rfl
        exact ⟨a2, vs2, rfl, by rw [Wd.put_ne ne]; exact n2, ea2, rv2.le l.toLeP⟩
      | dic ks2 us2 =>
        obtain ⟨a2, o2, kv2, vv2, rfl, n2, ea2, ds2, r3, r4⟩ := r2
        have ne : a2 ≠ a := fun q => by
          subst q
          rw [n] at n2
          cases n2
          exact z rfl
        exact ⟨a2, o2, kv2, vv2, rfl, by rw [Wd.put_ne ne]; exact n2, ea2, ds2, r3.le l.toLeP, r4.le l.toLeP⟩
  obtain ⟨v, e1, r⟩ := S.slots k _ e
  cases sv with
  | val u => exact absurd rfl (hn u)
  | own us =>
    obtain ⟨a, vs, rfl, n, ea, rv⟩ := r
    obtain ⟨l, S'⟩ := core a _ n ea trivial
    exact ⟨_, _, S', l, e1, a, vs, rfl, Wd.put_same, ea, rv.le l.toLeP⟩
  | dic ks us =>
    obtain ⟨a, o, kv, vv, rfl, n, ea, ds, rk, rv⟩ := r
    obtain ⟨l, S'⟩ := core a o n ea ds.isD.mut
    exact ⟨_, _, S', l, e1, a, o, kv, vv, rfl, Wd.put_same, ea, ds, rk.le l.toLeP, rv.le l.toLeP⟩
theorem we_varO {k : Nat} {x : Str} (h : PE X (.Name x pos) (tVar k)) : WE X L (.Name x pos) (uVarO k) := by
  refine PE.wk h fun σ H Q ⟨W, env, h, Po, Pe, S, ht, c⟩ => ?_
  unfold uVarO at ht
  split at ht
  · rename_i u e
    obtain ⟨v, e1, r⟩ := S.slots k _ e
    exact ⟨v, e1, c.ok W (.val u) env h v H .refl S r ht⟩
  · rename_i us e
    obtain ⟨W', v, S', l, e1, r⟩ := S.give e fun u z => by cases z
    exact ⟨v, e1, c.ok W' _ _ h v H l S' r ht⟩
  · rename_i ks us e
    obtain ⟨W', v, S', l, e1, r⟩ := S.give e fun u z => by cases z
    exact ⟨v, e1, c.ok W' _ _ h v H l S' r ht⟩
  · exact ht.elim
end
end Vi

/-! Vi29: [x for x in d], d a dict that a name owns: d stays the name's own. -/
namespace Vi
open PySem PySem.Spec PyProof.Rows L2
variable [WW]
@[simp] def uKeyL (d v : Nat) : UE := fun env h Po _ => match env[d]? with
  | some (some (.dic ks _)) => ks.length ≤ sizeLine ∧ v < env.length ∧ Po (.own ks) env h
  | _ => False
omit [WW] in
/-- the keys' walk, by places -/
theorem kits_at {d : Addr} {o : HO} {ks : List U} {kv vv : List V} [WW] (ds : DicS d ks kv vv o) : ∃ J, KItS d o J ∧ ∀ (od : Obj) (H : Hp) (i : Nat), H d = some (.frz od o) →
    (kv.length ≤ i → (J od).stop i H) ∧ (∀ y, kv[i]? = some y → (J od).go i H ∧ ∀ x H', (J od).yld i H x H' → H' = H ∧ x = y) := by
  rcases ds with ⟨kvs, rfl, rfl, rfl, rfl⟩ | ⟨xs, hne, hz, hdp, rfl, rfl, rfl, en⟩
  · refine ⟨_, .inl ⟨kvs, rfl, rfl⟩, fun od H i e => ⟨fun hi => ⟨e, by simpa using hi⟩, fun y ey => ?_⟩⟩
    have hi : i < kvs.length := by
      have := (List.getElem?_eq_some_iff.mp ey).1
      simpa using this
    refine ⟨⟨e, hi⟩, fun x H'' ⟨eH, key, v, ek, ex⟩ => ?_⟩
    subst eH ex
    rw [List.getElem?_map, ek] at ey
    cases ey
    exact ⟨rfl, rfl⟩
  · refine ⟨_, .inr ⟨xs, rfl, rfl⟩, fun od H i e => ⟨fun hi => ⟨e, by simpa using hi⟩, fun y ey => ?_⟩⟩
    have hi : i < xs.length := by
      have := (List.getElem?_eq_some_iff.mp ey).1
      simpa using this
    refine ⟨⟨e, hi⟩, fun x H'' ⟨eH, z, ez, ex⟩ => ?_⟩
    subst eH ex
    rw [List.getElem?_map, ez] at ey
    cases ey
    exact ⟨rfl, rfl⟩
section
variable {X : Cx} {L : Lx}
theorem lg_lcKeys {x dn : Str} {p2 p3 : Pos} {d v : Nat} {vs : List Nat} (hd : PE X (.Name dn p3) (tVar d)) (hv : vs = [v]) {σ : L2.St} {H : Hp} {Q : VK} (hq : lg L (RT L) (uKeyL d v) σ H Q) :
    tLockE (tLc (fun σ H R => tVar d σ H fun x H1 => ∃ d o J, x = .ref d ∧ isDO o ∧ KItS d o J ∧ ((H1 d = some o ∧ ∀ od, R (J od) (upd H1 d (.frz od o))) ∨ ∃ od, H1 d = some (.frz od o) ∧ R (J od) H1)) (gName v) tYes (tVar v) vs) σ H Q := by
  obtain ⟨W, env, h, Po, Pe, S, ht, c⟩ := hq
  unfold uKeyL at ht
  split at ht
  · rename_i ks vs e
    obtain ⟨hz, hvl0, ht⟩ := ht
    obtain ⟨w, e1, a, o, kv, vv, rfl, n, ea, ds, rk, rv⟩ := S.slots d _ e
    obtain ⟨J, kj, hJ⟩ := kits_at ds
    have lk : kv.length = ks.length := rk.length.symm
    refine ⟨a, o, ea, ds.isD.mut, fun od => ?_⟩
    refine ⟨_, e1, a, o, J, rfl, ds.isD, kj, .inr ⟨od, upd_same, ?_⟩⟩
    intro D hD
    have nD : D ≠ a := fun z => by rw [z, upd_same] at hD; cases hD
    have hD0 : H D = none := by rw [upd_ne nD] at hD; exact hD
    rw [hv]
    refine ⟨fun i m H' => m = kv.length - i ∧ i ≤ kv.length ∧ H' = upd (upd H a (.frz od o)) D (.lst (kv.take i)), ⟨_, rfl, Nat.zero_le _, by simp⟩, ?_⟩
    rintro i m H' ⟨rfl, hi, rfl⟩
    have ed : (upd (upd H a (.frz od o)) D (.lst (kv.take i))) a = some (.frz od o) := by rw [upd_ne (Ne.symm nD), upd_same]
    by_cases hlt : i < kv.length
    · obtain ⟨go, yl⟩ := (hJ od _ i ed).2 kv[i] (List.getElem?_eq_getElem hlt)
      refine .inr ⟨go, fun H2 => H2 = upd (upd H a (.frz od o)) D (.lst (kv.take (i + 1))), fun H2 z => ⟨kv.length - (i + 1), by omega, rfl, hlt, z⟩, fun y H2 q => ?_⟩
      obtain ⟨rfl, rfl⟩ := yl y H2 q
      have hvl : v < (L2.wipe σ [v]).length := by
        have := S.len
        simp [L2.wipe]
        omega
      refine ⟨(by simp [L2.wipe] : L2.wipe ((L2.wipe σ [v]).set v (some kv[i])) [v] = L2.wipe σ [v]), ?_⟩
      simp only [tYes, if_true, tVar]
      refine ⟨kv[i], List.getElem?_set_self hvl, kv.take i, upd_same, by rw [List.length_take]; omega, ?_⟩
      have : kv.take (i + 1) = kv.take i ++ [kv[i]] := by rw [List.take_add_one, List.getElem?_eq_getElem hlt]; rfl
      rw [this]
      funext b
      by_cases z : b = D
      · subst z; rw [upd_same, upd_same]
      · rw [upd_ne z, upd_ne z, upd_ne z]
    · have ei : i = kv.length := by omega
      subst ei
      refine .inl ⟨(hJ od _ _ ed).1 (Nat.le_refl _), ed, ?_⟩
      rw [List.take_length]
      have eH : upd (upd (upd H a (.frz od o)) D (.lst kv)) a o = upd H D (.lst kv) := by
        funext b
        by_cases z : b = a
        · subst z; rw [upd_same, upd_ne (Ne.symm nD), ea]
        · rw [upd_ne z]
          by_cases z2 : b = D
          · subst z2; rw [upd_same, upd_same]
          · rw [upd_ne z2, upd_ne z2, upd_ne z]
      rw [eH]
      obtain ⟨S2, l2⟩ := S.alloc hD0 (.lst kv) .tmp
      exact c.ok _ (.own ks) env h (.ref D) _ l2 S2 ⟨D, kv, rfl, Wd.put_same, upd_same, rk.le l2.toLeP⟩ ht
  · exact ht.elim
theorem we_lcKeys {x dn : Str} {p1 p2 p3 pos : Pos} {scope : Scope} {own : List (Str × Nat)} {d v : Nat} (hc : X.calm = true) (hN : X.N.Nodup) (hd : PE X (.Name dn p3) (tVar d)) (ok : BlkOk X.N X.env.scope scope own) (hv : own.map (·.2) = [v])
    (hg : ∀ (s : Shared) (H : Hp) (C : Addr) (cl : List (Str × Addr)) (fp : List Addr), PG (X.blk s H scope (compEnvC scope cl C X.env) fp) (.Name x p2) (gName v))
    (he : ∀ (s : Shared) (H : Hp) (C : Addr) (cl : List (Str × Addr)) (fp : List Addr), PE (X.blk s H scope (compEnvC scope cl C X.env) fp) (.Name x p1) (tVar v)) (hs : ∀ y, foldedSetIterable (.Name dn p3) X.env y = pure y := by intro _; rfl) :
    WE X L (.ListComp (.Name x p1) [⟨.Name x p2, .Name dn p3, [], 0⟩] scope pos) (uKeyL d v) :=
  PE.wk (pe_lock (pe_lc hc hN (pi_keysD hd) ok hg (fun _ _ _ _ _ => pts_nil) he hs)) fun _ _ _ h => lg_lcKeys (x := x) (p2 := p2) hd hv h
theorem ps_lcKeysU {i : Nat} {y : Str} {py : Pos} {x dn : Str} {p1 p2 p3 pos spos : Pos} {scope : Scope} {own : List (Str × Nat)} {d v : Nat} (hc : X.calm = true) (hN : X.N.Nodup) (hy : X.N[i]? = some y) (hyl : X.env.scope.names.lookup y = some .local)
    (hsw : swapsWith (.ListComp (.Name x p1) [⟨.Name x p2, .Name dn p3, [], 0⟩] scope pos) (some (.Name y py)) spos.line X.env = pure true) (hd : PE X (.Name dn p3) (tVar d)) (ok : BlkOk X.N X.env.scope scope own) (hv : own.map (·.2) = [v])
    (hg : ∀ (s : Shared) (H : Hp) (C : Addr) (cl : List (Str × Addr)) (fp : List Addr), PG (X.blk s H scope (compEnvC scope cl C X.env) fp) (.Name x p2) (gName v))
    (he : ∀ (s : Shared) (H : Hp) (C : Addr) (cl : List (Str × Addr)) (fp : List Addr), PE (X.blk s H scope (compEnvC scope cl C X.env) fp) (.Name x p1) (tVar v)) (hs : ∀ y, foldedSetIterable (.Name dn p3) X.env y = pure y := by intro _; rfl) :
    PS X (.Assign [.Name y py] (.ListComp (.Name x p1) [⟨.Name x p2, .Name dn p3, [], 0⟩] scope pos) spos) (tAsg (lg L (RT L) (uKeyL d v)) (gName i)) :=
  PS.wk (ps_lock (ps_setLc hc hN hy hyl hsw (pi_keysD hd) ok hg (fun _ _ _ _ _ => pts_nil) he hs)) fun D σ H h => lg_lcKeys (x := x) (p2 := p2) hd hv h
end
end Vi

/-! Vi30: x[::-1] of a list or a tuple. -/
namespace Vi
open PySem PySem.Spec PyProof.Rows L2
variable [WW]
section
open HT
variable {prog : Program} {w : World} {A : Around} {E : Value → Shared → Prop} {s : Shared}
omit [WW] in
theorem adjust_rev (n : Nat) : Builtin.Slice.sliceAdjust none none (-1) (n : Int) = ((n : Int) - 1, -1) := by
  unfold Builtin.Slice.sliceAdjust
  simp
omit [WW] in
theorem places_rev (n : Nat) : Builtin.Slice.slicePlaces ((n : Int) - 1) (-1) (-1) = n := by
  unfold Builtin.Slice.slicePlaces
  have h1 : ¬ ((-1 : Int) > 0) := by decide
  rw [if_neg h1]
  by_cases h : (n : Int) - 1 > -1
  · rw [if_pos h, show (-(-1) : Int) = 1 from rfl, Int.ediv_one]
    omega
  · rw [if_neg h]
    omega
omit [WW] in
theorem fm_congr {α β : Type} {f g : α → Option β} : ∀ {l : List α}, (∀ x ∈ l, f x = g x) → l.filterMap f = l.filterMap g
  | [], _ => rfl
  | x :: l, h => by
    rw [List.filterMap_cons, List.filterMap_cons, h x List.mem_cons_self, fm_congr fun y hy => h y (List.mem_cons_of_mem _ hy)]
omit [WW] in
theorem pick_rev (xs : Array Value) : ((List.range xs.size).filterMap fun (k : Nat) => xs[(((xs.size : Nat) : Int) - 1 + (k : Int) * (-1)).toNat]?).toArray = xs.toList.reverse.toArray := by
  have e : ((List.range xs.size).filterMap fun (k : Nat) => xs[(((xs.size : Nat) : Int) - 1 + (k : Int) * (-1)).toNat]?) = ((List.range xs.size).map fun k => xs.size - 1 - k).filterMap (xs[·]?) := by
    rw [List.filterMap_map]
    refine fm_congr fun k hk => ?_
    have hk' := List.mem_range.mp hk
    have : (((xs.size : Nat) : Int) - 1 + (k : Int) * (-1)).toNat = xs.size - 1 - k := by omega
    rw [this]
    rfl
  rw [e, PySem.W.krv_range, List.filterMap_reverse, PySem.W.krv_all]
omit [WW] in
theorem sliceApplied_rev {sl : Addr} {vl vu vs : Value} {n : Nat} {Q : Int × Int × Nat → Shared → Prop} (hs : s.heap.IsSliceOf sl vl vu vs) (pl : IsPart vl none) (pu : IsPart vu none) (ps : IsPart vs (some (-1)))
    (h : Q ((n : Int) - 1, -1, n) s) : wpAny (model prog w) A (Builtin.Slice.sliceApplied (.ref sl) (pure (n : Int))) Q E s := by
  obtain ⟨os, hos, hcs, hds⟩ := id hs
  unfold Builtin.Slice.sliceApplied Builtin.Slice.sliceFields
  refine wpAny_bind (wpAny_bind (wpAny_field hos hds (x := vl) rfl (wpAny_bind (wpAny_field hos hds (x := vu) rfl (wpAny_bind (wpAny_field hos hds (x := vs) rfl (wpAny_pure ?_)))))))
  refine wpAny_bind (slicePart_ ps ?_)
  show wpAny _ _ (if ((-1 : Int) == 0) = true then _ else _) _ _ s
  rw [if_neg (by decide)]
  refine wpAny_bind (slicePart_ pl (wpAny_bind (slicePart_ pu (wpAny_bind (wpAny_pure ?_)))))
  show wpAny _ _ (match Builtin.Slice.sliceAdjust none none (-1) (n : Int) with | (lo, hi) => pure (lo, (-1 : Int), Builtin.Slice.slicePlaces lo hi (-1))) _ _ s
  rw [adjust_rev n]
  show wpAny _ _ (pure ((n : Int) - 1, (-1 : Int), Builtin.Slice.slicePlaces ((n : Int) - 1) (-1) (-1))) _ _ s
  rw [places_rev]
  exact wpAny_pure h
omit [WW] in
theorem getItem_tuple_rev {t sl : Addr} {items : Array Value} {vl vu vs : Value} {Q : Value → Shared → Prop} (ht : IsTup s.heap t items) (hs : s.heap.IsSliceOf sl vl vu vs) (pl : IsPart vl none) (pu : IsPart vu none) (ps : IsPart vs (some (-1)))
    (h : Q (.ref s.heap.objs.size) { s with heap := s.heap.push { cls := .type "tuple", data := .seq items.toList.reverse.toArray } }) (hsz : items.size ≤ sizeLine) : wpAny (model prog w) A (getItem (.ref t) (.ref sl)) Q E s := by
  have htake : sizeOk (.seq items.toList.reverse.toArray) := by
    show items.toList.reverse.toArray.size ≤ sizeLine
    rw [List.size_toArray, List.length_reverse, Array.length_toList]
    omega
  obtain ⟨os, hos, hcs, hds⟩ := id hs
  have hTs : s.TypeIs (.ref sl) "slice" := ⟨os, hos, hcs⟩
  unfold getItem
  try with_reducible refine wpAny_holding ?_
  first | refine wpAny_bind (wpAny_pure ?_) | skip
  refine wpAny_bind (wpAny_sequenceKey ht.typeIs (by decide) ?_)
  refine wpAny_bind (wpAny_callSpecial?_slot (name := Str.ofString "__getitem__") ht.typeIs PyProof.Rows.slot_tuple_getitem
    (wpAny_call_entry PyProof.Rows.slot_tuple_getitem ht.typeIs entry_tuple_getitem ?_ (args_tuple_getitem _ _)))
  show wpAny _ _ (Builtin.Tuple.tupleItemsOf (.ref t) >>= _) _ _ s
  refine wpAny_bind (tupleItemsOf_ ht ?_)
  refine wpAny_bind (wpAny_typeOf hTs ?_)
  rw [if_pos (by decide)]
  refine wpAny_bind (sliceApplied_rev hs pl pu ps ?_)
  have hno : ¬ ((((items.size : Int) - 1) == 0 && (-1 : Int) == 1 && items.size == items.size) = true) := by
    intro q
    rw [Bool.and_eq_true, Bool.and_eq_true] at q
    exact absurd q.1.2 (by decide)
  show wpAny _ _ (if (((items.size : Int) - 1) == 0 && (-1 : Int) == 1 && items.size == items.size) = true then _ else _) _ _ s
  rw [if_neg hno, pick_rev]
  first
    | exact wpAny_bind (m := Builtin.Tuple.tupleExact _) (wpAny_newObj_type (wpAny_pure ⟨_, rfl, wpAny_pure h⟩) htake)
    | exact wpAny_bind (m := Builtin.Tuple.tupleExact _) (wpAny_newObj_type (wpAny_bind (wpAny_pure (wpAny_pure ⟨_, rfl, wpAny_pure h⟩))) htake)
    | exact wpAny_bind (wpAny_bind (m := Builtin.Tuple.tupleExact _) (wpAny_newObj_type (wpAny_pure (wpAny_pure ⟨_, rfl, wpAny_pure h⟩)) htake))
    | exact wpAny_bind (wpAny_bind (m := Builtin.Tuple.tupleExact _) (wpAny_newObj_type (wpAny_pure ⟨_, rfl, wpAny_pure h⟩) htake))
end
section
variable {X : Cx} {L : Lx}
def tRevT (K : PySem.W.Frag) (te : TE) : TE := fun σ H Q => te σ H fun x H1 => (∃ a xs, x = .ref a ∧ SqL K H1 a xs ∧ ∀ p, H1 p = none → Q (.ref p) (upd H1 p (.lst xs.reverse))) ∨
  ∃ a xs, x = .ref a ∧ SqT K H1 a xs ∧ NewT H1 Q xs.reverse
theorem pe_revT {e : Expr} {te : TE} {k : Nat} {p1 p2 p3 pos : Pos} (he : PE X e te) : PE X (.Subscript e (.Slice none none (some (.UnaryOp .USub (.Constant (.int 1) k p1) p2)) p3) pos) (tRevT X.K te) := by
  refine ⟨fun pins s σ H Q I h => ?_⟩
  refine Subscript_ (thn (he.run pins s σ H _ I h) fun v s1 ⟨x, H1, I1, r1, q1⟩ => ?_)
  have hst : PO X (some (.UnaryOp .USub (.Constant (.int 1) k p1) p2)) (tPart (tUn (rU fun i => .int (-i)) (tC (.int 1)))) := po_some (pe_un un_neg pe_int)
  refine wpAny_Slice (thn (po_none.run pins s1 σ H1 (fun o H2 => o = none ∧ H2 = H1) I1 ⟨rfl, rfl⟩) fun vl s2 ⟨l, H2, I2, pl, el, e2⟩ => ?_)
  subst el e2
  refine thn (po_none.run pins s2 σ H2 (fun o H3 => o = none ∧ H3 = H2) I2 ⟨rfl, rfl⟩) fun vu s3 ⟨u, H3, I3, pu, eu, e3⟩ => ?_
  subst eu e3
  refine thn (hst.run pins s3 σ H3 (fun o H4 => o = some (-1) ∧ H4 = H3) I3 ⟨1, rfl, -1, rfl, rfl, rfl⟩) fun vs s4 ⟨o, H4, I4, ps, eo, e4⟩ => ?_
  subst eo e4
  have I5 : L2.Inv X pins σ H4 { s4 with heap := s4.heap.push { cls := .type "slice", data := .fields #[vl, vu, vs] } } := I4.kept (t' := s4.toks) fun b ob q => Heap.get?_push_of_some _ q
  rcases q1 with ⟨a, xs, ex, hx, q⟩ | ⟨a, xs, ex, hx, q⟩
  · subst ex
    cases r1
    obtain ⟨its, r, ht, hz⟩ := I5.list hx
    have hlen := r.length
    show wpAny (model X.prog X.w) X.A (subscriptTail e (.Slice none none (some (.UnaryOp .USub (.Constant (.int 1) k p1) p2)) p3) (.ref a) (.ref s4.heap.objs.size)) (EP X pins σ Q) X.xe { s4 with heap := s4.heap.push { cls := .type "slice", data := .fields #[vl, vu, vs] } }
    refine tail_any (ops := [.ref a, .ref s4.heap.objs.size]) ht.isList.typeIs (PySem.slot_list_getitem.lookup) ?_ (by with_unfolding_all rfl)
    refine wpAny_getItem_list_slice ht.isList (Heap.IsSliceOf.new _ vl vu vs) pl pu ps (by decide) ?_ (by rw [List.size_toArray]; omega)
    rw [PySem.W.krv_pick]
    refine ⟨.ref _, _, I5.laid (t' := s4.toks) (o := .lst xs.reverse) (fun b ob q => Heap.get?_push_of_some _ q) (Nat.le_refl _) ?_, rfl, q _ (I5.hok.fresh (Nat.le_refl _))⟩
    exact ⟨by rw [List.length_reverse]; exact hz, _, 0, r.reverse, Heap.get?_push_size _ rfl⟩
  · subst ex
    cases r1
    obtain ⟨its, r, ht, hz⟩ := I5.tuple hx
    have hlen := r.length
    show wpAny (model X.prog X.w) X.A (subscriptTail e (.Slice none none (some (.UnaryOp .USub (.Constant (.int 1) k p1) p2)) p3) (.ref a) (.ref s4.heap.objs.size)) (EP X pins σ Q) X.xe { s4 with heap := s4.heap.push { cls := .type "slice", data := .fields #[vl, vu, vs] } }
    refine tail_any (ops := [.ref a, .ref s4.heap.objs.size]) ht.typeIs (PyProof.Rows.slot_tuple_getitem.lookup) ?_ (by with_unfolding_all rfl)
    refine getItem_tuple_rev ht (Heap.IsSliceOf.new _ vl vu vs) pl pu ps ?_ (by rw [List.size_toArray]; omega)
    exact laidT I5 (t' := s4.toks) (by rw [List.length_reverse]; exact hz) r.reverse q
@[simp] def uRev (t : UE) : UE := fun env h Po Pe => t env h (fun sv env1 h1 => match sv.u with
  | .lst us => Po (.own us.reverse) env1 h1
  | .tup us => Po (.val (.tup us.reverse)) env1 h1
  | _ => False) Pe
theorem we_rev {e : Expr} {t : UE} {k : Nat} {p1 p2 p3 pos : Pos} (hK : L.K = X.K) (he : WE X L e t) : WE X L (.Subscript e (.Slice none none (some (.UnaryOp .USub (.Constant (.int 1) k p1) p2)) p3) pos) (uRev t) := by
  refine PE.wk (pe_revT he) fun σ H Q ⟨W, env, h, Po, Pe, S, ht, c⟩ => ?_
  refine ⟨W, env, h, _, _, S, ht, ⟨fun W1 x env1 h1 v1 H1 l1 S1 r1 q1 => ?_, c.er⟩⟩
  obtain ⟨W1', S1', l1', rv1⟩ := S1.freeze r1
  have c1 := c.le (l1.trans l1')
  generalize x.u = u at q1 rv1
  split at q1
  · rename_i us
    cases rv1 with
    | lst n e r =>
      refine .inl ⟨_, _, rfl, .inl (.inl e), fun p hp => ?_⟩
      obtain ⟨S2, l2⟩ := S1'.alloc hp (.lst _) .tmp
      exact c1.ok _ (.own us.reverse) env1 h1 _ _ l2 S2 ⟨p, _, rfl, Wd.put_same, upd_same, r.reverse.le l2.toLeP⟩ q1
  · rename_i us
    cases rv1 with
    | tup hq r =>
      rename_i a vs
      refine .inr ⟨a, vs, rfl, hK ▸ hq.sq, fun p ob hp hd => ?_⟩
      have l2 := LeW.none_ S1'.sh hp (.frz ob (.tup vs.reverse))
      exact c1.ok _ (.val (.tup us.reverse)) env1 h1 _ _ l2 (S1'.none_ hp _) (.tup (.inl ⟨ob, hd, upd_same⟩) (r.reverse.le l2.toLeP)) q1
  · exact q1.elim
end
end Vi

/-! Vi31: t.index(x) of a tuple of texts, [..].index(x), s.upper(). -/
namespace Vi
open PySem PySem.Spec PyProof.Rows L2
variable [WW]
section
variable {X : Cx} {L : Lx} {o e : Expr} {to : TE} {t : TA} {apos cpos : Pos} {id : String} {name : Str} {r : V → List V → Hp → VK → Prop}
/-- what a tuple's method asks -/
def tBMT (K : PySem.W.Frag) (r : V → List V → Hp → VK → Prop) (to : TE) (t : TA) : TE := fun σ H Q => to σ H fun x H1 => (∃ a vs, x = .ref a ∧ TupS K H1 a vs) ∧ t σ H1 fun vs H2 => r x vs H2 Q
/-- a method of a tuple, one argument -/
theorem pe_bmT (slot : Slot "tuple" name id) (hty : typeOf (.builtin id) = pure (.type "method_descriptor")) (hm : MtR X id r) (ho : PE X o to) (ha : PA X [e] t)
    (hbase : attributeBase o name X.env (eval o X.env) = eval o X.env := by rfl)
    (hfew : ((backTo cpos (starEach [e] X.env)).all (fun x => !x.1) && (backToKw cpos (keywordEach [] X.env)).all (fun x => x.1.isSome) && decide ([e].length + ([] : List Keyword).length + (if ([] : List Keyword).isEmpty then 0 else 1) < 30)) = true := by rfl)
    (hline : (apos.endLine == cpos.line) = true := by rfl) (hs : starEach [e] X.env = (false, eval e X.env) :: starEach [] X.env := by rfl) (hplain : (backTo cpos (starEach [] X.env)).any (·.1) = false := by rfl) :
    PE X (.Call (.Attribute o name apos) [e] [] cpos) (tBMT X.K r to t) := by
  constructor
  intro pins s σ H Q I h
  refine wpAny_Call_method_late hbase hfew hline rfl (thn (ho.run pins s σ H _ I h) fun v s1 ⟨x, H1, I1, r1, ⟨a, vs, ex, tp⟩, q1⟩ => ?_)
  subst ex
  obtain rfl : v = Value.ref a := r1
  obtain ⟨g1, g2⟩ := tp.plain I1
  refine ⟨"tuple", id, PySem.F.plainAttrs_tuple, slot, hty, g1, fun b z => (by cases z; exact g2), ?_⟩
  have hA := ha.run cpos pins s1 σ H1 _ I1 q1
  rw [hs] at hA ⊢
  exact Calls.callWith_builtin (by show (false || (backTo cpos (starEach [] X.env)).any (·.1)) = false; rw [hplain]; rfl) (Calls.evalArgs_plain (thn hA fun us s2 ⟨ws, H2, I2, r2, q2⟩ => hm pins s2 σ H2 (.ref a) ws (.ref a) us Q I2 rfl r2 q2))
/-- x.index(e), x a name of a tuple of texts -/
@[simp] def uIdxT (k : Nat) (r : UA) : UE := fun env h Po Pe => ∃ us ys, env[k]? = some (some (.val (.tup us))) ∧ allStr us = some ys ∧ r env h (fun args env1 h1 => match args with
  | [.str z] => ∃ j, ys[j]? = some z ∧ (∀ m, m < j → ys[m]? ≠ some z) ∧ Po (.val (.int (j : Nat))) env1 h1
  | _ => False) Pe
theorem we_idxT {k : Nat} {x : Str} {p : Pos} {ua : UA} (hK : L.K = X.K) (hx : PE X (.Name x p) (tVar k)) (hA : WA X L [e] ua)
    (hbase : attributeBase (.Name x p) "index" X.env (eval (.Name x p) X.env) = eval (.Name x p) X.env := by rfl)
    (hfew : ((backTo cpos (starEach [e] X.env)).all (fun x => !x.1) && (backToKw cpos (keywordEach [] X.env)).all (fun x => x.1.isSome) && decide ([e].length + ([] : List Keyword).length + (if ([] : List Keyword).isEmpty then 0 else 1) < 30)) = true := by rfl)
    (hline : (apos.endLine == cpos.line) = true := by rfl) (hs : starEach [e] X.env = (false, eval e X.env) :: starEach [] X.env := by rfl) (hplain : (backTo cpos (starEach [] X.env)).any (·.1) = false := by rfl) :
    WE X L (.Call (.Attribute (.Name x p) "index" apos) [e] [] cpos) (uIdxT k ua) := by
  refine PE.wk (pe_bmT PySem.F.slot_tuple_index PySem.F.type_tuple_index mt_tup_index hx hA hbase hfew hline hs hplain) fun σ H Q ⟨W, env, h, Po, Pe, S, ⟨us, ys, e0, ef, ht⟩, c⟩ => ?_
  obtain ⟨v, ev, rv⟩ := S.slots k _ e0
  have rv' : RV L.K W H (.tup us) v := rv
  cases rv' with
  | @tup _ a vs hq rs =>
    have e1 := rs.strs ef
    subst e1
    refine ⟨_, ev, ⟨a, _, rfl, hK ▸ hq⟩, W, env, h, _, _, S, ht, ⟨fun W1 args env1 h1 avs H1 l1 S1 r1 q1 => ?_, c.er⟩⟩
    split at q1
    · rename_i z
      obtain ⟨y, rfl, ry⟩ := RVs.one r1
      cases ry.str_
      obtain ⟨j, g1, g2, g3⟩ := q1
      exact ⟨a, ys, z, j, rfl, rfl, hK ▸ (hq.le l1.toLeP).sq, g1, g2, c.ok W1 (.val (.int j)) env1 h1 _ H1 l1 S1 (.int _) g3⟩
    · exact q1.elim
/-- [..].index(e) -/
@[simp] def uIdxG (t : UE) (r : UA) : UE := fun env h Po Pe => t env h (fun sv env0 h0 => match sv.u with
  | .lst us => ∃ vs, flatUs us = some vs ∧ r env0 h0 (fun args env1 h1 => match args with
    | [u] => ∃ v j z, flatU u = some v ∧ vs[j]? = some z ∧ eqV z v = true ∧ (∀ (m : Nat) (z' : V), m < j → vs[m]? = some z' → eqV z' v = false) ∧ Po (.val (.int (j : Nat))) env1 h1
    | _ => False) Pe
  | _ => False) Pe
theorem we_idxG {tt : UE} {ua : UA} (hK : L.K = X.K) (ho : WE X L o tt) (hA : WA X L [e] ua)
    (hbase : attributeBase o "index" X.env (eval o X.env) = eval o X.env := by rfl)
    (hfew : ((backTo cpos (starEach [e] X.env)).all (fun x => !x.1) && (backToKw cpos (keywordEach [] X.env)).all (fun x => x.1.isSome) && decide ([e].length + ([] : List Keyword).length + (if ([] : List Keyword).isEmpty then 0 else 1) < 30)) = true := by rfl)
    (hline : (apos.endLine == cpos.line) = true := by rfl) (hs : starEach [e] X.env = (false, eval e X.env) :: starEach [] X.env := by rfl) (hplain : (backTo cpos (starEach [] X.env)).any (·.1) = false := by rfl) :
    WE X L (.Call (.Attribute o "index" apos) [e] [] cpos) (uIdxG tt ua) := by
  refine PE.wk (pe_bm PySem.F.plainAttrs_list PySem.F.slot_list_index PySem.F.type_list_index mt_index ho hA hbase hfew hline hs hplain) fun σ H Q ⟨W, env, h, Po, Pe, S, ht, c⟩ => ?_
  refine ⟨W, env, h, _, _, S, ht, ⟨fun W0 sv env0 h0 v0 H0 l0 S0 r0 q0 => ?_, c.er⟩⟩
  obtain ⟨W1, S1, l1, rv⟩ := S0.freeze r0
  have c1 := c.le (l0.trans l1)
  generalize sv.u = u at q0 rv
  split at q0
  · rename_i us
    obtain ⟨vs, ef, q0⟩ := q0
    cases rv with
    | @lst _ a ws n ea rs =>
      obtain ⟨e1, e2⟩ := rs.flat ef
      subst e1
      refine ⟨.inl ⟨rfl, ws, .inl (.inl ea)⟩, W1, env0, h0, _, _, S1, q0, ⟨fun W2 args env2 h2 avs H2 l2 S2 r2 q2 => ?_, c1.er⟩⟩
      split at q2
      · obtain ⟨y, rfl, ry⟩ := RVs.one r2
        obtain ⟨vv, j, z, f1, f2, f3, f4, f5⟩ := q2
        obtain ⟨g1, g2⟩ := ry.flat f1
        subst g1
        exact ⟨a, ws, y, j, z, rfl, rfl, .inl (.inl (l2.toLeP.frl ea n).2), g2, e2, f2, f3, f4, c1.ok W2 (.val (.int j)) env2 h2 _ H2 l2 S2 (.int _) f5⟩
      · exact q2.elim
  · exact q0.elim
/-- f() -/
theorem pe_callG0 {k : Nat} {f : Addr} {fd : FuncData} {sp : Sp} {E : L2.St → XK} {x : Str} {p pos : Pos} (F : FnG X.prog X.w X.K X.mg X.base k f fd [] sp) (hr : Room k X.A) (hgd : X.A.guards = some []) (hg : Gl X x) (hm : X.mg x = some (.ref f)) (hk : PySem.W.keepIn X.K (.ref f) = true) (hb : L2.Binds X.K fd [] [])
    (hx : ∀ σ, PassesAt (L2.CX X.prog X.w) X σ (E σ)) (hdb : (x == ("__debug__" : Str)) = false := by decide) : PE X (.Call (.Name x p) [] [] pos) (fun σ H Q => sp [] H Q (E σ)) := by
  constructor
  intro pins s σ H Q I h
  apply wpAny_Call_Name_kw
  apply ld_glob I hg hm _ hdb
  refine PySem.W.callWith_K0 I.kIn hk (wpAny_call (codeAny_mono (run_fnG (all := []) F hr hgd (hx σ) I (fun hl => hb s [] I.kIn hl) .nil h) fun res s2 q2 => ?_))
  match res, q2 with
  | .error e, q2 => exact q2
  | .ok (.ret u), q2 => exact q2
  | .ok .next, q2 => exact q2.elim
  | .ok .brk, q2 => exact q2.elim
  | .ok .cont, q2 => exact q2.elim
theorem we_call0 {k : Nat} {fa : Addr} {fd : FuncData} {f : FS} {x : Str} {p pos : Pos} (F : FnG X.prog X.w X.K X.mg X.base k fa fd [] (spF L.K L.ga 0 f)) (hr : Room k X.A) (hgd : X.A.guards = some []) (hg : Gl X x) (hm : X.mg x = some (.ref fa))
    (hk : PySem.W.keepIn X.K (.ref fa) = true) (hb : L2.Binds X.K fd [] []) (tk : Takes X L.wx) (hdb : (x == ("__debug__" : Str)) = false := by decide) : WE X L (.Call (.Name x p) [] [] pos) (uCall 0 f [] uNil) :=
  PE.wk (pe_callG0 (E := fun σ cls d H => L.wx cls d σ H) F hr hgd hg hm hk hb (fun σ => passAt tk σ) hdb) fun σ H Q ⟨W, env, h, Po, Pe, S, ht, c⟩ => sp_of S .nil rfl ht.2 c
/-- a, b = x, y, b's list its own -/
@[simp] def uPar2O (i j : Nat) (t1 t2 : UE) : US := fun env h P => t1 env h (fun x env1 h1 => t2 env1 h1 (fun y env2 h2 => i < env2.length ∧ j < env2.length ∧ P.nx ((env2.set i (some (.val x.u))).set j (some y)) h2) P.er) P.er
theorem ws_par2O {i j : Nat} {s : Stmt} {t1 t2 : UE} (hp : PS X s (tPar i j (tCons (lg L (RT L) t1) (tCons (lg L (RT L) t2) tNil)))) : WS X L s (uPar2O i j t1 t2) := by
  refine PS.wk hp fun D σ H ⟨W, env, h, P, S, ht, c⟩ => ?_
  refine ⟨W, env, h, _, _, S, ht, ⟨fun W1 x env1 h1 v1 H1 l1 S1 r1 q1 => ?_, c.ret.er⟩⟩
  obtain ⟨W1', S1', l1', rv1⟩ := S1.freeze r1
  have c1 := c.le (l1.trans l1')
  refine ⟨W1', env1, h1, _, _, S1', q1, ⟨fun W2 y env2 h2 v2 H2 l2 S2 r2 q2 => ?_, c1.ret.er⟩⟩
  have S3 := S2.store q2.1 (rv1.le l2.toLeP)
  have hj : j < (env2.set i (some (.val x.u))).length := by simpa using q2.2.1
  refine ⟨v1, v2, rfl, ?_⟩
  cases y with
  | val u => exact c1.nx W2 _ h2 _ H2 l2 (S3.store hj r2) q2.2.2
  | own us =>
    obtain ⟨W3, S4, l3⟩ := S3.storeO hj r2
    exact c1.nx W3 _ h2 _ H2 (l2.trans l3) S4 q2.2.2
  | dic ks us =>
    obtain ⟨W3, S4, l3⟩ := S3.storeD hj r2
    exact c1.nx W3 _ h2 _ H2 (l2.trans l3) S4 q2.2.2
/-- s.upper() -/
@[simp] def uUpper (t : UE) : UE := fun env h Po Pe => t env h (fun sv env1 h1 => match sv.u with
  | .str a => a.length ≤ 5592405 ∧ Po (.val (.str (Txt.upper a))) env1 h1
  | _ => False) Pe
theorem we_upper {tt : UE} (ho : WE X L o tt) (hbase : attributeBase o "upper" X.env (eval o X.env) = eval o X.env := by rfl) (hline : (apos.endLine == cpos.line) = true := by rfl) :
    WE X L (.Call (.Attribute o "upper" apos) [] [] cpos) (uUpper tt) := by
  refine PE.wk (pe_upper ho hbase hline) fun σ H Q ⟨W, env, h, Po, Pe, S, ht, c⟩ => ?_
  refine ⟨W, env, h, _, _, S, ht, ⟨fun W0 sv env0 h0 v0 H0 l0 S0 r0 q0 => ?_, c.er⟩⟩
  obtain ⟨W1, S1, l1, rv⟩ := S0.freeze r0
  generalize sv.u = u at q0 rv
  split at q0
  · cases rv
    exact ⟨⟨_, rfl⟩, _, rfl, rfl, q0.1, c.ok W1 (.val (.str _)) env0 h0 _ H0 (l0.trans l1) S1 (RV.str _) q0.2⟩
  · exact q0.elim
/-- an own list handed on as an argument that the callee changes -/
@[simp] def uShr (t : UE) : UE := fun env h Po Pe => t env h (fun sv env1 h1 => match sv with
  | .own us => Po (.val (.ref h1.length)) env1 (h1 ++ [.lst us])
  | _ => False) Pe
theorem we_shr {e : Expr} {t : UE} (he : WE X L e t) : WE X L e (uShr t) := by
  refine PE.wk he fun σ H Q ⟨W, env, h, Po, Pe, S, ht, c⟩ => ?_
  refine ⟨W, env, h, _, _, S, ht, ⟨fun W1 sv env1 h1 y H1 l1 S1 r1 q1 => ?_, c.er⟩⟩
  cases sv with
  | val u => exact q1.elim
  | dic _ _ => exact q1.elim
  | own us =>
    obtain ⟨W2, S2, l2, r2⟩ := S1.share r1
    exact c.ok W2 (.val (.ref h1.length)) env1 _ y H1 (l1.trans l2) S2 r2 q1
end
end Vi

/-! Vi32: repr of data with error objects within. -/
namespace Vi
open PySem PySem.Spec PyProof.Rows L2
variable [WW]
mutual
/-- the text, how deep -/
def showU : U → Option (Str × Nat)
  | .non => some (PyData.shown .none, 0)
  | .bl b => some (PyData.shown (.bool b), 0)
  | .int i => if i.natAbs.log2 < 1920 then some (PyData.shown (.int i), 0) else none
  | .str x => if (reprText x).length ≤ sizeLine then some (reprText x, 0) else none
  | .tup us => (showUs us).map fun p => (tupleText p.1, p.2 + 1)
  | .lst us => (showUs us).map fun p => (listText p.1, p.2 + 1)
  | .err x (some m) => some (errText x m, 0)
  | _ => none
def showUs : List U → Option (List Str × Nat)
  | [] => some ([], 0)
  | u :: us => match showU u, showUs us with
    | some p, some q => some (p.1 :: q.1, max p.2 q.2)
    | _, _ => none
end
section
variable {X : Cx} {pins : List (Addr × Obj)} {σ : L2.St} {H : Hp} {s : Shared} {W : Wd}
mutual
theorem RV.shw (I : L2.Inv X pins σ H s) : ∀ {u : U} {v : V} {a : Value} {p : Str × Nat}, RV X.K W H u v → RelV v a → showU u = some p → Shw X.K X.prog X.w s.heap a p.1 p.2
  | _, _, _, _, .non, r, e => by
    obtain rfl := show _ = Value.none from r
    cases e
    exact .leaf (by simp only [PyData.shown]; exact ReprIs.none) (by intro a; nofun)
  | _, _, _, _, .bl b, r, e => by
    obtain rfl := show _ = Value.bool b from r
    cases e
    exact .leaf (by simp only [PyData.shown]; exact ReprIs.bool b) (by intro a; nofun)
  | _, _, _, _, .int i, r, e => by
    obtain ⟨t, rfl⟩ := r
    unfold showU at e
    split at e
    · rename_i h
      cases e
      exact .leaf (by simp only [PyData.shown]; exact ReprIs.int t h) (by intro a; nofun)
    · cases e
  | _, _, _, _, .str x, r, e => by
    obtain ⟨t, rfl⟩ := r
    unfold showU at e
    split at e
    · rename_i h
      cases e
      exact .leaf (ReprIs.str x t h) (by intro a; nofun)
    · cases e
  | _, _, _, _, .tup (us := us) h rs, r, e => by
    obtain rfl := show _ = Value.ref _ from r
    unfold showU at e
    obtain ⟨q, e1, rfl⟩ := Option.map_eq_some_iff.mp e
    obtain ⟨its, rv, ⟨o, ho, hc, n, hd⟩, _⟩ := I.tuple h.sq
    exact .tup ho hc hd (by simpa using RVs.shw I rs rv e1)
  | _, _, _, _, .lst (us := us) n0 h rs, r, e => by
    obtain rfl := show _ = Value.ref _ from r
    unfold showU at e
    obtain ⟨q, e1, rfl⟩ := Option.map_eq_some_iff.mp e
    obtain ⟨its, rv, ⟨o, n, ho, hc, _, hd⟩, _⟩ := I.list (.inl (.inl h))
    exact .lst ho hc hd (by simpa using RVs.shw I rs rv e1)
  | _, _, _, _, .err (m := m) he hc, r, e => by
    obtain rfl := show _ = Value.ref _ from r
    cases m with
    | none => cases e
    | some t =>
      cases e
      obtain ⟨oe, vs, e1, e2, e3, e4, e5⟩ := he
      obtain ⟨t0, ot, q1, q2⟩ := e5 t rfl
      obtain ⟨g1, _⟩ := I.hok _ _ e1
      obtain ⟨g2, _, its, rv, o', ho', hc', n', hd'⟩ := I.hok _ _ q2
      obtain ⟨u, rfl, ru⟩ := vals1 (show Vals [V.str t] its from rv)
      obtain ⟨tk, rfl⟩ := ru
      exact .err ⟨I.kIn, oe, vs, g1, e2, e4, q1⟩ (eclB_rep hc) ⟨o', n', ho', hc', hd'⟩
  | _, _, _, _, .ty _, r, e => by cases e
  | _, _, _, _, .scr _, r, e => by cases e
  | _, _, _, _, .ref _ _, r, e => by cases e
  | _, _, _, _, .ecl _ _, r, e => by cases e
  | _, _, _, _, .dic _ _ _ _, r, e => by cases e
  | _, _, _, _, .erf _ _ _ _ _, r, e => by cases e
theorem RVs.shw (I : L2.Inv X pins σ H s) : ∀ {us : List U} {vs : List V} {as : List Value} {q : List Str × Nat}, RVs X.K W H us vs → Vals vs as → showUs us = some q → ShwAll X.K X.prog X.w s.heap as q.1 q.2
  | _, _, _, _, .nil, r, e => by cases e; cases r; exact .nil
  | _, _, _, _, .cons (u := u) (us := us) a b, r, e => by
    cases r with
    | cons r1 r2 =>
      unfold showUs at e
      cases q1 : showU u with
      | none => rw [q1] at e; cases e
      | some p =>
        cases q2 : showUs us with
        | none => rw [q1, q2] at e; cases e
        | some q =>
          rw [q1, q2] at e
          cases e
          exact .cons (RV.shw I a r1 q1) (RVs.shw I b r2 q2)
end
end
/-- repr of data with error objects -/
@[simp] def bReprE : UB := fun us h P => match us with
  | [u] => (match showU u with
    | some p => p.1.length ≤ sizeLine ∧ p.2 ≤ 60 ∧ P (.val (.str p.1)) h
    | none => False)
  | _ => False
section
variable {X : Cx}
theorem call_reprEU (hg : X.A.guards = some []) (hu : X.A.units + 64 < cLine) : CallR X (.builtin "repr") (lb X.K bReprE) := by
  intro pins s σ H xs us Q I r q
  obtain ⟨W, env, h, σ', ws, P, S, rr, ht, c⟩ := q
  unfold bReprE at ht
  split at ht
  · rename_i u
    obtain ⟨v, rfl, ru⟩ := RVs.one rr
    split at ht
    · rename_i p ep
      obtain ⟨hz, hd, ht⟩ := ht
      obtain ⟨w, rfl, rx⟩ := vals1 r
      have fin : ∀ (h' : Heap) (u' : Tok) (tk : Nat), (∀ b o, s.heap.get? b = some o → h'.get? b = some o) → EP X pins σ Q (.str p.1 u') { s with heap := h', toks := tk } := fun h' u' tk hk =>
        ⟨.str p.1, H, I.kept (h' := h') (t' := tk) hk, ⟨u', rfl⟩, c.val S (.str _) ht⟩
      have sw := RV.shw I ru rx ep
      cases ru with
      | non =>
        obtain rfl := show _ = Value.none from rx
        cases ep
        exact PySem.P.repr_of_none (fin s.heap _ _ fun _ _ e => e)
      | bl b =>
        obtain rfl := show _ = Value.bool b from rx
        cases ep
        exact PySem.P.repr_of_bool (by cases b <;> exact fin s.heap _ _ fun _ _ e => e)
      | int i =>
        obtain ⟨t, rfl⟩ := rx
        unfold showU at ep
        split at ep
        · rename_i hi
          cases ep
          exact PySem.P.repr_of_int hi (fin s.heap _ _ fun _ _ e => e)
        · cases ep
      | str z =>
        obtain ⟨t, rfl⟩ := rx
        unfold showU at ep
        split at ep
        · rename_i hi
          cases ep
          exact PySem.P.repr_of_str (fin s.heap _ _ fun _ _ e => e) hi
        · cases ep
      | tup _ _ =>
        obtain rfl := show _ = Value.ref _ from rx
        exact sw.call_repr hg (by omega) (fun _ _ e => e) fin hz
      | lst _ _ _ =>
        obtain rfl := show _ = Value.ref _ from rx
        exact sw.call_repr hg (by omega) (fun _ _ e => e) fin hz
      | err _ _ =>
        obtain rfl := show _ = Value.ref _ from rx
        exact sw.call_repr hg (by omega) (fun _ _ e => e) fin hz
      | ty _ => cases ep
      | scr _ => cases ep
      | ref _ _ => cases ep
      | ecl _ _ => cases ep
      | dic _ _ _ _ => cases ep
      | erf _ _ _ _ _ => cases ep
    · exact ht.elim
  · exact ht.elim
end
/-- data with errors whose text has at most n signs, at most k deep -/
def ShE (u : U) (n k : Nat) : Prop := ∃ p, showU u = some p ∧ p.1.length ≤ n ∧ p.2 ≤ k
def ShEs (us : List U) (n k : Nat) : Prop := ∃ p, showUs us = some p ∧ p.1.length = us.length ∧ (p.1.map (·.length)).sum ≤ n * us.length ∧ p.2 ≤ k
theorem ShE.mono {u : U} {n k n' k' : Nat} (h : ShE u n k) (hn : n ≤ n') (hk : k ≤ k') : ShE u n' k' := by
  obtain ⟨p, e, h1, h2⟩ := h
  exact ⟨p, e, by omega, by omega⟩
theorem she_str {x : Str} {n : Nat} (h : (reprText x).length ≤ n) (hn : n ≤ 16777216) : ShE (.str x) n 0 := ⟨(reprText x, 0), by unfold showU; rw [if_pos (by rw [sizeLine_eq]; omega)], h, Nat.le_refl _⟩
theorem she_bl {b : Bool} : ShE (.bl b) 5 0 := ⟨_, rfl, by cases b <;> decide, Nat.le_refl _⟩
theorem she_non : ShE .non 5 0 := ⟨_, rfl, by decide, Nat.le_refl _⟩
theorem she_int {i : Int} {k : Nat} (hk : k ≤ 1919) (h : i.natAbs.log2 ≤ k) : ShE (.int i) (k + 2) 0 := by
  refine ⟨(PyData.shown (.int i), 0), by unfold showU; rw [if_pos (by omega)], ?_, Nat.le_refl _⟩
  have e := int_text_length_le (a := i) (k := k + 1) (by omega) (by omega)
  show (PySem.Str.ofString (toString i)).length ≤ _
  rw [PySem.ofString_length]
  omega
theorem she_err {x m : Str} {n : Nat} (h : (errText x m).length ≤ n) : ShE (.err x (some m)) n 0 := ⟨_, rfl, h, Nat.le_refl _⟩
theorem shes_of {n k : Nat} : ∀ {us : List U}, (∀ u ∈ us, ShE u n k) → ShEs us n k
  | [], _ => ⟨([], 0), rfl, rfl, by simp, Nat.zero_le _⟩
  | u :: us, h => by
    obtain ⟨p, e, h1, h2⟩ := h u (List.mem_cons_self ..)
    obtain ⟨q, es, g1, g2, g3⟩ := shes_of (us := us) fun w hw => h w (List.mem_cons_of_mem _ hw)
    refine ⟨(p.1 :: q.1, max p.2 q.2), by unfold showUs; rw [e, es], by simp [g1], ?_, Nat.max_le.mpr ⟨h2, g3⟩⟩
    simp only [List.map_cons, List.sum_cons, List.length_cons, Nat.mul_add, Nat.mul_one]
    omega
theorem ShEs.tup {us : List U} {n k : Nat} (h : ShEs us n k) : ShE (.tup us) ((n + 2) * us.length + 3) (k + 1) := by
  obtain ⟨p, es, g1, g2, g3⟩ := h
  refine ⟨(tupleText p.1, p.2 + 1), by unfold showU; rw [es]; rfl, ?_, by omega⟩
  have e := tupleText_len_le p.1
  rw [g1] at e
  rw [Nat.add_mul]
  show (tupleText p.1).length ≤ _
  omega
theorem ShEs.lst {us : List U} {n k : Nat} (h : ShEs us n k) : ShE (.lst us) ((n + 2) * us.length + 3) (k + 1) := by
  obtain ⟨p, es, g1, g2, g3⟩ := h
  refine ⟨(listText p.1, p.2 + 1), by unfold showU; rw [es]; rfl, ?_, by omega⟩
  have e := listText_len_le p.1
  rw [g1] at e
  rw [Nat.add_mul]
  show (listText p.1).length ≤ _
  omega
/-- what repr wants -/
theorem ShE.ok {u : U} {n k : Nat} (h : ShE u n k) (hn : n ≤ 16777216) (hk : k ≤ 60) : ∃ p, showU u = some p ∧ p.1.length ≤ sizeLine ∧ p.2 ≤ 60 := by
  obtain ⟨p, e, h1, h2⟩ := h
  exact ⟨p, e, by rw [sizeLine_eq]; omega, by omega⟩
end Vi

/-! Vi33: a text so many times; data in a list of data. -/
namespace Vi
open PySem PySem.Spec PyProof.Rows L2
variable [WW]
section
variable {X : Cx}
theorem op_repS : OpR X (binaryOp .Mult) (fun x y H Q => ∃ z k, x = .str z ∧ y = .int k ∧ MulOk z k ∧ Q (.str (Txt.mul z k)) H) := by
  rintro pins s σ H x y v u Q I rx ry ⟨z, k, rfl, rfl, hm, q⟩
  obtain ⟨t, rfl⟩ := rx
  obtain ⟨t', rfl⟩ := ry
  exact SB.mul hm fun u' tk => ⟨.str _, H, I.kept (h' := s.heap) (t' := tk) fun _ _ e => e, ⟨u', rfl⟩, q⟩
/-- 'ab' * k -/
@[simp] def bMulS : UO := fun u w h P => match u, w with
  | .str z, .int k => MulOk z k ∧ P (.val (.str (Txt.mul z k))) h
  | _, _ => False
theorem op_mulSU : OpR X (binaryOp .Mult) (lo X.K bMulS) := by
  refine OpR.wk op_repS fun x y H Q ⟨W, env, h, σ, u, w, P, S, ru, rw_, ht, c⟩ => ?_
  unfold bMulS at ht
  split at ht
  · cases ru
    cases rw_
    exact ⟨_, _, rfl, rfl, ht.1, c.val S (.str _) ht.2⟩
  · exact ht.elim
/-- x in a list, by data -/
def inDL? (u w : U) : Option Bool := match toD u, toD w with
  | some d, some (.list ds) => if SeqAt.shaped d && SeqAt.shaped (.list ds) then some (ds.any fun z => PyData.eqv z d) else none
  | _, _ => none
@[simp] def bInL (neg : Bool) : UO := fun u w h P => match inDL? u w with
  | some b => P (.val (.bl (if neg then !b else b))) h
  | none => False
theorem op_inDLU (hu : X.A.units + 64 + 1 < cLine) : OpR X (compareOp .In) (lo X.K (bInL false)) := by
  refine OpR.wk (op_inD hu) fun x y H Q ⟨W, env, h, σ, u, w, P, S, ru, rw_, ht, c⟩ => ?_
  unfold bInL at ht
  split at ht
  · rename_i b e
    unfold inDL? at e
    split at e
    · rename_i d ds h1 h2
      split at e
      · rename_i h3
        simp only [Bool.and_eq_true] at h3
        cases e
        exact ⟨d, ds, ru.dp h1, rw_.dp h2, h3.1, h3.2, c.val S (.bl _) ht⟩
      · cases e
    · cases e
  · exact ht.elim
theorem op_notInDLU (hu : X.A.units + 64 + 1 < cLine) : OpR X (compareOp .NotIn) (lo X.K (bInL true)) := by
  refine OpR.wk (op_notInD hu) fun x y H Q ⟨W, env, h, σ, u, w, P, S, ru, rw_, ht, c⟩ => ?_
  unfold bInL at ht
  split at ht
  · rename_i b e
    unfold inDL? at e
    split at e
    · rename_i d ds h1 h2
      split at e
      · rename_i h3
        simp only [Bool.and_eq_true] at h3
        cases e
        exact ⟨d, ds, ru.dp h1, rw_.dp h2, h3.1, h3.2, c.val S (.bl _) ht⟩
      · cases e
    · cases e
  · exact ht.elim
end
end Vi

/-! Vi34: errors that keep one field: raised, caught and kept, read. -/
namespace Vi
open PySem PySem.Spec PyProof.Rows L2
variable [WW]
/-- raise C(value): the class keeps it as its field f -/
@[simp] def uRaiseF (x f : Str) (t : UE) : US := fun env h P => t env h (fun sv env1 h1 => match sv with
  | .val u => P.er ⟨x, some (f, u)⟩ env1 h1
  | _ => False) P.er
section
variable {X : Cx} {L : Lx} {CX : CXT}
theorem exo_gone {H1 : Hp} {a dx C : Addr} {f : Str} {y : V} (na : H1 a = none) (nd : dx ≠ a) : upd (del (upd (upd (upd H1 a (exo a C none)) dx (exd dx [(f, y)])) a (exo a C (some dx))) a) dx (.xd [(f, y)]) = upd H1 dx (.xd [(f, y)]) := by
  funext b
  by_cases h1 : b = dx
  · subst h1
    rw [upd_same, upd_same]
  · rw [upd_ne h1, upd_ne h1]
    by_cases h2 : b = a
    · subst h2
      rw [del_same, na]
    · rw [del_ne h2, upd_ne h2, upd_ne h1, upd_ne h2]
theorem ws_raiseF {x f : Str} {e : Expr} {t : UE} {p pos pos2 : Pos} {fI : Addr} {k : Nat} {fd : FuncData} {ps : List Str} (hc : X.calm = true) (tk : Takes X L.wx) (T : OexC X.K (L.ga x))
    (iC : PySem.W.findIn X.K (.ref (L.ga x)) "__init__" = some (some (.ref fI))) (tI : PySem.W.typeIn X.K (.ref fI) = some (.type "function")) (F1 : FnOk X.prog X.w X.K X.mg X.base CX k fI fd ps (spSup (L.ga x) f)) (hr : Room (k + 1) X.A) (hb : Binds X.K fd ps [])
    (hx : Passes CX X (fun _ _ _ => False)) (gC : X.mg x = some (.ref (L.ga x))) (hg : Gl X x) (he : WE X L e t) (hdb : (x == ("__debug__" : Str)) = false := by decide)
    (hse : starEach [e] X.env = (false, eval e X.env) :: starEach [] X.env := by rfl) : WS X L (.Raise (some (.Call (.Name x p) [e] [] pos)) none pos2) (uRaiseF x f t) := by
  refine PS.wk (ps_raise hc tk (pmk_oex T iC tI F1 hr hb .nil hx hg gC (pa_cons he pa_nil hse) hdb hse)) fun D σ H ⟨W, env, h, P, S, ht, c⟩ => ?_
  refine ⟨W, env, h, _, _, S, ht, ⟨fun W1 sv env1 h1 y H1 l1 S1 r1 q1 => ?_, c.ret.er⟩⟩
  split at q1
  · rename_i u
    refine ⟨by show 1 ≤ 1000; omega, fun a na => ⟨a, y, rfl, upd_same, fun dx hn nd => ⟨rfl, dx, _, upd_same, (upd_ne nd).trans upd_same, (upd_ne nd).symm.trans hn, ?_⟩⟩⟩
    rw [exo_gone na nd]
    obtain ⟨S2, l2⟩ := S1.alloc ((upd_ne nd).symm.trans hn) (.xd [(f, y)]) .frz
    exact c.er _ ⟨x, some (f, u)⟩ env1 h1 σ _ _ (some dx) (l1.trans l2) S2 ⟨rfl, (fun z => nomatch z), (fun f' u' z => by
      cases z
      exact ⟨dx, y, rfl, Wd.put_same, upd_same, RV.le l2.toLeP r1⟩)⟩ q1
  · exact q1.elim
/-- try: .. except C as e: y = e, where C keeps a field -/
@[simp] def uTryF (x f : Str) (i j : Nat) (b : US) : US := fun env h P => i ≠ j ∧ b env h ⟨P.nx, P.rt, fun ex env1 h1 => ex.cls = x ∧ (match ex.arg with
  | some (g, u) => g = f ∧ i < env1.length ∧ j < env1.length ∧ P.nx ((env1.set j (some (.val (.erf x f u)))).set i none) h1
  | none => False), P.bk, P.ct⟩
theorem ws_tryF {x f n y : Str} {i j : Nat} {body : List Stmt} {np p1 p2 p3 p4 p5 : Pos} {b : US}
    (hx : ecfB L.K x f = true) (hK : L.K = X.K) (hga : L.ga = He.ga L.K) (hex : X.ex = []) (hs : X.stack = X.env :: X.outer) (hf : X.env.frame = some X.env.locals) (hN : X.N.Nodup) (hi : X.N[i]? = some n) (hln : X.env.kindOf n = some .local)
    (hc : Names X x (.ref (L.ga x))) (tk : Takes X L.wx)
    (hb : ∀ (W : WX) (pn : List (Addr × Obj)) (xe : Value → Shared → Prop), Takes (X.tr pn xe) W → PassesOwn (model X.prog X.w) X.A X.env xe → WSs (X.tr pn xe) ⟨L.K, L.ga, W⟩ body b)
    (hsu : ∀ (a : Addr) (oe : Obj) (cls : Value) (d : Option Addr) (pn : List (Addr × Obj)), PSs (X.suite a ((a, oe) :: pn)) [.Assign [.Name y p4] (.Name n p5) p3] (tAsg (tVar i) (gName j))) :
    WS X L (.Try body [.ExceptHandler (some (.Name x np)) (some n) [.Assign [.Name y p4] (.Name n p5) p3] p2] [] [] p1) (uTryF x f i j b) := by
  refine PS.wk (ps_try_keep (tb := fun W => ls ⟨L.K, L.ga, W⟩ b) hex hs hf hN hi hln hc tk hb hsu) fun D σ H ⟨W, env, h, P, S, ⟨nij, ht⟩, c⟩ => ?_
  refine ⟨W, env, h, _, S, ht, ⟨c.nx, c.bk, c.ct, c.rt, fun W1 ex env1 h1 σ1 H1 cls d l1 S1 x1 q1 => ?_⟩⟩
  obtain ⟨em, q1⟩ := q1
  split at q1
  case h_2 => exact q1.elim
  rename_i g u ea
  obtain ⟨rfl, li, lj, q⟩ := q1
  have hx0 := hx
  unfold ecfB at hx0
  simp only [Bool.and_eq_true, decide_eq_true_eq] at hx0
  refine ⟨true, ?_, (fun z => by cases z), fun _ a oe na z1 z2 z3 => ?_⟩
  · rw [x1.1, em, hga, ← hK]
    exact hx0.2.2
  · have l2 : i < σ1.length := by rw [← S1.len]; exact li
    refine ⟨.ref a, List.getElem?_set_self l2, ?_⟩
    obtain ⟨vs3, z3'⟩ := z3
    obtain ⟨dd, v, dn, wd, hd, rv0⟩ := x1.2.2 _ _ ea
    have lj1 : j < σ1.length := by rw [← S1.len]; exact lj
    have S2 := S1.none_ na (.frz oe (.own a))
    have le2 : LeW W1 H1 W1 (upd H1 a (.frz oe (.own a))) := .none_ S1.sh na _
    have rv : RV L.K W1 (upd H1 a (.frz oe (.own a))) (.erf x g u) (.ref a) := .erf ⟨oe, vs3, upd_same, by rw [z1, x1.1, hga, em], by rw [z2, dn], z3'⟩ hx wd (by rw [upd_ne (ne_of_none hd na)]; exact hd) (RV.le le2.toLeP rv0)
    have S3 := S2.store lj rv
    refine c.nx W1 _ h1 _ _ (l1.trans le2) (S3.clear (σ1 := ((σ1.set i (some (.ref a))).set j (some (.ref a))).set i none) (i := i) (by simp) fun k hk => ?_) q
    rw [List.getElem?_set_ne (Ne.symm hk)]
    by_cases hj : k = j
    · subst hj
      rw [List.getElem?_set_self lj1, List.getElem?_set_self (by rw [List.length_set]; exact lj1)]
    · rw [List.getElem?_set_ne (Ne.symm hj), List.getElem?_set_ne (Ne.symm hj), List.getElem?_set_ne (Ne.symm hk)]
/-- err.f, the error kept -/
@[simp] def uFld (n : Str) (t : UE) : UE := fun env h Po Pe => t env h (fun sv env1 h1 => match sv with
  | .val (.erf x f u) => f = n ∧ Po (.val u) env1 h1
  | _ => False) Pe
theorem we_fld {e : Expr} {n : Str} {t : UE} {pos : Pos} (he : WE X L e t) (hK : L.K = X.K) (hb : attributeBase e n X.env (eval e X.env) = eval e X.env := by rfl) : WE X L (.Attribute e n pos) (uFld n t) := by
  refine ⟨fun pins s σ H Q I hh => ?_⟩
  obtain ⟨W, env, h, Po, Pe, S, ht, c⟩ := hh
  refine attr_of hb (thn (he.run pins s σ H (fun y H1 => ∃ (a dd : Addr) (x : Str) (v : V) (oe : Obj) (vs : Array Value), y = .ref a ∧ H1 a = some (.frz oe (.own a)) ∧ oe.cls = .ref (He.ga X.K x) ∧ oe.dict = some dd ∧ oe.data = .fields vs ∧ ecfB X.K x n = true ∧ H1 dd = some (.xd [(n, v)]) ∧ Q v H1) I
    ⟨W, env, h, _, _, S, ht, ⟨fun W1 sv env1 h1 y H1 l1 S1 r1 q1 => ?_, c.er⟩⟩) fun u s1 hh => ?_)
  · split at q1
    · rename_i x f u
      obtain ⟨rfl, q⟩ := q1
      rw [← hK]
      cases (show RV L.K W1 H1 (.erf x f u) y from r1) with
      | erf hE hB hw hd rv =>
        obtain ⟨oe, vs, e1, e2, e3, e4⟩ := hE
        exact ⟨_, _, x, _, oe, vs, rfl, e1, e2, e3, e4, hB, hd, c.ok W1 (.val u) env1 h1 _ H1 l1 S1 rv q⟩
    · exact q1.elim
  · obtain ⟨y, H1, I1, ry, a, dd, x, v, oe, vs, rfl, e1, e2, e3, e4, hB, hd, q⟩ := hh
    obtain rfl : u = Value.ref a := ry
    unfold ecfB at hB
    simp only [Bool.and_eq_true, decide_eq_true_eq] at hB
    have T := xfB_ok hB.1
    obtain ⟨mA, hns, hr⟩ : ObjOk X.prog X.w H1 s1.heap dd (.xd [(n, v)]) := I1.hok dd _ hd
    obtain ⟨od, ho, hl⟩ := lookIn_ns hns
    obtain ⟨u, hu, ru⟩ := RelO.some_of (v := v) (o := mA n) (by
      have z := hr n
      rw [show List.lookup n [(n, v)] = some v by simp [List.lookup]] at z
      exact z)
    have ha : s1.heap.get? a = some oe := (I1.hok a _ e1).1
    have J : PySem.W.InstAt s1.heap a oe (He.ga X.K x) (some od) := ⟨ha, e2, by unfold PySem.W.notCls; rw [e4] <;> rfl, by rw [e3]; exact ho⟩
    exact HandSPX.exc_get I1.kIn J T.ga T.gg T.exC (PySem.W.findObj_own T.hdC hB.2.1 rfl (by rw [hl, hu])) (handed_of ru) ⟨v, H1, I1.tok _, ru, q⟩
end
end Vi

/-! Vi35: what the written part says of an error class whose __init__ says super().__init__(text) and keeps a field: by a check. -/
namespace Vi
open PySem PySem.Spec PyProof.Rows L2
variable [WW]
theorem supC1_ok {K : PySem.W.Frag} {C : Addr} (h : supC1 K C = true) : ∃ nm q N bs bm sn sub ab col dd k0 k1 k2 k3 k5, K.lookup C = some (excClassObj nm q C N bs bm true sn sub ab col dd k0 k1 k2 k3 k5 "ValueError.__new__") ∧ PySem.HandSPX.refsVE bm = true := by
  unfold supC1 at h
  split at h
  · rename_i ty dd cd sl hl
    split at h
    · rename_i C' bm a0 a1 a2 a3 n a5 e1 e2
      simp only [Bool.and_eq_true, decide_eq_true_eq, Bool.not_eq_true'] at h
      obtain ⟨rfl, rfl, rfl, h4, h5, h6⟩ := h
      obtain ⟨nm, bs, mro, ns, qn, hd, sn, sub, ab, col, del⟩ := cd
      dsimp only at e1 h4 h5
      subst e1 h4 h5
      have es : sl = #[a0, a1, a2, a3, some (.builtin "ValueError.__new__"), a5] := Array.toList_inj.mp e2
      subst es
      exact ⟨nm, qn, ns, bs, bm, sn, sub, ab, col, dd, a0, a1, a2, a3, a5, hl, h6⟩
    · cases h
  · cases h
theorem supC3_ok {K : PySem.W.Frag} {C : Addr} {file : Str} (h : supC3 K C file = true) : ∃ (oc : Value) (od : Option Addr) (fd : FuncData) (osl : Array (Option Value)) (cc cda : Addr), K.lookup (He.ma K C "__init__") = some ⟨oc, od, .func fd, osl⟩ ∧ fd.defaults = .none ∧ fd.kwdefaults = .none ∧ fd.closure = [(("__class__" : Str), cc)] ∧ fd.code = .ref cda ∧
    (∃ cl cld csl, K.lookup cc = some ⟨cl, cld, .cell (some (.ref C)), csl⟩) ∧ ∃ ccl cdd vs ccs tf, K.lookup cda = some ⟨ccl, cdd, .fields vs, ccs⟩ ∧ vs[2]? = some (.str file tf) := by
  unfold supC3 at h
  split at h
  case h_2 => cases h
  rename_i oc od fd osl hl
  obtain ⟨h, h2⟩ := Bool.and_eq_true_iff.mp h
  obtain ⟨hd, h1⟩ := Bool.and_eq_true_iff.mp h
  obtain ⟨hd1, hd2⟩ := Bool.and_eq_true_iff.mp hd
  split at h1
  case h_2 => cases h1
  rename_i n cc ec
  obtain ⟨h3, h4⟩ := Bool.and_eq_true_iff.mp h1
  split at h4
  case h_2 => cases h4
  rename_i cl cld D csl hcc
  split at h2
  case h_2 => cases h2
  rename_i cda ed
  split at h2
  case h_2 => cases h2
  rename_i ccl cdd vs ccs hcd
  split at h2
  case h_2 => cases h2
  rename_i fl tf ev
  have e3 := of_decide_eq_true h3
  have e4 := of_decide_eq_true h4
  have e5 := of_decide_eq_true h2
  subst e3 e4 e5
  exact ⟨oc, od, fd, osl, cc, cda, hl, of_decide_eq_true hd1, of_decide_eq_true hd2, ec, ed, ⟨cl, cld, csl, hcc⟩, ccl, cdd, vs, ccs, tf, hcd, ev⟩
/-- what is told, with the def's text -/
theorem supB_ok {prog : Program} {K : PySem.W.Frag} {x f file : Str} (h : supB K x f file = true) {qual : Str} {params : Arguments} {body : List Stmt} {scope : Scope}
    (hfn : ∀ oc od fd osl, K.lookup (He.ma K (He.ga K x) "__init__") = some ⟨oc, od, .func fd, osl⟩ → fd.name = "__init__" ∧ fd.qualname = qual ∧ fd.params = params ∧ fd.body = .stmts body ∧ fd.scope = scope ∧ fd.globals = mainGlobals ∧ fd.builtins = builtinsNs ∧ PySem.W.codeIn K fd.code qual = true)
    (hfile : ((prog.main.file : Str) == file) = true) (htop : (prog.main.scope.names.lookup ("super" : Str)).isSome = false) :
    ecfB K x f = true ∧ OexC K (He.ga K x) ∧ PySem.W.findIn K (.ref (He.ga K x)) "__init__" = some (some (.ref (He.ma K (He.ga K x) "__init__"))) ∧ PySem.W.typeIn K (.ref (He.ma K (He.ga K x) "__init__")) = some (.type "function") ∧
      ∃ cc doc pm an cdv ct, PySem.W.codeIn K cdv qual = true ∧ SupC prog K (He.ga K x) (He.ma K (He.ga K x) "__init__") cc qual params body scope .none .none doc pm an cdv ct := by
  unfold supB at h
  obtain ⟨h0, h⟩ := Bool.and_eq_true_iff.mp h
  obtain ⟨h1, h⟩ := Bool.and_eq_true_iff.mp h
  obtain ⟨h2, h3⟩ := Bool.and_eq_true_iff.mp h
  unfold supC2 at h2
  simp only [Bool.and_eq_true, decide_eq_true_eq] at h2
  obtain ⟨a1, a2, a3, a4, a5, a6, a7, a8, a9, a10⟩ := h2
  obtain ⟨oc, od, fd, osl, cc, cda, hl, d1, d2, ec, ed, hcc, ccl, cdd, vs, ccs, tf, hcd, ev⟩ := supC3_ok h3
  obtain ⟨b1, b2, b3, b4, b5, b6, b7, b8⟩ := hfn _ _ _ _ hl
  have T : OexC K (He.ga K x) := ⟨supC1_ok h1, a1, a2, a3, a4⟩
  obtain ⟨fn, fq, fp, fb, fs, fg, fc, dV, kV, doc, pm, an, cdv, ct, fbl⟩ := fd
  dsimp only at b1 b2 b3 b4 b5 b6 b7 b8 d1 d2 ec ed
  subst b1 b2 b3 b4 b5 b6 b7 d1 d2 ec ed
  exact ⟨h0, T, a9, a10, cc, doc, pm, an, .ref cda, ct, b8, T, a5, a6, a7, a8, ⟨oc, od, osl, hl⟩, hcc, ⟨cda, ccl, cdd, vs, ccs, file, tf, rfl, hcd, ev, hfile⟩, htop⟩
/-- what is asked of the program besides -/
class PF (P : Program) : Prop where
  file : ((P.main.file : Str) == ("/claim/cut.py" : Str)) = true
  sup : (P.main.scope.names.lookup ("super" : Str)).isSome = false
theorem ecfB_no {K : PySem.W.Frag} {x f : Str} (h : ecfB K x f = true) : PySem.W.findIn K (.ref (He.ga K x)) f = some none := by
  unfold ecfB at h
  simp only [Bool.and_eq_true, decide_eq_true_eq] at h
  exact h.2.1
def clsB : Stmt → List Stmt
  | .ClassDef (body := b) .. => b
  | _ => []
def CXn : CXT := fun _ _ _ _ _ _ => False
theorem passN {X : Cx} {E : XK} : Passes CXn X E := fun _ _ _ _ _ _ _ h => h.elim
end Vi

/-! Vi36: three names at once. -/
namespace Vi
open PySem PySem.Spec PyProof.Rows L2
variable [WW]
/-- a, b, c = x, y, z with plain local names -/
@[simp] def uPar3 (i j l : Nat) (t : UA) : US := fun env h P => t env h (fun us env1 h1 => match us with
  | [u, w, z] => i < env1.length ∧ j < env1.length ∧ l < env1.length ∧ P.nx (((env1.set i (some (.val u))).set j (some (.val w))).set l (some (.val z))) h1
  | _ => False) P.er
section
variable {X : Cx} {L : Lx} {K : PySem.W.Frag}
theorem RVs.three {W : Wd} {H : Hp} {a b c : U} {vs : List V} (r : RVs K W H [a, b, c] vs) : ∃ u v w, vs = [u, v, w] ∧ RV K W H a u ∧ RV K W H b v ∧ RV K W H c w := by
  cases r with
  | cons p q =>
    obtain ⟨v, w, rfl, q1, q2⟩ := RVs.two q
    exact ⟨_, v, w, rfl, p, q1, q2⟩
theorem ws_par3 {i j l : Nat} {s : Stmt} {t : UA} (hp : PS X s (tPar3 i j l (lg L (RA L) t))) : WS X L s (uPar3 i j l t) := by
  refine PS.wk hp fun D σ H ⟨W, env, h, P, S, ht, c⟩ => ?_
  refine ⟨W, env, h, _, _, S, ht, ⟨fun W1 us env1 h1 vs H1 l1 S1 r1 q1 => ?_, c.ret.er⟩⟩
  split at q1
  · obtain ⟨u, v, w, rfl, ru, rv, rw_⟩ := RVs.three r1
    refine ⟨u, v, w, rfl, c.nx W1 _ h1 _ H1 l1 (((S1.store q1.1 ru).store (by simpa using q1.2.1) rv).store (by simpa using q1.2.2.1) rw_) q1.2.2.2⟩
  · exact q1.elim
end
end Vi

/-! Vx4: set(a list of ints), with what sorted asks of a set. -/
namespace Vi
open PySem PySem.Spec PyProof.Rows L2
/-- a new set -/
abbrev nSet (w : World) : Obj := { cls := .type "set", dict := none, data := .set #[] 0 (.fresh 0 0 (!w.params.followText "set-order")) }
section
variable {P : Program} {w : World} {A : Around} {E : Value → Shared → Prop} {s : Shared}
theorem set_ofList {l : Addr} {xs : Array Value} (ns : List Int) {Q : Value → Shared → Prop} (qh : A.handled = none) (ql : s.heap.IsList l xs) (qi : IntsAre xs.toList ns) (qb : ns.length + 1 < scanBound)
    (fin : ∀ (h2 : Heap) (k m : Nat), SetR w h2 s.heap.objs.size (fun j => decide (j ∈ ns)) m → m ≤ ns.length → (∀ b o, s.heap.get? b = some o → h2.get? b = some o) → Q (.ref s.heap.objs.size) { s with heap := h2, toks := k }) :
    wpAny (model P w) A (call (.type "set") [.ref l]) Q E s := by
  have zx : xs.size = ns.length := (Array.length_toList (xs := xs)).symm.trans (IntsAre.length qi)
  obtain ⟨cc, tt, m1⟩ := F.called_set.mro
  have m2 := F.called_set.made
  have m3 := F.called_set.sub
  refine wpAny_call (codeAny_of_tree ?go)
  show wpAny _ _ (callAny (Value.type "set") _) _ _ _
  refine wpAny_pure ⟨Code.quiet_builtin _ (by decide +kernel), codeAny_builtin F.entry_type_call ?in_⟩
  rw [Around.under_plain (weight_type_call_type "set" [Value.ref l] []) rfl]
  have m4 := F.called_set.notType
  have m5 := F.called_set.canCreate
  have m6 := F.typeCall_set_1 (Value.ref l)
  repeat (any_goals first | assumption | wp_step)
  refine codeAny_mono (code_set_led1 (Value.ref l) (E := E) (Q₁ := fun y s1 => y = .ref s.heap.objs.size ∧ s1 = { s with heap := s.heap.push (nSet w) }) ⟨rfl, rfl⟩) fun r s1 e1 => ?_
  cases r with
  | error e => exact e1
  | ok f1 =>
    cases f1 with
    | ret y =>
      obtain ⟨rfl, rfl⟩ := e1
      have g1 : (s.heap.push (nSet w)).get? s.heap.objs.size = some (nSet w) := Heap.get?_push_size _ rfl
      have g2 : Shared.TypeIs { s with heap := s.heap.push (nSet w) } (.ref s.heap.objs.size) "set" := ⟨_, g1, rfl⟩
      have g3 := F.called_set.init.lookup
      have g4 := F.called_set.init.bind (Value.ref s.heap.objs.size)
      repeat (any_goals first | assumption | wp_step)
      refine codeAny_mono (codeAny_call_builtin (R := wants (fun r s2 => r = .none ∧ ∃ h2 k m, s2 = { s with heap := h2, toks := k } ∧ SetR w h2 s.heap.objs.size (fun j => decide (j ∈ ns)) m ∧ m ≤ ns.length ∧ (∀ b o, s.heap.get? b = some o → h2.get? b = some o)) E)
        F.called_set.init.plain F.entry_set_init (check_set_init_1 g2 ?_)) fun r2 s2 e2 => ?_
      · obtain ⟨⟨oc, od, oa, os⟩, ho, hc, nl, hd⟩ := ql
        simp only at hc hd
        subst hc hd
        have g5 : (s.heap.push (nSet w)).get? l = some { cls := .type "list", dict := od, data := .seq xs nl, slots := os } := Heap.get?_push_of_some _ ho
        have n1 := F.sub_list_set
        have n2 := F.sub_list_frozenset
        have n3 : (Value.type "list" == Value.type "dict") = false := rfl
        have g6 : (s.heap.push (nSet w)).IsList l xs := ⟨_, g5, rfl, nl, rfl⟩
        unfold Builtin.«set.__init__» noKeywords Builtin.Frozenset.updateFrom
        generalize gpi : pyIter = PI
        wp_walk
        subst gpi
        refine wpAny_pyIter_list g6 ?_
        refine wpAny_bind (wpAny_runValue ?_)
        have lt : l < s.heap.objs.size := Heap.lt_size ho
        have q3 : A.in1.in1.in1.handled = none := by simp [qh]
        have sz : (s.heap.push (nSet w)).objs.size = s.heap.objs.size + 1 := Heap.size_push _ _
        have d1 : l ≠ (s.heap.push (nSet w)).objs.size := sz ▸ Nat.ne_of_lt (Nat.lt_succ_of_lt lt)
        have d2 : s.heap.objs.size ∉ [(s.heap.push (nSet w)).objs.size, l] := by
          rw [sz]
          simp only [List.mem_cons, List.not_mem_nil, or_false, not_or]
          exact ⟨Nat.ne_of_lt (Nat.lt_succ_self _), (Nat.ne_of_lt lt).symm⟩
        have vals : ∀ (i : Nat) (v : Value), xs[i]? = some v → ∃ k t, ns[i]? = some k ∧ v = .int k t := fun i v hv => by
          have li : i < ns.length := zx ▸ (Array.getElem?_eq_some_iff.mp hv).1
          obtain ⟨t, e⟩ := PyProof.Rows.IntsAre.int_at qi i v (by rw [Array.getElem?_toList, hv])
          exact ⟨ns[i], t, List.getElem?_eq_getElem li, by rw [e, List.getD_eq_getElem?_getD, List.getElem?_eq_getElem li]; rfl⟩
        refine set_update_ints ((Walks.list q3 _ l d1 xs).toS) s.heap.objs.size d2 ns zx qb vals (xs.size - 0) 0 _ (by omega) (Nat.zero_le _) ⟨⟨_, Heap.get?_push_size _ rfl, rfl, rfl⟩, g6.push _⟩ ?first ?last
        case first => exact ⟨0, Nat.le_refl 0, setR_new_at (Heap.get?_push_of_some _ g1)⟩
        case last =>
          intro s3 m mv hm R3
          obtain ⟨h3, gg, dd, tk3, o3⟩ := s3
          have e1 : gg = s.gens := mv.gens
          have e2 : dd = s.drawn := mv.drawn
          have e3 : o3 = s.os := mv.os
          subst e1 e2 e3
          show wpAny _ _ _ _ _ _
          refine wpAny_pure ?_
          show wpAny _ _ (ret Value.none) _ _ _
          rw [zx] at hm
          refine wpAny_pure ⟨rfl, h3, tk3, m, rfl, R3, hm, fun b o e => ?_⟩
          have b0 : b < s.heap.objs.size := Heap.lt_size e
          refine mv.heap b o ?_ (Heap.get?_push_of_some _ (Heap.get?_push_of_some _ e))
          simp only [List.mem_cons, List.not_mem_nil, or_false, not_or]
          exact ⟨Nat.ne_of_lt b0, sz ▸ Nat.ne_of_lt (Nat.lt_succ_of_lt b0)⟩
      · cases r2 with
        | error e => exact e2
        | ok f2 =>
          cases f2 with
          | ret r =>
            obtain ⟨rfl, h2, k, m, rfl, R2, hm, hk⟩ := e2
            repeat (any_goals first | assumption | wp_step)
            exact fin _ _ _ R2 hm hk
          | _ => exact e2.elim
    | _ => exact e1.elim
end
section
variable {X : Cx}
/-- set(a list of ints) -/
def rSetL (K : PySem.W.Frag) (w : World) : List V → Hp → VK → Prop := fun vs H Q => ∃ (l : Addr) (ns : List Int), vs = [V.ref l] ∧ SqL K H l (ns.map V.int) ∧ ns.length ≤ 4000 ∧ ∀ p m, m ≤ ns.length → H p = none → Q (.ref p) (upd H p (SetO w p (fun j => decide (j ∈ ns)) m))
theorem cr_setL (hc : X.calm = true) : CallR X (.type "set") (rSetL X.K X.w) := by
  intro pins s σ H xs us Q I r h
  obtain ⟨l, ns, rfl, hq, hn, q⟩ := h
  rw [Vals.ref1 r]
  obtain ⟨its, rv, pl, hz⟩ := I.list hq
  refine set_ofList ns (I.ok.hd hc) pl.isList (by simpa using ints_of_vals rv) (by unfold scanBound; omega) fun h2 k m R2 hm hk => ?_
  exact ⟨.ref _, upd H s.heap.objs.size (SetO X.w s.heap.objs.size (fun j => decide (j ∈ ns)) m), I.laid (t' := k) hk (Nat.le_refl _) (setO_new R2), rfl, q _ _ hm (I.hok.fresh (Nat.le_refl _))⟩
end
end Vi

/-! Vi37: sorted(set(a list of ints)). -/
namespace Vi
open PySem PySem.Spec PyProof.Rows L2
variable [WW]
/-- sorted(set(xs)), xs a list of fewer than 64 ints -/
@[simp] def uSortSet (t : UE) : UE := fun env h Po Pe => t env h (fun sv env1 h1 => match sv.u with
  | .lst us => ∃ ns : List Int, us = ns.map U.int ∧ ns.length < 64 ∧ ∀ ms : List Int, ms.Pairwise (· < ·) → (∀ k, k ∈ ms ↔ k ∈ ns) → Po (.own (ms.map U.int)) env1 h1
  | _ => False) Pe
section
variable {X : Cx} {L : Lx}
theorem RVs.of_ints {K : PySem.W.Frag} {W : Wd} {H : Hp} : ∀ ns : List Int, RVs K W H (ns.map U.int) (ns.map V.int)
  | [] => .nil
  | n :: ns => .cons (.int n) (RVs.of_ints ns)
theorem we_sortSet {e : Expr} {t : UE} {p p2 q pos : Pos} (hK : L.K = X.K) (hc : X.calm = true) (gS : Gl X "sorted") (mS : X.mg "sorted" = none) (gT : Gl X "set") (mT : X.mg "set" = none) (he : WE X L e t)
    (na : starEach [e] X.env = (false, eval e X.env) :: starEach [] X.env := by rfl) (nb : (backTo q (starEach [] X.env)).any (·.1) = false := by rfl)
    (na2 : starEach [.Call (.Name "set" p2) [e] [] q] X.env = (false, eval (.Call (.Name "set" p2) [e] [] q) X.env) :: starEach [] X.env := by rfl) (nb2 : (backTo pos (starEach [] X.env)).any (·.1) = false := by rfl) :
    WE X L (.Call (.Name "sorted" p) [.Call (.Name "set" p2) [e] [] q] [] pos) (uSortSet t) := by
  refine PE.wk (pe_callB (cr_sortedSet hc) gS mS boot_sorted (pa_cons (pe_callTy (cr_setL hc) gT mT boot_set (pa_cons he pa_nil na) (by decide) (by decide) na nb) pa_nil na2) (by decide) (by decide) na2 nb2) fun σ H Q ⟨W, env, h, Po, Pe, S, ht, c⟩ => ?_
  refine ⟨W, env, h, _, _, S, ht, ⟨fun W1 x env1 h1 v1 H1 l1 S1 r1 q1 => ?_, c.er⟩⟩
  obtain ⟨W1', S1', l1', rv1⟩ := S1.freeze r1
  have c1 := c.le (l1.trans l1')
  generalize x.u = u at q1 rv1
  split at q1
  · rename_i us
    obtain ⟨ns, rfl, hn, q1⟩ := q1
    cases rv1 with
    | lst n e r =>
      rename_i a vs
      obtain ⟨ev, _⟩ := r.flat (flatUs_ints ns)
      subst ev
      refine ⟨a, ns, rfl, .inl (.inl e), by omega, fun p m hm hp => ?_⟩
      refine ⟨p, _, m, rfl, upd_same, by omega, fun ms p2 hs hmem hl hp2 => ?_⟩
      have S2 := S1'.none_ hp (SetO X.w p (fun j => decide (j ∈ ns)) m)
      have l2 := LeW.none_ S1'.sh hp (SetO X.w p (fun j => decide (j ∈ ns)) m)
      obtain ⟨S3, l3⟩ := S2.alloc hp2 (.lst (ms.map V.int)) .tmp
      exact c1.ok _ (.own (ms.map U.int)) env1 h1 _ _ (l2.trans l3) S3 ⟨p2, _, rfl, Wd.put_same, upd_same, RVs.of_ints ms⟩ (q1 ms hs fun k => by rw [hmem k]; simp)
  · exact q1.elim
/-- repr of what is data in the heap -/
theorem call_reprD (hg : X.A.guards = some []) (hu : X.A.units + 64 < cLine) : CallR X (.builtin "repr") (fun vs H Q => ∃ v d, vs = [v] ∧ Dp X.K H v d ∧ d.showable = true ∧ d.hasDict = false ∧ d.depth ≤ 60 ∧ d.shown.length ≤ sizeLine ∧ Q (.str d.shown) H) := by
  intro pins s σ H xs us Q I r q
  obtain ⟨v, d, rfl, dp, hs, hd, hdp, hz, q⟩ := q
  obtain ⟨w, rfl, rx⟩ := vals1 r
  have fin : ∀ (h' : Heap) (u' : Tok) (tk : Nat), (∀ b o, s.heap.get? b = some o → h'.get? b = some o) → EP X pins σ Q (.str d.shown u') { s with heap := h', toks := tk } := fun h' u' tk hk => ⟨.str d.shown, H, I.kept (h' := h') (t' := tk) hk, ⟨u', rfl⟩, q⟩
  obtain ⟨as, rd⟩ := Dp.reads I d v w dp rx
  cases rd with
  | none => exact PySem.P.repr_of_none (fin s.heap _ _ fun _ _ e => e)
  | bool b => exact PySem.P.repr_of_bool (by cases b <;> exact fin s.heap _ _ fun _ _ e => e)
  | int i t => exact PySem.P.repr_of_int (by simpa [PyData.showable] using hs) (fin s.heap _ _ fun _ _ e => e)
  | str z t => exact PySem.P.repr_of_str (fin s.heap _ _ fun _ _ e => e) (by simpa [PyData.shown] using hz)
  | list h1 h2 h3 h4 => exact PySem.repr_of_reads' (.list h1 h2 h3 h4) hs (fun z => by rw [hd] at z; cases z) hg (by omega) (fun _ _ e => e) (fun h' u' tk hk => fin h' u' tk hk) hz
  | tuple h1 h2 h3 h4 => exact PySem.repr_of_reads' (.tuple h1 h2 h3 h4) hs (fun z => by rw [hd] at z; cases z) hg (by omega) (fun _ _ e => e) (fun h' u' tk hk => fin h' u' tk hk) hz
  | dict h1 h2 h3 h4 h5 => simp [PyData.hasDict] at hd
/-- repr(own), the list stays one's own -/
@[simp] def uReprO (k : Nat) : UE := fun env h Po _ => ownAt env k fun us => match reprU (.lst us) with
  | some z => Po (.val (.str z)) env h
  | none => False
theorem we_reprO {k : Nat} {x : Str} {p p2 pos : Pos} (hK : L.K = X.K) (hx : PE X (.Name x p) (tVar k)) (hg : Gl X "repr") (hm : X.mg "repr" = none) (hgd : X.A.guards = some []) (hu : X.A.units + 64 < cLine) (he : starEach [.Name x p] X.env = [(false, eval (.Name x p) X.env)] := by rfl) :
    WE X L (.Call (.Name "repr" p2) [.Name x p] [] pos) (uReprO k) := by
  refine PE.wk (pe_callB (call_reprD hgd hu) hg hm (by decide +kernel) (pa_cons hx pa_nil he) (he := he) (hpl := rfl)) fun σ H Q ⟨W, env, h, Po, Pe, S, ht, c⟩ => ?_
  obtain ⟨us, a, vs, e, ev, ea, rv, q⟩ := ownAt_ok S ht
  split at q
  · rename_i z ez
    unfold reprU at ez
    split at ez
    · rename_i d ed
      split at ez
      · rename_i hc
        simp only [Bool.and_eq_true, decide_eq_true_eq, Bool.not_eq_true'] at hc
        obtain ⟨⟨⟨hs, hd⟩, hdp⟩, hz⟩ := hc
        cases ez
        have dp : Dp X.K H (.ref a) d := by
          unfold toD at ed
          cases qd : toDs us with
          | none => rw [qd] at ed; cases ed
          | some ds =>
            rw [qd] at ed
            cases ed
            exact hK ▸ .lst (.inl (.inl ea)) (RVs.dp rv qd)
        exact ⟨_, ev, .ref a, d, rfl, dp, hs, hd, hdp, hz, c.ok W (.val (.str d.shown)) env h _ H .refl S (.str _) q⟩
      · cases ez
    · cases ez
  · exact q.elim
end
end Vi

/-! Vi38: extend on an own list. -/
namespace Vi
open PySem PySem.Spec PyProof.Rows L2
variable [WW]
/-- xs.extend(ys), ys another list -/
@[simp] def fExtend : UMt := fun us args P => match args with
  | [.lst ws] => us.length + ws.length ≤ sizeLine ∧ P .non (us ++ ws)
  | _ => False
section
variable {X : Cx}
theorem mtU_extend : MtU X "list.extend" fExtend := by
  intro pins s σ H x xs v us Q I rx rs q
  obtain ⟨K, W, as, args, a, ys, rfl, ea, rv, ra, P, hf, c⟩ := q
  unfold fExtend at hf
  split at hf
  · rename_i ws
    obtain ⟨y, rfl, ry⟩ := RVs.one ra
    cases ry with
    | lst n h r => exact mt_extend pins s σ H _ _ v us Q I rx rs ⟨a, _, ys, _, rfl, rfl, ea, h, by rw [← rv.length, ← r.length]; exact hf.1, c _ _ _ _ .non (rv.append r) hf.2⟩
  · exact hf.elim
end
end Vi


/-! Vx5: set(a dict whose keys are tuples of ints). -/
namespace Vi
open PySem PySem.Spec PyProof.Rows L2
section
variable {P : Program} {w : World} {A : Around} {E : Value → Shared → Prop} {s : Shared}
theorem set_ofDict {l : Addr} {o : Obj} {es0 : Array DictEntry} {ep0 : Nat} (ks : List (Addr × List Int)) {Q : Value → Shared → Prop} (qh : A.handled = none) (gd : (l == sysModules) = false) (ho : s.heap.get? l = some o) (hex : o.ExactDict) (hd : o.data = .dict es0 ep0)
    (rows : es0.toList.map (fun e => (e.hash, e.key)) = ks.map fun p => (thash P w p.2, Value.ref p.1)) (hk : ∀ p ∈ ks, IsT P w s.heap p.2 p.1) (few : ks.length ≤ 4) (hu : A.units + 3 < cLine)
    (fin : ∀ (h2 : Heap) (k : Nat) L es ep t, SetTR P w h2 s.heap.objs.size L es ep t → Got ks ks.length L → (∀ b o, s.heap.get? b = some o → h2.get? b = some o) → Q (.ref s.heap.objs.size) { s with heap := h2, toks := k }) :
    wpAny (model P w) A (call (.type "set") [.ref l]) Q E s := by
  obtain ⟨cc, tt, m1⟩ := F.called_set.mro
  have m2 := F.called_set.made
  have m3 := F.called_set.sub
  refine wpAny_call (codeAny_of_tree ?go)
  show wpAny _ _ (callAny (Value.type "set") _) _ _ _
  refine wpAny_pure ⟨Code.quiet_builtin _ (by decide +kernel), codeAny_builtin F.entry_type_call ?in_⟩
  rw [Around.under_plain (weight_type_call_type "set" [Value.ref l] []) rfl]
  have m4 := F.called_set.notType
  have m5 := F.called_set.canCreate
  have m6 := F.typeCall_set_1 (Value.ref l)
  repeat (any_goals first | assumption | wp_step)
  refine codeAny_mono (code_set_led1 (Value.ref l) (E := E) (Q₁ := fun y s1 => y = .ref s.heap.objs.size ∧ s1 = { s with heap := s.heap.push (nSet w) }) ⟨rfl, rfl⟩) fun r s1 e1 => ?_
  cases r with
  | error e => exact e1
  | ok f1 =>
    cases f1 with
    | ret y =>
      obtain ⟨rfl, rfl⟩ := e1
      have g1 : (s.heap.push (nSet w)).get? s.heap.objs.size = some (nSet w) := Heap.get?_push_size _ rfl
      have g2 : Shared.TypeIs { s with heap := s.heap.push (nSet w) } (.ref s.heap.objs.size) "set" := ⟨_, g1, rfl⟩
      have g3 := F.called_set.init.lookup
      have g4 := F.called_set.init.bind (Value.ref s.heap.objs.size)
      repeat (any_goals first | assumption | wp_step)
      refine codeAny_mono (codeAny_call_builtin (R := wants (fun r s2 => r = .none ∧ ∃ h2 k L es ep t, s2 = { s with heap := h2, toks := k } ∧ SetTR P w h2 s.heap.objs.size L es ep t ∧ Got ks ks.length L ∧ (∀ b o, s.heap.get? b = some o → h2.get? b = some o)) E)
        F.called_set.init.plain F.entry_set_init (check_set_init_1 g2 ?_)) fun r2 s2 e2 => ?_
      · obtain ⟨oc, od, oa, os⟩ := o
        obtain ⟨hc, hx2⟩ := hex
        simp only at hc hd
        subst hc hd
        have g5 : (s.heap.push (nSet w)).get? l = some { cls := .type "dict", dict := od, data := .dict es0 ep0, slots := os } := Heap.get?_push_of_some _ ho
        have n1 := F.sub_dict_set
        have n2 := F.sub_dict_frozenset
        unfold Builtin.«set.__init__» noKeywords Builtin.Frozenset.updateFrom
        wp_walk
        have zl : es0.size = ks.length := by
          have := congrArg List.length rows
          rw [List.length_map, List.length_map, Array.length_toList] at this
          exact this
        have noRoom : ((#[], 0, SetTable.fresh 0 0 (!w.params.followText "set-order")) : Array (Int × Value) × Nat × SetTable).snd.snd.roomFor es0.size = none := by
          show (SetTable.fresh 0 0 (!w.params.followText "set-order")).roomFor es0.size = none
          unfold SetTable.roomFor
          rw [if_neg]
          rw [zl]
          show ¬ (0 + ks.length) * 5 ≥ 7 * 3
          omega
        rw [noRoom]
        have nw : ∀ b u, s.heap.get? b = some u → (s.heap.push (nSet w)).get? b = some u := fun b u e => Heap.get?_push_of_some _ e
        refine wpAny_pure ?_
        refine wpAny_bind (wpAny_dictEntries g5 rfl ?_)
        refine wpAny_bind (PySem.SeqAt.wpAny_forIn_span 0 es0.size _ (fun i _ s' => ∃ h2 k L es ep t, s' = { s with heap := h2, toks := k } ∧ SetTR P w h2 s.heap.objs.size L es ep t ∧ Got ks i L ∧ (∀ b o, s.heap.get? b = some o → h2.get? b = some o)) _ (fun i c s' h0 h1 I => ?turn) (fun c s' I => ?done) () ⟨s.heap.push (nSet w), s.toks, [], #[], 0, _, rfl, setTR_fresh g1, Got.zero ks, nw⟩)
        case turn =>
          obtain ⟨h2, k, L, es, ep, t, rfl, R, g, hkp⟩ := I
          obtain ⟨e, he⟩ : ∃ e, es0[i]? = some e := ⟨es0[i], Array.getElem?_eq_getElem h1⟩
          have hi : i < ks.length := zl ▸ h1
          obtain ⟨p, hp⟩ : ∃ p, ks[i]? = some p := ⟨ks[i], List.getElem?_eq_getElem hi⟩
          have er : (e.hash, e.key) = (thash P w p.2, Value.ref p.1) := by
            have z := congrArg (fun l => l[i]?) rows
            simp only [List.getElem?_map, Array.getElem?_toList, he, hp, Option.map_some] at z
            exact Option.some.inj z
          have er1 : e.hash = thash P w p.2 := congrArg Prod.fst er
          have er2 : e.key = Value.ref p.1 := congrArg Prod.snd er
          refine wpAny_bind (wpAny_dictEntries (s := { s with heap := h2, toks := k }) (hkp _ _ ho) rfl ?_)
          rw [he]
          dsimp only
          rw [er1, er2]
          have lu : A.in1.in1.units < cLine := Nat.lt_of_le_of_lt (Nat.le_succ _) hu
          refine wpAny_bind (wpAny_holding (add_at (s := { s with heap := h2, toks := k }) R (isT_keep (hk p (List.mem_of_getElem? hp)) hkp) lu (by have := g.len; omega) fun b h' L' es' ep' t' hsb R2 c1 c2 => ?_))
          have hkp2 : ∀ b o, s.heap.get? b = some o → h'.get? b = some o := fun b o e => (hsb.2 b (fun z => by rw [z] at e; exact absurd (Heap.lt_size e) (Nat.lt_irrefl _))).trans (hkp b o e)
          have g' : Got ks (i + 1) L' := by
            rcases Classical.em (p.2 ∈ L.map (·.2)) with c | c
            · rw [c1 c]; exact g.same hp c
            · exact g.more hp (c2 c)
          refine wpAny_bind (wpAny_dictEpoch (s := { s with heap := h', toks := k }) (hkp2 _ _ ho) rfl ?_)
          refine wp_if_neg (by simp) ?_
          exact wpAny_pure ⟨h', k, L', es', ep', t', rfl, R2, g', hkp2⟩
        case done =>
          obtain ⟨h2, k, L, es, ep, t, rfl, R, g, hkp⟩ := I
          rw [Nat.zero_max, zl] at g
          refine wpAny_pure ?_
          exact wpAny_pure ⟨rfl, h2, k, L, es, ep, t, rfl, R, g, hkp⟩
      · cases r2 with
        | error e => exact e2
        | ok f2 =>
          cases f2 with
          | ret r =>
            obtain ⟨rfl, h2, k, L, es, ep, t, rfl, R2, hm, hk2⟩ := e2
            repeat (any_goals first | assumption | wp_step)
            exact fin _ _ _ _ _ _ R2 hm hk2
          | _ => exact e2.elim
    | _ => exact e1.elim
end
end Vi

/-! Vi39: sorted(set(d)), d a dict of at most four tuples of ints. -/
namespace Vi
open PySem PySem.Spec PyProof.Rows L2
variable [WW]
abbrev nkI (ns : List Int) : NestedKey := .tup (ns.map .num)
abbrev uT (ns : List Int) : U := .tup (ns.map U.int)
/-- sorted(set(d)), d at k a dict of at most four tuples of ints, of one length and below B -/
@[simp] def uSortSetD (k : Nat) : UE := fun env h Po _ => dicSlot env k fun ks _ => ∃ (ps : List (List Int)) (d : Nat) (B : Int), ks = ps.map uT ∧ ps.length ≤ 4 ∧ 1 ≤ d ∧ (∀ q ∈ ps, q.length = d ∧ TS.Bd B q) ∧
  ∀ qs : List (List Int), qs.Nodup → (∀ q, q ∈ qs ↔ q ∈ ps) → qs.Pairwise (fun q r => TS.code B q ≤ TS.code B r) → Po (.own (qs.map uT)) env h
theorem thash_nk (P : Program) (w : World) (ns : List Int) : (nkI ns).hash w = thash P w ns := by
  have e : ∀ ns : List Int, NestedKey.hashes w (ns.map .num) = ns.map (intKind P w).hash := fun ns => by
    induction ns with
    | nil => rfl
    | cons n ns ih =>
      show NestedKey.hash w (.num n) :: NestedKey.hashes w (ns.map .num) = _
      rw [ih]
      rfl
  show reduceHash (Builtin.Tuple.tupleHashOf (NestedKey.hashes w (ns.map .num))) = _
  rw [e]
  rfl
theorem nkUs_ints : ∀ ns : List Int, nkUs (ns.map U.int) = some (ns.map NestedKey.num)
  | [] => rfl
  | n :: ns => by
    show (match nkU (U.int n), nkUs (ns.map U.int) with | some k, some ks => some (k :: ks) | _, _ => none) = _
    rw [nkUs_ints ns]
    rfl
theorem nkU_uT (ns : List Int) : nkU (uT ns) = some (nkI ns) := by
  show (nkUs (ns.map U.int)).map NestedKey.tup = _
  rw [nkUs_ints]
  rfl
/-- range(i, j, c) -/
def rangeC (lo c : Int) (n : Nat) : List U := (List.range n).map fun (k : Nat) => U.int (lo + k * c)
@[simp] def bRange3 : List U → (List U → Prop) → Prop
  | [.int i, .int j, .int c], P => ∃ n, RgC i j c n ∧ P (rangeC i c n)
  | _, _ => False
theorem wk_rangeC {K : PySem.W.Frag} {W : Wd} {H : Hp} {lo c : Int} {n : Nat} : Wk K W H (rangeC lo c n) (Itc lo c n) := fun W' H' l i => by
  unfold rangeC
  refine ⟨fun hi => show n ≤ i by simpa using hi, fun u e => ?_⟩
  have hi : i < n := by
    have := (List.getElem?_eq_some_iff.mp e).1
    simpa using this
  have eu : u = U.int (lo + i * c) := by
    rw [List.getElem?_map, List.getElem?_range hi] at e
    exact (Option.some.inj e).symm
  subst eu
  refine ⟨hi, fun x H'' ⟨e1, e2⟩ => ?_⟩
  subst e1 e2
  exact ⟨.refl, fun _ _ _ S => S, .int _⟩
section
variable {X : Cx} {L : Lx}
theorem wi_range3 {tg a b c : Expr} {ta : UA} {p pos : Pos} (hK : L.K = X.K) (hg : Gl X "range") (hm : X.mg "range" = none) (ha : WA X L [a, b, c] ta) (hs : starEach [a, b, c] X.env = (false, eval a X.env) :: starEach [b, c] X.env := by rfl) (hpl : (backTo pos (starEach [b, c] X.env)).any (·.1) = false := by rfl) :
    WI X L tg (.Call (.Name "range" p) [a, b, c] [] pos) (uIter bRange3 ta) := by
  refine PI.wk (pi_range3 hg hm ha hs hpl) fun σ H R ⟨W, env, h, Po, Pe, S, ht, c⟩ => ?_
  refine ⟨W, env, h, _, _, S, ht, ⟨fun W1 us env1 h1 vs H1 l1 S1 r1 q1 => ?_, c.er⟩⟩
  unfold bRange3 at q1
  split at q1
  · obtain ⟨n, hr, q1⟩ := q1
    cases r1 with
    | cons r r1 =>
      obtain ⟨v, w, rfl, r', r''⟩ := RVs.two r1
      cases r.int_
      cases r'.int_
      cases r''.int_
      exact ⟨_, _, _, n, rfl, hr, c.ok W1 _ env1 h1 _ H1 l1 S1 wk_rangeC q1⟩
  · exact q1.elim
/-- set(a dict) -/
def rSetD (K : PySem.W.Frag) (P : Program) (w : World) : List V → Hp → VK → Prop := fun vs H Q => ∃ (a : Addr) (o : HO) (ks : List U) (kv vv : List V) (rs : List (Addr × List Int)), vs = [V.ref a] ∧ Rd H a o ∧ DicS a ks kv vv o ∧
  ks = rs.map (fun p => uT p.2) ∧ kv = rs.map (fun p => V.ref p.1) ∧ (∀ p ∈ rs, SqT K H p.1 (p.2.map V.int)) ∧ rs.length ≤ 4 ∧
  ∀ p L, H p = none → (∀ q ∈ L, q ∈ rs) → (∀ q ∈ rs, q.2 ∈ L.map (·.2)) → Q (.ref p) (upd H p (SetTO P w p L))
theorem cr_setD (hw : X.w = WW.w) (hc : X.calm = true) (hu : X.A.units + 64 < cLine) : CallR X (.type "set") (rSetD X.K X.prog X.w) := by
  intro pins s σ H xs us Q I r h
  obtain ⟨a, o, ks, kv, vv, rs, rfl, hx, ds, ek, ev, hk, hf, q⟩ := h
  rw [Vals.ref1 r]
  have hn : H s.heap.objs.size = none := I.hok.fresh (Nat.le_refl _)
  obtain ⟨ob, es, ep, h0, h1, h2, h3, h4⟩ : ∃ ob es ep, (a == sysModules) = false ∧ s.heap.get? a = some ob ∧ ob.ExactDict ∧ ob.data = .dict es ep ∧ es.toList.map (fun e => (e.hash, e.key)) = rs.map fun p => (thash X.prog X.w p.2, Value.ref p.1) := by
    rcases ds with ⟨kvs, rfl, e1, e2, e3⟩ | ⟨ys0, hne, hz, hdp, rfl, e1, e2, en⟩
    · have e0 : kvs = [] := by
        cases kvs with
        | nil => rfl
        | cons p _ =>
          rw [ek] at e3
          cases rs with
          | nil => simp at e3
          | cons r _ =>
            have := (List.cons.inj e3).1
            dsimp only at this
            cases hp : p.1 <;> (rw [hp] at this; cases this)
      subst e0
      obtain ⟨z, hsm, _, rel, dd⟩ := dk_rd I.hok hx
      cases rel
      obtain ⟨ob, es, ep, k1, k2, k3, k4⟩ := dd
      have r0 : rs = [] := by
        rw [ek] at e3
        simpa using e3
      subst r0
      refine ⟨ob, es, ep, hsm, k1, k2, k3, ?_⟩
      have z := k4.2.1
      generalize es.toList = l at z
      cases z
      rfl
    · obtain ⟨⟨hs, ys, hp, ob, es, ep, k1, k2, k3, k4, k5⟩, _⟩ := hx.ok I.hok
      refine ⟨ob, es, ep, hs, k1, k2, k3, ?_⟩
      rw [k4, List.map_map]
      have el : rs.length = ys0.length := by simpa [ev] using congrArg List.length e1
      have el2 : ys0.length = ys.length := Paired.length hp
      refine List.ext_getElem (by rw [List.length_map, List.length_map]; omega) fun i i1 i2 => ?_
      rw [List.length_map] at i1 i2
      have y0 : ys0[i]? = some ys0[i] := List.getElem?_eq_getElem (by omega)
      obtain ⟨y, ey, g1, g2, _⟩ := paired_get hp y0
      have ey' : ys[i] = y := Option.some.inj ((List.getElem?_eq_getElem (by omega)).symm.trans ey)
      rw [List.getElem_map, List.getElem_map, ey']
      have a1 : rs[i].1 = ys0[i].2.1 := by
        rw [ev] at e1
        have := congrArg (fun l => l[i]?) e1
        simp only [List.getElem?_map, y0, List.getElem?_eq_getElem i2, Option.map_some] at this
        exact V.ref.inj (Option.some.inj this)
      have a2 : nkI rs[i].2 = ys0[i].1 := by
        rw [ek] at en
        have := congrArg (fun l => l[i]?) en
        simp only [List.map_map, List.getElem?_map, y0, List.getElem?_eq_getElem i2, Option.map_some, Function.comp, nkU_uT] at this
        exact Option.some.inj (Option.some.inj this)
      show (y.1.hash WW.w, Value.ref y.2.1) = _
      rw [← g1, ← g2, ← a1, ← a2, thash_nk X.prog, hw]
  refine set_ofDict (P := X.prog) (w := X.w) rs (I.ok.hd hc) h0 h1 h2 h3 h4 (fun p hp => I.isT (hk p hp)) hf (by omega) fun h' tk L es ep t R g k => ?_
  refine ⟨.ref s.heap.objs.size, upd H s.heap.objs.size (SetTO X.prog X.w s.heap.objs.size L), I.laid (t' := tk) k (Nat.le_refl _) (setTO_new R.t0), rfl, q _ L hn (fun p hp => ?_) fun p hp => ?_⟩
  · exact List.mem_of_mem_take (g.sub p hp)
  · exact g.all p (by rw [List.take_length]; exact hp)
theorem rvs_uT {K : PySem.W.Frag} {W : Wd} {H : Hp} : ∀ {ps : List (List Int)} {kv : List V}, RVs K W H (ps.map uT) kv → ∃ rs : List (Addr × List Int), ps = rs.map (·.2) ∧ kv = rs.map (fun p => V.ref p.1) ∧ ∀ p ∈ rs, SqT K H p.1 (p.2.map V.int) ∧ RV K W H (uT p.2) (.ref p.1)
  | [], _, r => by cases r; exact ⟨[], rfl, rfl, fun p hp => by cases hp⟩
  | ns :: ps, _, r => by
    rw [List.map_cons] at r
    cases r with
    | cons r1 r2 =>
      obtain ⟨rs, e1, e2, h⟩ := rvs_uT r2
      have r1' := r1
      cases r1 with
      | @tup _ b vs hs rv =>
        obtain ⟨ev, _⟩ := rv.flat (flatUs_ints ns)
        refine ⟨(b, ns) :: rs, by rw [e1]; rfl, by rw [e2]; rfl, fun p hp => ?_⟩
        rcases List.mem_cons.mp hp with z | z
        · subst z
          exact ⟨by rw [← ev]; exact hs.sq, r1'⟩
        · exact h p z
theorem RV.sqT {K : PySem.W.Frag} {W : Wd} {H : Hp} {ns : List Int} {b : Addr} (r : RV K W H (uT ns) (.ref b)) : SqT K H b (ns.map V.int) := by
  cases r with
  | tup hs rv =>
    obtain ⟨ev, _⟩ := rv.flat (flatUs_ints ns)
    rw [← ev]
    exact hs.sq
theorem we_sortSetD {k : Nat} {x : Str} {p p2 p3 q pos : Pos} (hw : X.w = WW.w) (hK : L.K = X.K) (hc : X.calm = true) (hu : X.A.units + 64 < cLine) (gS : Gl X "sorted") (mS : X.mg "sorted" = none) (gT : Gl X "set") (mT : X.mg "set" = none) (hx : PE X (.Name x p3) (tVar k))
    (na : starEach [.Name x p3] X.env = (false, eval (.Name x p3) X.env) :: starEach [] X.env := by rfl) (nb : (backTo q (starEach [.Name x p3] X.env)).any (·.1) = false := by rfl)
    (na2 : starEach [.Call (.Name "set" p2) [.Name x p3] [] q] X.env = (false, eval (.Call (.Name "set" p2) [.Name x p3] [] q) X.env) :: starEach [] X.env := by rfl) (nb2 : (backTo pos (starEach [.Call (.Name "set" p2) [.Name x p3] [] q] X.env)).any (·.1) = false := by rfl) :
    WE X L (.Call (.Name "sorted" p) [.Call (.Name "set" p2) [.Name x p3] [] q] [] pos) (uSortSetD k) := by
  refine PE.wk (pe_callB (cr_sortedT hc) gS mS boot_sorted (pa_cons (pe_callTy (cr_setD hw hc hu) gT mT boot_set (pa_cons hx pa_nil na) (by decide) (by decide) na nb) pa_nil na2) (by decide) (by decide) na2 nb2) fun σ H Q ⟨W, env, h, Po, Pe, S, ht, c⟩ => ?_
  obtain ⟨ks, vs, a, ev, ⟨o, kv, vv, hr, ds, rk, rv⟩, ps, d, B, rfl, hn, hd, hB, q⟩ := dicSlot_ok S ht
  obtain ⟨rs, rfl, rfl, hrs⟩ := rvs_uT rk
  refine ⟨.ref a, ev, a, o, _, _, vv, rs, rfl, hr, ds, by rw [List.map_map]; rfl, rfl, fun p hp => hK ▸ (hrs p hp).1, by simpa using hn, fun p M hp hs ha => ?_⟩
  have S2 := S.none_ hp (SetTO X.prog X.w p M)
  have l2 := LeW.none_ S.sh hp (SetTO X.prog X.w p M)
  refine ⟨p, M, d, B, rfl, upd_same, fun q hq => hK ▸ (RV.le l2.toLeP (hrs q (hs q hq)).2).sqT, hd, fun q hq => hB q.2 (List.mem_map.mpr ⟨q, hs q hq, rfl⟩), fun L' p2 pm nd hl pw hp2 => ?_⟩
  obtain ⟨S3, l3⟩ := S2.alloc hp2 (.lst (L'.map fun q => V.ref q.1)) .tmp
  have mem : ∀ q ∈ L', q ∈ rs := fun q hq => hs q (pm.mem_iff.mp hq)
  have rL : ∀ M' : List (Addr × List Int), (∀ q ∈ M', q ∈ rs) → RVs L.K (Wd.put W p2 (some .tmp)) (upd (upd H p (SetTO X.prog X.w p M)) p2 (.lst (L'.map fun q => V.ref q.1))) ((M'.map (·.2)).map uT) (M'.map fun q => V.ref q.1) := fun M' hm => by
    induction M' with
    | nil => exact .nil
    | cons q M' ih => exact .cons (RV.le (l2.trans l3).toLeP (hrs q (hm q List.mem_cons_self)).2) (ih fun r hr => hm r (List.mem_cons_of_mem _ hr))
  refine c.ok _ (.own ((L'.map (·.2)).map uT)) env h _ _ (l2.trans l3) S3 ⟨p2, _, rfl, Wd.put_same, upd_same, rL L' mem⟩ (q _ nd (fun r => ⟨fun hr => ?_, fun hr => ?_⟩) (List.pairwise_map.mpr pw))
  · obtain ⟨z, hz, rfl⟩ := List.mem_map.mp hr
    exact List.mem_map.mpr ⟨z, mem z hz, rfl⟩
  · obtain ⟨z, hz, rfl⟩ := List.mem_map.mp hr
    exact (pm.map (·.2)).mem_iff.mpr (ha z hz)
/-! ### d.setdefault(k, v), k a tuple, the answer is dropped -/
section
variable {pins : List (Addr × Obj)} {σ : L2.St} {H : Hp} {s : Shared} {W : Wd} {a : Addr} {o : HO} {ks vs : List U} {kv vv : List V} {u uv : U} {y v : V} {ay av : Value} {k : NestedKey}
theorem dn_setd {A : Around} {E : Value → Shared → Prop} {Q : Value → Shared → Prop} (hw : X.w = WW.w) (hu : A.units + 16 < cLine) (I : L2.Inv X pins σ H s) {xs : List (NestedKey × Addr × V)} {ys : List (NestedKey × Addr × Value)} {b : Addr} (hx : H a = some o) (mu : Mut (some o)) (hsm : (a == sysModules) = false)
    (hp : YP xs ys) (dd : s.heap.DictOfH (nestedKind X.prog X.w) a ys) (hb : (nestedKind X.prog X.w).is s.heap k b) (hz : xs.length < sizeLine) (ra : RelV v av)
    (q1 : (xs.any fun x => decide (x.1 = k)) = true → ∀ v' w' s', L2.Inv X pins σ H s' → RelV v' w' → Q w' s') (q2 : (xs.any fun x => decide (x.1 = k)) = false → ∀ s', L2.Inv X pins σ (upd H a (DnO a (putX xs k b v))) s' → Q av s') : wpAny (model X.prog X.w) A (call (.builtin "dict.setdefault") [.ref a, .ref b, av]) Q E s := by
  have hl : ys.length = xs.length := (Paired.length hp).symm
  refine call_setdefault_heap (knd := nestedKind X.prog X.w) (hsz := by omega) (room8 hu) hb hsm dd (fun p hp2 => ?_) fun hn h' dd' hs => q2 (by rw [hp.any k, hn]; rfl) _ ?_
  · obtain ⟨v', rv'⟩ : ∃ v', RelV v' p.2 := by
      clear dd q1 q2 hl hz
      unfold YP at hp
      induction hp with
      | nil => simp [atKey] at hp2
      | @cons x y0 xs0 ys0 h0 t0 ih =>
        by_cases e : y0.1 = k
        · have : (atKey (y0 :: ys0) k) = some y0.2 := by simp [atKey, e]
          rw [this] at hp2
          cases hp2
          exact ⟨_, h0.2.2⟩
        · have : (atKey (y0 :: ys0) k) = atKey ys0 k := by simp [atKey, e]
          rw [this] at hp2
          exact ih hp2
    exact q1 (by rw [hp.any k, hp2]; rfl) v' _ _ (I.tok _) rv'
  · obtain ⟨ob, es, ep, h1, h2, h3, h4, _, h5⟩ := dd'
    refine d_write I (by rw [hx]; exact mu) hs ⟨ob, h1⟩ ?_
    refine ⟨⟨hsm, _, hp.put k b ra, ob, es, ep, h1, h2, h3, ?_, h5⟩, ⟨ob, h1⟩, ?_⟩
    · rw [h4]
      refine List.map_congr_left fun x _ => ?_
      show (⟨x.1.hash X.w, .ref x.2.1, x.2.2⟩ : DictEntry) = ⟨x.1.hash WW.w, .ref x.2.1, x.2.2⟩
      rw [hw]
    · rintro g1 g2 ⟨k1, ys', k2, ob', es', ep', k3, k4⟩ st
      exact ⟨k1, ys', k2, ob', es', ep', st _ k3, k4⟩
theorem dic_setd {A : Around} {E : Value → Shared → Prop} {Q : Value → Shared → Prop} (hw : X.w = WW.w) (hu : A.units + 16 < cLine) (I : L2.Inv X pins σ H s) (hx : H a = some o) (ds : DicS a ks kv vv o) (rk : RVs X.K W H ks kv) (rv : RVs X.K W H vs vv) (ru : RV X.K W H u y) (rx : RelV y ay) (ki : KeyIn ks u k) (ht : isTp u = true)
    (ruv : RV X.K W H uv v) (ra : RelV v av) (hz : ks.length < sizeLine) (q1 : dicHas ks k = true → ∀ v' w' s', L2.Inv X pins σ H s' → RelV v' w' → Q w' s')
    (q2 : dicHas ks k = false → ∀ o' kv' vv' s', isDO o' → DicS a (ks ++ [u]) kv' vv' o' → RVs X.K W H (ks ++ [u]) kv' → RVs X.K W H (vs ++ [uv]) vv' → L2.Inv X pins σ (upd H a o') s' → Q av s') :
    wpAny (model X.prog X.w) A (call (.builtin "dict.setdefault") [.ref a, ay, av]) Q E s := by
  obtain ⟨hk, hd, ok⟩ := ki
  cases u with
  | tup us =>
    cases ru with
    | @tup _ b _ h rs =>
      obtain rfl := show _ = Value.ref _ from rx
      rcases ds with ⟨kvs, rfl, rfl, rfl, rfl⟩ | ⟨xs, hne, hzx, hdp, rfl, rfl, rfl, en⟩
      · have e0 : kvs = [] := by
          cases kvs with
          | nil => rfl
          | cons p _ =>
            rcases ok with ⟨z, _⟩ | z
            · cases z
            · have := z.2 (kU p.1) (by simp)
              cases hp : p.1 <;> (rw [hp] at this; cases this)
        subst e0
        cases rk
        cases rv
        obtain ⟨z, hsm, _, rel, dd⟩ := dk_rd I.hok (.inl hx)
        cases rel
        obtain ⟨ob, es, ep, h1, h2, h3, h4⟩ := dd
        have dd2 : s.heap.DictOfH (nestedKind X.prog X.w) a [] := ⟨ob, es, ep, h1, h2, h3, (by
          have z := h4.2.1
          generalize es.toList = l at z
          cases z
          rfl), (fun x hx => by cases hx), List.nodup_nil⟩
        refine dn_setd (xs := []) hw hu I hx trivial hsm .nil dd2 ⟨RV.key I (.tup h rs) rx hk, hd⟩ (by rw [sizeLine_eq]; decide) ra (fun z => by cases z) fun _ s' I' => q2 rfl (DnO _ _) _ _ s' True.intro (.inr ⟨_, putX_ne _ _, ?_, putX_dp (fun x hx => by cases hx) hd _, rfl, rfl, rfl, (show (putKs [] k (.tup us)).map nkU = _ from putX_keys [] [] rfl k b v (.tup us) hk)⟩) ?_ ?_ I'
        · have : (putX [] k b v).length ≤ 1 := by simpa using putX_le (k := k) (v := v) [] b
          rw [sizeLine_eq]
          omega
        · exact putX_rk (ks := []) (xs := []) rfl .nil (.tup h rs)
        · exact putX_rv (ks := []) (vs := []) (xs := []) rfl .nil ruv
      · obtain ⟨hsm, ys, hp, dd⟩ := dn_heap hw I (.inl hx) hdp rfl en rk
        have hl : ks.length = xs.length := by simpa using congrArg List.length en
        have ea := any_nk en k
        refine dn_setd hw hu I hx trivial hsm hp dd ⟨RV.key I (.tup h rs) rx hk, hd⟩ (by omega) ra (fun z => q1 (ea.trans z)) fun z s' I' => ?_
        have hn : dicHas ks k = false := ea.trans z
        have e1 : putKs ks k (.tup us) = ks ++ [.tup us] := by unfold putKs; rw [hn]; rfl
        have e2 : putVs ks vs k uv = vs ++ [uv] := by unfold putVs; rw [hn]; rfl
        refine q2 hn (DnO _ _) _ _ s' True.intro (.inr ⟨_, putX_ne _ _, ?_, putX_dp hdp hd _, rfl, rfl, rfl, e1 ▸ putX_keys xs _ en k _ v _ hk⟩) ?_ ?_ I'
        · have := putX_le (k := k) (v := v) xs b
          omega
        · exact e1 ▸ putX_rk en rk (.tup h rs)
        · exact e2 ▸ putX_rv en rv ruv
  | _ => cases ht
end
def SetDfQ (X : Cx) (σ : L2.St) (a : Addr) (y z : V) (H : Hp) (Qn : Hp → Prop) : Prop := ∀ (pins : List (Addr × Obj)) (s : Shared) (ay az : Value), L2.Inv X pins σ H s → RelV y ay → RelV z az →
  wpAny (model X.prog X.w) X.A (call (.builtin "dict.setdefault") [.ref a, ay, az]) (fun w' s' => ∃ v H', L2.Inv X pins σ H' s' ∧ RelV v w' ∧ Qn H') X.xe s
def tSetDf (K : PySem.W.Frag) (td ty tx : TE) (X : Cx) : TE := fun σ H Q => td σ H fun x H1 => ∃ a, x = .ref a ∧ (∃ W ks vs, DicV K W H1 ks vs a) ∧ ty σ H1 fun y H2 => tx σ H2 fun z H3 => SetDfQ X σ a y z H3 fun H4 => ∀ v, Q v H4
theorem pe_setDf {o e f : Expr} {apos cpos : Pos} {td ty tx : TE} (hw : X.w = WW.w) (ho : PE X o td) (he : PE X e ty) (hf : PE X f tx) (m : M2 X o "setdefault" apos e f cpos) : PE X (.Call (.Attribute o "setdefault" apos) [e, f] [] cpos) (tSetDf X.K td ty tx X) := by
  refine ⟨fun pins s σ H Q I h => ?_⟩
  refine wpAny_Call_method m.base m.few m.line PySem.F.plainAttrs_dict PySem.F.slot_dict_setdefault PySem.F.type_dict_setdefault (thn (ho.run pins s σ H _ I h) fun u s1 ⟨x, H1, I1, rx, a, ex, ⟨W0, ks0, vs0, d0⟩, q1⟩ => ?_)
  subst ex
  obtain rfl : u = Value.ref a := rx
  obtain ⟨t1, t2⟩ := dicV_ty hw I1 d0
  refine ⟨t1, t2, ?_⟩
  rw [m.trees]
  refine Calls.callWith_builtin rfl (Calls.evalArgs_plain (Calls.spliced_cons (thn (he.run pins s1 σ H1 _ I1 q1) fun iv s2 ⟨y, H2, I2, ry, q2⟩ =>
    Calls.spliced_cons (thn (hf.run pins s2 σ H2 _ I2 q2) fun fv s3 ⟨z, H3, I3, rz, q3⟩ => Calls.spliced_nil ?_))))
  exact wpAny_mono (q3 pins s3 iv fv I3 ry rz) (fun w' s' ⟨v, H', I', r', q'⟩ => ⟨v, H', I', r', q' v⟩) fun _ _ z => z
theorem set_same {α : Type} {l : List α} {k : Nat} {x : α} (h : l[k]? = some x) : l.set k x = l := by
  apply List.ext_getElem?
  intro i
  rw [List.getElem?_set]
  split
  · rename_i e
    subst e
    rw [if_pos (List.getElem?_eq_some_iff.mp h).1, h]
  · rfl
@[simp] def uSetDf (k : Nat) (ti te : UE) : US := fun env h P => (∃ ks0 vs0, env[k]? = some (some (.dic ks0 vs0))) ∧ ti env h (fun iv env1 h1 => te env1 h1 (fun sv env2 h2 => match env2[k]? with
  | some (some (.dic ks vs)) => ∃ key, KeyIn ks iv.u key ∧ isTp iv.u = true ∧ ks.length < sizeLine ∧ (if dicHas ks key = true then P.nx env2 h2 else P.nx (env2.set k (some (.dic (ks ++ [iv.u]) (vs ++ [sv.u])))) h2)
  | _ => False) P.er) P.er
theorem ws_setDf {k : Nat} {x : Str} {p apos cpos pos : Pos} {i e : Expr} {ti te : UE} (hw : X.w = WW.w) (hK : L.K = X.K) (hu : X.A.units + 64 < cLine) (hx : PE X (.Name x p) (tVar k)) (hi : WE X L i ti) (he : WE X L e te)
    (hbase : attributeBase (.Name x p) "setdefault" X.env (eval (.Name x p) X.env) = eval (.Name x p) X.env := by rfl) (hline : (apos.endLine == cpos.line) = true := by rfl)
    (hfew : ((backTo cpos (starEach [i, e] X.env)).all (fun x => !x.1) && (backToKw cpos (keywordEach [] X.env)).all (fun x => x.1.isSome) && decide (([i, e] : List Expr).length + ([] : List Keyword).length + (if ([] : List Keyword).isEmpty then 0 else 1) < 30)) = true := by rfl)
    (htr : backTo cpos (starEach [i, e] X.env) = [(false, eval i X.env), (false, eval e X.env)] := by rfl) (hs : swapsWith (.Call (.Attribute (.Name x p) "setdefault" apos) [i, e] [] cpos) none pos.line X.env = pure false := by rfl) :
    WS X L (.Expr (.Call (.Attribute (.Name x p) "setdefault" apos) [i, e] [] cpos) pos) (uSetDf k ti te) := by
  refine PS.wk (ps_expr (pe_setDf hw hx hi he ⟨hbase, hfew, hline, htr⟩) hs) fun D σ H ⟨W, env, h, P, S, ht, c⟩ => ?_
  obtain ⟨⟨ks0, vs0, e0⟩, ht⟩ := ht
  obtain ⟨v0, ev0, a0, o0, kv0, vv0, ex0, n0, ea0, ds0, rk0, rv0⟩ := S.slots k _ e0
  subst ex0
  rw [hK] at rk0 rv0
  refine ⟨_, ev0, a0, rfl, ⟨W, ks0, vs0, o0, kv0, vv0, .inl ea0, ds0, rk0, rv0⟩, W, env, h, _, _, S, ht, ⟨fun W1 iv env1 h1 y H1 l1 S1 r1 q1 => ?_, c.ret.er⟩⟩
  obtain ⟨W2, S2, l2, r2⟩ := S1.freeze r1
  have c1 := c.le (l1.trans l2)
  refine ⟨W2, env1, h1, _, _, S2, q1, ⟨fun W3 sv env2 h2 z H2 l3 S3 r3 q2 => ?_, c1.ret.er⟩⟩
  obtain ⟨W4, S4, l4, r4⟩ := S3.freeze r3
  split at q2
  · rename_i ks vs ek
    obtain ⟨key, ki, it, hz, q2⟩ := q2
    obtain ⟨v1, ev1, a, o, kv, vv, ex, n, ea, ds, rk, rv⟩ := S4.slots k _ ek
    rw [ev0] at ev1
    cases ev1
    cases ex
    intro pins s ay az I ry rz
    rw [hK] at rk rv r4 r2
    refine dic_setd hw (by omega) I ea ds rk rv (r2.le (l3.trans l4).toLeP) ry ki it r4 rz hz (fun hh v' w' s' I' r' => ⟨v', _, I', r', fun _ => ?_⟩) fun hh o' kv' vv' s' hd' ds' rk' rv' I' => ⟨z, _, I', rz, fun _ => ?_⟩
    · rw [if_pos hh] at q2
      exact c1.nx W4 _ h2 σ _ (l3.trans l4) S4 q2
    · rw [if_neg (by rw [hh]; exact Bool.false_ne_true)] at q2
      have l5 : LeW W4 H2 W4 (upd H2 a0 o') := S4.sh.upd_ n (fun z => by cases z) ea ds.isD.mut
      obtain ⟨S5, _⟩ := S4.upd_any (sv' := .dic (ks ++ [iv.u]) (vs ++ [sv.u])) (o' := o') (List.getElem?_eq_some_iff.mp ek).1 ev0 n ea ds.isD.mut ⟨a0, o', kv', vv', rfl, n, upd_same, ds', by rw [hK]; exact rk'.le l5.toLeP, by rw [hK]; exact rv'.le l5.toLeP⟩
      exact c1.nx W4 _ h2 σ _ ((l3.trans l4).trans l5) S5 q2
  · exact q2.elim
end
end Vi

/-! Vi40: t > u, tuples of ints. -/
namespace Vi
open PySem PySem.Spec PyProof.Rows L2
variable [WW]
def gtI (ns ms : List Int) : Bool := _root_.Ob.lexAt (fun j => decide (ns.getD j 0 = ms.getD j 0)) (fun j => decide (ms.getD j 0 < ns.getD j 0)) (decide (ms.length < ns.length)) 0 (min ns.length ms.length)
def rGtT (K : PySem.W.Frag) : R2 := fun x y H Q => ∃ (a b : Addr) (ns ms : List Int), x = .ref a ∧ y = .ref b ∧ SqT K H a (ns.map V.int) ∧ SqT K H b (ms.map V.int) ∧ Q (.bl (gtI ns ms)) H
theorem op_gtT {X : Cx} (hu : X.A.units < cLine) : OpR X (compareOp .Gt) (rGtT X.K) := by
  intro pins s σ H x y v u Q I rx ry h
  obtain ⟨a, b, ns, ms, rfl, rfl, ha, hb, q⟩ := h
  cases rx
  cases ry
  obtain ⟨its, r1, p1, _⟩ := I.tuple ha
  obtain ⟨its2, r2, p2, _⟩ := I.tuple hb
  have i1 : IntsAre its ns := Vals.ints r1
  have i2 : IntsAre its2 ms := Vals.ints r2
  have e1 : its.toArray.size = ns.length := by rw [List.size_toArray]; exact i1.length
  have e2 : its2.toArray.size = ms.length := by rw [List.size_toArray]; exact i2.length
  have at1 : ∀ j (h1 : j < its.toArray.size), ∃ t, its.toArray[j] = .int (ns.getD j 0) t := fun j h1 => PyProof.Rows.IntsAre.int_at i1 _ _ (by simp at h1; simp [h1])
  have at2 : ∀ j (h1 : j < its2.toArray.size), ∃ t, its2.toArray[j] = .int (ms.getD j 0) t := fun j h1 => PyProof.Rows.IntsAre.int_at i2 _ _ (by simp at h1; simp [h1])
  have R := _root_.Ob.RcOp.tuples_gt (A := X.A) (s := s) (e := fun j => decide (ns.getD j 0 = ms.getD j 0)) (r := fun j => decide (ms.getD j 0 < ns.getD j 0)) p1 p2 hu (fun j h1 h2 => by
    obtain ⟨t, et⟩ := at1 j h1
    obtain ⟨t', et'⟩ := at2 j h2
    rw [et, et']
    have z : (ns.getD j 0 == ms.getD j 0) = decide (ns.getD j 0 = ms.getD j 0) := by
      by_cases q : ns.getD j 0 = ms.getD j 0
      · rw [decide_eq_true q]; exact beq_iff_eq.mpr q
      · rw [decide_eq_false q]; exact beq_eq_false_iff_ne.mpr q
    rw [← z]
    exact SeqAt.EqAt.int_int _ _ _ _) (fun j h1 h2 _ => by
    obtain ⟨t, et⟩ := at1 j h1
    obtain ⟨t', et'⟩ := at2 j h2
    rw [et, et']
    exact _root_.Ob.RcOp.gt_int _ _ _ _)
  rw [e1, e2] at R
  have z : wpAny (model X.prog X.w) X.A (compareOp .Gt (.ref a) (.ref b)) (EP X pins σ Q) X.xe s := R X.prog X.w X.xe (EP X pins σ Q) ⟨.bl _, H, I, rfl, q⟩
  exact z
/-- u > w, two ints or two tuples of ints -/
@[simp] def bGtT : UO := fun u w h P => match u, w with
  | .int i, .int j => P (.val (.bl (decide (j < i)))) h
  | .tup us, .tup ws => ∃ ns ms : List Int, us = ns.map U.int ∧ ws = ms.map U.int ∧ P (.val (.bl (gtI ns ms))) h
  | _, _ => False
section
variable {X : Cx}
theorem op_gtTU (hu : X.A.units + 64 < cLine) : OpR X (compareOp .Gt) (lo X.K bGtT) := by
  refine OpR.wk (op_gt.or (op_gtT (by omega))) fun x y H Q ⟨W, env, h, σ, u, w, P, S, ru, rw_, ht, c⟩ => ?_
  unfold bGtT at ht
  split at ht
  · cases ru; cases rw_
    exact .inl ⟨_, _, rfl, rfl, c.val S (.bl _) ht⟩
  · obtain ⟨ns, ms, rfl, rfl, q⟩ := ht
    cases hx : ru with
    | @tup _ a _ _ _ =>
      cases hy : rw_ with
      | @tup _ b _ _ _ => exact .inr ⟨_, _, ns, ms, rfl, rfl, RV.sqT ru, RV.sqT rw_, c.val S (.bl _) q⟩
  · exact ht.elim
end
omit [WW] in
theorem gtI3 (a b c x y z : Int) : gtI [a, b, c] [x, y, z] = if a = x then (if b = y then decide (z < c) else decide (y < b)) else decide (x < a) := by
  show (if decide (a = x) = true then (if decide (b = y) = true then (if decide (c = z) = true then decide ((3 : Nat) < 3) else decide (z < c)) else decide (y < b)) else decide (x < a)) = _
  by_cases h1 : a = x <;> by_cases h2 : b = y <;> by_cases h3 : c = z <;> simp [h1, h2, h3]
end Vi

/-! Vi41: range(i, j), i and j of any size, j not above i or both small. -/
namespace Vi
open PySem PySem.Spec PyProof.Rows L2
variable [WW]
def ItE : It := ⟨fun _ _ => False, fun _ _ _ _ => False, fun _ _ => True⟩
theorem turn_longE {P : Program} {w : World} {K : PySem.W.Frag} {tg : Expr} (it : Addr) (x left step : Int) (hl : left ≤ 0) : Turn P w K tg ItE [it] it (fun _ h => IsLongIter h it x left step) where
  mem := by simp
  obj := fun i h st b hb => by
    have e : b = it := by simpa using hb
    subst e
    exact ⟨_, st, fun v z => nomatch z⟩
  keep := fun i h h' st k => k it (by simp) _ st
  item := by
    intro X hP hw hK hc i pins s σ H E I hf st hg
    exact hg.elim
  done := by
    intro X hP hw hK hc i pins s σ H E I hf st hg
    subst hP hw hK
    obtain ⟨f0, f1, f2, f3, f4, f5⟩ := hf it (by simp)
    exact wpAny_pyNext_long_end (I.ok.hd hc) st hl fun h' eb => ⟨rfl, I.turned (t' := s.toks) (fun b o hb e => eb b o hb e) f0 f1 f3 f4 f5⟩
  self := fun A i s Q E st h => wpAny_pyIter_longiter st h
def bigR (i j : Int) : Prop := j ≤ i
def iRngW (ta : TA) : TI := fun σ H R => ta σ H fun vs H1 => ∃ i j : Int, vs = [.int i, .int j] ∧ (((-(2 ^ 62) ≤ i ∧ i < 2 ^ 62 ∧ -(2 ^ 62) ≤ j ∧ j < 2 ^ 62) ∧ R (Itr i (j - i).toNat) H1) ∨ (j ≤ i ∧ ∀ J, (J = ItE ∨ J = Itr i 0) → R J H1))
section
variable {X : Cx} {L : Lx} {tg : Expr}
theorem range_itE {pins : List (Addr × Obj)} {σ : L2.St} {H : Hp} {s : Shared} {R : It → Hp → Prop} {E : Value → Shared → Prop} {lo hi : Int} {t u v : Tok} {tk : Nat} (I : L2.Inv X pins σ H s) (hle : hi ≤ lo)
    (q : ∀ J, (J = ItE ∨ J = Itr lo 0) → R J H) : wpAny (model X.prog X.w) X.A (pyIter (.ref s.heap.objs.size)) (PIE X pins σ tg R) E { s with heap := s.heap.push { cls := .type "range", data := .fields #[.int lo t, .int hi u, .int 1 v] }, toks := tk } := by
  have I1 : L2.Inv X pins σ H { s with heap := s.heap.push { cls := .type "range", data := .fields #[.int lo t, .int hi u, .int 1 v] }, toks := tk } := I.kept fun b o e => Heap.get?_push_of_some _ e
  have e0 : Builtin.Range.rangeSize lo hi 1 = 0 := by
    rw [rangeSize_one, if_neg (by omega)]
  by_cases hs : Builtin.Range.small lo hi 1 = true
  · refine wpAny_pyIter_range (IsRange.new ..) hs ?_
    refine ⟨(s.heap.push { cls := .type "range", data := .fields #[.int lo t, .int hi u, .int 1 v] }).objs.size, [(s.heap.push { cls := .type "range", data := .fields #[.int lo t, .int hi u, .int 1 v] }).objs.size], _, _, H, rfl,
      I1.kept (t' := tk) fun b o e => Heap.get?_push_of_some _ e, turn_range _ lo 0, ?_, fun b hb => ?_, q _ (.inr rfl)⟩
    · have e1 : lo + ((0 : Nat) : Int) * 1 = lo := by simp
      show IsRangeIter _ _ (lo + ((0 : Nat) : Int) * 1) (((0 : Nat) : Int) - ((0 : Nat) : Int)) 1
      rw [e1, show (((0 : Nat) : Int) - ((0 : Nat) : Int)) = Builtin.Range.rangeSize lo hi 1 by rw [e0]; rfl]
      exact Heap.get?_push_size _ rfl
    · have e : b = (s.heap.push { cls := .type "range", data := .fields #[.int lo t, .int hi u, .int 1 v] }).objs.size := by simpa using hb
      subst e
      exact I1.fpOk (Nat.le_refl _) (I1.hok.fresh (Nat.le_refl _))
  · refine wpAny_pyIter_longrange (IsRange.new ..) (by simpa using hs) ?_
    refine ⟨(s.heap.push { cls := .type "range", data := .fields #[.int lo t, .int hi u, .int 1 v] }).objs.size, [(s.heap.push { cls := .type "range", data := .fields #[.int lo t, .int hi u, .int 1 v] }).objs.size], _, _, H, rfl,
      I1.kept (t' := tk) fun b o e => Heap.get?_push_of_some _ e, turn_longE _ lo (Builtin.Range.rangeSize lo hi 1) 1 (by rw [e0]; exact Int.le_refl _), ?_, fun b hb => ?_, q _ (.inl rfl)⟩
    · exact Heap.get?_push_size _ rfl
    · have e : b = (s.heap.push { cls := .type "range", data := .fields #[.int lo t, .int hi u, .int 1 v] }).objs.size := by simpa using hb
      subst e
      exact I1.fpOk (Nat.le_refl _) (I1.hok.fresh (Nat.le_refl _))
theorem pi_rangeW {a b : Expr} {ta : TA} {p pos : Pos} (hg : Gl X "range") (hm : X.mg "range" = none) (ha : PA X [a, b] ta) (hs : starEach [a, b] X.env = [(false, eval a X.env), (false, eval b X.env)] := by rfl) (hs2 : starEach [b] X.env = [(false, eval b X.env)] := by rfl) :
    PI X tg (.Call (.Name "range" p) [a, b] [] pos) (iRngW ta) := by
  refine ⟨fun pins s σ H R I h => ?_⟩
  refine Call_ (ld_blt I hg hm boot_range (PyProof.Rows.callWith_type1 (thn (ha.run pos pins s σ H _ I h) fun us s1 ⟨vs, H1, I1, r1, q1⟩ => ?_) (by rw [hs, hs2]) (by rw [hs2]; rfl)))
  obtain ⟨i, j, e, q⟩ := q1
  subst e
  cases r1 with
  | cons r rr =>
    cases rr with
    | cons r' rr =>
      cases rr
      obtain ⟨t, rfl⟩ := r
      obtain ⟨t', rfl⟩ := r'
      rcases q with ⟨⟨q1, q2, q3, q4⟩, q⟩ | ⟨q1, q⟩
      · exact call_range_2 (range_it I1 q1 q2 q3 q4 q)
      · exact call_range_2 (range_itE I1 q1 q)
@[simp] def bRangeW : List U → (List U → Prop) → Prop
  | [.int i, .int j], P => ((-(2 ^ 62) ≤ i ∧ i < 2 ^ 62 ∧ -(2 ^ 62) ≤ j ∧ j < 2 ^ 62) ∨ j ≤ i) ∧ P (rangeU i (j - i).toNat)
  | _, _ => False
theorem wk_E {K : PySem.W.Frag} {W : Wd} {H : Hp} : Wk K W H [] ItE := fun W' H' l i => ⟨fun _ => True.intro, fun u e => by simp at e⟩
theorem wi_rangeW {a b : Expr} {ta : UA} {p pos : Pos} (hK : L.K = X.K) (hg : Gl X "range") (hm : X.mg "range" = none) (ha : WA X L [a, b] ta) (hs : starEach [a, b] X.env = [(false, eval a X.env), (false, eval b X.env)] := by rfl) (hs2 : starEach [b] X.env = [(false, eval b X.env)] := by rfl) :
    WI X L tg (.Call (.Name "range" p) [a, b] [] pos) (uIter bRangeW ta) := by
  refine PI.wk (pi_rangeW hg hm ha hs hs2) fun σ H R ⟨W, env, h, Po, Pe, S, ht, c⟩ => ?_
  refine ⟨W, env, h, _, _, S, ht, ⟨fun W1 us env1 h1 vs H1 l1 S1 r1 q1 => ?_, c.er⟩⟩
  unfold bRangeW at q1
  have z0 : ∀ i j : Int, j ≤ i → (j - i).toNat = 0 := fun i j h => by omega
  split at q1
  · obtain ⟨v, w, rfl, r, r'⟩ := RVs.two r1
    cases r.int_
    cases r'.int_
    obtain ⟨q1, q2⟩ := q1
    rcases q1 with q1 | q1
    · exact ⟨_, _, rfl, .inl ⟨q1, c.ok W1 _ env1 h1 _ H1 l1 S1 wk_range q2⟩⟩
    · refine ⟨_, _, rfl, .inr ⟨q1, fun J hJ => ?_⟩⟩
      rw [z0 _ _ q1] at q2
      rcases hJ with rfl | rfl
      · exact c.ok W1 _ env1 h1 _ H1 l1 S1 wk_E q2
      · exact c.ok W1 _ env1 h1 _ H1 l1 S1 (wk_range (n := 0)) q2
  · exact q1.elim
end
end Vi

namespace Vi.Law
open PySem PySem.Spec PyProof.Rows L2 Vi
def isWhole : U → Int → Bool
  | .int i, l => decide (l ≤ i)
  | _, _ => false
def typed (u : U) : Bool := (tyU u).isSome
/-! ### a ring: line, size, gap, used, offset, slots -/
structure OkR (L S G O N : Int) : Prop where
  l1 : 1 ≤ L
  l8 : L ≤ 8
  s1 : 1 ≤ S
  g0 : 0 ≤ G
  t1 : L ≤ S + G
  t20 : S + G ≤ 20
  o0 : 0 ≤ O
  o1 : O < L
  n1 : 1 ≤ N
  n12 : N ≤ 12
abbrev ringU (L S G : Int) (u : Bool) (O N : Int) : U := .tup [.int L, .int S, .int G, .bl u, .int O, .int N]
def firstF (L S G O n : Int) : Int := if (n * L - O + G) / (S + G) > 0 then (n * L - O + G) / (S + G) else 0
def lastF (L S G O N n : Int) : Int := if (n * L + L - 1 - O) / (S + G) < N - 1 then (n * L + L - 1 - O) / (S + G) else N - 1
/-- whose byte -/
def ownF (S G : Int) (u : Bool) (O N x : Int) : U :=
  if (x - O) / (S + G) < 0 ∨ N ≤ (x - O) / (S + G) then .str "others" else if (x - O) % (S + G) < S then .int ((x - O) / (S + G)) else if u = true ∨ (x - O) / (S + G) = N - 1 then .str "others" else .str "nobody"
/-- the bytes laid as far as slot k, byte j -/
def laidP (S G O k j x : Int) : Int := if O ≤ x ∧ (x - O) % (S + G) < S ∧ ((x - O) / (S + G) < k ∨ ((x - O) / (S + G) = k ∧ (x - O) % (S + G) < j)) then (x - O) / (S + G) else -1
def lenF (L S G O N : Int) : Nat := (O + N * (S + G) + 2 * L).toNat
def laidL (L S G O N k j : Int) : List Int := (List.range (lenF L S G O N)).map fun (x : Nat) => laidP S G O k j (x : Int)
/-- the slots of the bytes of a line -/
def partL (L S G O N r : Int) : List Int := (List.range L.toNat).map fun (i : Nat) => laidP S G O N 0 (r * L + (i : Int))
/-- the line has a byte of a slot -/
def hasR (L S G O N r : Int) : Bool := decide (firstF L S G O r ≤ lastF L S G O N r)
def rowsL (L S G O N : Int) : List Int := ((List.range ((lenF L S G O N : Int) / L).toNat).map fun (r : Nat) => (r : Int)).filter (hasR L S G O N)
def mineL (L S G O N r : Int) : List Int := (List.range (lastF L S G O N r + 1 - firstF L S G O r).toNat).map fun (k : Nat) => firstF L S G O r + k
/-- the pattern of a line -/
def patF (L S G O N : Int) (u : Bool) (r : Int) : Int × Int :=
  if lastF L S G O N r = firstF L S G O r + 1 then (2, if u = true then min 2 G else 0)
  else (1, min 2 ((if u = true ∨ firstF L S G O r = 0 then max 0 (O + firstF L S G O r * (S + G) - r * L) else 0) + (if u = true ∨ firstF L S G O r = N - 1 then max 0 (r * L + L - (O + firstF L S G O r * (S + G)) - S) else 0)))
def patU (p : Int × Int) : U := .tup [.int p.1, .int p.2]
/-! ### a room: line, size, gap, used, grain -/
structure OkS (L S G g : Int) : Prop where
  l1 : 1 ≤ L
  l8 : L ≤ 8
  s1 : 1 ≤ S
  g0 : 0 ≤ G
  t1 : L ≤ S + G
  t20 : S + G ≤ 20
  r1 : 1 ≤ g
  dv : L % g = 0
abbrev roomU (L S G : Int) (u : Bool) (g : Int) : U := .tup [.int L, .int S, .int G, .bl u, .int g]
/-- what is found: a pattern, a layout and a line -/
abbrev Fd := List ((Int × Int) × List U)
def addF (D : Fd) (p : Int × Int) (v : List U) : Fd := if p ∈ D.map (·.1) then D else D ++ [(p, v)]
def rowF (L S G O N : Int) (u : Bool) (D : Fd) (r : Int) : Fd := addF D (patF L S G O N u r) [ringU L S G u O N, .int r]
def ringF (L S G O N : Int) (u : Bool) (D : Fd) : Fd := (rowsL L S G O N).foldl (rowF L S G O N u) D
def slotF (L S G g N : Int) (u : Bool) (D : Fd) (n : Nat) : Fd := (List.range n).foldl (fun D (t : Nat) => ringF L S G (t * g) N u D) D
def allF (L S G g : Int) (u : Bool) (n : Nat) : Fd := (List.range n).foldl (fun D (i : Nat) => slotF L S G g (1 + i) u D (L / g).toNat) []
def ksF (D : Fd) : List U := D.map fun p => patU p.1
def vsF (D : Fd) : List U := D.map fun p => U.tup p.2
def six : List (Int × Int) := [(1, 0), (1, 1), (1, 2), (2, 0), (2, 1), (2, 2)]
def getF : Fd → Int × Int → List U
  | [], _ => []
  | (q, w) :: D, p => if q = p then w else getF D p
def keyP (p : Int × Int) : NestedKey := .tup [.num p.1, .num p.2]
def inF (D : Fd) (p : Int × Int) : Bool := decide (p ∈ D.map (·.1))
def resF (D : Fd) : List U := (six.filter (inF D)).map fun p => U.tup (patU p :: getF D p)
def patsF (G : Int) (u : Bool) : List (Int × Int) := [(1, 0), (1, 1), (1, 2), (2, if u = true then min 2 G else 0)]
def ValIs (w : List U) : Prop := ∃ (L S G O N r : Int) (u : Bool), OkR L S G O N ∧ 0 ≤ r ∧ r ≤ 1000 ∧ w = [ringU L S G u O N, .int r]
structure GdF (G : Int) (u : Bool) (D : Fd) : Prop where
  nd : (D.map (·.1)).Nodup
  su : ∀ q ∈ D.map (·.1), q ∈ patsF G u
  vl : ∀ q ∈ D, ValIs q.2
def wellT (u : U) : Bool := typed u && (match u with
  | .tup us => us.all typed
  | _ => true)
def isBl (u : U) : Bool := match u with
  | .bl _ => true
  | _ => false
def geU (b c a : U) : Bool := match b, c, a with
  | .int b, .int c, .int a => decide (a ≤ b + c)
  | _, _, _ => false
def ltU (e a : U) : Bool := match e, a with
  | .int e, .int a => decide (e < a)
  | _, _ => false
def modU (a e : U) : Bool := match a, e with
  | .int i, .int j => decide (i % j = 0)
  | _, _ => false
def hasM (a b c d : U) : Bool := isWhole a 1 && (isWhole b 1 && (isWhole c 0 && (isBl d && geU b c a)))
def isLay (u : U) : Bool := match u with
  | .tup [a, b, c, d, e, f] => hasM a b c d && (isWhole e 0 && (ltU e a && isWhole f 1))
  | _ => false
def isRoom (u : U) : Bool := match u with
  | .tup [a, b, c, d, e] => hasM a b c d && (isWhole e 1 && modU a e)
  | _ => false
def BadL (u : U) : Prop := wellT u = true ∧ isLay u = false
def BadR (u : U) : Prop := wellT u = true ∧ isRoom u = false
/-- a second argument -/
def Tok (x : U) : Prop := typed x = true ∧ ∀ i, x = .int i → LB i 110
def okS (N : Int) (x : U) : Bool := match x with
  | .int i => decide (0 ≤ i) && decide (i < N)
  | _ => false
def okP (L S G O N : Int) (x : U) : Bool := match x with
  | .int i => decide (0 ≤ i) && hasR L S G O N (i / L)
  | _ => false
def okN (L S G O N : Int) (x : U) : Bool := match x with
  | .int i => decide (0 ≤ i) && hasR L S G O N i
  | _ => false
def okD (d L S G O N : Int) (x : U) : Bool := if d = 0 then okS N x else if d = 1 then okP L S G O N x else okN L S G O N x
def errD (d : Int) : Str := if d = 0 then "InvalidSlot" else if d = 1 then "InvalidSpot" else "InvalidLine"
def valD (d L S G O N : Int) (u : Bool) (x : U) : U := match x with
  | .int i => if d = 0 then .int (O + i * (S + G)) else if d = 1 then ownF S G u O N i else if d = 2 then .lst ((mineL L S G O N i).map U.int) else patU (patF L S G O N u i)
  | _ => .non
/-- what comes of a call: the name of the error, or none with the value -/
def OutC (d : Int) (r x : U) (e : Option Str) (v : U → Prop) : Prop :=
  (d ≤ 4 ∧ BadL r ∧ e = some "InvalidLayout") ∨ (d = 5 ∧ BadR r ∧ e = some "InvalidRoom") ∨
  (∃ (L S G O N : Int) (u : Bool), r = ringU L S G u O N ∧ OkR L S G O N ∧ ((d ≤ 3 ∧ okD d L S G O N x = true ∧ e = none ∧ v (valD d L S G O N u x)) ∨ (d ≤ 3 ∧ okD d L S G O N x = false ∧ e = some (errD d)) ∨ (d = 4 ∧ e = none ∧ v (.lst ((rowsL L S G O N).map U.int))))) ∨
  (∃ (L S G g : Int) (u : Bool), r = roomU L S G u g ∧ OkS L S G g ∧ d = 5 ∧ e = none ∧ v (.lst (resF (allF L S G g u (L + 2).toNat))))
def refL (e : Option Str) : List U := match e with
  | none => []
  | some x => if x = "InvalidLayout" then [.str "bad ring"] else if x = "InvalidSlot" then [.str "bad slot"] else if x = "InvalidSpot" then [.str "bad spot"] else if x = "InvalidLine" then [.str "bad line"] else [.str "bad room"]
def Vok (v : U) : Prop := wellT v = true ∧ ShB v 9000 4
def Iok (v : U) : Prop := typed v = true ∧ ShB v 500 1
/-- the right second arguments of the doors -/
def rgtF (L S G O N : Int) : Int → List Int
  | 0 => (List.range N.toNat).map fun (k : Nat) => (0 : Int) + k
  | 1 => (rowsL L S G O N).flatMap fun r => (List.range L.toNat).map fun (k : Nat) => r * L + k
  | _ => rowsL L S G O N
def RingIs (w : U) : Prop := ∃ (L S G O N : Int) (u : Bool), OkR L S G O N ∧ w = ringU L S G u O N
/-! ### the text by places -/
def topS (i : Nat) : Stmt := PySem.Challenge.pw_lentslots_k06_wrong_arguments_of_layouts.main.body.getD i (.Pass ⟨0, 0, 0, 0⟩)
abbrev s_law_pot : Stmt := topS 28
abbrev s_law_pick : Stmt := topS 29
abbrev s_law_among : Stmt := topS 30
abbrev s_law_ring : Stmt := topS 31
abbrev s_is_whole : Stmt := topS 8
abbrev s_has_measures : Stmt := topS 9
abbrev s_is_room : Stmt := topS 11
abbrev s_need_room : Stmt := topS 13
abbrev s_is_layout : Stmt := topS 10
abbrev s_need_layout : Stmt := topS 12
abbrev s_lines_of : Stmt := topS 22
abbrev s_slots_in : Stmt := topS 16
abbrev s_line_pattern : Stmt := topS 24
abbrev s_places : Stmt := topS 26
abbrev s_law_bad_room : Stmt := topS 35
abbrev s_need_slot : Stmt := topS 14
abbrev s_layout_stride : Stmt := topS 15
abbrev s_first_spot : Stmt := topS 19
abbrev s_need_spot : Stmt := topS 18
abbrev s_spot_owner : Stmt := topS 20
abbrev s_owner : Stmt := topS 21
abbrev s_need_line : Stmt := topS 17
abbrev s_slots_of : Stmt := topS 23
abbrev s_pattern_of : Stmt := topS 25
abbrev s_law_called : Stmt := topS 37
abbrev s_law_named : Stmt := topS 38
abbrev s_law_refused : Stmt := topS 39
abbrev s_law_room_holds : Stmt := topS 41
abbrev s_law_laid : Stmt := topS 32
abbrev s_law_bad_ring : Stmt := topS 34
abbrev s_law_second : Stmt := topS 36
abbrev s_law_lines : Stmt := topS 33
abbrev s_law_numbers : Stmt := topS 40
abbrev s_law_holds : Stmt := topS 42
abbrev s_law : Stmt := topS 43
def c_InvalidRoom : U := .ecl "InvalidRoom"
def c_InvalidLine : U := .ecl "InvalidLine"
def c_InvalidSpot : U := .ecl "InvalidSpot"
def c_InvalidSlot : U := .ecl "InvalidSlot"
def c_InvalidLayout : U := .ecl "InvalidLayout"
def c_SlotError : U := .ecl "SlotError"
def d_law_pot : He.DefD := ⟨("_law_pot", none), "_law_pot", "_law_pot", defArgs s_law_pot, defBody s_law_pot, defScope s_law_pot, [], []⟩
def d_law_pick : He.DefD := ⟨("_law_pick", none), "_law_pick", "_law_pick", defArgs s_law_pick, defBody s_law_pick, defScope s_law_pick, [], []⟩
def d_law_among : He.DefD := ⟨("_law_among", none), "_law_among", "_law_among", defArgs s_law_among, defBody s_law_among, defScope s_law_among, [], []⟩
def d_law_ring : He.DefD := ⟨("_law_ring", none), "_law_ring", "_law_ring", defArgs s_law_ring, defBody s_law_ring, defScope s_law_ring, [], []⟩
def d_is_whole : He.DefD := ⟨("is_whole", none), "is_whole", "is_whole", defArgs s_is_whole, defBody s_is_whole, defScope s_is_whole, [.int 0], []⟩
def d_has_measures : He.DefD := ⟨("has_measures", none), "has_measures", "has_measures", defArgs s_has_measures, defBody s_has_measures, defScope s_has_measures, [], []⟩
def d_is_room : He.DefD := ⟨("is_room", none), "is_room", "is_room", defArgs s_is_room, defBody s_is_room, defScope s_is_room, [], []⟩
def d_need_room : He.DefD := ⟨("need_room", none), "need_room", "need_room", defArgs s_need_room, defBody s_need_room, defScope s_need_room, [], []⟩
def d_is_layout : He.DefD := ⟨("is_layout", none), "is_layout", "is_layout", defArgs s_is_layout, defBody s_is_layout, defScope s_is_layout, [], []⟩
def d_need_layout : He.DefD := ⟨("need_layout", none), "need_layout", "need_layout", defArgs s_need_layout, defBody s_need_layout, defScope s_need_layout, [], []⟩
def d_lines_of : He.DefD := ⟨("lines_of", none), "lines_of", "lines_of", defArgs s_lines_of, defBody s_lines_of, defScope s_lines_of, [], []⟩
def d_slots_in : He.DefD := ⟨("slots_in", none), "slots_in", "slots_in", defArgs s_slots_in, defBody s_slots_in, defScope s_slots_in, [], []⟩
def d_line_pattern : He.DefD := ⟨("line_pattern", none), "line_pattern", "line_pattern", defArgs s_line_pattern, defBody s_line_pattern, defScope s_line_pattern, [], []⟩
def d_places : He.DefD := ⟨("places", none), "places", "places", defArgs s_places, defBody s_places, defScope s_places, [], []⟩
def d_law_bad_room : He.DefD := ⟨("_law_bad_room", none), "_law_bad_room", "_law_bad_room", defArgs s_law_bad_room, defBody s_law_bad_room, defScope s_law_bad_room, [], []⟩
def d_need_slot : He.DefD := ⟨("need_slot", none), "need_slot", "need_slot", defArgs s_need_slot, defBody s_need_slot, defScope s_need_slot, [], []⟩
def d_layout_stride : He.DefD := ⟨("layout_stride", none), "layout_stride", "layout_stride", defArgs s_layout_stride, defBody s_layout_stride, defScope s_layout_stride, [], []⟩
def d_first_spot : He.DefD := ⟨("first_spot", none), "first_spot", "first_spot", defArgs s_first_spot, defBody s_first_spot, defScope s_first_spot, [], []⟩
def d_need_spot : He.DefD := ⟨("need_spot", none), "need_spot", "need_spot", defArgs s_need_spot, defBody s_need_spot, defScope s_need_spot, [], []⟩
def d_spot_owner : He.DefD := ⟨("spot_owner", none), "spot_owner", "spot_owner", defArgs s_spot_owner, defBody s_spot_owner, defScope s_spot_owner, [], []⟩
def d_owner : He.DefD := ⟨("owner", none), "owner", "owner", defArgs s_owner, defBody s_owner, defScope s_owner, [], []⟩
def d_need_line : He.DefD := ⟨("need_line", none), "need_line", "need_line", defArgs s_need_line, defBody s_need_line, defScope s_need_line, [], []⟩
def d_slots_of : He.DefD := ⟨("slots_of", none), "slots_of", "slots_of", defArgs s_slots_of, defBody s_slots_of, defScope s_slots_of, [], []⟩
def d_pattern_of : He.DefD := ⟨("pattern_of", none), "pattern_of", "pattern_of", defArgs s_pattern_of, defBody s_pattern_of, defScope s_pattern_of, [], []⟩
def d_law_called : He.DefD := ⟨("_law_called", none), "_law_called", "_law_called", defArgs s_law_called, defBody s_law_called, defScope s_law_called, [], []⟩
def d_law_named : He.DefD := ⟨("_law_named", none), "_law_named", "_law_named", defArgs s_law_named, defBody s_law_named, defScope s_law_named, [], []⟩
def d_law_refused : He.DefD := ⟨("_law_refused", none), "_law_refused", "_law_refused", defArgs s_law_refused, defBody s_law_refused, defScope s_law_refused, [], []⟩
def d_law_room_holds : He.DefD := ⟨("_law_room_holds", none), "_law_room_holds", "_law_room_holds", defArgs s_law_room_holds, defBody s_law_room_holds, defScope s_law_room_holds, [], []⟩
def d_law_laid : He.DefD := ⟨("_law_laid", none), "_law_laid", "_law_laid", defArgs s_law_laid, defBody s_law_laid, defScope s_law_laid, [], []⟩
def d_law_bad_ring : He.DefD := ⟨("_law_bad_ring", none), "_law_bad_ring", "_law_bad_ring", defArgs s_law_bad_ring, defBody s_law_bad_ring, defScope s_law_bad_ring, [], []⟩
def d_law_second : He.DefD := ⟨("_law_second", none), "_law_second", "_law_second", defArgs s_law_second, defBody s_law_second, defScope s_law_second, [], []⟩
def d_law_lines : He.DefD := ⟨("_law_lines", none), "_law_lines", "_law_lines", defArgs s_law_lines, defBody s_law_lines, defScope s_law_lines, [], []⟩
def d_law_numbers : He.DefD := ⟨("_law_numbers", none), "_law_numbers", "_law_numbers", defArgs s_law_numbers, defBody s_law_numbers, defScope s_law_numbers, [], []⟩
def d_law_holds : He.DefD := ⟨("_law_holds", none), "_law_holds", "_law_holds", defArgs s_law_holds, defBody s_law_holds, defScope s_law_holds, [], []⟩
def d_law : He.DefD := ⟨("law", none), "law", "law", defArgs s_law, defBody s_law, defScope s_law, [], []⟩
def fns : List He.DefD := [d_law_pot, d_law_pick, d_law_among, d_law_ring, d_is_whole, d_has_measures, d_is_room, d_need_room, d_is_layout, d_need_layout, d_lines_of, d_slots_in, d_line_pattern, d_places, d_law_bad_room, d_need_slot, d_layout_stride, d_first_spot, d_need_spot, d_spot_owner, d_owner, d_need_line, d_slots_of, d_pattern_of, d_law_called, d_law_named, d_law_refused, d_law_room_holds, d_law_laid, d_law_bad_ring, d_law_second, d_law_lines, d_law_numbers, d_law_holds, d_law]
def fas : List He.Fa := [.glo "_law_pot", .glo "_law_pick", .glo "_law_among", .glo "_law_ring", .glo "is_whole", .glo "has_measures", .glo "is_room", .glo "need_room", .glo "is_layout", .glo "need_layout", .glo "lines_of", .glo "slots_in", .glo "line_pattern", .glo "places", .glo "_law_bad_room", .glo "need_slot", .glo "layout_stride", .glo "first_spot", .glo "need_spot", .glo "spot_owner", .glo "owner", .glo "need_line", .glo "slots_of", .glo "pattern_of", .glo "_law_called", .glo "_law_named", .glo "_law_refused", .glo "_law_room_holds", .glo "_law_laid", .glo "_law_bad_ring", .glo "_law_second", .glo "_law_lines", .glo "_law_numbers", .glo "_law_holds", .glo "law", .free "int", .free "len", .free "isinstance", .free "bool", .free "tuple", .free "range", .free "min", .free "max", .free "sorted", .free "set", .free "list", .free "divmod", .free "repr", .glo "InvalidLayout", .glo "InvalidLine", .glo "InvalidRoom", .glo "InvalidSlot", .glo "InvalidSpot", .exc "InvalidLayout", .exc "InvalidLine", .exc "InvalidRoom", .exc "InvalidSlot", .exc "InvalidSpot"]
def css : List (Str × U) := [("InvalidRoom", c_InvalidRoom), ("InvalidLine", c_InvalidLine), ("InvalidSpot", c_InvalidSpot), ("InvalidSlot", c_InvalidSlot), ("InvalidLayout", c_InvalidLayout), ("SlotError", c_SlotError)]
abbrev N_law_pot : List Str := ["cell", "rest"]
theorem sc_law_pot : FnScope N_law_pot ["cell"] (defScope s_law_pot) := ⟨rfl, rfl, rfl, by decide +kernel, rfl, by decide +kernel, by decide +kernel⟩
abbrev N_law_pick : List Str := ["pot", "many", "digit", "stir"]
theorem sc_law_pick : FnScope N_law_pick ["pot", "many"] (defScope s_law_pick) := ⟨rfl, rfl, rfl, by decide +kernel, rfl, by decide +kernel, by decide +kernel⟩
abbrev N_law_among : List Str := ["pot", "some"]
theorem sc_law_among : FnScope N_law_among ["pot", "some"] (defScope s_law_among) := ⟨rfl, rfl, rfl, by decide +kernel, rfl, by decide +kernel, by decide +kernel⟩
abbrev N_law_ring : List Str := ["pot", "line", "size", "least", "gap", "offset", "slots"]
theorem sc_law_ring : FnScope N_law_ring ["pot"] (defScope s_law_ring) := ⟨rfl, rfl, rfl, by decide +kernel, rfl, by decide +kernel, by decide +kernel⟩
abbrev N_is_whole : List Str := ["value", "least"]
theorem sc_is_whole : FnScope N_is_whole ["value", "least"] (defScope s_is_whole) := ⟨rfl, rfl, rfl, by decide +kernel, rfl, by decide +kernel, by decide +kernel⟩
abbrev N_has_measures : List Str := ["line", "size", "gap", "used"]
theorem sc_has_measures : FnScope N_has_measures ["line", "size", "gap", "used"] (defScope s_has_measures) := ⟨rfl, rfl, rfl, by decide +kernel, rfl, by decide +kernel, by decide +kernel⟩
abbrev N_is_room : List Str := ["value", "line", "size", "gap", "used", "grain"]
theorem sc_is_room : FnScope N_is_room ["value"] (defScope s_is_room) := ⟨rfl, rfl, rfl, by decide +kernel, rfl, by decide +kernel, by decide +kernel⟩
abbrev N_need_room : List Str := ["room"]
theorem sc_need_room : FnScope N_need_room ["room"] (defScope s_need_room) := ⟨rfl, rfl, rfl, by decide +kernel, rfl, by decide +kernel, by decide +kernel⟩
abbrev N_is_layout : List Str := ["value", "line", "size", "gap", "used", "offset", "slots"]
theorem sc_is_layout : FnScope N_is_layout ["value"] (defScope s_is_layout) := ⟨rfl, rfl, rfl, by decide +kernel, rfl, by decide +kernel, by decide +kernel⟩
abbrev N_need_layout : List Str := ["layout"]
theorem sc_need_layout : FnScope N_need_layout ["layout"] (defScope s_need_layout) := ⟨rfl, rfl, rfl, by decide +kernel, rfl, by decide +kernel, by decide +kernel⟩
abbrev N_lines_of : List Str := ["layout", "line", "size", "gap", "used", "offset", "slots", "numbers", "ahead", "slot", "begin", "number"]
theorem sc_lines_of : FnScope N_lines_of ["layout"] (defScope s_lines_of) := ⟨rfl, rfl, rfl, by decide +kernel, rfl, by decide +kernel, by decide +kernel⟩
abbrev N_slots_in : List Str := ["layout", "number", "line", "size", "gap", "used", "offset", "slots", "stride", "first", "last", "slot"]
theorem sc_slots_in : FnScope N_slots_in ["layout", "number"] (defScope s_slots_in) := ⟨rfl, rfl, rfl, by decide +kernel, rfl, by decide +kernel, by decide +kernel⟩
abbrev N_line_pattern : List Str := ["layout", "number", "line", "size", "gap", "used", "offset", "slots", "inside", "begin", "others"]
theorem sc_line_pattern : FnScope N_line_pattern ["layout", "number"] (defScope s_line_pattern) := ⟨rfl, rfl, rfl, by decide +kernel, rfl, by decide +kernel, by decide +kernel⟩
abbrev N_places : List Str := ["room", "line", "size", "gap", "used", "grain", "found", "slots", "offset", "layout", "number", "pattern"]
theorem sc_places : FnScope N_places ["room"] (defScope s_places) := ⟨rfl, rfl, rfl, by decide +kernel, rfl, by decide +kernel, by decide +kernel⟩
abbrev N_law_bad_room : List Str := ["pot", "space", "at", "way", "some", "size", "odd", "part"]
theorem sc_law_bad_room : FnScope N_law_bad_room ["pot", "space"] (defScope s_law_bad_room) := ⟨rfl, rfl, rfl, by decide +kernel, rfl, by decide +kernel, by decide +kernel⟩
abbrev N_need_slot : List Str := ["layout", "slot"]
theorem sc_need_slot : FnScope N_need_slot ["layout", "slot"] (defScope s_need_slot) := ⟨rfl, rfl, rfl, by decide +kernel, rfl, by decide +kernel, by decide +kernel⟩
abbrev N_layout_stride : List Str := ["layout"]
theorem sc_layout_stride : FnScope N_layout_stride ["layout"] (defScope s_layout_stride) := ⟨rfl, rfl, rfl, by decide +kernel, rfl, by decide +kernel, by decide +kernel⟩
abbrev N_first_spot : List Str := ["layout", "slot"]
theorem sc_first_spot : FnScope N_first_spot ["layout", "slot"] (defScope s_first_spot) := ⟨rfl, rfl, rfl, by decide +kernel, rfl, by decide +kernel, by decide +kernel⟩
abbrev N_need_spot : List Str := ["layout", "spot"]
theorem sc_need_spot : FnScope N_need_spot ["layout", "spot"] (defScope s_need_spot) := ⟨rfl, rfl, rfl, by decide +kernel, rfl, by decide +kernel, by decide +kernel⟩
abbrev N_spot_owner : List Str := ["layout", "spot", "line", "size", "gap", "used", "offset", "slots", "slot", "byte"]
theorem sc_spot_owner : FnScope N_spot_owner ["layout", "spot"] (defScope s_spot_owner) := ⟨rfl, rfl, rfl, by decide +kernel, rfl, by decide +kernel, by decide +kernel⟩
abbrev N_owner : List Str := ["layout", "spot"]
theorem sc_owner : FnScope N_owner ["layout", "spot"] (defScope s_owner) := ⟨rfl, rfl, rfl, by decide +kernel, rfl, by decide +kernel, by decide +kernel⟩
abbrev N_need_line : List Str := ["layout", "number"]
theorem sc_need_line : FnScope N_need_line ["layout", "number"] (defScope s_need_line) := ⟨rfl, rfl, rfl, by decide +kernel, rfl, by decide +kernel, by decide +kernel⟩
abbrev N_slots_of : List Str := ["layout", "number"]
theorem sc_slots_of : FnScope N_slots_of ["layout", "number"] (defScope s_slots_of) := ⟨rfl, rfl, rfl, by decide +kernel, rfl, by decide +kernel, by decide +kernel⟩
abbrev N_pattern_of : List Str := ["layout", "number"]
theorem sc_pattern_of : FnScope N_pattern_of ["layout", "number"] (defScope s_pattern_of) := ⟨rfl, rfl, rfl, by decide +kernel, rfl, by decide +kernel, by decide +kernel⟩
abbrev N_law_called : List Str := ["door", "ring", "thing"]
theorem sc_law_called : FnScope N_law_called ["door", "ring", "thing"] (defScope s_law_called) := ⟨rfl, rfl, rfl, by decide +kernel, rfl, by decide +kernel, by decide +kernel⟩
abbrev N_law_named : List Str := ["door", "ring", "thing"]
theorem sc_law_named : FnScope N_law_named ["door", "ring", "thing"] (defScope s_law_named) := ⟨rfl, rfl, rfl, by decide +kernel, rfl, by decide +kernel, by decide +kernel⟩
abbrev N_law_refused : List Str := ["named", "door", "ring", "thing", "caught", "e", "found", "k"]
theorem sc_law_refused : FnScope N_law_refused ["named", "door", "ring", "thing"] (defScope s_law_refused) := ⟨rfl, rfl, rfl, by decide +kernel, rfl, by decide +kernel, by decide +kernel⟩
abbrev N_law_room_holds : List Str := ["pot", "space", "told", "thing", "due", "ahead"]
theorem sc_law_room_holds : FnScope N_law_room_holds ["pot", "space"] (defScope s_law_room_holds) := ⟨rfl, rfl, rfl, by decide +kernel, rfl, by decide +kernel, by decide +kernel⟩
abbrev N_law_laid : List Str := ["ring", "line", "size", "gap", "used", "offset", "slots", "found", "k", "j"]
theorem sc_law_laid : FnScope N_law_laid ["ring"] (defScope s_law_laid) := ⟨rfl, rfl, rfl, by decide +kernel, rfl, by decide +kernel, by decide +kernel⟩
abbrev N_law_bad_ring : List Str := ["pot", "ring", "at", "way", "size"]
theorem sc_law_bad_ring : FnScope N_law_bad_ring ["pot", "ring"] (defScope s_law_bad_ring) := ⟨rfl, rfl, rfl, by decide +kernel, rfl, by decide +kernel, by decide +kernel⟩
abbrev N_law_second : List Str := ["pot", "right", "most", "some", "k", "near"]
theorem sc_law_second : FnScope N_law_second ["pot", "right"] (defScope s_law_second) := ⟨rfl, rfl, rfl, by decide +kernel, rfl, by decide +kernel, by decide +kernel⟩
abbrev N_law_lines : List Str := ["ring", "laid", "found", "row", "part", "k"]
theorem sc_law_lines : FnScope N_law_lines ["ring", "laid"] (defScope s_law_lines) := ⟨rfl, rfl, rfl, by decide +kernel, rfl, by decide +kernel, by decide +kernel⟩
abbrev N_law_numbers : List Str := ["ring", "laid", "row", "lines", "spots", "part", "k", "at"]
theorem sc_law_numbers : FnScope N_law_numbers ["ring", "laid"] (defScope s_law_numbers) := ⟨rfl, rfl, rfl, by decide +kernel, rfl, by decide +kernel, by decide +kernel⟩
abbrev N_law_holds : List Str := ["pot", "ring", "right", "good", "wrong", "doors", "door", "fine", "told", "thing", "ahead", "due"]
theorem sc_law_holds : FnScope N_law_holds ["pot", "ring"] (defScope s_law_holds) := ⟨rfl, rfl, rfl, by decide +kernel, rfl, by decide +kernel, by decide +kernel⟩
abbrev N_law : List Str := ["script", "cell", "pot", "ring"]
theorem sc_law : FnScope N_law ["script"] (defScope s_law) := ⟨rfl, rfl, rfl, by decide +kernel, rfl, by decide +kernel, by decide +kernel⟩


def sp_law_pot : FS := fun us h Po _ => match us with
  | [.int _] => ∀ a b : Int, 0 ≤ b → b < 2 ^ 60 → Po (.own [.int a, .int b, .int 0]) h
  | _ => False
/-- slots: 0 cell, 1 rest -/
def p_law_pot : US :=
  (uSeq (uSet 1 (uVal (.int 0)))
  (uSeq (uIf (uB (uBin bGe (uVar 0) (uBin bPow (uVal (.int 10)) (uVal (.int 18))))) (uSet 1 (uBin bSub (uVar 0) (uBin bPow (uVal (.int 10)) (uVal (.int 18))))) uNext)
  (uRet (uApp bLst (uCons (uVar 1) (uCons (uBin bMod (uApp bInt (uCons (uVar 0) uNil)) (uVal (.int 1000000000000000177))) (uCons (uVal (.int 0)) uNil)))))))


def sp_law_pick : FS := fun us h Po _ => match us with
  | [.ref i, .int m] => ∃ k, PotAt h i k ∧ k < 2 ^ 59 ∧ 0 < m ∧ m.natAbs.log2 < 9000 ∧ ∀ (h' : Hv) (d : Int), PotAt h' i (k + 1) → Rest i h h' → 0 ≤ d → d < m → Po (.val (.int d)) h'
  | _ => False
/-- slots: 0 pot, 1 many, 2 digit, 3 stir -/
def p_law_pick : US :=
  (uSeq (uIf (uB (uBin bGt (uBin bIx (uVar 0) (uVal (.int 0))) (uVal (.int 0)))) (uSeq (uSet 2 (uBin bMod (uApp bInt (uCons (uBin bIx (uVar 0) (uVal (.int 0))) uNil)) (uVar 1)))
  (uSeq (uSetIx 0 (uVal (.int 0)) (uBin bFdiv (uBin bIx (uVar 0) (uVal (.int 0))) (uVar 1)))
  (uRet (uVar 2)))) uNext)
  (uSeq (uAugIx 0 (bInt2 (fun _ _ => True) fun i j => i + j) (uVal (.int 2)) (uVal (.int 1)))
  (uSeq (uSet 3 (uBin bAdd (uBin bMul (uBin bAdd (uBin bIx (uVar 0) (uVal (.int 1))) (uVal (.int 29))) (uBin bAdd (uBin bMul (uBin bIx (uVar 0) (uVal (.int 2))) (uBin bIx (uVar 0) (uVal (.int 2)))) (uVal (.int 431)))) (uBin bMul (uVal (.int 7907)) (uBin bIx (uVar 0) (uVal (.int 2))))))
  (uSeq (uSet 3 (uBin bMod (uApp bInt (uCons (uBin bAdd (uBin bMul (uVar 3) (uVar 3)) (uBin bMul (uVal (.int 611953)) (uVar 3))) uNil)) (uVal (.int 2305843009213693951))))
  (uSeq (uSet 3 (uBin bMul (uBin bAdd (uBin bFdiv (uVar 3) (uVal (.int 1024))) (uVal (.int 5))) (uBin bAdd (uBin bAdd (uBin bFdiv (uVar 3) (uVal (.int 1048576))) (uBin bMul (uVal (.int 33)) (uBin bIx (uVar 0) (uVal (.int 2))))) (uVal (.int 1)))))
  (uRet (uBin bMod (uBin bFdiv (uBin bMod (uApp bInt (uCons (uVar 3) uNil)) (uVal (.int 2147483629))) (uVal (.int 32))) (uVar 1))))))))


def sp_law_among : FS := fun us h Po _ => match us with
  | [.ref i, .lst xs] => ∃ k, PotAt h i k ∧ k < 2 ^ 59 ∧ 0 < xs.length ∧ xs.length < 2 ^ 60 ∧ ∀ (h' : Hv) (j : Nat) (x : U), PotAt h' i (k + 1) → Rest i h h' → xs[j]? = some x → Po (.val x) h'
  | _ => False
/-- slots: 0 pot, 1 some -/
def p_law_among : US :=
  (uRet (uBin bIx (uVar 1) (uCall 2 sp_law_pick [] (uCons (uVar 0) (uCons (uApp bLen (uCons (uVar 1) uNil)) uNil)))))


def sp_law_ring : FS := fun us h Po _ => match us with
  | [.ref i] => ∃ k, PotAt h i k ∧ k < 2 ^ 58 ∧ ∀ (h' : Hv) (w : U), PotAt h' i (k + 20) → Rest i h h' → RingIs w → Po (.val w) h'
  | _ => False
/-- slots: 0 pot, 1 line, 2 size, 3 least, 4 gap, 5 offset, 6 slots -/
def p_law_ring : US :=
  (uSeq (uSet 1 (uBin bAdd (uVal (.int 1)) (uCall 2 sp_law_pick [] (uCons (uVar 0) (uCons (uVal (.int 8)) uNil)))))
  (uSeq (uSet 2 (uBin bAdd (uVal (.int 1)) (uCall 2 sp_law_among [] (uCons (uVar 0) (uCons (uApp bLst (uCons (uCall 2 sp_law_pick [] (uCons (uVar 0) (uCons (uVal (.int 20)) uNil))) (uCons (uCall 2 sp_law_pick [] (uCons (uVar 0) (uCons (uVar 1) uNil))) (uCons (uCall 2 sp_law_pick [] (uCons (uVar 0) (uCons (uVal (.int 3)) uNil))) uNil)))) uNil)))))
  (uSeq (uSet 3 (uBin bSub (uVar 1) (uVar 2)))
  (uSeq (uIf (uB (uBin bLt (uVar 3) (uVal (.int 0)))) (uSet 3 (uVal (.int 0))) uNext)
  (uSeq (uSet 4 (uBin bAdd (uVar 3) (uBin bMod (uApp bInt (uCons (uCall 2 sp_law_among [] (uCons (uVar 0) (uCons (uApp bLst (uCons (uVal (.int 0)) (uCons (uVal (.int 0)) (uCons (uVal (.int 1)) (uCons (uVal (.int 2)) (uCons (uVal (.int 20)) uNil)))))) uNil))) uNil)) (uBin bSub (uBin bSub (uVal (.int 21)) (uVar 2)) (uVar 3)))))
  (uSeq (uIf (uB (uBin bEq (uCall 2 sp_law_pick [] (uCons (uVar 0) (uCons (uVal (.int 3)) uNil))) (uVal (.int 0)))) (uSet 4 (uBin bAdd (uVar 3) (uCall 2 sp_law_pick [] (uCons (uVar 0) (uCons (uBin bSub (uBin bSub (uVal (.int 21)) (uVar 2)) (uVar 3)) uNil))))) uNext)
  (uSeq (uSet 5 (uCall 2 sp_law_among [] (uCons (uVar 0) (uCons (uApp bLst (uCons (uVal (.int 0)) (uCons (uBin bSub (uVar 1) (uVal (.int 1))) (uCons (uCall 2 sp_law_pick [] (uCons (uVar 0) (uCons (uVar 1) uNil))) (uCons (uCall 2 sp_law_pick [] (uCons (uVar 0) (uCons (uVar 1) uNil))) uNil))))) uNil))))
  (uSeq (uSet 6 (uCall 2 sp_law_among [] (uCons (uVar 0) (uCons (uApp bLst (uCons (uVal (.int 1)) (uCons (uVal (.int 2)) (uCons (uVal (.int 3)) (uCons (uBin bAdd (uVal (.int 1)) (uCall 2 sp_law_pick [] (uCons (uVar 0) (uCons (uVal (.int 12)) uNil)))) (uCons (uBin bSub (uVal (.int 12)) (uCall 2 sp_law_pick [] (uCons (uVar 0) (uCons (uVal (.int 3)) uNil)))) uNil)))))) uNil))))
  (uRet (uApp bTup (uCons (uVar 1) (uCons (uVar 2) (uCons (uVar 4) (uCons (uBin bEq (uCall 2 sp_law_pick [] (uCons (uVar 0) (uCons (uVal (.int 2)) uNil))) (uVal (.int 0))) (uCons (uVar 5) (uCons (uVar 6) uNil))))))))))))))))


def sp_is_whole : FS := fun us h Po _ => match us with
  | [u, .int l] => typed u = true ∧ Po (.val (.bl (isWhole u l))) h
  | _ => False
/-- slots: 0 value, 1 least -/
def p_is_whole : US :=
  (uRet (uV (uAnd (uB (uApp bIsi (uCons (uVar 0) (uCons (uVal (.ty "int")) uNil)))) (uAnd (uB (uV (uNot (uB (uApp bIsi (uCons (uVar 0) (uCons (uVal (.ty "bool")) uNil))))))) (uB (uBin bGe (uVar 0) (uVar 1)))))))


def sp_has_measures : FS := fun us h Po _ => match us with
  | [a, b, c, d] => typed a = true ∧ typed b = true ∧ typed c = true ∧ typed d = true ∧ Po (.val (.bl (hasM a b c d))) h
  | _ => False
/-- slots: 0 line, 1 size, 2 gap, 3 used -/
def p_has_measures : US :=
  (uSeq (uIf (uNot (uAnd (uB (uCall 2 sp_is_whole [] (uCons (uVar 0) (uCons (uVal (.int 1)) uNil)))) (uAnd (uB (uCall 2 sp_is_whole [] (uCons (uVar 1) (uCons (uVal (.int 1)) uNil)))) (uAnd (uB (uCall 2 sp_is_whole [.int 0] (uCons (uVar 2) uNil))) (uB (uApp bIsi (uCons (uVar 3) (uCons (uVal (.ty "bool")) uNil)))))))) (uRet (uVal (.bl false))) uNext)
  (uRet (uBin bGe (uBin bAdd (uVar 1) (uVar 2)) (uVar 0))))


def sp_is_room : FS := fun us h Po _ => ∃ u, us = [u] ∧ wellT u = true ∧ Po (.val (.bl (isRoom u))) h
/-- slots: 0 value, 1 line, 2 size, 3 gap, 4 used, 5 grain -/
def p_is_room : US :=
  (uSeq (uIf (uOr (uNot (uB (uApp bIsi (uCons (uVar 0) (uCons (uVal (.ty "tuple")) uNil))))) (uB (uBin bNe (uApp bLen (uCons (uVar 0) uNil)) (uVal (.int 5))))) (uRet (uVal (.bl false))) uNext)
  (uSeq (uAsg (gT [1, 2, 3, 4, 5]) (uVar 0))
  (uRet (uV (uAnd (uB (uCall 4 sp_has_measures [] (uCons (uVar 1) (uCons (uVar 2) (uCons (uVar 3) (uCons (uVar 4) uNil)))))) (uAnd (uB (uCall 2 sp_is_whole [] (uCons (uVar 5) (uCons (uVal (.int 1)) uNil)))) (uB (uBin bEq (uBin bMod (uVar 1) (uVar 5)) (uVal (.int 0))))))))))


def sp_need_room : FS := fun us h Po Pe => ∃ u, us = [u] ∧ wellT u = true ∧ (isRoom u = true → Po (.val .non) h) ∧ (isRoom u = false → Pe ⟨"InvalidRoom", none⟩ h)
/-- slots: 0 room -/
def p_need_room : US :=
  (uIf (uNot (uB (uCall 1 sp_is_room [] (uCons (uVar 0) uNil)))) (uRaise "InvalidRoom") uNext)


def sp_is_layout : FS := fun us h Po _ => match us with
  | [u] => wellT u = true ∧ Po (.val (.bl (isLay u))) h
  | _ => False
/-- slots: 0 value, 1 line, 2 size, 3 gap, 4 used, 5 offset, 6 slots -/
def p_is_layout : US :=
  (uSeq (uIf (uOr (uNot (uB (uApp bIsi (uCons (uVar 0) (uCons (uVal (.ty "tuple")) uNil))))) (uB (uBin bNe (uApp bLen (uCons (uVar 0) uNil)) (uVal (.int 6))))) (uRet (uVal (.bl false))) uNext)
  (uSeq (uAsg (gT [1, 2, 3, 4, 5, 6]) (uVar 0))
  (uRet (uV (uAnd (uB (uCall 4 sp_has_measures [] (uCons (uVar 1) (uCons (uVar 2) (uCons (uVar 3) (uCons (uVar 4) uNil)))))) (uAnd (uB (uCall 2 sp_is_whole [.int 0] (uCons (uVar 5) uNil))) (uAnd (uB (uBin bLt (uVar 5) (uVar 1))) (uB (uCall 2 sp_is_whole [] (uCons (uVar 6) (uCons (uVal (.int 1)) uNil)))))))))))


def sp_need_layout : FS := fun us h Po Pe => ∃ u, us = [u] ∧ wellT u = true ∧ (isLay u = true → Po (.val .non) h) ∧ (isLay u = false → Pe ⟨"InvalidLayout", none⟩ h)
/-- slots: 0 layout -/
def p_need_layout : US :=
  (uIf (uNot (uB (uCall 1 sp_is_layout [] (uCons (uVar 0) uNil)))) (uRaise "InvalidLayout") uNext)


def sp_lines_of : FS := fun us h Po Pe => ∃ r, us = [r] ∧ ((∃ (L S G O N : Int) (u : Bool), r = ringU L S G u O N ∧ OkR L S G O N ∧ Po (.own ((rowsL L S G O N).map U.int)) h) ∨ (BadL r ∧ Pe ⟨"InvalidLayout", none⟩ h))
def b1_lines_of : US :=
  (uIf (uB (uBin bGt (uVar 11) (uVar 8))) (uSeq (uDrop (uMt 7 fAppend (uCons (uVar 11) uNil)))
  (uSet 8 (uVar 11))) uNext)
def b2_lines_of : US :=
  (uSeq (uSet 10 (uBin bAdd (uVar 5) (uBin bMul (uVar 9) (uBin bAdd (uVar 2) (uVar 3)))))
  (uFor (uIter bRange2 (uCons (uBin bFdiv (uVar 10) (uVar 1)) (uCons (uBin bAdd (uBin bFdiv (uBin bSub (uBin bAdd (uVar 10) (uVar 2)) (uVal (.int 1))) (uVar 1)) (uVal (.int 1))) uNil))) (gN 11) b1_lines_of))
/-- slots: 0 layout, 1 line, 2 size, 3 gap, 4 used, 5 offset, 6 slots, 7 numbers, 8 ahead, 9 slot, 10 begin, 11 number -/
def p_lines_of : US :=
  (uSeq (uDrop (uCall 1 sp_need_layout [] (uCons (uVar 0) uNil)))
  (uSeq (uAsg (gT [1, 2, 3, 4, 5, 6]) (uVar 0))
  (uSeq (uSetO 7 (uApp bLst uNil))
  (uSeq (uSet 8 (uNeg (uVal (.int 1))))
  (uSeq (uFor (uIter bRange1 (uCons (uVar 6) uNil)) (gN 9) b2_lines_of)
  (uRet (uVarO 7)))))))


def sp_slots_in : FS := fun us h Po _ => match us with
  | [.tup [.int L, .int S, .int G, .bl _, .int O, .int N], .int n] => OkR L S G O N ∧ 0 ≤ n ∧ LB n 110 ∧ Po (.own (rangeU (firstF L S G O n) (lastF L S G O N n + 1 - firstF L S G O n).toNat)) h
  | _ => False
/-- slots: 0 layout, 1 number, 2 line, 3 size, 4 gap, 5 used, 6 offset, 7 slots, 8 stride, 9 first, 10 last, 11 slot -/
def p_slots_in : US :=
  (uSeq (uAsg (gT [2, 3, 4, 5, 6, 7]) (uVar 0))
  (uSeq (uSet 8 (uBin bAdd (uVar 3) (uVar 4)))
  (uSeq (uSet 9 (uApp bMax (uCons (uVal (.int 0)) (uCons (uBin bFdiv (uBin bAdd (uBin bSub (uBin bMul (uVar 1) (uVar 2)) (uVar 6)) (uVar 4)) (uVar 8)) uNil))))
  (uSeq (uSet 10 (uApp bMin (uCons (uBin bSub (uApp bInt (uCons (uVar 7) uNil)) (uVal (.int 1))) (uCons (uBin bFdiv (uBin bSub (uBin bSub (uBin bAdd (uBin bMul (uVar 1) (uVar 2)) (uVar 2)) (uVal (.int 1))) (uVar 6)) (uVar 8)) uNil))))
  (uRet (uLc (uIter bRangeW (uCons (uVar 9) (uCons (uBin bAdd (uVar 10) (uVal (.int 1))) uNil))) (gN 11) uYes (uVar 11) [11]))))))


def sp_line_pattern : FS := fun us h Po _ => match us with
  | [.tup [.int L, .int S, .int G, .bl u, .int O, .int N], .int n] => OkR L S G O N ∧ 0 ≤ n ∧ n ≤ 1000 ∧ hasR L S G O N n = true ∧ Po (.val (patU (patF L S G O N u n))) h
  | _ => False
/-- slots: 0 layout, 1 number, 2 line, 3 size, 4 gap, 5 used, 6 offset, 7 slots, 8 inside, 9 begin, 10 others -/
def p_line_pattern : US :=
  (uSeq (uAsg (gT [2, 3, 4, 5, 6, 7]) (uVar 0))
  (uSeq (uSet 8 (uCall 2 sp_slots_in [] (uCons (uVar 0) (uCons (uVar 1) uNil))))
  (uSeq (uIf (uB (uBin bEq (uApp bLen (uCons (uVar 8) uNil)) (uVal (.int 2)))) (uRet (uApp bTup (uCons (uVal (.int 2)) (uCons (uIfE (uB (uVar 5)) (uApp bMin (uCons (uVal (.int 2)) (uCons (uVar 4) uNil))) (uVal (.int 0))) uNil)))) uNext)
  (uSeq (uSet 9 (uBin bAdd (uVar 6) (uBin bMul (uBin bIx (uVar 8) (uVal (.int 0))) (uBin bAdd (uVar 3) (uVar 4)))))
  (uSeq (uSet 10 (uVal (.int 0)))
  (uSeq (uIf (uOr (uB (uVar 5)) (uB (uBin bEq (uBin bIx (uVar 8) (uVal (.int 0))) (uVal (.int 0))))) (uAug 10 (bInt2 (fun _ _ => True) fun i j => i + j) (uApp bMax (uCons (uVal (.int 0)) (uCons (uBin bSub (uVar 9) (uBin bMul (uVar 1) (uVar 2))) uNil)))) uNext)
  (uSeq (uIf (uOr (uB (uVar 5)) (uB (uBin bEq (uBin bIx (uVar 8) (uVal (.int 0))) (uBin bSub (uVar 7) (uVal (.int 1)))))) (uAug 10 (bInt2 (fun _ _ => True) fun i j => i + j) (uApp bMax (uCons (uVal (.int 0)) (uCons (uBin bSub (uBin bSub (uBin bAdd (uBin bMul (uVar 1) (uVar 2)) (uVar 2)) (uVar 9)) (uVar 3)) uNil)))) uNext)
  (uRet (uApp bTup (uCons (uVal (.int 1)) (uCons (uApp bMin (uCons (uVal (.int 2)) (uCons (uVar 10) uNil))) uNil)))))))))))


def sp_places : FS := fun us h Po Pe => ∃ r, us = [r] ∧ ((∃ (L S G g : Int) (u : Bool), r = roomU L S G u g ∧ OkS L S G g ∧ Po (.own (resF (allF L S G g u (L + 2).toNat))) h) ∨ (BadR r ∧ Pe ⟨"InvalidRoom", none⟩ h))
def b1_places : US :=
  (uSetDf 6 (uCall 2 sp_line_pattern [] (uCons (uVar 9) (uCons (uVar 10) uNil))) (uApp bTup (uCons (uVar 9) (uCons (uVar 10) uNil))))
def b2_places : US :=
  (uSeq (uSet 9 (uApp bTup (uCons (uVar 1) (uCons (uVar 2) (uCons (uVar 3) (uCons (uVar 4) (uCons (uVar 8) (uCons (uVar 7) uNil))))))))
  (uFor (uItems (uCall 1 sp_lines_of [] (uCons (uVar 9) uNil))) (gN 10) b1_places))
def b3_places : US :=
  (uFor (uIter bRange3 (uCons (uVal (.int 0)) (uCons (uVar 1) (uCons (uVar 5) uNil)))) (gN 8) b2_places)
/-- slots: 0 room, 1 line, 2 size, 3 gap, 4 used, 5 grain, 6 found, 7 slots, 8 offset, 9 layout, 10 number, 11 pattern -/
def p_places : US :=
  (uSeq (uDrop (uCall 1 sp_need_room [] (uCons (uVar 0) uNil)))
  (uSeq (uAsg (gT [1, 2, 3, 4, 5]) (uVar 0))
  (uSeq (uSetO 6 uDic0)
  (uSeq (uFor (uIter bRange2 (uCons (uVal (.int 1)) (uCons (uBin bAdd (uVar 1) (uVal (.int 3))) uNil))) (gN 7) b3_places)
  (uRet (uLc (uItems (uSortSetD 6)) (gN 11) uYes (uBin bAdd (uApp bTup (uCons (uVar 11) uNil)) (uIxD 6 (uVar 11))) [11]))))))


def sp_law_bad_room : FS := fun us h Po _ => ∃ (i k : Nat) (L S G g : Int) (u : Bool), us = [.ref i, roomU L S G u g] ∧ OkS L S G g ∧ PotAt h i k ∧ k < 2 ^ 57 ∧ ∀ (h' : Hv) (sv : Sv), PotAt h' i (k + 10) → Rest i h h' → Vok sv.u → isRoom sv.u = false → Po sv h'
/-- slots: 0 pot, 1 space, 2 at, 3 way, 4 some, 5 size, 6 odd, 7 part -/
def p_law_bad_room : US :=
  (uSeq (uSet 2 (uCall 2 sp_law_pick [] (uCons (uVar 0) (uCons (uVal (.int 5)) uNil))))
  (uSeq (uSet 3 (uCall 2 sp_law_pick [] (uCons (uVar 0) (uCons (uVal (.int 10)) uNil))))
  (uSeq (uIf (uB (uBin bLt (uVar 3) (uVal (.int 2)))) (uRet (uBin bAdd (uBin bAdd (uSl bSl (uVar 1) uNoP (uP (uVar 2))) (uApp bTup (uCons (uCall 2 sp_law_among [] (uCons (uVar 0) (uCons (uApp bLst (uCons (uVal .non) (uCons (uNeg (uVal (.int 1))) (uCons (uVal (.str "1")) (uCons (uApp bLst (uCons (uVal (.int 1)) uNil)) (uCons (uApp bTup (uCons (uVal (.int 1)) uNil)) (uCons (uNeg (uBin bPow (uVal (.int 10)) (uVal (.int 20)))) uNil))))))) uNil))) uNil))) (uSl bSl (uVar 1) (uP (uBin bAdd (uVar 2) (uVal (.int 1)))) uNoP))) uNext)
  (uSeq (uIf (uB (uBin bLt (uVar 3) (uVal (.int 5)))) (uSeq (uSet 4 (uLc (uIter bRange2 (uCons (uVal (.int 2)) (uCons (uBin bAdd (uBin bMul (uVal (.int 2)) (uBin bIx (uVar 1) (uVal (.int 0)))) (uVal (.int 2))) uNil))) (gN 7) (uB (uBin bNe (uBin bMod (uApp bInt (uCons (uBin bIx (uVar 1) (uVal (.int 0))) uNil)) (uVar 7)) (uVal (.int 0)))) (uVar 7) [7]))
  (uRet (uBin bAdd (uSl bSl (uVar 1) uNoP (uP (uVal (.int 4)))) (uApp bTup (uCons (uCall 2 sp_law_among [] (uCons (uVar 0) (uCons (uVar 4) uNil))) uNil))))) uNext)
  (uSeq (uIf (uB (uBin bLt (uVar 3) (uVal (.int 7)))) (uSeq (uSet 5 (uBin bAdd (uVal (.int 1)) (uCall 2 sp_law_pick [] (uCons (uVar 0) (uCons (uBin bIx (uVar 1) (uVal (.int 0))) uNil)))))
  (uRet (uBin bAdd (uApp bTup (uCons (uBin bIx (uVar 1) (uVal (.int 0))) (uCons (uVar 5) (uCons (uBin bSub (uBin bSub (uBin bIx (uVar 1) (uVal (.int 0))) (uVar 5)) (uVal (.int 1))) uNil)))) (uSl bSl (uVar 1) (uP (uVal (.int 3))) uNoP)))) uNext)
  (uSeq (uIf (uB (uBin bEq (uVar 3) (uVal (.int 7)))) (uSeq (uSet 2 (uCall 2 sp_law_pick [] (uCons (uVar 0) (uCons (uVal (.int 5)) uNil))))
  (uSeq (uSet 6 (uBin bIx (uApp bLst (uCons (uApp bLst (uCons (uVal (.int 0)) (uCons (uVal (.bl true)) uNil))) (uCons (uApp bLst (uCons (uVal (.int 0)) (uCons (uVal (.bl true)) uNil))) (uCons (uApp bLst (uCons (uVal (.bl true)) (uCons (uVal (.bl false)) uNil))) (uCons (uApp bLst (uCons (uVal (.int 0)) (uCons (uVal (.int 1)) uNil))) (uCons (uApp bLst (uCons (uVal (.int 0)) (uCons (uVal (.bl true)) uNil))) uNil)))))) (uVar 2)))
  (uRet (uBin bAdd (uBin bAdd (uSl bSl (uVar 1) uNoP (uP (uVar 2))) (uApp bTup (uCons (uCall 2 sp_law_among [] (uCons (uVar 0) (uCons (uVar 6) uNil))) uNil))) (uSl bSl (uVar 1) (uP (uBin bAdd (uVar 2) (uVal (.int 1)))) uNoP))))) uNext)
  (uSeq (uIf (uB (uBin bEq (uVar 3) (uVal (.int 8)))) (uRet (uBin bAdd (uSl bSl (uVar 1) uNoP (uP (uVar 2))) (uSl bSl (uVar 1) (uP (uBin bAdd (uVar 2) (uVal (.int 1)))) uNoP))) uNext)
  (uRet (uCall 2 sp_law_among [] (uCons (uVar 0) (uCons (uApp bLst (uCons (uApp bList (uCons (uVar 1) uNil)) (uCons (uBin bAdd (uSl bSl (uVar 1) uNoP (uP (uVal (.int 4)))) (uApp bTup (uCons (uVal (.int 0)) (uCons (uVal (.int 1)) uNil)))) (uCons (uVal .non) (uCons (uVal (.int 0)) (uCons (uVal (.str "line")) (uCons (uApp bTup (uCons (uVar 1) uNil)) (uCons (uBin bAdd (uVar 1) (uApp bTup (uCons (uVal (.int 1)) uNil))) (uCons (uRev (uVar 1)) uNil))))))))) uNil)))))))))))


def sp_need_slot : FS := fun us h Po Pe => ∃ (L S G O N : Int) (u : Bool) (x : U), us = [ringU L S G u O N, x] ∧ OkR L S G O N ∧ Tok x ∧ (okS N x = true → Po (.val .non) h) ∧ (okS N x = false → Pe ⟨"InvalidSlot", none⟩ h)
/-- slots: 0 layout, 1 slot -/
def p_need_slot : US :=
  (uIf (uOr (uNot (uB (uCall 2 sp_is_whole [.int 0] (uCons (uVar 1) uNil)))) (uB (uBin bGe (uVar 1) (uBin bIx (uVar 0) (uVal (.int 5)))))) (uRaise "InvalidSlot") uNext)


def sp_layout_stride : FS := fun us h Po _ => match us with
  | [.tup [.int _, .int S, .int G, .bl _, .int _, .int _]] => Po (.val (.int (S + G))) h
  | _ => False
/-- slots: 0 layout -/
def p_layout_stride : US :=
  (uRet (uBin bAdd (uBin bIx (uVar 0) (uVal (.int 1))) (uBin bIx (uVar 0) (uVal (.int 2)))))


def sp_first_spot : FS := fun us h Po Pe => ∃ r x, us = [r, x] ∧ ((BadL r ∧ Pe ⟨"InvalidLayout", none⟩ h) ∨ (∃ (L S G O N : Int) (u : Bool), r = ringU L S G u O N ∧ OkR L S G O N ∧ Tok x ∧ (okS N x = true → Po (.val (valD 0 L S G O N u x)) h) ∧ (okS N x = false → Pe ⟨"InvalidSlot", none⟩ h)))
/-- slots: 0 layout, 1 slot -/
def p_first_spot : US :=
  (uSeq (uDrop (uCall 1 sp_need_layout [] (uCons (uVar 0) uNil)))
  (uSeq (uDrop (uCall 2 sp_need_slot [] (uCons (uVar 0) (uCons (uVar 1) uNil))))
  (uRet (uBin bAdd (uBin bIx (uVar 0) (uVal (.int 4))) (uBin bMul (uVar 1) (uCall 1 sp_layout_stride [] (uCons (uVar 0) uNil)))))))


def sp_need_spot : FS := fun us h Po Pe => ∃ (L S G O N : Int) (u : Bool) (x : U), us = [ringU L S G u O N, x] ∧ OkR L S G O N ∧ Tok x ∧ (okP L S G O N x = true → Po (.val .non) h) ∧ (okP L S G O N x = false → Pe ⟨"InvalidSpot", none⟩ h)
/-- slots: 0 layout, 1 spot -/
def p_need_spot : US :=
  (uIf (uOr (uNot (uB (uCall 2 sp_is_whole [.int 0] (uCons (uVar 1) uNil)))) (uB (uBin bEq (uCall 2 sp_slots_in [] (uCons (uVar 0) (uCons (uBin bFdiv (uVar 1) (uBin bIx (uVar 0) (uVal (.int 0)))) uNil))) (uApp bLst uNil)))) (uRaise "InvalidSpot") uNext)


def sp_spot_owner : FS := fun us h Po _ => match us with
  | [.tup [.int L, .int S, .int G, .bl u, .int O, .int N], .int x] => OkR L S G O N ∧ Po (.val (ownF S G u O N x)) h
  | _ => False
/-- slots: 0 layout, 1 spot, 2 line, 3 size, 4 gap, 5 used, 6 offset, 7 slots, 8 slot, 9 byte -/
def p_spot_owner : US :=
  (uSeq (uAsg (gT [2, 3, 4, 5, 6, 7]) (uVar 0))
  (uSeq (uAsg (gT [8, 9]) (uApp bDivmod (uCons (uBin bSub (uVar 1) (uVar 6)) (uCons (uBin bAdd (uVar 3) (uVar 4)) uNil))))
  (uSeq (uIf (uOr (uB (uBin bLt (uVar 8) (uVal (.int 0)))) (uB (uBin bGe (uVar 8) (uVar 7)))) (uRet (uVal (.str "others"))) uNext)
  (uSeq (uIf (uB (uBin bLt (uVar 9) (uVar 3))) (uRet (uVar 8)) uNext)
  (uSeq (uIf (uOr (uB (uVar 5)) (uB (uBin bEq (uVar 8) (uBin bSub (uVar 7) (uVal (.int 1)))))) (uRet (uVal (.str "others"))) uNext)
  (uRet (uVal (.str "nobody"))))))))


def sp_owner : FS := fun us h Po Pe => ∃ r x, us = [r, x] ∧ ((BadL r ∧ Pe ⟨"InvalidLayout", none⟩ h) ∨ (∃ (L S G O N : Int) (u : Bool), r = ringU L S G u O N ∧ OkR L S G O N ∧ Tok x ∧ (okP L S G O N x = true → Po (.val (valD 1 L S G O N u x)) h) ∧ (okP L S G O N x = false → Pe ⟨"InvalidSpot", none⟩ h)))
/-- slots: 0 layout, 1 spot -/
def p_owner : US :=
  (uSeq (uDrop (uCall 1 sp_need_layout [] (uCons (uVar 0) uNil)))
  (uSeq (uDrop (uCall 2 sp_need_spot [] (uCons (uVar 0) (uCons (uVar 1) uNil))))
  (uRet (uCall 2 sp_spot_owner [] (uCons (uVar 0) (uCons (uVar 1) uNil))))))


def sp_need_line : FS := fun us h Po Pe => ∃ (L S G O N : Int) (u : Bool) (x : U), us = [ringU L S G u O N, x] ∧ OkR L S G O N ∧ Tok x ∧ (okN L S G O N x = true → Po (.val .non) h) ∧ (okN L S G O N x = false → Pe ⟨"InvalidLine", none⟩ h)
/-- slots: 0 layout, 1 number -/
def p_need_line : US :=
  (uIf (uOr (uNot (uB (uCall 2 sp_is_whole [.int 0] (uCons (uVar 1) uNil)))) (uB (uBin bEq (uCall 2 sp_slots_in [] (uCons (uVar 0) (uCons (uVar 1) uNil))) (uApp bLst uNil)))) (uRaise "InvalidLine") uNext)


def sp_slots_of : FS := fun us h Po Pe => ∃ r x, us = [r, x] ∧ ((BadL r ∧ Pe ⟨"InvalidLayout", none⟩ h) ∨ (∃ (L S G O N : Int) (u : Bool), r = ringU L S G u O N ∧ OkR L S G O N ∧ Tok x ∧ (okN L S G O N x = true → ∀ sv : Sv, sv.u = valD 2 L S G O N u x → Po sv h) ∧ (okN L S G O N x = false → Pe ⟨"InvalidLine", none⟩ h)))
/-- slots: 0 layout, 1 number -/
def p_slots_of : US :=
  (uSeq (uDrop (uCall 1 sp_need_layout [] (uCons (uVar 0) uNil)))
  (uSeq (uDrop (uCall 2 sp_need_line [] (uCons (uVar 0) (uCons (uVar 1) uNil))))
  (uRet (uCall 2 sp_slots_in [] (uCons (uVar 0) (uCons (uVar 1) uNil))))))


def sp_pattern_of : FS := fun us h Po Pe => ∃ r x, us = [r, x] ∧ ((BadL r ∧ Pe ⟨"InvalidLayout", none⟩ h) ∨ (∃ (L S G O N : Int) (u : Bool), r = ringU L S G u O N ∧ OkR L S G O N ∧ Tok x ∧ (okN L S G O N x = true → Po (.val (valD 3 L S G O N u x)) h) ∧ (okN L S G O N x = false → Pe ⟨"InvalidLine", none⟩ h)))
/-- slots: 0 layout, 1 number -/
def p_pattern_of : US :=
  (uSeq (uDrop (uCall 1 sp_need_layout [] (uCons (uVar 0) uNil)))
  (uSeq (uDrop (uCall 2 sp_need_line [] (uCons (uVar 0) (uCons (uVar 1) uNil))))
  (uRet (uCall 2 sp_line_pattern [] (uCons (uVar 0) (uCons (uVar 1) uNil))))))


def sp_law_called : FS := fun us h Po Pe => ∃ (d : Int) (r x : U) (e : Option Str) (v : U → Prop), us = [.int d, r, x] ∧ 0 ≤ d ∧ d ≤ 5 ∧ Tok x ∧ OutC d r x e v ∧ (match e with
  | none => ∀ sv : Sv, v sv.u → Po sv h
  | some n => Pe ⟨n, none⟩ h)
/-- slots: 0 door, 1 ring, 2 thing -/
def p_law_called : US :=
  (uSeq (uIf (uB (uBin bEq (uVar 0) (uVal (.int 0)))) (uRet (uCall 2 sp_first_spot [] (uCons (uVar 1) (uCons (uVar 2) uNil)))) uNext)
  (uSeq (uIf (uB (uBin bEq (uVar 0) (uVal (.int 1)))) (uRet (uCall 2 sp_owner [] (uCons (uVar 1) (uCons (uVar 2) uNil)))) uNext)
  (uSeq (uIf (uB (uBin bEq (uVar 0) (uVal (.int 2)))) (uRet (uCall 2 sp_slots_of [] (uCons (uVar 1) (uCons (uVar 2) uNil)))) uNext)
  (uSeq (uIf (uB (uBin bEq (uVar 0) (uVal (.int 3)))) (uRet (uCall 2 sp_pattern_of [] (uCons (uVar 1) (uCons (uVar 2) uNil)))) uNext)
  (uSeq (uIf (uB (uBin bEq (uVar 0) (uVal (.int 4)))) (uRet (uCall 1 sp_lines_of [] (uCons (uVar 1) uNil))) uNext)
  (uRet (uCall 1 sp_places [] (uCons (uVar 1) uNil))))))))


def sp_law_named : FS := fun us h Po Pe => ∃ (d : Int) (r x : U) (e : Option Str) (v : U → Prop), us = [.int d, r, x] ∧ 0 ≤ d ∧ d ≤ 5 ∧ Tok x ∧ OutC d r x e v ∧ (match e with
  | none => ∀ sv : Sv, v sv.u → Po sv h
  | some n => Pe ⟨n, none⟩ h)
/-- slots: 0 door, 1 ring, 2 thing -/
def p_law_named : US :=
  (uSeq (uIf (uB (uBin bEq (uVar 0) (uVal (.int 0)))) (uRet (uCallK 2 sp_first_spot 0 2 (fun us ws => [ws.getD 1 .non, ws.getD 0 .non]) uNil (uCons (uVar 2) (uCons (uVar 1) uNil)))) uNext)
  (uSeq (uIf (uB (uBin bEq (uVar 0) (uVal (.int 1)))) (uRet (uCallK 2 sp_owner 0 2 (fun us ws => [ws.getD 1 .non, ws.getD 0 .non]) uNil (uCons (uVar 2) (uCons (uVar 1) uNil)))) uNext)
  (uSeq (uIf (uB (uBin bEq (uVar 0) (uVal (.int 2)))) (uRet (uCallK 2 sp_slots_of 0 2 (fun us ws => [ws.getD 1 .non, ws.getD 0 .non]) uNil (uCons (uVar 2) (uCons (uVar 1) uNil)))) uNext)
  (uSeq (uIf (uB (uBin bEq (uVar 0) (uVal (.int 3)))) (uRet (uCallK 2 sp_pattern_of 0 2 (fun us ws => [ws.getD 1 .non, ws.getD 0 .non]) uNil (uCons (uVar 2) (uCons (uVar 1) uNil)))) uNext)
  (uSeq (uIf (uB (uBin bEq (uVar 0) (uVal (.int 4)))) (uRet (uCallK 1 sp_lines_of 0 1 (fun us ws => [ws.getD 0 .non]) uNil (uCons (uVar 1) uNil))) uNext)
  (uRet (uCallK 1 sp_places 0 1 (fun us ws => [ws.getD 0 .non]) uNil (uCons (uVar 1) uNil))))))))


def sp_law_refused : FS := fun us h Po Pe => ∃ (b : Bool) (d : Int) (r x : U) (e : Option Str), us = [.bl b, .int d, r, x] ∧ 0 ≤ d ∧ d ≤ 5 ∧ Tok x ∧ OutC d r x e (fun _ => True) ∧ ∀ sv : Sv, sv.u = .lst (refL e) → Po sv h
/-- slots: 0 named, 1 door, 2 ring, 3 thing, 4 caught, 5 e, 6 found, 7 k -/
def p_law_refused : US :=
  (uSeq (uSet 4 (uVal .non))
  (uSeq (uTry ["InvalidLayout", "InvalidLine", "InvalidRoom", "InvalidSlot", "InvalidSpot"] 5 4 (uIf (uB (uVar 0)) (uDrop (uCall 3 sp_law_named [] (uCons (uVar 1) (uCons (uVar 2) (uCons (uVar 3) uNil))))) (uDrop (uCall 3 sp_law_called [] (uCons (uVar 1) (uCons (uVar 2) (uCons (uVar 3) uNil)))))))
  (uSeq (uIf (uB (uBin (bIsN false) (uVar 4) (uVal .non))) (uRet (uApp bLst uNil)) uNext)
  (uSeq (uSet 6 (uApp bLst (uCons (uApp bIse (uCons (uVar 4) (uCons (uVal (.ecl "InvalidLayout")) uNil))) (uCons (uApp bIse (uCons (uVar 4) (uCons (uVal (.ecl "InvalidSlot")) uNil))) (uCons (uApp bIse (uCons (uVar 4) (uCons (uVal (.ecl "InvalidSpot")) uNil))) uNil)))))
  (uSeq (uSet 6 (uBin bAdd (uVar 6) (uApp bLst (uCons (uApp bIse (uCons (uVar 4) (uCons (uVal (.ecl "InvalidLine")) uNil))) (uCons (uApp bIse (uCons (uVar 4) (uCons (uVal (.ecl "InvalidRoom")) uNil))) uNil)))))
  (uRet (uLc (uIter bRange1 (uCons (uVal (.int 5)) uNil)) (gN 7) (uB (uBin bIx (uVar 6) (uVar 7))) (uBin bIx (uApp bLst (uCons (uVal (.str "bad ring")) (uCons (uVal (.str "bad slot")) (uCons (uVal (.str "bad spot")) (uCons (uVal (.str "bad line")) (uCons (uVal (.str "bad room")) uNil)))))) (uVar 7)) [7])))))))


def sp_law_room_holds : FS := fun us h Po _ => ∃ (i k : Nat) (L S G g : Int) (u : Bool), us = [.ref i, roomU L S G u g] ∧ OkS L S G g ∧ PotAt h i k ∧ k < 2 ^ 56 ∧ ∀ (h' : Hv), PotAt h' i (k + 20) → Rest i h h' → Po (.val (.bl true)) h'
/-- slots: 0 pot, 1 space, 2 told, 3 thing, 4 due, 5 ahead -/
def p_law_room_holds : US :=
  (uSeq (uSet 2 (uApp bRepr (uCons (uCall 1 sp_places [] (uCons (uVar 1) uNil)) uNil)))
  (uSeq (uSet 3 (uVar 1))
  (uSeq (uSet 4 (uApp bLst uNil))
  (uSeq (uIf (uB (uBin bEq (uCall 2 sp_law_pick [] (uCons (uVar 0) (uCons (uVal (.int 2)) uNil))) (uVal (.int 0)))) (uSeq (uSet 3 (uCall 2 sp_law_bad_room [] (uCons (uVar 0) (uCons (uVar 1) uNil))))
  (uSet 4 (uApp bLst (uCons (uVal (.str "bad room")) uNil)))) uNext)
  (uSeq (uSet 5 (uApp bRepr (uCons (uVar 3) uNil)))
  (uSeq (uIf (uOr (uB (uBin bNe (uCall 4 sp_law_refused [] (uCons (uBin bEq (uCall 2 sp_law_pick [] (uCons (uVar 0) (uCons (uVal (.int 2)) uNil))) (uVal (.int 0))) (uCons (uVal (.int 5)) (uCons (uVar 3) (uCons (uVal .non) uNil))))) (uVar 4))) (uB (uBin bNe (uApp bRepr (uCons (uVar 3) uNil)) (uVar 5)))) (uRet (uVal (.bl false))) uNext)
  (uRet (uBin bEq (uApp bRepr (uCons (uCall 1 sp_places [] (uCons (uVar 1) uNil)) uNil)) (uVar 2)))))))))


def sp_law_laid : FS := fun us h Po _ => match us with
  | [.tup [.int L, .int S, .int G, .bl _, .int O, .int N]] => OkR L S G O N ∧ Po (.val (.lst ((laidL L S G O N N 0).map U.int))) h
  | _ => False
def b1_law_laid : US :=
  (uSetIx 7 (uBin bAdd (uBin bAdd (uVar 5) (uBin bMul (uVar 8) (uBin bAdd (uVar 2) (uVar 3)))) (uVar 9)) (uVar 8))
def b2_law_laid : US :=
  (uFor (uIter bRange1 (uCons (uVar 2) uNil)) (gN 9) b1_law_laid)
/-- slots: 0 ring, 1 line, 2 size, 3 gap, 4 used, 5 offset, 6 slots, 7 found, 8 k, 9 j -/
def p_law_laid : US :=
  (uSeq (uAsg (gT [1, 2, 3, 4, 5, 6]) (uVar 0))
  (uSeq (uSetO 7 (uBin bMul (uApp bLst (uCons (uNeg (uVal (.int 1))) uNil)) (uBin bAdd (uBin bAdd (uVar 5) (uBin bMul (uVar 6) (uBin bAdd (uVar 2) (uVar 3)))) (uBin bMul (uVal (.int 2)) (uVar 1)))))
  (uSeq (uFor (uIter bRange1 (uCons (uVar 6) uNil)) (gN 8) b2_law_laid)
  (uRet (uVar 7)))))


def sp_law_bad_ring : FS := fun us h Po _ => ∃ (i k : Nat) (L S G O N : Int) (u : Bool), us = [.ref i, ringU L S G u O N] ∧ OkR L S G O N ∧ PotAt h i k ∧ k < 2 ^ 57 ∧ ∀ (h' : Hv) (sv : Sv), PotAt h' i (k + 10) → Rest i h h' → Vok sv.u → isLay sv.u = false → Po sv h'
/-- slots: 0 pot, 1 ring, 2 at, 3 way, 4 size -/
def p_law_bad_ring : US :=
  (uSeq (uSet 2 (uCall 2 sp_law_pick [] (uCons (uVar 0) (uCons (uVal (.int 6)) uNil))))
  (uSeq (uSet 3 (uCall 2 sp_law_pick [] (uCons (uVar 0) (uCons (uVal (.int 12)) uNil))))
  (uSeq (uIf (uB (uBin bLt (uVar 3) (uVal (.int 3)))) (uRet (uBin bAdd (uBin bAdd (uSl bSl (uVar 1) uNoP (uP (uVar 2))) (uApp bTup (uCons (uCall 2 sp_law_among [] (uCons (uVar 0) (uCons (uApp bLst (uCons (uVal .non) (uCons (uNeg (uVal (.int 1))) (uCons (uVal (.str "1")) (uCons (uApp bLst (uCons (uVal (.int 1)) uNil)) (uCons (uApp bTup (uCons (uVal (.int 1)) uNil)) (uCons (uNeg (uBin bPow (uVal (.int 10)) (uVal (.int 20)))) uNil))))))) uNil))) uNil))) (uSl bSl (uVar 1) (uP (uBin bAdd (uVar 2) (uVal (.int 1)))) uNoP))) uNext)
  (uSeq (uIf (uB (uBin bEq (uVar 3) (uVal (.int 3)))) (uSeq (uSet 2 (uCall 2 sp_law_among [] (uCons (uVar 0) (uCons (uApp bLst (uCons (uVal (.int 0)) (uCons (uVal (.int 1)) (uCons (uVal (.int 5)) uNil)))) uNil))))
  (uRet (uBin bAdd (uBin bAdd (uSl bSl (uVar 1) uNoP (uP (uVar 2))) (uApp bTup (uCons (uCall 2 sp_law_among [] (uCons (uVar 0) (uCons (uApp bLst (uCons (uVal (.bl true)) (uCons (uVal (.int 0)) uNil))) uNil))) uNil))) (uSl bSl (uVar 1) (uP (uBin bAdd (uVar 2) (uVal (.int 1)))) uNoP)))) uNext)
  (uSeq (uIf (uB (uBin bEq (uVar 3) (uVal (.int 4)))) (uRet (uBin bAdd (uSl bSl (uVar 1) uNoP (uP (uVal (.int 4)))) (uApp bTup (uCons (uBin bAdd (uBin bIx (uVar 1) (uVal (.int 0))) (uCall 2 sp_law_among [] (uCons (uVar 0) (uCons (uApp bLst (uCons (uVal (.int 0)) (uCons (uVal (.int 1)) (uCons (uVal (.int 7)) uNil)))) uNil)))) (uCons (uBin bIx (uVar 1) (uVal (.int 5))) uNil))))) uNext)
  (uSeq (uIf (uB (uBin bEq (uVar 3) (uVal (.int 5)))) (uRet (uBin bAdd (uSl bSl (uVar 1) uNoP (uP (uVar 2))) (uSl bSl (uVar 1) (uP (uBin bAdd (uVar 2) (uVal (.int 1)))) uNoP))) uNext)
  (uSeq (uIf (uB (uBin bLt (uVar 3) (uVal (.int 8)))) (uSeq (uSet 4 (uBin bAdd (uVal (.int 1)) (uCall 2 sp_law_pick [] (uCons (uVar 0) (uCons (uBin bIx (uVar 1) (uVal (.int 0))) uNil)))))
  (uRet (uBin bAdd (uApp bTup (uCons (uBin bIx (uVar 1) (uVal (.int 0))) (uCons (uVar 4) (uCons (uBin bSub (uBin bSub (uBin bIx (uVar 1) (uVal (.int 0))) (uVar 4)) (uVal (.int 1))) uNil)))) (uSl bSl (uVar 1) (uP (uVal (.int 3))) uNoP)))) uNext)
  (uSeq (uIf (uB (uBin bEq (uVar 3) (uVal (.int 8)))) (uRet (uBin bAdd (uBin bAdd (uSl bSl (uVar 1) uNoP (uP (uVal (.int 3)))) (uApp bTup (uCons (uApp bInt (uCons (uBin bIx (uVar 1) (uVal (.int 3))) uNil)) uNil))) (uSl bSl (uVar 1) (uP (uVal (.int 4))) uNoP))) uNext)
  (uSeq (uIf (uB (uBin bEq (uVar 3) (uVal (.int 9)))) (uSeq (uSet 2 (uCall 2 sp_law_among [] (uCons (uVar 0) (uCons (uApp bLst (uCons (uVal (.int 2)) (uCons (uVal (.int 4)) uNil))) uNil))))
  (uRet (uBin bAdd (uBin bAdd (uSl bSl (uVar 1) uNoP (uP (uVar 2))) (uApp bTup (uCons (uBin bEq (uCall 2 sp_law_pick [] (uCons (uVar 0) (uCons (uVal (.int 2)) uNil))) (uVal (.int 0))) uNil))) (uSl bSl (uVar 1) (uP (uBin bAdd (uVar 2) (uVal (.int 1)))) uNoP)))) uNext)
  (uRet (uCall 2 sp_law_among [] (uCons (uVar 0) (uCons (uApp bLst (uCons (uApp bList (uCons (uVar 1) uNil)) (uCons (uBin bAdd (uSl bSl (uVar 1) uNoP (uP (uVal (.int 4)))) (uApp bTup (uCons (uVal (.int 1)) uNil))) (uCons (uVal .non) (uCons (uVal (.int 0)) (uCons (uVal (.str "line")) (uCons (uApp bTup (uCons (uVar 1) uNil)) (uCons (uBin bAdd (uVar 1) (uApp bTup (uCons (uVal (.int 1)) uNil))) (uCons (uRev (uVar 1)) uNil))))))))) uNil)))))))))))))


def sp_law_second : FS := fun us h Po _ => ∃ (i k : Nat) (l : List Int), us = [.ref i, .lst (l.map U.int)] ∧ l ≠ [] ∧ l.length ≤ 3000 ∧ (∀ n ∈ l, 0 ≤ n ∧ n ≤ 10000) ∧ PotAt h i k ∧ k < 2 ^ 57 ∧ ∀ (h' : Hv) (v : U), PotAt h' i (k + 10) → Rest i h h' → Tok v → ShB v 500 1 → Po (.val v) h'
def b1_law_second : US :=
  (uSeq (uSet 5 (uCall 2 sp_law_pick [] (uCons (uVar 0) (uCons (uBin bAdd (uVar 2) (uVal (.int 1))) uNil))))
  (uIf (uB (uBin (bIn true) (uVar 5) (uVar 1))) (uSet 3 (uBin bAdd (uVar 3) (uBin bMul (uApp bLst (uCons (uVar 5) uNil)) (uVal (.int 3))))) uNext))
/-- slots: 0 pot, 1 right, 2 most, 3 some, 4 k, 5 near -/
def p_law_second : US :=
  (uSeq (uSet 2 (uBin bIx (uVar 1) (uNeg (uVal (.int 1)))))
  (uSeq (uSet 3 (uApp bLst (uCons (uNeg (uVal (.int 1))) (uCons (uBin bAdd (uVar 2) (uVal (.int 1))) (uCons (uBin bAdd (uVar 2) (uVal (.int 2))) (uCons (uBin bSub (uNeg (uVal (.int 1))) (uVar 2)) (uCons (uVal (.bl true)) (uCons (uVal (.bl false)) (uCons (uVal .non) (uCons (uVal (.str "0")) (uCons (uVal (.str "")) (uCons (uApp bLst (uCons (uVal (.int 0)) uNil)) (uCons (uApp bTup (uCons (uVal (.int 0)) uNil)) (uCons (uApp bTup uNil) (uCons (uApp bLst uNil) (uCons (uBin bPow (uVal (.int 10)) (uVal (.int 30))) (uCons (uNeg (uBin bPow (uVal (.int 10)) (uVal (.int 30)))) uNil)))))))))))))))))
  (uSeq (uFor (uIter bRange1 (uCons (uVal (.int 4)) uNil)) (gN 4) b1_law_second)
  (uSeq (uIf (uB (uBin bEq (uCall 2 sp_law_pick [] (uCons (uVar 0) (uCons (uVal (.int 3)) uNil))) (uVal (.int 0)))) (uRet (uCall 2 sp_law_among [] (uCons (uVar 0) (uCons (uVar 1) uNil)))) uNext)
  (uRet (uCall 2 sp_law_among [] (uCons (uVar 0) (uCons (uVar 3) uNil))))))))


def sp_law_lines : FS := fun us h Po _ => match us with
  | [.tup [.int L, .int S, .int G, .bl _, .int O, .int N], .lst l] => OkR L S G O N ∧ l = (laidL L S G O N N 0).map U.int ∧ Po (.val (.lst ((rowsL L S G O N).map fun r => .tup [.int r, .lst ((partL L S G O N r).map U.int)]))) h
  | _ => False
def b1_law_lines : US :=
  (uSeq (uSet 4 (uSl bSl (uVar 1) (uP (uBin bMul (uVar 3) (uBin bIx (uVar 0) (uVal (.int 0))))) (uP (uBin bAdd (uBin bMul (uVar 3) (uBin bIx (uVar 0) (uVal (.int 0)))) (uBin bIx (uVar 0) (uVal (.int 0)))))))
  (uIf (uB (uBin bNe (uLc (uItems (uVar 4)) (gN 5) (uB (uBin bGe (uVar 5) (uVal (.int 0)))) (uVar 5) [5]) (uApp bLst uNil))) (uDrop (uMt 2 fAppend (uCons (uApp bTup (uCons (uVar 3) (uCons (uVar 4) uNil))) uNil))) uNext))
/-- slots: 0 ring, 1 laid, 2 found, 3 row, 4 part, 5 k -/
def p_law_lines : US :=
  (uSeq (uSetO 2 (uApp bLst uNil))
  (uSeq (uFor (uIter bRange1 (uCons (uBin bFdiv (uApp bLen (uCons (uVar 1) uNil)) (uBin bIx (uVar 0) (uVal (.int 0)))) uNil)) (gN 3) b1_law_lines)
  (uRet (uVar 2))))


def sp_law_numbers : FS := fun us h Po _ => match us with
  | [.tup [.int L, .int S, .int G, .bl _, .int O, .int N], .lst l] => OkR L S G O N ∧ l = (laidL L S G O N N 0).map U.int ∧ Po (.own [.lst ((rgtF L S G O N 0).map U.int), .lst ((rgtF L S G O N 1).map U.int), .lst ((rgtF L S G O N 2).map U.int), .lst ((rgtF L S G O N 3).map U.int)]) h
  | _ => False
def b1_law_numbers : US :=
  (uDrop (uMt 4 fExtend (uCons (uLc (uIter bRange2 (uCons (uBin bMul (uVar 2) (uBin bIx (uVar 0) (uVal (.int 0)))) (uCons (uBin bAdd (uBin bMul (uVar 2) (uBin bIx (uVar 0) (uVal (.int 0)))) (uBin bIx (uVar 0) (uVal (.int 0)))) uNil))) (gN 7) uYes (uVar 7) [7]) uNil)))
/-- slots: 0 ring, 1 laid, 2 row, 3 lines, 4 spots, 5 part, 6 k, 7 at -/
def p_law_numbers : US :=
  (uSeq (uSet 3 (uLc (uItems (uCall 2 sp_law_lines [] (uCons (uVar 0) (uCons (uVar 1) uNil)))) (gT [2, 5]) uYes (uVar 2) [2, 5]))
  (uSeq (uSetO 4 (uApp bLst uNil))
  (uSeq (uFor (uItems (uVar 3)) (gN 2) b1_law_numbers)
  (uRet (uApp bLst (uCons (uLc (uIter bRange1 (uCons (uBin bIx (uVar 0) (uVal (.int 5))) uNil)) (gN 6) uYes (uVar 6) [6]) (uCons (uVar 4) (uCons (uVar 3) (uCons (uVar 3) uNil)))))))))


def sp_law_holds : FS := fun us h Po _ => ∃ (i k : Nat) (L S G O N : Int) (u : Bool), us = [.ref i, ringU L S G u O N] ∧ OkR L S G O N ∧ PotAt h i k ∧ k < 2 ^ 55 ∧ ∀ (h' : Hv), PotAt h' i (k + 200) → Rest i h h' → Po (.val (.bl true)) h'
def b1_law_holds : US :=
  (uSeq (uSet 6 (uMt 5 fPop (uCons (uCall 2 sp_law_pick [] (uCons (uVar 0) (uCons (uLenO 5) uNil))) uNil)))
  (uSeq (uSet 7 (uCall 2 sp_law_among [] (uCons (uVar 0) (uCons (uBin bIx (uVar 2) (uVar 6)) uNil))))
  (uSeq (uSet 8 (uApp bRepr (uCons (uCall 3 sp_law_called [] (uCons (uVar 6) (uCons (uVar 3) (uCons (uVar 7) uNil)))) uNil)))
  (uSeq (uSet 9 (uCall 2 sp_law_second [] (uCons (uVar 0) (uCons (uBin bIx (uVar 2) (uVar 6)) uNil))))
  (uSeq (uSet 10 (uApp bRepr (uCons (uApp bLst (uCons (uVar 1) (uCons (uVar 9) uNil))) uNil)))
  (uSeq (uSet 11 (uApp bLst uNil))
  (uSeq (uIf (uOr (uB (uApp bIsi (uCons (uVar 9) (uCons (uVal (.ty "bool")) uNil)))) (uOr (uNot (uB (uApp bIsi (uCons (uVar 9) (uCons (uVal (.ty "int")) uNil))))) (uB (uBin (bIn true) (uVar 9) (uBin bIx (uVar 2) (uVar 6)))))) (uSet 11 (uApp bLst (uCons (uBin bIx (uApp bLst (uCons (uVal (.str "bad slot")) (uCons (uVal (.str "bad spot")) (uCons (uVal (.str "bad line")) (uCons (uVal (.str "bad line")) uNil))))) (uVar 6)) uNil))) uNext)
  (uSeq (uIf (uB (uVar 4)) (uSet 11 (uApp bLst (uCons (uVal (.str "bad ring")) uNil))) uNext)
  (uSeq (uIf (uOr (uB (uBin bNe (uCall 4 sp_law_refused [] (uCons (uBin bEq (uCall 2 sp_law_pick [] (uCons (uVar 0) (uCons (uVal (.int 2)) uNil))) (uVal (.int 0))) (uCons (uVar 6) (uCons (uVar 1) (uCons (uVar 9) uNil))))) (uVar 11))) (uB (uBin bNe (uApp bRepr (uCons (uApp bLst (uCons (uVar 1) (uCons (uVar 9) uNil))) uNil)) (uVar 10)))) (uRet (uVal (.bl false))) uNext)
  (uIf (uB (uBin bNe (uApp bRepr (uCons (uCall 3 sp_law_called [] (uCons (uVar 6) (uCons (uVar 3) (uCons (uVar 7) uNil)))) uNil)) (uVar 8))) (uRet (uVal (.bl false))) uNext))))))))))
/-- slots: 0 pot, 1 ring, 2 right, 3 good, 4 wrong, 5 doors, 6 door, 7 fine, 8 told, 9 thing, 10 ahead, 11 due -/
def p_law_holds : US :=
  (uSeq (uSet 2 (uCall 2 sp_law_numbers [] (uCons (uVar 1) (uCons (uCall 1 sp_law_laid [] (uCons (uVar 1) uNil)) uNil))))
  (uSeq (uSet 3 (uVar 1))
  (uSeq (uSet 4 (uBin bEq (uCall 2 sp_law_pick [] (uCons (uVar 0) (uCons (uVal (.int 3)) uNil))) (uVal (.int 0))))
  (uSeq (uIf (uB (uVar 4)) (uSet 1 (uCall 2 sp_law_bad_ring [] (uCons (uVar 0) (uCons (uVar 1) uNil)))) uNext)
  (uSeq (uSetO 5 (uApp bLst (uCons (uVal (.int 0)) (uCons (uVal (.int 1)) (uCons (uVal (.int 2)) (uCons (uVal (.int 3)) uNil))))))
  (uSeq (uWhile (uB (uEqO 5 true (uApp bLst uNil))) b1_law_holds)
  (uRet (uBin bEq (uCall 4 sp_law_refused [] (uCons (uBin bEq (uCall 2 sp_law_pick [] (uCons (uVar 0) (uCons (uVal (.int 2)) uNil))) (uVal (.int 0))) (uCons (uVal (.int 4)) (uCons (uVar 1) (uCons (uVal .non) uNil))))) (uBin bIx (uApp bLst (uCons (uApp bLst (uCons (uVal (.str "bad ring")) uNil)) (uCons (uApp bLst uNil) uNil))) (uApp bInt (uCons (uV (uNot (uB (uVar 4)))) uNil)))))))))))


def sp_law : FS := fun us h Po _ => match us with
  | [.scr _] => ∀ h', Po (.val (.bl true)) h'
  | _ => False
def b1_law : US :=
  (uSeq (uSetR 2 (uCall 1 sp_law_pot [] (uCons (uVar 1) uNil)))
  (uSeq (uSet 3 (uCall 1 sp_law_ring [] (uCons (uVar 2) uNil)))
  (uIf (uOr (uNot (uB (uCall 2 sp_law_holds [] (uCons (uVar 2) (uCons (uVar 3) uNil))))) (uNot (uB (uCall 2 sp_law_room_holds [] (uCons (uVar 2) (uCons (uBin bAdd (uSl bSl (uVar 3) uNoP (uP (uVal (.int 4)))) (uApp bTup (uCons (uBin bIx (uVar 3) (uVal (.int 0))) uNil))) uNil)))))) (uRet (uVal (.bl false))) uNext)))
/-- slots: 0 script, 1 cell, 2 pot, 3 ring -/
def p_law : US :=
  (uSeq (uFor (uItems (uBin bAdd (uApp bLst (uCons (uVal (.int 22360679774997896964091736687312)) uNil)) (uSl bSl (uVar 0) uNoP (uP (uVal (.int 8)))))) (gN 1) b1_law)
  (uRet (uVal (.bl true))))

end Vi.Law

namespace Vi.Law
open PySem PySem.Spec PyProof.Rows L2 Vi
variable [WW]

theorem conf_law_pot : ∀ us h Po Pe, us.length = 1 → sp_law_pot us h Po Pe → p_law_pot (startE N_law_pot us) h (bodyD Po Pe) := by
  intro us h Po Pe hl hs
  unfold sp_law_pot at hs
  split at hs
  · rename_i c
    have hb : ∀ a : Int, Po (.own [.int a, .int (c % 1000000000000000177), .int 0]) h := fun a => hs a _ (by omega) (by omega)
    have hc : CPow 10 18 := ⟨by decide, by decide, by decide⟩
    by_cases h0 : (1000000000000000000 : Int) ≤ c <;> simp [p_law_pot, startE, N_law_pot, hc, h0, sizeLine_eq] <;> exact hb _
  · exact hs.elim

theorem conf_law_pick : ∀ us h Po Pe, us.length = 2 → sp_law_pick us h Po Pe → p_law_pick (startE N_law_pick us) h (bodyD Po Pe) := by
  intro us h Po Pe hl hs
  unfold sp_law_pick at hs
  split at hs
  · rename_i i m
    obtain ⟨k, ⟨a, b, n, e, hb0, hb1, hn0, hn1⟩, hk, hm, hml, hp⟩ := hs
    have eo := obL_of e
    have hi := lt_of_at e
    have hd : CDivW a m := ⟨hm, hml⟩
    by_cases h0 : 0 < a
    · simp [p_law_pick, startE, N_law_pick, h0, eo, L2.atI, L2.ixN, hd, hm]
      exact hp _ _ ⟨_, b, n, List.getElem?_set_self hi, hb0, hb1, hn0, by omega⟩ .set (Int.emod_nonneg _ (by omega)) (Int.emod_lt_of_pos _ hm)
    · have d1 : CDivW ((((b + 29) * ((n + 1) * (n + 1) + 431) + 7907 * (n + 1)) * ((b + 29) * ((n + 1) * (n + 1) + 431) + 7907 * (n + 1)) + 611953 * ((b + 29) * ((n + 1) * (n + 1) + 431) + 7907 * (n + 1))) % 2305843009213693951) 1024 := ⟨by decide, by decide +kernel⟩
      have d2 : CDivW ((((b + 29) * ((n + 1) * (n + 1) + 431) + 7907 * (n + 1)) * ((b + 29) * ((n + 1) * (n + 1) + 431) + 7907 * (n + 1)) + 611953 * ((b + 29) * ((n + 1) * (n + 1) + 431) + 7907 * (n + 1))) % 2305843009213693951) 1048576 := ⟨by decide, by decide +kernel⟩
      have b1 : LB (b + 29) 61 := by show Int.natAbs _ < 2 ^ 61; omega
      have b2 : LB (n + 1) 60 := by show Int.natAbs _ < 2 ^ 60; omega
      have b3 : LB ((n + 1) * (n + 1) + 431) 121 := (b2.mul b2).add (LB.mono (k := 10) (by show Int.natAbs _ < _; decide) (by decide))
      have b4 : LB (7907 * (n + 1)) 182 := (LB.mul (k := 13) (by show Int.natAbs _ < _; decide) b2).mono (by decide)
      have b5 := (b1.mul b3).add b4
      have c1 : CMul (n + 1) (n + 1) ∨ CMulW (n + 1) (n + 1) := cmul_l (by omega)
      have c2 := cmul_w b1 b3 (by decide)
      have c3 : CMul 7907 (n + 1) ∨ CMulW 7907 (n + 1) := cmul_l (by decide)
      have c4 := cmul_w b5 b5 (by decide)
      generalize hg : (b + 29) * ((n + 1) * (n + 1) + 431) + 7907 * (n + 1) = s at *
      have c5 : CMul 611953 s ∨ CMulW 611953 s := cmul_l (by decide)
      have c6 : CMul 33 (n + 1) ∨ CMulW 33 (n + 1) := cmul_l (by decide)
      generalize hr : (s * s + 611953 * s) % 2305843009213693951 = r at *
      have r0 : 0 ≤ r ∧ r < 2305843009213693951 := by rw [← hr]; omega
      have c7 : CMul (r / 1024 + 5) (r / 1048576 + 33 * (n + 1) + 1) ∨ CMulW (r / 1024 + 5) (r / 1048576 + 33 * (n + 1) + 1) := cmul_l (by omega)
      generalize hq : (r / 1024 + 5) * (r / 1048576 + 33 * (n + 1) + 1) = q at *
      have d3 : CDivW (q % 2147483629) 32 := ⟨by decide, by decide +kernel⟩
      simp [p_law_pick, startE, N_law_pick, h0, eo, L2.atI, L2.ixN, obL_set hi, c1, c2, c3, hg, c4, c5, hr, d1, d2, c6, c7, hq, d3, hm]
      exact hp _ _ ⟨a, b, n + 1, List.getElem?_set_self hi, hb0, hb1, by omega, by omega⟩ .set (Int.emod_nonneg _ (by omega)) (Int.emod_lt_of_pos _ hm)
  · exact hs.elim

theorem conf_law_among : ∀ us h Po Pe, us.length = 2 → sp_law_among us h Po Pe → p_law_among (startE N_law_among us) h (bodyD Po Pe) := by
  intro us h Po Pe hl hs
  unfold sp_law_among at hs
  split at hs
  · rename_i i xs
    obtain ⟨k, hp, hk, h1, h2, q⟩ := hs
    simp [p_law_among, startE, N_law_among]
    refine ⟨k, hp, hk, by omega, ?_, fun h' d p r d0 d1 => ?_⟩
    · have : LB (xs.length : Int) 60 := by show Int.natAbs _ < _; omega
      have := this.log
      omega
    · obtain ⟨j, rfl⟩ : ∃ j : Nat, d = (j : Int) := ⟨d.toNat, by omega⟩
      have hj : j < xs.length := by omega
      simp [L2.atI, L2.ixN, hj]
      exact q h' j _ p r (List.getElem?_eq_getElem hj)
  · exact hs.elim


def t_law_ring_8 : US := (uRet (uApp bTup (uCons (uVar 1) (uCons (uVar 2) (uCons (uVar 4) (uCons (uBin bEq (uCall 2 sp_law_pick [] (uCons (uVar 0) (uCons (uVal (.int 2)) uNil))) (uVal (.int 0))) (uCons (uVar 5) (uCons (uVar 6) uNil))))))))
def r_law_ring_8 : US := t_law_ring_8
def t_law_ring_7 : US := (uSet 6 (uCall 2 sp_law_among [] (uCons (uVar 0) (uCons (uApp bLst (uCons (uVal (.int 1)) (uCons (uVal (.int 2)) (uCons (uVal (.int 3)) (uCons (uBin bAdd (uVal (.int 1)) (uCall 2 sp_law_pick [] (uCons (uVar 0) (uCons (uVal (.int 12)) uNil)))) (uCons (uBin bSub (uVal (.int 12)) (uCall 2 sp_law_pick [] (uCons (uVar 0) (uCons (uVal (.int 3)) uNil)))) uNil)))))) uNil))))
def r_law_ring_7 : US := uSeq t_law_ring_7 r_law_ring_8
def t_law_ring_6 : US := (uSet 5 (uCall 2 sp_law_among [] (uCons (uVar 0) (uCons (uApp bLst (uCons (uVal (.int 0)) (uCons (uBin bSub (uVar 1) (uVal (.int 1))) (uCons (uCall 2 sp_law_pick [] (uCons (uVar 0) (uCons (uVar 1) uNil))) (uCons (uCall 2 sp_law_pick [] (uCons (uVar 0) (uCons (uVar 1) uNil))) uNil))))) uNil))))
def r_law_ring_6 : US := uSeq t_law_ring_6 r_law_ring_7
def t_law_ring_5 : US := (uIf (uB (uBin bEq (uCall 2 sp_law_pick [] (uCons (uVar 0) (uCons (uVal (.int 3)) uNil))) (uVal (.int 0)))) (uSet 4 (uBin bAdd (uVar 3) (uCall 2 sp_law_pick [] (uCons (uVar 0) (uCons (uBin bSub (uBin bSub (uVal (.int 21)) (uVar 2)) (uVar 3)) uNil))))) uNext)
def r_law_ring_5 : US := uSeq t_law_ring_5 r_law_ring_6
def t_law_ring_4 : US := (uSet 4 (uBin bAdd (uVar 3) (uBin bMod (uApp bInt (uCons (uCall 2 sp_law_among [] (uCons (uVar 0) (uCons (uApp bLst (uCons (uVal (.int 0)) (uCons (uVal (.int 0)) (uCons (uVal (.int 1)) (uCons (uVal (.int 2)) (uCons (uVal (.int 20)) uNil)))))) uNil))) uNil)) (uBin bSub (uBin bSub (uVal (.int 21)) (uVar 2)) (uVar 3)))))
def r_law_ring_4 : US := uSeq t_law_ring_4 r_law_ring_5
def t_law_ring_3 : US := (uIf (uB (uBin bLt (uVar 3) (uVal (.int 0)))) (uSet 3 (uVal (.int 0))) uNext)
def r_law_ring_3 : US := uSeq t_law_ring_3 r_law_ring_4
def t_law_ring_2 : US := (uSet 3 (uBin bSub (uVar 1) (uVar 2)))
def r_law_ring_2 : US := uSeq t_law_ring_2 r_law_ring_3
def t_law_ring_1 : US := (uSet 2 (uBin bAdd (uVal (.int 1)) (uCall 2 sp_law_among [] (uCons (uVar 0) (uCons (uApp bLst (uCons (uCall 2 sp_law_pick [] (uCons (uVar 0) (uCons (uVal (.int 20)) uNil))) (uCons (uCall 2 sp_law_pick [] (uCons (uVar 0) (uCons (uVar 1) uNil))) (uCons (uCall 2 sp_law_pick [] (uCons (uVar 0) (uCons (uVal (.int 3)) uNil))) uNil)))) uNil)))))
def r_law_ring_1 : US := uSeq t_law_ring_1 r_law_ring_2
def t_law_ring_0 : US := (uSet 1 (uBin bAdd (uVal (.int 1)) (uCall 2 sp_law_pick [] (uCons (uVar 0) (uCons (uVal (.int 8)) uNil)))))
def r_law_ring_0 : US := uSeq t_law_ring_0 r_law_ring_1
theorem cut_law_ring : p_law_ring = r_law_ring_0 := rfl
theorem slog {m : Int} (h0 : 0 ≤ m) (h1 : m ≤ 1000) : m.natAbs.log2 < 9000 := Nat.lt_of_le_of_lt (LB.log (k := 10) (by show Int.natAbs _ < 1024; omega)) (by decide)
theorem conf_law_ring : ∀ us h Po Pe, us.length = 1 → sp_law_ring us h Po Pe → p_law_ring (startE N_law_ring us) h (bodyD Po Pe) := by
  intro us h Po Pe hl hs
  unfold sp_law_ring at hs
  split at hs
  · rename_i i
    obtain ⟨k, hp, hk, q⟩ := hs
    rw [cut_law_ring]
    simp [r_law_ring_0, t_law_ring_0, startE, N_law_ring, sp_law_pick]
    refine ⟨k, hp, by omega, by decide, fun h1 a p1 r1 a0 a1 => ?_⟩
    simp [r_law_ring_1, t_law_ring_1, sp_law_pick, sp_law_among, sizeLine_eq]
    refine ⟨_, p1, by omega, by decide, fun h2 b1 p2 r2 b10 b11 => ?_⟩
    refine ⟨_, p2, by omega, by omega, slog (by omega) (by omega), fun h3 b2 p3 r3 b20 b21 => ?_⟩
    refine ⟨_, p3, by omega, by decide, fun h4 b3 p4 r4 b30 b31 => ?_⟩
    refine ⟨_, p4, by omega, fun h5 j x p5 r5 hx => ?_⟩
    obtain ⟨b, rfl, b0, b1'⟩ : ∃ b : Int, x = .int b ∧ 0 ≤ b ∧ b ≤ 19 := by
      have := List.mem_of_getElem? hx
      simp at this
      rcases this with rfl | rfl | rfl <;> exact ⟨_, rfl, by omega, by omega⟩
    simp [r_law_ring_2, t_law_ring_2, r_law_ring_3, t_law_ring_3]
    have R5 := (((r1.trans r2).trans r3).trans r4).trans r5
    have least : ∀ c : Int, 0 ≤ c → 1 + a - (1 + b) ≤ c → (c = 0 ∨ c = 1 + a - (1 + b)) → ∀ h6, h6 = h5 → r_law_ring_4 [some (.val (.ref i)), some (.val (.int (1 + a))), some (.val (.int (1 + b))), some (.val (.int c)), none, none, none] h6 (bodyD Po Pe) := by
      intro c c0 c1 c2 h6 e6
      subst e6
      have c3 : 0 < 21 - (1 + b) - c := by omega
      simp [r_law_ring_4, t_law_ring_4, sp_law_among, sizeLine_eq]
      refine ⟨_, p5, by omega, fun h7 j2 x p7 r7 hx => ?_⟩
      obtain ⟨d, rfl, d0⟩ : ∃ d : Int, x = .int d ∧ 0 ≤ d := by
        have := List.mem_of_getElem? hx
        simp at this
        rcases this with rfl | rfl | rfl | rfl <;> exact ⟨_, rfl, by omega⟩
      simp
      refine ⟨by omega, ?_⟩
      have g0 := Int.emod_nonneg d (show 21 - (1 + b) - c ≠ 0 by omega)
      have g1 := Int.emod_lt_of_pos d c3
      generalize d % (21 - (1 + b) - c) = g at *
      -- the gap as it is in the end
      have gap : ∀ g : Int, 0 ≤ g → g < 21 - (1 + b) - c → ∀ h8, PotAt h8 i (k + 8) → Rest i h h8 → r_law_ring_6 [some (.val (.ref i)), some (.val (.int (1 + a))), some (.val (.int (1 + b))), some (.val (.int c)), some (.val (.int (c + g))), none, none] h8 (bodyD Po Pe) := by
        intro g g0 g1 h8 p8 r8
        simp [r_law_ring_6, t_law_ring_6, sp_law_among, sp_law_pick, sizeLine_eq]
        refine ⟨_, p8, by omega, by omega, slog (by omega) (by omega), fun h9 o1 p9 r9 o10 o11 => ?_⟩
        refine ⟨_, p9, by omega, by omega, slog (by omega) (by omega), fun ha o2 pa ra o20 o21 => ?_⟩
        refine ⟨_, pa, by omega, fun hb j3 x pb rb hx => ?_⟩
        obtain ⟨o, rfl, oo0, oo1⟩ : ∃ o : Int, x = .int o ∧ 0 ≤ o ∧ o < 1 + a := by
          have := List.mem_of_getElem? hx
          simp at this
          rcases this with rfl | rfl | rfl | rfl <;> exact ⟨_, rfl, by omega, by omega⟩
        simp [r_law_ring_7, t_law_ring_7, sp_law_among, sp_law_pick, sizeLine_eq]
        refine ⟨_, pb, by omega, by decide, fun hc n1 pc rc n10 n11 => ?_⟩
        refine ⟨_, pc, by omega, by decide, fun hd n2 pd rd n20 n21 => ?_⟩
        refine ⟨_, pd, by omega, fun he j4 x pe re hx => ?_⟩
        obtain ⟨n, rfl, nn0, nn1⟩ : ∃ n : Int, x = .int n ∧ 1 ≤ n ∧ n ≤ 12 := by
          have := List.mem_of_getElem? hx
          simp at this
          rcases this with rfl | rfl | rfl | rfl | rfl <;> exact ⟨_, rfl, by omega, by omega⟩
        simp [r_law_ring_8, t_law_ring_8, sp_law_pick, sizeLine_eq]
        refine ⟨_, pe, by omega, by decide, fun hf u pf rf u0 u1 => ?_⟩
        exact q hf _ (pf.mono (by omega)) (((((((r8.trans r9).trans ra).trans rb).trans rc).trans rd).trans re).trans rf) ⟨1 + a, 1 + b, c + g, o, n, _, ⟨by omega, by omega, by omega, by omega, by omega, by omega, oo0, oo1, nn0, nn1⟩, rfl⟩
      simp [r_law_ring_5, t_law_ring_5, sp_law_pick]
      refine ⟨_, p7, by omega, by decide, fun h8 z p8 r8 z0 z1 => ?_⟩
      by_cases hz : z = 0
      · simp [hz]
        refine ⟨_, p8, by omega, by omega, slog (by omega) (by omega), fun h9 g2 p9 r9 g20 g21 => ?_⟩
        exact gap g2 g20 g21 h9 (p9.mono (by omega)) (((R5.trans r7).trans r8).trans r9)
      · simp [hz]
        exact gap g g0 g1 h8 (p8.mono (by omega)) ((R5.trans r7).trans r8)
    by_cases hl : 1 + a - (1 + b) < 0
    · simp [hl]
      exact least 0 (by omega) (by omega) (.inl rfl) _ rfl
    · simp [hl]
      exact least _ (by omega) (by omega) (.inr rfl) _ rfl
  · exact hs.elim

theorem mulb {a b A B : Int} (h1 : 0 ≤ a) (h2 : a ≤ A) (h3 : 0 ≤ b) (h4 : b ≤ B) : 0 ≤ a * b ∧ a * b ≤ A * B := ⟨Int.mul_nonneg h1 h3, Int.mul_le_mul h2 h4 h3 (by omega)⟩
theorem compU_same {k : Nat} {Po : List U → En → Hv → Prop} {e : En} {h : Hv} {l : List U} (hk : k < e.length) (hz : l.length ≤ sizeLine) (hw : ∀ u, wipeE (e.set k (some (.val u))) [k] = e) (q : Po l e h) : compU (gN k) uYes (uVar k) [k] Po l [] e h := by
  refine compU_ix (fun j acc e1 h1 => acc = l.take j ∧ e1 = e ∧ h1 = h) (fun acc e1 h1 I => ?_) (fun j u hu acc e1 h1 F I hF => ?_) ⟨by simp, rfl, rfl⟩
  · obtain ⟨rfl, rfl, rfl⟩ := I
    simpa using q
  · obtain ⟨rfl, rfl, rfl⟩ := I
    have hj := (List.getElem?_eq_some_iff.mp hu).1
    simp only [gN, uYes, uVar, if_true]
    refine ⟨hk, ?_⟩
    rw [List.getElem?_set_self hk]
    refine ⟨by simp; omega, hF _ _ _ ⟨?_, hw u, rfl⟩⟩
    rw [List.take_add_one, hu]
    rfl
theorem duniq {T q r k j : Int} (h : T * q + r = T * k + j) (hT : 0 < T) (r0 : 0 ≤ r) (r1 : r < T) (j0 : 0 ≤ j) (j1 : j < T) : q = k ∧ r = j := by
  have e : T * (q - k) = j - r := by rw [Int.mul_sub]; omega
  have hq : q = k := by
    rcases Int.lt_trichotomy q k with z | z | z
    · have := Int.mul_le_mul_of_nonneg_left (show q - k ≤ -1 by omega) (Int.le_of_lt hT)
      omega
    · exact z
    · have := Int.mul_le_mul_of_nonneg_left (show 1 ≤ q - k by omega) (Int.le_of_lt hT)
      omega
  subst hq
  exact ⟨rfl, by omega⟩
theorem dm {S G x O : Int} (hT : 0 < S + G) : (S + G) * ((x - O) / (S + G)) + (x - O) % (S + G) = x - O ∧ 0 ≤ (x - O) % (S + G) ∧ (x - O) % (S + G) < S + G := ⟨Int.mul_ediv_add_emod _ _, Int.emod_nonneg _ (by omega), Int.emod_lt_of_pos _ hT⟩
theorem laidP_step {S G O k j x : Int} (hS : 1 ≤ S) (hG : 0 ≤ G) (hk : 0 ≤ k) (j0 : 0 ≤ j) (j1 : j < S) : laidP S G O k (j + 1) x = if x = O + k * (S + G) + j then k else laidP S G O k j x := by
  obtain ⟨e, r0, r1⟩ := dm (S := S) (G := G) (x := x) (O := O) (by omega)
  unfold laidP
  generalize (x - O) / (S + G) = q at *
  generalize (x - O) % (S + G) = r at *
  have hkT : 0 ≤ k * (S + G) := Int.mul_nonneg hk (by omega)
  by_cases hx : x = O + k * (S + G) + j
  · have hu : q = k ∧ r = j := duniq (T := S + G) (by rw [e, hx, Int.mul_comm]; omega) (by omega) r0 r1 j0 (by omega)
    obtain ⟨rfl, rfl⟩ := hu
    rw [if_pos hx, if_pos ⟨by omega, j1, .inr ⟨rfl, by omega⟩⟩]
  · have hn : ¬ (q = k ∧ r = j) := fun ⟨h1, h2⟩ => hx (by rw [h1, h2, Int.mul_comm] at e; omega)
    rw [if_neg hx]
    have : (O ≤ x ∧ r < S ∧ (q < k ∨ (q = k ∧ r < j + 1))) ↔ (O ≤ x ∧ r < S ∧ (q < k ∨ (q = k ∧ r < j))) := by omega
    by_cases hc : O ≤ x ∧ r < S ∧ (q < k ∨ (q = k ∧ r < j))
    · rw [if_pos hc, if_pos (this.mpr hc)]
    · rw [if_neg hc, if_neg (fun z => hc (this.mp z))]
theorem laidP_row {S G O k x : Int} (hS : 1 ≤ S) (hG : 0 ≤ G) : laidP S G O k S x = laidP S G O (k + 1) 0 x := by
  obtain ⟨e, r0, r1⟩ := dm (S := S) (G := G) (x := x) (O := O) (by omega)
  unfold laidP
  generalize (x - O) / (S + G) = q at *
  generalize (x - O) % (S + G) = r at *
  have : (O ≤ x ∧ r < S ∧ (q < k ∨ (q = k ∧ r < S))) ↔ (O ≤ x ∧ r < S ∧ (q < k + 1 ∨ (q = k + 1 ∧ r < 0))) := by omega
  by_cases hc : O ≤ x ∧ r < S ∧ (q < k ∨ (q = k ∧ r < S))
  · rw [if_pos hc, if_pos (this.mp hc)]
  · rw [if_neg hc, if_neg (fun z => hc (this.mpr z))]
theorem laidP_zero {S G O x : Int} (hS : 1 ≤ S) (hG : 0 ≤ G) : laidP S G O 0 0 x = -1 := by
  obtain ⟨e, r0, r1⟩ := dm (S := S) (G := G) (x := x) (O := O) (by omega)
  unfold laidP
  rw [if_neg]
  rintro ⟨h1, h2, h3⟩
  have : 0 ≤ (x - O) / (S + G) := Int.ediv_nonneg (by omega) (by omega)
  generalize (x - O) / (S + G) = q at *
  omega
theorem laidL_len {L S G O N k j : Int} : (laidL L S G O N k j).length = lenF L S G O N := by simp [laidL]
theorem len_bound {L S G O N : Int} (ok : OkR L S G O N) : lenF L S G O N ≤ 300 := by
  obtain ⟨l1, l8, s1, g0, t1, t20, o0, o1, n1, n12⟩ := ok
  have := mulb (a := N) (b := S + G) (A := 12) (B := 20) (by omega) n12 (by omega) t20
  unfold lenF
  omega
theorem laid_loop_j {e0 : Option Sv} {L S G O N k : Int} {u : Bool} (ok : OkR L S G O N) (k0 : 0 ≤ k) (k1 : k < N) {P : UD} {h : Hv} {e9 : Option Sv}
    (last : ∀ e9, P.nx [e0, some (.val (.int L)), some (.val (.int S)), some (.val (.int G)), some (.val (.bl u)), some (.val (.int O)), some (.val (.int N)), some (.own ((laidL L S G O N k S).map U.int)), some (.val (.int k)), e9] h) :
    forU (gN 9) b1_law_laid P (rangeU 0 S.toNat) [e0, some (.val (.int L)), some (.val (.int S)), some (.val (.int G)), some (.val (.bl u)), some (.val (.int O)), some (.val (.int N)), some (.own ((laidL L S G O N k 0).map U.int)), some (.val (.int k)), e9] h := by
  have hb := len_bound ok
  obtain ⟨l1, l8, s1, g0, t1, t20, o0, o1, n1, n12⟩ := ok
  refine forU_ix (fun j e h1 => h1 = h ∧ ∃ e9, e = [e0, some (.val (.int L)), some (.val (.int S)), some (.val (.int G)), some (.val (.bl u)), some (.val (.int O)), some (.val (.int N)), some (.own ((laidL L S G O N k j).map U.int)), some (.val (.int k)), e9]) (fun e h1 I => ?_) (fun j v hv e h1 F I hF => ?_) ⟨rfl, _, rfl⟩
  · obtain ⟨rfl, e9, rfl⟩ := I
    rw [rangeU_len, Int.toNat_of_nonneg (by omega)]
    exact last _
  · obtain ⟨rfl, e9, rfl⟩ := I
    obtain ⟨hj, rfl⟩ := rangeU_at hv
    have hj' : (j : Int) < S := by omega
    have c1 : CMul k (S + G) ∨ CMulW k (S + G) := cmul_l (by omega)
    have hkT : 0 ≤ k * (S + G) ∧ k * (S + G) ≤ (N - 1) * (S + G) := ⟨Int.mul_nonneg k0 (by omega), Int.mul_le_mul_of_nonneg_right (by omega) (by omega)⟩
    have hNT : (N - 1) * (S + G) = N * (S + G) - (S + G) := by rw [Int.sub_mul, Int.one_mul]
    obtain ⟨x, hx⟩ : ∃ x : Nat, O + k * (S + G) + j = (x : Int) := ⟨(O + k * (S + G) + j).toNat, by omega⟩
    have hxl : x < lenF L S G O N := by unfold lenF; omega
    have hset : ((laidL L S G O N k j).map U.int).set x (.int k) = (laidL L S G O N k ((j + 1 : Nat) : Int)).map U.int := by
      apply List.ext_getElem
      · simp [laidL]
      · intro i h1 h2
        have hi : i < lenF L S G O N := by simpa [laidL] using h2
        rw [List.getElem_set]
        simp only [laidL, List.getElem_map, List.getElem_range]
        rw [show ((j + 1 : Nat) : Int) = (j : Int) + 1 from rfl, laidP_step s1 g0 k0 (by omega) hj', hx]
        by_cases hxi : x = i
        · subst hxi; simp
        · have : ¬ (i : Int) = (x : Int) := fun z => hxi (by omega)
          simp [hxi, this]
    have hix : L2.ixN ((laidL L S G O N k j).map U.int).length (O + k * (S + G) + j) = some x := by
      rw [List.length_map, laidL_len, hx]
      simp [L2.ixN, hxl]
    simp only [Int.zero_add]
    simp [b1_law_laid, c1]
    rw [List.length_map] at hix
    rw [hix]
    simp only [hset]
    exact hF _ _ ⟨rfl, _, rfl⟩
theorem laid_zero {L S G O N : Int} (ok : OkR L S G O N) : List.replicate (O + N * (S + G) + 2 * L).toNat (U.int (-1)) = (laidL L S G O N 0 0).map U.int := by
  apply List.ext_getElem
  · simp [laidL, lenF]
  · intro i h1 h2
    simp [laidL, laidP_zero ok.s1 ok.g0]
theorem conf_is_whole : ∀ us h Po Pe, us.length = 2 → sp_is_whole us h Po Pe → p_is_whole (startE N_is_whole us) h (bodyD Po Pe) := by
  intro us h Po Pe hl hs
  match us, hl with
  | [u, w], _ =>
    unfold sp_is_whole at hs
    split at hs
    · rename_i u' l e
      cases e
      obtain ⟨ht, hp⟩ := hs
      cases u <;> simp [p_is_whole, startE, N_is_whole, isT, typed, isWhole] at ht hp ⊢ <;> exact hp
    · exact hs.elim

theorem conf_has_measures : ∀ us h Po Pe, us.length = 4 → sp_has_measures us h Po Pe → p_has_measures (startE N_has_measures us) h (bodyD Po Pe) := by
  intro us h Po Pe hl hs
  unfold sp_has_measures at hs
  split at hs
  · rename_i a b c d
    obtain ⟨h1, h2, h3, h4, hp⟩ := hs
    by_cases wa : isWhole a 1 = true
    · by_cases wb : isWhole b 1 = true
      · by_cases wc : isWhole c 0 = true
        · obtain ⟨i, rfl⟩ : ∃ i, a = .int i := by cases a <;> first | exact ⟨_, rfl⟩ | cases wa
          obtain ⟨j, rfl⟩ : ∃ i, b = .int i := by cases b <;> first | exact ⟨_, rfl⟩ | cases wb
          obtain ⟨k, rfl⟩ : ∃ i, c = .int i := by cases c <;> first | exact ⟨_, rfl⟩ | cases wc
          cases d with
          | bl x =>
            simp [p_has_measures, startE, N_has_measures, sp_is_whole, typed, wa, wb, wc, isT]
            simpa [hasM, wa, wb, wc, isBl, geU] using hp
          | _ => simp [p_has_measures, startE, N_has_measures, sp_is_whole, h1, h2, h3, wa, wb, wc, isT, typed] at h4 ⊢ <;> simpa [hasM, wa, wb, wc, isBl] using hp
        · simp [p_has_measures, startE, N_has_measures, sp_is_whole, h1, h2, h3, wa, wb, wc]
          simpa [hasM, wa, wb, wc] using hp
      · simp [p_has_measures, startE, N_has_measures, sp_is_whole, h1, h2, wa, wb]
        simpa [hasM, wa, wb] using hp
    · simp [p_has_measures, startE, N_has_measures, sp_is_whole, h1, wa]
      simpa [hasM, wa] using hp
  · exact hs.elim

theorem five_of {u : List U} (h : u.length = 5) : ∃ a b c d e, u = [a, b, c, d, e] := match u, h with
  | [a, b, c, d, e], _ => ⟨a, b, c, d, e, rfl⟩
theorem room_no {us : List U} (h : ¬ us.length = 5) : isRoom (.tup us) = false := by
  unfold isRoom
  split
  · rename_i e
    cases e
    exact absurd rfl h
  · rfl
theorem conf_is_room' : ∀ us h Po Pe, us.length = 1 → sp_is_room us h Po Pe → p_is_room (startE N_is_room us) h (bodyD Po Pe) := by
  intro us h Po Pe hl hs
  obtain ⟨u, rfl, ht, hp⟩ := hs
  cases u with
  | tup us =>
    by_cases h5 : us.length = 5
    · obtain ⟨a, b, c, d, e, rfl⟩ := five_of h5
      simp [wellT] at ht
      obtain ⟨_, t1, t2, t3, t4, t5⟩ := ht
      simp only [isRoom] at hp
      by_cases hm : hasM a b c d = true
      · by_cases we : isWhole e 1 = true
        · have hm' := hm
          simp only [hasM, Bool.and_eq_true] at hm'
          have wa := hm'.1
          obtain ⟨i, rfl⟩ : ∃ i, a = .int i := by cases a <;> first | exact ⟨_, rfl⟩ | cases wa
          obtain ⟨j, rfl⟩ : ∃ i, e = .int i := by cases e <;> first | exact ⟨_, rfl⟩ | cases we
          have j0 : 0 < j := by simp [isWhole] at we; omega
          simp [p_is_room, startE, N_is_room, isT, sp_has_measures, t1, t2, t3, t4, t5, hm, sp_is_whole, we, j0]
          simpa [hm, we, modU] using hp
        · simp [p_is_room, startE, N_is_room, isT, sp_has_measures, t1, t2, t3, t4, t5, hm, sp_is_whole, we]
          simpa [hm, we] using hp
      · simp [p_is_room, startE, N_is_room, isT, sp_has_measures, t1, t2, t3, t4, hm]
        simpa [hm] using hp
    · rw [room_no h5] at hp
      have h5' : ¬ ((us.length : Int) = 5) := by omega
      simp [p_is_room, startE, N_is_room, isT, h5']
      exact hp
  | _ => simp [p_is_room, startE, N_is_room, isT, wellT, typed, isRoom] at ht hp ⊢ <;> exact hp
theorem conf_is_room : ∀ us h Po Pe, us.length = 1 → sp_is_room us h Po Pe → p_is_room (startE N_is_room us) h (bodyD Po Pe) := by
  exact conf_is_room' 

theorem conf_need_room : ∀ us h Po Pe, us.length = 1 → sp_need_room us h Po Pe → p_need_room (startE N_need_room us) h (bodyD Po Pe) := by
  intro us h Po Pe hl hs
  obtain ⟨u, rfl, ht, h1, h2⟩ := hs
  simp [p_need_room, startE, N_need_room]
  refine (show sp_is_room _ _ _ _ from ⟨u, rfl, ht, ?_⟩)
  cases q : isRoom u with
  | true => simp; exact h1 q
  | false => simp; exact h2 q

theorem six_of {u : List U} (h : u.length = 6) : ∃ a b c d e f, u = [a, b, c, d, e, f] := match u, h with
  | [a, b, c, d, e, f], _ => ⟨a, b, c, d, e, f, rfl⟩
theorem conf_is_layout : ∀ us h Po Pe, us.length = 1 → sp_is_layout us h Po Pe → p_is_layout (startE N_is_layout us) h (bodyD Po Pe) := by
  intro us h Po Pe hl hs
  unfold sp_is_layout at hs
  split at hs
  · rename_i u
    obtain ⟨ht, hp⟩ := hs
    cases u with
    | tup us =>
      by_cases h6 : us.length = 6
      · obtain ⟨a, b, c, d, e, f, rfl⟩ := six_of h6
        simp [wellT] at ht
        obtain ⟨_, t1, t2, t3, t4, t5, t6⟩ := ht
        simp only [isLay] at hp
        by_cases hm : hasM a b c d = true
        · by_cases we : isWhole e 0 = true
          · have hm' := hm
            simp only [hasM, Bool.and_eq_true] at hm'
            have wa := hm'.1
            obtain ⟨i, rfl⟩ : ∃ i, a = .int i := by cases a <;> first | exact ⟨_, rfl⟩ | cases wa
            obtain ⟨j, rfl⟩ : ∃ i, e = .int i := by cases e <;> first | exact ⟨_, rfl⟩ | cases we
            by_cases hlt : j < i <;> simp [p_is_layout, startE, N_is_layout, isT, sp_has_measures, t1, t2, t3, t4, t5, t6, hm, sp_is_whole, we, hlt] <;> simpa [hm, we, ltU, hlt] using hp
          · simp [p_is_layout, startE, N_is_layout, isT, sp_has_measures, t1, t2, t3, t4, t5, t6, hm, sp_is_whole, we]
            simpa [hm, we] using hp
        · simp [p_is_layout, startE, N_is_layout, isT, sp_has_measures, t1, t2, t3, t4, hm]
          simpa [hm] using hp
      · have hd : isLay (.tup us) = false := by
          unfold isLay
          split
          · rename_i e
            cases e
            exact absurd rfl h6
          · rfl
        rw [hd] at hp
        have h6' : ¬ ((us.length : Int) = 6) := by omega
        simp [p_is_layout, startE, N_is_layout, isT, h6']
        exact hp
    | _ => simp [p_is_layout, startE, N_is_layout, isT, wellT, typed, isLay] at ht hp ⊢ <;> exact hp
  · exact hs.elim

theorem conf_need_layout : ∀ us h Po Pe, us.length = 1 → sp_need_layout us h Po Pe → p_need_layout (startE N_need_layout us) h (bodyD Po Pe) := by
  intro us h Po Pe hl hs
  obtain ⟨u, rfl, ht, h1, h2⟩ := hs
  simp [p_need_layout, startE, N_need_layout]
  refine (show sp_is_layout _ _ _ _ from ⟨ht, ?_⟩)
  cases q : isLay u with
  | true => simp; exact h1 q
  | false => simp; exact h2 q

theorem lay_ok {L S G O N : Int} {u : Bool} (ok : OkR L S G O N) : isLay (ringU L S G u O N) = true := by
  obtain ⟨h1, h2, h3, h4, h5, h6, h7, h8, h9, h10⟩ := ok
  simp [isLay, hasM, isWhole, isBl, geU, ltU, h1, h3, h4, h5, h7, h8, h9]
theorem room_ok {L S G g : Int} {u : Bool} (ok : OkS L S G g) : isRoom (roomU L S G u g) = true := by
  obtain ⟨h1, h2, h3, h4, h5, h6, h7, h8⟩ := ok
  simp [isRoom, hasM, isWhole, isBl, geU, modU, h1, h3, h4, h5, h7, h8]
theorem needL {L S G O N : Int} {u : Bool} (ok : OkR L S G O N) {h : Hv} {Po : Sv → Hv → Prop} {Pe : Ex → Hv → Prop} (q : Po (.val .non) h) : sp_need_layout [ringU L S G u O N] h Po Pe :=
  ⟨_, rfl, rfl, fun _ => q, fun z => absurd z (by rw [lay_ok ok]; exact fun z => by cases z)⟩
theorem needLb {r : U} (b : BadL r) {h : Hv} {Po : Sv → Hv → Prop} {Pe : Ex → Hv → Prop} (q : Pe ⟨"InvalidLayout", none⟩ h) : sp_need_layout [r] h Po Pe :=
  ⟨_, rfl, b.1, fun z => absurd z (by rw [b.2]; exact fun z => by cases z), fun _ => q⟩
theorem needR {L S G g : Int} {u : Bool} (ok : OkS L S G g) {h : Hv} {Po : Sv → Hv → Prop} {Pe : Ex → Hv → Prop} (q : Po (.val .non) h) : sp_need_room [roomU L S G u g] h Po Pe :=
  ⟨_, rfl, rfl, fun _ => q, fun z => absurd z (by rw [room_ok ok]; exact fun z => by cases z)⟩
theorem needRb {r : U} (b : BadR r) {h : Hv} {Po : Sv → Hv → Prop} {Pe : Ex → Hv → Prop} (q : Pe ⟨"InvalidRoom", none⟩ h) : sp_need_room [r] h Po Pe :=
  ⟨_, rfl, b.1, fun z => absurd z (by rw [b.2]; exact fun z => by cases z), fun _ => q⟩
/-! ### plain facts of lines -/
theorem srt_ext : ∀ {a b : List Int}, a.Pairwise (· < ·) → b.Pairwise (· < ·) → (∀ k, k ∈ a ↔ k ∈ b) → a = b
  | [], [], _, _, _ => rfl
  | [], y :: b, _, _, h => absurd ((h y).mpr (List.mem_cons_self ..)) (by simp)
  | x :: a, [], _, _, h => absurd ((h x).mp (List.mem_cons_self ..)) (by simp)
  | x :: a, y :: b, ha, hb, h => by
    obtain ⟨a1, a2⟩ := List.pairwise_cons.mp ha
    obtain ⟨b1, b2⟩ := List.pairwise_cons.mp hb
    have e : x = y := by
      rcases List.mem_cons.mp ((h x).mp (List.mem_cons_self ..)) with e | e
      · exact e
      · rcases List.mem_cons.mp ((h y).mpr (List.mem_cons_self ..)) with e2 | e2
        · exact e2.symm
        · have := b1 x e
          have := a1 y e2
          omega
    subst e
    rw [srt_ext a2 b2 fun k => ?_]
    constructor
    · intro hk
      rcases List.mem_cons.mp ((h k).mp (List.mem_cons_of_mem _ hk)) with e | e
      · have := a1 k hk
        omega
      · exact e
    · intro hk
      rcases List.mem_cons.mp ((h k).mpr (List.mem_cons_of_mem _ hk)) with e | e
      · have := b1 k hk
        omega
      · exact e
theorem rng_pw (lo : Int) : ∀ n : Nat, ((List.range n).map fun (k : Nat) => lo + k).Pairwise (· < ·) := fun n => by
  rw [List.pairwise_map]
  exact (List.pairwise_lt_range).imp fun h => by omega
theorem rng_mem {lo k : Int} {n : Nat} : k ∈ (List.range n).map (fun (j : Nat) => lo + j) ↔ lo ≤ k ∧ k < lo + n := by
  simp only [List.mem_map, List.mem_range]
  constructor
  · rintro ⟨j, hj, rfl⟩
    omega
  · rintro ⟨h1, h2⟩
    exact ⟨(k - lo).toNat, by omega, by omega⟩
section
variable {L S G O N r k : Int}
theorem mine_pw : (mineL L S G O N r).Pairwise (· < ·) := rng_pw _ _
theorem mine_mem : k ∈ mineL L S G O N r ↔ firstF L S G O r ≤ k ∧ k ≤ lastF L S G O N r := by
  unfold mineL
  rw [rng_mem]
  omega
theorem div_le {a b T : Int} (hT : 0 < T) : a / T ≤ b ↔ a < (b + 1) * T := by
  rw [← Int.ediv_lt_iff_lt_mul hT]
  omega
theorem le_div {a b T : Int} (hT : 0 < T) : b ≤ a / T ↔ b * T ≤ a := Int.le_ediv_iff_mul_le hT
/-- a slot has a byte in the line -/
theorem slot_in (ok : OkR L S G O N) (k0 : 0 ≤ k) (k1 : k < N) : (firstF L S G O r ≤ k ∧ k ≤ lastF L S G O N r) ↔ (r * L ≤ O + k * (S + G) + S - 1 ∧ O + k * (S + G) ≤ r * L + L - 1) := by
  obtain ⟨l1, l8, s1, g0, t1, t20, o0, o1, n1, n12⟩ := ok
  have hT : 0 < S + G := by omega
  have e1 : (r * L - O + G) / (S + G) ≤ k ↔ r * L - O + G < (k + 1) * (S + G) := div_le hT
  have e2 : k ≤ (r * L + L - 1 - O) / (S + G) ↔ k * (S + G) ≤ r * L + L - 1 - O := le_div hT
  have e3 : (k + 1) * (S + G) = k * (S + G) + (S + G) := by rw [Int.add_mul, Int.one_mul]
  unfold firstF lastF
  generalize (r * L - O + G) / (S + G) = a at *
  generalize (r * L + L - 1 - O) / (S + G) = b at *
  generalize k * (S + G) = m at *
  split <;> split <;> omega
theorem first_0 : 0 ≤ firstF L S G O r := by unfold firstF; split <;> omega
theorem last_n : lastF L S G O N r ≤ N - 1 := by unfold lastF; split <;> omega
/-- at most two slots -/
theorem two_max (ok : OkR L S G O N) : lastF L S G O N r ≤ firstF L S G O r + 1 := by
  obtain ⟨l1, l8, s1, g0, t1, t20, o0, o1, n1, n12⟩ := ok
  have hT : 0 < S + G := by omega
  have h1 : (r * L + L - 1 - O) / (S + G) ≤ (r * L - O + G) / (S + G) + 1 := by
    rw [div_le hT]
    have := Int.lt_ediv_add_one_mul_self (r * L - O + G) hT
    rw [Int.add_mul, Int.one_mul] at this ⊢
    rw [Int.add_mul, Int.one_mul]
    omega
  unfold firstF lastF
  split <;> split <;> omega
/-- what is laid at a byte -/
theorem laid_iff (ok : OkR L S G O N) (k0 : 0 ≤ k) (k1 : k < N) {y : Int} : laidP S G O N 0 y = k ↔ O + k * (S + G) ≤ y ∧ y ≤ O + k * (S + G) + S - 1 := by
  obtain ⟨l1, l8, s1, g0, t1, t20, o0, o1, n1, n12⟩ := ok
  have hT : 0 < S + G := by omega
  obtain ⟨e, r0, r1⟩ := dm (S := S) (G := G) (x := y) (O := O) hT
  have hk : 0 ≤ k * (S + G) := Int.mul_nonneg k0 (by omega)
  unfold laidP
  constructor
  · intro h
    split at h
    · rename_i hc
      rw [h, Int.mul_comm] at e
      omega
    · omega
  · rintro ⟨h1, h2⟩
    obtain ⟨u1, u2⟩ := duniq (T := S + G) (q := (y - O) / (S + G)) (r := (y - O) % (S + G)) (k := k) (j := y - O - k * (S + G)) (by rw [e, Int.mul_comm (S + G) k]; omega) hT r0 r1 (by omega) (by omega)
    rw [u1, u2, if_pos ⟨by omega, by omega, .inl k1⟩]
theorem laid_rng (ok : OkR L S G O N) {y : Int} (h : 0 ≤ laidP S G O N 0 y) : laidP S G O N 0 y < N := by
  unfold laidP at h ⊢
  split
  · rename_i hc
    rcases hc.2.2 with h | ⟨_, h⟩
    · exact h
    · have := Int.emod_nonneg (y - O) (show S + G ≠ 0 by have := ok.s1; have := ok.g0; omega)
      omega
  · have := ok.n1
    omega
theorem part_mem (ok : OkR L S G O N) (k0 : 0 ≤ k) (k1 : k < N) : k ∈ partL L S G O N r ↔ (firstF L S G O r ≤ k ∧ k ≤ lastF L S G O N r) := by
  rw [slot_in ok k0 k1]
  have l1 := ok.l1
  have s1 := ok.s1
  unfold partL
  simp only [List.mem_map, List.mem_range]
  constructor
  · rintro ⟨i, hi, e⟩
    have := (laid_iff ok k0 k1).mp e
    omega
  · rintro ⟨h1, h2⟩
    by_cases hc : r * L ≤ O + k * (S + G)
    · exact ⟨(O + k * (S + G) - r * L).toNat, by omega, (laid_iff ok k0 k1).mpr (by omega)⟩
    · exact ⟨0, by omega, (laid_iff ok k0 k1).mpr (by omega)⟩
theorem has_part (ok : OkR L S G O N) : hasR L S G O N r = true ↔ ∃ k ∈ partL L S G O N r, 0 ≤ k := by
  unfold hasR
  rw [decide_eq_true_eq]
  have f0 := first_0 (L := L) (S := S) (G := G) (O := O) (r := r)
  have ln := last_n (L := L) (S := S) (G := G) (O := O) (N := N) (r := r)
  constructor
  · intro h
    exact ⟨firstF L S G O r, (part_mem ok f0 (by omega)).mpr ⟨Int.le_refl _, h⟩, f0⟩
  · rintro ⟨k, hk, k0⟩
    have k1 : k < N := by
      unfold partL at hk
      obtain ⟨i, _, rfl⟩ := List.mem_map.mp hk
      exact laid_rng ok k0
    have := (part_mem ok k0 k1).mp hk
    omega
end
/-! ### bytes of others -/
def othB (S G : Int) (u : Bool) (O N y : Int) : Bool := decide ((y - O) / (S + G) < 0 ∨ N ≤ (y - O) / (S + G) ∨ (S ≤ (y - O) % (S + G) ∧ (u = true ∨ (y - O) / (S + G) = N - 1)))
theorem own_eq {S G O N y : Int} {u : Bool} : eqU? (ownF S G u O N y) (.str "others") = some (othB S G u O N y) := by
  have ei : ∀ i : Int, eqU? (.int i) (.str "others") = some false := fun i => by
    show eqD? (.int i) (.str "others") = some false
    have : PyData.strOk "others" = true := by decide +kernel
    simp [eqD?, toD, SeqAt.shaped, PyData.canLay0, PyData.depth, PyData.eqv, this]
  unfold ownF othB
  generalize (y - O) / (S + G) = q
  generalize (y - O) % (S + G) = r
  split
  · rename_i h
    rw [eqU_str, decide_eq_true rfl, decide_eq_true (by omega)]
  · rename_i h
    split
    · rename_i h2
      rw [ei, decide_eq_false (by omega)]
    · rename_i h2
      split
      · rename_i h3
        rw [eqU_str, decide_eq_true rfl, decide_eq_true (.inr (.inr ⟨by omega, h3⟩))]
      · rename_i h3
        have : ("nobody" : Str) ≠ "others" := by decide
        rw [eqU_str, decide_eq_false this, decide_eq_false]
        rintro (z | z | ⟨_, z⟩)
        · omega
        · omega
        · exact h3 z
theorem cnt2 {a b e : Int} {c1 c2 : Bool} (h : b ≤ e) : ∀ n : Nat, ((List.range n).filter fun (i : Nat) => decide ((c1 = true ∧ a + (i : Int) < b) ∨ (c2 = true ∧ e ≤ a + (i : Int)))).length = (if c1 = true then (min b (a + n) - a).toNat else 0) + (if c2 = true then (a + n - max e a).toNat else 0)
  | 0 => by
    simp only [List.range_zero, List.filter_nil, List.length_nil]
    split <;> split <;> omega
  | n + 1 => by
    rw [List.range_succ, List.filter_append, List.length_append, cnt2 h n]
    have one : ((([n] : List Nat)).filter fun (i : Nat) => decide ((c1 = true ∧ a + (i : Int) < b) ∨ (c2 = true ∧ e ≤ a + (i : Int)))).length = if (c1 = true ∧ a + (n : Int) < b) ∨ (c2 = true ∧ e ≤ a + (n : Int)) then 1 else 0 := by
      by_cases hc : (c1 = true ∧ a + (n : Int) < b) ∨ (c2 = true ∧ e ≤ a + (n : Int))
      · rw [if_pos hc, List.filter_cons_of_pos (by exact decide_eq_true hc)]
        rfl
      · rw [if_neg hc, List.filter_cons_of_neg (by simpa using hc)]
        rfl
    rw [one]
    cases c1 <;> cases c2 <;> simp only [Bool.false_eq_true, if_false, if_true, false_and, true_and, false_or, or_false] <;> first | omega | (split <;> omega)
theorem cnt1 {a b e : Int} {c : Bool} : ∀ n : Nat, ((List.range n).filter fun (i : Nat) => decide (c = true ∧ b ≤ a + (i : Int) ∧ a + (i : Int) < e)).length = (if c = true then (min e (a + n) - max b a).toNat else 0)
  | 0 => by
    simp only [List.range_zero, List.filter_nil, List.length_nil]
    split <;> omega
  | n + 1 => by
    rw [List.range_succ, List.filter_append, List.length_append, cnt1 n]
    have one : ((([n] : List Nat)).filter fun (i : Nat) => decide (c = true ∧ b ≤ a + (i : Int) ∧ a + (i : Int) < e)).length = if c = true ∧ b ≤ a + (n : Int) ∧ a + (n : Int) < e then 1 else 0 := by
      by_cases hc : c = true ∧ b ≤ a + (n : Int) ∧ a + (n : Int) < e
      · rw [if_pos hc, List.filter_cons_of_pos (by exact decide_eq_true hc)]
        rfl
      · rw [if_neg hc, List.filter_cons_of_neg (by simpa using hc)]
        rfl
    rw [one]
    cases c <;> simp only [Bool.false_eq_true, if_false, if_true, false_and, true_and] <;> first | omega | (split <;> omega)
section
variable {L S G O N r : Int} {u : Bool}
theorem oth_one (ok : OkR L S G O N) (hr : 0 ≤ r) (h : lastF L S G O N r = firstF L S G O r) {y : Int} (y0 : r * L ≤ y) (y1 : y < r * L + L) :
    othB S G u O N y = decide (((decide (u = true ∨ firstF L S G O r = 0)) = true ∧ y < O + firstF L S G O r * (S + G)) ∨ ((decide (u = true ∨ firstF L S G O r = N - 1)) = true ∧ O + firstF L S G O r * (S + G) + S ≤ y)) := by
  have ok2 := ok
  obtain ⟨l1, l8, s1, g0, t1, t20, o0, o1, n1, n12⟩ := ok
  have f0 := first_0 (L := L) (S := S) (G := G) (O := O) (r := r)
  have ln := last_n (L := L) (S := S) (G := G) (O := O) (N := N) (r := r)
  have a0 := (slot_in (r := r) ok2 f0 (by omega)).mp ⟨Int.le_refl _, by omega⟩
  have a1 : 1 ≤ firstF L S G O r → O + (firstF L S G O r - 1) * (S + G) + S - 1 < r * L := fun h1 => by
    have := mt (slot_in (r := r) (k := firstF L S G O r - 1) ok2 (by omega) (by omega)).mpr (by omega)
    have e : (firstF L S G O r - 1) * (S + G) = firstF L S G O r * (S + G) - (S + G) := by rw [Int.sub_mul, Int.one_mul]
    rw [e] at this ⊢
    generalize firstF L S G O r * (S + G) = m at *
    omega
  have a2 : firstF L S G O r + 1 < N → r * L + L - 1 < O + (firstF L S G O r + 1) * (S + G) := fun h1 => by
    have := mt (slot_in (r := r) (k := firstF L S G O r + 1) ok2 (by omega) (by omega)).mpr (by omega)
    have e : (firstF L S G O r + 1) * (S + G) = firstF L S G O r * (S + G) + (S + G) := by rw [Int.add_mul, Int.one_mul]
    rw [e] at this ⊢
    generalize firstF L S G O r * (S + G) = m at *
    omega
  generalize firstF L S G O r = k at *
  have hT : 0 < S + G := by omega
  obtain ⟨e, r0, r1⟩ := dm (S := S) (G := G) (x := y) (O := O) hT
  have uq : ∀ j : Int, O + j * (S + G) ≤ y → y < O + (j + 1) * (S + G) → (y - O) / (S + G) = j ∧ (y - O) % (S + G) = y - O - j * (S + G) := fun j h1 h2 => by
    rw [Int.add_mul, Int.one_mul] at h2
    exact duniq (T := S + G) (by rw [e, Int.mul_comm (S + G) j]; omega) hT r0 r1 (by omega) (by omega)
  have em : (k - 1) * (S + G) = k * (S + G) - (S + G) := by rw [Int.sub_mul, Int.one_mul]
  have ep : (k + 1) * (S + G) = k * (S + G) + (S + G) := by rw [Int.add_mul, Int.one_mul]
  unfold othB
  rw [decide_eq_decide]
  simp only [decide_eq_true_eq]
  by_cases c1 : y < O + k * (S + G)
  · by_cases k0 : k = 0
    · subst k0
      have q0 : (y - O) / (S + G) < 0 := Int.ediv_neg_of_neg_of_pos (by rw [Int.zero_mul] at c1; omega) hT
      exact ⟨fun _ => .inl ⟨.inr rfl, c1⟩, fun _ => .inl q0⟩
    · have := a1 (by omega)
      obtain ⟨u1, u2⟩ := uq (k - 1) (by omega) (by rw [show k - 1 + 1 = k by omega]; exact c1)
      rw [u1, u2]
      constructor
      · rintro (z | z | ⟨_, z | z⟩)
        · omega
        · omega
        · exact .inl ⟨.inl z, c1⟩
        · omega
      · rintro (⟨z | z, _⟩ | ⟨_, z⟩)
        · exact .inr (.inr ⟨by omega, .inl z⟩)
        · exact absurd z k0
        · omega
  · by_cases c2 : y < O + k * (S + G) + S
    · obtain ⟨u1, u2⟩ := uq k (by omega) (by rw [ep]; omega)
      rw [u1, u2]
      constructor
      · rintro (z | z | ⟨z, _⟩) <;> omega
      · rintro (⟨_, z⟩ | ⟨_, z⟩) <;> omega
    · by_cases kn : k = N - 1
      · have qk : k ≤ (y - O) / (S + G) := (le_div hT).mpr (by omega)
        refine ⟨fun _ => .inr ⟨.inr kn, by omega⟩, fun _ => ?_⟩
        by_cases qn : N ≤ (y - O) / (S + G)
        · exact .inr (.inl qn)
        · have e2 : (y - O) / (S + G) = N - 1 := by omega
          refine .inr (.inr ⟨?_, .inr e2⟩)
          rw [e2, ← kn, Int.mul_comm] at e
          omega
      · have := a2 (by omega)
        obtain ⟨u1, u2⟩ := uq k (by omega) (by rw [ep] at this ⊢; omega)
        rw [u1, u2]
        constructor
        · rintro (z | z | ⟨_, z | z⟩)
          · omega
          · omega
          · exact .inr ⟨.inl z, by omega⟩
          · exact absurd z kn
        · rintro (⟨_, z⟩ | ⟨z | z, _⟩)
          · omega
          · exact .inr (.inr ⟨by omega, .inl z⟩)
          · exact absurd z kn
theorem oth_two (ok : OkR L S G O N) (hr : 0 ≤ r) (h : lastF L S G O N r = firstF L S G O r + 1) {y : Int} (y0 : r * L ≤ y) (y1 : y < r * L + L) :
    othB S G u O N y = decide (u = true ∧ O + firstF L S G O r * (S + G) + S ≤ y ∧ y < O + (firstF L S G O r + 1) * (S + G)) := by
  have ok2 := ok
  obtain ⟨l1, l8, s1, g0, t1, t20, o0, o1, n1, n12⟩ := ok
  have f0 := first_0 (L := L) (S := S) (G := G) (O := O) (r := r)
  have ln := last_n (L := L) (S := S) (G := G) (O := O) (N := N) (r := r)
  have a0 := (slot_in (r := r) ok2 f0 (by omega)).mp ⟨Int.le_refl _, by omega⟩
  have a1 := (slot_in (r := r) (k := firstF L S G O r + 1) ok2 (by omega) (by omega)).mp ⟨by omega, by omega⟩
  generalize firstF L S G O r = k at *
  have hT : 0 < S + G := by omega
  obtain ⟨e, r0, r1⟩ := dm (S := S) (G := G) (x := y) (O := O) hT
  have uq : ∀ j : Int, O + j * (S + G) ≤ y → y < O + (j + 1) * (S + G) → (y - O) / (S + G) = j ∧ (y - O) % (S + G) = y - O - j * (S + G) := fun j h1 h2 => by
    rw [Int.add_mul, Int.one_mul] at h2
    exact duniq (T := S + G) (by rw [e, Int.mul_comm (S + G) j]; omega) hT r0 r1 (by omega) (by omega)
  have ep : (k + 1) * (S + G) = k * (S + G) + (S + G) := by rw [Int.add_mul, Int.one_mul]
  have ep2 : (k + 1 + 1) * (S + G) = k * (S + G) + (S + G) + (S + G) := by rw [Int.add_mul, ep, Int.one_mul]
  unfold othB
  rw [decide_eq_decide]
  rw [ep] at a1 ⊢
  by_cases c1 : y < O + k * (S + G) + (S + G)
  · obtain ⟨u1, u2⟩ := uq k (by omega) (by rw [ep]; omega)
    rw [u1, u2]
    constructor
    · rintro (z | z | ⟨z, w | w⟩)
      · omega
      · omega
      · exact ⟨w, by omega, by omega⟩
      · omega
    · rintro ⟨w, z, _⟩
      exact .inr (.inr ⟨by omega, .inl w⟩)
  · obtain ⟨u1, u2⟩ := uq (k + 1) (by rw [ep]; omega) (by rw [ep2]; omega)
    rw [u1, u2, ep]
    constructor
    · rintro (z | z | ⟨z, _⟩) <;> omega
    · rintro ⟨_, _, z⟩
      omega
/-- the pattern, by counting -/
theorem pat_cnt (ok : OkR L S G O N) (hr : 0 ≤ r) (h : hasR L S G O N r = true) : patF L S G O N u r = (((mineL L S G O N r).length : Int), min 2 (((List.range L.toNat).filter fun (i : Nat) => othB S G u O N (r * L + (i : Int))).length : Int)) := by
  have ok2 := ok
  have tm := two_max (r := r) ok
  have f0 := first_0 (L := L) (S := S) (G := G) (O := O) (r := r)
  have ln := last_n (L := L) (S := S) (G := G) (O := O) (N := N) (r := r)
  obtain ⟨l1, l8, s1, g0, t1, t20, o0, o1, n1, n12⟩ := ok
  unfold hasR at h
  rw [decide_eq_true_eq] at h
  have lm : (mineL L S G O N r).length = (lastF L S G O N r + 1 - firstF L S G O r).toNat := by simp [mineL]
  have lN : ((L.toNat : Nat) : Int) = L := Int.toNat_of_nonneg (by omega)
  unfold patF
  by_cases h2 : lastF L S G O N r = firstF L S G O r + 1
  · rw [if_pos h2, lm, h2]
    have e : ((List.range L.toNat).filter fun (i : Nat) => othB S G u O N (r * L + (i : Int))) = (List.range L.toNat).filter fun (i : Nat) => decide (u = true ∧ O + firstF L S G O r * (S + G) + S ≤ r * L + (i : Int) ∧ r * L + (i : Int) < O + (firstF L S G O r + 1) * (S + G)) :=
      List.filter_congr fun i hi => oth_two ok2 hr h2 (by omega) (by have := List.mem_range.mp hi; omega)
    rw [e, cnt1]
    have a0 := (slot_in (r := r) ok2 f0 (by omega)).mp ⟨Int.le_refl _, by omega⟩
    have a1 := (slot_in (r := r) (k := firstF L S G O r + 1) ok2 (by omega) (by omega)).mp ⟨by omega, by omega⟩
    have ep : (firstF L S G O r + 1) * (S + G) = firstF L S G O r * (S + G) + (S + G) := by rw [Int.add_mul, Int.one_mul]
    rw [ep] at a1 ⊢
    generalize firstF L S G O r * (S + G) = m at *
    rw [show ((firstF L S G O r + 1 + 1 - firstF L S G O r).toNat : Int) = 2 by omega]
    cases u with
    | false =>
      simp
      decide
    | true =>
      simp only [if_true]
      congr 1
      omega
  · have h1 : lastF L S G O N r = firstF L S G O r := by omega
    rw [if_neg h2, lm, h1]
    have e : ((List.range L.toNat).filter fun (i : Nat) => othB S G u O N (r * L + (i : Int))) = (List.range L.toNat).filter fun (i : Nat) => decide (((decide (u = true ∨ firstF L S G O r = 0)) = true ∧ r * L + (i : Int) < O + firstF L S G O r * (S + G)) ∨ ((decide (u = true ∨ firstF L S G O r = N - 1)) = true ∧ O + firstF L S G O r * (S + G) + S ≤ r * L + (i : Int))) :=
      List.filter_congr fun i hi => oth_one ok2 hr h1 (by omega) (by have := List.mem_range.mp hi; omega)
    rw [e, cnt2 (by omega)]
    have a0 := (slot_in (r := r) ok2 f0 (by omega)).mp ⟨Int.le_refl _, by omega⟩
    rw [show ((firstF L S G O r + 1 - firstF L S G O r).toNat : Int) = 1 by omega]
    simp only [decide_eq_true_eq]
    congr 2
    rw [lN]
    generalize firstF L S G O r * (S + G) = m at *
    split <;> split <;> omega
end
theorem rngU (lo : Int) (n : Nat) : rangeU lo n = ((List.range n).map fun (k : Nat) => lo + k).map U.int := by simp [rangeU]
theorem mine_rng {L S G O N r : Int} : rangeU (firstF L S G O r) (lastF L S G O N r + 1 - firstF L S G O r).toNat = (mineL L S G O N r).map U.int := rngU _ _
theorem mine_len {L S G O N r : Int} : (mineL L S G O N r).length = (lastF L S G O N r + 1 - firstF L S G O r).toNat := by simp [mineL]
theorem mine_first {L S G O N r : Int} (h : hasR L S G O N r = true) : L2.atI ((mineL L S G O N r).map U.int) 0 = some (.int (firstF L S G O r)) := by
  unfold hasR at h
  rw [decide_eq_true_eq] at h
  obtain ⟨n, hn⟩ : ∃ n, (lastF L S G O N r + 1 - firstF L S G O r).toNat = n + 1 := ⟨(lastF L S G O N r - firstF L S G O r).toNat, by omega⟩
  unfold mineL
  rw [hn]
  simp [L2.atI, L2.ixN, List.range_succ_eq_map]
theorem mine_ne {L S G O N r : Int} (h : hasR L S G O N r = true) : (mineL L S G O N r).isEmpty = false := by
  unfold hasR at h
  rw [decide_eq_true_eq] at h
  have := mine_len (L := L) (S := S) (G := G) (O := O) (N := N) (r := r)
  cases hm : mineL L S G O N r with
  | nil =>
    rw [hm, List.length_nil] at this
    omega
  | cons a b => rfl
/-! ### the lines -/
section
variable {L S G O N r : Int}
def dF (L S G O k : Int) : Int := (O + k * (S + G)) / L
def eF (L S G O k : Int) : Int := (O + k * (S + G) + S - 1) / L
theorem has_slot (ok : OkR L S G O N) : hasR L S G O N r = true ↔ ∃ k, 0 ≤ k ∧ k < N ∧ dF L S G O k ≤ r ∧ r ≤ eF L S G O k := by
  have f0 := first_0 (L := L) (S := S) (G := G) (O := O) (r := r)
  have ln := last_n (L := L) (S := S) (G := G) (O := O) (N := N) (r := r)
  have l1 := ok.l1
  have q : ∀ k, 0 ≤ k → k < N → ((firstF L S G O r ≤ k ∧ k ≤ lastF L S G O N r) ↔ (dF L S G O k ≤ r ∧ r ≤ eF L S G O k)) := fun k k0 k1 => by
    rw [slot_in ok k0 k1]
    unfold dF eF
    rw [div_le (by omega), le_div (by omega), Int.add_mul, Int.one_mul]
    omega
  unfold hasR
  rw [decide_eq_true_eq]
  constructor
  · intro h
    exact ⟨_, f0, by omega, (q _ f0 (by omega)).mp ⟨Int.le_refl _, h⟩⟩
  · rintro ⟨k, k0, k1, h1, h2⟩
    have := (q k k0 k1).mpr ⟨h1, h2⟩
    omega
theorem rows_mem (ok : OkR L S G O N) : r ∈ rowsL L S G O N ↔ 0 ≤ r ∧ hasR L S G O N r = true := by
  have l1 := ok.l1
  unfold rowsL
  rw [List.mem_filter]
  constructor
  · rintro ⟨h1, h2⟩
    obtain ⟨j, _, rfl⟩ := List.mem_map.mp h1
    exact ⟨by omega, h2⟩
  · rintro ⟨h1, h2⟩
    refine ⟨List.mem_map.mpr ⟨r.toNat, List.mem_range.mpr ?_, by omega⟩, h2⟩
    obtain ⟨k, k0, k1, _, h4⟩ := (has_slot ok).mp h2
    unfold eF at h4
    rw [le_div (by omega)] at h4
    have hk : k * (S + G) ≤ (N - 1) * (S + G) := Int.mul_le_mul_of_nonneg_right (by omega) (by have := ok.s1; have := ok.g0; omega)
    rw [Int.sub_mul, Int.one_mul] at hk
    have hl : (r + 1) * L ≤ lenF L S G O N := by
      rw [Int.add_mul, Int.one_mul]
      unfold lenF
      have := ok.s1; have := ok.g0; have := ok.o0; have := ok.n1
      have : 0 ≤ N * (S + G) := Int.mul_nonneg (by omega) (by omega)
      omega
    have := (le_div (a := (lenF L S G O N : Int)) (b := r + 1) (T := L) (by omega)).mpr hl
    omega
theorem rows_pw : (rowsL L S G O N).Pairwise (· < ·) := by
  unfold rowsL
  refine List.Pairwise.filter _ ?_
  rw [List.pairwise_map]
  exact (List.pairwise_lt_range).imp fun h => by omega
theorem rows_len (ok : OkR L S G O N) : (rowsL L S G O N).length ≤ 300 := by
  have hb := len_bound ok
  have l1 := ok.l1
  unfold rowsL
  refine Nat.le_trans (List.length_filter_le _ _) ?_
  rw [List.length_map, List.length_range]
  have : (lenF L S G O N : Int) / L ≤ lenF L S G O N := Int.ediv_le_self _ (by omega)
  omega
end
def linE (L S G : Int) (u : Bool) (O N : Int) (nums : List Int) (a : Int) (e9 e10 e11 : Option Sv) : En := [some (.val (ringU L S G u O N)), some (.val (.int L)), some (.val (.int S)), some (.val (.int G)), some (.val (.bl u)), some (.val (.int O)), some (.val (.int N)), some (.own (nums.map U.int)), some (.val (.int a)), e9, e10, e11]
theorem lines_in {L S G O N : Int} {u : Bool} {P0 : Int → Prop} {D a0 : Int} {n c0 : Nat} {nums : List Int} {e9 e10 e11 : Option Sv} {P : UD} {h : Hv} (hc : c0 + n ≤ 10000) (hn : 0 < n) (ha : a0 ≤ D) (hd : a0 = D → P0 D) (hl : nums.length ≤ c0) (pw : nums.Pairwise (· < ·)) (mem : ∀ r, r ∈ nums ↔ P0 r) (top : ∀ r ∈ nums, r ≤ a0)
    (last : ∀ nums e11, nums.length ≤ c0 + n → nums.Pairwise (· < ·) → (∀ r, r ∈ nums ↔ (P0 r ∨ (D ≤ r ∧ r < D + n))) → (∀ r ∈ nums, r ≤ D + n - 1) → P.nx (linE L S G u O N nums (D + n - 1) e9 e10 e11) h) :
    forU (gN 11) b1_lines_of P (rangeU D n) (linE L S G u O N nums a0 e9 e10 e11) h := by
  refine forU_ix (fun i e h1 => h1 = h ∧ ∃ nums a e11, e = linE L S G u O N nums a e9 e10 e11 ∧ nums.length ≤ c0 + i ∧ nums.Pairwise (· < ·) ∧ (∀ r, r ∈ nums ↔ (P0 r ∨ (D ≤ r ∧ r < D + i))) ∧ (∀ r ∈ nums, r ≤ a) ∧ (0 < i → a = D + i - 1) ∧ (i = 0 → a = a0)) (fun e h1 I => ?_) (fun i v hv e h1 F I hF => ?_) ⟨rfl, nums, a0, e11, rfl, hl, pw, fun r => by rw [mem]; constructor; exact .inl; rintro (z | z); exact z; omega, top, fun z => absurd z (Nat.lt_irrefl _), fun _ => rfl⟩
  · obtain ⟨rfl, nums, a, e11, rfl, h1, h2, h3, h4, h5, h6⟩ := I
    rw [rangeU_len] at h1 h3 h5
    rw [h5 hn] at h4 ⊢
    exact last nums e11 h1 h2 h3 h4
  · obtain ⟨rfl, nums, a, e11, rfl, g1, g2, g3, g4, g5, g6⟩ := I
    obtain ⟨hi, rfl⟩ := rangeU_at hv
    by_cases hlt : a < D + (i : Int)
    · have := hF (linE L S G u O N (nums ++ [D + (i : Int)]) (D + i) e9 e10 (some (.val (.int (D + i))))) h1 ⟨rfl, _, _, _, rfl, by rw [List.length_append, List.length_cons, List.length_nil]; omega, ?_, ?_, ?_, fun _ => by omega, fun z => by omega⟩
      · simp [b1_lines_of, linE, hlt, sizeLine_eq]
        refine ⟨by omega, ?_⟩
        simpa [linE] using this
      · rw [List.pairwise_append]
        refine ⟨g2, by simp, fun x hx y hy => ?_⟩
        rw [List.mem_singleton.mp hy]
        have := g4 x hx
        omega
      · intro r
        rw [List.mem_append, g3, List.mem_singleton]
        constructor
        · rintro ((z | z) | z)
          · exact .inl z
          · exact .inr ⟨by omega, by omega⟩
          · exact .inr ⟨by omega, by omega⟩
        · rintro (z | z)
          · exact .inl (.inl z)
          · by_cases e : r = D + i
            · exact .inr e
            · exact .inl (.inr ⟨by omega, by omega⟩)
      · intro r hr
        rcases List.mem_append.mp hr with z | z
        · have := g4 r z
          omega
        · rw [List.mem_singleton.mp z]
          omega
    · have i0 : i = 0 := by
        rcases Nat.eq_zero_or_pos i with z | z
        · exact z
        · have := g5 z
          omega
      have ea := g6 i0
      subst i0
      have eD : a0 = D := by omega
      have := hF (linE L S G u O N nums a e9 e10 (some (.val (.int (D + ((0 : Nat) : Int)))))) h1 ⟨rfl, _, _, _, rfl, by omega, g2, ?_, g4, fun _ => by omega, fun z => by omega⟩
      · simp [b1_lines_of, linE, hlt]
        simp at hlt
        have e : ¬ a < D := by omega
        simp [e]
        simpa [linE] using this
      · intro r
        rw [g3]
        constructor
        · rintro (z | z)
          · exact .inl z
          · omega
        · rintro (z | z)
          · exact .inl z
          · have : r = D := by omega
            exact .inl (this ▸ hd eD)
theorem conf_lines_of : ∀ us h Po Pe, us.length = 1 → sp_lines_of us h Po Pe → p_lines_of (startE N_lines_of us) h (bodyD Po Pe) := by
  intro us h Po Pe hl hs
  obtain ⟨r, rfl, ⟨L, S, G, O, N, u, rfl, ok, hp⟩ | ⟨bad, hp⟩⟩ := hs
  · skip
    have ok2 := ok
    obtain ⟨l1, l8, s1, g0, t1, t20, o0, o1, n1, n12⟩ := ok
    simp [p_lines_of, startE, N_lines_of, sizeLine_eq]
    refine needL ok2 ?_
    refine ⟨by omega, by omega, ?_⟩
    refine forU_ix (fun k e h1 => h1 = h ∧ ∃ nums a e9 e10 e11, e = linE L S G u O N nums a e9 e10 e11 ∧ nums.length ≤ 30 * k ∧ nums.Pairwise (· < ·) ∧ (∀ r, r ∈ nums ↔ ∃ j : Int, 0 ≤ j ∧ j < k ∧ dF L S G O j ≤ r ∧ r ≤ eF L S G O j) ∧ (∀ r ∈ nums, r ≤ a) ∧ (k = 0 → a = -1) ∧ (0 < k → a = eF L S G O ((k : Int) - 1))) (fun e h1 I => ?_) (fun k v hv e h1 F I hF => ?_) ⟨rfl, [], -1, none, none, none, rfl, by simp, .nil, fun r => ⟨fun z => by simp at z, fun ⟨j, j0, j1, _⟩ => by omega⟩, by simp, fun _ => rfl, fun z => absurd z (Nat.lt_irrefl _)⟩
    · obtain ⟨rfl, nums, a, e9, e10, e11, rfl, h1, h2, h3, _⟩ := I
      rw [rangeU_len, Int.toNat_of_nonneg (by omega)] at h3
      have : nums = rowsL L S G O N := srt_ext h2 rows_pw fun r => by
        rw [h3, rows_mem ok2, has_slot ok2]
        constructor
        · rintro ⟨j, j0, j1, d1, d2⟩
          refine ⟨?_, j, j0, j1, d1, d2⟩
          have : 0 ≤ dF L S G O j := Int.ediv_nonneg (by have : 0 ≤ j * (S + G) := Int.mul_nonneg j0 (by omega); omega) (by omega)
          omega
        · rintro ⟨_, z⟩
          exact z
      rw [this]
      simp [linE]
      exact hp
    · obtain ⟨rfl, nums, a, e9, e10, e11, rfl, g1, g2, g3, g4, g5, g6⟩ := I
      obtain ⟨hk, rfl⟩ := rangeU_at hv
      rw [Int.zero_add]
      have hkN : (k : Int) < N := by omega
      have c1 : CMul (k : Int) (S + G) ∨ CMulW (k : Int) (S + G) := cmul_l (by omega)
      have hm := mulb (a := (k : Int)) (b := S + G) (A := 12) (B := 20) (by omega) (by omega) (by omega) t20
      have d1 : CDivW (O + (k : Int) * (S + G)) L := ⟨by omega, Nat.lt_of_le_of_lt (LB.log (k := 10) (by show Int.natAbs _ < 1024; omega)) (by decide)⟩
      have d2 : CDivW (O + (k : Int) * (S + G) + S - 1) L := ⟨by omega, d1.2⟩
      have D0 : 0 ≤ dF L S G O k := Int.ediv_nonneg (by omega) (by omega)
      have DE : dF L S G O k ≤ eF L S G O k := Int.ediv_le_ediv (by omega) (by omega)
      have EB : eF L S G O k ≤ dF L S G O k + 20 := by
        unfold eF dF
        rw [div_le (by omega)]
        have := Int.lt_ediv_add_one_mul_self (O + (k : Int) * (S + G)) (show 0 < L by omega)
        have h20 : 20 ≤ 20 * L := by omega
        rw [Int.add_mul, Int.one_mul] at this
        rw [Int.add_mul, Int.add_mul, Int.one_mul]
        omega
      have DB : dF L S G O k ≤ 1000 := Int.le_trans (Int.ediv_le_self _ (by omega)) (by omega)
      obtain ⟨n, hn⟩ : ∃ n : Nat, eF L S G O k + 1 - dF L S G O k = (n : Int) := ⟨(eF L S G O k + 1 - dF L S G O k).toNat, by omega⟩
      have prev : 0 < k → eF L S G O ((k : Int) - 1) ≤ dF L S G O k := fun _ => Int.ediv_le_ediv (by omega) (by rw [Int.sub_mul, Int.one_mul]; omega)
      have DP : 0 < k → dF L S G O ((k : Int) - 1) ≤ eF L S G O ((k : Int) - 1) := fun _ => Int.ediv_le_ediv (by omega) (by omega)
      simp [b2_lines_of, linE, c1, d1, d2]
      rw [show (O + (k : Int) * (S + G)) / L = dF L S G O k from rfl, show (O + (k : Int) * (S + G) + S - 1) / L = eF L S G O k from rfl]
      refine ⟨⟨by omega, by omega, by omega, by omega⟩, ?_⟩
      rw [hn, Int.toNat_natCast]
      refine lines_in (P0 := fun r => ∃ j : Int, 0 ≤ j ∧ j < k ∧ dF L S G O j ≤ r ∧ r ≤ eF L S G O j) (c0 := 30 * k) (nums := nums) (a0 := a) (e9 := some (.val (.int (k : Int)))) (by omega) (by omega) ?_ ?_ g1 g2 g3 g4 ?_
      · rcases Nat.eq_zero_or_pos k with z | z
        · have := g5 z
          omega
        · have := g6 z
          have := prev z
          omega
      · intro e
        rcases Nat.eq_zero_or_pos k with z | z
        · have := g5 z
          omega
        · have e6 := g6 z
          exact ⟨(k : Int) - 1, by omega, by omega, by have := DP z; omega, by omega⟩
      · intro nums2 e11' k1 k2 k3 k4
        refine hF _ _ ⟨rfl, nums2, _, _, _, _, rfl, by omega, k2, fun r => ?_, k4, fun z => by omega, fun _ => ?_⟩
        · rw [k3]
          constructor
          · rintro (⟨j, j0, j1, j2⟩ | z)
            · exact ⟨j, j0, by omega, j2⟩
            · exact ⟨k, by omega, by omega, by omega, by omega⟩
          · rintro ⟨j, j0, j1, j2, j3⟩
            by_cases e : j = k
            · subst e
              exact .inr ⟨by omega, by omega⟩
            · exact .inl ⟨j, j0, by omega, j2, j3⟩
        · rw [show (((k + 1 : Nat) : Int) - 1) = (k : Int) by omega]
          omega
  · simp [p_lines_of, startE, N_lines_of]
    exact needLb bad hp

theorem conf_slots_in : ∀ us h Po Pe, us.length = 2 → sp_slots_in us h Po Pe → p_slots_in (startE N_slots_in us) h (bodyD Po Pe) := by
  intro us h Po Pe hl hs
  unfold sp_slots_in at hs
  split at hs
  · rename_i L S G u O N n
    obtain ⟨ok, h1, h2, hp⟩ := hs
    obtain ⟨l1, l8, s1, g0, t1, t20, o0, o1, n1, n12⟩ := ok
    have c : CMul n L ∨ CMulW n L := cmul_w h2 (show LB L 10 by show Int.natAbs _ < 1024; omega) (by decide)
    have hm : n ≤ n * L := by
      have := Int.mul_le_mul_of_nonneg_left l1 h1
      omega
    have hT : 0 < S + G := by omega
    have d1 : CDivW (n * L - O + G) (S + G) := ⟨hT, Nat.lt_of_le_of_lt (LB.log (k := 10) (by show Int.natAbs _ < 1024; omega)) (by decide)⟩
    have d2 : CDivW (n * L + L - 1 - O) (S + G) := ⟨hT, d1.2⟩
    have f0 : 0 ≤ firstF L S G O n := first_0
    have f1 : -200 ≤ lastF L S G O N n ∧ lastF L S G O N n ≤ 11 := by
      have : 0 ≤ (n * L + L - 1 - O) / (S + G) := Int.ediv_nonneg (by omega) (by omega)
      unfold lastF; split <;> omega
    have rg : ((-(2 ^ 62) ≤ firstF L S G O n ∧ firstF L S G O n < 2 ^ 62 ∧ -(2 ^ 62) ≤ lastF L S G O N n + 1 ∧ lastF L S G O N n + 1 < 2 ^ 62) ∨ lastF L S G O N n + 1 ≤ firstF L S G O n) := by omega
    simp [p_slots_in, startE, N_slots_in, c, d1, d2]
    rw [show (if 0 < (n * L - O + G) / (S + G) then (n * L - O + G) / (S + G) else 0) = firstF L S G O n from rfl, show (if (n * L + L - 1 - O) / (S + G) < N - 1 then (n * L + L - 1 - O) / (S + G) else N - 1) = lastF L S G O N n from rfl]
    refine ⟨rg, compU_same (by simp) ?_ (fun u => by simp) ?_⟩
    · rw [rangeU_len, sizeLine_eq]; omega
    · simpa using hp
  · exact hs.elim

theorem conf_line_pattern : ∀ us h Po Pe, us.length = 2 → sp_line_pattern us h Po Pe → p_line_pattern (startE N_line_pattern us) h (bodyD Po Pe) := by
  intro us h Po Pe hl hs
  unfold sp_line_pattern at hs
  split at hs
  · rename_i L S G u O N n
    obtain ⟨ok, h0, h1, hh, hp⟩ := hs
    have lbn : LB n 110 := by show Int.natAbs _ < _; omega
    have tm := two_max (r := n) ok
    have mf := mine_first hh
    have ml := mine_len (L := L) (S := S) (G := G) (O := O) (N := N) (r := n)
    have hh2 := hh
    unfold hasR at hh2
    rw [decide_eq_true_eq] at hh2
    have f0 := first_0 (L := L) (S := S) (G := G) (O := O) (r := n)
    have ln := last_n (L := L) (S := S) (G := G) (O := O) (N := N) (r := n)
    have ok2 := ok
    obtain ⟨l1, l8, s1, g0, t1, t20, o0, o1, n1, n12⟩ := ok
    have c1 : CMul (firstF L S G O n) (S + G) ∨ CMulW (firstF L S G O n) (S + G) := cmul_l (by omega)
    have c2 : CMul n L ∨ CMulW n L := cmul_l (by omega)
    by_cases h2 : lastF L S G O N n = firstF L S G O n + 1
    · have l2 : ((mineL L S G O N n).length : Int) = 2 := by omega
      have e : patF L S G O N u n = (2, if u = true then min 2 G else 0) := by unfold patF; rw [if_pos h2]
      rw [e] at hp
      cases u with
      | false =>
        simp [p_line_pattern, startE, N_line_pattern, sp_slots_in, ok2, h0, lbn, mine_rng, l2, sizeLine_eq]
        simpa [patU] using hp
      | true =>
        simp [p_line_pattern, startE, N_line_pattern, sp_slots_in, ok2, h0, lbn, mine_rng, l2, sizeLine_eq]
        rw [show (if G < 2 then G else 2) = min 2 G by omega]
        simpa [patU] using hp
    · have l2 : ¬ ((mineL L S G O N n).length : Int) = 2 := by omega
      unfold patF at hp
      rw [if_neg h2] at hp
      generalize firstF L S G O n = f at *
      generalize hm : f * (S + G) = m at *
      generalize hk : n * L = w at *
      have fin : ∀ z : Int, z = min 2 ((if u = true ∨ f = 0 then max 0 (O + m - w) else 0) + (if u = true ∨ f = N - 1 then max 0 (w + L - (O + m) - S) else 0)) → Po (.val (.tup [.int 1, .int z])) h := fun z e => by rw [e]; exact hp
      clear hp
      cases u
      · simp only [Bool.false_eq_true, false_or] at fin
        simp [p_line_pattern, startE, N_line_pattern, sp_slots_in, ok2, h0, lbn, mine_rng, l2, mf, c1, c2, hm, hk, sizeLine_eq]
        by_cases a1 : f = 0 <;> by_cases a2 : f = N - 1
        · rw [if_pos a1, if_pos a2]
          refine fin _ ?_
          rw [if_pos a1, if_pos a2]
          split <;> split <;> split <;> omega
        · rw [if_pos a1, if_neg a2]
          refine fin _ ?_
          rw [if_pos a1, if_neg a2]
          split <;> split <;> omega
        · rw [if_neg a1, if_pos a2]
          refine fin _ ?_
          rw [if_neg a1, if_pos a2]
          split <;> split <;> omega
        · rw [if_neg a1, if_neg a2]
          refine fin _ ?_
          rw [if_neg a1, if_neg a2]
          omega
      · simp only [true_or, if_true] at fin
        simp [p_line_pattern, startE, N_line_pattern, sp_slots_in, ok2, h0, lbn, mine_rng, l2, mf, c1, c2, hm, hk, sizeLine_eq]
        refine fin _ ?_
        split <;> split <;> split <;> omega
  · exact hs.elim

def t_places_4 : US := (uRet (uLc (uItems (uSortSetD 6)) (gN 11) uYes (uBin bAdd (uApp bTup (uCons (uVar 11) uNil)) (uIxD 6 (uVar 11))) [11]))
def r_places_4 : US := t_places_4
def t_places_3 : US := (uFor (uIter bRange2 (uCons (uVal (.int 1)) (uCons (uBin bAdd (uVar 1) (uVal (.int 3))) uNil))) (gN 7) b3_places)
def r_places_3 : US := uSeq t_places_3 r_places_4
def t_places_2 : US := (uSetO 6 uDic0)
def r_places_2 : US := uSeq t_places_2 r_places_3
def t_places_1 : US := (uAsg (gT [1, 2, 3, 4, 5]) (uVar 0))
def r_places_1 : US := uSeq t_places_1 r_places_2
def t_places_0 : US := (uDrop (uCall 1 sp_need_room [] (uCons (uVar 0) uNil)))
def r_places_0 : US := uSeq t_places_0 r_places_1
theorem cut_places : p_places = r_places_0 := rfl
/-! ### what is found -/
theorem nk_pat (p : Int × Int) : nkU (patU p) = some (keyP p) := rfl
theorem key_inj {p q : Int × Int} : keyP p = keyP q ↔ p = q := by
  constructor
  · intro h
    unfold keyP at h
    simp at h
    exact Prod.ext h.1 h.2
  · rintro rfl; rfl
theorem has_D {D : Fd} {p : Int × Int} : dicHas (ksF D) (keyP p) = inF D p := by
  unfold inF
  induction D with
  | nil => rfl
  | cons q D ih =>
    have e : dicHas (ksF (q :: D)) (keyP p) = (decide (nkU (patU q.1) = some (keyP p)) || dicHas (ksF D) (keyP p)) := rfl
    rw [e, ih, nk_pat]
    by_cases h : q.1 = p
    · subst h
      simp
    · have h1 : ¬ keyP q.1 = keyP p := fun z => h (key_inj.mp z)
      have h2 : ¬ p = q.1 := fun z => h z.symm
      simp [h1, h2]
theorem at_D {D : Fd} {p : Int × Int} : dicAt (ksF D) (vsF D) (keyP p) = if inF D p = true then some (.tup (getF D p)) else none := by
  unfold inF
  induction D with
  | nil => rfl
  | cons q D ih =>
    have e : dicAt (ksF (q :: D)) (vsF (q :: D)) (keyP p) = if nkU (patU q.1) = some (keyP p) then some (.tup q.2) else dicAt (ksF D) (vsF D) (keyP p) := rfl
    rw [e, ih, nk_pat]
    obtain ⟨q, w⟩ := q
    by_cases h : q = p
    · subst h
      simp [getF]
    · have h1 : ¬ keyP q = keyP p := fun z => h (key_inj.mp z)
      have h2 : ¬ p = q := fun z => h z.symm
      have h3 : getF ((q, w) :: D) p = getF D p := by
        show (if q = p then w else getF D p) = _
        rw [if_neg h]
      have h4 : decide (p ∈ List.map (fun x => x.fst) ((q, w) :: D)) = decide (p ∈ List.map (fun x => x.fst) D) := by
        rw [List.map_cons]
        simp [h2]
      rw [h3, h4, if_neg (fun z => h1 (Option.some.inj z))]
theorem keyIn_D (D : Fd) (p : Int × Int) : KeyIn (ksF D) (patU p) (keyP p) := by
  refine ⟨nk_pat p, ?_, .inr ⟨rfl, fun k hk => ?_⟩⟩
  · unfold keyP
    simp [NestedKey.depth, NestedKey.depthAll]
  · obtain ⟨q, _, rfl⟩ := List.mem_map.mp hk
    rfl
theorem pat_in {L S G O N r : Int} {u : Bool} : patF L S G O N u r ∈ patsF G u := by
  unfold patF patsF
  by_cases hc : lastF L S G O N r = firstF L S G O r + 1
  · rw [if_pos hc]
    simp
  · rw [if_neg hc]
    have h1 : 0 ≤ (if u = true ∨ firstF L S G O r = 0 then max 0 (O + firstF L S G O r * (S + G) - r * L) else 0) := by split <;> omega
    have h2 : 0 ≤ (if u = true ∨ firstF L S G O r = N - 1 then max 0 (r * L + L - (O + firstF L S G O r * (S + G)) - S) else 0) := by split <;> omega
    generalize (if u = true ∨ firstF L S G O r = 0 then max 0 (O + firstF L S G O r * (S + G) - r * L) else 0) = a at *
    generalize (if u = true ∨ firstF L S G O r = N - 1 then max 0 (r * L + L - (O + firstF L S G O r * (S + G)) - S) else 0) = b at *
    have : min 2 (a + b) = 0 ∨ min 2 (a + b) = 1 ∨ min 2 (a + b) = 2 := by omega
    rcases this with e | e | e <;> rw [e] <;> simp
theorem pats_six {G : Int} {u : Bool} (g0 : 0 ≤ G) : ∀ p ∈ patsF G u, p ∈ six := by
  intro p hp
  have : (if u = true then min 2 G else 0) = 0 ∨ (if u = true then min 2 G else 0) = 1 ∨ (if u = true then min 2 G else 0) = 2 := by split <;> omega
  unfold patsF at hp
  rcases this with e | e | e <;> rw [e] at hp <;> simp at hp <;> rcases hp with rfl | rfl | rfl | rfl <;> decide
theorem gd_nil {G : Int} {u : Bool} : GdF G u [] := ⟨List.nodup_nil, fun _ h => by simp at h, fun _ h => by simp at h⟩
theorem gd_len {G : Int} {u : Bool} {D : Fd} (g : GdF G u D) : D.length ≤ 4 := by
  have := g.nd.length_le_of_subset (l₂ := patsF G u) g.su
  simpa [patsF] using this
theorem gd_add {G : Int} {u : Bool} {D : Fd} (g : GdF G u D) {p : Int × Int} {v : List U} (hp : p ∈ patsF G u) (hv : ValIs v) : GdF G u (addF D p v) := by
  unfold addF
  split
  · exact g
  · rename_i h
    refine ⟨?_, fun q hq => ?_, fun q hq => ?_⟩
    · rw [List.map_append, List.nodup_append]
      refine ⟨g.nd, by simp, fun a ha b hb => ?_⟩
      simp at hb
      subst hb
      intro e
      subst e
      exact h ha
    · rw [List.map_append] at hq
      rcases List.mem_append.mp hq with z | z
      · exact g.su q z
      · simp at z
        subst z
        exact hp
    · rcases List.mem_append.mp hq with z | z
      · exact g.vl q z
      · simp at z
        subst z
        exact hv
theorem gd_row {L S G O N : Int} {u : Bool} (ok : OkR L S G O N) {D : Fd} (g : GdF G u D) {r : Int} (r0 : 0 ≤ r) (r1 : r ≤ 1000) : GdF G u (rowF L S G O N u D r) := gd_add g pat_in ⟨L, S, G, O, N, r, u, ok, r0, r1, rfl⟩
theorem gd_rows {L S G O N : Int} {u : Bool} (ok : OkR L S G O N) : ∀ (rs : List Int) (D : Fd), (∀ r ∈ rs, 0 ≤ r ∧ r ≤ 1000) → GdF G u D → GdF G u (rs.foldl (rowF L S G O N u) D)
  | [], _, _, g => g
  | r :: rs, D, hr, g => gd_rows ok rs _ (fun q hq => hr q (List.mem_cons_of_mem _ hq)) (gd_row ok g (hr r List.mem_cons_self).1 (hr r List.mem_cons_self).2)
theorem rows_bd7 {L S G O N r : Int} (ok : OkR L S G O N) (h : r ∈ rowsL L S G O N) : 0 ≤ r ∧ r * L + L ≤ lenF L S G O N ∧ r ≤ 300 := by
  have hb := len_bound ok
  have l1 := ok.l1
  unfold rowsL at h
  obtain ⟨h1, _⟩ := List.mem_filter.mp h
  obtain ⟨j, hj, rfl⟩ := List.mem_map.mp h1
  have hj' := List.mem_range.mp hj
  have q2 : (lenF L S G O N : Int) / L * L ≤ lenF L S G O N := Int.ediv_mul_le _ (by omega)
  have q1 : (lenF L S G O N : Int) / L ≤ lenF L S G O N := Int.ediv_le_self _ (by omega)
  have : ((j : Int) + 1) * L ≤ (lenF L S G O N : Int) / L * L := Int.mul_le_mul_of_nonneg_right (by omega) (by omega)
  rw [Int.add_mul, Int.one_mul] at this
  exact ⟨by omega, by omega, by omega⟩
theorem gd_ring {L S G O N : Int} {u : Bool} (ok : OkR L S G O N) {D : Fd} (g : GdF G u D) : GdF G u (ringF L S G O N u D) :=
  gd_rows ok _ _ (fun r hr => by have := rows_bd7 ok hr; omega) g
theorem okr_of {L S G g : Int} (ok : OkS L S G g) {t i : Nat} (ht : t < (L / g).toNat) (hi : i < (L + 2).toNat) : OkR L S G (t * g) (1 + i) := by
  obtain ⟨l1, l8, s1, g0, t1, t20, r1, dv⟩ := ok
  have h0 : 0 ≤ (t : Int) * g := Int.mul_nonneg (by omega) (by omega)
  have h1 : ((t : Int) + 1) * g ≤ L / g * g := Int.mul_le_mul_of_nonneg_right (by omega) (by omega)
  have h2 : L / g * g ≤ L := Int.ediv_mul_le _ (by omega)
  rw [Int.add_mul, Int.one_mul] at h1
  exact ⟨l1, l8, s1, g0, t1, t20, h0, by omega, by omega, by omega⟩
theorem slotF_succ {L S G g N : Int} {u : Bool} {D : Fd} {n : Nat} : slotF L S G g N u D (n + 1) = ringF L S G (n * g) N u (slotF L S G g N u D n) := by
  unfold slotF
  rw [List.range_succ, List.foldl_append]
  rfl
theorem allF_succ {L S G g : Int} {u : Bool} {n : Nat} : allF L S G g u (n + 1) = slotF L S G g (1 + n) u (allF L S G g u n) (L / g).toNat := by
  unfold allF
  rw [List.range_succ, List.foldl_append]
  rfl
theorem gd_slot {L S G g : Int} {u : Bool} (ok : OkS L S G g) {i : Nat} (hi : i < (L + 2).toNat) {D : Fd} (gd : GdF G u D) : ∀ n : Nat, n ≤ (L / g).toNat → GdF G u (slotF L S G g (1 + i) u D n)
  | 0, _ => gd
  | n + 1, h => by
    rw [slotF_succ]
    exact gd_ring (okr_of ok (by omega) hi) (gd_slot ok hi gd n (by omega))
theorem gd_all {L S G g : Int} {u : Bool} (ok : OkS L S G g) : ∀ n : Nat, n ≤ (L + 2).toNat → GdF G u (allF L S G g u n)
  | 0, _ => gd_nil
  | n + 1, h => by
    rw [allF_succ]
    exact gd_slot ok (by omega) (gd_all ok n (by omega)) _ (Nat.le_refl _)
/-- none is left out again -/
theorem add_sub {D : Fd} {p q : Int × Int} {v : List U} (h : q ∈ D.map (·.1)) : q ∈ (addF D p v).map (·.1) := by
  unfold addF
  split
  · exact h
  · rw [List.map_append]
    exact List.mem_append_left _ h
theorem add_new {D : Fd} {p : Int × Int} {v : List U} : p ∈ (addF D p v).map (·.1) := by
  unfold addF
  split
  · assumption
  · simp
theorem rows_sub {L S G O N : Int} {u : Bool} {q : Int × Int} : ∀ (rs : List Int) (D : Fd), (q ∈ D.map (·.1) ∨ ∃ r ∈ rs, patF L S G O N u r = q) → q ∈ (rs.foldl (rowF L S G O N u) D).map (·.1)
  | [], _, h => by
    rcases h with h | ⟨r, hr, _⟩
    · exact h
    · cases hr
  | r :: rs, D, h => by
    refine rows_sub rs _ ?_
    rcases h with h | ⟨k, hk, rfl⟩
    · exact .inl (add_sub h)
    · rcases List.mem_cons.mp hk with e | e
      · subst e
        exact .inl add_new
      · exact .inr ⟨k, e, rfl⟩
theorem slot_sub {L S G g N : Int} {u : Bool} {q : Int × Int} {D : Fd} : ∀ n : Nat, (q ∈ D.map (·.1) ∨ ∃ t : Nat, t < n ∧ ∃ r ∈ rowsL L S G (t * g) N, patF L S G (t * g) N u r = q) → q ∈ (slotF L S G g N u D n).map (·.1)
  | 0, h => by
    rcases h with h | ⟨t, ht, _⟩
    · exact h
    · omega
  | n + 1, h => by
    rw [slotF_succ]
    refine rows_sub _ _ ?_
    rcases h with h | ⟨t, ht, h⟩
    · exact .inl (slot_sub n (.inl h))
    · by_cases e : t = n
      · subst e
        exact .inr h
      · exact .inl (slot_sub n (.inr ⟨t, by omega, h⟩))
theorem all_sub {L S G g : Int} {u : Bool} {q : Int × Int} : ∀ n : Nat, (∃ i : Nat, i < n ∧ ∃ t : Nat, t < (L / g).toNat ∧ ∃ r ∈ rowsL L S G (t * g) (1 + i), patF L S G (t * g) (1 + i) u r = q) → q ∈ (allF L S G g u n).map (·.1)
  | 0, h => by
    obtain ⟨i, hi, _⟩ := h
    omega
  | n + 1, h => by
    rw [allF_succ]
    refine slot_sub _ ?_
    obtain ⟨i, hi, h⟩ := h
    by_cases e : i = n
    · subst e
      exact .inr h
    · exact .inl (all_sub n ⟨i, by omega, h⟩)
theorem grain_le {L S G g : Int} (ok : OkS L S G g) : g ≤ L ∧ 1 ≤ L / g := by
  obtain ⟨l1, l8, s1, g0, t1, t20, r1, dv⟩ := ok
  have h := Int.mul_ediv_add_emod L g
  rw [dv] at h
  have h1 : 1 ≤ L / g := by
    rcases Int.lt_or_le 0 (L / g) with z | z
    · omega
    · have : g * (L / g) ≤ g * 0 := Int.mul_le_mul_of_nonneg_left z (by omega)
      omega
  have : g * 1 ≤ g * (L / g) := Int.mul_le_mul_of_nonneg_left h1 (by omega)
  exact ⟨by omega, h1⟩
theorem rng_grain {L S G g : Int} (ok : OkS L S G g) : RgC 0 L g (L / g).toNat := by
  obtain ⟨g1, q1⟩ := grain_le ok
  obtain ⟨l1, l8, s1, g0, t1, t20, r1, dv⟩ := ok
  have hL : L = 1 ∨ L = 2 ∨ L = 3 ∨ L = 4 ∨ L = 5 ∨ L = 6 ∨ L = 7 ∨ L = 8 := by omega
  have hg : g = 1 ∨ g = 2 ∨ g = 3 ∨ g = 4 ∨ g = 5 ∨ g = 6 ∨ g = 7 ∨ g = 8 := by omega
  clear g1 q1 l1 l8 t1 t20 r1
  rcases hL with rfl | rfl | rfl | rfl | rfl | rfl | rfl | rfl <;> rcases hg with rfl | rfl | rfl | rfl | rfl | rfl | rfl | rfl <;> first | exact absurd dv (by decide) | exact ⟨by decide, by decide, by decide, by decide⟩
theorem get_val {D : Fd} {p : Int × Int} (h : inF D p = true) (hv : ∀ q ∈ D, ValIs q.2) : ValIs (getF D p) := by
  replace h : p ∈ D.map (·.1) := by simpa [inF] using h
  induction D with
  | nil => simp at h
  | cons q D ih =>
    obtain ⟨q, w⟩ := q
    unfold getF
    split
    · exact hv (q, w) List.mem_cons_self
    · rename_i e
      rw [List.map_cons] at h
      rcases List.mem_cons.mp h with z | z
      · exact absurd z.symm e
      · exact ih (fun q hq => hv q (List.mem_cons_of_mem _ hq)) z
abbrev lsP (p : Int × Int) : List Int := [p.1, p.2]
theorem uT_ls (p : Int × Int) : uT (lsP p) = patU p := rfl
/-- sorted(set(found)) -/
theorem sorted_six {D : Fd} (h6 : ∀ q ∈ D.map (·.1), q ∈ six) {qs : List (List Int)} (nd : qs.Nodup) (hm : ∀ q, q ∈ qs ↔ q ∈ D.map fun p => lsP p.1) (pw : qs.Pairwise fun q r => TS.code 3 q ≤ TS.code 3 r) : qs = (six.filter (inF D)).map lsP := by
  have e6 : ∀ a ∈ six.map lsP, ∀ b ∈ six.map lsP, TS.code 3 a ≤ TS.code 3 b → TS.code 3 b ≤ TS.code 3 a → a = b := by decide
  have p6 : (six.map lsP).Pairwise fun q r => TS.code 3 q ≤ TS.code 3 r := by decide
  have n6 : (six.map lsP).Nodup := by decide
  have sb : ((six.filter (inF D)).map lsP).Sublist (six.map lsP) := List.Sublist.map _ List.filter_sublist
  have mm : ∀ q, q ∈ (six.filter (inF D)).map lsP ↔ q ∈ D.map fun p => lsP p.1 := fun q => by
    constructor
    · intro hq
      obtain ⟨p, hp, rfl⟩ := List.mem_map.mp hq
      have h2 := (List.mem_filter.mp hp).2
      have h2 : p ∈ D.map (·.1) := by simpa [inF] using h2
      obtain ⟨z, hz, rfl⟩ := List.mem_map.mp h2
      exact List.mem_map.mpr ⟨z, hz, rfl⟩
    · intro hq
      obtain ⟨z, hz, rfl⟩ := List.mem_map.mp hq
      have h2 : z.1 ∈ D.map (·.1) := List.mem_map.mpr ⟨z, hz, rfl⟩
      exact List.mem_map.mpr ⟨z.1, List.mem_filter.mpr ⟨h6 _ h2, by simpa [inF] using h2⟩, rfl⟩
  refine List.Perm.eq_of_pairwise (fun a b ha hb => e6 a ?_ b (sb.subset hb)) pw (p6.sublist sb) ((List.perm_ext_iff_of_nodup nd (n6.sublist sb)).mpr fun q => (hm q).trans (mm q).symm)
  exact sb.subset ((mm a).mpr ((hm a).mp ha))
theorem rangeC_at {lo c : Int} {n j : Nat} {u : U} (h : (rangeC lo c n)[j]? = some u) : j < n ∧ u = .int (lo + j * c) := by
  unfold rangeC at h
  rw [List.getElem?_map] at h
  by_cases hj : j < n
  · rw [List.getElem?_range hj] at h
    exact ⟨hj, (Option.some.inj h).symm⟩
  · rw [List.getElem?_eq_none (by simpa using hj)] at h
    cases h
theorem rangeC_len (lo c : Int) (n : Nat) : (rangeC lo c n).length = n := by simp [rangeC]
theorem ks_app {D : Fd} {p : Int × Int} {v : List U} : ksF (D ++ [(p, v)]) = ksF D ++ [patU p] := by simp [ksF]
theorem vs_app {D : Fd} {p : Int × Int} {v : List U} : vsF (D ++ [(p, v)]) = vsF D ++ [U.tup v] := by simp [vsF]
theorem ks_len {D : Fd} : (ksF D).length = D.length := by simp [ksF]
theorem pl_rows {L S G O N : Int} {u : Bool} (ok : OkR L S G O N) {D : Fd} (gd : GdF G u D) {P : UD} {h : Hv} {e0 e1 e2 e3 e4 e5 e7 e8 e10 e11 : Option Sv}
    (last : ∀ e10, P.nx [e0, e1, e2, e3, e4, e5, some (.dic (ksF (ringF L S G O N u D)) (vsF (ringF L S G O N u D))), e7, e8, some (.val (ringU L S G u O N)), e10, e11] h) :
    forU (gN 10) b1_places P ((rowsL L S G O N).map U.int) [e0, e1, e2, e3, e4, e5, some (.dic (ksF D) (vsF D)), e7, e8, some (.val (ringU L S G u O N)), e10, e11] h := by
  have bd := fun r hr => rows_bd7 (r := r) ok hr
  have hs := fun r (hr : r ∈ rowsL L S G O N) => ((rows_mem ok).mp hr).2
  unfold ringF at last
  generalize rowsL L S G O N = R at *
  refine forU_ix (fun j e h1 => h1 = h ∧ ∃ e10, e = [e0, e1, e2, e3, e4, e5, some (.dic (ksF ((R.take j).foldl (rowF L S G O N u) D)) (vsF ((R.take j).foldl (rowF L S G O N u) D))), e7, e8, some (.val (ringU L S G u O N)), e10, e11]) (fun e h1 I => ?_) (fun j v hv e h1 F I hF => ?_) ⟨rfl, e10, rfl⟩
  · obtain ⟨rfl, e10, rfl⟩ := I
    rw [List.length_map, List.take_length]
    exact last _
  · obtain ⟨rfl, e10, rfl⟩ := I
    rw [List.getElem?_map] at hv
    obtain ⟨r, hr, rfl⟩ := Option.map_eq_some_iff.mp hv
    have hm : r ∈ R := List.mem_of_getElem? hr
    have g1 := gd_rows ok (R.take j) D (fun q hq => by have := bd q (List.mem_of_mem_take hq); omega) gd
    have et : (R.take (j + 1)).foldl (rowF L S G O N u) D = rowF L S G O N u ((R.take j).foldl (rowF L S G O N u) D) r := by
      rw [List.take_add_one, hr, List.foldl_append]
      rfl
    have hF2 := fun e10 => hF _ h1 ⟨rfl, e10, rfl⟩
    rw [et] at hF2
    clear hF et
    generalize (R.take j).foldl (rowF L S G O N u) D = D1 at *
    have b := bd r hm
    have lp : ∀ (Po : Sv → Hv → Prop) (Pe : Ex → Hv → Prop) (h : Hv), Po (.val (patU (patF L S G O N u r))) h → sp_line_pattern [ringU L S G u O N, .int r] h Po Pe := fun _ _ _ q => ⟨ok, b.1, by omega, hs r hm, q⟩
    have l4 := gd_len g1
    have key := keyIn_D D1 (patF L S G O N u r)
    have hd := has_D (D := D1) (p := patF L S G O N u r)
    unfold rowF at hF2
    generalize patF L S G O N u r = p at *
    simp [b1_places]
    refine lp _ _ _ ?_
    simp
    refine ⟨by rw [sizeLine_eq]; omega, _, key, rfl, by rw [ks_len, sizeLine_eq]; omega, ?_⟩
    have nx := hF2 (some (.val (.int r)))
    unfold addF at nx
    rw [hd]
    by_cases hh : p ∈ D1.map (·.1)
    · rw [if_pos hh] at nx
      rw [if_pos (show inF D1 p = true by simpa [inF] using hh)]
      exact nx
    · rw [if_neg hh, ks_app, vs_app] at nx
      rw [if_neg (show ¬ inF D1 p = true by simpa [inF] using hh)]
      exact nx
theorem pl_offs {L S G g : Int} {u : Bool} (ok : OkS L S G g) {i : Nat} (hi : i < (L + 2).toNat) {D : Fd} (gd : GdF G u D) {P : UD} {h : Hv} {e0 e8 e9 e10 e11 : Option Sv}
    (last : ∀ e8 e9 e10, P.nx [e0, some (.val (.int L)), some (.val (.int S)), some (.val (.int G)), some (.val (.bl u)), some (.val (.int g)), some (.dic (ksF (slotF L S G g (1 + i) u D (L / g).toNat)) (vsF (slotF L S G g (1 + i) u D (L / g).toNat))), some (.val (.int (1 + i))), e8, e9, e10, e11] h) :
    forU (gN 8) b2_places P (rangeC 0 g (L / g).toNat) [e0, some (.val (.int L)), some (.val (.int S)), some (.val (.int G)), some (.val (.bl u)), some (.val (.int g)), some (.dic (ksF D) (vsF D)), some (.val (.int (1 + i))), e8, e9, e10, e11] h := by
  refine forU_ix (fun j e h1 => h1 = h ∧ ∃ e8 e9 e10, e = [e0, some (.val (.int L)), some (.val (.int S)), some (.val (.int G)), some (.val (.bl u)), some (.val (.int g)), some (.dic (ksF (slotF L S G g (1 + i) u D j)) (vsF (slotF L S G g (1 + i) u D j))), some (.val (.int (1 + i))), e8, e9, e10, e11]) (fun e h1 I => ?_) (fun j v hv e h1 F I hF => ?_) ⟨rfl, e8, e9, e10, rfl⟩
  · obtain ⟨rfl, e8, e9, e10, rfl⟩ := I
    rw [rangeC_len]
    exact last _ _ _
  · obtain ⟨rfl, e8, e9, e10, rfl⟩ := I
    obtain ⟨hj, rfl⟩ := rangeC_at hv
    have or := okr_of ok hj hi
    have g1 := gd_slot ok hi gd j (by omega)
    have hF2 := fun e8 e9 e10 => hF _ h1 ⟨rfl, e8, e9, e10, rfl⟩
    rw [slotF_succ] at hF2
    generalize slotF L S G g (1 + i) u D j = D1 at *
    rw [Int.zero_add]
    simp only [b2_places]
    have lp : ∀ (Po : Sv → Hv → Prop) (Pe : Ex → Hv → Prop) (h : Hv), Po (.own ((rowsL L S G (j * g) (1 + i)).map U.int)) h → sp_lines_of [ringU L S G u (j * g) (1 + i)] h Po Pe := fun _ _ _ q => ⟨_, rfl, .inl ⟨_, _, _, _, _, _, rfl, or, q⟩⟩
    simp
    refine ⟨by rw [sizeLine_eq]; omega, lp _ _ _ ?_⟩
    simp
    exact pl_rows or g1 fun e10 => hF2 _ _ e10
theorem pl_slots {L S G g : Int} {u : Bool} (ok : OkS L S G g) {P : UD} {h : Hv} {e0 e7 e8 e9 e10 e11 : Option Sv}
    (last : ∀ e7 e8 e9 e10, P.nx [e0, some (.val (.int L)), some (.val (.int S)), some (.val (.int G)), some (.val (.bl u)), some (.val (.int g)), some (.dic (ksF (allF L S G g u (L + 2).toNat)) (vsF (allF L S G g u (L + 2).toNat))), e7, e8, e9, e10, e11] h) :
    forU (gN 7) b3_places P (rangeU 1 (L + 2).toNat) [e0, some (.val (.int L)), some (.val (.int S)), some (.val (.int G)), some (.val (.bl u)), some (.val (.int g)), some (.dic [] []), e7, e8, e9, e10, e11] h := by
  have rg := rng_grain ok
  refine forU_ix (fun j e h1 => h1 = h ∧ ∃ e7 e8 e9 e10, e = [e0, some (.val (.int L)), some (.val (.int S)), some (.val (.int G)), some (.val (.bl u)), some (.val (.int g)), some (.dic (ksF (allF L S G g u j)) (vsF (allF L S G g u j))), e7, e8, e9, e10, e11]) (fun e h1 I => ?_) (fun j v hv e h1 F I hF => ?_) ⟨rfl, e7, e8, e9, e10, rfl⟩
  · obtain ⟨rfl, e7, e8, e9, e10, rfl⟩ := I
    rw [rangeU_len]
    exact last _ _ _ _
  · obtain ⟨rfl, e7, e8, e9, e10, rfl⟩ := I
    obtain ⟨hj, rfl⟩ := rangeU_at hv
    have g1 := gd_all (u := u) ok j (by omega)
    have hF2 := fun e7 e8 e9 e10 => hF _ h1 ⟨rfl, e7, e8, e9, e10, rfl⟩
    rw [allF_succ] at hF2
    generalize allF L S G g u j = D1 at *
    simp [b3_places]
    exact ⟨_, rg, pl_offs ok hj g1 fun e8 e9 e10 => hF2 _ _ _ _⟩
theorem out_loop {D : Fd} {x0 x1 x2 x3 x4 x5 x7 x8 x9 x10 : Option Sv} {Po : List U → En → Hv → Prop} {h : Hv} : ∀ (ps : List (Int × Int)) (acc : List U), (∀ p ∈ ps, inF D p = true ∧ (getF D p).length ≤ 2) → acc.length + ps.length ≤ 100 → Po (acc ++ ps.map fun p => U.tup (patU p :: getF D p)) [x0, x1, x2, x3, x4, x5, some (.dic (ksF D) (vsF D)), x7, x8, x9, x10, none] h →
    compU (gN 11) uYes (uBin bAdd (uApp bTup (uCons (uVar 11) uNil)) (uIxD 6 (uVar 11))) [11] Po (ps.map patU) acc [x0, x1, x2, x3, x4, x5, some (.dic (ksF D) (vsF D)), x7, x8, x9, x10, none] h
  | [], acc, _, _, q => by simpa [compU] using q
  | p :: ps, acc, hp, hl, q => by
    have ih := fun acc' => out_loop (x0 := x0) (x1 := x1) (x2 := x2) (x3 := x3) (x4 := x4) (x5 := x5) (x7 := x7) (x8 := x8) (x9 := x9) (x10 := x10) (Po := Po) (h := h) ps acc' (fun p hq => hp p (List.mem_cons_of_mem _ hq))
    rw [List.map_cons, compU]
    generalize compU (gN 11) uYes (uBin bAdd (uApp bTup (uCons (uVar 11) uNil)) (uIxD 6 (uVar 11))) [11] Po (ps.map patU) = F at ih ⊢
    rw [List.length_cons] at hl
    have h1 := at_D (D := D) (p := p)
    obtain ⟨hp1, hp2⟩ := hp p List.mem_cons_self
    rw [if_pos hp1] at h1
    simp [sizeLine_eq]
    refine ⟨_, keyIn_D D p, _, h1, ?_⟩
    simp
    refine ⟨by omega, by omega, ih _ (by simp; omega) (by simpa using q)⟩
theorem six_bd : ∀ p ∈ six, TS.Bd 3 (lsP p) := by
  intro p hp m hm
  simp only [six, List.mem_cons, List.not_mem_nil, or_false] at hp
  simp only [lsP, List.mem_cons, List.not_mem_nil, or_false] at hm
  rcases hp with rfl | rfl | rfl | rfl | rfl | rfl <;> rcases hm with rfl | rfl <;> decide
theorem conf_places : ∀ us h Po Pe, us.length = 1 → sp_places us h Po Pe → p_places (startE N_places us) h (bodyD Po Pe) := by
  intro us h Po Pe hl hs
  obtain ⟨r, rfl, ⟨L, S, G, g, u, rfl, ok, hp⟩ | ⟨bad, hp⟩⟩ := hs
  · skip
    have ok2 := ok
    obtain ⟨l1, l8, s1, g0, t1, t20, r1, dv⟩ := ok
    have e1 : (L + 3 - 1).toNat = (L + 2).toNat := by omega
    rw [cut_places]
    simp [r_places_0, t_places_0, startE, N_places]
    refine needR ok2 ?_
    simp [r_places_1, t_places_1]
    simp [r_places_2, t_places_2]
    simp [r_places_3, t_places_3, e1]
    refine ⟨?_, pl_slots ok2 fun e7 e8 e9 e10 => ?_⟩
    · omega
    · simp [r_places_4, t_places_4]
      have gd := gd_all (u := u) ok2 (L + 2).toNat (Nat.le_refl _)
      generalize allF L S G g u (L + 2).toNat = D at *
      have h6 : ∀ q ∈ D.map (·.1), q ∈ six := fun q hq => pats_six g0 q (gd.su q hq)
      refine ⟨D.map fun p => lsP p.1, by rw [List.map_map]; rfl, by rw [List.length_map]; exact gd_len gd, 2, by decide, 3, fun q hq => ?_, fun qs nd hm pw => ?_⟩
      · obtain ⟨z, hz, rfl⟩ := List.mem_map.mp hq
        have := h6 z.1 (List.mem_map.mpr ⟨z, hz, rfl⟩)
        exact ⟨rfl, six_bd _ this⟩
      · rw [sorted_six h6 nd hm pw, List.map_map, show uT ∘ lsP = patU from rfl]
        refine out_loop _ [] (fun p hp => ?_) ?_ (by rw [List.nil_append]; exact hp)
        · have hi := (List.mem_filter.mp hp).2
          obtain ⟨_, _, _, _, _, _, _, _, _, _, e⟩ := get_val hi gd.vl
          exact ⟨hi, by rw [e]; exact Nat.le_refl _⟩
        · have := List.length_filter_le (inF D) six
          rw [show six.length = 6 from rfl] at this
          rw [List.length_nil]
          omega
  · rw [cut_places]
    simp [r_places_0, t_places_0, startE, N_places]
    exact needRb bad hp

def t_law_bad_room_7 : US := (uRet (uCall 2 sp_law_among [] (uCons (uVar 0) (uCons (uApp bLst (uCons (uApp bList (uCons (uVar 1) uNil)) (uCons (uBin bAdd (uSl bSl (uVar 1) uNoP (uP (uVal (.int 4)))) (uApp bTup (uCons (uVal (.int 0)) (uCons (uVal (.int 1)) uNil)))) (uCons (uVal .non) (uCons (uVal (.int 0)) (uCons (uVal (.str "line")) (uCons (uApp bTup (uCons (uVar 1) uNil)) (uCons (uBin bAdd (uVar 1) (uApp bTup (uCons (uVal (.int 1)) uNil))) (uCons (uRev (uVar 1)) uNil))))))))) uNil))))
def r_law_bad_room_7 : US := t_law_bad_room_7
def t_law_bad_room_6 : US := (uIf (uB (uBin bEq (uVar 3) (uVal (.int 8)))) (uRet (uBin bAdd (uSl bSl (uVar 1) uNoP (uP (uVar 2))) (uSl bSl (uVar 1) (uP (uBin bAdd (uVar 2) (uVal (.int 1)))) uNoP))) uNext)
def r_law_bad_room_6 : US := uSeq t_law_bad_room_6 r_law_bad_room_7
def t_law_bad_room_5 : US := (uIf (uB (uBin bEq (uVar 3) (uVal (.int 7)))) (uSeq (uSet 2 (uCall 2 sp_law_pick [] (uCons (uVar 0) (uCons (uVal (.int 5)) uNil))))
  (uSeq (uSet 6 (uBin bIx (uApp bLst (uCons (uApp bLst (uCons (uVal (.int 0)) (uCons (uVal (.bl true)) uNil))) (uCons (uApp bLst (uCons (uVal (.int 0)) (uCons (uVal (.bl true)) uNil))) (uCons (uApp bLst (uCons (uVal (.bl true)) (uCons (uVal (.bl false)) uNil))) (uCons (uApp bLst (uCons (uVal (.int 0)) (uCons (uVal (.int 1)) uNil))) (uCons (uApp bLst (uCons (uVal (.int 0)) (uCons (uVal (.bl true)) uNil))) uNil)))))) (uVar 2)))
  (uRet (uBin bAdd (uBin bAdd (uSl bSl (uVar 1) uNoP (uP (uVar 2))) (uApp bTup (uCons (uCall 2 sp_law_among [] (uCons (uVar 0) (uCons (uVar 6) uNil))) uNil))) (uSl bSl (uVar 1) (uP (uBin bAdd (uVar 2) (uVal (.int 1)))) uNoP))))) uNext)
def r_law_bad_room_5 : US := uSeq t_law_bad_room_5 r_law_bad_room_6
def t_law_bad_room_4 : US := (uIf (uB (uBin bLt (uVar 3) (uVal (.int 7)))) (uSeq (uSet 5 (uBin bAdd (uVal (.int 1)) (uCall 2 sp_law_pick [] (uCons (uVar 0) (uCons (uBin bIx (uVar 1) (uVal (.int 0))) uNil)))))
  (uRet (uBin bAdd (uApp bTup (uCons (uBin bIx (uVar 1) (uVal (.int 0))) (uCons (uVar 5) (uCons (uBin bSub (uBin bSub (uBin bIx (uVar 1) (uVal (.int 0))) (uVar 5)) (uVal (.int 1))) uNil)))) (uSl bSl (uVar 1) (uP (uVal (.int 3))) uNoP)))) uNext)
def r_law_bad_room_4 : US := uSeq t_law_bad_room_4 r_law_bad_room_5
def t_law_bad_room_3 : US := (uIf (uB (uBin bLt (uVar 3) (uVal (.int 5)))) (uSeq (uSet 4 (uLc (uIter bRange2 (uCons (uVal (.int 2)) (uCons (uBin bAdd (uBin bMul (uVal (.int 2)) (uBin bIx (uVar 1) (uVal (.int 0)))) (uVal (.int 2))) uNil))) (gN 7) (uB (uBin bNe (uBin bMod (uApp bInt (uCons (uBin bIx (uVar 1) (uVal (.int 0))) uNil)) (uVar 7)) (uVal (.int 0)))) (uVar 7) [7]))
  (uRet (uBin bAdd (uSl bSl (uVar 1) uNoP (uP (uVal (.int 4)))) (uApp bTup (uCons (uCall 2 sp_law_among [] (uCons (uVar 0) (uCons (uVar 4) uNil))) uNil))))) uNext)
def r_law_bad_room_3 : US := uSeq t_law_bad_room_3 r_law_bad_room_4
def t_law_bad_room_2 : US := (uIf (uB (uBin bLt (uVar 3) (uVal (.int 2)))) (uRet (uBin bAdd (uBin bAdd (uSl bSl (uVar 1) uNoP (uP (uVar 2))) (uApp bTup (uCons (uCall 2 sp_law_among [] (uCons (uVar 0) (uCons (uApp bLst (uCons (uVal .non) (uCons (uNeg (uVal (.int 1))) (uCons (uVal (.str "1")) (uCons (uApp bLst (uCons (uVal (.int 1)) uNil)) (uCons (uApp bTup (uCons (uVal (.int 1)) uNil)) (uCons (uNeg (uBin bPow (uVal (.int 10)) (uVal (.int 20)))) uNil))))))) uNil))) uNil))) (uSl bSl (uVar 1) (uP (uBin bAdd (uVar 2) (uVal (.int 1)))) uNoP))) uNext)
def r_law_bad_room_2 : US := uSeq t_law_bad_room_2 r_law_bad_room_3
def t_law_bad_room_1 : US := (uSet 3 (uCall 2 sp_law_pick [] (uCons (uVar 0) (uCons (uVal (.int 10)) uNil))))
def r_law_bad_room_1 : US := uSeq t_law_bad_room_1 r_law_bad_room_2
def t_law_bad_room_0 : US := (uSet 2 (uCall 2 sp_law_pick [] (uCons (uVar 0) (uCons (uVal (.int 5)) uNil))))
def r_law_bad_room_0 : US := uSeq t_law_bad_room_0 r_law_bad_room_1
theorem cut_law_bad_room : p_law_bad_room = r_law_bad_room_0 := rfl
def big20 : Int := -100000000000000000000
theorem big20_lt : big20 < 0 := by decide
theorem big20_lb : LB big20 110 := by show Int.natAbs big20 < 2 ^ 110; decide +kernel
theorem pow20 : uNeg (uBin bPow (uVal (.int 10)) (uVal (.int 20))) = uVal (.int big20) := by
  funext env h Po Pe
  have hc : CPow 10 20 := ⟨by decide, by decide, by decide⟩
  exact propext ⟨fun q => q.2, fun q => ⟨hc, q⟩⟩
theorem iok_int {i : Int} (h : LB i 110) : Iok (.int i) := ⟨rfl, (sh_int (k := 110) (by omega) h.log).mono (by omega) (by omega)⟩
theorem iok_sm {i : Int} (h0 : -100000 ≤ i) (h1 : i ≤ 100000) : Iok (.int i) := iok_int (by show Int.natAbs _ < 2 ^ 110; omega)
theorem iok_bl {b : Bool} : Iok (.bl b) := ⟨rfl, sh_bl.mono (by omega) (by omega)⟩
theorem iok_non : Iok .non := ⟨rfl, sh_non.mono (by omega) (by omega)⟩
theorem iok_s1 : Iok (.str "1") := ⟨rfl, (sh_str (n := 10) (by decide +kernel)).mono (by omega) (by omega)⟩
theorem iok_sl : Iok (.str "line") := ⟨rfl, (sh_str (n := 10) (by decide +kernel)).mono (by omega) (by omega)⟩
theorem iok_l1 : Iok (.lst [.int 1]) := ⟨rfl, ((shs_of (n := 62) (k := 0) (fun w hw => by
  simp at hw
  subst hw
  exact sh_int (k := 60) (by omega) (LB.log (by show Int.natAbs _ < 2 ^ 60; decide))) : ShBs [.int 1] 62 0).lst).mono (by simp) (by omega)⟩
theorem iok_t1 : Iok (.tup [.int 1]) := ⟨rfl, ((shs_of (n := 62) (k := 0) (fun w hw => by
  simp at hw
  subst hw
  exact sh_int (k := 60) (by omega) (LB.log (by show Int.natAbs _ < 2 ^ 60; decide))) : ShBs [.int 1] 62 0).tup).mono (by simp) (by omega)⟩
theorem iok_big : Iok (.int big20) := iok_int big20_lb
theorem vok_tup {us : List U} (h : ∀ w ∈ us, Iok w) (hl : us.length ≤ 8) : Vok (.tup us) := by
  refine ⟨?_, ((shs_of (n := 500) (k := 1) fun w hw => (h w hw).2).tup).mono (by omega) (by omega)⟩
  unfold wellT
  simp
  exact ⟨rfl, fun w hw => (h w hw).1⟩
theorem vok_lst {us : List U} (h : ∀ w ∈ us, Iok w) (hl : us.length ≤ 8) : Vok (.lst us) := by
  refine ⟨rfl, ((shs_of (n := 500) (k := 1) fun w hw => (h w hw).2).lst).mono (by omega) (by omega)⟩
theorem vok_i {u : U} (h : Iok u) (ht : wellT u = true) : Vok u := ⟨ht, h.2.mono (by omega) (by omega)⟩
theorem vok_one {us : List U} (h : ∀ w ∈ us, Iok w) (hl : us.length ≤ 6) : Vok (.tup [.tup us]) := by
  refine ⟨by simp [wellT, typed], ?_⟩
  have : ShBs [U.tup us] 4000 2 := shs_of fun w hw => by
    simp at hw
    subst hw
    exact ((shs_of (n := 500) (k := 1) fun w hw => (h w hw).2).tup).mono (by omega) (by omega)
  exact this.tup.mono (by simp) (by omega)
theorem lay_no {us : List U} (h : ¬ us.length = 6) : isLay (.tup us) = false := by
  unfold isLay
  split
  · rename_i e
    cases e
    exact absurd rfl h
  · rfl
theorem whole_neg {l : Int} (h : 0 ≤ l) : isWhole (.int big20) l = false := by
  have := big20_lt
  simp only [isWhole]
  exact decide_eq_false (by omega)
/-- six good items -/
theorem iok_ring {L S G O N : Int} {u : Bool} (ok : OkR L S G O N) : ∀ w ∈ [U.int L, .int S, .int G, .bl u, .int O, .int N], Iok w := by
  obtain ⟨l1, l8, s1, g0, t1, t20, o0, o1, n1, n12⟩ := ok
  intro w hw
  simp only [List.mem_cons, List.not_mem_nil, or_false] at hw
  rcases hw with rfl | rfl | rfl | rfl | rfl | rfl
  · exact iok_sm (by omega) (by omega)
  · exact iok_sm (by omega) (by omega)
  · exact iok_sm (by omega) (by omega)
  · exact iok_bl
  · exact iok_sm (by omega) (by omega)
  · exact iok_sm (by omega) (by omega)
/-- one item put in the place of another -/
def putAt (us : List U) (d : Nat) (x : U) : List U := us.take d ++ [x] ++ us.drop (d + 1)
theorem put_iok {us : List U} {d : Nat} {x : U} (h : ∀ w ∈ us, Iok w) (hx : Iok x) : ∀ w ∈ putAt us d x, Iok w := by
  intro w hw
  unfold putAt at hw
  rcases List.mem_append.mp hw with hw | hw
  · rcases List.mem_append.mp hw with hw | hw
    · exact h w (List.mem_of_mem_take hw)
    · rw [List.mem_singleton.mp hw]; exact hx
  · exact h w (List.mem_of_mem_drop hw)
theorem del_iok {us : List U} {d : Nat} (h : ∀ w ∈ us, Iok w) : ∀ w ∈ us.take d ++ us.drop (d + 1), Iok w := by
  intro w hw
  rcases List.mem_append.mp hw with hw | hw
  · exact h w (List.mem_of_mem_take hw)
  · exact h w (List.mem_of_mem_drop hw)
theorem cut_to' {us : List U} {d : Nat} (h : d ≤ us.length) : cutU us none (some (d : Int)) = us.take d := by
  unfold cutU
  rw [HT.sIx_nat]
  simp [HT.sIx, Nat.min_eq_left h]
theorem cut_from' {us : List U} {d : Nat} (h : d + 1 ≤ us.length) : cutU us (some ((d : Int) + 1)) none = us.drop (d + 1) := by
  unfold cutU
  rw [show ((d : Int) + 1) = ((d + 1 : Nat) : Int) from rfl, HT.sIx_nat]
  simp only [HT.sIx, Nat.min_eq_left h]
  rw [List.take_of_length_le]
  rw [List.length_drop]
  omega
/-- the first odd values -/
def oddL : List U := [.non, .int (-1), .str "1", .lst [.int 1], .tup [.int 1], .int big20]
theorem odd_iok : ∀ x ∈ oddL, Iok x := by
  intro x hx
  simp only [oddL, List.mem_cons, List.not_mem_nil, or_false] at hx
  rcases hx with rfl | rfl | rfl | rfl | rfl | rfl
  · exact iok_non
  · exact iok_sm (by omega) (by omega)
  · exact iok_s1
  · exact iok_l1
  · exact iok_t1
  · exact iok_big
theorem odd_whole {l : Int} (h : 0 ≤ l) : ∀ x ∈ oddL, isWhole x l = false ∧ isBl x = false := by
  intro x hx
  simp only [oddL, List.mem_cons, List.not_mem_nil, or_false] at hx
  rcases hx with rfl | rfl | rfl | rfl | rfl | rfl <;> first | exact ⟨rfl, rfl⟩ | exact ⟨decide_eq_false (by omega), rfl⟩ | exact ⟨whole_neg h, rfl⟩
theorem lay_put {L S G O N : Int} {u : Bool} {d : Nat} (hd : d < 6) {x : U} (w0 : isWhole x 0 = false) (w1 : isWhole x 1 = false) (b : isBl x = false) : isLay (.tup (putAt [.int L, .int S, .int G, .bl u, .int O, .int N] d x)) = false := by
  have : d = 0 ∨ d = 1 ∨ d = 2 ∨ d = 3 ∨ d = 4 ∨ d = 5 := by omega
  rcases this with rfl | rfl | rfl | rfl | rfl | rfl <;> simp [putAt, isLay, hasM, w0, w1, b]
theorem lay_put1 {L S G O N : Int} {u : Bool} {d : Nat} (hd : d = 0 ∨ d = 1 ∨ d = 5) {x : U} (w1 : isWhole x 1 = false) : isLay (.tup (putAt [.int L, .int S, .int G, .bl u, .int O, .int N] d x)) = false := by
  rcases hd with rfl | rfl | rfl <;> simp [putAt, isLay, hasM, w1]
theorem lay_put0 {L S G O N : Int} {u : Bool} {d : Nat} (hd : d = 2 ∨ d = 4) {x : U} (w0 : isWhole x 0 = false) : isLay (.tup (putAt [.int L, .int S, .int G, .bl u, .int O, .int N] d x)) = false := by
  rcases hd with rfl | rfl <;> simp [putAt, isLay, hasM, w0]
theorem room_no7 {us : List U} (h : ¬ us.length = 5) : isRoom (.tup us) = false := by
  unfold isRoom
  split
  · rename_i e
    cases e
    exact absurd rfl h
  · rfl
theorem iok_room {L S G g : Int} {u : Bool} (ok : OkS L S G g) : ∀ w ∈ [U.int L, .int S, .int G, .bl u, .int g], Iok w := by
  have := (grain_le ok).1
  obtain ⟨l1, l8, s1, g0, t1, t20, r1, dv⟩ := ok
  intro w hw
  simp only [List.mem_cons, List.not_mem_nil, or_false] at hw
  rcases hw with rfl | rfl | rfl | rfl | rfl
  · exact iok_sm (by omega) (by omega)
  · exact iok_sm (by omega) (by omega)
  · exact iok_sm (by omega) (by omega)
  · exact iok_bl
  · exact iok_sm (by omega) (by omega)
theorem room_put {L S G g : Int} {u : Bool} {d : Nat} (hd : d < 5) {x : U} (w0 : isWhole x 0 = false) (w1 : isWhole x 1 = false) (b : isBl x = false) : isRoom (.tup (putAt [.int L, .int S, .int G, .bl u, .int g] d x)) = false := by
  have : d = 0 ∨ d = 1 ∨ d = 2 ∨ d = 3 ∨ d = 4 := by omega
  rcases this with rfl | rfl | rfl | rfl | rfl <;> simp [putAt, isRoom, hasM, w0, w1, b]
theorem inV_ints6 (n : Int) : ∀ l : List Int, inV (.int n) (l.map V.int) = decide (n ∈ l)
  | [] => rfl
  | y :: l => by
    have ih := inV_ints6 n l
    unfold inV at ih ⊢
    rw [List.map_cons, List.any_cons, ih]
    by_cases h : y = n
    · subst h
      simp [eqV]
    · have h' : ¬ n = y := fun z => h z.symm
      simp [eqV, h, h']
theorem inU_ints6 (n : Int) (l : List Int) : inU? (.int n) (.lst (l.map U.int)) = some (decide (n ∈ l)) := by
  unfold inU?
  simp only [flatU, seqU, Option.bind_some, flatUs_ints, inV_ints6]
theorem pow30 : uBin bPow (uVal (.int 10)) (uVal (.int 30)) = uVal (.int 1000000000000000000000000000000) := by
  funext env h Po Pe
  have hc : CPow 10 30 := ⟨by decide, by decide, by decide⟩
  exact propext ⟨fun q => q.2, fun q => ⟨hc, q⟩⟩
def big30 : Int := 1000000000000000000000000000000
theorem big30_lb : LB big30 110 ∧ LB (-big30) 110 := ⟨by show Int.natAbs big30 < 2 ^ 110; decide +kernel, by show Int.natAbs (-big30) < 2 ^ 110; decide +kernel⟩
theorem pow30' : uBin bPow (uVal (.int 10)) (uVal (.int 30)) = uVal (.int big30) := pow30
theorem neg30 : uNeg (uVal (.int big30)) = uVal (.int (-big30)) := by
  funext env h Po Pe
  rfl
theorem tok_int {i : Int} (h : LB i 110) : Tok (.int i) := ⟨rfl, fun j e => by cases e; exact h⟩
theorem tok_o {u : U} (ht : typed u = true) (hn : ∀ i, u ≠ .int i) : Tok u := ⟨ht, fun i e => absurd e (hn i)⟩
def TokS (v : U) : Prop := Tok v ∧ ShB v 500 1
theorem toks_int {i : Int} (h : LB i 110) : TokS (.int i) := ⟨tok_int h, (iok_int h).2⟩
theorem toks_i {u : U} (h : Iok u) (hn : ∀ i, u ≠ .int i) : TokS u := ⟨tok_o h.1 hn, h.2⟩
theorem sh_emp1 : ShB (.lst []) 500 1 := (shs_of (n := 0) (k := 0) fun w hw => by cases hw).lst.mono (by simp) (by omega)
theorem sh_emp2 : ShB (.tup []) 500 1 := (shs_of (n := 0) (k := 0) fun w hw => by cases hw).tup.mono (by simp) (by omega)
theorem iok_l0 : Iok (.lst [.int 0]) := ⟨rfl, ((shs_of (n := 62) (k := 0) (fun w hw => by
  simp at hw
  subst hw
  exact sh_int (k := 60) (by omega) (LB.log (by show Int.natAbs _ < 2 ^ 60; decide))) : ShBs [.int 0] 62 0).lst).mono (by simp) (by omega)⟩
theorem iok_t0 : Iok (.tup [.int 0]) := ⟨rfl, ((shs_of (n := 62) (k := 0) (fun w hw => by
  simp at hw
  subst hw
  exact sh_int (k := 60) (by omega) (LB.log (by show Int.natAbs _ < 2 ^ 60; decide))) : ShBs [.int 0] 62 0).tup).mono (by simp) (by omega)⟩
theorem iok_s0 : Iok (.str "0") := ⟨rfl, (sh_str (n := 10) (by decide +kernel)).mono (by omega) (by omega)⟩
theorem iok_se : Iok (.str "") := ⟨rfl, (sh_str (n := 10) (by decide +kernel)).mono (by omega) (by omega)⟩
def secL (m B : Int) : List U := [.int (-1), .int (m + 1), .int (m + 2), .int (-1 - m), .bl true, .bl false, .non, .str "0", .str "", .lst [.int 0], .tup [.int 0], .tup [], .lst [], .int B, .int (-B)]
theorem secL_ok {m : Int} (m0 : 0 ≤ m) (m1 : m ≤ 10000) : ∀ x ∈ secL m big30, TokS x := by
  intro x hx
  have sm : ∀ i : Int, -100000 ≤ i → i ≤ 100000 → TokS (.int i) := fun i h0 h1 => toks_int (by show Int.natAbs _ < 2 ^ 110; omega)
  simp only [secL, List.mem_cons, List.not_mem_nil, or_false] at hx
  rcases hx with rfl | rfl | rfl | rfl | rfl | rfl | rfl | rfl | rfl | rfl | rfl | rfl | rfl | rfl | rfl
  · exact sm _ (by omega) (by omega)
  · exact sm _ (by omega) (by omega)
  · exact sm _ (by omega) (by omega)
  · exact sm _ (by omega) (by omega)
  · exact toks_i iok_bl (fun i e => by cases e)
  · exact toks_i iok_bl (fun i e => by cases e)
  · exact toks_i iok_non (fun i e => by cases e)
  · exact toks_i iok_s0 (fun i e => by cases e)
  · exact toks_i iok_se (fun i e => by cases e)
  · exact toks_i iok_l0 (fun i e => by cases e)
  · exact toks_i iok_t0 (fun i e => by cases e)
  · exact ⟨tok_o rfl (fun i e => by cases e), sh_emp2⟩
  · exact ⟨tok_o rfl (fun i e => by cases e), sh_emp1⟩
  · exact toks_int big30_lb.1
  · exact toks_int big30_lb.2
theorem at_lastL {l : List Int} (h : l ≠ []) : ∃ m ∈ l, L2.atI (l.map U.int) (-1) = some (.int m) := by
  obtain ⟨a, c, e⟩ : ∃ a c, l = a ++ [c] := ⟨l.dropLast, l.getLast h, (List.dropLast_concat_getLast h).symm⟩
  refine ⟨c, by rw [e]; simp, ?_⟩
  have e2 : L2.ixN (a.map U.int ++ [U.int c]).length (-1) = some (a.map U.int).length := by
    simp [L2.ixN]
    omega
  rw [e, List.map_append]
  unfold L2.atI
  rw [show List.map U.int [c] = [U.int c] from rfl, e2]
  simp
/-! ### an expression with one outcome (keeps simp away from branches) -/
def Ev (t : UE) (env : En) (h : Hv) (sv : Sv) : Prop := ∀ (Po : Sv → En → Hv → Prop) (Pe : Ex → En → Hv → Prop), Po sv env h → t env h Po Pe
def EvA (t : UA) (env : En) (h : Hv) (us : List U) : Prop := ∀ (Po : List U → En → Hv → Prop) (Pe : Ex → En → Hv → Prop), Po us env h → t env h Po Pe
def EvP (t : UM (Option Int)) (env : En) (h : Hv) (o : Option Int) : Prop := ∀ (Po : Option Int → En → Hv → Prop) (Pe : Ex → En → Hv → Prop), Po o env h → t env h Po Pe
section
variable {env : En} {h : Hv} {t a b : UE} {r : UA} {sv x y : Sv} {us vs : List U}
theorem ev_set {k : Nat} {P : UD} (e : Ev t env h sv) (hk : k < env.length) (q : P.nx (env.set k (some (.val sv.u))) h) : uSet k t env h P := e _ _ ⟨hk, q⟩
theorem ev_val (u : U) : Ev (uVal u) env h (.val u) := fun _ _ q => q
theorem ev_var {i : Nat} {u : U} (e : env[i]? = some (some (.val u))) : Ev (uVar i) env h (.val u) := fun Po Pe q => by simp only [uVar, e]; exact q
theorem ev_bin {f : UO} (ea : Ev a env h x) (eb : Ev b env h y) (ef : ∀ P : Sv → Hv → Prop, P sv h → f x.u y.u h P) : Ev (uBin f a b) env h sv := fun _ _ q => ea _ _ (eb _ _ (ef _ q))
theorem ev_app {f : UB} (ea : EvA r env h us) (ef : ∀ P : Sv → Hv → Prop, P sv h → f us h P) : Ev (uApp f r) env h sv := fun _ _ q => ea _ _ (ef _ q)
theorem ev_neg {i : Int} (ea : Ev a env h (.val (.int i))) : Ev (uNeg a) env h (.val (.int (-i))) := fun _ _ q => ea _ _ q
theorem eva_nil : EvA uNil env h [] := fun _ _ q => q
theorem eva_cons (ea : Ev a env h x) (er : EvA r env h us) : EvA (uCons a r) env h (x.u :: us) := fun _ _ q => ea _ _ (er _ _ q)
theorem evp_no : EvP uNoP env h none := fun _ _ q => q
theorem evp_p {i : Int} (ea : Ev a env h (.val (.int i))) : EvP (uP a) env h (some i) := fun _ _ q => ea _ _ q
theorem ev_sl {lo hi : Option Int} {tl th : UM (Option Int)} (ea : Ev a env h (.val (.tup us))) (el : EvP tl env h lo) (eh : EvP th env h hi) : Ev (uSl bSl a tl th) env h (.val (.tup (cutU us lo hi))) := fun _ _ q => ea _ _ (el _ _ (eh _ _ q))
theorem ev_slL {lo hi : Option Int} {tl th : UM (Option Int)} (ea : Ev a env h (.val (.lst us))) (el : EvP tl env h lo) (eh : EvP th env h hi) : Ev (uSl bSl a tl th) env h (.own (cutU us lo hi)) := fun _ _ q => ea _ _ (el _ _ (eh _ _ q))
theorem f_ixT {i : Int} {u : U} (e : L2.atI us i = some u) (P : Sv → Hv → Prop) (q : P (.val u) h) : bIx (.tup us) (.int i) h P := by simp [e]; exact q
theorem f_ixL {i : Int} {u : U} (e : L2.atI us i = some u) (P : Sv → Hv → Prop) (q : P (.val u) h) : bIx (.lst us) (.int i) h P := by simp [e]; exact q
theorem f_addT (hz : us.length + vs.length ≤ sizeLine) (P : Sv → Hv → Prop) (q : P (.val (.tup (us ++ vs))) h) : bAdd (.tup us) (.tup vs) h P := ⟨hz, q⟩
theorem f_addL (hz : us.length + vs.length ≤ sizeLine) (P : Sv → Hv → Prop) (q : P (.own (us ++ vs)) h) : bAdd (.lst us) (.lst vs) h P := ⟨hz, q⟩
theorem f_addI {i j : Int} (P : Sv → Hv → Prop) (q : P (.val (.int (i + j))) h) : bAdd (.int i) (.int j) h P := q
theorem f_tup (hz : us.length ≤ sizeLine) (P : Sv → Hv → Prop) (q : P (.val (.tup us)) h) : bTup us h P := ⟨hz, q⟩
theorem f_lst (hz : us.length ≤ sizeLine) (P : Sv → Hv → Prop) (q : P (.own us) h) : bLst us h P := ⟨hz, q⟩
theorem f_listT (P : Sv → Hv → Prop) (q : P (.own us) h) : bList [.tup us] h P := q
theorem f_lenT (P : Sv → Hv → Prop) (q : P (.val (.int us.length)) h) : bLen [.tup us] h P := q
theorem ev_if {c : UT} {p q : US} {P : UD} {v : Bool} (ec : ∀ (Po : Bool → En → Hv → Prop) (Pe : Ex → En → Hv → Prop), Po v env h → c env h Po Pe) (hp : v = true → p env h P) (hq : v = false → q env h P) : uIf c p q env h P := ec _ _ (by cases v with | true => rw [if_pos rfl]; exact hp rfl | false => rw [if_neg Bool.false_ne_true]; exact hq rfl)
theorem evt_b {v : Bool} (ea : Ev a env h (.val (.bl v))) (Po : Bool → En → Hv → Prop) (Pe : Ex → En → Hv → Prop) (q : Po v env h) : uB a env h Po Pe := ea _ _ q
theorem ev_gt {i j : Int} (ea : Ev a env h (.val (.int i))) (eb : Ev b env h (.val (.int j))) : Ev (uBin bGt a b) env h (.val (.bl (decide (j < i)))) := ev_bin ea eb fun P q => by simpa using q
theorem ev_eqI {i j : Int} (ea : Ev a env h (.val (.int i))) (eb : Ev b env h (.val (.int j))) : Ev (uBin bEq a b) env h (.val (.bl (decide (i = j)))) := ev_bin ea eb fun P q => by simpa using q
theorem ev_ret {P : UD} (e : Ev t env h sv) (q : P.rt sv env h) : uRet t env h P := e _ _ q
theorem ev_call {k : Nat} {sp : FS} {Po : Sv → En → Hv → Prop} {Pe : Ex → En → Hv → Prop} (ea : EvA r env h us) (hl : us.length = k) (q : sp us h (fun sv h2 => Po sv env h2) fun ex h2 => Pe ex env h2) : uCall k sp [] r env h Po Pe := by
  unfold uCall
  refine ea _ _ ?_
  first | exact ⟨hl, by simpa using q⟩ | (simp [hl]; exact q)
/-- the first operand has one outcome, the second may be a call -/
theorem ev_binL {f : UO} {Po : Sv → En → Hv → Prop} {Pe : Ex → En → Hv → Prop} (ea : Ev a env h x) (q : b env h (fun y env2 h2 => f x.u y.u h2 (fun sv h3 => Po sv env2 h3)) Pe) : uBin f a b env h Po Pe := ea _ _ q
theorem bin_go {f : UO} {Po : Sv → En → Hv → Prop} {Pe : Ex → En → Hv → Prop} (q : a env h (fun x env1 h1 => b env1 h1 (fun y env2 h2 => f x.u y.u h2 (fun sv h3 => Po sv env2 h3)) Pe) Pe) : uBin f a b env h Po Pe := q
theorem app_go {f : UB} {Po : Sv → En → Hv → Prop} {Pe : Ex → En → Hv → Prop} (q : r env h (fun us env1 h1 => f us h1 fun sv h2 => Po sv env1 h2) Pe) : uApp f r env h Po Pe := q
theorem cons_go {Po : List U → En → Hv → Prop} {Pe : Ex → En → Hv → Prop} (q : a env h (fun x env1 h1 => r env1 h1 (fun xs env2 h2 => Po (x.u :: xs) env2 h2) Pe) Pe) : uCons a r env h Po Pe := q
theorem ret_go {P : UD} (q : t env h P.rt P.er) : uRet t env h P := q
theorem set_go {k : Nat} {rest : US} {P : UD} (e : Ev t env h sv) (hk : k < env.length) (q : rest (env.set k (some (.val sv.u))) h P) : uSeq (uSet k t) rest env h P := e _ _ ⟨hk, q⟩
theorem seq_if {c : UT} {p q rest : US} {P : UD} {v : Bool} (ec : ∀ (Po : Bool → En → Hv → Prop) (Pe : Ex → En → Hv → Prop), Po v env h → c env h Po Pe) (hp : v = true → p env h { nx := fun e h => rest e h P, rt := P.rt, er := P.er, bk := P.bk, ct := P.ct }) (hq : v = false → q env h { nx := fun e h => rest e h P, rt := P.rt, er := P.er, bk := P.bk, ct := P.ct }) : uSeq (uIf c p q) rest env h P := ev_if (P := { nx := fun e h => rest e h P, rt := P.rt, er := P.er, bk := P.bk, ct := P.ct }) ec hp hq
theorem f_pow (P : Sv → Hv → Prop) (q : P (.val (.int (10 ^ 30))) h) : bPow (.int 10) (.int 30) h P := by
  have hc : CPow 10 30 := ⟨by decide, by decide, by decide⟩
  simp [hc]
  exact q
theorem seqif_bin {f : UO} {p q rest : US} {P : UD} (g : a env h (fun x env1 h1 => b env1 h1 (fun y env2 h2 => f x.u y.u h2 (fun sv h3 => svB sv fun v => if v = true then p env2 h3 { nx := fun e h => rest e h P, rt := P.rt, er := P.er, bk := P.bk, ct := P.ct } else q env2 h3 { nx := fun e h => rest e h P, rt := P.rt, er := P.er, bk := P.bk, ct := P.ct })) P.er) P.er) : uSeq (uIf (uB (uBin f a b)) p q) rest env h P := g
theorem ev_revL (ea : Ev a env h (.own us)) : Ev (uRev a) env h (.own us.reverse) := fun _ _ q => ea _ _ q
theorem f_eqI {i j : Int} (P : Sv → Hv → Prop) (q : P (.val (.bl (decide (i = j)))) h) : bEq (.int i) (.int j) h P := q
theorem next_go {P : UD} (q : P.nx env h) : uNext env h P := q
end
theorem conf_law_bad_room : ∀ us h Po Pe, us.length = 2 → sp_law_bad_room us h Po Pe → p_law_bad_room (startE N_law_bad_room us) h (bodyD Po Pe) := by
  intro us h Po Pe hl hs
  obtain ⟨i, k, L, S, G, g, u, rfl, ok, p0, hk, q⟩ := hs
  have ir := iok_room (u := u) ok
  have ok2 := ok
  obtain ⟨l1, l8, s1, g0, t1, t20, r1, dvv⟩ := ok
  have a0 : L2.atI [U.int L, .int S, .int G, .bl u, .int g] 0 = some (.int L) := by simp [L2.atI, L2.ixN]
  have c4 : cutU [U.int L, .int S, .int G, .bl u, .int g] none (some 4) = [.int L, .int S, .int G, .bl u] := by simp [cutU, HT.sIx]
  have d3 : cutU [U.int L, .int S, .int G, .bl u, .int g] (some 3) none = [.bl u, .int g] := by simp [cutU, HT.sIx]
  have sz : sizeLine = 16777216 := sizeLine_eq
  have lr : [U.int L, .int S, .int G, .bl u, .int g].length = 5 := rfl
  have ig : Iok (.int g) := ir _ (by simp)
  have iL : Iok (.int L) := ir _ (by simp)
  have iS : Iok (.int S) := ir _ (by simp)
  have iG : Iok (.int G) := ir _ (by simp)
  have iu : Iok (.bl u) := iok_bl
  have rep : ∀ {a b c d e : U}, Iok a → Iok b → Iok c → Iok d → Iok e → Vok (.tup [a, b, c, d, e]) := fun h1 h2 h3 h4 h5 => vok_tup (fun w hw => by
    simp only [List.mem_cons, List.not_mem_nil, or_false] at hw
    rcases hw with rfl | rfl | rfl | rfl | rfl <;> assumption) (by simp)
  have lp := fun (d : Nat) (hd : d < 5) (x : U) (w0 : isWhole x 0 = false) (w1 : isWhole x 1 = false) (b : isBl x = false) => room_put (L := L) (S := S) (G := G) (g := g) (u := u) hd w0 w1 b
  have pv : ∀ (d : Nat) (x : U), Iok x → d < 5 → Vok (.tup (putAt [.int L, .int S, .int G, .bl u, .int g] d x)) := fun d x hx hd => vok_tup (put_iok ir hx) (by simp [putAt]; omega)
  have dv : ∀ d : Nat, d < 5 → Vok (.tup ([U.int L, .int S, .int G, .bl u, .int g].take d ++ [U.int L, .int S, .int G, .bl u, .int g].drop (d + 1))) ∧ isRoom (.tup ([U.int L, .int S, .int G, .bl u, .int g].take d ++ [U.int L, .int S, .int G, .bl u, .int g].drop (d + 1))) = false := fun d hd =>
    ⟨vok_tup (del_iok ir) (by simp; omega), room_no7 (by simp; omega)⟩
  have cto : ∀ d : Nat, d < 5 → cutU [U.int L, .int S, .int G, .bl u, .int g] none (some (d : Int)) = [U.int L, .int S, .int G, .bl u, .int g].take d := fun d hd => cut_to' (by rw [lr]; omega)
  have cfr : ∀ d : Nat, d < 5 → cutU [U.int L, .int S, .int G, .bl u, .int g] (some ((d : Int) + 1)) none = [U.int L, .int S, .int G, .bl u, .int g].drop (d + 1) := fun d hd => cut_from' (by rw [lr]; omega)
  have l1' : ∀ d : Nat, ([U.int L, .int S, .int G, .bl u, .int g].take d).length ≤ 6 := fun d => by rw [List.length_take, lr]; omega
  have l2' : ∀ d : Nat, ([U.int L, .int S, .int G, .bl u, .int g].drop d).length ≤ 6 := fun d => by rw [List.length_drop, lr]; omega
  have pa : ∀ (d : Nat) (x : U), [U.int L, .int S, .int G, .bl u, .int g].take d ++ x :: [U.int L, .int S, .int G, .bl u, .int g].drop (d + 1) = putAt [U.int L, .int S, .int G, .bl u, .int g] d x := fun d x => by simp [putAt]
  rw [cut_law_bad_room]
  simp [r_law_bad_room_0, t_law_bad_room_0, startE, N_law_bad_room, sp_law_pick]
  refine ⟨k, p0, by omega, by decide, fun h1 d p1 r1' d0 d1 => ?_⟩
  obtain ⟨d, rfl⟩ : ∃ n : Nat, d = (n : Int) := ⟨d.toNat, by omega⟩
  have hd : d < 5 := by omega
  simp [r_law_bad_room_1, t_law_bad_room_1, sp_law_pick]
  refine ⟨_, p1, by omega, by decide, fun h2 w p2 r2 w0 w1 => ?_⟩
  have R := r1'.trans r2
  clear r1' r2 p1 p0
  by_cases c : w < 2
  · simp only [r_law_bad_room_2, t_law_bad_room_2, pow20]
    simp [c, cto d hd, sp_law_among, sz]
    refine ⟨_, p2, by omega, fun h3 j x p3 r3 hx => ?_⟩
    have hx : x ∈ oddL := List.mem_of_getElem? hx
    simp [cfr d hd, sz, pa]
    have e1 := l1' d
    have e2 := l2' (d + 1)
    refine ⟨by omega, by omega, ?_⟩
    exact q h3 _ (p3.mono (by omega)) (R.trans r3) (by simpa [putAt] using pv d x (odd_iok x hx) hd) (by simpa [putAt] using lp d hd x (odd_whole (by omega) x hx).1 (odd_whole (by omega) x hx).1 (odd_whole (l := 0) (by omega) x hx).2)
  · simp [r_law_bad_room_2, t_law_bad_room_2, c]
    by_cases c5 : w < 5
    · have cm : CMul 2 L ∨ CMulW 2 L := cmul_l (by decide)
      simp [r_law_bad_room_3, t_law_bad_room_3, c5, a0, cm]
      refine ⟨by omega, ?_⟩
      refine compU_ix (fun j acc e h3 => h3 = h2 ∧ e = [some (.val (.ref i)), some (.val (roomU L S G u g)), some (.val (.int d)), some (.val (.int w)), none, none, none, none] ∧ acc.length ≤ j ∧ (∀ x ∈ acc, ∃ n : Int, x = .int n ∧ 2 ≤ n ∧ n ≤ 17 ∧ ¬ L % n = 0) ∧ (2 * L ≤ j → 0 < acc.length)) (fun acc e h3 I => ?_) (fun j v hv acc e h3 F I hF => ?_) ⟨rfl, rfl, Nat.le_refl _, (fun x hx => by cases hx), fun z => by omega⟩
      · obtain ⟨rfl, rfl, ha, hx, hp⟩ := I
        rw [rangeU_len] at ha hp
        have hp := hp (by omega)
        simp [c4, sp_law_among, sz]
        refine ⟨_, p2, by omega, hp, by omega, fun h4 j x p3 r3 hx' => ?_⟩
        obtain ⟨n, rfl, n2, n17, nd⟩ := hx x (List.mem_of_getElem? hx')
        exact q h4 (.val (.tup [.int L, .int S, .int G, .bl u, .int n])) (p3.mono (by omega)) (R.trans r3) (rep iL iS iG iu (iok_sm (by omega) (by omega))) (by simp [isRoom, modU, nd])
      · obtain ⟨rfl, rfl, ha, hx, hp⟩ := I
        obtain ⟨hj, rfl⟩ := rangeU_at hv
        have j1 : (0 : Int) < 2 + (j : Int) := by omega
        have d1 : CDivW L (2 + (j : Int)) := ⟨by omega, slog (by omega) (by omega)⟩
        simp [gN, a0, j1, sz]
        by_cases z : L % (2 + (j : Int)) = 0
        · rw [if_pos z]
          refine hF _ _ _ ⟨rfl, by simp [wipeE], by omega, hx, fun y => ?_⟩
          have : L % (2 + (j : Int)) = L := Int.emod_eq_of_lt (by omega) (by omega)
          omega
        · rw [if_neg z]
          refine ⟨by omega, hF _ _ _ ⟨rfl, by simp [wipeE], by simp; omega, fun x hx' => ?_, fun _ => by simp⟩⟩
          rcases List.mem_append.mp hx' with y | y
          · exact hx x y
          · rw [List.mem_singleton.mp y]
            exact ⟨_, rfl, by omega, by omega, z⟩
    · simp [r_law_bad_room_3, t_law_bad_room_3, c5]
      by_cases c7 : w < 7
      · simp [r_law_bad_room_4, t_law_bad_room_4, c7, a0, sp_law_pick]
        refine ⟨_, p2, by omega, by omega, slog (by omega) (by omega), fun h3 e p3 r3 e0 e1 => ?_⟩
        simp [a0, d3, sz]
        exact q h3 (.val (.tup [.int L, .int (1 + e), .int (L - (1 + e) - 1), .bl u, .int g])) (p3.mono (by omega)) (R.trans r3) (rep iL (iok_sm (by omega) (by omega)) (iok_sm (by omega) (by omega)) iu ig) (by simp [isRoom, hasM, geU]; intros; omega)
      · simp [r_law_bad_room_4, t_law_bad_room_4, c7]
        by_cases c7' : w = 7
        · simp [r_law_bad_room_5, t_law_bad_room_5, c7', sp_law_pick]
          refine ⟨_, p2, by omega, by decide, fun h3 e p3 r3 e0 e1 => ?_⟩
          have R3 := R.trans r3
          have es : e = 0 ∨ e = 1 ∨ e = 2 ∨ e = 3 ∨ e = 4 := by omega
          rcases es with rfl | rfl | rfl | rfl | rfl
          all_goals
            simp [L2.atI, L2.ixN, sz, sp_law_among, cutU, HT.sIx]
            refine ⟨_, p3, by omega, fun h4 j y p4 r4 hy => ?_⟩
            have hy := List.mem_of_getElem? hy
            simp only [List.mem_cons, List.not_mem_nil, or_false] at hy
            rcases hy with rfl | rfl
          · exact q h4 (.val (.tup [.int 0, .int S, .int G, .bl u, .int g])) (p4.mono (by omega)) (R3.trans r4) (rep (iok_sm (by omega) (by omega)) iS iG iu ig) (by simp [isRoom, hasM, isWhole])
          · exact q h4 (.val (.tup [.bl true, .int S, .int G, .bl u, .int g])) (p4.mono (by omega)) (R3.trans r4) (rep iok_bl iS iG iu ig) (by simp [isRoom, hasM, isWhole])
          · exact q h4 (.val (.tup [.int L, .int 0, .int G, .bl u, .int g])) (p4.mono (by omega)) (R3.trans r4) (rep iL (iok_sm (by omega) (by omega)) iG iu ig) (by simp [isRoom, hasM, isWhole])
          · exact q h4 (.val (.tup [.int L, .bl true, .int G, .bl u, .int g])) (p4.mono (by omega)) (R3.trans r4) (rep iL iok_bl iG iu ig) (by simp [isRoom, hasM, isWhole])
          · exact q h4 (.val (.tup [.int L, .int S, .bl true, .bl u, .int g])) (p4.mono (by omega)) (R3.trans r4) (rep iL iS iok_bl iu ig) (by simp [isRoom, hasM, isWhole])
          · exact q h4 (.val (.tup [.int L, .int S, .bl false, .bl u, .int g])) (p4.mono (by omega)) (R3.trans r4) (rep iL iS iok_bl iu ig) (by simp [isRoom, hasM, isWhole])
          · exact q h4 (.val (.tup [.int L, .int S, .int G, .int 0, .int g])) (p4.mono (by omega)) (R3.trans r4) (rep iL iS iG (iok_sm (by omega) (by omega)) ig) (by simp [isRoom, hasM, isBl])
          · exact q h4 (.val (.tup [.int L, .int S, .int G, .int 1, .int g])) (p4.mono (by omega)) (R3.trans r4) (rep iL iS iG (iok_sm (by omega) (by omega)) ig) (by simp [isRoom, hasM, isBl])
          · exact q h4 (.val (.tup [.int L, .int S, .int G, .bl u, .int 0])) (p4.mono (by omega)) (R3.trans r4) (rep iL iS iG iu (iok_sm (by omega) (by omega))) (by simp [isRoom, hasM, isWhole])
          · exact q h4 (.val (.tup [.int L, .int S, .int G, .bl u, .bl true])) (p4.mono (by omega)) (R3.trans r4) (rep iL iS iG iu iok_bl) (by simp [isRoom, hasM, isWhole])
        · simp [r_law_bad_room_5, t_law_bad_room_5, c7']
          by_cases c8 : w = 8
          · simp [r_law_bad_room_6, t_law_bad_room_6, c8, cto d hd, cfr d hd, sz]
            have e1 := l1' d
            have e2 := l2' (d + 1)
            refine ⟨by omega, ?_⟩
            exact q h2 _ (p2.mono (by omega)) R (dv d hd).1 (dv d hd).2
          · simp [r_law_bad_room_6, t_law_bad_room_6, c8]
            simp [r_law_bad_room_7, t_law_bad_room_7, sp_law_among, sz]
            refine ⟨by rw [c4]; simp, _, p2, by omega, fun h3 j x p3 r3 hx => ?_⟩
            have hv : Vok x ∧ isRoom x = false := by
              have := List.mem_of_getElem? hx
              simp only [c4, List.mem_cons, List.not_mem_nil, or_false] at this
              rcases this with rfl | rfl | rfl | rfl | rfl | rfl | rfl | rfl
              · exact ⟨vok_lst ir (by simp), rfl⟩
              · exact ⟨vok_tup (fun w hw => by
                  simp only [List.mem_append, List.mem_cons, List.not_mem_nil, or_false] at hw
                  rcases hw with (rfl | rfl | rfl | rfl) | rfl | rfl
                  · exact iL
                  · exact iS
                  · exact iG
                  · exact iu
                  · exact iok_sm (by omega) (by omega)
                  · exact iok_sm (by omega) (by omega)) (by simp), room_no7 (by simp)⟩
              · exact ⟨vok_i iok_non rfl, rfl⟩
              · exact ⟨vok_i (iok_sm (by omega) (by omega)) rfl, rfl⟩
              · exact ⟨vok_i iok_sl rfl, rfl⟩
              · exact ⟨vok_one ir (by simp), room_no7 (by simp)⟩
              · exact ⟨vok_tup (fun w hw => by
                  simp only [List.mem_cons, List.not_mem_nil, or_false] at hw
                  rcases hw with rfl | rfl | rfl | rfl | rfl | rfl
                  · exact iL
                  · exact iS
                  · exact iG
                  · exact iu
                  · exact ig
                  · exact iok_sm (by omega) (by omega)) (by simp), room_no7 (by simp)⟩
              · exact ⟨rep ig iu iG iS iL, by simp [isRoom, hasM, isWhole]⟩
            exact q h3 (.val x) (p3.mono (by omega)) (R.trans r3) hv.1 hv.2

theorem conf_need_slot : ∀ us h Po Pe, us.length = 2 → sp_need_slot us h Po Pe → p_need_slot (startE N_need_slot us) h (bodyD Po Pe) := by
  intro us h Po Pe hl hs
  obtain ⟨L, S, G, O, N, u, x, rfl, ok, ⟨tx, _⟩, h1, h2⟩ := hs
  simp [p_need_slot, startE, N_need_slot]
  refine (show sp_is_whole _ _ _ _ from ⟨tx, ?_⟩)
  cases x with
  | int i =>
    by_cases c0 : 0 ≤ i
    · by_cases c1 : i < N
      · have c2 : ¬ N ≤ i := by omega
        simp [isWhole, c0, L2.atI, L2.ixN, c2]
        exact h1 (by simp [okS, c0, c1])
      · have c2 : N ≤ i := by omega
        simp [isWhole, c0, L2.atI, L2.ixN, c2]
        exact h2 (by simp [okS, c0, c2])
    · simp [isWhole, c0]
      exact h2 (by simp [okS, c0])
  | _ => simp [isWhole]; exact h2 rfl

theorem conf_layout_stride : ∀ us h Po Pe, us.length = 1 → sp_layout_stride us h Po Pe → p_layout_stride (startE N_layout_stride us) h (bodyD Po Pe) := by
  intro us h Po Pe hl hs
  unfold sp_layout_stride at hs
  split at hs
  · simp [p_layout_stride, startE, N_layout_stride, L2.atI, L2.ixN, hs]
  · exact hs.elim

theorem conf_first_spot : ∀ us h Po Pe, us.length = 2 → sp_first_spot us h Po Pe → p_first_spot (startE N_first_spot us) h (bodyD Po Pe) := by
  intro us h Po Pe hl hs
  obtain ⟨r, x, rfl, ⟨bad, hp⟩ | ⟨L, S, G, O, N, u, rfl, ok, tx, h1, h2⟩⟩ := hs
  · simp [p_first_spot, startE, N_first_spot]
    exact needLb bad hp
  · simp [p_first_spot, startE, N_first_spot]
    refine needL ok ?_
    refine (show sp_need_slot _ _ _ _ from ⟨L, S, G, O, N, u, x, rfl, ok, tx, fun q => ?_, h2⟩)
    have h1 := h1 q
    cases x with
    | int i =>
      simp [okS] at q
      have c : CMul i (S + G) ∨ CMulW i (S + G) := cmul_l (by have := ok.n12; omega)
      simp [sp_layout_stride, L2.atI, L2.ixN, c]
      simpa [valD] using h1
    | _ => simp [okS] at q

theorem has_iff {L S G O N r : Int} : hasR L S G O N r = true ↔ firstF L S G O r ≤ lastF L S G O N r := by
  unfold hasR
  rw [decide_eq_true_eq]
theorem lb_ediv {x : Int} {L : Int} (h : LB x 110) (x0 : 0 ≤ x) (l1 : 1 ≤ L) : LB (x / L) 110 := by
  have a := Int.ediv_nonneg x0 (show 0 ≤ L by omega)
  have b := Int.ediv_le_self L x0
  have h : x.natAbs < 2 ^ 110 := h
  show Int.natAbs _ < 2 ^ 110
  omega
theorem mine_nil {L S G O N r : Int} : eqU? (.lst ((mineL L S G O N r).map U.int)) (.lst []) = some (!hasR L S G O N r) := by
  rw [eqU_ints_nil]
  cases hh : hasR L S G O N r with
  | true => rw [mine_ne hh]; rfl
  | false =>
    have : ¬ firstF L S G O r ≤ lastF L S G O N r := fun z => by rw [has_iff.mpr z] at hh; cases hh
    have e : mineL L S G O N r = [] := by
      apply List.eq_nil_of_length_eq_zero
      rw [mine_len]
      omega
    rw [e]
    rfl
theorem conf_need_spot : ∀ us h Po Pe, us.length = 2 → sp_need_spot us h Po Pe → p_need_spot (startE N_need_spot us) h (bodyD Po Pe) := by
  intro us h Po Pe hl hs
  obtain ⟨L, S, G, O, N, u, x, rfl, ok, ⟨tx, lb⟩, h1, h2⟩ := hs
  simp [p_need_spot, startE, N_need_spot]
  refine (show sp_is_whole _ _ _ _ from ⟨tx, ?_⟩)
  cases x with
  | int i =>
    by_cases c0 : 0 ≤ i
    · have l1 := ok.l1
      have l8 := ok.l8
      have d1 : CDivW i L := ⟨by omega, Nat.lt_of_le_of_lt (LB.log (k := 10) (by show Int.natAbs _ < 1024; omega)) (by decide)⟩
      have q0 : 0 ≤ i / L := Int.ediv_nonneg c0 (by omega)
      have q1 : LB (i / L) 110 := lb_ediv (lb i rfl) c0 l1
      simp [isWhole, c0, L2.atI, L2.ixN, d1]
      refine (show sp_slots_in _ _ _ _ from ⟨ok, q0, q1, ?_⟩)
      rw [mine_rng]
      simp [mine_nil]
      cases hh : hasR L S G O N (i / L) with
      | true => simp; exact h1 (by simp [okP, c0, hh])
      | false => simp; exact h2 (by simp [okP, c0, hh])
    · simp [isWhole, c0]
      exact h2 (by simp [okP, c0])
  | _ => simp [isWhole]; exact h2 rfl

theorem conf_spot_owner : ∀ us h Po Pe, us.length = 2 → sp_spot_owner us h Po Pe → p_spot_owner (startE N_spot_owner us) h (bodyD Po Pe) := by
  intro us h Po Pe hl hs
  unfold sp_spot_owner at hs
  split at hs
  · rename_i L S G u O N x
    obtain ⟨ok, hp⟩ := hs
    obtain ⟨l1, l8, s1, g0, t1, t20, o0, o1, n1, n12⟩ := ok
    have d1 : CDiv (x - O) (S + G) := ⟨by omega, by omega⟩
    unfold ownF at hp
    simp [p_spot_owner, startE, N_spot_owner, d1]
    generalize (x - O) / (S + G) = q at *
    generalize (x - O) % (S + G) = r at *
    by_cases h1 : q < 0
    · simpa [h1] using hp
    · by_cases h2 : N ≤ q
      · simpa [h1, h2] using hp
      · by_cases h3 : r < S
        · simpa [h1, h2, h3] using hp
        · cases u
          · by_cases h4 : q = N - 1
            · simp only [h4] at *
              simpa [h1, h2, h3] using hp
            · simpa [h1, h2, h3, h4] using hp
          · simpa [h1, h2, h3] using hp
  · exact hs.elim

theorem conf_owner : ∀ us h Po Pe, us.length = 2 → sp_owner us h Po Pe → p_owner (startE N_owner us) h (bodyD Po Pe) := by
  intro us h Po Pe hl hs
  obtain ⟨r, x, rfl, ⟨bad, hp⟩ | ⟨L, S, G, O, N, u, rfl, ok, tx, h1, h2⟩⟩ := hs
  · simp [p_owner, startE, N_owner]
    exact needLb bad hp
  · simp [p_owner, startE, N_owner]
    refine needL ok ?_
    refine (show sp_need_spot _ _ _ _ from ⟨L, S, G, O, N, u, x, rfl, ok, tx, fun q => ?_, h2⟩)
    have h1 := h1 q
    cases x with
    | int i =>
      try simp
      refine (show sp_spot_owner _ _ _ _ from ⟨ok, ?_⟩)
      simpa [valD] using h1
    | _ => simp [okP] at q

theorem conf_need_line : ∀ us h Po Pe, us.length = 2 → sp_need_line us h Po Pe → p_need_line (startE N_need_line us) h (bodyD Po Pe) := by
  intro us h Po Pe hl hs
  obtain ⟨L, S, G, O, N, u, x, rfl, ok, ⟨tx, lb⟩, h1, h2⟩ := hs
  simp [p_need_line, startE, N_need_line]
  refine (show sp_is_whole _ _ _ _ from ⟨tx, ?_⟩)
  cases x with
  | int i =>
    by_cases c0 : 0 ≤ i
    · simp [isWhole, c0]
      refine (show sp_slots_in _ _ _ _ from ⟨ok, c0, lb i rfl, ?_⟩)
      rw [mine_rng]
      simp [mine_nil]
      cases hh : hasR L S G O N i with
      | true => simp; exact h1 (by simp [okN, c0, hh])
      | false => simp; exact h2 (by simp [okN, c0, hh])
    · simp [isWhole, c0]
      exact h2 (by simp [okN, c0])
  | _ => simp [isWhole]; exact h2 rfl

theorem has_lt {L S G O N n : Int} (ok : OkR L S G O N) (h : hasR L S G O N n = true) : n ≤ 300 := by
  obtain ⟨k, k0, k1, d1, d2⟩ := (has_slot ok).mp h
  obtain ⟨l1, l8, s1, g0, t1, t20, o0, o1, n1, n12⟩ := ok
  have hm := mulb (a := k) (b := S + G) (A := 12) (B := 20) k0 (by omega) (by omega) t20
  unfold eF at d2
  have := Int.ediv_le_self (a := O + k * (S + G) + S - 1) L (by omega)
  omega
theorem conf_slots_of : ∀ us h Po Pe, us.length = 2 → sp_slots_of us h Po Pe → p_slots_of (startE N_slots_of us) h (bodyD Po Pe) := by
  intro us h Po Pe hl hs
  obtain ⟨r, x, rfl, ⟨bad, hp⟩ | ⟨L, S, G, O, N, u, rfl, ok, tx, h1, h2⟩⟩ := hs
  · simp [p_slots_of, startE, N_slots_of]
    exact needLb bad hp
  · simp [p_slots_of, startE, N_slots_of]
    refine needL ok ?_
    refine (show sp_need_line _ _ _ _ from ⟨L, S, G, O, N, u, x, rfl, ok, tx, fun q => ?_, h2⟩)
    have h1 := h1 q
    cases x with
    | int i =>
      simp [okN] at q
      try simp
      refine (show sp_slots_in _ _ _ _ from ⟨ok, q.1, tx.2 i rfl, ?_⟩)
      rw [mine_rng]
      exact h1 _ rfl
    | _ => simp [okN] at q

theorem conf_pattern_of : ∀ us h Po Pe, us.length = 2 → sp_pattern_of us h Po Pe → p_pattern_of (startE N_pattern_of us) h (bodyD Po Pe) := by
  intro us h Po Pe hl hs
  obtain ⟨r, x, rfl, ⟨bad, hp⟩ | ⟨L, S, G, O, N, u, rfl, ok, tx, h1, h2⟩⟩ := hs
  · simp [p_pattern_of, startE, N_pattern_of]
    exact needLb bad hp
  · simp [p_pattern_of, startE, N_pattern_of]
    refine needL ok ?_
    refine (show sp_need_line _ _ _ _ from ⟨L, S, G, O, N, u, x, rfl, ok, tx, fun q => ?_, h2⟩)
    have h1 := h1 q
    cases x with
    | int i =>
      simp [okN] at q
      try simp
      refine (show sp_line_pattern _ _ _ _ from ⟨ok, q.1, by have := has_lt ok q.2; omega, q.2, ?_⟩)
      simpa [valD] using h1
    | _ => simp [okN] at q

theorem conf_law_called : ∀ us h Po Pe, us.length = 3 → sp_law_called us h Po Pe → p_law_called (startE N_law_called us) h (bodyD Po Pe) := by
  intro us h Po Pe hl hs
  obtain ⟨d, r, x, e, v, rfl, d0, d5, tx, out, hp⟩ := hs
  have dc : d = 0 ∨ d = 1 ∨ d = 2 ∨ d = 3 ∨ d = 4 ∨ d = 5 := by omega
  rcases out with ⟨dl, bad, rfl⟩ | ⟨rfl, bad, rfl⟩ | ⟨L, S, G, O, N, u, rfl, ok, ⟨dl, ko, rfl, hv⟩ | ⟨dl, ko, rfl⟩ | ⟨rfl, rfl, hv⟩⟩ | ⟨L, S, G, g, u, rfl, ok, rfl, rfl, hv⟩
  · rcases dc with rfl | rfl | rfl | rfl | rfl | rfl
    · simp [p_law_called, startE, N_law_called]
      exact (show sp_first_spot _ _ _ _ from ⟨_, _, rfl, .inl ⟨bad, hp⟩⟩)
    · simp [p_law_called, startE, N_law_called]
      exact (show sp_owner _ _ _ _ from ⟨_, _, rfl, .inl ⟨bad, hp⟩⟩)
    · simp [p_law_called, startE, N_law_called]
      exact (show sp_slots_of _ _ _ _ from ⟨_, _, rfl, .inl ⟨bad, hp⟩⟩)
    · simp [p_law_called, startE, N_law_called]
      exact (show sp_pattern_of _ _ _ _ from ⟨_, _, rfl, .inl ⟨bad, hp⟩⟩)
    · simp [p_law_called, startE, N_law_called]
      exact (show sp_lines_of _ _ _ _ from ⟨_, rfl, .inr ⟨bad, hp⟩⟩)
    · omega
  · simp [p_law_called, startE, N_law_called]
    exact (show sp_places _ _ _ _ from ⟨_, rfl, .inr ⟨bad, hp⟩⟩)
  · have nf : ∀ {P : Prop} {b : Bool}, b = true → b = false → P := fun a b => by rw [a] at b; cases b
    rcases dc with rfl | rfl | rfl | rfl | rfl | rfl
    · simp [p_law_called, startE, N_law_called]
      exact (show sp_first_spot _ _ _ _ from ⟨_, _, rfl, .inr ⟨L, S, G, O, N, u, rfl, ok, tx, fun _ => hp _ hv, fun z => nf ko z⟩⟩)
    · simp [p_law_called, startE, N_law_called]
      exact (show sp_owner _ _ _ _ from ⟨_, _, rfl, .inr ⟨L, S, G, O, N, u, rfl, ok, tx, fun _ => hp _ hv, fun z => nf ko z⟩⟩)
    · simp [p_law_called, startE, N_law_called]
      exact (show sp_slots_of _ _ _ _ from ⟨_, _, rfl, .inr ⟨L, S, G, O, N, u, rfl, ok, tx, fun _ sv e => hp sv (e ▸ hv), fun z => nf ko z⟩⟩)
    · simp [p_law_called, startE, N_law_called]
      refine (show sp_pattern_of _ _ _ _ from ⟨_, _, rfl, .inr ⟨L, S, G, O, N, u, rfl, ok, tx, fun _ => hp _ hv, fun z => nf ko z⟩⟩)
    · omega
    · omega
  · have nf : ∀ {P : Prop} {b : Bool}, b = true → b = false → P := fun a b => by rw [a] at b; cases b
    rcases dc with rfl | rfl | rfl | rfl | rfl | rfl
    · simp [p_law_called, startE, N_law_called]
      exact (show sp_first_spot _ _ _ _ from ⟨_, _, rfl, .inr ⟨L, S, G, O, N, u, rfl, ok, tx, fun z => nf z ko, fun _ => hp⟩⟩)
    · simp [p_law_called, startE, N_law_called]
      exact (show sp_owner _ _ _ _ from ⟨_, _, rfl, .inr ⟨L, S, G, O, N, u, rfl, ok, tx, fun z => nf z ko, fun _ => hp⟩⟩)
    · simp [p_law_called, startE, N_law_called]
      exact (show sp_slots_of _ _ _ _ from ⟨_, _, rfl, .inr ⟨L, S, G, O, N, u, rfl, ok, tx, fun z => nf z ko, fun _ => hp⟩⟩)
    · simp [p_law_called, startE, N_law_called]
      exact (show sp_pattern_of _ _ _ _ from ⟨_, _, rfl, .inr ⟨L, S, G, O, N, u, rfl, ok, tx, fun z => nf z ko, fun _ => hp⟩⟩)
    · omega
    · omega
  · simp [p_law_called, startE, N_law_called]
    exact (show sp_lines_of _ _ _ _ from ⟨_, rfl, .inl ⟨L, S, G, O, N, u, rfl, ok, hp (.own _) hv⟩⟩)
  · simp [p_law_called, startE, N_law_called]
    exact (show sp_places _ _ _ _ from ⟨_, rfl, .inl ⟨L, S, G, g, u, rfl, ok, hp (.own _) hv⟩⟩)

theorem conf_law_named : ∀ us h Po Pe, us.length = 3 → sp_law_named us h Po Pe → p_law_named (startE N_law_named us) h (bodyD Po Pe) := by
  intro us h Po Pe hl hs
  obtain ⟨d, r, x, e, v, rfl, d0, d5, tx, out, hp⟩ := hs
  have dc : d = 0 ∨ d = 1 ∨ d = 2 ∨ d = 3 ∨ d = 4 ∨ d = 5 := by omega
  rcases out with ⟨dl, bad, rfl⟩ | ⟨rfl, bad, rfl⟩ | ⟨L, S, G, O, N, u, rfl, ok, ⟨dl, ko, rfl, hv⟩ | ⟨dl, ko, rfl⟩ | ⟨rfl, rfl, hv⟩⟩ | ⟨L, S, G, g, u, rfl, ok, rfl, rfl, hv⟩
  · rcases dc with rfl | rfl | rfl | rfl | rfl | rfl
    · simp [p_law_named, startE, N_law_named]
      exact (show sp_first_spot _ _ _ _ from ⟨_, _, rfl, .inl ⟨bad, hp⟩⟩)
    · simp [p_law_named, startE, N_law_named]
      exact (show sp_owner _ _ _ _ from ⟨_, _, rfl, .inl ⟨bad, hp⟩⟩)
    · simp [p_law_named, startE, N_law_named]
      exact (show sp_slots_of _ _ _ _ from ⟨_, _, rfl, .inl ⟨bad, hp⟩⟩)
    · simp [p_law_named, startE, N_law_named]
      exact (show sp_pattern_of _ _ _ _ from ⟨_, _, rfl, .inl ⟨bad, hp⟩⟩)
    · simp [p_law_named, startE, N_law_named]
      exact (show sp_lines_of _ _ _ _ from ⟨_, rfl, .inr ⟨bad, hp⟩⟩)
    · omega
  · simp [p_law_named, startE, N_law_named]
    exact (show sp_places _ _ _ _ from ⟨_, rfl, .inr ⟨bad, hp⟩⟩)
  · have nf : ∀ {P : Prop} {b : Bool}, b = true → b = false → P := fun a b => by rw [a] at b; cases b
    rcases dc with rfl | rfl | rfl | rfl | rfl | rfl
    · simp [p_law_named, startE, N_law_named]
      exact (show sp_first_spot _ _ _ _ from ⟨_, _, rfl, .inr ⟨L, S, G, O, N, u, rfl, ok, tx, fun _ => hp _ hv, fun z => nf ko z⟩⟩)
    · simp [p_law_named, startE, N_law_named]
      exact (show sp_owner _ _ _ _ from ⟨_, _, rfl, .inr ⟨L, S, G, O, N, u, rfl, ok, tx, fun _ => hp _ hv, fun z => nf ko z⟩⟩)
    · simp [p_law_named, startE, N_law_named]
      exact (show sp_slots_of _ _ _ _ from ⟨_, _, rfl, .inr ⟨L, S, G, O, N, u, rfl, ok, tx, fun _ sv e => hp sv (e ▸ hv), fun z => nf ko z⟩⟩)
    · simp [p_law_named, startE, N_law_named]
      refine (show sp_pattern_of _ _ _ _ from ⟨_, _, rfl, .inr ⟨L, S, G, O, N, u, rfl, ok, tx, fun _ => hp _ hv, fun z => nf ko z⟩⟩)
    · omega
    · omega
  · have nf : ∀ {P : Prop} {b : Bool}, b = true → b = false → P := fun a b => by rw [a] at b; cases b
    rcases dc with rfl | rfl | rfl | rfl | rfl | rfl
    · simp [p_law_named, startE, N_law_named]
      exact (show sp_first_spot _ _ _ _ from ⟨_, _, rfl, .inr ⟨L, S, G, O, N, u, rfl, ok, tx, fun z => nf z ko, fun _ => hp⟩⟩)
    · simp [p_law_named, startE, N_law_named]
      exact (show sp_owner _ _ _ _ from ⟨_, _, rfl, .inr ⟨L, S, G, O, N, u, rfl, ok, tx, fun z => nf z ko, fun _ => hp⟩⟩)
    · simp [p_law_named, startE, N_law_named]
      exact (show sp_slots_of _ _ _ _ from ⟨_, _, rfl, .inr ⟨L, S, G, O, N, u, rfl, ok, tx, fun z => nf z ko, fun _ => hp⟩⟩)
    · simp [p_law_named, startE, N_law_named]
      exact (show sp_pattern_of _ _ _ _ from ⟨_, _, rfl, .inr ⟨L, S, G, O, N, u, rfl, ok, tx, fun z => nf z ko, fun _ => hp⟩⟩)
    · omega
    · omega
  · simp [p_law_named, startE, N_law_named]
    exact (show sp_lines_of _ _ _ _ from ⟨_, rfl, .inl ⟨L, S, G, O, N, u, rfl, ok, hp (.own _) hv⟩⟩)
  · simp [p_law_named, startE, N_law_named]
    exact (show sp_places _ _ _ _ from ⟨_, rfl, .inl ⟨L, S, G, g, u, rfl, ok, hp (.own _) hv⟩⟩)

def t_law_refused_5 : US := (uRet (uLc (uIter bRange1 (uCons (uVal (.int 5)) uNil)) (gN 7) (uB (uBin bIx (uVar 6) (uVar 7))) (uBin bIx (uApp bLst (uCons (uVal (.str "bad ring")) (uCons (uVal (.str "bad slot")) (uCons (uVal (.str "bad spot")) (uCons (uVal (.str "bad line")) (uCons (uVal (.str "bad room")) uNil)))))) (uVar 7)) [7]))
def r_law_refused_5 : US := t_law_refused_5
def t_law_refused_4 : US := (uSet 6 (uBin bAdd (uVar 6) (uApp bLst (uCons (uApp bIse (uCons (uVar 4) (uCons (uVal (.ecl "InvalidLine")) uNil))) (uCons (uApp bIse (uCons (uVar 4) (uCons (uVal (.ecl "InvalidRoom")) uNil))) uNil)))))
def r_law_refused_4 : US := uSeq t_law_refused_4 r_law_refused_5
def t_law_refused_3 : US := (uSet 6 (uApp bLst (uCons (uApp bIse (uCons (uVar 4) (uCons (uVal (.ecl "InvalidLayout")) uNil))) (uCons (uApp bIse (uCons (uVar 4) (uCons (uVal (.ecl "InvalidSlot")) uNil))) (uCons (uApp bIse (uCons (uVar 4) (uCons (uVal (.ecl "InvalidSpot")) uNil))) uNil)))))
def r_law_refused_3 : US := uSeq t_law_refused_3 r_law_refused_4
def t_law_refused_2 : US := (uIf (uB (uBin (bIsN false) (uVar 4) (uVal .non))) (uRet (uApp bLst uNil)) uNext)
def r_law_refused_2 : US := uSeq t_law_refused_2 r_law_refused_3
def t_law_refused_1 : US := (uTry ["InvalidLayout", "InvalidLine", "InvalidRoom", "InvalidSlot", "InvalidSpot"] 5 4 (uIf (uB (uVar 0)) (uDrop (uCall 3 sp_law_named [] (uCons (uVar 1) (uCons (uVar 2) (uCons (uVar 3) uNil))))) (uDrop (uCall 3 sp_law_called [] (uCons (uVar 1) (uCons (uVar 2) (uCons (uVar 3) uNil)))))))
def r_law_refused_1 : US := uSeq t_law_refused_1 r_law_refused_2
def t_law_refused_0 : US := (uSet 4 (uVal .non))
def r_law_refused_0 : US := uSeq t_law_refused_0 r_law_refused_1
theorem cut_law_refused : p_law_refused = r_law_refused_0 := rfl
theorem conf_law_refused : ∀ us h Po Pe, us.length = 4 → sp_law_refused us h Po Pe → p_law_refused (startE N_law_refused us) h (bodyD Po Pe) := by
  intro us h Po Pe hl hs
  obtain ⟨b, d, r, x, e, rfl, d0, d5, tx, out, hp⟩ := hs
  have sz : sizeLine = 16777216 := sizeLine_eq
  have go : ∀ x' : Str, e = some x' → (x' = "InvalidLayout" ∨ x' = "InvalidSlot" ∨ x' = "InvalidSpot" ∨ x' = "InvalidLine" ∨ x' = "InvalidRoom") →
      r_law_refused_2 [some (.val (.bl b)), some (.val (.int d)), some (.val r), some (.val x), some (.val (.err x' none)), none, none, none] h (bodyD Po Pe) := by
    intro x' ee hx
    subst ee
    simp only [r_law_refused_2]
    simp [t_law_refused_2, isNon]
    simp only [r_law_refused_3]
    simp [t_law_refused_3, sz]
    simp only [r_law_refused_4]
    simp [t_law_refused_4, sz]
    simp only [r_law_refused_5]
    simp [t_law_refused_5, sz]
    have r5 : rangeU 0 5 = [.int 0, .int 1, .int 2, .int 3, .int 4] := rfl
    rw [r5]
    rcases hx with rfl | rfl | rfl | rfl | rfl
    · have := hp (.own [.str "bad ring"]) rfl
      simp [compU, L2.atI, L2.ixN, wipeE, (show ¬ (("InvalidLayout" : Str) = "InvalidSlot") by decide), (show ¬ (("InvalidLayout" : Str) = "InvalidSpot") by decide), (show ¬ (("InvalidLayout" : Str) = "InvalidLine") by decide), (show ¬ (("InvalidLayout" : Str) = "InvalidRoom") by decide), sz]
      exact this
    · have := hp (.own [.str "bad slot"]) rfl
      simp [compU, L2.atI, L2.ixN, wipeE, (show ¬ (("InvalidSlot" : Str) = "InvalidLayout") by decide), (show ¬ (("InvalidSlot" : Str) = "InvalidSpot") by decide), (show ¬ (("InvalidSlot" : Str) = "InvalidLine") by decide), (show ¬ (("InvalidSlot" : Str) = "InvalidRoom") by decide), sz]
      exact this
    · have := hp (.own [.str "bad spot"]) rfl
      simp [compU, L2.atI, L2.ixN, wipeE, (show ¬ (("InvalidSpot" : Str) = "InvalidLayout") by decide), (show ¬ (("InvalidSpot" : Str) = "InvalidSlot") by decide), (show ¬ (("InvalidSpot" : Str) = "InvalidLine") by decide), (show ¬ (("InvalidSpot" : Str) = "InvalidRoom") by decide), sz]
      exact this
    · have := hp (.own [.str "bad line"]) rfl
      simp [compU, L2.atI, L2.ixN, wipeE, (show ¬ (("InvalidLine" : Str) = "InvalidLayout") by decide), (show ¬ (("InvalidLine" : Str) = "InvalidSlot") by decide), (show ¬ (("InvalidLine" : Str) = "InvalidSpot") by decide), (show ¬ (("InvalidLine" : Str) = "InvalidRoom") by decide), sz]
      exact this
    · have := hp (.own [.str "bad room"]) rfl
      simp [compU, L2.atI, L2.ixN, wipeE, (show ¬ (("InvalidRoom" : Str) = "InvalidLayout") by decide), (show ¬ (("InvalidRoom" : Str) = "InvalidSlot") by decide), (show ¬ (("InvalidRoom" : Str) = "InvalidSpot") by decide), (show ¬ (("InvalidRoom" : Str) = "InvalidLine") by decide), sz]
      exact this
  have ne : ∀ x', e = some x' → (x' = "InvalidLayout" ∨ x' = "InvalidSlot" ∨ x' = "InvalidSpot" ∨ x' = "InvalidLine" ∨ x' = "InvalidRoom") := by
    intro x' ee
    rcases out with ⟨_, _, z⟩ | ⟨_, _, z⟩ | ⟨_, _, _, _, _, _, _, _, ⟨_, _, z, _⟩ | ⟨_, _, z⟩ | ⟨_, z, _⟩⟩ | ⟨_, _, _, _, _, _, _, _, z, _⟩
    · rw [z] at ee; cases ee; exact .inl rfl
    · rw [z] at ee; cases ee; exact .inr (.inr (.inr (.inr rfl)))
    · rw [z] at ee; cases ee
    · rw [z] at ee
      cases ee
      unfold errD
      split
      · exact .inr (.inl rfl)
      · split
        · exact .inr (.inr (.inl rfl))
        · exact .inr (.inr (.inr (.inl rfl)))
    · rw [z] at ee; cases ee
    · rw [z] at ee; cases ee
  have pt : ∀ (Pz : Sv → Hv → Prop) (Pf : Ex → Hv → Prop), (e = none → ∀ sv, Pz sv h) → (∀ x', e = some x' → Pf ⟨x', none⟩ h) → sp_law_named [.int d, r, x] h Pz Pf ∧ sp_law_called [.int d, r, x] h Pz Pf := fun Pz Pf h1 h2 => by
    have : ∃ (d' : Int) (r' x' : U) (e : Option Str) (v : U → Prop), [U.int d, r, x] = [.int d', r', x'] ∧ 0 ≤ d' ∧ d' ≤ 5 ∧ Tok x' ∧ OutC d' r' x' e v ∧ (match e with
      | none => ∀ sv : Sv, v sv.u → Pz sv h
      | some n => Pf ⟨n, none⟩ h) := ⟨d, r, x, e, _, rfl, d0, d5, tx, out, by cases e with | none => exact fun sv _ => h1 rfl sv | some n => exact h2 n rfl⟩
    exact ⟨this, this⟩
  have n2 : e = none → r_law_refused_2 [some (.val (.bl b)), some (.val (.int d)), some (.val r), some (.val x), some (.val .non), none, none, none] h (bodyD Po Pe) := by
    intro ee
    subst ee
    simp only [r_law_refused_2]
    simp [t_law_refused_2, isNon]
    exact hp (.own []) rfl
  rw [cut_law_refused]
  simp [r_law_refused_0, t_law_refused_0, startE, N_law_refused]
  simp only [r_law_refused_1]
  simp [t_law_refused_1]
  have mem : ∀ x', e = some x' → (x' = "InvalidLayout" ∨ x' = "InvalidLine" ∨ x' = "InvalidRoom" ∨ x' = "InvalidSlot" ∨ x' = "InvalidSpot") := fun x' ee => by
    rcases ne x' ee with z | z | z | z | z
    · exact .inl z
    · exact .inr (.inr (.inr (.inl z)))
    · exact .inr (.inr (.inr (.inr z)))
    · exact .inr (.inl z)
    · exact .inr (.inr (.inl z))
  cases b
  · rw [if_neg Bool.false_ne_true]
    exact (pt _ _ (fun z _ => n2 z) fun x' ee => ⟨rfl, mem x' ee, go x' ee (ne x' ee)⟩).2
  · rw [if_pos rfl]
    exact (pt _ _ (fun z _ => n2 z) fun x' ee => ⟨rfl, mem x' ee, go x' ee (ne x' ee)⟩).1

def t_law_room_holds_6 : US := (uRet (uBin bEq (uApp bRepr (uCons (uCall 1 sp_places [] (uCons (uVar 1) uNil)) uNil)) (uVar 2)))
def r_law_room_holds_6 : US := t_law_room_holds_6
def t_law_room_holds_5 : US := (uIf (uOr (uB (uBin bNe (uCall 4 sp_law_refused [] (uCons (uBin bEq (uCall 2 sp_law_pick [] (uCons (uVar 0) (uCons (uVal (.int 2)) uNil))) (uVal (.int 0))) (uCons (uVal (.int 5)) (uCons (uVar 3) (uCons (uVal .non) uNil))))) (uVar 4))) (uB (uBin bNe (uApp bRepr (uCons (uVar 3) uNil)) (uVar 5)))) (uRet (uVal (.bl false))) uNext)
def r_law_room_holds_5 : US := uSeq t_law_room_holds_5 r_law_room_holds_6
def t_law_room_holds_4 : US := (uSet 5 (uApp bRepr (uCons (uVar 3) uNil)))
def r_law_room_holds_4 : US := uSeq t_law_room_holds_4 r_law_room_holds_5
def t_law_room_holds_3 : US := (uIf (uB (uBin bEq (uCall 2 sp_law_pick [] (uCons (uVar 0) (uCons (uVal (.int 2)) uNil))) (uVal (.int 0)))) (uSeq (uSet 3 (uCall 2 sp_law_bad_room [] (uCons (uVar 0) (uCons (uVar 1) uNil))))
  (uSet 4 (uApp bLst (uCons (uVal (.str "bad room")) uNil)))) uNext)
def r_law_room_holds_3 : US := uSeq t_law_room_holds_3 r_law_room_holds_4
def t_law_room_holds_2 : US := (uSet 4 (uApp bLst uNil))
def r_law_room_holds_2 : US := uSeq t_law_room_holds_2 r_law_room_holds_3
def t_law_room_holds_1 : US := (uSet 3 (uVar 1))
def r_law_room_holds_1 : US := uSeq t_law_room_holds_1 r_law_room_holds_2
def t_law_room_holds_0 : US := (uSet 2 (uApp bRepr (uCons (uCall 1 sp_places [] (uCons (uVar 1) uNil)) uNil)))
def r_law_room_holds_0 : US := uSeq t_law_room_holds_0 r_law_room_holds_1
theorem cut_law_room_holds : p_law_room_holds = r_law_room_holds_0 := rfl
theorem vok_repr {v : U} (h : Vok v) : ∃ z, reprU v = some z := h.2.some (by rw [sizeLine_eq]; omega) (by decide)
theorem places_repr {L S G g : Int} {u : Bool} (ok : OkS L S G g) : ∃ z, reprU (.lst (resF (allF L S G g u (L + 2).toNat))) = some z := by
  have gd := gd_all (u := u) ok (L + 2).toNat (Nat.le_refl _)
  generalize allF L S G g u (L + 2).toNat = D at *
  have i_ : ∀ z : Int, 0 ≤ z → z ≤ 1000 → ShB (.int z) 62 0 := fun z h0 h1 => sh_int (k := 60) (by omega) (LB.log (by show Int.natAbs _ < 2 ^ 60; omega))
  have sr : ShBs (resF D) 2000 3 := shs_of fun w hw => by
    obtain ⟨p, hp, rfl⟩ := List.mem_map.mp hw
    obtain ⟨p6, hi⟩ := List.mem_filter.mp hp
    obtain ⟨L', S', G', O', N', r, u', ok', r0, r1, e⟩ := get_val hi gd.vl
    obtain ⟨l1, l8, s1, g0, t1, t20, o0, o1, n1, n12⟩ := ok'
    rw [e]
    have pb : 0 ≤ p.1 ∧ p.1 ≤ 2 ∧ 0 ≤ p.2 ∧ p.2 ≤ 2 := by
      simp only [six, List.mem_cons, List.not_mem_nil, or_false] at p6
      rcases p6 with rfl | rfl | rfl | rfl | rfl | rfl <;> decide
    refine (shs_of (n := 390) (k := 2) fun w hw => ?_).tup.mono (by simp) (by omega)
    simp only [List.mem_cons, List.not_mem_nil, or_false] at hw
    rcases hw with rfl | rfl | rfl
    · refine (shs_of (n := 62) (k := 0) fun w hw => ?_).tup.mono (by simp) (by omega)
      simp only [List.mem_cons, List.not_mem_nil, or_false] at hw
      rcases hw with rfl | rfl
      · exact i_ _ (by omega) (by omega)
      · exact i_ _ (by omega) (by omega)
    · refine (shs_of (n := 62) (k := 0) fun w hw => ?_).tup.mono (by simp) (by omega)
      simp only [List.mem_cons, List.not_mem_nil, or_false] at hw
      rcases hw with rfl | rfl | rfl | rfl | rfl | rfl
      · exact i_ _ (by omega) (by omega)
      · exact i_ _ (by omega) (by omega)
      · exact i_ _ (by omega) (by omega)
      · exact sh_bl.mono (by omega) (by omega)
      · exact i_ _ (by omega) (by omega)
      · exact i_ _ (by omega) (by omega)
    · exact (i_ _ r0 r1).mono (by omega) (by omega)
  have hl : (resF D).length ≤ 6 := by
    unfold resF
    rw [List.length_map]
    exact List.length_filter_le (inF D) six
  exact sr.lst.some (by rw [sizeLine_eq]; omega) (by decide)
theorem eq_str1 {x : Str} (hx : PyData.strOk x = true) : eqU? (.lst [.str x]) (.lst [.str x]) = some true :=
  eqD_same (k := 20) (show Shp (.lst [.str x]) 20 from ⟨.list [.str x], rfl, by simp [PyData.canLay0, PyData.canLayAll0, hx], by simp [PyData.depth, PyData.depthAll]⟩) (by decide)
theorem eq_nil6 : eqU? (.lst []) (.lst []) = some true := rfl
theorem sv_lst {sv : Sv} {l : List U} (h : sv.u = .lst l) : sv = .val (.lst l) ∨ sv = .own l := by
  cases sv with
  | val w => exact .inl (by rw [show w = .lst l from h])
  | own us => exact .inr (by cases h; rfl)
  | dic ks us => cases h
theorem conf_law_room_holds : ∀ us h Po Pe, us.length = 2 → sp_law_room_holds us h Po Pe → p_law_room_holds (startE N_law_room_holds us) h (bodyD Po Pe) := by
  intro us h Po Pe hl hs
  obtain ⟨i, k, L, S, G, g, u, rfl, ok, p0, hk, q⟩ := hs
  obtain ⟨zt, ezt⟩ := places_repr (u := u) ok
  have pof : ∀ (Po : Sv → Hv → Prop) (Pe : Ex → Hv → Prop) (h : Hv), Po (.own (resF (allF L S G g u (L + 2).toNat))) h → sp_places [roomU L S G u g] h Po Pe := fun _ _ _ q => ⟨_, rfl, .inl ⟨L, S, G, g, u, rfl, ok, q⟩⟩
  have sz : sizeLine = 16777216 := sizeLine_eq
  have vr : Vok (roomU L S G u g) := vok_tup (iok_room ok) (by simp)
  have og : ∀ v : U → Prop, v (.lst (resF (allF L S G g u (L + 2).toNat))) → OutC 5 (roomU L S G u g) .non none v := fun v hv => .inr (.inr (.inr ⟨L, S, G, g, u, rfl, ok, rfl, rfl, hv⟩))
  generalize resF (allF L S G g u (L + 2).toNat) = res at *
  have tok : Tok .non := tok_o rfl (fun i e => by cases e)
  rw [cut_law_room_holds]
  simp [r_law_room_holds_0, t_law_room_holds_0, startE, N_law_room_holds]
  refine pof _ _ _ ?_
  simp [ezt]
  simp [r_law_room_holds_1, t_law_room_holds_1]
  simp [r_law_room_holds_2, t_law_room_holds_2]
  have tail : ∀ (v : U) (e : Option Str) (h1 : Hv) (m : Nat), m ≤ 15 → Vok v → OutC 5 v .non e (fun _ => True) → PotAt h1 i (k + m) → Rest i h h1 → (e = none ∨ e = some ("InvalidRoom" : Str)) → r_law_room_holds_4 [some (.val (.ref i)), some (.val (roomU L S G u g)), some (.val (.str zt)), some (.val v), some (.val (.lst (refL e))), none] h1 (bodyD Po Pe) := by
    intro v e h1 m hm vv ov p1 r1 he
    obtain ⟨z, ez⟩ := vok_repr vv
    have eqr : eqU? (.lst (refL e)) (.lst (refL e)) = some true := by
      rcases he with rfl | rfl
      · rfl
      · exact eq_str1 (by decide +kernel)
    simp only [r_law_room_holds_4, t_law_room_holds_4]
    simp [ez]
    simp only [r_law_room_holds_5, t_law_room_holds_5]
    simp [sp_law_pick]
    refine ⟨_, p1, by omega, by decide, fun h2 d p2 r2 d0 d1 => ?_⟩
    refine (show sp_law_refused _ _ _ _ from ⟨_, 5, v, .non, e, rfl, by decide, by decide, tok, ov, fun sv esv => ?_⟩)
    have go : r_law_room_holds_6 [some (.val (.ref i)), some (.val (roomU L S G u g)), some (.val (.str zt)), some (.val v), some (.val (.lst (refL e))), some (.val (.str z))] h2 (bodyD Po Pe) := by
      simp only [r_law_room_holds_6, t_law_room_holds_6]
      simp
      refine pof _ _ _ ?_
      simp [ezt]
      exact q h2 (p2.mono (by omega)) (r1.trans r2)
    rcases sv_lst esv with rfl | rfl
    · simp [eqr, ez]
      exact go
    · simp [eqr, ez]
      exact go
  simp [r_law_room_holds_3, t_law_room_holds_3, sp_law_pick]
  refine ⟨k, p0, by omega, by decide, fun h1 d p1 r1 d0 d1 => ?_⟩
  by_cases hd : d = 0
  · simp [hd]
    refine (show sp_law_bad_room _ _ _ _ from ⟨i, k + 1, L, S, G, g, u, rfl, ok, p1, by omega, fun h2 sv p2 r2 vv vb => ?_⟩)
    simp
    refine ⟨by rw [sz]; omega, ?_⟩
    exact tail sv.u (some ("InvalidRoom" : Str)) h2 11 (by decide) vv (.inr (.inl ⟨rfl, ⟨vv.1, vb⟩, rfl⟩)) p2 (r1.trans r2) (.inr rfl)
  · simp [hd]
    exact tail _ none h1 1 (by decide) vr (og _ True.intro) p1 r1 (.inl rfl)

theorem conf_law_laid : ∀ us h Po Pe, us.length = 1 → sp_law_laid us h Po Pe → p_law_laid (startE N_law_laid us) h (bodyD Po Pe) := by
  intro us h Po Pe hl hs
  unfold sp_law_laid at hs
  split at hs
  · rename_i L S G u O N
    obtain ⟨ok, hp⟩ := hs
    have hb := len_bound ok
    have ok2 := ok
    obtain ⟨l1, l8, s1, g0, t1, t20, o0, o1, n1, n12⟩ := ok
    have c1 : CMul N (S + G) ∨ CMulW N (S + G) := cmul_l (by omega)
    have c2 : CMul 2 L ∨ CMulW 2 L := cmul_l (by decide)
    have hm := mulb (a := N) (b := S + G) (A := 12) (B := 20) (by omega) n12 (by omega) t20
    have hz := laid_zero ok2
    simp [p_law_laid, startE, N_law_laid, c1, c2, sizeLine_eq]
    refine ⟨by omega, by omega, by omega, by omega, by omega, ?_⟩
    rw [hz]
    refine forU_ix (fun k e h1 => h1 = h ∧ ∃ e8 e9, e = [some (.val (ringU L S G u O N)), some (.val (.int L)), some (.val (.int S)), some (.val (.int G)), some (.val (.bl u)), some (.val (.int O)), some (.val (.int N)), some (.own ((laidL L S G O N k 0).map U.int)), e8, e9]) (fun e h1 I => ?_) (fun k v hv e h1 F I hF => ?_) ⟨rfl, _, _, rfl⟩
    · obtain ⟨rfl, e8, e9, rfl⟩ := I
      rw [rangeU_len, Int.toNat_of_nonneg (by omega)]
      simpa using hp
    · obtain ⟨rfl, e8, e9, rfl⟩ := I
      obtain ⟨hk, rfl⟩ := rangeU_at hv
      simp only [Int.zero_add]
      simp [b2_law_laid]
      refine ⟨by omega, by omega, laid_loop_j ok2 (by omega) (by omega) fun e9 => ?_⟩
      refine hF _ _ ⟨rfl, some (.val (.int k)), e9, ?_⟩
      have e : laidL L S G O N k S = laidL L S G O N ((k + 1 : Nat) : Int) 0 := by
        unfold laidL
        refine List.map_congr_left fun x _ => ?_
        exact laidP_row s1 g0
      rw [e]
  · exact hs.elim

def t_law_bad_ring_9 : US := (uRet (uCall 2 sp_law_among [] (uCons (uVar 0) (uCons (uApp bLst (uCons (uApp bList (uCons (uVar 1) uNil)) (uCons (uBin bAdd (uSl bSl (uVar 1) uNoP (uP (uVal (.int 4)))) (uApp bTup (uCons (uVal (.int 1)) uNil))) (uCons (uVal .non) (uCons (uVal (.int 0)) (uCons (uVal (.str "line")) (uCons (uApp bTup (uCons (uVar 1) uNil)) (uCons (uBin bAdd (uVar 1) (uApp bTup (uCons (uVal (.int 1)) uNil))) (uCons (uRev (uVar 1)) uNil))))))))) uNil))))
def r_law_bad_ring_9 : US := t_law_bad_ring_9
def t_law_bad_ring_8 : US := (uIf (uB (uBin bEq (uVar 3) (uVal (.int 9)))) (uSeq (uSet 2 (uCall 2 sp_law_among [] (uCons (uVar 0) (uCons (uApp bLst (uCons (uVal (.int 2)) (uCons (uVal (.int 4)) uNil))) uNil))))
  (uRet (uBin bAdd (uBin bAdd (uSl bSl (uVar 1) uNoP (uP (uVar 2))) (uApp bTup (uCons (uBin bEq (uCall 2 sp_law_pick [] (uCons (uVar 0) (uCons (uVal (.int 2)) uNil))) (uVal (.int 0))) uNil))) (uSl bSl (uVar 1) (uP (uBin bAdd (uVar 2) (uVal (.int 1)))) uNoP)))) uNext)
def r_law_bad_ring_8 : US := uSeq t_law_bad_ring_8 r_law_bad_ring_9
def t_law_bad_ring_7 : US := (uIf (uB (uBin bEq (uVar 3) (uVal (.int 8)))) (uRet (uBin bAdd (uBin bAdd (uSl bSl (uVar 1) uNoP (uP (uVal (.int 3)))) (uApp bTup (uCons (uApp bInt (uCons (uBin bIx (uVar 1) (uVal (.int 3))) uNil)) uNil))) (uSl bSl (uVar 1) (uP (uVal (.int 4))) uNoP))) uNext)
def r_law_bad_ring_7 : US := uSeq t_law_bad_ring_7 r_law_bad_ring_8
def t_law_bad_ring_6 : US := (uIf (uB (uBin bLt (uVar 3) (uVal (.int 8)))) (uSeq (uSet 4 (uBin bAdd (uVal (.int 1)) (uCall 2 sp_law_pick [] (uCons (uVar 0) (uCons (uBin bIx (uVar 1) (uVal (.int 0))) uNil)))))
  (uRet (uBin bAdd (uApp bTup (uCons (uBin bIx (uVar 1) (uVal (.int 0))) (uCons (uVar 4) (uCons (uBin bSub (uBin bSub (uBin bIx (uVar 1) (uVal (.int 0))) (uVar 4)) (uVal (.int 1))) uNil)))) (uSl bSl (uVar 1) (uP (uVal (.int 3))) uNoP)))) uNext)
def r_law_bad_ring_6 : US := uSeq t_law_bad_ring_6 r_law_bad_ring_7
def t_law_bad_ring_5 : US := (uIf (uB (uBin bEq (uVar 3) (uVal (.int 5)))) (uRet (uBin bAdd (uSl bSl (uVar 1) uNoP (uP (uVar 2))) (uSl bSl (uVar 1) (uP (uBin bAdd (uVar 2) (uVal (.int 1)))) uNoP))) uNext)
def r_law_bad_ring_5 : US := uSeq t_law_bad_ring_5 r_law_bad_ring_6
def t_law_bad_ring_4 : US := (uIf (uB (uBin bEq (uVar 3) (uVal (.int 4)))) (uRet (uBin bAdd (uSl bSl (uVar 1) uNoP (uP (uVal (.int 4)))) (uApp bTup (uCons (uBin bAdd (uBin bIx (uVar 1) (uVal (.int 0))) (uCall 2 sp_law_among [] (uCons (uVar 0) (uCons (uApp bLst (uCons (uVal (.int 0)) (uCons (uVal (.int 1)) (uCons (uVal (.int 7)) uNil)))) uNil)))) (uCons (uBin bIx (uVar 1) (uVal (.int 5))) uNil))))) uNext)
def r_law_bad_ring_4 : US := uSeq t_law_bad_ring_4 r_law_bad_ring_5
def t_law_bad_ring_3 : US := (uIf (uB (uBin bEq (uVar 3) (uVal (.int 3)))) (uSeq (uSet 2 (uCall 2 sp_law_among [] (uCons (uVar 0) (uCons (uApp bLst (uCons (uVal (.int 0)) (uCons (uVal (.int 1)) (uCons (uVal (.int 5)) uNil)))) uNil))))
  (uRet (uBin bAdd (uBin bAdd (uSl bSl (uVar 1) uNoP (uP (uVar 2))) (uApp bTup (uCons (uCall 2 sp_law_among [] (uCons (uVar 0) (uCons (uApp bLst (uCons (uVal (.bl true)) (uCons (uVal (.int 0)) uNil))) uNil))) uNil))) (uSl bSl (uVar 1) (uP (uBin bAdd (uVar 2) (uVal (.int 1)))) uNoP)))) uNext)
def r_law_bad_ring_3 : US := uSeq t_law_bad_ring_3 r_law_bad_ring_4
def t_law_bad_ring_2 : US := (uIf (uB (uBin bLt (uVar 3) (uVal (.int 3)))) (uRet (uBin bAdd (uBin bAdd (uSl bSl (uVar 1) uNoP (uP (uVar 2))) (uApp bTup (uCons (uCall 2 sp_law_among [] (uCons (uVar 0) (uCons (uApp bLst (uCons (uVal .non) (uCons (uNeg (uVal (.int 1))) (uCons (uVal (.str "1")) (uCons (uApp bLst (uCons (uVal (.int 1)) uNil)) (uCons (uApp bTup (uCons (uVal (.int 1)) uNil)) (uCons (uNeg (uBin bPow (uVal (.int 10)) (uVal (.int 20)))) uNil))))))) uNil))) uNil))) (uSl bSl (uVar 1) (uP (uBin bAdd (uVar 2) (uVal (.int 1)))) uNoP))) uNext)
def r_law_bad_ring_2 : US := uSeq t_law_bad_ring_2 r_law_bad_ring_3
def t_law_bad_ring_1 : US := (uSet 3 (uCall 2 sp_law_pick [] (uCons (uVar 0) (uCons (uVal (.int 12)) uNil))))
def r_law_bad_ring_1 : US := uSeq t_law_bad_ring_1 r_law_bad_ring_2
def t_law_bad_ring_0 : US := (uSet 2 (uCall 2 sp_law_pick [] (uCons (uVar 0) (uCons (uVal (.int 6)) uNil))))
def r_law_bad_ring_0 : US := uSeq t_law_bad_ring_0 r_law_bad_ring_1
theorem cut_law_bad_ring : p_law_bad_ring = r_law_bad_ring_0 := rfl
theorem conf_law_bad_ring : ∀ us h Po Pe, us.length = 2 → sp_law_bad_ring us h Po Pe → p_law_bad_ring (startE N_law_bad_ring us) h (bodyD Po Pe) := by
  intro us h Po Pe hl hs
  obtain ⟨i, k, L, S, G, O, N, u, rfl, ok, p0, hk, q⟩ := hs
  have ir := iok_ring (u := u) ok
  have lay4 : isLay (.tup [.int L, .int S, .int G, .bl u, .int 1]) = false := lay_no (by simp)
  have ok2 := ok
  obtain ⟨l1, l8, s1, g0, t1, t20, o0, o1, n1, n12⟩ := ok
  have a0 : L2.atI [U.int L, .int S, .int G, .bl u, .int O, .int N] 0 = some (.int L) := by simp [L2.atI, L2.ixN]
  have a3 : L2.atI [U.int L, .int S, .int G, .bl u, .int O, .int N] 3 = some (.bl u) := by simp [L2.atI, L2.ixN]
  have a5 : L2.atI [U.int L, .int S, .int G, .bl u, .int O, .int N] 5 = some (.int N) := by simp [L2.atI, L2.ixN]
  have c3 : cutU [U.int L, .int S, .int G, .bl u, .int O, .int N] none (some 3) = [.int L, .int S, .int G] := by simp [cutU, HT.sIx]
  have c4 : cutU [U.int L, .int S, .int G, .bl u, .int O, .int N] none (some 4) = [.int L, .int S, .int G, .bl u] := by simp [cutU, HT.sIx]
  have d3 : cutU [U.int L, .int S, .int G, .bl u, .int O, .int N] (some 3) none = [.bl u, .int O, .int N] := by simp [cutU, HT.sIx]
  have d4 : cutU [U.int L, .int S, .int G, .bl u, .int O, .int N] (some 4) none = [.int O, .int N] := by simp [cutU, HT.sIx]
  have rv : [U.int L, .int S, .int G, .bl u, .int O, .int N].reverse = [.int N, .int O, .bl u, .int G, .int S, .int L] := rfl
  have sz : sizeLine = 16777216 := sizeLine_eq
  have lr : [U.int L, .int S, .int G, .bl u, .int O, .int N].length = 6 := rfl
  have iO : Iok (.int O) := ir _ (by simp)
  have iN : Iok (.int N) := ir _ (by simp)
  have iL : Iok (.int L) := ir _ (by simp)
  have iS : Iok (.int S) := ir _ (by simp)
  have iG : Iok (.int G) := ir _ (by simp)
  have iu : Iok (.bl u) := iok_bl
  have rep : ∀ {a b c d e f : U}, Iok a → Iok b → Iok c → Iok d → Iok e → Iok f → Vok (.tup [a, b, c, d, e, f]) := fun h1 h2 h3 h4 h5 h6 => vok_tup (fun w hw => by
    simp only [List.mem_cons, List.not_mem_nil, or_false] at hw
    rcases hw with rfl | rfl | rfl | rfl | rfl | rfl <;> assumption) (by simp)
  have lp := fun (d : Nat) (hd : d < 6) (x : U) (w0 : isWhole x 0 = false) (w1 : isWhole x 1 = false) (b : isBl x = false) => lay_put (L := L) (S := S) (G := G) (O := O) (N := N) (u := u) hd w0 w1 b
  have lp1 := fun (d : Nat) (hd : d = 0 ∨ d = 1 ∨ d = 5) (x : U) (w1 : isWhole x 1 = false) => lay_put1 (L := L) (S := S) (G := G) (O := O) (N := N) (u := u) hd w1
  have lp0 := fun (d : Nat) (hd : d = 2 ∨ d = 4) (x : U) (w0 : isWhole x 0 = false) => lay_put0 (L := L) (S := S) (G := G) (O := O) (N := N) (u := u) hd w0
  have pv : ∀ (d : Nat) (x : U), Iok x → d < 6 → Vok (.tup (putAt [.int L, .int S, .int G, .bl u, .int O, .int N] d x)) := fun d x hx hd => vok_tup (put_iok ir hx) (by simp [putAt]; omega)
  have dv : ∀ d : Nat, d < 6 → Vok (.tup ([U.int L, .int S, .int G, .bl u, .int O, .int N].take d ++ [U.int L, .int S, .int G, .bl u, .int O, .int N].drop (d + 1))) ∧ isLay (.tup ([U.int L, .int S, .int G, .bl u, .int O, .int N].take d ++ [U.int L, .int S, .int G, .bl u, .int O, .int N].drop (d + 1))) = false := fun d hd =>
    ⟨vok_tup (del_iok ir) (by simp; omega), lay_no (by simp; omega)⟩
  have ringE : ringU L S G u O N = .tup [.int L, .int S, .int G, .bl u, .int O, .int N] := rfl
  rw [cut_law_bad_ring]
  simp [r_law_bad_ring_0, t_law_bad_ring_0, startE, N_law_bad_ring, sp_law_pick]
  refine ⟨k, p0, by omega, by decide, fun h1 d p1 r1 d0 d1 => ?_⟩
  obtain ⟨d, rfl⟩ : ∃ n : Nat, d = (n : Int) := ⟨d.toNat, by omega⟩
  have hd : d < 6 := by omega
  simp [r_law_bad_ring_1, t_law_bad_ring_1, sp_law_pick]
  refine ⟨_, p1, by omega, by decide, fun h2 w p2 r2 w0 w1 => ?_⟩
  have R := r1.trans r2
  clear r1 r2 p1 p0
  have cto : ∀ d : Nat, d < 6 → cutU [U.int L, .int S, .int G, .bl u, .int O, .int N] none (some (d : Int)) = [U.int L, .int S, .int G, .bl u, .int O, .int N].take d := fun d hd => cut_to' (by rw [lr]; omega)
  have cfr : ∀ d : Nat, d < 6 → cutU [U.int L, .int S, .int G, .bl u, .int O, .int N] (some ((d : Int) + 1)) none = [U.int L, .int S, .int G, .bl u, .int O, .int N].drop (d + 1) := fun d hd => cut_from' (by rw [lr]; omega)
  have l1' : ∀ d : Nat, ([U.int L, .int S, .int G, .bl u, .int O, .int N].take d).length ≤ 6 := fun d => by rw [List.length_take, lr]; omega
  have l2' : ∀ d : Nat, ([U.int L, .int S, .int G, .bl u, .int O, .int N].drop d).length ≤ 6 := fun d => by rw [List.length_drop, lr]; omega
  have pa : ∀ (d : Nat) (x : U), [U.int L, .int S, .int G, .bl u, .int O, .int N].take d ++ x :: [U.int L, .int S, .int G, .bl u, .int O, .int N].drop (d + 1) = putAt [U.int L, .int S, .int G, .bl u, .int O, .int N] d x := fun d x => by simp [putAt]
  -- the first three ways
  by_cases c : w < 3
  · simp only [r_law_bad_ring_2, t_law_bad_ring_2, pow20]
    simp [c, cto d hd, sp_law_among, sz]
    refine ⟨_, p2, by omega, fun h3 j x p3 r3 hx => ?_⟩
    have hx : x ∈ oddL := List.mem_of_getElem? hx
    simp [cfr d hd, sz, pa]
    have e1 := l1' d
    have e2 := l2' (d + 1)
    refine ⟨by omega, by omega, ?_⟩
    exact q h3 _ (p3.mono (by omega)) (R.trans r3) (by simpa [putAt] using pv d x (odd_iok x hx) hd) (by simpa [putAt] using lp d hd x (odd_whole (by omega) x hx).1 (odd_whole (by omega) x hx).1 (odd_whole (l := 0) (by omega) x hx).2)
  · simp [r_law_bad_ring_2, t_law_bad_ring_2, c]
    by_cases c' : w = 3
    · simp [r_law_bad_ring_3, t_law_bad_ring_3, c', sp_law_among, sz]
      refine ⟨_, p2, by omega, fun h3 j x p3 r3 hx => ?_⟩
      obtain ⟨e, rfl, he⟩ : ∃ e : Nat, x = .int (e : Int) ∧ (e = 0 ∨ e = 1 ∨ e = 5) := by
        have := List.mem_of_getElem? hx
        simp at this
        rcases this with rfl | rfl | rfl
        · exact ⟨0, rfl, .inl rfl⟩
        · exact ⟨1, rfl, .inr (.inl rfl)⟩
        · exact ⟨5, rfl, .inr (.inr rfl)⟩
      have he6 : e < 6 := by omega
      simp [cto e he6, sz]
      refine ⟨_, p3, by omega, fun h4 j2 y p4 r4 hy => ?_⟩
      have hy2 : Iok y ∧ isWhole y 1 = false := by
        have := List.mem_of_getElem? hy
        simp at this
        rcases this with rfl | rfl
        · exact ⟨iok_bl, rfl⟩
        · exact ⟨iok_sm (by omega) (by omega), rfl⟩
      simp [cfr e he6, sz, pa]
      have e1 := l1' e
      have e2 := l2' (e + 1)
      refine ⟨by omega, by omega, ?_⟩
      exact q h4 _ (p4.mono (by omega)) ((R.trans r3).trans r4) (by simpa [putAt] using pv e y hy2.1 he6) (by simpa [putAt] using lp1 e he y hy2.2)
    · simp [r_law_bad_ring_3, t_law_bad_ring_3, c']
      by_cases c4' : w = 4
      · simp [r_law_bad_ring_4, t_law_bad_ring_4, c4', sp_law_among, sz, a0, c4, a5]
        refine ⟨_, p2, by omega, fun h3 j x p3 r3 hx => ?_⟩
        obtain ⟨e, rfl, he⟩ : ∃ e : Int, x = .int e ∧ 0 ≤ e ∧ e ≤ 7 := by
          have := List.mem_of_getElem? hx
          simp at this
          rcases this with rfl | rfl | rfl <;> exact ⟨_, rfl, by decide, by decide⟩
        simp [a5, sz]
        exact q h3 (.val (.tup [.int L, .int S, .int G, .bl u, .int (L + e), .int N])) (p3.mono (by omega)) (R.trans r3) (rep iL iS iG iu (iok_sm (by omega) (by omega)) iN) (by simp [isLay, ltU]; intros; omega)
      · simp [r_law_bad_ring_4, t_law_bad_ring_4, c4']
        by_cases c5 : w = 5
        · simp [r_law_bad_ring_5, t_law_bad_ring_5, c5, cto d hd, cfr d hd, sz]
          have e1 := l1' d
          have e2 := l2' (d + 1)
          refine ⟨by omega, ?_⟩
          exact q h2 _ (p2.mono (by omega)) R (dv d hd).1 (dv d hd).2
        · simp [r_law_bad_ring_5, t_law_bad_ring_5, c5]
          by_cases c8 : w < 8
          · simp [r_law_bad_ring_6, t_law_bad_ring_6, c8, a0, sp_law_pick]
            refine ⟨_, p2, by omega, by omega, slog (by omega) (by omega), fun h3 e p3 r3 e0 e1 => ?_⟩
            simp [a0, d3, sz]
            exact q h3 (.val (.tup [.int L, .int (1 + e), .int (L - (1 + e) - 1), .bl u, .int O, .int N])) (p3.mono (by omega)) (R.trans r3) (rep iL (iok_sm (by omega) (by omega)) (iok_sm (by omega) (by omega)) iu iO iN) (by simp [isLay, hasM, geU]; intros; omega)
          · simp [r_law_bad_ring_6, t_law_bad_ring_6, c8]
            by_cases c88 : w = 8
            · simp [r_law_bad_ring_7, t_law_bad_ring_7, c88, a3, c3, d4, sz]
              exact q h2 (.val (.tup [.int L, .int S, .int G, .int (if u = true then 1 else 0), .int O, .int N])) (p2.mono (by omega)) R (rep iL iS iG (iok_sm (by split <;> omega) (by split <;> omega)) iO iN) (by simp [isLay, hasM, isBl])
            · simp [r_law_bad_ring_7, t_law_bad_ring_7, c88]
              by_cases c9 : w = 9
              · simp [r_law_bad_ring_8, t_law_bad_ring_8, c9, sp_law_among, sz]
                refine ⟨_, p2, by omega, fun h3 j x p3 r3 hx => ?_⟩
                obtain ⟨e, rfl, he⟩ : ∃ e : Nat, x = .int (e : Int) ∧ (e = 2 ∨ e = 4) := by
                  have := List.mem_of_getElem? hx
                  simp at this
                  rcases this with rfl | rfl
                  · exact ⟨2, rfl, .inl rfl⟩
                  · exact ⟨4, rfl, .inr rfl⟩
                have he6 : e < 6 := by omega
                simp [cto e he6, sz, sp_law_pick]
                refine ⟨_, p3, by omega, by decide, fun h4 z p4 r4 z0 z1 => ?_⟩
                have e2 := l2' (e + 1)
                rw [cfr e he6]
                refine ⟨by omega, by omega, ?_⟩
                exact q h4 _ (p4.mono (by omega)) ((R.trans r3).trans r4) (by simpa [putAt] using pv e (.bl (decide (z = 0))) iok_bl he6) (by simpa [putAt] using lp0 e he (.bl (decide (z = 0))) rfl)
              · simp [r_law_bad_ring_8, t_law_bad_ring_8, c9]
                simp [r_law_bad_ring_9, t_law_bad_ring_9, sp_law_among, sz]
                refine ⟨by rw [c4]; simp, _, p2, by omega, fun h3 j x p3 r3 hx => ?_⟩
                have hv : Vok x ∧ isLay x = false := by
                  have := List.mem_of_getElem? hx
                  simp only [c4, List.mem_cons, List.not_mem_nil, or_false] at this
                  rcases this with rfl | rfl | rfl | rfl | rfl | rfl | rfl | rfl
                  · exact ⟨vok_lst ir (by simp), rfl⟩
                  · exact ⟨vok_tup (fun w hw => by
                      simp only [List.mem_append, List.mem_cons, List.not_mem_nil, or_false] at hw
                      rcases hw with (rfl | rfl | rfl | rfl) | rfl
                      · exact iL
                      · exact iS
                      · exact iG
                      · exact iu
                      · exact iok_sm (by omega) (by omega)) (by simp), lay_no (by simp)⟩
                  · exact ⟨vok_i iok_non rfl, rfl⟩
                  · exact ⟨vok_i (iok_sm (by omega) (by omega)) rfl, rfl⟩
                  · exact ⟨vok_i iok_sl rfl, rfl⟩
                  · exact ⟨vok_one ir (by simp), lay_no (by simp)⟩
                  · exact ⟨vok_tup (fun w hw => by
                      simp only [List.mem_cons, List.not_mem_nil, or_false] at hw
                      rcases hw with rfl | rfl | rfl | rfl | rfl | rfl | rfl
                      · exact iL
                      · exact iS
                      · exact iG
                      · exact iu
                      · exact iO
                      · exact iN
                      · exact iok_sm (by omega) (by omega)) (by simp), lay_no (by simp)⟩
                  · exact ⟨rep iN iO iu iG iS iL, by simp [isLay, hasM, isWhole]⟩
                exact q h3 (.val x) (p3.mono (by omega)) (R.trans r3) hv.1 hv.2

def t_law_second_4 : US := (uRet (uCall 2 sp_law_among [] (uCons (uVar 0) (uCons (uVar 3) uNil))))
def r_law_second_4 : US := t_law_second_4
def t_law_second_3 : US := (uIf (uB (uBin bEq (uCall 2 sp_law_pick [] (uCons (uVar 0) (uCons (uVal (.int 3)) uNil))) (uVal (.int 0)))) (uRet (uCall 2 sp_law_among [] (uCons (uVar 0) (uCons (uVar 1) uNil)))) uNext)
def r_law_second_3 : US := uSeq t_law_second_3 r_law_second_4
def t_law_second_2 : US := (uFor (uIter bRange1 (uCons (uVal (.int 4)) uNil)) (gN 4) b1_law_second)
def r_law_second_2 : US := uSeq t_law_second_2 r_law_second_3
def t_law_second_1 : US := (uSet 3 (uApp bLst (uCons (uNeg (uVal (.int 1))) (uCons (uBin bAdd (uVar 2) (uVal (.int 1))) (uCons (uBin bAdd (uVar 2) (uVal (.int 2))) (uCons (uBin bSub (uNeg (uVal (.int 1))) (uVar 2)) (uCons (uVal (.bl true)) (uCons (uVal (.bl false)) (uCons (uVal .non) (uCons (uVal (.str "0")) (uCons (uVal (.str "")) (uCons (uApp bLst (uCons (uVal (.int 0)) uNil)) (uCons (uApp bTup (uCons (uVal (.int 0)) uNil)) (uCons (uApp bTup uNil) (uCons (uApp bLst uNil) (uCons (uBin bPow (uVal (.int 10)) (uVal (.int 30))) (uCons (uNeg (uBin bPow (uVal (.int 10)) (uVal (.int 30)))) uNil)))))))))))))))))
def r_law_second_1 : US := uSeq t_law_second_1 r_law_second_2
def t_law_second_0 : US := (uSet 2 (uBin bIx (uVar 1) (uNeg (uVal (.int 1)))))
def r_law_second_0 : US := uSeq t_law_second_0 r_law_second_1
theorem cut_law_second : p_law_second = r_law_second_0 := rfl
theorem conf_law_second : ∀ us h Po Pe, us.length = 2 → sp_law_second us h Po Pe → p_law_second (startE N_law_second us) h (bodyD Po Pe) := by
  intro us h Po Pe hl hs
  obtain ⟨i, k, l, rfl, ne, ll, hb, p0, hk, q⟩ := hs
  obtain ⟨m, hm, ha⟩ := at_lastL ne
  have ⟨m0, m1⟩ := hb m hm
  have sz : sizeLine = 16777216 := sizeLine_eq
  have lp : 0 < l.length := List.length_pos_of_mem hm
  rw [cut_law_second]
  simp only [r_law_second_0, t_law_second_0, startE, N_law_second]
  simp [ha]
  have sok := secL_ok m0 m1
  simp only [r_law_second_1, t_law_second_1, pow30', neg30]
  generalize big30 = B at *
  have em : ∀ {e3 e4 e5 : Option Sv}, Ev (uVar 2) [some (Sv.val (U.ref i)), some (Sv.val (U.lst (List.map U.int l))), some (Sv.val (U.int m)), e3, e4, e5] h (.val (.int m)) := ev_var rfl
  have sb : ∀ {i j : Int} (P : Sv → Hv → Prop), P (.val (.int (i - j))) h → bSub (.int i) (.int j) h P := fun P q => ⟨True.intro, q⟩
  refine set_go (sv := .own (secL m B)) (ev_app (us := secL m B) (eva_cons (ev_neg (ev_val _)) (eva_cons (ev_bin em (ev_val _) f_addI) (eva_cons (ev_bin em (ev_val _) f_addI) (eva_cons (ev_bin (ev_neg (ev_val _)) em sb) (eva_cons (ev_val _) (eva_cons (ev_val _) (eva_cons (ev_val _) (eva_cons (ev_val _) (eva_cons (ev_val _) (eva_cons (x := .own [.int 0]) (ev_app (eva_cons (ev_val _) eva_nil) (f_lst (by rw [sz]; decide))) (eva_cons (x := .val (.tup [.int 0])) (ev_app (eva_cons (ev_val _) eva_nil) (f_tup (by rw [sz]; decide))) (eva_cons (x := .val (.tup [])) (ev_app eva_nil (f_tup (by rw [sz]; decide))) (eva_cons (x := .own []) (ev_app eva_nil (f_lst (by rw [sz]; decide))) (eva_cons (ev_val _) (eva_cons (ev_val _) eva_nil))))))))))))))) (f_lst (by rw [sz]; simp [secL]))) (by show 3 < 6; decide) ?_
  show r_law_second_2 [some (.val (.ref i)), some (.val (.lst (l.map U.int))), some (.val (.int m)), some (.val (.lst (secL m B))), none, none] h (bodyD Po Pe)
  generalize hsl : secL m B = SL at *
  have sl15 : SL.length = 15 := by rw [← hsl]; rfl
  simp only [r_law_second_2, t_law_second_2]
  simp
  have tl : ∀ (us : List U) (e4 e5 : Option Sv) (h1 : Hv), (∀ x ∈ us, TokS x) → 0 < us.length → us.length ≤ 100 → PotAt h1 i (k + 4) → Rest i h h1 → r_law_second_3 [some (.val (.ref i)), some (.val (.lst (l.map U.int))), some (.val (.int m)), some (.val (.lst us)), e4, e5] h1 (bodyD Po Pe) := by
    intro us e4 e5 h1 hu h0 h100 p1 r1
    simp only [r_law_second_3, t_law_second_3]
    simp [sp_law_pick]
    refine ⟨_, p1, by omega, by decide, fun h2 d p2 r2 d0 d1 => ?_⟩
    by_cases hd : d = 0
    · simp [hd, sp_law_among]
      refine ⟨_, p2, by omega, lp, by omega, fun h3 j x p3 r3 n hn hx => ?_⟩
      subst hx
      have hn := List.mem_of_getElem? hn
      have := hb n hn
      have ti : TokS (.int n) := toks_int (by show Int.natAbs _ < 2 ^ 110; omega)
      exact q h3 _ (p3.mono (by omega)) ((r1.trans r2).trans r3) ti.1 ti.2
    · simp [hd]
      simp only [r_law_second_4, t_law_second_4]
      simp [sp_law_among]
      refine ⟨_, p2, by omega, h0, by omega, fun h3 j x p3 r3 hx => ?_⟩
      have ti := hu x (List.mem_of_getElem? hx)
      exact q h3 _ (p3.mono (by omega)) ((r1.trans r2).trans r3) ti.1 ti.2
  have inu : ∀ n : Int, inU? (.int n) (.lst (l.map U.int)) = some (decide (n ∈ l)) := fun n => inU_ints6 n l
  refine forU_ix (fun j e h1 => PotAt h1 i (k + j) ∧ Rest i h h1 ∧ ∃ us e4 e5, e = [some (.val (.ref i)), some (.val (.lst (l.map U.int))), some (.val (.int m)), some (.val (.lst us)), e4, e5] ∧ (∀ x ∈ us, TokS x) ∧ 0 < us.length ∧ us.length ≤ 15 + 3 * j) (fun e h1 I => ?_) (fun j v hv e h1 F I hF => ?_) ⟨p0, .refl, SL, none, none, rfl, sok, by omega, by omega⟩
  · obtain ⟨p1, r1, us, e4, e5, rfl, hu, h0, hl⟩ := I
    rw [rangeU_len] at p1 hl
    exact tl us e4 e5 h1 hu h0 (by omega) p1 r1
  · obtain ⟨p1, r1, us, e4, e5, rfl, hu, h0, hl⟩ := I
    obtain ⟨hj, rfl⟩ := rangeU_at hv
    simp [b1_law_second, sp_law_pick]
    refine ⟨_, p1, by omega, by omega, ?_, fun h2 d p2 r2 d0 d1 => ?_⟩
    · exact Nat.lt_of_le_of_lt (LB.log (k := 20) (by show Int.natAbs _ < 2 ^ 20; omega)) (by decide)
    · simp [inu]
      by_cases hd : d ∈ l
      · simp [hd]
        exact hF _ _ ⟨p2, r1.trans r2, us, _, _, rfl, hu, h0, by omega⟩
      · simp [hd, sz]
        refine ⟨by omega, hF _ _ ⟨p2, r1.trans r2, _, _, _, rfl, fun x hx => ?_, by simp, by simp; omega⟩⟩
        rcases List.mem_append.mp hx with y | y
        · exact hu x y
        · simp at y
          subst y
          exact toks_int (by show Int.natAbs _ < 2 ^ 110; omega)

theorem cut_mem {l : List U} {a b : Int} {w : U} (ha : 0 ≤ a) (hab : a ≤ b) (hb : b ≤ l.length) (h : w ∈ cutU l (some a) (some b)) : ∃ i : Nat, a ≤ i ∧ (i : Int) < b ∧ l[i]? = some w := by
  obtain ⟨a, rfl⟩ : ∃ k : Nat, a = (k : Int) := ⟨a.toNat, by omega⟩
  obtain ⟨b, rfl⟩ : ∃ k : Nat, b = (k : Int) := ⟨b.toNat, by omega⟩
  unfold cutU at h
  rw [HT.sIx_nat, HT.sIx_nat, Nat.min_eq_left (by omega), Nat.min_eq_left (by omega)] at h
  obtain ⟨t, ht⟩ := List.mem_iff_getElem?.mp h
  have htl := (List.getElem?_eq_some_iff.mp ht).1
  rw [List.length_take, List.length_drop] at htl
  rw [List.getElem?_take_of_lt (by omega), List.getElem?_drop] at ht
  exact ⟨a + t, by omega, by omega, ht⟩
theorem cut_ints {l : List Int} {a b : Option Int} : cutU (l.map U.int) a b = (cutU l a b).map U.int := by
  unfold cutU
  rw [List.length_map, ← List.map_drop, ← List.map_take]
/-- [k for k in part if k >= 0], all ints -/
theorem pos_comp {e : En} {h : Hv} {Po : List U → En → Hv → Prop} (he : 5 < e.length) (hw : ∀ u, wipeE (e.set 5 (some (.val u))) [5] = e) : ∀ (part : List Int) (acc : List Int), acc.length + part.length ≤ 400 →
    Po ((acc ++ part.filter fun n => decide (0 ≤ n)).map U.int) e h → compU (gN 5) (uB (uBin bGe (uVar 5) (uVal (.int 0)))) (uVar 5) [5] Po (part.map U.int) (acc.map U.int) e h
  | [], acc, _, q => by simpa [compU] using q
  | n :: part, acc, hl, q => by
    have ih := fun acc' => pos_comp (Po := Po) (h := h) he hw part acc'
    rw [List.map_cons, compU]
    generalize compU (gN 5) (uB (uBin bGe (uVar 5) (uVal (.int 0)))) (uVar 5) [5] Po (part.map U.int) = F at ih ⊢
    simp only [gN, uB, uBin, uVar, uVal]
    refine ⟨he, ?_⟩
    rw [List.getElem?_set_self he]
    simp only [Sv.u, bGe, bIntC, svB]
    rw [List.length_cons] at hl
    by_cases hn : 0 ≤ n
    · rw [if_pos (by simpa using hn)]
      refine ⟨by rw [List.length_map, sizeLine_eq]; omega, ?_⟩
      rw [hw, show acc.map U.int ++ [U.int n] = (acc ++ [n]).map U.int by simp]
      refine ih _ (by simp; omega) ?_
      rw [List.filter_cons_of_pos (by simpa using hn)] at q
      simpa using q
    · rw [if_neg (by simpa using hn), hw]
      refine ih _ (by omega) ?_
      rw [List.filter_cons_of_neg (by simpa using hn)] at q
      simpa using q
/-! ### the law's lines and patterns -/
theorem part_cut {L S G O N : Int} {row : Nat} (ok : OkR L S G O N) (hr : (row : Int) * L + L ≤ lenF L S G O N) : cutU (laidL L S G O N N 0) (some ((row : Int) * L)) (some ((row : Int) * L + L)) = partL L S G O N row := by
  have l1 := ok.l1
  have h0 : 0 ≤ (row : Int) * L := Int.mul_nonneg (by omega) (by omega)
  obtain ⟨a, ha⟩ : ∃ a : Nat, (row : Int) * L = (a : Int) := ⟨((row : Int) * L).toNat, by omega⟩
  obtain ⟨l, hl⟩ : ∃ l : Nat, L = (l : Int) := ⟨L.toNat, by omega⟩
  rw [ha, show ((a : Int) + L) = ((a + l : Nat) : Int) by omega]
  unfold cutU
  rw [HT.sIx_nat, HT.sIx_nat, laidL_len, Nat.min_eq_left (by omega), Nat.min_eq_left (by omega), show a + l - a = l by omega]
  apply List.ext_getElem
  · rw [List.length_take, List.length_drop, laidL_len]
    unfold partL
    rw [List.length_map, List.length_range]
    omega
  · intro i h1 h2
    have e2 : (partL L S G O N row)[i] = laidP S G O N 0 ((row : Int) * L + i) := by simp [partL]
    rw [List.getElem_take, List.getElem_drop, e2, ha]
    simp [laidL]
theorem has_filter {L S G O N r : Int} (ok : OkR L S G O N) : ((partL L S G O N r).filter fun n => decide (0 ≤ n)).isEmpty = !hasR L S G O N r := by
  have hp := has_part (r := r) ok
  cases hh : hasR L S G O N r with
  | true =>
    obtain ⟨k, hk, k0⟩ := hp.mp hh
    have hm : k ∈ (partL L S G O N r).filter fun n => decide (0 ≤ n) := List.mem_filter.mpr ⟨hk, decide_eq_true k0⟩
    cases e : (partL L S G O N r).filter fun n => decide (0 ≤ n) with
    | nil => rw [e] at hm; cases hm
    | cons a b => rfl
  | false =>
    cases e : (partL L S G O N r).filter fun n => decide (0 ≤ n) with
    | nil => rfl
    | cons a b =>
      have hm : a ∈ (partL L S G O N r).filter fun n => decide (0 ≤ n) := by rw [e]; exact List.mem_cons_self ..
      obtain ⟨m1, m2⟩ := List.mem_filter.mp hm
      rw [hp.mpr ⟨a, m1, by simpa using m2⟩] at hh
      cases hh
def foundF (L S G O N : Int) (r : Int) : U := .tup [.int r, .lst ((partL L S G O N r).map U.int)]
theorem conf_law_lines : ∀ us h Po Pe, us.length = 2 → sp_law_lines us h Po Pe → p_law_lines (startE N_law_lines us) h (bodyD Po Pe) := by
  intro us h Po Pe hl hs
  unfold sp_law_lines at hs
  split at hs
  · rename_i L S G u O N l
    obtain ⟨ok, rfl, hp⟩ := hs
    have hb := len_bound ok
    have ok2 := ok
    obtain ⟨l1, l8, s1, g0, t1, t20, o0, o1, n1, n12⟩ := ok
    have d1 : CDivW (lenF L S G O N : Int) L := ⟨by omega, Nat.lt_of_le_of_lt (LB.log (k := 10) (by show Int.natAbs _ < 1024; omega)) (by decide)⟩
    have q0 : 0 ≤ (lenF L S G O N : Int) / L := Int.ediv_nonneg (by omega) (by omega)
    have q1 : (lenF L S G O N : Int) / L ≤ 300 := Int.le_trans (Int.ediv_le_self _ (by omega)) (by omega)
    have q2 : (lenF L S G O N : Int) / L * L ≤ lenF L S G O N := Int.ediv_mul_le _ (by omega)
    simp [p_law_lines, startE, N_law_lines, laidL_len, L2.atI, L2.ixN, d1, sizeLine_eq]
    refine ⟨by omega, by omega, ?_⟩
    refine forU_ix (fun j e h1 => h1 = h ∧ ∃ e3 e4 e5, e = [some (.val (ringU L S G u O N)), some (.val (.lst ((laidL L S G O N N 0).map U.int))), some (.own ((((List.range j).map fun (r : Nat) => (r : Int)).filter (hasR L S G O N)).map (foundF L S G O N))), e3, e4, e5]) (fun e h1 I => ?_) (fun row v hv e h1 F I hF => ?_) ⟨rfl, _, _, _, rfl⟩
    · obtain ⟨rfl, e3, e4, e5, rfl⟩ := I
      rw [rangeU_len]
      simp
      exact hp
    · obtain ⟨rfl, e3, e4, e5, rfl⟩ := I
      obtain ⟨hj, rfl⟩ := rangeU_at hv
      have hrow : ((row : Int) + 1) * L ≤ (lenF L S G O N : Int) / L * L := Int.mul_le_mul_of_nonneg_right (by omega) (by omega)
      rw [Int.add_mul, Int.one_mul] at hrow
      have hrow0 : 0 ≤ (row : Int) * L := Int.mul_nonneg (by omega) (by omega)
      have c1 : CMul (row : Int) L ∨ CMulW (row : Int) L := cmul_l (by omega)
      simp only [Int.zero_add]
      have hcut := cut_ints (l := laidL L S G O N N 0) (a := some ((row : Int) * L)) (b := some ((row : Int) * L + L))
      rw [part_cut ok2 (by omega)] at hcut
      have hcl : (partL L S G O N row).length ≤ 400 := by unfold partL; rw [List.length_map, List.length_range]; omega
      have hll : (((List.range row).map fun (r : Nat) => (r : Int)).filter (hasR L S G O N)).length ≤ row := Nat.le_trans (List.length_filter_le _ _) (by simp)
      have nx := fun e4 e5 => hF [some (.val (ringU L S G u O N)), some (.val (.lst ((laidL L S G O N N 0).map U.int))), some (.own ((((List.range (row + 1)).map fun (r : Nat) => (r : Int)).filter (hasR L S G O N)).map (foundF L S G O N))), some (.val (.int row)), e4, e5] h1 ⟨rfl, _, _, _, rfl⟩
      rw [List.range_succ, List.map_append, List.filter_append, List.map_append] at nx
      generalize (((List.range row).map fun (r : Nat) => (r : Int)).filter (hasR L S G O N)) = A at *
      simp [b1_law_lines, L2.atI, L2.ixN, c1, hcut]
      refine pos_comp (by simp) (fun u => by simp) _ [] (by simpa using hcl) ?_
      simp only [List.nil_append, eqU_ints_nil, has_filter ok2]
      cases hh : hasR L S G O N (row : Int) with
      | true =>
        simp [sizeLine_eq]
        refine ⟨by omega, ?_⟩
        simp [hh, foundF] at nx
        exact nx _ _
      | false =>
        simp
        simp [hh] at nx
        exact nx _ _
  · exact hs.elim

def t_law_numbers_3 : US := (uRet (uApp bLst (uCons (uLc (uIter bRange1 (uCons (uBin bIx (uVar 0) (uVal (.int 5))) uNil)) (gN 6) uYes (uVar 6) [6]) (uCons (uVar 4) (uCons (uVar 3) (uCons (uVar 3) uNil))))))
def r_law_numbers_3 : US := t_law_numbers_3
def t_law_numbers_2 : US := (uFor (uItems (uVar 3)) (gN 2) b1_law_numbers)
def r_law_numbers_2 : US := uSeq t_law_numbers_2 r_law_numbers_3
def t_law_numbers_1 : US := (uSetO 4 (uApp bLst uNil))
def r_law_numbers_1 : US := uSeq t_law_numbers_1 r_law_numbers_2
def t_law_numbers_0 : US := (uSet 3 (uLc (uItems (uCall 2 sp_law_lines [] (uCons (uVar 0) (uCons (uVar 1) uNil)))) (gT [2, 5]) uYes (uVar 2) [2, 5]))
def r_law_numbers_0 : US := uSeq t_law_numbers_0 r_law_numbers_1
theorem cut_law_numbers : p_law_numbers = r_law_numbers_0 := rfl
theorem num_lines {x0 x1 x3 x4 x6 x7 : Option Sv} {g : Int → U} {Po : List U → En → Hv → Prop} {h : Hv} : ∀ (ys acc : List Int), acc.length + ys.length ≤ 1000 → Po ((acc ++ ys).map U.int) [x0, x1, none, x3, x4, none, x6, x7] h →
    compU (gT [2, 5]) uYes (uVar 2) [2, 5] Po (ys.map fun r => U.tup [.int r, g r]) (acc.map U.int) [x0, x1, none, x3, x4, none, x6, x7] h
  | [], acc, _, q => by simpa [compU] using q
  | y :: ys, acc, hl, q => by
    have ih := fun acc' => num_lines (x0 := x0) (x1 := x1) (x3 := x3) (x4 := x4) (x6 := x6) (x7 := x7) (g := g) (Po := Po) (h := h) ys acc'
    rw [List.map_cons, compU]
    generalize compU (gT [2, 5]) uYes (uVar 2) [2, 5] Po (ys.map fun r => U.tup [.int r, g r]) = F at ih ⊢
    rw [List.length_cons] at hl
    simp [sizeLine_eq]
    refine ⟨by omega, ?_⟩
    have := ih (acc ++ [y]) (by simp; omega) (by simpa using q)
    simpa using this
theorem flat_succ {α β : Type} {l : List α} {f : α → List β} {j : Nat} {a : α} (h : l[j]? = some a) : (l.take (j + 1)).flatMap f = (l.take j).flatMap f ++ f a := by
  rw [List.take_add_one, h, List.flatMap_append]
  simp
theorem flat_len {R : List Int} {f : Int → List Int} {n : Nat} (h : ∀ r ∈ R, (f r).length ≤ n) : (R.flatMap f).length ≤ R.length * n := by
  induction R with
  | nil => simp
  | cons r R ih =>
    rw [List.flatMap_cons, List.length_append, List.length_cons, Nat.add_mul, Nat.one_mul]
    have := h r List.mem_cons_self
    have := ih fun q hq => h q (List.mem_cons_of_mem _ hq)
    omega
theorem conf_law_numbers : ∀ us h Po Pe, us.length = 2 → sp_law_numbers us h Po Pe → p_law_numbers (startE N_law_numbers us) h (bodyD Po Pe) := by
  intro us h Po Pe hl hs
  unfold sp_law_numbers at hs
  split at hs
  · rename_i L S G u O N l
    obtain ⟨ok, rfl, hp⟩ := hs
    have rl := rows_len ok
    have rb := fun r hr => rows_bd7 (r := r) ok hr
    have llof : ∀ (Po : Sv → Hv → Prop) (Pe : Ex → Hv → Prop) (h : Hv), Po (.val (.lst ((rowsL L S G O N).map fun r => .tup [.int r, .lst ((partL L S G O N r).map U.int)]))) h → sp_law_lines [ringU L S G u O N, .lst ((laidL L S G O N N 0).map U.int)] h Po Pe := fun _ _ _ q => ⟨ok, rfl, q⟩
    have ok2 := ok
    obtain ⟨l1, l8, s1, g0, t1, t20, o0, o1, n1, n12⟩ := ok
    have a0 : L2.atI [U.int L, .int S, .int G, .bl u, .int O, .int N] 0 = some (.int L) := by simp [L2.atI, L2.ixN]
    have a5 : L2.atI [U.int L, .int S, .int G, .bl u, .int O, .int N] 5 = some (.int N) := by simp [L2.atI, L2.ixN]
    have sz : sizeLine = 16777216 := sizeLine_eq
    unfold rgtF at hp
    simp only at hp
    generalize hR : rowsL L S G O N = R at *
    generalize U.lst ((laidL L S G O N N 0).map U.int) = ll at *
    rw [cut_law_numbers]
    simp [r_law_numbers_0, t_law_numbers_0, startE, N_law_numbers]
    refine llof _ _ _ ?_
    simp
    refine num_lines R [] (by rw [List.length_nil]; omega) ?_
    rw [List.nil_append]
    refine ⟨by show 3 < 8; decide, ?_⟩
    show r_law_numbers_1 [some (.val (ringU L S G u O N)), some (.val ll), none, some (.val (.lst (R.map U.int))), none, none, none, none] h (bodyD Po Pe)
    simp [r_law_numbers_1, t_law_numbers_1]
    simp [r_law_numbers_2, t_law_numbers_2]
    refine forU_ix (fun j e h1 => h1 = h ∧ ∃ e2, e = [some (.val (ringU L S G u O N)), some (.val ll), e2, some (.val (.lst (R.map U.int))), some (.own (((R.take j).flatMap fun r => (List.range L.toNat).map fun (k : Nat) => r * L + k).map U.int)), none, none, none]) (fun e h1 I => ?_) (fun j v hv e h1 F I hF => ?_) ⟨rfl, _, rfl⟩
    · obtain ⟨rfl, e2, rfl⟩ := I
      rw [List.length_map, List.take_length]
      simp [r_law_numbers_3, t_law_numbers_3, a5]
      refine ⟨by omega, by omega, ?_⟩
      refine compU_same (by simp) (by rw [rangeU_len, sz]; omega) (fun u => by simp) ?_
      rw [rngU 0 N.toNat]
      simp [sz]
      simpa using hp
    · obtain ⟨rfl, e2, rfl⟩ := I
      rw [List.getElem?_map] at hv
      obtain ⟨r, hr, rfl⟩ := Option.map_eq_some_iff.mp hv
      have hm : r ∈ R := List.mem_of_getElem? hr
      obtain ⟨b0, b1, b2⟩ := rb r hm
      have hj := (List.getElem?_eq_some_iff.mp hr).1
      have hF2 := fun e2 => hF _ h1 ⟨rfl, e2, rfl⟩
      rw [flat_succ hr] at hF2
      have fl := flat_len (R := R.take j) (f := fun r => (List.range L.toNat).map fun (k : Nat) => r * L + k) (n := 8) (fun q _ => by simp; omega)
      have tl : (R.take j).length ≤ 300 := by rw [List.length_take]; omega
      have fl2 : ((R.take j).flatMap fun r => (List.range L.toNat).map fun (k : Nat) => r * L + k).length ≤ 2400 := Nat.le_trans fl (by omega)
      have c1 : CMul r L ∨ CMulW r L := cmul_l (by omega)
      have lb := len_bound ok2
      have e1 : (r * L + L - r * L).toNat = L.toNat := by omega
      have m0 : 0 ≤ r * L := Int.mul_nonneg b0 (by omega)
      generalize (R.take j).flatMap (fun r => (List.range L.toNat).map fun (k : Nat) => r * L + k) = fl0 at *
      simp [b1_law_numbers, a0, c1, e1]
      refine ⟨by omega, ?_⟩
      refine compU_same (by simp) (by rw [rangeU_len, sz]; omega) (fun u => by simp) ?_
      rw [rngU]
      simp [sz]
      refine ⟨by omega, ?_⟩
      have := hF2 (some (.val (.int r)))
      rw [List.map_append] at this
      simpa using this
  · exact hs.elim

def t_law_holds_b1_6a_0 : US := (uSet 11 (uApp bLst (uCons (uBin bIx (uApp bLst (uCons (uVal (.str "bad slot")) (uCons (uVal (.str "bad spot")) (uCons (uVal (.str "bad line")) (uCons (uVal (.str "bad line")) uNil))))) (uVar 6)) uNil)))
def r_law_holds_b1_6a_0 : US := t_law_holds_b1_6a_0
def t_law_holds_b1_7a_0 : US := (uSet 11 (uApp bLst (uCons (uVal (.str "bad ring")) uNil)))
def r_law_holds_b1_7a_0 : US := t_law_holds_b1_7a_0
def t_law_holds_b1_8a_0 : US := (uRet (uVal (.bl false)))
def r_law_holds_b1_8a_0 : US := t_law_holds_b1_8a_0
def t_law_holds_b1_9a_0 : US := (uRet (uVal (.bl false)))
def r_law_holds_b1_9a_0 : US := t_law_holds_b1_9a_0
def t_law_holds_b1_9 : US := (uIf (uB (uBin bNe (uApp bRepr (uCons (uCall 3 sp_law_called [] (uCons (uVar 6) (uCons (uVar 3) (uCons (uVar 7) uNil)))) uNil)) (uVar 8))) r_law_holds_b1_9a_0 uNext)
def r_law_holds_b1_9 : US := t_law_holds_b1_9
def t_law_holds_b1_8 : US := (uIf (uOr (uB (uBin bNe (uCall 4 sp_law_refused [] (uCons (uBin bEq (uCall 2 sp_law_pick [] (uCons (uVar 0) (uCons (uVal (.int 2)) uNil))) (uVal (.int 0))) (uCons (uVar 6) (uCons (uVar 1) (uCons (uVar 9) uNil))))) (uVar 11))) (uB (uBin bNe (uApp bRepr (uCons (uApp bLst (uCons (uVar 1) (uCons (uVar 9) uNil))) uNil)) (uVar 10)))) r_law_holds_b1_8a_0 uNext)
def r_law_holds_b1_8 : US := uSeq t_law_holds_b1_8 r_law_holds_b1_9
def t_law_holds_b1_7 : US := (uIf (uB (uVar 4)) r_law_holds_b1_7a_0 uNext)
def r_law_holds_b1_7 : US := uSeq t_law_holds_b1_7 r_law_holds_b1_8
def t_law_holds_b1_6 : US := (uIf (uOr (uB (uApp bIsi (uCons (uVar 9) (uCons (uVal (.ty "bool")) uNil)))) (uOr (uNot (uB (uApp bIsi (uCons (uVar 9) (uCons (uVal (.ty "int")) uNil))))) (uB (uBin (bIn true) (uVar 9) (uBin bIx (uVar 2) (uVar 6)))))) r_law_holds_b1_6a_0 uNext)
def r_law_holds_b1_6 : US := uSeq t_law_holds_b1_6 r_law_holds_b1_7
def t_law_holds_b1_5 : US := (uSet 11 (uApp bLst uNil))
def r_law_holds_b1_5 : US := uSeq t_law_holds_b1_5 r_law_holds_b1_6
def t_law_holds_b1_4 : US := (uSet 10 (uApp bRepr (uCons (uApp bLst (uCons (uVar 1) (uCons (uVar 9) uNil))) uNil)))
def r_law_holds_b1_4 : US := uSeq t_law_holds_b1_4 r_law_holds_b1_5
def t_law_holds_b1_3 : US := (uSet 9 (uCall 2 sp_law_second [] (uCons (uVar 0) (uCons (uBin bIx (uVar 2) (uVar 6)) uNil))))
def r_law_holds_b1_3 : US := uSeq t_law_holds_b1_3 r_law_holds_b1_4
def t_law_holds_b1_2 : US := (uSet 8 (uApp bRepr (uCons (uCall 3 sp_law_called [] (uCons (uVar 6) (uCons (uVar 3) (uCons (uVar 7) uNil)))) uNil)))
def r_law_holds_b1_2 : US := uSeq t_law_holds_b1_2 r_law_holds_b1_3
def t_law_holds_b1_1 : US := (uSet 7 (uCall 2 sp_law_among [] (uCons (uVar 0) (uCons (uBin bIx (uVar 2) (uVar 6)) uNil))))
def r_law_holds_b1_1 : US := uSeq t_law_holds_b1_1 r_law_holds_b1_2
def t_law_holds_b1_0 : US := (uSet 6 (uMt 5 fPop (uCons (uCall 2 sp_law_pick [] (uCons (uVar 0) (uCons (uLenO 5) uNil))) uNil)))
def r_law_holds_b1_0 : US := uSeq t_law_holds_b1_0 r_law_holds_b1_1
theorem cut_law_holds_b1 : b1_law_holds = r_law_holds_b1_0 := rfl
def t_law_holds_6 : US := (uRet (uBin bEq (uCall 4 sp_law_refused [] (uCons (uBin bEq (uCall 2 sp_law_pick [] (uCons (uVar 0) (uCons (uVal (.int 2)) uNil))) (uVal (.int 0))) (uCons (uVal (.int 4)) (uCons (uVar 1) (uCons (uVal .non) uNil))))) (uBin bIx (uApp bLst (uCons (uApp bLst (uCons (uVal (.str "bad ring")) uNil)) (uCons (uApp bLst uNil) uNil))) (uApp bInt (uCons (uV (uNot (uB (uVar 4)))) uNil)))))
def r_law_holds_6 : US := t_law_holds_6
def t_law_holds_5 : US := (uWhile (uB (uEqO 5 true (uApp bLst uNil))) b1_law_holds)
def r_law_holds_5 : US := uSeq t_law_holds_5 r_law_holds_6
def t_law_holds_4 : US := (uSetO 5 (uApp bLst (uCons (uVal (.int 0)) (uCons (uVal (.int 1)) (uCons (uVal (.int 2)) (uCons (uVal (.int 3)) uNil))))))
def r_law_holds_4 : US := uSeq t_law_holds_4 r_law_holds_5
def t_law_holds_3 : US := (uIf (uB (uVar 4)) (uSet 1 (uCall 2 sp_law_bad_ring [] (uCons (uVar 0) (uCons (uVar 1) uNil)))) uNext)
def r_law_holds_3 : US := uSeq t_law_holds_3 r_law_holds_4
def t_law_holds_2 : US := (uSet 4 (uBin bEq (uCall 2 sp_law_pick [] (uCons (uVar 0) (uCons (uVal (.int 3)) uNil))) (uVal (.int 0))))
def r_law_holds_2 : US := uSeq t_law_holds_2 r_law_holds_3
def t_law_holds_1 : US := (uSet 3 (uVar 1))
def r_law_holds_1 : US := uSeq t_law_holds_1 r_law_holds_2
def t_law_holds_0 : US := (uSet 2 (uCall 2 sp_law_numbers [] (uCons (uVar 1) (uCons (uCall 1 sp_law_laid [] (uCons (uVar 1) uNil)) uNil))))
def r_law_holds_0 : US := uSeq t_law_holds_0 r_law_holds_1
theorem cut_law_holds : p_law_holds = r_law_holds_0 := rfl
theorem okd_mem {L S G O N : Int} (ok : OkR L S G O N) {d : Int} (d0 : 0 ≤ d) (d3 : d ≤ 3) (i : Int) : okD d L S G O N (.int i) = decide (i ∈ rgtF L S G O N d) := by
  have l1 := ok.l1
  have dc : d = 0 ∨ d = 1 ∨ d = 2 ∨ d = 3 := by omega
  have rw' : ∀ i, (decide (0 ≤ i) && hasR L S G O N i) = decide (i ∈ rowsL L S G O N) := fun i => by
    have := rows_mem (r := i) ok
    by_cases h : i ∈ rowsL L S G O N
    · obtain ⟨a, b⟩ := this.mp h
      rw [decide_eq_true h, decide_eq_true a, b]
      rfl
    · rw [decide_eq_false h]
      cases a : decide (0 ≤ i) with
      | false => rfl
      | true =>
        cases b : hasR L S G O N i with
        | false => rfl
        | true => exact absurd (this.mpr ⟨of_decide_eq_true a, b⟩) h
  rcases dc with rfl | rfl | rfl | rfl
  · show (decide (0 ≤ i) && decide (i < N)) = decide (i ∈ (List.range N.toNat).map fun (k : Nat) => (0 : Int) + k)
    have e : i ∈ ((List.range N.toNat).map fun (k : Nat) => (0 : Int) + k) ↔ 0 ≤ i ∧ i < N := by
      rw [rng_mem]
      have := ok.n1
      omega
    by_cases h : 0 ≤ i ∧ i < N
    · rw [decide_eq_true (e.mpr h), decide_eq_true h.1, decide_eq_true h.2]
      rfl
    · rw [decide_eq_false (fun z => h (e.mp z))]
      simp
      omega
  · show (decide (0 ≤ i) && hasR L S G O N (i / L)) = decide (i ∈ (rowsL L S G O N).flatMap fun r => (List.range L.toNat).map fun (k : Nat) => r * L + k)
    have e : i ∈ ((rowsL L S G O N).flatMap fun r => (List.range L.toNat).map fun (k : Nat) => r * L + k) ↔ 0 ≤ i ∧ hasR L S G O N (i / L) = true := by
      rw [List.mem_flatMap]
      constructor
      · rintro ⟨r, hr, hi⟩
        obtain ⟨a, b⟩ := rng_mem.mp hi
        obtain ⟨r0, hh⟩ := (rows_mem ok).mp hr
        have m0 : 0 ≤ r * L := Int.mul_nonneg r0 (by omega)
        have : i / L = r := by
          have h1 : r ≤ i / L := (le_div (by omega)).mpr a
          have h2 : i / L ≤ r := (div_le (by omega)).mpr (by rw [Int.add_mul, Int.one_mul]; omega)
          omega
        rw [this]
        exact ⟨by omega, hh⟩
      · rintro ⟨i0, hh⟩
        refine ⟨i / L, (rows_mem ok).mpr ⟨Int.ediv_nonneg i0 (by omega), hh⟩, rng_mem.mpr ?_⟩
        have h1 := Int.mul_ediv_add_emod i L
        have h2 := Int.emod_nonneg i (show L ≠ 0 by omega)
        have h3 := Int.emod_lt_of_pos i (show 0 < L by omega)
        rw [Int.mul_comm] at h1
        omega
    by_cases h : 0 ≤ i ∧ hasR L S G O N (i / L) = true
    · rw [decide_eq_true (e.mpr h), decide_eq_true h.1, h.2]
      rfl
    · rw [decide_eq_false (fun z => h (e.mp z))]
      cases a : decide (0 ≤ i) with
      | false => rfl
      | true =>
        cases b : hasR L S G O N (i / L) with
        | false => rfl
        | true => exact absurd ⟨of_decide_eq_true a, b⟩ h
  · exact rw' i
  · exact rw' i
theorem rows_ne6 {L S G O N : Int} (ok : OkR L S G O N) : rowsL L S G O N ≠ [] := fun z => by
  have ok2 := ok
  obtain ⟨l1, l8, s1, g0, t1, t20, o0, o1, n1, n12⟩ := ok
  have : dF L S G O 0 ∈ rowsL L S G O N := (rows_mem ok2).mpr ⟨Int.ediv_nonneg (by rw [Int.zero_mul]; omega) (by omega), (has_slot ok2).mpr ⟨0, by omega, by omega, Int.le_refl _, Int.ediv_le_ediv (by omega) (by omega)⟩⟩
  rw [z] at this
  cases this
theorem rgt_ok {L S G O N : Int} (ok : OkR L S G O N) {d : Int} (d0 : 0 ≤ d) (d3 : d ≤ 3) : rgtF L S G O N d ≠ [] ∧ (rgtF L S G O N d).length ≤ 3000 ∧ ∀ n ∈ rgtF L S G O N d, 0 ≤ n ∧ n ≤ 10000 := by
  have l1 := ok.l1
  have l8 := ok.l8
  have n1 := ok.n1
  have n12 := ok.n12
  have rl := rows_len ok
  have ne := rows_ne6 ok
  have lb := len_bound ok
  have dc : d = 0 ∨ d = 1 ∨ d = 2 ∨ d = 3 := by omega
  have rr : ∀ n ∈ rowsL L S G O N, 0 ≤ n ∧ n ≤ 10000 := fun n hn => by
    have := rows_bd7 ok hn
    omega
  rcases dc with rfl | rfl | rfl | rfl
  · refine ⟨fun z => ?_, by simp [rgtF]; omega, fun n hn => ?_⟩
    · have := congrArg List.length z
      simp [rgtF] at this
      omega
    · obtain ⟨a, b⟩ := rng_mem.mp hn
      omega
  · refine ⟨fun z => ?_, ?_, fun n hn => ?_⟩
    · obtain ⟨r, hr⟩ := List.exists_mem_of_ne_nil _ ne
      have : r * L ∈ rgtF L S G O N 1 := List.mem_flatMap.mpr ⟨r, hr, rng_mem.mpr (by omega)⟩
      rw [z] at this
      cases this
    · have := flat_len (R := rowsL L S G O N) (f := fun r => (List.range L.toNat).map fun (k : Nat) => r * L + k) (n := 8) (fun q _ => by simp; omega)
      exact Nat.le_trans this (by omega)
    · obtain ⟨r, hr, hi⟩ := List.mem_flatMap.mp hn
      obtain ⟨a, b⟩ := rng_mem.mp hi
      have := rows_bd7 ok hr
      have m0 : 0 ≤ r * L := Int.mul_nonneg this.1 (by omega)
      omega
  · exact ⟨ne, by show (rowsL L S G O N).length ≤ 3000; omega, rr⟩
  · exact ⟨ne, by show (rowsL L S G O N).length ≤ 3000; omega, rr⟩
theorem val_repr {L S G O N d n : Int} {u : Bool} (ok : OkR L S G O N) (d0 : 0 ≤ d) (d3 : d ≤ 3) (hn : n ∈ rgtF L S G O N d) : ∃ z, reprU (valD d L S G O N u (.int n)) = some z := by
  have hb := (rgt_ok ok d0 d3).2.2 n hn
  have dc : d = 0 ∨ d = 1 ∨ d = 2 ∨ d = 3 := by omega
  have ir : ∀ i : Int, -10000000 ≤ i → i ≤ 10000000 → ∃ z, reprU (.int i) = some z := fun i h0 h1 => (sh_int (k := 60) (by omega) (LB.log (by show Int.natAbs _ < 2 ^ 60; omega)) : ShB (.int i) 62 0).some (by rw [sizeLine_eq]; omega) (by decide)
  have so := fun (x : Str) (hx : (reprText x).length ≤ 20) => (sh_str (n := 20) hx).some (by rw [sizeLine_eq]; omega) (by decide)
  have ok2 := ok
  obtain ⟨l1, l8, s1, g0, t1, t20, o0, o1, n1, n12⟩ := ok
  rcases dc with rfl | rfl | rfl | rfl
  · have hn' := rng_mem.mp hn
    have hm := mulb (a := n) (b := S + G) (A := 12) (B := 20) (by omega) (by omega) (by omega) t20
    exact ir _ (by omega) (by omega)
  · show ∃ z, reprU (ownF S G u O N n) = some z
    have q1 : (n - O) / (S + G) ≤ n - O + 100 := Int.le_trans (Int.ediv_le_ediv (by omega) (by omega : n - O ≤ n - O + 100)) (Int.ediv_le_self _ (by omega))
    unfold ownF
    split
    · exact so _ (by decide +kernel)
    · split
      · exact ir _ (by omega) (by omega)
      · split
        · exact so _ (by decide +kernel)
        · exact so _ (by decide +kernel)
  · show ∃ z, reprU (.lst ((mineL L S G O N n).map U.int)) = some z
    have tm := two_max (r := n) ok2
    have ml := mine_len (L := L) (S := S) (G := G) (O := O) (N := N) (r := n)
    have sb : ShBs ((mineL L S G O N n).map U.int) 62 0 := shs_of fun w hw => by
      obtain ⟨k, hk, rfl⟩ := List.mem_map.mp hw
      have hk := mine_mem.mp hk
      have f0 := first_0 (L := L) (S := S) (G := G) (O := O) (r := n)
      have ln := last_n (L := L) (S := S) (G := G) (O := O) (N := N) (r := n)
      exact sh_int (k := 60) (by omega) (LB.log (by show Int.natAbs _ < 2 ^ 60; omega))
    exact sb.lst.some (by rw [sizeLine_eq, List.length_map]; omega) (by decide)
  · show ∃ z, reprU (patU (patF L S G O N u n)) = some z
    have h6 := pats_six g0 _ (pat_in (L := L) (S := S) (G := G) (O := O) (N := N) (r := n) (u := u))
    generalize patF L S G O N u n = p at *
    have pb : -10 ≤ p.1 ∧ p.1 ≤ 10 ∧ -10 ≤ p.2 ∧ p.2 ≤ 10 := by
      simp only [six, List.mem_cons, List.not_mem_nil, or_false] at h6
      rcases h6 with rfl | rfl | rfl | rfl | rfl | rfl <;> decide
    have sb : ShBs [.int p.1, .int p.2] 62 0 := shs_of fun w hw => by
      simp only [List.mem_cons, List.not_mem_nil, or_false] at hw
      rcases hw with rfl | rfl
      · exact sh_int (k := 60) (by omega) (LB.log (by show Int.natAbs _ < 2 ^ 60; omega))
      · exact sh_int (k := 60) (by omega) (LB.log (by show Int.natAbs _ < 2 ^ 60; omega))
    exact sb.tup.some (by rw [sizeLine_eq]; simp) (by decide)
def msgD (d : Int) : Str := if d = 0 then "bad slot" else if d = 1 then "bad spot" else "bad line"
/-- what is due: the list of the error's word -/
def dueF (wr okk : Bool) (d : Int) : List U := if wr = true then [.str "bad ring"] else if okk = true then [] else [.str (msgD d)]
abbrev ngtL (L S G O N : Int) : List U := [.lst ((rgtF L S G O N 0).map U.int), .lst ((rgtF L S G O N 1).map U.int), .lst ((rgtF L S G O N 2).map U.int), .lst ((rgtF L S G O N 3).map U.int)]
theorem ngt_at {L S G O N d : Int} (d0 : 0 ≤ d) (d3 : d ≤ 3) : L2.atI (ngtL L S G O N) d = some (.lst ((rgtF L S G O N d).map U.int)) := by
  have dc : d = 0 ∨ d = 1 ∨ d = 2 ∨ d = 3 := by omega
  rcases dc with rfl | rfl | rfl | rfl <;> simp [L2.atI, L2.ixN]
theorem msg_at {d : Int} (d0 : 0 ≤ d) (d3 : d ≤ 3) : L2.atI [U.str "bad slot", .str "bad spot", .str "bad line", .str "bad line"] d = some (.str (msgD d)) := by
  have dc : d = 0 ∨ d = 1 ∨ d = 2 ∨ d = 3 := by omega
  rcases dc with rfl | rfl | rfl | rfl <;> simp [L2.atI, L2.ixN, msgD]
theorem due_refl {wr okk : Bool} {d : Int} (d0 : 0 ≤ d) (d3 : d ≤ 3) : dueF wr okk d = refL (if wr = true then some "InvalidLayout" else if okk = true then none else some (errD d)) := by
  have dc : d = 0 ∨ d = 1 ∨ d = 2 ∨ d = 3 := by omega
  cases wr
  · cases okk
    · rcases dc with rfl | rfl | rfl | rfl <;> simp [dueF, refL, msgD, errD, (show ¬ (("InvalidSlot" : Str) = "InvalidLayout") by decide), (show ¬ (("InvalidSpot" : Str) = "InvalidLayout") by decide), (show ¬ (("InvalidSpot" : Str) = "InvalidSlot") by decide), (show ¬ (("InvalidLine" : Str) = "InvalidLayout") by decide), (show ¬ (("InvalidLine" : Str) = "InvalidSlot") by decide), (show ¬ (("InvalidLine" : Str) = "InvalidSpot") by decide)]
    · rfl
  · simp [dueF, refL]
theorem due_eq {wr okk : Bool} {d : Int} : eqU? (.lst (dueF wr okk d)) (.lst (dueF wr okk d)) = some true := by
  unfold dueF
  split
  · exact eq_str1 (by decide +kernel)
  · split
    · rfl
    · unfold msgD
      split
      · exact eq_str1 (by decide +kernel)
      · split
        · exact eq_str1 (by decide +kernel)
        · exact eq_str1 (by decide +kernel)
theorem lh_body {i m : Nat} {L S G O N : Int} {u wr : Bool} (ok : OkR L S G O N) {v : U} (vv : Vok v) (hv : if wr = true then BadL v else v = ringU L S G u O N) {D : List U} (hD : ∀ x ∈ D, ∃ d : Int, x = .int d ∧ 0 ≤ d ∧ d ≤ 3) (ne : D ≠ []) (l4 : D.length ≤ 4) {h : Hv} (p0 : PotAt h i m) (hm : m < 2 ^ 56) {P : UD} {e6 e7 e8 e9 e10 e11 : Option Sv}
    (last : ∀ (D' : List U) (h' : Hv) (e6 e7 e8 e9 e10 e11 : Option Sv), (∀ x ∈ D', ∃ d : Int, x = .int d ∧ 0 ≤ d ∧ d ≤ 3) → D'.length + 1 = D.length → PotAt h' i (m + 20) → Rest i h h' → P.nx [some (.val (.ref i)), some (.val v), some (.val (.lst (ngtL L S G O N))), some (.val (ringU L S G u O N)), some (.val (.bl wr)), some (.own D'), e6, e7, e8, e9, e10, e11] h') :
    b1_law_holds [some (.val (.ref i)), some (.val v), some (.val (.lst (ngtL L S G O N))), some (.val (ringU L S G u O N)), some (.val (.bl wr)), some (.own D), e6, e7, e8, e9, e10, e11] h P := by
  have lD : 0 < D.length := List.length_pos_iff.mpr ne
  have sz : sizeLine = 16777216 := sizeLine_eq
  have na := fun (d : Int) (d0 : 0 ≤ d) (d3 : d ≤ 3) => ngt_at (L := L) (S := S) (G := G) (O := O) (N := N) d0 d3
  rw [cut_law_holds_b1]
  simp only [r_law_holds_b1_0, t_law_holds_b1_0]
  simp [ownAt, sp_law_pick]
  refine ⟨m, p0, by omega, lD, slog (m := (D.length : Int)) (by omega) (by omega), fun h1 d p1 r1 d0 d1 => ?_⟩
  obtain ⟨j, rfl⟩ : ∃ j : Nat, d = (j : Int) := ⟨d.toNat, by omega⟩
  have hj : j < D.length := by omega
  have ix : L2.ixN D.length (j : Int) = some j := by simp [L2.ixN, hj]
  obtain ⟨d, ed, d0', d3⟩ := hD D[j] (List.getElem_mem hj)
  have gj : D[j]? = some (.int d) := by rw [List.getElem?_eq_getElem hj, ed]
  simp [ix, gj, sz]
  refine ⟨by omega, ?_⟩
  have hD' : ∀ x ∈ D.eraseIdx j, ∃ d : Int, x = .int d ∧ 0 ≤ d ∧ d ≤ 3 := fun x hx => hD x (List.mem_of_mem_eraseIdx hx)
  have lD' : (D.eraseIdx j).length + 1 = D.length := by rw [List.length_eraseIdx_of_lt hj]; omega
  generalize D.eraseIdx j = D' at *
  obtain ⟨rne, rle, rb⟩ := rgt_ok ok d0' d3
  have rpos : 0 < (rgtF L S G O N d).length := List.length_pos_iff.mpr rne
  have nad := na d d0' d3
  have okm := fun n => okd_mem ok d0' d3 n
  have vr := fun n hn => val_repr (u := u) (d := d) (n := n) ok d0' d3 hn
  have inu : ∀ n : Int, inU? (.int n) (.lst ((rgtF L S G O N d).map U.int)) = some (decide (n ∈ rgtF L S G O N d)) := fun n => inU_ints6 n _
  generalize hRR : ngtL L S G O N = RR at *
  generalize rgtF L S G O N d = RD at *
  simp only [r_law_holds_b1_1, t_law_holds_b1_1]
  simp [nad, sp_law_among]
  refine ⟨_, p1, by omega, rpos, by omega, fun h2 j2 x p2 r2 n hn ex => ?_⟩
  subst ex
  have hn := List.mem_of_getElem? hn
  have hnb := rb n hn
  have tn : Tok (.int n) := tok_int (by show Int.natAbs _ < 2 ^ 110; omega)
  obtain ⟨z, ez⟩ := vr n hn
  have okn : okD d L S G O N (.int n) = true := by rw [okm]; exact decide_eq_true hn
  generalize hW : valD d L S G O N u (.int n) = W at *
  have called : ∀ (h : Hv) (Po : Sv → Hv → Prop) (Pe : Ex → Hv → Prop), (∀ sv : Sv, sv.u = W → Po sv h) → sp_law_called [.int d, ringU L S G u O N, .int n] h Po Pe := fun h Po Pe q =>
    ⟨d, ringU L S G u O N, .int n, none, fun w => w = W, rfl, d0', by omega, tn, .inr (.inr (.inl ⟨L, S, G, O, N, u, rfl, ok, .inl ⟨d3, okn, rfl, hW⟩⟩)), q⟩
  simp only [r_law_holds_b1_2, t_law_holds_b1_2]
  simp
  have after : ∀ (h2 : Hv), PotAt h2 i (m + 2) → Rest i h h2 → r_law_holds_b1_3 [some (.val (.ref i)), some (.val v), some (.val (.lst RR)), some (.val (ringU L S G u O N)), some (.val (.bl wr)), some (.own D'), some (.val (.int d)), some (.val (.int n)), some (.val (.str z)), e9, e10, e11] h2 P := by
    intro h2 p2 r2
    simp only [r_law_holds_b1_3, t_law_holds_b1_3]
    simp [nad]
    refine (show sp_law_second _ _ _ _ from ⟨i, m + 2, RD, rfl, rne, rle, rb, p2, by omega, fun h3 th p3 r3 tt st => ?_⟩)
    have sth : ∃ zz, reprU (.lst [v, th]) = some zz := (shs_of (n := 9000) (k := 4) (fun w hw => by
      simp at hw
      rcases hw with rfl | rfl
      · exact vv.2
      · exact st.mono (by omega) (by omega)) : ShBs [v, th] 9000 4).lst.some (by rw [sz]; simp) (by decide)
    obtain ⟨zz, ezz⟩ := sth
    simp only [r_law_holds_b1_4, t_law_holds_b1_4]
    simp [ezz, sz]
    simp only [r_law_holds_b1_5, t_law_holds_b1_5]
    simp [sz]
    have fin : ∀ (h3 : Hv), PotAt h3 i (m + 12) → Rest i h h3 → r_law_holds_b1_8 [some (.val (.ref i)), some (.val v), some (.val (.lst RR)), some (.val (ringU L S G u O N)), some (.val (.bl wr)), some (.own D'), some (.val (.int d)), some (.val (.int n)), some (.val (.str z)), some (.val th), some (.val (.str zz)), some (.val (.lst (dueF wr (okD d L S G O N th) d)))] h3 P := by
      intro h3 p3 r3
      simp only [r_law_holds_b1_8, t_law_holds_b1_8]
      simp [sp_law_pick]
      refine ⟨_, p3, by omega, by decide, fun h4 b p4 r4 b0 b1 => ?_⟩
      have out : OutC d v th (if wr = true then some "InvalidLayout" else if okD d L S G O N th = true then none else some (errD d)) (fun _ => True) := by
        cases wr
        · rw [if_neg Bool.false_ne_true] at hv
          rw [if_neg Bool.false_ne_true, hv]
          cases ko : okD d L S G O N th with
          | true => exact .inr (.inr (.inl ⟨L, S, G, O, N, u, rfl, ok, .inl ⟨d3, ko, rfl, True.intro⟩⟩))
          | false => exact .inr (.inr (.inl ⟨L, S, G, O, N, u, rfl, ok, .inr (.inl ⟨d3, ko, rfl⟩)⟩))
        · rw [if_pos rfl] at hv
          exact .inl ⟨by omega, hv, rfl⟩
      have dr := due_refl (wr := wr) (okk := okD d L S G O N th) d0' d3
      have de := due_eq (wr := wr) (okk := okD d L S G O N th) (d := d)
      refine (show sp_law_refused _ _ _ _ from ⟨_, d, v, th, _, rfl, d0', by omega, tt, out, fun sv esv => ?_⟩)
      rw [← dr] at esv
      generalize dueF wr (okD d L S G O N th) d = du at *
      have go : r_law_holds_b1_9 [some (.val (.ref i)), some (.val v), some (.val (.lst RR)), some (.val (ringU L S G u O N)), some (.val (.bl wr)), some (.own D'), some (.val (.int d)), some (.val (.int n)), some (.val (.str z)), some (.val th), some (.val (.str zz)), some (.val (.lst du))] h4 P := by
        simp only [r_law_holds_b1_9, t_law_holds_b1_9]
        simp
        refine called _ _ _ fun sv esv => ?_
        have nx := last D' h4 (some (.val (.int d))) (some (.val (.int n))) (some (.val (.str z))) (some (.val th)) (some (.val (.str zz))) (some (.val (.lst du))) hD' lD' (p4.mono (by omega)) (r3.trans r4)
        cases sv with
        | val w => obtain rfl : w = W := esv; simp [ez]; exact nx
        | own us => obtain rfl : U.lst us = W := esv; simp [ez]; exact nx
        | dic ks us => obtain rfl : U.dic ks us = W := esv; simp [ez]; exact nx
      rcases sv_lst esv with rfl | rfl
      · simp [de, ezz, sz]
        exact go
      · simp [de, ezz, sz]
        exact go
    have p3' : PotAt h3 i (m + 12) := p3
    have r3' := r2.trans r3
    have seven : ∀ du : List U, du = (if okD d L S G O N th = true then [] else [.str (msgD d)]) → r_law_holds_b1_7 [some (.val (.ref i)), some (.val v), some (.val (.lst RR)), some (.val (ringU L S G u O N)), some (.val (.bl wr)), some (.own D'), some (.val (.int d)), some (.val (.int n)), some (.val (.str z)), some (.val th), some (.val (.str zz)), some (.val (.lst du))] h3 P := by
      intro du hdu
      have f := fin h3 p3' r3'
      simp only [r_law_holds_b1_7, t_law_holds_b1_7]
      cases wr with
      | true =>
        simp [r_law_holds_b1_7a_0, t_law_holds_b1_7a_0, sz]
        exact f
      | false =>
        simp
        unfold dueF at f
        rw [if_neg Bool.false_ne_true, ← hdu] at f
        exact f
    have mat := msg_at d0' d3
    have bad : okD d L S G O N th = false → r_law_holds_b1_6a_0 [some (.val (.ref i)), some (.val v), some (.val (.lst RR)), some (.val (ringU L S G u O N)), some (.val (.bl wr)), some (.own D'), some (.val (.int d)), some (.val (.int n)), some (.val (.str z)), some (.val th), some (.val (.str zz)), some (.val (.lst []))] h3 { nx := fun e h => r_law_holds_b1_7 e h P, rt := P.rt, er := P.er, bk := P.bk, ct := P.ct } := by
      intro ko
      simp only [r_law_holds_b1_6a_0, t_law_holds_b1_6a_0]
      simp [mat, sz]
      exact seven _ (by rw [ko]; rfl)
    have nob : okD d L S G O N th = true → r_law_holds_b1_7 [some (.val (.ref i)), some (.val v), some (.val (.lst RR)), some (.val (ringU L S G u O N)), some (.val (.bl wr)), some (.own D'), some (.val (.int d)), some (.val (.int n)), some (.val (.str z)), some (.val th), some (.val (.str zz)), some (.val (.lst []))] h3 P := fun ko => seven _ (by rw [ko]; rfl)
    have nok : (∀ i, th ≠ .int i) → okD d L S G O N th = false := fun hi => by
      cases th with
      | int i => exact absurd rfl (hi i)
      | _ => unfold okD; by_cases e0 : d = 0 <;> by_cases e1 : d = 1 <;> simp [e0, e1, okS, okP, okN]
    have t1 := tt.1
    simp only [r_law_holds_b1_6, t_law_holds_b1_6]
    cases th with
    | int i =>
      simp [isT, nad, inu]
      have oi := okm i
      by_cases c : i ∈ RD
      · simp [c]
        exact nob (by rw [oi]; exact decide_eq_true c)
      · simp [c]
        exact bad (by rw [oi]; exact decide_eq_false c)
    | _ =>
      first
      | (simp [typed] at t1; done)
      | (simp [isT]; exact bad (nok (fun i e => by cases e)))
  refine called _ _ _ fun sv esv => ?_
  have af := after h2 p2 (r1.trans r2)
  cases sv with
  | val w => obtain rfl : w = W := esv; simp [ez]; exact af
  | own us => obtain rfl : U.lst us = W := esv; simp [ez]; exact af
  | dic ks us => obtain rfl : U.dic ks us = W := esv; simp [ez]; exact af
theorem ints_of : ∀ {D : List U}, (∀ x ∈ D, ∃ d : Int, x = .int d ∧ 0 ≤ d ∧ d ≤ 3) → ∃ l : List Int, D = l.map U.int
  | [], _ => ⟨[], rfl⟩
  | x :: D, h => by
    obtain ⟨d, rfl, _⟩ := h x List.mem_cons_self
    obtain ⟨l, rfl⟩ := ints_of fun y hy => h y (List.mem_cons_of_mem _ hy)
    exact ⟨d :: l, rfl⟩
theorem lh_while {i : Nat} {L S G O N : Int} {u wr : Bool} (ok : OkR L S G O N) {v : U} (vv : Vok v) (hv : if wr = true then BadL v else v = ringU L S G u O N) {P : UD} {h0 : Hv} {m0 : Nat} (hm : m0 < 2 ^ 55 + 1000)
    (last : ∀ (h' : Hv) (e6 e7 e8 e9 e10 e11 : Option Sv), PotAt h' i (m0 + 80) → Rest i h0 h' → P.nx [some (.val (.ref i)), some (.val v), some (.val (.lst (ngtL L S G O N))), some (.val (ringU L S G u O N)), some (.val (.bl wr)), some (.own []), e6, e7, e8, e9, e10, e11] h') :
    ∀ (n : Nat) (D : List U) (h : Hv) (e6 e7 e8 e9 e10 e11 : Option Sv), D.length = n → n ≤ 4 → (∀ x ∈ D, ∃ d : Int, x = .int d ∧ 0 ≤ d ∧ d ≤ 3) → PotAt h i (m0 + 20 * (4 - n)) → Rest i h0 h →
    whileU (uB (uEqO 5 true (uApp bLst uNil))) b1_law_holds P (n + 1) [some (.val (.ref i)), some (.val v), some (.val (.lst (ngtL L S G O N))), some (.val (ringU L S G u O N)), some (.val (.bl wr)), some (.own D), e6, e7, e8, e9, e10, e11] h
  | 0, D, h, e6, e7, e8, e9, e10, e11, hl, _, _, p, r => by
    obtain rfl := List.eq_nil_of_length_eq_zero hl
    have la := last h e6 e7 e8 e9 e10 e11 p r
    generalize ngtL L S G O N = RR at *
    have en : eqD? (.lst []) (.lst []) = some true := rfl
    unfold whileU
    simp [ownAt, en]
    exact la
  | n + 1, D, h, e6, e7, e8, e9, e10, e11, hl, h4, hD, p, r => by
    have ih := fun D' h' e6 e7 e8 e9 e10 e11 => lh_while (u := u) ok vv hv (P := P) hm last n D' h' e6 e7 e8 e9 e10 e11
    have ne : D ≠ [] := fun z => by rw [z] at hl; simp at hl
    have en : eqD? (.lst D) (.lst []) = some false := by
      obtain ⟨l, rfl⟩ := ints_of hD
      have e2 : eqD? (.lst (l.map U.int)) (.lst []) = some l.isEmpty := eqU_ints_nil l
      rw [e2]
      cases l with
      | nil => exact absurd rfl ne
      | cons a b => rfl
    have bd := fun P => lh_body (u := u) (P := P) (e6 := e6) (e7 := e7) (e8 := e8) (e9 := e9) (e10 := e10) (e11 := e11) ok vv hv hD ne (by omega) p (by omega)
    unfold whileU
    generalize ngtL L S G O N = RR at *
    simp [ownAt, en]
    refine bd _ fun D' h' e6 e7 e8 e9 e10 e11 hD' l' p' r' => ?_
    exact ih D' h' e6 e7 e8 e9 e10 e11 (by omega) (by omega) hD' (p'.mono (by omega)) (r.trans r')
theorem conf_law_holds : ∀ us h Po Pe, us.length = 2 → sp_law_holds us h Po Pe → p_law_holds (startE N_law_holds us) h (bodyD Po Pe) := by
  intro us h Po Pe hl hs
  obtain ⟨i, k, L, S, G, O, N, u, rfl, ok, p0, hk, q⟩ := hs
  have sz : sizeLine = 16777216 := sizeLine_eq
  have la : ∀ (Po : Sv → Hv → Prop) (Pe : Ex → Hv → Prop) (h : Hv), Po (.val (.lst ((laidL L S G O N N 0).map U.int))) h → sp_law_laid [ringU L S G u O N] h Po Pe := fun _ _ _ q => ⟨ok, q⟩
  have nu : ∀ (Po : Sv → Hv → Prop) (Pe : Ex → Hv → Prop) (h : Hv), Po (.own (ngtL L S G O N)) h → sp_law_numbers [ringU L S G u O N, .lst ((laidL L S G O N N 0).map U.int)] h Po Pe := fun _ _ _ q => ⟨ok, rfl, q⟩
  have vr : Vok (ringU L S G u O N) := vok_tup (iok_ring ok) (by simp)
  have tok : Tok .non := tok_o rfl (fun i e => by cases e)
  have fin : ∀ (v : U) (wr : Bool) (h1 : Hv) (m : Nat), Vok v → (if wr = true then BadL v else v = ringU L S G u O N) → m ≤ k + 20 → PotAt h1 i m → Rest i h h1 → r_law_holds_4 [some (.val (.ref i)), some (.val v), some (.val (.lst (ngtL L S G O N))), some (.val (ringU L S G u O N)), some (.val (.bl wr)), none, none, none, none, none, none, none] h1 (bodyD Po Pe) := by
    intro v wr h1 m vv hv hm p1 r1
    have wl := fun (P : UD) q => lh_while (u := u) (P := P) (h0 := h1) (m0 := m) ok vv hv (by omega) q 4 [.int 0, .int 1, .int 2, .int 3] h1 none none none none none none rfl (by decide) (fun x hx => by
      simp only [List.mem_cons, List.not_mem_nil, or_false] at hx
      rcases hx with rfl | rfl | rfl | rfl <;> exact ⟨_, rfl, by decide, by decide⟩) p1 .refl
    generalize ngtL L S G O N = RR at *
    simp only [r_law_holds_4, t_law_holds_4]
    simp [sz]
    simp only [r_law_holds_5, t_law_holds_5]
    refine ⟨5, ?_⟩
    refine wl _ fun h2 e6 e7 e8 e9 e10 e11 p2 r2 => ?_
    simp only [r_law_holds_6, t_law_holds_6]
    simp [sp_law_pick]
    refine ⟨_, p2, by omega, by decide, fun h3 d p3 r3 d0 d1 => ?_⟩
    have out : OutC 4 v .non (if wr = true then some "InvalidLayout" else none) (fun _ => True) := by
      cases wr
      · rw [if_neg Bool.false_ne_true] at hv
        rw [if_neg Bool.false_ne_true, hv]
        exact .inr (.inr (.inl ⟨L, S, G, O, N, u, rfl, ok, .inr (.inr ⟨rfl, rfl, True.intro⟩)⟩))
      · rw [if_pos rfl] at hv
        exact .inl ⟨by decide, hv, rfl⟩
    refine (show sp_law_refused _ _ _ _ from ⟨_, 4, v, .non, _, rfl, by decide, by decide, tok, out, fun sv esv => ?_⟩)
    have qf := q h3 (p3.mono (by omega)) ((r1.trans r2).trans r3)
    have e1 : eqU? (.lst [.str "bad ring"]) (.lst [.str "bad ring"]) = some true := eq_str1 (by decide +kernel)
    cases wr
    · rw [if_neg Bool.false_ne_true] at esv
      rcases sv_lst (l := []) esv with rfl | rfl <;> (simp [L2.atI, L2.ixN, eq_nil6, sz]; exact qf)
    · rw [if_pos rfl] at esv
      have esv : sv.u = .lst [.str "bad ring"] := by
        rw [esv]
        simp [refL]
      rcases sv_lst esv with rfl | rfl <;> (simp [L2.atI, L2.ixN, e1, sz]; exact qf)
  rw [cut_law_holds]
  simp [r_law_holds_0, t_law_holds_0, startE, N_law_holds]
  refine la _ _ _ ?_
  simp
  refine nu _ _ _ ?_
  simp [r_law_holds_1, t_law_holds_1]
  simp [r_law_holds_2, t_law_holds_2, sp_law_pick]
  refine ⟨k, p0, by omega, by decide, fun h1 d p1 r1 d0 d1 => ?_⟩
  by_cases hd : d = 0
  · simp [r_law_holds_3, t_law_holds_3, hd]
    refine (show sp_law_bad_ring _ _ _ _ from ⟨i, k + 1, L, S, G, O, N, u, rfl, ok, p1, by omega, fun h2 sv p2 r2 vv vb => ?_⟩)
    exact fin sv.u true h2 _ vv (by rw [if_pos rfl]; exact ⟨vv.1, vb⟩) (by omega) p2 (r1.trans r2)
  · simp [r_law_holds_3, t_law_holds_3, hd]
    exact fin _ false h1 _ vr (by rw [if_neg Bool.false_ne_true]) (by omega) p1 r1

theorem conf_law : ∀ us h Po Pe, us.length = 1 → sp_law us h Po Pe → p_law (startE N_law us) h (bodyD Po Pe) := by
  intro us h Po Pe hl hs
  unfold sp_law at hs
  split at hs
  · rename_i ns
    have hc : (cutU (ns.map U.int) none (some 8)).length ≤ 8 := by simp [cutU]; simp [HT.sIx]; omega
    simp [p_law, startE, N_law, sizeLine_eq]
    refine ⟨by omega, forU_inv (fun e _ => ∃ e1 e2 e3, e = [some (.val (.scr ns)), e1, e2, e3]) (fun e h I => ?_) _ (fun v hv e h F I hF => ?_) _ _ ⟨_, _, _, rfl⟩⟩
    · obtain ⟨e1, e2, e3, rfl⟩ := I
      simp
      exact hs _
    · obtain ⟨e1, e2, e3, rfl⟩ := I
      obtain ⟨c, rfl⟩ : ∃ c, v = .int c := by
        rcases List.mem_cons.mp hv with rfl | hv
        · exact ⟨_, rfl⟩
        · have := List.mem_of_mem_drop (List.mem_of_mem_take hv)
          obtain ⟨c, _, rfl⟩ := List.mem_map.mp this
          exact ⟨c, rfl⟩
      have hF2 : ∀ e1 e2 e3 h, F [some (.val (.scr ns)), e1, e2, e3] h := fun _ _ _ h => hF _ h ⟨_, _, _, rfl⟩
      simp [b1_law, sp_law_pot, sp_law_ring]
      intro a b hb0 hb1
      have p0 : PotAt (h ++ [Ob.lst [.int a, .int b, .int 0]]) h.length 0 := ⟨a, b, 0, by simp, hb0, by omega, by omega, by omega⟩
      refine ⟨_, p0, by omega, fun h1 w1 p1 r1 ok1 => ?_⟩
      obtain ⟨L, S, G, O, N, u, ok, rfl⟩ := ok1
      have oks : OkS L S G L := by
        obtain ⟨l1, l8, s1, g0, t1, t20, o0, o1, n1, n12⟩ := ok
        exact ⟨l1, l8, s1, g0, t1, t20, l1, Int.emod_self⟩
      have a0 : L2.atI [U.int L, .int S, .int G, .bl u, .int O, .int N] 0 = some (.int L) := by simp [L2.atI, L2.ixN]
      have cu : cutU [U.int L, .int S, .int G, .bl u, .int O, .int N] none (some 4) = [.int L, .int S, .int G, .bl u] := by simp [cutU, HT.sIx]
      refine (show sp_law_holds _ _ _ _ from ⟨_, _, L, S, G, O, N, u, rfl, ok, p1, by omega, fun h2 p2 r2 => ?_⟩)
      simp [a0, cu, sizeLine_eq]
      refine (show sp_law_room_holds _ _ _ _ from ⟨_, _, L, S, G, L, u, rfl, oks, p2, by omega, fun h3 p3 r3 => ?_⟩)
      simp
      exact hF2 _ _ _ _
  · exact hs.elim


end Vi.Law

namespace Vi.Law
open PySem PySem.Spec PyProof.Rows L2 Vi

theorem ok_law_pot [WW] {P : Program} {K : PySem.W.Frag} {mg : Str → Option Value} {base : Heap} (T : Tx fas css fns K mg) : ∃ fd, FunD K "_law_pot" "_law_pot" (defArgs s_law_pot) (defBody s_law_pot) (defScope s_law_pot) [] [] (He.ga K "_law_pot") fd ∧ FnG P WW.w K mg base 1 (He.ga K "_law_pot") fd ["cell"] (spF K (He.ga K) 1 sp_law_pot) := by
  obtain ⟨fd, FD⟩ := T.def_ 0 (d := d_law_pot) rfl
  have FD : FunD K "_law_pot" "_law_pot" (defArgs s_law_pot) (defBody s_law_pot) (defScope s_law_pot) [] [] (He.ga K "_law_pot") fd := FD
  refine ⟨fd, FD, fn_ok (ga := He.ga K) (t := p_law_pot) FD sc_law_pot (fun cdv A outer s H E hr hgd => ?_) conf_law_pot⟩
  have hu := hr.units
  exact (wss_cons (ws_set (ps_set (i := 1) sc_law_pot.nd rfl (by first | exact Or.inl rfl | exact Or.inr rfl) we_int))
    (wss_cons (ws_if (wt_cmp op_geU (we_var (pv 0)) (we_bin op_powU we_int we_int) (nomark _)) (wss_one (ws_set (ps_set (i := 1) sc_law_pot.nd rfl (by first | exact Or.inl rfl | exact Or.inr rfl) (we_bin op_subU (we_var (pv 0)) (we_bin op_powU we_int we_int))))) wss_nil)
    (wss_one (ws_ret (we_lst (wa_cons (we_var (pv 1)) (wa_cons (we_bin op_modU (we_callTy call_intU rfl (T.free 35) (by decide +kernel) (wa_cons (we_var (pv 0)) wa_nil)) we_int) (wa_cons we_int wa_nil))))))))


theorem ok_law_pick [WW] {P : Program} {K : PySem.W.Frag} {mg : Str → Option Value} {base : Heap} (T : Tx fas css fns K mg) : ∃ fd, FunD K "_law_pick" "_law_pick" (defArgs s_law_pick) (defBody s_law_pick) (defScope s_law_pick) [] [] (He.ga K "_law_pick") fd ∧ FnG P WW.w K mg base 1 (He.ga K "_law_pick") fd ["pot", "many"] (spF K (He.ga K) 2 sp_law_pick) := by
  obtain ⟨fd, FD⟩ := T.def_ 1 (d := d_law_pick) rfl
  have FD : FunD K "_law_pick" "_law_pick" (defArgs s_law_pick) (defBody s_law_pick) (defScope s_law_pick) [] [] (He.ga K "_law_pick") fd := FD
  refine ⟨fd, FD, fn_ok (ga := He.ga K) (t := p_law_pick) FD sc_law_pick (fun cdv A outer s H E hr hgd => ?_) conf_law_pick⟩
  have hu := hr.units
  exact (wss_cons (ws_if (wt_cmp op_gtU (we_ix ix_U (we_var (pv 0)) we_int (fun _ _ => rfl)) we_int (nomark _)) (wss_cons (ws_set (ps_set (i := 2) sc_law_pick.nd rfl (by first | exact Or.inl rfl | exact Or.inr rfl) (we_bin op_modU (we_callTy call_intU rfl (T.free 35) (by decide +kernel) (wa_cons (we_ix ix_U (we_var (pv 0)) we_int (fun _ _ => rfl)) wa_nil)) (we_var (pv 1)))))
    (wss_cons (ws_setIx (we_bin op_fdivU (we_ix ix_U (we_var (pv 0)) we_int (fun _ _ => rfl)) (we_var (pv 1))) (pv 0) we_int)
    (wss_one (ws_ret (we_var (pv 2)))))) wss_nil)
    (wss_cons (ws_augIx rfl (pv 0) we_int we_int ip_addU)
    (wss_cons (ws_set (ps_set (i := 3) sc_law_pick.nd rfl (by first | exact Or.inl rfl | exact Or.inr rfl) (we_bin op_addU (we_bin op_mulU (we_bin op_addU (we_ix ix_U (we_var (pv 0)) we_int (fun _ _ => rfl)) we_int) (we_bin op_addU (we_bin op_mulU (we_ix ix_U (we_var (pv 0)) we_int (fun _ _ => rfl)) (we_ix ix_U (we_var (pv 0)) we_int (fun _ _ => rfl))) we_int)) (we_bin op_mulU we_int (we_ix ix_U (we_var (pv 0)) we_int (fun _ _ => rfl))))))
    (wss_cons (ws_set (ps_set (i := 3) sc_law_pick.nd rfl (by first | exact Or.inl rfl | exact Or.inr rfl) (we_bin op_modU (we_callTy call_intU rfl (T.free 35) (by decide +kernel) (wa_cons (we_bin op_addU (we_bin op_mulU (we_var (pv 3)) (we_var (pv 3))) (we_bin op_mulU we_int (we_var (pv 3)))) wa_nil)) we_int)))
    (wss_cons (ws_set (ps_set (i := 3) sc_law_pick.nd rfl (by first | exact Or.inl rfl | exact Or.inr rfl) (we_bin op_mulU (we_bin op_addU (we_bin op_fdivU (we_var (pv 3)) we_int) we_int) (we_bin op_addU (we_bin op_addU (we_bin op_fdivU (we_var (pv 3)) we_int) (we_bin op_mulU we_int (we_ix ix_U (we_var (pv 0)) we_int (fun _ _ => rfl)))) we_int))))
    (wss_one (ws_ret (we_bin op_modU (we_bin op_fdivU (we_bin op_modU (we_callTy call_intU rfl (T.free 35) (by decide +kernel) (wa_cons (we_var (pv 3)) wa_nil)) we_int) we_int) (we_var (pv 1))))))))))


theorem ok_law_among [WW] {P : Program} {K : PySem.W.Frag} {mg : Str → Option Value} {base : Heap} (T : Tx fas css fns K mg) : ∃ fd, FunD K "_law_among" "_law_among" (defArgs s_law_among) (defBody s_law_among) (defScope s_law_among) [] [] (He.ga K "_law_among") fd ∧ FnG P WW.w K mg base 2 (He.ga K "_law_among") fd ["pot", "some"] (spF K (He.ga K) 2 sp_law_among) := by
  obtain ⟨fd, FD⟩ := T.def_ 2 (d := d_law_among) rfl
  have FD : FunD K "_law_among" "_law_among" (defArgs s_law_among) (defBody s_law_among) (defScope s_law_among) [] [] (He.ga K "_law_among") fd := FD
  obtain ⟨fd_law_pick, FD_law_pick, F_law_pick⟩ := ok_law_pick (P := P) (base := base) T
  have mg_law_pick := T.glo 1 (x := "_law_pick") rfl
  have b_law_pick_2 : L2.Binds K fd_law_pick ["pot", "many"] [] := FD_law_pick.bindsN fun _ _ _ _ _ _ us hl => match us, hl with | [_, _], _ => rfl
  have hd_b_law_pick_2 : Vals [] [] := .nil
  have hD_b_law_pick_2 : ∀ (W : Wd) (H : Hp), RVs K W H [] [] := fun _ _ => .nil
  refine ⟨fd, FD, fn_ok (ga := He.ga K) (t := p_law_among) FD sc_law_among (fun cdv A outer s H E hr hgd => ?_) conf_law_among⟩
  have hu := hr.units
  have hr_1 : Room 1 _ := hr.mono (by decide : 1 ≤ 1)
  exact (wss_one (ws_ret (we_ix ix_U (we_var (pv 1)) (we_call (n := 2) (D := []) (F_law_pick.mono (by decide)) hr_1 hgd rfl mg_law_pick FD_law_pick.kp b_law_pick_2 hd_b_law_pick_2 hD_b_law_pick_2 (takes_of rfl rfl rfl rfl) (wa_cons (we_var (pv 0)) (wa_cons (we_callB call_lenU rfl (T.free 36) (by decide +kernel) (wa_cons (we_var (pv 1)) wa_nil)) wa_nil))) (fun _ _ => rfl))))


theorem ok_law_ring [WW] {P : Program} {K : PySem.W.Frag} {mg : Str → Option Value} {base : Heap} (T : Tx fas css fns K mg) : ∃ fd, FunD K "_law_ring" "_law_ring" (defArgs s_law_ring) (defBody s_law_ring) (defScope s_law_ring) [] [] (He.ga K "_law_ring") fd ∧ FnG P WW.w K mg base 3 (He.ga K "_law_ring") fd ["pot"] (spF K (He.ga K) 1 sp_law_ring) := by
  obtain ⟨fd, FD⟩ := T.def_ 3 (d := d_law_ring) rfl
  have FD : FunD K "_law_ring" "_law_ring" (defArgs s_law_ring) (defBody s_law_ring) (defScope s_law_ring) [] [] (He.ga K "_law_ring") fd := FD
  obtain ⟨fd_law_among, FD_law_among, F_law_among⟩ := ok_law_among (P := P) (base := base) T
  have mg_law_among := T.glo 2 (x := "_law_among") rfl
  have b_law_among_2 : L2.Binds K fd_law_among ["pot", "some"] [] := FD_law_among.bindsN fun _ _ _ _ _ _ us hl => match us, hl with | [_, _], _ => rfl
  have hd_b_law_among_2 : Vals [] [] := .nil
  have hD_b_law_among_2 : ∀ (W : Wd) (H : Hp), RVs K W H [] [] := fun _ _ => .nil
  obtain ⟨fd_law_pick, FD_law_pick, F_law_pick⟩ := ok_law_pick (P := P) (base := base) T
  have mg_law_pick := T.glo 1 (x := "_law_pick") rfl
  have b_law_pick_2 : L2.Binds K fd_law_pick ["pot", "many"] [] := FD_law_pick.bindsN fun _ _ _ _ _ _ us hl => match us, hl with | [_, _], _ => rfl
  have hd_b_law_pick_2 : Vals [] [] := .nil
  have hD_b_law_pick_2 : ∀ (W : Wd) (H : Hp), RVs K W H [] [] := fun _ _ => .nil
  refine ⟨fd, FD, fn_ok (ga := He.ga K) (t := p_law_ring) FD sc_law_ring (fun cdv A outer s H E hr hgd => ?_) conf_law_ring⟩
  have hu := hr.units
  have hr_1 : Room 2 _ := hr.mono (by decide : 2 ≤ 2)
  have hr_2 : Room 2 _ := hr.mono (by decide : 2 ≤ 2)
  exact (wss_cons (ws_set (ps_set (i := 1) sc_law_ring.nd rfl (by first | exact Or.inl rfl | exact Or.inr rfl) (we_bin op_addU we_int (we_call (n := 2) (D := []) (F_law_pick.mono (by decide)) hr_1 hgd rfl mg_law_pick FD_law_pick.kp b_law_pick_2 hd_b_law_pick_2 hD_b_law_pick_2 (takes_of rfl rfl rfl rfl) (wa_cons (we_var (pv 0)) (wa_cons we_int wa_nil))))))
    (wss_cons (ws_set (ps_set (i := 2) sc_law_ring.nd rfl (by first | exact Or.inl rfl | exact Or.inr rfl) (we_bin op_addU we_int (we_call (n := 2) (D := []) (F_law_among.mono (by decide)) hr_2 hgd rfl mg_law_among FD_law_among.kp b_law_among_2 hd_b_law_among_2 hD_b_law_among_2 (takes_of rfl rfl rfl rfl) (wa_cons (we_var (pv 0)) (wa_cons (we_lst (wa_cons (we_call (n := 2) (D := []) (F_law_pick.mono (by decide)) hr_1 hgd rfl mg_law_pick FD_law_pick.kp b_law_pick_2 hd_b_law_pick_2 hD_b_law_pick_2 (takes_of rfl rfl rfl rfl) (wa_cons (we_var (pv 0)) (wa_cons we_int wa_nil))) (wa_cons (we_call (n := 2) (D := []) (F_law_pick.mono (by decide)) hr_1 hgd rfl mg_law_pick FD_law_pick.kp b_law_pick_2 hd_b_law_pick_2 hD_b_law_pick_2 (takes_of rfl rfl rfl rfl) (wa_cons (we_var (pv 0)) (wa_cons (we_var (pv 1)) wa_nil))) (wa_cons (we_call (n := 2) (D := []) (F_law_pick.mono (by decide)) hr_1 hgd rfl mg_law_pick FD_law_pick.kp b_law_pick_2 hd_b_law_pick_2 hD_b_law_pick_2 (takes_of rfl rfl rfl rfl) (wa_cons (we_var (pv 0)) (wa_cons we_int wa_nil))) wa_nil)))) wa_nil))))))
    (wss_cons (ws_set (ps_set (i := 3) sc_law_ring.nd rfl (by first | exact Or.inl rfl | exact Or.inr rfl) (we_bin op_subU (we_var (pv 1)) (we_var (pv 2)))))
    (wss_cons (ws_if (wt_cmp op_ltU (we_var (pv 3)) we_int (nomark _)) (wss_one (ws_set (ps_set (i := 3) sc_law_ring.nd rfl (by first | exact Or.inl rfl | exact Or.inr rfl) we_int))) wss_nil)
    (wss_cons (ws_set (ps_set (i := 4) sc_law_ring.nd rfl (by first | exact Or.inl rfl | exact Or.inr rfl) (we_bin op_addU (we_var (pv 3)) (we_bin op_modU (we_callTy call_intU rfl (T.free 35) (by decide +kernel) (wa_cons (we_call (n := 2) (D := []) (F_law_among.mono (by decide)) hr_2 hgd rfl mg_law_among FD_law_among.kp b_law_among_2 hd_b_law_among_2 hD_b_law_among_2 (takes_of rfl rfl rfl rfl) (wa_cons (we_var (pv 0)) (wa_cons (we_lst (wa_cons we_int (wa_cons we_int (wa_cons we_int (wa_cons we_int (wa_cons we_int wa_nil)))))) wa_nil))) wa_nil)) (we_bin op_subU (we_bin op_subU we_int (we_var (pv 2))) (we_var (pv 3)))))))
    (wss_cons (ws_if (wt_cmp (op_eqU hu) (we_call (n := 2) (D := []) (F_law_pick.mono (by decide)) hr_1 hgd rfl mg_law_pick FD_law_pick.kp b_law_pick_2 hd_b_law_pick_2 hD_b_law_pick_2 (takes_of rfl rfl rfl rfl) (wa_cons (we_var (pv 0)) (wa_cons we_int wa_nil))) we_int (nomark _)) (wss_one (ws_set (ps_set (i := 4) sc_law_ring.nd rfl (by first | exact Or.inl rfl | exact Or.inr rfl) (we_bin op_addU (we_var (pv 3)) (we_call (n := 2) (D := []) (F_law_pick.mono (by decide)) hr_1 hgd rfl mg_law_pick FD_law_pick.kp b_law_pick_2 hd_b_law_pick_2 hD_b_law_pick_2 (takes_of rfl rfl rfl rfl) (wa_cons (we_var (pv 0)) (wa_cons (we_bin op_subU (we_bin op_subU we_int (we_var (pv 2))) (we_var (pv 3))) wa_nil))))))) wss_nil)
    (wss_cons (ws_set (ps_set (i := 5) sc_law_ring.nd rfl (by first | exact Or.inl rfl | exact Or.inr rfl) (we_call (n := 2) (D := []) (F_law_among.mono (by decide)) hr_2 hgd rfl mg_law_among FD_law_among.kp b_law_among_2 hd_b_law_among_2 hD_b_law_among_2 (takes_of rfl rfl rfl rfl) (wa_cons (we_var (pv 0)) (wa_cons (we_lst (wa_cons we_int (wa_cons (we_bin op_subU (we_var (pv 1)) we_int) (wa_cons (we_call (n := 2) (D := []) (F_law_pick.mono (by decide)) hr_1 hgd rfl mg_law_pick FD_law_pick.kp b_law_pick_2 hd_b_law_pick_2 hD_b_law_pick_2 (takes_of rfl rfl rfl rfl) (wa_cons (we_var (pv 0)) (wa_cons (we_var (pv 1)) wa_nil))) (wa_cons (we_call (n := 2) (D := []) (F_law_pick.mono (by decide)) hr_1 hgd rfl mg_law_pick FD_law_pick.kp b_law_pick_2 hd_b_law_pick_2 hD_b_law_pick_2 (takes_of rfl rfl rfl rfl) (wa_cons (we_var (pv 0)) (wa_cons (we_var (pv 1)) wa_nil))) wa_nil))))) wa_nil)))))
    (wss_cons (ws_set (ps_set (i := 6) sc_law_ring.nd rfl (by first | exact Or.inl rfl | exact Or.inr rfl) (we_call (n := 2) (D := []) (F_law_among.mono (by decide)) hr_2 hgd rfl mg_law_among FD_law_among.kp b_law_among_2 hd_b_law_among_2 hD_b_law_among_2 (takes_of rfl rfl rfl rfl) (wa_cons (we_var (pv 0)) (wa_cons (we_lst (wa_cons we_int (wa_cons we_int (wa_cons we_int (wa_cons (we_bin op_addU we_int (we_call (n := 2) (D := []) (F_law_pick.mono (by decide)) hr_1 hgd rfl mg_law_pick FD_law_pick.kp b_law_pick_2 hd_b_law_pick_2 hD_b_law_pick_2 (takes_of rfl rfl rfl rfl) (wa_cons (we_var (pv 0)) (wa_cons we_int wa_nil)))) (wa_cons (we_bin op_subU we_int (we_call (n := 2) (D := []) (F_law_pick.mono (by decide)) hr_1 hgd rfl mg_law_pick FD_law_pick.kp b_law_pick_2 hd_b_law_pick_2 hD_b_law_pick_2 (takes_of rfl rfl rfl rfl) (wa_cons (we_var (pv 0)) (wa_cons we_int wa_nil)))) wa_nil)))))) wa_nil)))))
    (wss_one (ws_ret (we_tup (wa_cons (we_var (pv 1)) (wa_cons (we_var (pv 2)) (wa_cons (we_var (pv 4)) (wa_cons (we_cmp (op_eqU hu) (we_call (n := 2) (D := []) (F_law_pick.mono (by decide)) hr_1 hgd rfl mg_law_pick FD_law_pick.kp b_law_pick_2 hd_b_law_pick_2 hD_b_law_pick_2 (takes_of rfl rfl rfl rfl) (wa_cons (we_var (pv 0)) (wa_cons we_int wa_nil))) we_int (nomark _)) (wa_cons (we_var (pv 5)) (wa_cons (we_var (pv 6)) wa_nil)))))))))))))))))


theorem ok_is_whole [WW] {P : Program} {K : PySem.W.Frag} {mg : Str → Option Value} {base : Heap} (T : Tx fas css fns K mg) : ∃ fd, FunD K "is_whole" "is_whole" (defArgs s_is_whole) (defBody s_is_whole) (defScope s_is_whole) [.int 0] [] (He.ga K "is_whole") fd ∧ FnG P WW.w K mg base 1 (He.ga K "is_whole") fd ["value", "least"] (spF K (He.ga K) 2 sp_is_whole) := by
  obtain ⟨fd, FD⟩ := T.def_ 4 (d := d_is_whole) rfl
  have FD : FunD K "is_whole" "is_whole" (defArgs s_is_whole) (defBody s_is_whole) (defScope s_is_whole) [.int 0] [] (He.ga K "is_whole") fd := FD
  refine ⟨fd, FD, fn_ok (ga := He.ga K) (t := p_is_whole) FD sc_is_whole (fun cdv A outer s H E hr hgd => ?_) conf_is_whole⟩
  have hu := hr.units
  exact (wss_one (ws_ret (we_and (we_callB call_isiU rfl (T.free 37) (by decide +kernel) (wa_cons (we_var (pv 0)) (wa_cons (we_ty rfl (T.free 35) (by decide +kernel)) wa_nil))) (we_and (we_not (we_callB call_isiU rfl (T.free 37) (by decide +kernel) (wa_cons (we_var (pv 0)) (wa_cons (we_ty rfl (T.free 38) (by decide +kernel)) wa_nil)))) (we_one (we_cmp op_geU (we_var (pv 0)) (we_var (pv 1)) (nomark _)))))))


theorem ok_has_measures [WW] {P : Program} {K : PySem.W.Frag} {mg : Str → Option Value} {base : Heap} (T : Tx fas css fns K mg) : ∃ fd, FunD K "has_measures" "has_measures" (defArgs s_has_measures) (defBody s_has_measures) (defScope s_has_measures) [] [] (He.ga K "has_measures") fd ∧ FnG P WW.w K mg base 2 (He.ga K "has_measures") fd ["line", "size", "gap", "used"] (spF K (He.ga K) 4 sp_has_measures) := by
  obtain ⟨fd, FD⟩ := T.def_ 5 (d := d_has_measures) rfl
  have FD : FunD K "has_measures" "has_measures" (defArgs s_has_measures) (defBody s_has_measures) (defScope s_has_measures) [] [] (He.ga K "has_measures") fd := FD
  obtain ⟨fd_is_whole, FD_is_whole, F_is_whole⟩ := ok_is_whole (P := P) (base := base) T
  have mg_is_whole := T.glo 4 (x := "is_whole") rfl
  obtain ⟨ds_b_is_whole_1, hd_b_is_whole_1, b_is_whole_1⟩ := FD_is_whole.binds1 (ps := ["value", "least"]) 1 0 (by simp) rfl fun _ _ _ _ _ _ _ us its h1 h2 => match us, its, h1, h2 with | [_], [_], _, _ => ⟨_, rfl, rfl⟩
  have hD_b_is_whole_1 : ∀ (W : Wd) (H : Hp), RVs K W H [.int 0] _ := fun _ _ => .cons (.int _) (.nil)
  obtain ⟨ds_b_is_whole_2, hd_b_is_whole_2, b_is_whole_2⟩ := FD_is_whole.binds1 (ps := ["value", "least"]) 2 1 (by simp) rfl fun _ _ _ _ _ _ _ us its h1 h2 => match us, its, h1, h2 with | [_, _], [_], _, _ => ⟨_, rfl, rfl⟩
  have hD_b_is_whole_2 : ∀ (W : Wd) (H : Hp), RVs K W H [] _ := fun _ _ => .nil
  refine ⟨fd, FD, fn_ok (ga := He.ga K) (t := p_has_measures) FD sc_has_measures (fun cdv A outer s H E hr hgd => ?_) conf_has_measures⟩
  have hu := hr.units
  have hr_1 : Room 1 _ := hr.mono (by decide : 1 ≤ 1)
  exact (wss_cons (ws_if (wt_not (wt_bool (wt_and (wt_val (we_call (n := 2) (D := []) (F_is_whole.mono (by decide)) hr_1 hgd rfl mg_is_whole FD_is_whole.kp b_is_whole_2 hd_b_is_whole_2 hD_b_is_whole_2 (takes_of rfl rfl rfl rfl) (wa_cons (we_var (pv 0)) (wa_cons we_int wa_nil)))) (wt_and (wt_val (we_call (n := 2) (D := []) (F_is_whole.mono (by decide)) hr_1 hgd rfl mg_is_whole FD_is_whole.kp b_is_whole_2 hd_b_is_whole_2 hD_b_is_whole_2 (takes_of rfl rfl rfl rfl) (wa_cons (we_var (pv 1)) (wa_cons we_int wa_nil)))) (wt_and (wt_val (we_call (n := 2) (D := [.int 0]) (F_is_whole.mono (by decide)) hr_1 hgd rfl mg_is_whole FD_is_whole.kp b_is_whole_1 hd_b_is_whole_1 hD_b_is_whole_1 (takes_of rfl rfl rfl rfl) (wa_cons (we_var (pv 2)) wa_nil))) (wt_and1 (wt_val (we_callB call_isiU rfl (T.free 37) (by decide +kernel) (wa_cons (we_var (pv 3)) (wa_cons (we_ty rfl (T.free 38) (by decide +kernel)) wa_nil)))))))))) (wss_one (ws_ret we_bl)) wss_nil)
    (wss_one (ws_ret (we_cmp op_geU (we_bin op_addU (we_var (pv 1)) (we_var (pv 2))) (we_var (pv 0)) (nomark _)))))


theorem ok_is_room [WW] {P : Program} {K : PySem.W.Frag} {mg : Str → Option Value} {base : Heap} (T : Tx fas css fns K mg) : ∃ fd, FunD K "is_room" "is_room" (defArgs s_is_room) (defBody s_is_room) (defScope s_is_room) [] [] (He.ga K "is_room") fd ∧ FnG P WW.w K mg base 3 (He.ga K "is_room") fd ["value"] (spF K (He.ga K) 1 sp_is_room) := by
  obtain ⟨fd, FD⟩ := T.def_ 6 (d := d_is_room) rfl
  have FD : FunD K "is_room" "is_room" (defArgs s_is_room) (defBody s_is_room) (defScope s_is_room) [] [] (He.ga K "is_room") fd := FD
  obtain ⟨fd_has_measures, FD_has_measures, F_has_measures⟩ := ok_has_measures (P := P) (base := base) T
  have mg_has_measures := T.glo 5 (x := "has_measures") rfl
  have b_has_measures_4 : L2.Binds K fd_has_measures ["line", "size", "gap", "used"] [] := FD_has_measures.bindsN fun _ _ _ _ _ _ us hl => match us, hl with | [_, _, _, _], _ => rfl
  have hd_b_has_measures_4 : Vals [] [] := .nil
  have hD_b_has_measures_4 : ∀ (W : Wd) (H : Hp), RVs K W H [] [] := fun _ _ => .nil
  obtain ⟨fd_is_whole, FD_is_whole, F_is_whole⟩ := ok_is_whole (P := P) (base := base) T
  have mg_is_whole := T.glo 4 (x := "is_whole") rfl
  obtain ⟨ds_b_is_whole_2, hd_b_is_whole_2, b_is_whole_2⟩ := FD_is_whole.binds1 (ps := ["value", "least"]) 2 1 (by simp) rfl fun _ _ _ _ _ _ _ us its h1 h2 => match us, its, h1, h2 with | [_, _], [_], _, _ => ⟨_, rfl, rfl⟩
  have hD_b_is_whole_2 : ∀ (W : Wd) (H : Hp), RVs K W H [] _ := fun _ _ => .nil
  refine ⟨fd, FD, fn_ok (ga := He.ga K) (t := p_is_room) FD sc_is_room (fun cdv A outer s H E hr hgd => ?_) conf_is_room⟩
  have hu := hr.units
  have hr_1 : Room 2 _ := hr.mono (by decide : 2 ≤ 2)
  have hr_2 : Room 2 _ := hr.mono (by decide : 2 ≤ 2)
  exact (wss_cons (ws_if (wt_bool (wt_or (wt_not (wt_val (we_callB call_isiU rfl (T.free 37) (by decide +kernel) (wa_cons (we_var (pv 0)) (wa_cons (we_ty rfl (T.free 39) (by decide +kernel)) wa_nil))))) (wt_or1 (wt_cmp (op_neU hu) (we_callB call_lenU rfl (T.free 36) (by decide +kernel) (wa_cons (we_var (pv 0)) wa_nil)) we_int (nomark _))))) (wss_one (ws_ret we_bl)) wss_nil)
    (wss_cons (ws_asg (we_var (pv 0)) (wg_tup rfl rfl (ks := [1, 2, 3, 4, 5]) (pgs_cons (pg_name (i := 1) sc_is_room.nd rfl (by first | exact Or.inl rfl | exact Or.inr rfl)) (pgs_cons (pg_name (i := 2) sc_is_room.nd rfl (by first | exact Or.inl rfl | exact Or.inr rfl)) (pgs_cons (pg_name (i := 3) sc_is_room.nd rfl (by first | exact Or.inl rfl | exact Or.inr rfl)) (pgs_cons (pg_name (i := 4) sc_is_room.nd rfl (by first | exact Or.inl rfl | exact Or.inr rfl)) (pgs_cons (pg_name (i := 5) sc_is_room.nd rfl (by first | exact Or.inl rfl | exact Or.inr rfl)) pgs_nil)))))))
    (wss_one (ws_ret (we_and (we_call (n := 4) (D := []) (F_has_measures.mono (by decide)) hr_2 hgd rfl mg_has_measures FD_has_measures.kp b_has_measures_4 hd_b_has_measures_4 hD_b_has_measures_4 (takes_of rfl rfl rfl rfl) (wa_cons (we_var (pv 1)) (wa_cons (we_var (pv 2)) (wa_cons (we_var (pv 3)) (wa_cons (we_var (pv 4)) wa_nil))))) (we_and (we_call (n := 2) (D := []) (F_is_whole.mono (by decide)) hr_1 hgd rfl mg_is_whole FD_is_whole.kp b_is_whole_2 hd_b_is_whole_2 hD_b_is_whole_2 (takes_of rfl rfl rfl rfl) (wa_cons (we_var (pv 5)) (wa_cons we_int wa_nil))) (we_one (we_cmp (op_eqU hu) (we_bin op_modU (we_var (pv 1)) (we_var (pv 5))) we_int (nomark _)))))))))


theorem ok_need_room [WW] {P : Program} {K : PySem.W.Frag} {mg : Str → Option Value} {base : Heap} (T : Tx fas css fns K mg) : ∃ fd, FunD K "need_room" "need_room" (defArgs s_need_room) (defBody s_need_room) (defScope s_need_room) [] [] (He.ga K "need_room") fd ∧ FnG P WW.w K mg base 4 (He.ga K "need_room") fd ["room"] (spF K (He.ga K) 1 sp_need_room) := by
  obtain ⟨fd, FD⟩ := T.def_ 7 (d := d_need_room) rfl
  have FD : FunD K "need_room" "need_room" (defArgs s_need_room) (defBody s_need_room) (defScope s_need_room) [] [] (He.ga K "need_room") fd := FD
  obtain ⟨fd_is_room, FD_is_room, F_is_room⟩ := ok_is_room (P := P) (base := base) T
  have mg_is_room := T.glo 6 (x := "is_room") rfl
  have b_is_room_1 : L2.Binds K fd_is_room ["value"] [] := FD_is_room.bindsN fun _ _ _ _ _ _ us hl => match us, hl with | [_], _ => rfl
  have hd_b_is_room_1 : Vals [] [] := .nil
  have hD_b_is_room_1 : ∀ (W : Wd) (H : Hp), RVs K W H [] [] := fun _ _ => .nil
  have mg_InvalidRoom := T.glo 50 (x := "InvalidRoom") rfl
  have ex_InvalidRoom := He.exc_ok (T.fact 55 (f := .exc "InvalidRoom") rfl)
  refine ⟨fd, FD, fn_ok (ga := He.ga K) (t := p_need_room) FD sc_need_room (fun cdv A outer s H E hr hgd => ?_) conf_need_room⟩
  have hu := hr.units
  have hr_3 : Room 3 _ := hr.mono (by decide : 3 ≤ 3)
  exact (wss_one (ws_if (wt_not (wt_val (we_call (n := 1) (D := []) (F_is_room.mono (by decide)) hr_3 hgd rfl mg_is_room FD_is_room.kp b_is_room_1 hd_b_is_room_1 hD_b_is_room_1 (takes_of rfl rfl rfl rfl) (wa_cons (we_var (pv 0)) wa_nil)))) (wss_one (ws_raise rfl (takes_of rfl rfl rfl rfl) ex_InvalidRoom.1 mg_InvalidRoom ex_InvalidRoom.2.1 (raises_own ex_InvalidRoom.2.2.1 ex_InvalidRoom.2.2.2) rfl)) wss_nil))


theorem ok_is_layout [WW] {P : Program} {K : PySem.W.Frag} {mg : Str → Option Value} {base : Heap} (T : Tx fas css fns K mg) : ∃ fd, FunD K "is_layout" "is_layout" (defArgs s_is_layout) (defBody s_is_layout) (defScope s_is_layout) [] [] (He.ga K "is_layout") fd ∧ FnG P WW.w K mg base 3 (He.ga K "is_layout") fd ["value"] (spF K (He.ga K) 1 sp_is_layout) := by
  obtain ⟨fd, FD⟩ := T.def_ 8 (d := d_is_layout) rfl
  have FD : FunD K "is_layout" "is_layout" (defArgs s_is_layout) (defBody s_is_layout) (defScope s_is_layout) [] [] (He.ga K "is_layout") fd := FD
  obtain ⟨fd_has_measures, FD_has_measures, F_has_measures⟩ := ok_has_measures (P := P) (base := base) T
  have mg_has_measures := T.glo 5 (x := "has_measures") rfl
  have b_has_measures_4 : L2.Binds K fd_has_measures ["line", "size", "gap", "used"] [] := FD_has_measures.bindsN fun _ _ _ _ _ _ us hl => match us, hl with | [_, _, _, _], _ => rfl
  have hd_b_has_measures_4 : Vals [] [] := .nil
  have hD_b_has_measures_4 : ∀ (W : Wd) (H : Hp), RVs K W H [] [] := fun _ _ => .nil
  obtain ⟨fd_is_whole, FD_is_whole, F_is_whole⟩ := ok_is_whole (P := P) (base := base) T
  have mg_is_whole := T.glo 4 (x := "is_whole") rfl
  obtain ⟨ds_b_is_whole_1, hd_b_is_whole_1, b_is_whole_1⟩ := FD_is_whole.binds1 (ps := ["value", "least"]) 1 0 (by simp) rfl fun _ _ _ _ _ _ _ us its h1 h2 => match us, its, h1, h2 with | [_], [_], _, _ => ⟨_, rfl, rfl⟩
  have hD_b_is_whole_1 : ∀ (W : Wd) (H : Hp), RVs K W H [.int 0] _ := fun _ _ => .cons (.int _) (.nil)
  obtain ⟨ds_b_is_whole_2, hd_b_is_whole_2, b_is_whole_2⟩ := FD_is_whole.binds1 (ps := ["value", "least"]) 2 1 (by simp) rfl fun _ _ _ _ _ _ _ us its h1 h2 => match us, its, h1, h2 with | [_, _], [_], _, _ => ⟨_, rfl, rfl⟩
  have hD_b_is_whole_2 : ∀ (W : Wd) (H : Hp), RVs K W H [] _ := fun _ _ => .nil
  refine ⟨fd, FD, fn_ok (ga := He.ga K) (t := p_is_layout) FD sc_is_layout (fun cdv A outer s H E hr hgd => ?_) conf_is_layout⟩
  have hu := hr.units
  have hr_1 : Room 2 _ := hr.mono (by decide : 2 ≤ 2)
  have hr_2 : Room 2 _ := hr.mono (by decide : 2 ≤ 2)
  exact (wss_cons (ws_if (wt_bool (wt_or (wt_not (wt_val (we_callB call_isiU rfl (T.free 37) (by decide +kernel) (wa_cons (we_var (pv 0)) (wa_cons (we_ty rfl (T.free 39) (by decide +kernel)) wa_nil))))) (wt_or1 (wt_cmp (op_neU hu) (we_callB call_lenU rfl (T.free 36) (by decide +kernel) (wa_cons (we_var (pv 0)) wa_nil)) we_int (nomark _))))) (wss_one (ws_ret we_bl)) wss_nil)
    (wss_cons (ws_asg (we_var (pv 0)) (wg_tup rfl rfl (ks := [1, 2, 3, 4, 5, 6]) (pgs_cons (pg_name (i := 1) sc_is_layout.nd rfl (by first | exact Or.inl rfl | exact Or.inr rfl)) (pgs_cons (pg_name (i := 2) sc_is_layout.nd rfl (by first | exact Or.inl rfl | exact Or.inr rfl)) (pgs_cons (pg_name (i := 3) sc_is_layout.nd rfl (by first | exact Or.inl rfl | exact Or.inr rfl)) (pgs_cons (pg_name (i := 4) sc_is_layout.nd rfl (by first | exact Or.inl rfl | exact Or.inr rfl)) (pgs_cons (pg_name (i := 5) sc_is_layout.nd rfl (by first | exact Or.inl rfl | exact Or.inr rfl)) (pgs_cons (pg_name (i := 6) sc_is_layout.nd rfl (by first | exact Or.inl rfl | exact Or.inr rfl)) pgs_nil))))))))
    (wss_one (ws_ret (we_and (we_call (n := 4) (D := []) (F_has_measures.mono (by decide)) hr_2 hgd rfl mg_has_measures FD_has_measures.kp b_has_measures_4 hd_b_has_measures_4 hD_b_has_measures_4 (takes_of rfl rfl rfl rfl) (wa_cons (we_var (pv 1)) (wa_cons (we_var (pv 2)) (wa_cons (we_var (pv 3)) (wa_cons (we_var (pv 4)) wa_nil))))) (we_and (we_call (n := 2) (D := [.int 0]) (F_is_whole.mono (by decide)) hr_1 hgd rfl mg_is_whole FD_is_whole.kp b_is_whole_1 hd_b_is_whole_1 hD_b_is_whole_1 (takes_of rfl rfl rfl rfl) (wa_cons (we_var (pv 5)) wa_nil)) (we_and (we_cmp op_ltU (we_var (pv 5)) (we_var (pv 1)) (nomark _)) (we_one (we_call (n := 2) (D := []) (F_is_whole.mono (by decide)) hr_1 hgd rfl mg_is_whole FD_is_whole.kp b_is_whole_2 hd_b_is_whole_2 hD_b_is_whole_2 (takes_of rfl rfl rfl rfl) (wa_cons (we_var (pv 6)) (wa_cons we_int wa_nil)))))))))))


theorem ok_need_layout [WW] {P : Program} {K : PySem.W.Frag} {mg : Str → Option Value} {base : Heap} (T : Tx fas css fns K mg) : ∃ fd, FunD K "need_layout" "need_layout" (defArgs s_need_layout) (defBody s_need_layout) (defScope s_need_layout) [] [] (He.ga K "need_layout") fd ∧ FnG P WW.w K mg base 4 (He.ga K "need_layout") fd ["layout"] (spF K (He.ga K) 1 sp_need_layout) := by
  obtain ⟨fd, FD⟩ := T.def_ 9 (d := d_need_layout) rfl
  have FD : FunD K "need_layout" "need_layout" (defArgs s_need_layout) (defBody s_need_layout) (defScope s_need_layout) [] [] (He.ga K "need_layout") fd := FD
  obtain ⟨fd_is_layout, FD_is_layout, F_is_layout⟩ := ok_is_layout (P := P) (base := base) T
  have mg_is_layout := T.glo 8 (x := "is_layout") rfl
  have b_is_layout_1 : L2.Binds K fd_is_layout ["value"] [] := FD_is_layout.bindsN fun _ _ _ _ _ _ us hl => match us, hl with | [_], _ => rfl
  have hd_b_is_layout_1 : Vals [] [] := .nil
  have hD_b_is_layout_1 : ∀ (W : Wd) (H : Hp), RVs K W H [] [] := fun _ _ => .nil
  have mg_InvalidLayout := T.glo 48 (x := "InvalidLayout") rfl
  have ex_InvalidLayout := He.exc_ok (T.fact 53 (f := .exc "InvalidLayout") rfl)
  refine ⟨fd, FD, fn_ok (ga := He.ga K) (t := p_need_layout) FD sc_need_layout (fun cdv A outer s H E hr hgd => ?_) conf_need_layout⟩
  have hu := hr.units
  have hr_3 : Room 3 _ := hr.mono (by decide : 3 ≤ 3)
  exact (wss_one (ws_if (wt_not (wt_val (we_call (n := 1) (D := []) (F_is_layout.mono (by decide)) hr_3 hgd rfl mg_is_layout FD_is_layout.kp b_is_layout_1 hd_b_is_layout_1 hD_b_is_layout_1 (takes_of rfl rfl rfl rfl) (wa_cons (we_var (pv 0)) wa_nil)))) (wss_one (ws_raise rfl (takes_of rfl rfl rfl rfl) ex_InvalidLayout.1 mg_InvalidLayout ex_InvalidLayout.2.1 (raises_own ex_InvalidLayout.2.2.1 ex_InvalidLayout.2.2.2) rfl)) wss_nil))


theorem ok_lines_of [WW] {P : Program} {K : PySem.W.Frag} {mg : Str → Option Value} {base : Heap} (T : Tx fas css fns K mg) : ∃ fd, FunD K "lines_of" "lines_of" (defArgs s_lines_of) (defBody s_lines_of) (defScope s_lines_of) [] [] (He.ga K "lines_of") fd ∧ FnG P WW.w K mg base 5 (He.ga K "lines_of") fd ["layout"] (spF K (He.ga K) 1 sp_lines_of) := by
  obtain ⟨fd, FD⟩ := T.def_ 10 (d := d_lines_of) rfl
  have FD : FunD K "lines_of" "lines_of" (defArgs s_lines_of) (defBody s_lines_of) (defScope s_lines_of) [] [] (He.ga K "lines_of") fd := FD
  obtain ⟨fd_need_layout, FD_need_layout, F_need_layout⟩ := ok_need_layout (P := P) (base := base) T
  have mg_need_layout := T.glo 9 (x := "need_layout") rfl
  have b_need_layout_1 : L2.Binds K fd_need_layout ["layout"] [] := FD_need_layout.bindsN fun _ _ _ _ _ _ us hl => match us, hl with | [_], _ => rfl
  have hd_b_need_layout_1 : Vals [] [] := .nil
  have hD_b_need_layout_1 : ∀ (W : Wd) (H : Hp), RVs K W H [] [] := fun _ _ => .nil
  refine ⟨fd, FD, fn_ok (ga := He.ga K) (t := p_lines_of) FD sc_lines_of (fun cdv A outer s H E hr hgd => ?_) conf_lines_of⟩
  have hu := hr.units
  have hr_4 : Room 4 _ := hr.mono (by decide : 4 ≤ 4)
  exact (wss_cons (ws_expr (we_call (n := 1) (D := []) (F_need_layout.mono (by decide)) hr_4 hgd rfl mg_need_layout FD_need_layout.kp b_need_layout_1 hd_b_need_layout_1 hD_b_need_layout_1 (takes_of rfl rfl rfl rfl) (wa_cons (we_var (pv 0)) wa_nil)))
    (wss_cons (ws_asg (we_var (pv 0)) (wg_tup rfl rfl (ks := [1, 2, 3, 4, 5, 6]) (pgs_cons (pg_name (i := 1) sc_lines_of.nd rfl (by first | exact Or.inl rfl | exact Or.inr rfl)) (pgs_cons (pg_name (i := 2) sc_lines_of.nd rfl (by first | exact Or.inl rfl | exact Or.inr rfl)) (pgs_cons (pg_name (i := 3) sc_lines_of.nd rfl (by first | exact Or.inl rfl | exact Or.inr rfl)) (pgs_cons (pg_name (i := 4) sc_lines_of.nd rfl (by first | exact Or.inl rfl | exact Or.inr rfl)) (pgs_cons (pg_name (i := 5) sc_lines_of.nd rfl (by first | exact Or.inl rfl | exact Or.inr rfl)) (pgs_cons (pg_name (i := 6) sc_lines_of.nd rfl (by first | exact Or.inl rfl | exact Or.inr rfl)) pgs_nil))))))))
    (wss_cons (ws_setO (ps_set (i := 7) sc_lines_of.nd rfl (by first | exact Or.inl rfl | exact Or.inr rfl) (we_lst wa_nil)))
    (wss_cons (ws_set (ps_set (i := 8) sc_lines_of.nd rfl (by first | exact Or.inl rfl | exact Or.inr rfl) (we_neg we_int)))
    (wss_cons (ws_for (passes_of rfl) rfl (wi_range1 rfl (T.free 40) (wa_cons (we_var (pv 6)) wa_nil)) (wg_name (pg_name (i := 9) sc_lines_of.nd rfl (by first | exact Or.inl rfl | exact Or.inr rfl))) (wss_cons (ws_set (ps_set (i := 10) sc_lines_of.nd rfl (by first | exact Or.inl rfl | exact Or.inr rfl) (we_bin op_addU (we_var (pv 5)) (we_bin op_mulU (we_var (pv 9)) (we_bin op_addU (we_var (pv 2)) (we_var (pv 3)))))))
    (wss_one (ws_for (passes_of rfl) rfl (wi_range2 rfl (T.free 40) (wa_cons (we_bin op_fdivU (we_var (pv 10)) (we_var (pv 1))) (wa_cons (we_bin op_addU (we_bin op_fdivU (we_bin op_subU (we_bin op_addU (we_var (pv 10)) (we_var (pv 2))) we_int) (we_var (pv 1))) we_int) wa_nil))) (wg_name (pg_name (i := 11) sc_lines_of.nd rfl (by first | exact Or.inl rfl | exact Or.inr rfl))) (wss_one (ws_if (wt_cmp op_gtU (we_var (pv 11)) (we_var (pv 8)) (nomark _)) (wss_cons (ws_expr (we_mt rfl PySem.F.slot_list_append PySem.F.type_list_append mtU_append (pv 7) (wa_cons (we_var (pv 11)) wa_nil)))
    (wss_one (ws_set (ps_set (i := 8) sc_lines_of.nd rfl (by first | exact Or.inl rfl | exact Or.inr rfl) (we_var (pv 11)))))) wss_nil))))))
    (wss_one (ws_ret (we_varO (pv 7)))))))))


theorem ok_slots_in [WW] {P : Program} {K : PySem.W.Frag} {mg : Str → Option Value} {base : Heap} (T : Tx fas css fns K mg) : ∃ fd, FunD K "slots_in" "slots_in" (defArgs s_slots_in) (defBody s_slots_in) (defScope s_slots_in) [] [] (He.ga K "slots_in") fd ∧ FnG P WW.w K mg base 1 (He.ga K "slots_in") fd ["layout", "number"] (spF K (He.ga K) 2 sp_slots_in) := by
  obtain ⟨fd, FD⟩ := T.def_ 11 (d := d_slots_in) rfl
  have FD : FunD K "slots_in" "slots_in" (defArgs s_slots_in) (defBody s_slots_in) (defScope s_slots_in) [] [] (He.ga K "slots_in") fd := FD
  refine ⟨fd, FD, fn_ok (ga := He.ga K) (t := p_slots_in) FD sc_slots_in (fun cdv A outer s H E hr hgd => ?_) conf_slots_in⟩
  have hu := hr.units
  exact (wss_cons (ws_asg (we_var (pv 0)) (wg_tup rfl rfl (ks := [2, 3, 4, 5, 6, 7]) (pgs_cons (pg_name (i := 2) sc_slots_in.nd rfl (by first | exact Or.inl rfl | exact Or.inr rfl)) (pgs_cons (pg_name (i := 3) sc_slots_in.nd rfl (by first | exact Or.inl rfl | exact Or.inr rfl)) (pgs_cons (pg_name (i := 4) sc_slots_in.nd rfl (by first | exact Or.inl rfl | exact Or.inr rfl)) (pgs_cons (pg_name (i := 5) sc_slots_in.nd rfl (by first | exact Or.inl rfl | exact Or.inr rfl)) (pgs_cons (pg_name (i := 6) sc_slots_in.nd rfl (by first | exact Or.inl rfl | exact Or.inr rfl)) (pgs_cons (pg_name (i := 7) sc_slots_in.nd rfl (by first | exact Or.inl rfl | exact Or.inr rfl)) pgs_nil))))))))
    (wss_cons (ws_set (ps_set (i := 8) sc_slots_in.nd rfl (by first | exact Or.inl rfl | exact Or.inr rfl) (we_bin op_addU (we_var (pv 3)) (we_var (pv 4)))))
    (wss_cons (ws_set (ps_set (i := 9) sc_slots_in.nd rfl (by first | exact Or.inl rfl | exact Or.inr rfl) (we_callB (call_maxU rfl) rfl (T.free 42) (by decide +kernel) (wa_cons we_int (wa_cons (we_bin op_fdivU (we_bin op_addU (we_bin op_subU (we_bin op_mulU (we_var (pv 1)) (we_var (pv 2))) (we_var (pv 6))) (we_var (pv 4))) (we_var (pv 8))) wa_nil)))))
    (wss_cons (ws_set (ps_set (i := 10) sc_slots_in.nd rfl (by first | exact Or.inl rfl | exact Or.inr rfl) (we_callB (call_minU rfl) rfl (T.free 41) (by decide +kernel) (wa_cons (we_bin op_subU (we_callTy call_intU rfl (T.free 35) (by decide +kernel) (wa_cons (we_var (pv 7)) wa_nil)) we_int) (wa_cons (we_bin op_fdivU (we_bin op_subU (we_bin op_subU (we_bin op_addU (we_bin op_mulU (we_var (pv 1)) (we_var (pv 2))) (we_var (pv 2))) we_int) (we_var (pv 6))) (we_var (pv 8))) wa_nil)))))
    (wss_one (ws_ret (we_lc rfl sc_slots_in.nd (wi_rangeW rfl rfl (T.free 40) (wa_cons (we_var (pv 9)) (wa_cons (we_bin op_addU (we_var (pv 10)) we_int) wa_nil))) (own := [("slot", 11)]) (blkOk_by (N := N_slots_in) (sc := (defScope s_slots_in)) (by decide +kernel)) (by decide) (fun _ _ _ _ _ => (wg_name (pg_name (i := 11) sc_slots_in.nd rfl (by first | exact Or.inl rfl | exact Or.inr rfl)))) (fun _ _ _ _ _ => wts_nil) (fun _ _ _ _ _ => (we_var (pv 11))))))))))


theorem ok_line_pattern [WW] {P : Program} {K : PySem.W.Frag} {mg : Str → Option Value} {base : Heap} (T : Tx fas css fns K mg) : ∃ fd, FunD K "line_pattern" "line_pattern" (defArgs s_line_pattern) (defBody s_line_pattern) (defScope s_line_pattern) [] [] (He.ga K "line_pattern") fd ∧ FnG P WW.w K mg base 2 (He.ga K "line_pattern") fd ["layout", "number"] (spF K (He.ga K) 2 sp_line_pattern) := by
  obtain ⟨fd, FD⟩ := T.def_ 12 (d := d_line_pattern) rfl
  have FD : FunD K "line_pattern" "line_pattern" (defArgs s_line_pattern) (defBody s_line_pattern) (defScope s_line_pattern) [] [] (He.ga K "line_pattern") fd := FD
  obtain ⟨fd_slots_in, FD_slots_in, F_slots_in⟩ := ok_slots_in (P := P) (base := base) T
  have mg_slots_in := T.glo 11 (x := "slots_in") rfl
  have b_slots_in_2 : L2.Binds K fd_slots_in ["layout", "number"] [] := FD_slots_in.bindsN fun _ _ _ _ _ _ us hl => match us, hl with | [_, _], _ => rfl
  have hd_b_slots_in_2 : Vals [] [] := .nil
  have hD_b_slots_in_2 : ∀ (W : Wd) (H : Hp), RVs K W H [] [] := fun _ _ => .nil
  refine ⟨fd, FD, fn_ok (ga := He.ga K) (t := p_line_pattern) FD sc_line_pattern (fun cdv A outer s H E hr hgd => ?_) conf_line_pattern⟩
  have hu := hr.units
  have hr_1 : Room 1 _ := hr.mono (by decide : 1 ≤ 1)
  exact (wss_cons (ws_asg (we_var (pv 0)) (wg_tup rfl rfl (ks := [2, 3, 4, 5, 6, 7]) (pgs_cons (pg_name (i := 2) sc_line_pattern.nd rfl (by first | exact Or.inl rfl | exact Or.inr rfl)) (pgs_cons (pg_name (i := 3) sc_line_pattern.nd rfl (by first | exact Or.inl rfl | exact Or.inr rfl)) (pgs_cons (pg_name (i := 4) sc_line_pattern.nd rfl (by first | exact Or.inl rfl | exact Or.inr rfl)) (pgs_cons (pg_name (i := 5) sc_line_pattern.nd rfl (by first | exact Or.inl rfl | exact Or.inr rfl)) (pgs_cons (pg_name (i := 6) sc_line_pattern.nd rfl (by first | exact Or.inl rfl | exact Or.inr rfl)) (pgs_cons (pg_name (i := 7) sc_line_pattern.nd rfl (by first | exact Or.inl rfl | exact Or.inr rfl)) pgs_nil))))))))
    (wss_cons (ws_set (ps_set (i := 8) sc_line_pattern.nd rfl (by first | exact Or.inl rfl | exact Or.inr rfl) (we_call (n := 2) (D := []) (F_slots_in.mono (by decide)) hr_1 hgd rfl mg_slots_in FD_slots_in.kp b_slots_in_2 hd_b_slots_in_2 hD_b_slots_in_2 (takes_of rfl rfl rfl rfl) (wa_cons (we_var (pv 0)) (wa_cons (we_var (pv 1)) wa_nil)))))
    (wss_cons (ws_if (wt_cmp (op_eqU hu) (we_callB call_lenU rfl (T.free 36) (by decide +kernel) (wa_cons (we_var (pv 8)) wa_nil)) we_int (nomark _)) (wss_one (ws_ret (we_tup (wa_cons we_int (wa_cons (we_ifE (wt_val (we_var (pv 5))) (we_callB (call_minU rfl) rfl (T.free 41) (by decide +kernel) (wa_cons we_int (wa_cons (we_var (pv 4)) wa_nil))) we_int) wa_nil))))) wss_nil)
    (wss_cons (ws_set (ps_set (i := 9) sc_line_pattern.nd rfl (by first | exact Or.inl rfl | exact Or.inr rfl) (we_bin op_addU (we_var (pv 6)) (we_bin op_mulU (we_ix ix_U (we_var (pv 8)) we_int (fun _ _ => rfl)) (we_bin op_addU (we_var (pv 3)) (we_var (pv 4)))))))
    (wss_cons (ws_set (ps_set (i := 10) sc_line_pattern.nd rfl (by first | exact Or.inl rfl | exact Or.inr rfl) we_int))
    (wss_cons (ws_if (wt_bool (wt_or (wt_val (we_var (pv 5))) (wt_or1 (wt_cmp (op_eqU hu) (we_ix ix_U (we_var (pv 8)) we_int (fun _ _ => rfl)) we_int (nomark _))))) (wss_one (ws_aug (ps_aug (i := 10) sc_line_pattern.nd rfl (by first | exact Or.inl rfl | exact Or.inr rfl) (we_callB (call_maxU rfl) rfl (T.free 42) (by decide +kernel) (wa_cons we_int (wa_cons (we_bin op_subU (we_var (pv 9)) (we_bin op_mulU (we_var (pv 1)) (we_var (pv 2)))) wa_nil))) ip_addU) rfl)) wss_nil)
    (wss_cons (ws_if (wt_bool (wt_or (wt_val (we_var (pv 5))) (wt_or1 (wt_cmp (op_eqU hu) (we_ix ix_U (we_var (pv 8)) we_int (fun _ _ => rfl)) (we_bin op_subU (we_var (pv 7)) we_int) (nomark _))))) (wss_one (ws_aug (ps_aug (i := 10) sc_line_pattern.nd rfl (by first | exact Or.inl rfl | exact Or.inr rfl) (we_callB (call_maxU rfl) rfl (T.free 42) (by decide +kernel) (wa_cons we_int (wa_cons (we_bin op_subU (we_bin op_subU (we_bin op_addU (we_bin op_mulU (we_var (pv 1)) (we_var (pv 2))) (we_var (pv 2))) (we_var (pv 9))) (we_var (pv 3))) wa_nil))) ip_addU) rfl)) wss_nil)
    (wss_one (ws_ret (we_tup (wa_cons we_int (wa_cons (we_callB (call_minU rfl) rfl (T.free 41) (by decide +kernel) (wa_cons we_int (wa_cons (we_var (pv 10)) wa_nil))) wa_nil))))))))))))


theorem ok_places [WW] {P : Program} {K : PySem.W.Frag} {mg : Str → Option Value} {base : Heap} (T : Tx fas css fns K mg) : ∃ fd, FunD K "places" "places" (defArgs s_places) (defBody s_places) (defScope s_places) [] [] (He.ga K "places") fd ∧ FnG P WW.w K mg base 6 (He.ga K "places") fd ["room"] (spF K (He.ga K) 1 sp_places) := by
  obtain ⟨fd, FD⟩ := T.def_ 13 (d := d_places) rfl
  have FD : FunD K "places" "places" (defArgs s_places) (defBody s_places) (defScope s_places) [] [] (He.ga K "places") fd := FD
  obtain ⟨fd_line_pattern, FD_line_pattern, F_line_pattern⟩ := ok_line_pattern (P := P) (base := base) T
  have mg_line_pattern := T.glo 12 (x := "line_pattern") rfl
  have b_line_pattern_2 : L2.Binds K fd_line_pattern ["layout", "number"] [] := FD_line_pattern.bindsN fun _ _ _ _ _ _ us hl => match us, hl with | [_, _], _ => rfl
  have hd_b_line_pattern_2 : Vals [] [] := .nil
  have hD_b_line_pattern_2 : ∀ (W : Wd) (H : Hp), RVs K W H [] [] := fun _ _ => .nil
  obtain ⟨fd_lines_of, FD_lines_of, F_lines_of⟩ := ok_lines_of (P := P) (base := base) T
  have mg_lines_of := T.glo 10 (x := "lines_of") rfl
  have b_lines_of_1 : L2.Binds K fd_lines_of ["layout"] [] := FD_lines_of.bindsN fun _ _ _ _ _ _ us hl => match us, hl with | [_], _ => rfl
  have hd_b_lines_of_1 : Vals [] [] := .nil
  have hD_b_lines_of_1 : ∀ (W : Wd) (H : Hp), RVs K W H [] [] := fun _ _ => .nil
  obtain ⟨fd_need_room, FD_need_room, F_need_room⟩ := ok_need_room (P := P) (base := base) T
  have mg_need_room := T.glo 7 (x := "need_room") rfl
  have b_need_room_1 : L2.Binds K fd_need_room ["room"] [] := FD_need_room.bindsN fun _ _ _ _ _ _ us hl => match us, hl with | [_], _ => rfl
  have hd_b_need_room_1 : Vals [] [] := .nil
  have hD_b_need_room_1 : ∀ (W : Wd) (H : Hp), RVs K W H [] [] := fun _ _ => .nil
  refine ⟨fd, FD, fn_ok (ga := He.ga K) (t := p_places) FD sc_places (fun cdv A outer s H E hr hgd => ?_) conf_places⟩
  have hu := hr.units
  have hr_2 : Room 5 _ := hr.mono (by decide : 5 ≤ 5)
  have hr_4 : Room 5 _ := hr.mono (by decide : 5 ≤ 5)
  have hr_5 : Room 5 _ := hr.mono (by decide : 5 ≤ 5)
  exact (wss_cons (ws_expr (we_call (n := 1) (D := []) (F_need_room.mono (by decide)) hr_4 hgd rfl mg_need_room FD_need_room.kp b_need_room_1 hd_b_need_room_1 hD_b_need_room_1 (takes_of rfl rfl rfl rfl) (wa_cons (we_var (pv 0)) wa_nil)))
    (wss_cons (ws_asg (we_var (pv 0)) (wg_tup rfl rfl (ks := [1, 2, 3, 4, 5]) (pgs_cons (pg_name (i := 1) sc_places.nd rfl (by first | exact Or.inl rfl | exact Or.inr rfl)) (pgs_cons (pg_name (i := 2) sc_places.nd rfl (by first | exact Or.inl rfl | exact Or.inr rfl)) (pgs_cons (pg_name (i := 3) sc_places.nd rfl (by first | exact Or.inl rfl | exact Or.inr rfl)) (pgs_cons (pg_name (i := 4) sc_places.nd rfl (by first | exact Or.inl rfl | exact Or.inr rfl)) (pgs_cons (pg_name (i := 5) sc_places.nd rfl (by first | exact Or.inl rfl | exact Or.inr rfl)) pgs_nil)))))))
    (wss_cons (ws_setO (ps_set (i := 6) sc_places.nd rfl (by first | exact Or.inl rfl | exact Or.inr rfl) we_dic0))
    (wss_cons (ws_for (passes_of rfl) rfl (wi_range2 rfl (T.free 40) (wa_cons we_int (wa_cons (we_bin op_addU (we_var (pv 1)) we_int) wa_nil))) (wg_name (pg_name (i := 7) sc_places.nd rfl (by first | exact Or.inl rfl | exact Or.inr rfl))) (wss_one (ws_for (passes_of rfl) rfl (wi_range3 rfl rfl (T.free 40) (wa_cons we_int (wa_cons (we_var (pv 1)) (wa_cons (we_var (pv 5)) wa_nil)))) (wg_name (pg_name (i := 8) sc_places.nd rfl (by first | exact Or.inl rfl | exact Or.inr rfl))) (wss_cons (ws_set (ps_set (i := 9) sc_places.nd rfl (by first | exact Or.inl rfl | exact Or.inr rfl) (we_tup (wa_cons (we_var (pv 1)) (wa_cons (we_var (pv 2)) (wa_cons (we_var (pv 3)) (wa_cons (we_var (pv 4)) (wa_cons (we_var (pv 8)) (wa_cons (we_var (pv 7)) wa_nil)))))))))
    (wss_one (ws_for (passes_of rfl) rfl (wi_any rfl (we_call (n := 1) (D := []) (F_lines_of.mono (by decide)) hr_5 hgd rfl mg_lines_of FD_lines_of.kp b_lines_of_1 hd_b_lines_of_1 hD_b_lines_of_1 (takes_of rfl rfl rfl rfl) (wa_cons (we_var (pv 9)) wa_nil))) (wg_name (pg_name (i := 10) sc_places.nd rfl (by first | exact Or.inl rfl | exact Or.inr rfl))) (wss_one (ws_setDf rfl rfl hu (pv 6) (we_call (n := 2) (D := []) (F_line_pattern.mono (by decide)) hr_2 hgd rfl mg_line_pattern FD_line_pattern.kp b_line_pattern_2 hd_b_line_pattern_2 hD_b_line_pattern_2 (takes_of rfl rfl rfl rfl) (wa_cons (we_var (pv 9)) (wa_cons (we_var (pv 10)) wa_nil))) (we_tup (wa_cons (we_var (pv 9)) (wa_cons (we_var (pv 10)) wa_nil)))))))))))
    (wss_one (ws_ret (we_lc rfl sc_places.nd (wi_any rfl (we_sortSetD rfl rfl rfl hu rfl (T.free 43) rfl (T.free 44) (pv 6))) (own := [("pattern", 11)]) (blkOk_by (N := N_places) (sc := (defScope s_places)) (by decide +kernel)) (by decide) (fun _ _ _ _ _ => (wg_name (pg_name (i := 11) sc_places.nd rfl (by first | exact Or.inl rfl | exact Or.inr rfl)))) (fun _ _ _ _ _ => wts_nil) (fun _ _ _ _ _ => (we_bin op_addU (we_tup (wa_cons (we_var (pv 11)) wa_nil)) (we_ixD rfl rfl hu (pv 6) (we_var (pv 11)) (fun _ _ => rfl)))))))))))


theorem ok_law_bad_room [WW] {P : Program} {K : PySem.W.Frag} {mg : Str → Option Value} {base : Heap} (T : Tx fas css fns K mg) : ∃ fd, FunD K "_law_bad_room" "_law_bad_room" (defArgs s_law_bad_room) (defBody s_law_bad_room) (defScope s_law_bad_room) [] [] (He.ga K "_law_bad_room") fd ∧ FnG P WW.w K mg base 3 (He.ga K "_law_bad_room") fd ["pot", "space"] (spF K (He.ga K) 2 sp_law_bad_room) := by
  obtain ⟨fd, FD⟩ := T.def_ 14 (d := d_law_bad_room) rfl
  have FD : FunD K "_law_bad_room" "_law_bad_room" (defArgs s_law_bad_room) (defBody s_law_bad_room) (defScope s_law_bad_room) [] [] (He.ga K "_law_bad_room") fd := FD
  obtain ⟨fd_law_among, FD_law_among, F_law_among⟩ := ok_law_among (P := P) (base := base) T
  have mg_law_among := T.glo 2 (x := "_law_among") rfl
  have b_law_among_2 : L2.Binds K fd_law_among ["pot", "some"] [] := FD_law_among.bindsN fun _ _ _ _ _ _ us hl => match us, hl with | [_, _], _ => rfl
  have hd_b_law_among_2 : Vals [] [] := .nil
  have hD_b_law_among_2 : ∀ (W : Wd) (H : Hp), RVs K W H [] [] := fun _ _ => .nil
  obtain ⟨fd_law_pick, FD_law_pick, F_law_pick⟩ := ok_law_pick (P := P) (base := base) T
  have mg_law_pick := T.glo 1 (x := "_law_pick") rfl
  have b_law_pick_2 : L2.Binds K fd_law_pick ["pot", "many"] [] := FD_law_pick.bindsN fun _ _ _ _ _ _ us hl => match us, hl with | [_, _], _ => rfl
  have hd_b_law_pick_2 : Vals [] [] := .nil
  have hD_b_law_pick_2 : ∀ (W : Wd) (H : Hp), RVs K W H [] [] := fun _ _ => .nil
  refine ⟨fd, FD, fn_ok (ga := He.ga K) (t := p_law_bad_room) FD sc_law_bad_room (fun cdv A outer s H E hr hgd => ?_) conf_law_bad_room⟩
  have hu := hr.units
  have hr_1 : Room 2 _ := hr.mono (by decide : 2 ≤ 2)
  have hr_2 : Room 2 _ := hr.mono (by decide : 2 ≤ 2)
  exact (wss_cons (ws_set (ps_set (i := 2) sc_law_bad_room.nd rfl (by first | exact Or.inl rfl | exact Or.inr rfl) (we_call (n := 2) (D := []) (F_law_pick.mono (by decide)) hr_1 hgd rfl mg_law_pick FD_law_pick.kp b_law_pick_2 hd_b_law_pick_2 hD_b_law_pick_2 (takes_of rfl rfl rfl rfl) (wa_cons (we_var (pv 0)) (wa_cons we_int wa_nil)))))
    (wss_cons (ws_set (ps_set (i := 3) sc_law_bad_room.nd rfl (by first | exact Or.inl rfl | exact Or.inr rfl) (we_call (n := 2) (D := []) (F_law_pick.mono (by decide)) hr_1 hgd rfl mg_law_pick FD_law_pick.kp b_law_pick_2 hd_b_law_pick_2 hD_b_law_pick_2 (takes_of rfl rfl rfl rfl) (wa_cons (we_var (pv 0)) (wa_cons we_int wa_nil)))))
    (wss_cons (ws_if (wt_cmp op_ltU (we_var (pv 3)) we_int (nomark _)) (wss_one (ws_ret (we_bin op_addU (we_bin op_addU (we_sl sl_U (we_var (pv 1)) wp_none (wp_some (we_var (pv 2)))) (we_tup (wa_cons (we_call (n := 2) (D := []) (F_law_among.mono (by decide)) hr_2 hgd rfl mg_law_among FD_law_among.kp b_law_among_2 hd_b_law_among_2 hD_b_law_among_2 (takes_of rfl rfl rfl rfl) (wa_cons (we_var (pv 0)) (wa_cons (we_lst (wa_cons we_non (wa_cons (we_neg we_int) (wa_cons we_str (wa_cons (we_lst (wa_cons we_int wa_nil)) (wa_cons (we_tup (wa_cons we_int wa_nil)) (wa_cons (we_neg (we_bin op_powU we_int we_int)) wa_nil))))))) wa_nil))) wa_nil))) (we_sl sl_U (we_var (pv 1)) (wp_some (we_bin op_addU (we_var (pv 2)) we_int)) wp_none)))) wss_nil)
    (wss_cons (ws_if (wt_cmp op_ltU (we_var (pv 3)) we_int (nomark _)) (wss_cons (ws_set (ps_lcU (i := 4) rfl sc_law_bad_room.nd rfl rfl (sw_true rfl rfl rfl (by decide +kernel)) (wi_range2 rfl (T.free 40) (wa_cons we_int (wa_cons (we_bin op_addU (we_bin op_mulU we_int (we_ix ix_U (we_var (pv 1)) we_int (fun _ _ => rfl))) we_int) wa_nil))) (own := [("part", 7)]) (blkOk_by (N := N_law_bad_room) (sc := (defScope s_law_bad_room)) (by decide +kernel)) (by decide) (fun _ _ _ _ _ => (wg_name (pg_name (i := 7) sc_law_bad_room.nd rfl (by first | exact Or.inl rfl | exact Or.inr rfl)))) (fun _ _ _ _ _ => (wts_one (wt_cmp (op_neU hu) (we_bin op_modU (we_callTy call_intU rfl (T.free 35) (by decide +kernel) (wa_cons (we_ix ix_U (we_var (pv 1)) we_int (fun _ _ => rfl)) wa_nil)) (we_var (pv 7))) we_int (nomark _)))) (fun _ _ _ _ _ => (we_var (pv 7)))))
    (wss_one (ws_ret (we_bin op_addU (we_sl sl_U (we_var (pv 1)) wp_none (wp_some we_int)) (we_tup (wa_cons (we_call (n := 2) (D := []) (F_law_among.mono (by decide)) hr_2 hgd rfl mg_law_among FD_law_among.kp b_law_among_2 hd_b_law_among_2 hD_b_law_among_2 (takes_of rfl rfl rfl rfl) (wa_cons (we_var (pv 0)) (wa_cons (we_var (pv 4)) wa_nil))) wa_nil)))))) wss_nil)
    (wss_cons (ws_if (wt_cmp op_ltU (we_var (pv 3)) we_int (nomark _)) (wss_cons (ws_set (ps_set (i := 5) sc_law_bad_room.nd rfl (by first | exact Or.inl rfl | exact Or.inr rfl) (we_bin op_addU we_int (we_call (n := 2) (D := []) (F_law_pick.mono (by decide)) hr_1 hgd rfl mg_law_pick FD_law_pick.kp b_law_pick_2 hd_b_law_pick_2 hD_b_law_pick_2 (takes_of rfl rfl rfl rfl) (wa_cons (we_var (pv 0)) (wa_cons (we_ix ix_U (we_var (pv 1)) we_int (fun _ _ => rfl)) wa_nil))))))
    (wss_one (ws_ret (we_bin op_addU (we_tup (wa_cons (we_ix ix_U (we_var (pv 1)) we_int (fun _ _ => rfl)) (wa_cons (we_var (pv 5)) (wa_cons (we_bin op_subU (we_bin op_subU (we_ix ix_U (we_var (pv 1)) we_int (fun _ _ => rfl)) (we_var (pv 5))) we_int) wa_nil)))) (we_sl sl_U (we_var (pv 1)) (wp_some we_int) wp_none))))) wss_nil)
    (wss_cons (ws_if (wt_cmp (op_eqU hu) (we_var (pv 3)) we_int (nomark _)) (wss_cons (ws_set (ps_set (i := 2) sc_law_bad_room.nd rfl (by first | exact Or.inl rfl | exact Or.inr rfl) (we_call (n := 2) (D := []) (F_law_pick.mono (by decide)) hr_1 hgd rfl mg_law_pick FD_law_pick.kp b_law_pick_2 hd_b_law_pick_2 hD_b_law_pick_2 (takes_of rfl rfl rfl rfl) (wa_cons (we_var (pv 0)) (wa_cons we_int wa_nil)))))
    (wss_cons (ws_set (ps_set (i := 6) sc_law_bad_room.nd rfl (by first | exact Or.inl rfl | exact Or.inr rfl) (we_ix ix_U (we_lst (wa_cons (we_lst (wa_cons we_int (wa_cons we_bl wa_nil))) (wa_cons (we_lst (wa_cons we_int (wa_cons we_bl wa_nil))) (wa_cons (we_lst (wa_cons we_bl (wa_cons we_bl wa_nil))) (wa_cons (we_lst (wa_cons we_int (wa_cons we_int wa_nil))) (wa_cons (we_lst (wa_cons we_int (wa_cons we_bl wa_nil))) wa_nil)))))) (we_var (pv 2)) (fun _ _ => rfl))))
    (wss_one (ws_ret (we_bin op_addU (we_bin op_addU (we_sl sl_U (we_var (pv 1)) wp_none (wp_some (we_var (pv 2)))) (we_tup (wa_cons (we_call (n := 2) (D := []) (F_law_among.mono (by decide)) hr_2 hgd rfl mg_law_among FD_law_among.kp b_law_among_2 hd_b_law_among_2 hD_b_law_among_2 (takes_of rfl rfl rfl rfl) (wa_cons (we_var (pv 0)) (wa_cons (we_var (pv 6)) wa_nil))) wa_nil))) (we_sl sl_U (we_var (pv 1)) (wp_some (we_bin op_addU (we_var (pv 2)) we_int)) wp_none)))))) wss_nil)
    (wss_cons (ws_if (wt_cmp (op_eqU hu) (we_var (pv 3)) we_int (nomark _)) (wss_one (ws_ret (we_bin op_addU (we_sl sl_U (we_var (pv 1)) wp_none (wp_some (we_var (pv 2)))) (we_sl sl_U (we_var (pv 1)) (wp_some (we_bin op_addU (we_var (pv 2)) we_int)) wp_none)))) wss_nil)
    (wss_one (ws_ret (we_call (n := 2) (D := []) (F_law_among.mono (by decide)) hr_2 hgd rfl mg_law_among FD_law_among.kp b_law_among_2 hd_b_law_among_2 hD_b_law_among_2 (takes_of rfl rfl rfl rfl) (wa_cons (we_var (pv 0)) (wa_cons (we_lst (wa_cons (we_callTy call_listU rfl (T.free 45) (by decide +kernel) (wa_cons (we_var (pv 1)) wa_nil)) (wa_cons (we_bin op_addU (we_sl sl_U (we_var (pv 1)) wp_none (wp_some we_int)) (we_tup (wa_cons we_int (wa_cons we_int wa_nil)))) (wa_cons we_non (wa_cons we_int (wa_cons we_str (wa_cons (we_tup (wa_cons (we_var (pv 1)) wa_nil)) (wa_cons (we_bin op_addU (we_var (pv 1)) (we_tup (wa_cons we_int wa_nil))) (wa_cons (we_rev rfl (we_var (pv 1))) wa_nil))))))))) wa_nil))))))))))))


theorem ok_need_slot [WW] {P : Program} {K : PySem.W.Frag} {mg : Str → Option Value} {base : Heap} (T : Tx fas css fns K mg) : ∃ fd, FunD K "need_slot" "need_slot" (defArgs s_need_slot) (defBody s_need_slot) (defScope s_need_slot) [] [] (He.ga K "need_slot") fd ∧ FnG P WW.w K mg base 2 (He.ga K "need_slot") fd ["layout", "slot"] (spF K (He.ga K) 2 sp_need_slot) := by
  obtain ⟨fd, FD⟩ := T.def_ 15 (d := d_need_slot) rfl
  have FD : FunD K "need_slot" "need_slot" (defArgs s_need_slot) (defBody s_need_slot) (defScope s_need_slot) [] [] (He.ga K "need_slot") fd := FD
  obtain ⟨fd_is_whole, FD_is_whole, F_is_whole⟩ := ok_is_whole (P := P) (base := base) T
  have mg_is_whole := T.glo 4 (x := "is_whole") rfl
  obtain ⟨ds_b_is_whole_1, hd_b_is_whole_1, b_is_whole_1⟩ := FD_is_whole.binds1 (ps := ["value", "least"]) 1 0 (by simp) rfl fun _ _ _ _ _ _ _ us its h1 h2 => match us, its, h1, h2 with | [_], [_], _, _ => ⟨_, rfl, rfl⟩
  have hD_b_is_whole_1 : ∀ (W : Wd) (H : Hp), RVs K W H [.int 0] _ := fun _ _ => .cons (.int _) (.nil)
  have mg_InvalidSlot := T.glo 51 (x := "InvalidSlot") rfl
  have ex_InvalidSlot := He.exc_ok (T.fact 56 (f := .exc "InvalidSlot") rfl)
  refine ⟨fd, FD, fn_ok (ga := He.ga K) (t := p_need_slot) FD sc_need_slot (fun cdv A outer s H E hr hgd => ?_) conf_need_slot⟩
  have hu := hr.units
  have hr_1 : Room 1 _ := hr.mono (by decide : 1 ≤ 1)
  exact (wss_one (ws_if (wt_bool (wt_or (wt_not (wt_val (we_call (n := 2) (D := [.int 0]) (F_is_whole.mono (by decide)) hr_1 hgd rfl mg_is_whole FD_is_whole.kp b_is_whole_1 hd_b_is_whole_1 hD_b_is_whole_1 (takes_of rfl rfl rfl rfl) (wa_cons (we_var (pv 1)) wa_nil)))) (wt_or1 (wt_cmp op_geU (we_var (pv 1)) (we_ix ix_U (we_var (pv 0)) we_int (fun _ _ => rfl)) (nomark _))))) (wss_one (ws_raise rfl (takes_of rfl rfl rfl rfl) ex_InvalidSlot.1 mg_InvalidSlot ex_InvalidSlot.2.1 (raises_own ex_InvalidSlot.2.2.1 ex_InvalidSlot.2.2.2) rfl)) wss_nil))


theorem ok_layout_stride [WW] {P : Program} {K : PySem.W.Frag} {mg : Str → Option Value} {base : Heap} (T : Tx fas css fns K mg) : ∃ fd, FunD K "layout_stride" "layout_stride" (defArgs s_layout_stride) (defBody s_layout_stride) (defScope s_layout_stride) [] [] (He.ga K "layout_stride") fd ∧ FnG P WW.w K mg base 1 (He.ga K "layout_stride") fd ["layout"] (spF K (He.ga K) 1 sp_layout_stride) := by
  obtain ⟨fd, FD⟩ := T.def_ 16 (d := d_layout_stride) rfl
  have FD : FunD K "layout_stride" "layout_stride" (defArgs s_layout_stride) (defBody s_layout_stride) (defScope s_layout_stride) [] [] (He.ga K "layout_stride") fd := FD
  refine ⟨fd, FD, fn_ok (ga := He.ga K) (t := p_layout_stride) FD sc_layout_stride (fun cdv A outer s H E hr hgd => ?_) conf_layout_stride⟩
  have hu := hr.units
  exact (wss_one (ws_ret (we_bin op_addU (we_ix ix_U (we_var (pv 0)) we_int (fun _ _ => rfl)) (we_ix ix_U (we_var (pv 0)) we_int (fun _ _ => rfl)))))


theorem ok_first_spot [WW] {P : Program} {K : PySem.W.Frag} {mg : Str → Option Value} {base : Heap} (T : Tx fas css fns K mg) : ∃ fd, FunD K "first_spot" "first_spot" (defArgs s_first_spot) (defBody s_first_spot) (defScope s_first_spot) [] [] (He.ga K "first_spot") fd ∧ FnG P WW.w K mg base 5 (He.ga K "first_spot") fd ["layout", "slot"] (spF K (He.ga K) 2 sp_first_spot) := by
  obtain ⟨fd, FD⟩ := T.def_ 17 (d := d_first_spot) rfl
  have FD : FunD K "first_spot" "first_spot" (defArgs s_first_spot) (defBody s_first_spot) (defScope s_first_spot) [] [] (He.ga K "first_spot") fd := FD
  obtain ⟨fd_layout_stride, FD_layout_stride, F_layout_stride⟩ := ok_layout_stride (P := P) (base := base) T
  have mg_layout_stride := T.glo 16 (x := "layout_stride") rfl
  have b_layout_stride_1 : L2.Binds K fd_layout_stride ["layout"] [] := FD_layout_stride.bindsN fun _ _ _ _ _ _ us hl => match us, hl with | [_], _ => rfl
  have hd_b_layout_stride_1 : Vals [] [] := .nil
  have hD_b_layout_stride_1 : ∀ (W : Wd) (H : Hp), RVs K W H [] [] := fun _ _ => .nil
  obtain ⟨fd_need_layout, FD_need_layout, F_need_layout⟩ := ok_need_layout (P := P) (base := base) T
  have mg_need_layout := T.glo 9 (x := "need_layout") rfl
  have b_need_layout_1 : L2.Binds K fd_need_layout ["layout"] [] := FD_need_layout.bindsN fun _ _ _ _ _ _ us hl => match us, hl with | [_], _ => rfl
  have hd_b_need_layout_1 : Vals [] [] := .nil
  have hD_b_need_layout_1 : ∀ (W : Wd) (H : Hp), RVs K W H [] [] := fun _ _ => .nil
  obtain ⟨fd_need_slot, FD_need_slot, F_need_slot⟩ := ok_need_slot (P := P) (base := base) T
  have mg_need_slot := T.glo 15 (x := "need_slot") rfl
  have b_need_slot_2 : L2.Binds K fd_need_slot ["layout", "slot"] [] := FD_need_slot.bindsN fun _ _ _ _ _ _ us hl => match us, hl with | [_, _], _ => rfl
  have hd_b_need_slot_2 : Vals [] [] := .nil
  have hD_b_need_slot_2 : ∀ (W : Wd) (H : Hp), RVs K W H [] [] := fun _ _ => .nil
  refine ⟨fd, FD, fn_ok (ga := He.ga K) (t := p_first_spot) FD sc_first_spot (fun cdv A outer s H E hr hgd => ?_) conf_first_spot⟩
  have hu := hr.units
  have hr_1 : Room 4 _ := hr.mono (by decide : 4 ≤ 4)
  have hr_2 : Room 4 _ := hr.mono (by decide : 4 ≤ 4)
  have hr_4 : Room 4 _ := hr.mono (by decide : 4 ≤ 4)
  exact (wss_cons (ws_expr (we_call (n := 1) (D := []) (F_need_layout.mono (by decide)) hr_4 hgd rfl mg_need_layout FD_need_layout.kp b_need_layout_1 hd_b_need_layout_1 hD_b_need_layout_1 (takes_of rfl rfl rfl rfl) (wa_cons (we_var (pv 0)) wa_nil)))
    (wss_cons (ws_expr (we_call (n := 2) (D := []) (F_need_slot.mono (by decide)) hr_2 hgd rfl mg_need_slot FD_need_slot.kp b_need_slot_2 hd_b_need_slot_2 hD_b_need_slot_2 (takes_of rfl rfl rfl rfl) (wa_cons (we_var (pv 0)) (wa_cons (we_var (pv 1)) wa_nil))))
    (wss_one (ws_ret (we_bin op_addU (we_ix ix_U (we_var (pv 0)) we_int (fun _ _ => rfl)) (we_bin op_mulU (we_var (pv 1)) (we_call (n := 1) (D := []) (F_layout_stride.mono (by decide)) hr_1 hgd rfl mg_layout_stride FD_layout_stride.kp b_layout_stride_1 hd_b_layout_stride_1 hD_b_layout_stride_1 (takes_of rfl rfl rfl rfl) (wa_cons (we_var (pv 0)) wa_nil))))))))


theorem ok_need_spot [WW] {P : Program} {K : PySem.W.Frag} {mg : Str → Option Value} {base : Heap} (T : Tx fas css fns K mg) : ∃ fd, FunD K "need_spot" "need_spot" (defArgs s_need_spot) (defBody s_need_spot) (defScope s_need_spot) [] [] (He.ga K "need_spot") fd ∧ FnG P WW.w K mg base 2 (He.ga K "need_spot") fd ["layout", "spot"] (spF K (He.ga K) 2 sp_need_spot) := by
  obtain ⟨fd, FD⟩ := T.def_ 18 (d := d_need_spot) rfl
  have FD : FunD K "need_spot" "need_spot" (defArgs s_need_spot) (defBody s_need_spot) (defScope s_need_spot) [] [] (He.ga K "need_spot") fd := FD
  obtain ⟨fd_is_whole, FD_is_whole, F_is_whole⟩ := ok_is_whole (P := P) (base := base) T
  have mg_is_whole := T.glo 4 (x := "is_whole") rfl
  obtain ⟨ds_b_is_whole_1, hd_b_is_whole_1, b_is_whole_1⟩ := FD_is_whole.binds1 (ps := ["value", "least"]) 1 0 (by simp) rfl fun _ _ _ _ _ _ _ us its h1 h2 => match us, its, h1, h2 with | [_], [_], _, _ => ⟨_, rfl, rfl⟩
  have hD_b_is_whole_1 : ∀ (W : Wd) (H : Hp), RVs K W H [.int 0] _ := fun _ _ => .cons (.int _) (.nil)
  obtain ⟨fd_slots_in, FD_slots_in, F_slots_in⟩ := ok_slots_in (P := P) (base := base) T
  have mg_slots_in := T.glo 11 (x := "slots_in") rfl
  have b_slots_in_2 : L2.Binds K fd_slots_in ["layout", "number"] [] := FD_slots_in.bindsN fun _ _ _ _ _ _ us hl => match us, hl with | [_, _], _ => rfl
  have hd_b_slots_in_2 : Vals [] [] := .nil
  have hD_b_slots_in_2 : ∀ (W : Wd) (H : Hp), RVs K W H [] [] := fun _ _ => .nil
  have mg_InvalidSpot := T.glo 52 (x := "InvalidSpot") rfl
  have ex_InvalidSpot := He.exc_ok (T.fact 57 (f := .exc "InvalidSpot") rfl)
  refine ⟨fd, FD, fn_ok (ga := He.ga K) (t := p_need_spot) FD sc_need_spot (fun cdv A outer s H E hr hgd => ?_) conf_need_spot⟩
  have hu := hr.units
  have hr_1 : Room 1 _ := hr.mono (by decide : 1 ≤ 1)
  exact (wss_one (ws_if (wt_bool (wt_or (wt_not (wt_val (we_call (n := 2) (D := [.int 0]) (F_is_whole.mono (by decide)) hr_1 hgd rfl mg_is_whole FD_is_whole.kp b_is_whole_1 hd_b_is_whole_1 hD_b_is_whole_1 (takes_of rfl rfl rfl rfl) (wa_cons (we_var (pv 1)) wa_nil)))) (wt_or1 (wt_cmp (op_eqU hu) (we_call (n := 2) (D := []) (F_slots_in.mono (by decide)) hr_1 hgd rfl mg_slots_in FD_slots_in.kp b_slots_in_2 hd_b_slots_in_2 hD_b_slots_in_2 (takes_of rfl rfl rfl rfl) (wa_cons (we_var (pv 0)) (wa_cons (we_bin op_fdivU (we_var (pv 1)) (we_ix ix_U (we_var (pv 0)) we_int (fun _ _ => rfl))) wa_nil))) (we_lst wa_nil) (nomark _))))) (wss_one (ws_raise rfl (takes_of rfl rfl rfl rfl) ex_InvalidSpot.1 mg_InvalidSpot ex_InvalidSpot.2.1 (raises_own ex_InvalidSpot.2.2.1 ex_InvalidSpot.2.2.2) rfl)) wss_nil))


theorem ok_spot_owner [WW] {P : Program} {K : PySem.W.Frag} {mg : Str → Option Value} {base : Heap} (T : Tx fas css fns K mg) : ∃ fd, FunD K "spot_owner" "spot_owner" (defArgs s_spot_owner) (defBody s_spot_owner) (defScope s_spot_owner) [] [] (He.ga K "spot_owner") fd ∧ FnG P WW.w K mg base 1 (He.ga K "spot_owner") fd ["layout", "spot"] (spF K (He.ga K) 2 sp_spot_owner) := by
  obtain ⟨fd, FD⟩ := T.def_ 19 (d := d_spot_owner) rfl
  have FD : FunD K "spot_owner" "spot_owner" (defArgs s_spot_owner) (defBody s_spot_owner) (defScope s_spot_owner) [] [] (He.ga K "spot_owner") fd := FD
  refine ⟨fd, FD, fn_ok (ga := He.ga K) (t := p_spot_owner) FD sc_spot_owner (fun cdv A outer s H E hr hgd => ?_) conf_spot_owner⟩
  have hu := hr.units
  exact (wss_cons (ws_asg (we_var (pv 0)) (wg_tup rfl rfl (ks := [2, 3, 4, 5, 6, 7]) (pgs_cons (pg_name (i := 2) sc_spot_owner.nd rfl (by first | exact Or.inl rfl | exact Or.inr rfl)) (pgs_cons (pg_name (i := 3) sc_spot_owner.nd rfl (by first | exact Or.inl rfl | exact Or.inr rfl)) (pgs_cons (pg_name (i := 4) sc_spot_owner.nd rfl (by first | exact Or.inl rfl | exact Or.inr rfl)) (pgs_cons (pg_name (i := 5) sc_spot_owner.nd rfl (by first | exact Or.inl rfl | exact Or.inr rfl)) (pgs_cons (pg_name (i := 6) sc_spot_owner.nd rfl (by first | exact Or.inl rfl | exact Or.inr rfl)) (pgs_cons (pg_name (i := 7) sc_spot_owner.nd rfl (by first | exact Or.inl rfl | exact Or.inr rfl)) pgs_nil))))))))
    (wss_cons (ws_asg (we_callB (call_divmodU rfl) rfl (T.free 46) (by decide +kernel) (wa_cons (we_bin op_subU (we_var (pv 1)) (we_var (pv 6))) (wa_cons (we_bin op_addU (we_var (pv 3)) (we_var (pv 4))) wa_nil))) (wg_tup rfl rfl (ks := [8, 9]) (pgs_cons (pg_name (i := 8) sc_spot_owner.nd rfl (by first | exact Or.inl rfl | exact Or.inr rfl)) (pgs_cons (pg_name (i := 9) sc_spot_owner.nd rfl (by first | exact Or.inl rfl | exact Or.inr rfl)) pgs_nil))))
    (wss_cons (ws_if (wt_bool (wt_or (wt_cmp op_ltU (we_var (pv 8)) we_int (nomark _)) (wt_or1 (wt_cmp op_geU (we_var (pv 8)) (we_var (pv 7)) (nomark _))))) (wss_one (ws_ret we_str)) wss_nil)
    (wss_cons (ws_if (wt_cmp op_ltU (we_var (pv 9)) (we_var (pv 3)) (nomark _)) (wss_one (ws_ret (we_var (pv 8)))) wss_nil)
    (wss_cons (ws_if (wt_bool (wt_or (wt_val (we_var (pv 5))) (wt_or1 (wt_cmp (op_eqU hu) (we_var (pv 8)) (we_bin op_subU (we_var (pv 7)) we_int) (nomark _))))) (wss_one (ws_ret we_str)) wss_nil)
    (wss_one (ws_ret we_str)))))))


theorem ok_owner [WW] {P : Program} {K : PySem.W.Frag} {mg : Str → Option Value} {base : Heap} (T : Tx fas css fns K mg) : ∃ fd, FunD K "owner" "owner" (defArgs s_owner) (defBody s_owner) (defScope s_owner) [] [] (He.ga K "owner") fd ∧ FnG P WW.w K mg base 5 (He.ga K "owner") fd ["layout", "spot"] (spF K (He.ga K) 2 sp_owner) := by
  obtain ⟨fd, FD⟩ := T.def_ 20 (d := d_owner) rfl
  have FD : FunD K "owner" "owner" (defArgs s_owner) (defBody s_owner) (defScope s_owner) [] [] (He.ga K "owner") fd := FD
  obtain ⟨fd_need_layout, FD_need_layout, F_need_layout⟩ := ok_need_layout (P := P) (base := base) T
  have mg_need_layout := T.glo 9 (x := "need_layout") rfl
  have b_need_layout_1 : L2.Binds K fd_need_layout ["layout"] [] := FD_need_layout.bindsN fun _ _ _ _ _ _ us hl => match us, hl with | [_], _ => rfl
  have hd_b_need_layout_1 : Vals [] [] := .nil
  have hD_b_need_layout_1 : ∀ (W : Wd) (H : Hp), RVs K W H [] [] := fun _ _ => .nil
  obtain ⟨fd_need_spot, FD_need_spot, F_need_spot⟩ := ok_need_spot (P := P) (base := base) T
  have mg_need_spot := T.glo 18 (x := "need_spot") rfl
  have b_need_spot_2 : L2.Binds K fd_need_spot ["layout", "spot"] [] := FD_need_spot.bindsN fun _ _ _ _ _ _ us hl => match us, hl with | [_, _], _ => rfl
  have hd_b_need_spot_2 : Vals [] [] := .nil
  have hD_b_need_spot_2 : ∀ (W : Wd) (H : Hp), RVs K W H [] [] := fun _ _ => .nil
  obtain ⟨fd_spot_owner, FD_spot_owner, F_spot_owner⟩ := ok_spot_owner (P := P) (base := base) T
  have mg_spot_owner := T.glo 19 (x := "spot_owner") rfl
  have b_spot_owner_2 : L2.Binds K fd_spot_owner ["layout", "spot"] [] := FD_spot_owner.bindsN fun _ _ _ _ _ _ us hl => match us, hl with | [_, _], _ => rfl
  have hd_b_spot_owner_2 : Vals [] [] := .nil
  have hD_b_spot_owner_2 : ∀ (W : Wd) (H : Hp), RVs K W H [] [] := fun _ _ => .nil
  refine ⟨fd, FD, fn_ok (ga := He.ga K) (t := p_owner) FD sc_owner (fun cdv A outer s H E hr hgd => ?_) conf_owner⟩
  have hu := hr.units
  have hr_1 : Room 4 _ := hr.mono (by decide : 4 ≤ 4)
  have hr_2 : Room 4 _ := hr.mono (by decide : 4 ≤ 4)
  have hr_4 : Room 4 _ := hr.mono (by decide : 4 ≤ 4)
  exact (wss_cons (ws_expr (we_call (n := 1) (D := []) (F_need_layout.mono (by decide)) hr_4 hgd rfl mg_need_layout FD_need_layout.kp b_need_layout_1 hd_b_need_layout_1 hD_b_need_layout_1 (takes_of rfl rfl rfl rfl) (wa_cons (we_var (pv 0)) wa_nil)))
    (wss_cons (ws_expr (we_call (n := 2) (D := []) (F_need_spot.mono (by decide)) hr_2 hgd rfl mg_need_spot FD_need_spot.kp b_need_spot_2 hd_b_need_spot_2 hD_b_need_spot_2 (takes_of rfl rfl rfl rfl) (wa_cons (we_var (pv 0)) (wa_cons (we_var (pv 1)) wa_nil))))
    (wss_one (ws_ret (we_call (n := 2) (D := []) (F_spot_owner.mono (by decide)) hr_1 hgd rfl mg_spot_owner FD_spot_owner.kp b_spot_owner_2 hd_b_spot_owner_2 hD_b_spot_owner_2 (takes_of rfl rfl rfl rfl) (wa_cons (we_var (pv 0)) (wa_cons (we_var (pv 1)) wa_nil)))))))


theorem ok_need_line [WW] {P : Program} {K : PySem.W.Frag} {mg : Str → Option Value} {base : Heap} (T : Tx fas css fns K mg) : ∃ fd, FunD K "need_line" "need_line" (defArgs s_need_line) (defBody s_need_line) (defScope s_need_line) [] [] (He.ga K "need_line") fd ∧ FnG P WW.w K mg base 2 (He.ga K "need_line") fd ["layout", "number"] (spF K (He.ga K) 2 sp_need_line) := by
  obtain ⟨fd, FD⟩ := T.def_ 21 (d := d_need_line) rfl
  have FD : FunD K "need_line" "need_line" (defArgs s_need_line) (defBody s_need_line) (defScope s_need_line) [] [] (He.ga K "need_line") fd := FD
  obtain ⟨fd_is_whole, FD_is_whole, F_is_whole⟩ := ok_is_whole (P := P) (base := base) T
  have mg_is_whole := T.glo 4 (x := "is_whole") rfl
  obtain ⟨ds_b_is_whole_1, hd_b_is_whole_1, b_is_whole_1⟩ := FD_is_whole.binds1 (ps := ["value", "least"]) 1 0 (by simp) rfl fun _ _ _ _ _ _ _ us its h1 h2 => match us, its, h1, h2 with | [_], [_], _, _ => ⟨_, rfl, rfl⟩
  have hD_b_is_whole_1 : ∀ (W : Wd) (H : Hp), RVs K W H [.int 0] _ := fun _ _ => .cons (.int _) (.nil)
  obtain ⟨fd_slots_in, FD_slots_in, F_slots_in⟩ := ok_slots_in (P := P) (base := base) T
  have mg_slots_in := T.glo 11 (x := "slots_in") rfl
  have b_slots_in_2 : L2.Binds K fd_slots_in ["layout", "number"] [] := FD_slots_in.bindsN fun _ _ _ _ _ _ us hl => match us, hl with | [_, _], _ => rfl
  have hd_b_slots_in_2 : Vals [] [] := .nil
  have hD_b_slots_in_2 : ∀ (W : Wd) (H : Hp), RVs K W H [] [] := fun _ _ => .nil
  have mg_InvalidLine := T.glo 49 (x := "InvalidLine") rfl
  have ex_InvalidLine := He.exc_ok (T.fact 54 (f := .exc "InvalidLine") rfl)
  refine ⟨fd, FD, fn_ok (ga := He.ga K) (t := p_need_line) FD sc_need_line (fun cdv A outer s H E hr hgd => ?_) conf_need_line⟩
  have hu := hr.units
  have hr_1 : Room 1 _ := hr.mono (by decide : 1 ≤ 1)
  exact (wss_one (ws_if (wt_bool (wt_or (wt_not (wt_val (we_call (n := 2) (D := [.int 0]) (F_is_whole.mono (by decide)) hr_1 hgd rfl mg_is_whole FD_is_whole.kp b_is_whole_1 hd_b_is_whole_1 hD_b_is_whole_1 (takes_of rfl rfl rfl rfl) (wa_cons (we_var (pv 1)) wa_nil)))) (wt_or1 (wt_cmp (op_eqU hu) (we_call (n := 2) (D := []) (F_slots_in.mono (by decide)) hr_1 hgd rfl mg_slots_in FD_slots_in.kp b_slots_in_2 hd_b_slots_in_2 hD_b_slots_in_2 (takes_of rfl rfl rfl rfl) (wa_cons (we_var (pv 0)) (wa_cons (we_var (pv 1)) wa_nil))) (we_lst wa_nil) (nomark _))))) (wss_one (ws_raise rfl (takes_of rfl rfl rfl rfl) ex_InvalidLine.1 mg_InvalidLine ex_InvalidLine.2.1 (raises_own ex_InvalidLine.2.2.1 ex_InvalidLine.2.2.2) rfl)) wss_nil))


theorem ok_slots_of [WW] {P : Program} {K : PySem.W.Frag} {mg : Str → Option Value} {base : Heap} (T : Tx fas css fns K mg) : ∃ fd, FunD K "slots_of" "slots_of" (defArgs s_slots_of) (defBody s_slots_of) (defScope s_slots_of) [] [] (He.ga K "slots_of") fd ∧ FnG P WW.w K mg base 5 (He.ga K "slots_of") fd ["layout", "number"] (spF K (He.ga K) 2 sp_slots_of) := by
  obtain ⟨fd, FD⟩ := T.def_ 22 (d := d_slots_of) rfl
  have FD : FunD K "slots_of" "slots_of" (defArgs s_slots_of) (defBody s_slots_of) (defScope s_slots_of) [] [] (He.ga K "slots_of") fd := FD
  obtain ⟨fd_need_layout, FD_need_layout, F_need_layout⟩ := ok_need_layout (P := P) (base := base) T
  have mg_need_layout := T.glo 9 (x := "need_layout") rfl
  have b_need_layout_1 : L2.Binds K fd_need_layout ["layout"] [] := FD_need_layout.bindsN fun _ _ _ _ _ _ us hl => match us, hl with | [_], _ => rfl
  have hd_b_need_layout_1 : Vals [] [] := .nil
  have hD_b_need_layout_1 : ∀ (W : Wd) (H : Hp), RVs K W H [] [] := fun _ _ => .nil
  obtain ⟨fd_need_line, FD_need_line, F_need_line⟩ := ok_need_line (P := P) (base := base) T
  have mg_need_line := T.glo 21 (x := "need_line") rfl
  have b_need_line_2 : L2.Binds K fd_need_line ["layout", "number"] [] := FD_need_line.bindsN fun _ _ _ _ _ _ us hl => match us, hl with | [_, _], _ => rfl
  have hd_b_need_line_2 : Vals [] [] := .nil
  have hD_b_need_line_2 : ∀ (W : Wd) (H : Hp), RVs K W H [] [] := fun _ _ => .nil
  obtain ⟨fd_slots_in, FD_slots_in, F_slots_in⟩ := ok_slots_in (P := P) (base := base) T
  have mg_slots_in := T.glo 11 (x := "slots_in") rfl
  have b_slots_in_2 : L2.Binds K fd_slots_in ["layout", "number"] [] := FD_slots_in.bindsN fun _ _ _ _ _ _ us hl => match us, hl with | [_, _], _ => rfl
  have hd_b_slots_in_2 : Vals [] [] := .nil
  have hD_b_slots_in_2 : ∀ (W : Wd) (H : Hp), RVs K W H [] [] := fun _ _ => .nil
  refine ⟨fd, FD, fn_ok (ga := He.ga K) (t := p_slots_of) FD sc_slots_of (fun cdv A outer s H E hr hgd => ?_) conf_slots_of⟩
  have hu := hr.units
  have hr_1 : Room 4 _ := hr.mono (by decide : 4 ≤ 4)
  have hr_2 : Room 4 _ := hr.mono (by decide : 4 ≤ 4)
  have hr_4 : Room 4 _ := hr.mono (by decide : 4 ≤ 4)
  exact (wss_cons (ws_expr (we_call (n := 1) (D := []) (F_need_layout.mono (by decide)) hr_4 hgd rfl mg_need_layout FD_need_layout.kp b_need_layout_1 hd_b_need_layout_1 hD_b_need_layout_1 (takes_of rfl rfl rfl rfl) (wa_cons (we_var (pv 0)) wa_nil)))
    (wss_cons (ws_expr (we_call (n := 2) (D := []) (F_need_line.mono (by decide)) hr_2 hgd rfl mg_need_line FD_need_line.kp b_need_line_2 hd_b_need_line_2 hD_b_need_line_2 (takes_of rfl rfl rfl rfl) (wa_cons (we_var (pv 0)) (wa_cons (we_var (pv 1)) wa_nil))))
    (wss_one (ws_ret (we_call (n := 2) (D := []) (F_slots_in.mono (by decide)) hr_1 hgd rfl mg_slots_in FD_slots_in.kp b_slots_in_2 hd_b_slots_in_2 hD_b_slots_in_2 (takes_of rfl rfl rfl rfl) (wa_cons (we_var (pv 0)) (wa_cons (we_var (pv 1)) wa_nil)))))))


theorem ok_pattern_of [WW] {P : Program} {K : PySem.W.Frag} {mg : Str → Option Value} {base : Heap} (T : Tx fas css fns K mg) : ∃ fd, FunD K "pattern_of" "pattern_of" (defArgs s_pattern_of) (defBody s_pattern_of) (defScope s_pattern_of) [] [] (He.ga K "pattern_of") fd ∧ FnG P WW.w K mg base 5 (He.ga K "pattern_of") fd ["layout", "number"] (spF K (He.ga K) 2 sp_pattern_of) := by
  obtain ⟨fd, FD⟩ := T.def_ 23 (d := d_pattern_of) rfl
  have FD : FunD K "pattern_of" "pattern_of" (defArgs s_pattern_of) (defBody s_pattern_of) (defScope s_pattern_of) [] [] (He.ga K "pattern_of") fd := FD
  obtain ⟨fd_line_pattern, FD_line_pattern, F_line_pattern⟩ := ok_line_pattern (P := P) (base := base) T
  have mg_line_pattern := T.glo 12 (x := "line_pattern") rfl
  have b_line_pattern_2 : L2.Binds K fd_line_pattern ["layout", "number"] [] := FD_line_pattern.bindsN fun _ _ _ _ _ _ us hl => match us, hl with | [_, _], _ => rfl
  have hd_b_line_pattern_2 : Vals [] [] := .nil
  have hD_b_line_pattern_2 : ∀ (W : Wd) (H : Hp), RVs K W H [] [] := fun _ _ => .nil
  obtain ⟨fd_need_layout, FD_need_layout, F_need_layout⟩ := ok_need_layout (P := P) (base := base) T
  have mg_need_layout := T.glo 9 (x := "need_layout") rfl
  have b_need_layout_1 : L2.Binds K fd_need_layout ["layout"] [] := FD_need_layout.bindsN fun _ _ _ _ _ _ us hl => match us, hl with | [_], _ => rfl
  have hd_b_need_layout_1 : Vals [] [] := .nil
  have hD_b_need_layout_1 : ∀ (W : Wd) (H : Hp), RVs K W H [] [] := fun _ _ => .nil
  obtain ⟨fd_need_line, FD_need_line, F_need_line⟩ := ok_need_line (P := P) (base := base) T
  have mg_need_line := T.glo 21 (x := "need_line") rfl
  have b_need_line_2 : L2.Binds K fd_need_line ["layout", "number"] [] := FD_need_line.bindsN fun _ _ _ _ _ _ us hl => match us, hl with | [_, _], _ => rfl
  have hd_b_need_line_2 : Vals [] [] := .nil
  have hD_b_need_line_2 : ∀ (W : Wd) (H : Hp), RVs K W H [] [] := fun _ _ => .nil
  refine ⟨fd, FD, fn_ok (ga := He.ga K) (t := p_pattern_of) FD sc_pattern_of (fun cdv A outer s H E hr hgd => ?_) conf_pattern_of⟩
  have hu := hr.units
  have hr_2 : Room 4 _ := hr.mono (by decide : 4 ≤ 4)
  have hr_4 : Room 4 _ := hr.mono (by decide : 4 ≤ 4)
  exact (wss_cons (ws_expr (we_call (n := 1) (D := []) (F_need_layout.mono (by decide)) hr_4 hgd rfl mg_need_layout FD_need_layout.kp b_need_layout_1 hd_b_need_layout_1 hD_b_need_layout_1 (takes_of rfl rfl rfl rfl) (wa_cons (we_var (pv 0)) wa_nil)))
    (wss_cons (ws_expr (we_call (n := 2) (D := []) (F_need_line.mono (by decide)) hr_2 hgd rfl mg_need_line FD_need_line.kp b_need_line_2 hd_b_need_line_2 hD_b_need_line_2 (takes_of rfl rfl rfl rfl) (wa_cons (we_var (pv 0)) (wa_cons (we_var (pv 1)) wa_nil))))
    (wss_one (ws_ret (we_call (n := 2) (D := []) (F_line_pattern.mono (by decide)) hr_2 hgd rfl mg_line_pattern FD_line_pattern.kp b_line_pattern_2 hd_b_line_pattern_2 hD_b_line_pattern_2 (takes_of rfl rfl rfl rfl) (wa_cons (we_var (pv 0)) (wa_cons (we_var (pv 1)) wa_nil)))))))


theorem ok_law_called [WW] {P : Program} {K : PySem.W.Frag} {mg : Str → Option Value} {base : Heap} (T : Tx fas css fns K mg) : ∃ fd, FunD K "_law_called" "_law_called" (defArgs s_law_called) (defBody s_law_called) (defScope s_law_called) [] [] (He.ga K "_law_called") fd ∧ FnG P WW.w K mg base 7 (He.ga K "_law_called") fd ["door", "ring", "thing"] (spF K (He.ga K) 3 sp_law_called) := by
  obtain ⟨fd, FD⟩ := T.def_ 24 (d := d_law_called) rfl
  have FD : FunD K "_law_called" "_law_called" (defArgs s_law_called) (defBody s_law_called) (defScope s_law_called) [] [] (He.ga K "_law_called") fd := FD
  obtain ⟨fd_first_spot, FD_first_spot, F_first_spot⟩ := ok_first_spot (P := P) (base := base) T
  have mg_first_spot := T.glo 17 (x := "first_spot") rfl
  have b_first_spot_2 : L2.Binds K fd_first_spot ["layout", "slot"] [] := FD_first_spot.bindsN fun _ _ _ _ _ _ us hl => match us, hl with | [_, _], _ => rfl
  have hd_b_first_spot_2 : Vals [] [] := .nil
  have hD_b_first_spot_2 : ∀ (W : Wd) (H : Hp), RVs K W H [] [] := fun _ _ => .nil
  obtain ⟨fd_lines_of, FD_lines_of, F_lines_of⟩ := ok_lines_of (P := P) (base := base) T
  have mg_lines_of := T.glo 10 (x := "lines_of") rfl
  have b_lines_of_1 : L2.Binds K fd_lines_of ["layout"] [] := FD_lines_of.bindsN fun _ _ _ _ _ _ us hl => match us, hl with | [_], _ => rfl
  have hd_b_lines_of_1 : Vals [] [] := .nil
  have hD_b_lines_of_1 : ∀ (W : Wd) (H : Hp), RVs K W H [] [] := fun _ _ => .nil
  obtain ⟨fd_owner, FD_owner, F_owner⟩ := ok_owner (P := P) (base := base) T
  have mg_owner := T.glo 20 (x := "owner") rfl
  have b_owner_2 : L2.Binds K fd_owner ["layout", "spot"] [] := FD_owner.bindsN fun _ _ _ _ _ _ us hl => match us, hl with | [_, _], _ => rfl
  have hd_b_owner_2 : Vals [] [] := .nil
  have hD_b_owner_2 : ∀ (W : Wd) (H : Hp), RVs K W H [] [] := fun _ _ => .nil
  obtain ⟨fd_pattern_of, FD_pattern_of, F_pattern_of⟩ := ok_pattern_of (P := P) (base := base) T
  have mg_pattern_of := T.glo 23 (x := "pattern_of") rfl
  have b_pattern_of_2 : L2.Binds K fd_pattern_of ["layout", "number"] [] := FD_pattern_of.bindsN fun _ _ _ _ _ _ us hl => match us, hl with | [_, _], _ => rfl
  have hd_b_pattern_of_2 : Vals [] [] := .nil
  have hD_b_pattern_of_2 : ∀ (W : Wd) (H : Hp), RVs K W H [] [] := fun _ _ => .nil
  obtain ⟨fd_places, FD_places, F_places⟩ := ok_places (P := P) (base := base) T
  have mg_places := T.glo 13 (x := "places") rfl
  have b_places_1 : L2.Binds K fd_places ["room"] [] := FD_places.bindsN fun _ _ _ _ _ _ us hl => match us, hl with | [_], _ => rfl
  have hd_b_places_1 : Vals [] [] := .nil
  have hD_b_places_1 : ∀ (W : Wd) (H : Hp), RVs K W H [] [] := fun _ _ => .nil
  obtain ⟨fd_slots_of, FD_slots_of, F_slots_of⟩ := ok_slots_of (P := P) (base := base) T
  have mg_slots_of := T.glo 22 (x := "slots_of") rfl
  have b_slots_of_2 : L2.Binds K fd_slots_of ["layout", "number"] [] := FD_slots_of.bindsN fun _ _ _ _ _ _ us hl => match us, hl with | [_, _], _ => rfl
  have hd_b_slots_of_2 : Vals [] [] := .nil
  have hD_b_slots_of_2 : ∀ (W : Wd) (H : Hp), RVs K W H [] [] := fun _ _ => .nil
  refine ⟨fd, FD, fn_ok (ga := He.ga K) (t := p_law_called) FD sc_law_called (fun cdv A outer s H E hr hgd => ?_) conf_law_called⟩
  have hu := hr.units
  have hr_5 : Room 6 _ := hr.mono (by decide : 6 ≤ 6)
  have hr_6 : Room 6 _ := hr.mono (by decide : 6 ≤ 6)
  exact (wss_cons (ws_if (wt_cmp (op_eqU hu) (we_var (pv 0)) we_int (nomark _)) (wss_one (ws_ret (we_call (n := 2) (D := []) (F_first_spot.mono (by decide)) hr_5 hgd rfl mg_first_spot FD_first_spot.kp b_first_spot_2 hd_b_first_spot_2 hD_b_first_spot_2 (takes_of rfl rfl rfl rfl) (wa_cons (we_var (pv 1)) (wa_cons (we_var (pv 2)) wa_nil))))) wss_nil)
    (wss_cons (ws_if (wt_cmp (op_eqU hu) (we_var (pv 0)) we_int (nomark _)) (wss_one (ws_ret (we_call (n := 2) (D := []) (F_owner.mono (by decide)) hr_5 hgd rfl mg_owner FD_owner.kp b_owner_2 hd_b_owner_2 hD_b_owner_2 (takes_of rfl rfl rfl rfl) (wa_cons (we_var (pv 1)) (wa_cons (we_var (pv 2)) wa_nil))))) wss_nil)
    (wss_cons (ws_if (wt_cmp (op_eqU hu) (we_var (pv 0)) we_int (nomark _)) (wss_one (ws_ret (we_call (n := 2) (D := []) (F_slots_of.mono (by decide)) hr_5 hgd rfl mg_slots_of FD_slots_of.kp b_slots_of_2 hd_b_slots_of_2 hD_b_slots_of_2 (takes_of rfl rfl rfl rfl) (wa_cons (we_var (pv 1)) (wa_cons (we_var (pv 2)) wa_nil))))) wss_nil)
    (wss_cons (ws_if (wt_cmp (op_eqU hu) (we_var (pv 0)) we_int (nomark _)) (wss_one (ws_ret (we_call (n := 2) (D := []) (F_pattern_of.mono (by decide)) hr_5 hgd rfl mg_pattern_of FD_pattern_of.kp b_pattern_of_2 hd_b_pattern_of_2 hD_b_pattern_of_2 (takes_of rfl rfl rfl rfl) (wa_cons (we_var (pv 1)) (wa_cons (we_var (pv 2)) wa_nil))))) wss_nil)
    (wss_cons (ws_if (wt_cmp (op_eqU hu) (we_var (pv 0)) we_int (nomark _)) (wss_one (ws_ret (we_call (n := 1) (D := []) (F_lines_of.mono (by decide)) hr_5 hgd rfl mg_lines_of FD_lines_of.kp b_lines_of_1 hd_b_lines_of_1 hD_b_lines_of_1 (takes_of rfl rfl rfl rfl) (wa_cons (we_var (pv 1)) wa_nil)))) wss_nil)
    (wss_one (ws_ret (we_call (n := 1) (D := []) (F_places.mono (by decide)) hr_6 hgd rfl mg_places FD_places.kp b_places_1 hd_b_places_1 hD_b_places_1 (takes_of rfl rfl rfl rfl) (wa_cons (we_var (pv 1)) wa_nil)))))))))


theorem ok_law_named [WW] {P : Program} {K : PySem.W.Frag} {mg : Str → Option Value} {base : Heap} (T : Tx fas css fns K mg) : ∃ fd, FunD K "_law_named" "_law_named" (defArgs s_law_named) (defBody s_law_named) (defScope s_law_named) [] [] (He.ga K "_law_named") fd ∧ FnG P WW.w K mg base 7 (He.ga K "_law_named") fd ["door", "ring", "thing"] (spF K (He.ga K) 3 sp_law_named) := by
  obtain ⟨fd, FD⟩ := T.def_ 25 (d := d_law_named) rfl
  have FD : FunD K "_law_named" "_law_named" (defArgs s_law_named) (defBody s_law_named) (defScope s_law_named) [] [] (He.ga K "_law_named") fd := FD
  obtain ⟨fd_first_spot, FD_first_spot, F_first_spot⟩ := ok_first_spot (P := P) (base := base) T
  have mg_first_spot := T.glo 17 (x := "first_spot") rfl
  have k_first_spot_0_slot_layout : KBn K fd_first_spot ["layout", "slot"] 0 ["slot", "layout"] (fun us ws => [ws.getD 1 .none, ws.getD 0 .none]) (fun us ws => [ws.getD 1 .non, ws.getD 0 .non]) := by
    obtain ⟨oc, od, dV, kV, doc, pm, an, cdv, ct, osl, e, lk, hcd, hD, _⟩ := FD_first_spot.ex
    rcases hD with ⟨_, z⟩ | ⟨z, _⟩
    · subst e z
      refine ⟨fun s us ws _ l1 l2 => ?_, fun r1 r2 => ?_⟩
      · match us, ws, l1, l2 with
        | [], [w0, w1], _, _ => exact .of_eq rfl
      · exact .cons (vals_getD r2 1) (.cons (vals_getD r2 0) (.nil))
    · exact absurd rfl z
  have k_first_spot_0_slot_layout_U : ∀ {W : Wd} {H : Hp} {us ws : List U} {vs zs : List V}, RVs K W H us vs → RVs K W H ws zs → us.length = 0 → ws.length = 2 → RVs K W H ((fun us ws => [ws.getD 1 .non, ws.getD 0 .non]) us ws) ((fun us ws => [ws.getD 1 .non, ws.getD 0 .non]) vs zs) := fun r1 r2 _ _ => .cons (rvs_getD r2 1) (.cons (rvs_getD r2 0) (.nil))
  obtain ⟨fd_lines_of, FD_lines_of, F_lines_of⟩ := ok_lines_of (P := P) (base := base) T
  have mg_lines_of := T.glo 10 (x := "lines_of") rfl
  have k_lines_of_0_layout : KBn K fd_lines_of ["layout"] 0 ["layout"] (fun us ws => [ws.getD 0 .none]) (fun us ws => [ws.getD 0 .non]) := by
    obtain ⟨oc, od, dV, kV, doc, pm, an, cdv, ct, osl, e, lk, hcd, hD, _⟩ := FD_lines_of.ex
    rcases hD with ⟨_, z⟩ | ⟨z, _⟩
    · subst e z
      refine ⟨fun s us ws _ l1 l2 => ?_, fun r1 r2 => ?_⟩
      · match us, ws, l1, l2 with
        | [], [w0], _, _ => exact .of_eq rfl
      · exact .cons (vals_getD r2 0) (.nil)
    · exact absurd rfl z
  have k_lines_of_0_layout_U : ∀ {W : Wd} {H : Hp} {us ws : List U} {vs zs : List V}, RVs K W H us vs → RVs K W H ws zs → us.length = 0 → ws.length = 1 → RVs K W H ((fun us ws => [ws.getD 0 .non]) us ws) ((fun us ws => [ws.getD 0 .non]) vs zs) := fun r1 r2 _ _ => .cons (rvs_getD r2 0) (.nil)
  obtain ⟨fd_owner, FD_owner, F_owner⟩ := ok_owner (P := P) (base := base) T
  have mg_owner := T.glo 20 (x := "owner") rfl
  have k_owner_0_spot_layout : KBn K fd_owner ["layout", "spot"] 0 ["spot", "layout"] (fun us ws => [ws.getD 1 .none, ws.getD 0 .none]) (fun us ws => [ws.getD 1 .non, ws.getD 0 .non]) := by
    obtain ⟨oc, od, dV, kV, doc, pm, an, cdv, ct, osl, e, lk, hcd, hD, _⟩ := FD_owner.ex
    rcases hD with ⟨_, z⟩ | ⟨z, _⟩
    · subst e z
      refine ⟨fun s us ws _ l1 l2 => ?_, fun r1 r2 => ?_⟩
      · match us, ws, l1, l2 with
        | [], [w0, w1], _, _ => exact .of_eq rfl
      · exact .cons (vals_getD r2 1) (.cons (vals_getD r2 0) (.nil))
    · exact absurd rfl z
  have k_owner_0_spot_layout_U : ∀ {W : Wd} {H : Hp} {us ws : List U} {vs zs : List V}, RVs K W H us vs → RVs K W H ws zs → us.length = 0 → ws.length = 2 → RVs K W H ((fun us ws => [ws.getD 1 .non, ws.getD 0 .non]) us ws) ((fun us ws => [ws.getD 1 .non, ws.getD 0 .non]) vs zs) := fun r1 r2 _ _ => .cons (rvs_getD r2 1) (.cons (rvs_getD r2 0) (.nil))
  obtain ⟨fd_pattern_of, FD_pattern_of, F_pattern_of⟩ := ok_pattern_of (P := P) (base := base) T
  have mg_pattern_of := T.glo 23 (x := "pattern_of") rfl
  have k_pattern_of_0_number_layout : KBn K fd_pattern_of ["layout", "number"] 0 ["number", "layout"] (fun us ws => [ws.getD 1 .none, ws.getD 0 .none]) (fun us ws => [ws.getD 1 .non, ws.getD 0 .non]) := by
    obtain ⟨oc, od, dV, kV, doc, pm, an, cdv, ct, osl, e, lk, hcd, hD, _⟩ := FD_pattern_of.ex
    rcases hD with ⟨_, z⟩ | ⟨z, _⟩
    · subst e z
      refine ⟨fun s us ws _ l1 l2 => ?_, fun r1 r2 => ?_⟩
      · match us, ws, l1, l2 with
        | [], [w0, w1], _, _ => exact .of_eq rfl
      · exact .cons (vals_getD r2 1) (.cons (vals_getD r2 0) (.nil))
    · exact absurd rfl z
  have k_pattern_of_0_number_layout_U : ∀ {W : Wd} {H : Hp} {us ws : List U} {vs zs : List V}, RVs K W H us vs → RVs K W H ws zs → us.length = 0 → ws.length = 2 → RVs K W H ((fun us ws => [ws.getD 1 .non, ws.getD 0 .non]) us ws) ((fun us ws => [ws.getD 1 .non, ws.getD 0 .non]) vs zs) := fun r1 r2 _ _ => .cons (rvs_getD r2 1) (.cons (rvs_getD r2 0) (.nil))
  obtain ⟨fd_places, FD_places, F_places⟩ := ok_places (P := P) (base := base) T
  have mg_places := T.glo 13 (x := "places") rfl
  have k_places_0_room : KBn K fd_places ["room"] 0 ["room"] (fun us ws => [ws.getD 0 .none]) (fun us ws => [ws.getD 0 .non]) := by
    obtain ⟨oc, od, dV, kV, doc, pm, an, cdv, ct, osl, e, lk, hcd, hD, _⟩ := FD_places.ex
    rcases hD with ⟨_, z⟩ | ⟨z, _⟩
    · subst e z
      refine ⟨fun s us ws _ l1 l2 => ?_, fun r1 r2 => ?_⟩
      · match us, ws, l1, l2 with
        | [], [w0], _, _ => exact .of_eq rfl
      · exact .cons (vals_getD r2 0) (.nil)
    · exact absurd rfl z
  have k_places_0_room_U : ∀ {W : Wd} {H : Hp} {us ws : List U} {vs zs : List V}, RVs K W H us vs → RVs K W H ws zs → us.length = 0 → ws.length = 1 → RVs K W H ((fun us ws => [ws.getD 0 .non]) us ws) ((fun us ws => [ws.getD 0 .non]) vs zs) := fun r1 r2 _ _ => .cons (rvs_getD r2 0) (.nil)
  obtain ⟨fd_slots_of, FD_slots_of, F_slots_of⟩ := ok_slots_of (P := P) (base := base) T
  have mg_slots_of := T.glo 22 (x := "slots_of") rfl
  have k_slots_of_0_number_layout : KBn K fd_slots_of ["layout", "number"] 0 ["number", "layout"] (fun us ws => [ws.getD 1 .none, ws.getD 0 .none]) (fun us ws => [ws.getD 1 .non, ws.getD 0 .non]) := by
    obtain ⟨oc, od, dV, kV, doc, pm, an, cdv, ct, osl, e, lk, hcd, hD, _⟩ := FD_slots_of.ex
    rcases hD with ⟨_, z⟩ | ⟨z, _⟩
    · subst e z
      refine ⟨fun s us ws _ l1 l2 => ?_, fun r1 r2 => ?_⟩
      · match us, ws, l1, l2 with
        | [], [w0, w1], _, _ => exact .of_eq rfl
      · exact .cons (vals_getD r2 1) (.cons (vals_getD r2 0) (.nil))
    · exact absurd rfl z
  have k_slots_of_0_number_layout_U : ∀ {W : Wd} {H : Hp} {us ws : List U} {vs zs : List V}, RVs K W H us vs → RVs K W H ws zs → us.length = 0 → ws.length = 2 → RVs K W H ((fun us ws => [ws.getD 1 .non, ws.getD 0 .non]) us ws) ((fun us ws => [ws.getD 1 .non, ws.getD 0 .non]) vs zs) := fun r1 r2 _ _ => .cons (rvs_getD r2 1) (.cons (rvs_getD r2 0) (.nil))
  refine ⟨fd, FD, fn_ok (ga := He.ga K) (t := p_law_named) FD sc_law_named (fun cdv A outer s H E hr hgd => ?_) conf_law_named⟩
  have hu := hr.units
  have hr_5 : Room 6 _ := hr.mono (by decide : 6 ≤ 6)
  have hr_6 : Room 6 _ := hr.mono (by decide : 6 ≤ 6)
  exact (wss_cons (ws_if (wt_cmp (op_eqU hu) (we_var (pv 0)) we_int (nomark _)) (wss_one (ws_ret (we_callK0 (F_first_spot.mono (by decide)) hr_5 hgd rfl mg_first_spot FD_first_spot.kp k_first_spot_0_slot_layout k_first_spot_0_slot_layout_U rfl (takes_of rfl rfl rfl rfl) (wk_cons (we_var (pv 2)) (wk_cons (we_var (pv 1)) wk_nil))))) wss_nil)
    (wss_cons (ws_if (wt_cmp (op_eqU hu) (we_var (pv 0)) we_int (nomark _)) (wss_one (ws_ret (we_callK0 (F_owner.mono (by decide)) hr_5 hgd rfl mg_owner FD_owner.kp k_owner_0_spot_layout k_owner_0_spot_layout_U rfl (takes_of rfl rfl rfl rfl) (wk_cons (we_var (pv 2)) (wk_cons (we_var (pv 1)) wk_nil))))) wss_nil)
    (wss_cons (ws_if (wt_cmp (op_eqU hu) (we_var (pv 0)) we_int (nomark _)) (wss_one (ws_ret (we_callK0 (F_slots_of.mono (by decide)) hr_5 hgd rfl mg_slots_of FD_slots_of.kp k_slots_of_0_number_layout k_slots_of_0_number_layout_U rfl (takes_of rfl rfl rfl rfl) (wk_cons (we_var (pv 2)) (wk_cons (we_var (pv 1)) wk_nil))))) wss_nil)
    (wss_cons (ws_if (wt_cmp (op_eqU hu) (we_var (pv 0)) we_int (nomark _)) (wss_one (ws_ret (we_callK0 (F_pattern_of.mono (by decide)) hr_5 hgd rfl mg_pattern_of FD_pattern_of.kp k_pattern_of_0_number_layout k_pattern_of_0_number_layout_U rfl (takes_of rfl rfl rfl rfl) (wk_cons (we_var (pv 2)) (wk_cons (we_var (pv 1)) wk_nil))))) wss_nil)
    (wss_cons (ws_if (wt_cmp (op_eqU hu) (we_var (pv 0)) we_int (nomark _)) (wss_one (ws_ret (we_callK0 (F_lines_of.mono (by decide)) hr_5 hgd rfl mg_lines_of FD_lines_of.kp k_lines_of_0_layout k_lines_of_0_layout_U rfl (takes_of rfl rfl rfl rfl) (wk_cons (we_var (pv 1)) wk_nil)))) wss_nil)
    (wss_one (ws_ret (we_callK0 (F_places.mono (by decide)) hr_6 hgd rfl mg_places FD_places.kp k_places_0_room k_places_0_room_U rfl (takes_of rfl rfl rfl rfl) (wk_cons (we_var (pv 1)) wk_nil)))))))))


theorem ok_law_refused [WW] {P : Program} {K : PySem.W.Frag} {mg : Str → Option Value} {base : Heap} (T : Tx fas css fns K mg) : ∃ fd, FunD K "_law_refused" "_law_refused" (defArgs s_law_refused) (defBody s_law_refused) (defScope s_law_refused) [] [] (He.ga K "_law_refused") fd ∧ FnG P WW.w K mg base 8 (He.ga K "_law_refused") fd ["named", "door", "ring", "thing"] (spF K (He.ga K) 4 sp_law_refused) := by
  obtain ⟨fd, FD⟩ := T.def_ 26 (d := d_law_refused) rfl
  have FD : FunD K "_law_refused" "_law_refused" (defArgs s_law_refused) (defBody s_law_refused) (defScope s_law_refused) [] [] (He.ga K "_law_refused") fd := FD
  obtain ⟨fd_law_called, FD_law_called, F_law_called⟩ := ok_law_called (P := P) (base := base) T
  have mg_law_called := T.glo 24 (x := "_law_called") rfl
  have b_law_called_3 : L2.Binds K fd_law_called ["door", "ring", "thing"] [] := FD_law_called.bindsN fun _ _ _ _ _ _ us hl => match us, hl with | [_, _, _], _ => rfl
  have hd_b_law_called_3 : Vals [] [] := .nil
  have hD_b_law_called_3 : ∀ (W : Wd) (H : Hp), RVs K W H [] [] := fun _ _ => .nil
  obtain ⟨fd_law_named, FD_law_named, F_law_named⟩ := ok_law_named (P := P) (base := base) T
  have mg_law_named := T.glo 25 (x := "_law_named") rfl
  have b_law_named_3 : L2.Binds K fd_law_named ["door", "ring", "thing"] [] := FD_law_named.bindsN fun _ _ _ _ _ _ us hl => match us, hl with | [_, _, _], _ => rfl
  have hd_b_law_named_3 : Vals [] [] := .nil
  have hD_b_law_named_3 : ∀ (W : Wd) (H : Hp), RVs K W H [] [] := fun _ _ => .nil
  have el_InvalidLayout := T.ecl 4 (x := "InvalidLayout") rfl
  have el_InvalidLine := T.ecl 1 (x := "InvalidLine") rfl
  have el_InvalidRoom := T.ecl 0 (x := "InvalidRoom") rfl
  have el_InvalidSlot := T.ecl 3 (x := "InvalidSlot") rfl
  have el_InvalidSpot := T.ecl 2 (x := "InvalidSpot") rfl
  have el_SlotError := T.ecl 5 (x := "SlotError") rfl
  refine ⟨fd, FD, fn_ok (ga := He.ga K) (t := p_law_refused) FD sc_law_refused (fun cdv A outer s H E hr hgd => ?_) conf_law_refused⟩
  have hu := hr.units
  have hr_7 : Room 7 _ := hr.mono (by decide : 7 ≤ 7)
  exact (wss_cons (ws_set (ps_set (i := 4) sc_law_refused.nd rfl (by first | exact Or.inl rfl | exact Or.inr rfl) we_non))
    (wss_cons (ws_try (i := 5) (j := 4) (by intro x hx; simp only [List.mem_cons, List.not_mem_nil, or_false] at hx; rcases hx with rfl | rfl | rfl | rfl | rfl <;> first | exact el_InvalidLayout.1 | exact el_InvalidLine.1 | exact el_InvalidRoom.1 | exact el_InvalidSlot.1 | exact el_InvalidSpot.1) rfl rfl rfl rfl rfl sc_law_refused.nd rfl rfl ⟨rfl, by decide, .inl el_SlotError.2⟩ (takes_of rfl rfl rfl rfl) (fun W pn xe tk _ => (wss_one (ws_if (wt_val (we_var (pv 0))) (wss_one (ws_expr (we_call (n := 3) (D := []) (F_law_named.mono (by decide)) hr_7 hgd rfl mg_law_named FD_law_named.kp b_law_named_3 hd_b_law_named_3 hD_b_law_named_3 tk (wa_cons (we_var (pv 1)) (wa_cons (we_var (pv 2)) (wa_cons (we_var (pv 3)) wa_nil)))))) (wss_one (ws_expr (we_call (n := 3) (D := []) (F_law_called.mono (by decide)) hr_7 hgd rfl mg_law_called FD_law_called.kp b_law_called_3 hd_b_law_called_3 hD_b_law_called_3 tk (wa_cons (we_var (pv 1)) (wa_cons (we_var (pv 2)) (wa_cons (we_var (pv 3)) wa_nil))))))))) (fun a oe cls d pn => pss_one (ps_set (i := 4) sc_law_refused.nd rfl (by first | exact Or.inl rfl | exact Or.inr rfl) (pv 5))))
    (wss_cons (ws_if (wt_cmp op_isNU (we_var (pv 4)) we_non (nomark _)) (wss_one (ws_ret (we_lst wa_nil))) wss_nil)
    (wss_cons (ws_set (ps_set (i := 6) sc_law_refused.nd rfl (by first | exact Or.inl rfl | exact Or.inr rfl) (we_lst (wa_cons (we_callB call_iseU rfl (T.free 37) (by decide +kernel) (wa_cons (we_var (pv 4)) (wa_cons (we_ecl el_InvalidLayout rfl) wa_nil))) (wa_cons (we_callB call_iseU rfl (T.free 37) (by decide +kernel) (wa_cons (we_var (pv 4)) (wa_cons (we_ecl el_InvalidSlot rfl) wa_nil))) (wa_cons (we_callB call_iseU rfl (T.free 37) (by decide +kernel) (wa_cons (we_var (pv 4)) (wa_cons (we_ecl el_InvalidSpot rfl) wa_nil))) wa_nil))))))
    (wss_cons (ws_set (ps_set (i := 6) sc_law_refused.nd rfl (by first | exact Or.inl rfl | exact Or.inr rfl) (we_bin op_addU (we_var (pv 6)) (we_lst (wa_cons (we_callB call_iseU rfl (T.free 37) (by decide +kernel) (wa_cons (we_var (pv 4)) (wa_cons (we_ecl el_InvalidLine rfl) wa_nil))) (wa_cons (we_callB call_iseU rfl (T.free 37) (by decide +kernel) (wa_cons (we_var (pv 4)) (wa_cons (we_ecl el_InvalidRoom rfl) wa_nil))) wa_nil))))))
    (wss_one (ws_ret (we_lc rfl sc_law_refused.nd (wi_range1 rfl (T.free 40) (wa_cons we_int wa_nil)) (own := [("k", 7)]) (blkOk_by (N := N_law_refused) (sc := (defScope s_law_refused)) (by decide +kernel)) (by decide) (fun _ _ _ _ _ => (wg_name (pg_name (i := 7) sc_law_refused.nd rfl (by first | exact Or.inl rfl | exact Or.inr rfl)))) (fun _ _ _ _ _ => (wts_one (wt_val (we_ix ix_U (we_var (pv 6)) (we_var (pv 7)) (fun _ _ => rfl))))) (fun _ _ _ _ _ => (we_ix ix_U (we_lst (wa_cons we_str (wa_cons we_str (wa_cons we_str (wa_cons we_str (wa_cons we_str wa_nil)))))) (we_var (pv 7)) (fun _ _ => rfl)))))))))))


theorem ok_law_room_holds [WW] {P : Program} {K : PySem.W.Frag} {mg : Str → Option Value} {base : Heap} (T : Tx fas css fns K mg) : ∃ fd, FunD K "_law_room_holds" "_law_room_holds" (defArgs s_law_room_holds) (defBody s_law_room_holds) (defScope s_law_room_holds) [] [] (He.ga K "_law_room_holds") fd ∧ FnG P WW.w K mg base 9 (He.ga K "_law_room_holds") fd ["pot", "space"] (spF K (He.ga K) 2 sp_law_room_holds) := by
  obtain ⟨fd, FD⟩ := T.def_ 27 (d := d_law_room_holds) rfl
  have FD : FunD K "_law_room_holds" "_law_room_holds" (defArgs s_law_room_holds) (defBody s_law_room_holds) (defScope s_law_room_holds) [] [] (He.ga K "_law_room_holds") fd := FD
  obtain ⟨fd_law_bad_room, FD_law_bad_room, F_law_bad_room⟩ := ok_law_bad_room (P := P) (base := base) T
  have mg_law_bad_room := T.glo 14 (x := "_law_bad_room") rfl
  have b_law_bad_room_2 : L2.Binds K fd_law_bad_room ["pot", "space"] [] := FD_law_bad_room.bindsN fun _ _ _ _ _ _ us hl => match us, hl with | [_, _], _ => rfl
  have hd_b_law_bad_room_2 : Vals [] [] := .nil
  have hD_b_law_bad_room_2 : ∀ (W : Wd) (H : Hp), RVs K W H [] [] := fun _ _ => .nil
  obtain ⟨fd_law_pick, FD_law_pick, F_law_pick⟩ := ok_law_pick (P := P) (base := base) T
  have mg_law_pick := T.glo 1 (x := "_law_pick") rfl
  have b_law_pick_2 : L2.Binds K fd_law_pick ["pot", "many"] [] := FD_law_pick.bindsN fun _ _ _ _ _ _ us hl => match us, hl with | [_, _], _ => rfl
  have hd_b_law_pick_2 : Vals [] [] := .nil
  have hD_b_law_pick_2 : ∀ (W : Wd) (H : Hp), RVs K W H [] [] := fun _ _ => .nil
  obtain ⟨fd_law_refused, FD_law_refused, F_law_refused⟩ := ok_law_refused (P := P) (base := base) T
  have mg_law_refused := T.glo 26 (x := "_law_refused") rfl
  have b_law_refused_4 : L2.Binds K fd_law_refused ["named", "door", "ring", "thing"] [] := FD_law_refused.bindsN fun _ _ _ _ _ _ us hl => match us, hl with | [_, _, _, _], _ => rfl
  have hd_b_law_refused_4 : Vals [] [] := .nil
  have hD_b_law_refused_4 : ∀ (W : Wd) (H : Hp), RVs K W H [] [] := fun _ _ => .nil
  obtain ⟨fd_places, FD_places, F_places⟩ := ok_places (P := P) (base := base) T
  have mg_places := T.glo 13 (x := "places") rfl
  have b_places_1 : L2.Binds K fd_places ["room"] [] := FD_places.bindsN fun _ _ _ _ _ _ us hl => match us, hl with | [_], _ => rfl
  have hd_b_places_1 : Vals [] [] := .nil
  have hD_b_places_1 : ∀ (W : Wd) (H : Hp), RVs K W H [] [] := fun _ _ => .nil
  refine ⟨fd, FD, fn_ok (ga := He.ga K) (t := p_law_room_holds) FD sc_law_room_holds (fun cdv A outer s H E hr hgd => ?_) conf_law_room_holds⟩
  have hu := hr.units
  have hr_1 : Room 8 _ := hr.mono (by decide : 8 ≤ 8)
  have hr_3 : Room 8 _ := hr.mono (by decide : 8 ≤ 8)
  have hr_6 : Room 8 _ := hr.mono (by decide : 8 ≤ 8)
  have hr_8 : Room 8 _ := hr.mono (by decide : 8 ≤ 8)
  exact (wss_cons (ws_set (ps_set (i := 2) sc_law_room_holds.nd rfl (by first | exact Or.inl rfl | exact Or.inr rfl) (we_callB (call_reprU hgd hu) rfl (T.free 47) (by decide +kernel) (wa_cons (we_call (n := 1) (D := []) (F_places.mono (by decide)) hr_6 hgd rfl mg_places FD_places.kp b_places_1 hd_b_places_1 hD_b_places_1 (takes_of rfl rfl rfl rfl) (wa_cons (we_var (pv 1)) wa_nil)) wa_nil))))
    (wss_cons (ws_set (ps_set (i := 3) sc_law_room_holds.nd rfl (by first | exact Or.inl rfl | exact Or.inr rfl) (we_var (pv 1))))
    (wss_cons (ws_set (ps_set (i := 4) sc_law_room_holds.nd rfl (by first | exact Or.inl rfl | exact Or.inr rfl) (we_lst wa_nil)))
    (wss_cons (ws_if (wt_cmp (op_eqU hu) (we_call (n := 2) (D := []) (F_law_pick.mono (by decide)) hr_1 hgd rfl mg_law_pick FD_law_pick.kp b_law_pick_2 hd_b_law_pick_2 hD_b_law_pick_2 (takes_of rfl rfl rfl rfl) (wa_cons (we_var (pv 0)) (wa_cons we_int wa_nil))) we_int (nomark _)) (wss_cons (ws_set (ps_set (i := 3) sc_law_room_holds.nd rfl (by first | exact Or.inl rfl | exact Or.inr rfl) (we_call (n := 2) (D := []) (F_law_bad_room.mono (by decide)) hr_3 hgd rfl mg_law_bad_room FD_law_bad_room.kp b_law_bad_room_2 hd_b_law_bad_room_2 hD_b_law_bad_room_2 (takes_of rfl rfl rfl rfl) (wa_cons (we_var (pv 0)) (wa_cons (we_var (pv 1)) wa_nil)))))
    (wss_one (ws_set (ps_set (i := 4) sc_law_room_holds.nd rfl (by first | exact Or.inl rfl | exact Or.inr rfl) (we_lst (wa_cons we_str wa_nil)))))) wss_nil)
    (wss_cons (ws_set (ps_set (i := 5) sc_law_room_holds.nd rfl (by first | exact Or.inl rfl | exact Or.inr rfl) (we_callB (call_reprU hgd hu) rfl (T.free 47) (by decide +kernel) (wa_cons (we_var (pv 3)) wa_nil))))
    (wss_cons (ws_if (wt_bool (wt_or (wt_cmp (op_neU hu) (we_call (n := 4) (D := []) (F_law_refused.mono (by decide)) hr_8 hgd rfl mg_law_refused FD_law_refused.kp b_law_refused_4 hd_b_law_refused_4 hD_b_law_refused_4 (takes_of rfl rfl rfl rfl) (wa_cons (we_cmp (op_eqU hu) (we_call (n := 2) (D := []) (F_law_pick.mono (by decide)) hr_1 hgd rfl mg_law_pick FD_law_pick.kp b_law_pick_2 hd_b_law_pick_2 hD_b_law_pick_2 (takes_of rfl rfl rfl rfl) (wa_cons (we_var (pv 0)) (wa_cons we_int wa_nil))) we_int (nomark _)) (wa_cons we_int (wa_cons (we_var (pv 3)) (wa_cons we_non wa_nil))))) (we_var (pv 4)) (nomark _)) (wt_or1 (wt_cmp (op_neU hu) (we_callB (call_reprU hgd hu) rfl (T.free 47) (by decide +kernel) (wa_cons (we_var (pv 3)) wa_nil)) (we_var (pv 5)) (nomark _))))) (wss_one (ws_ret we_bl)) wss_nil)
    (wss_one (ws_ret (we_cmp (op_eqU hu) (we_callB (call_reprU hgd hu) rfl (T.free 47) (by decide +kernel) (wa_cons (we_call (n := 1) (D := []) (F_places.mono (by decide)) hr_6 hgd rfl mg_places FD_places.kp b_places_1 hd_b_places_1 hD_b_places_1 (takes_of rfl rfl rfl rfl) (wa_cons (we_var (pv 1)) wa_nil)) wa_nil)) (we_var (pv 2)) (nomark _))))))))))


theorem ok_law_laid [WW] {P : Program} {K : PySem.W.Frag} {mg : Str → Option Value} {base : Heap} (T : Tx fas css fns K mg) : ∃ fd, FunD K "_law_laid" "_law_laid" (defArgs s_law_laid) (defBody s_law_laid) (defScope s_law_laid) [] [] (He.ga K "_law_laid") fd ∧ FnG P WW.w K mg base 1 (He.ga K "_law_laid") fd ["ring"] (spF K (He.ga K) 1 sp_law_laid) := by
  obtain ⟨fd, FD⟩ := T.def_ 28 (d := d_law_laid) rfl
  have FD : FunD K "_law_laid" "_law_laid" (defArgs s_law_laid) (defBody s_law_laid) (defScope s_law_laid) [] [] (He.ga K "_law_laid") fd := FD
  refine ⟨fd, FD, fn_ok (ga := He.ga K) (t := p_law_laid) FD sc_law_laid (fun cdv A outer s H E hr hgd => ?_) conf_law_laid⟩
  have hu := hr.units
  exact (wss_cons (ws_asg (we_var (pv 0)) (wg_tup rfl rfl (ks := [1, 2, 3, 4, 5, 6]) (pgs_cons (pg_name (i := 1) sc_law_laid.nd rfl (by first | exact Or.inl rfl | exact Or.inr rfl)) (pgs_cons (pg_name (i := 2) sc_law_laid.nd rfl (by first | exact Or.inl rfl | exact Or.inr rfl)) (pgs_cons (pg_name (i := 3) sc_law_laid.nd rfl (by first | exact Or.inl rfl | exact Or.inr rfl)) (pgs_cons (pg_name (i := 4) sc_law_laid.nd rfl (by first | exact Or.inl rfl | exact Or.inr rfl)) (pgs_cons (pg_name (i := 5) sc_law_laid.nd rfl (by first | exact Or.inl rfl | exact Or.inr rfl)) (pgs_cons (pg_name (i := 6) sc_law_laid.nd rfl (by first | exact Or.inl rfl | exact Or.inr rfl)) pgs_nil))))))))
    (wss_cons (ws_setO (ps_set (i := 7) sc_law_laid.nd rfl (by first | exact Or.inl rfl | exact Or.inr rfl) (we_bin op_mulU (we_lst (wa_cons (we_neg we_int) wa_nil)) (we_bin op_addU (we_bin op_addU (we_var (pv 5)) (we_bin op_mulU (we_var (pv 6)) (we_bin op_addU (we_var (pv 2)) (we_var (pv 3))))) (we_bin op_mulU we_int (we_var (pv 1)))))))
    (wss_cons (ws_for (passes_of rfl) rfl (wi_range1 rfl (T.free 40) (wa_cons (we_var (pv 6)) wa_nil)) (wg_name (pg_name (i := 8) sc_law_laid.nd rfl (by first | exact Or.inl rfl | exact Or.inr rfl))) (wss_one (ws_for (passes_of rfl) rfl (wi_range1 rfl (T.free 40) (wa_cons (we_var (pv 2)) wa_nil)) (wg_name (pg_name (i := 9) sc_law_laid.nd rfl (by first | exact Or.inl rfl | exact Or.inr rfl))) (wss_one (ws_setIx (we_var (pv 8)) (pv 7) (we_bin op_addU (we_bin op_addU (we_var (pv 5)) (we_bin op_mulU (we_var (pv 8)) (we_bin op_addU (we_var (pv 2)) (we_var (pv 3))))) (we_var (pv 9))))))))
    (wss_one (ws_ret (we_var (pv 7)))))))


theorem ok_law_bad_ring [WW] {P : Program} {K : PySem.W.Frag} {mg : Str → Option Value} {base : Heap} (T : Tx fas css fns K mg) : ∃ fd, FunD K "_law_bad_ring" "_law_bad_ring" (defArgs s_law_bad_ring) (defBody s_law_bad_ring) (defScope s_law_bad_ring) [] [] (He.ga K "_law_bad_ring") fd ∧ FnG P WW.w K mg base 3 (He.ga K "_law_bad_ring") fd ["pot", "ring"] (spF K (He.ga K) 2 sp_law_bad_ring) := by
  obtain ⟨fd, FD⟩ := T.def_ 29 (d := d_law_bad_ring) rfl
  have FD : FunD K "_law_bad_ring" "_law_bad_ring" (defArgs s_law_bad_ring) (defBody s_law_bad_ring) (defScope s_law_bad_ring) [] [] (He.ga K "_law_bad_ring") fd := FD
  obtain ⟨fd_law_among, FD_law_among, F_law_among⟩ := ok_law_among (P := P) (base := base) T
  have mg_law_among := T.glo 2 (x := "_law_among") rfl
  have b_law_among_2 : L2.Binds K fd_law_among ["pot", "some"] [] := FD_law_among.bindsN fun _ _ _ _ _ _ us hl => match us, hl with | [_, _], _ => rfl
  have hd_b_law_among_2 : Vals [] [] := .nil
  have hD_b_law_among_2 : ∀ (W : Wd) (H : Hp), RVs K W H [] [] := fun _ _ => .nil
  obtain ⟨fd_law_pick, FD_law_pick, F_law_pick⟩ := ok_law_pick (P := P) (base := base) T
  have mg_law_pick := T.glo 1 (x := "_law_pick") rfl
  have b_law_pick_2 : L2.Binds K fd_law_pick ["pot", "many"] [] := FD_law_pick.bindsN fun _ _ _ _ _ _ us hl => match us, hl with | [_, _], _ => rfl
  have hd_b_law_pick_2 : Vals [] [] := .nil
  have hD_b_law_pick_2 : ∀ (W : Wd) (H : Hp), RVs K W H [] [] := fun _ _ => .nil
  refine ⟨fd, FD, fn_ok (ga := He.ga K) (t := p_law_bad_ring) FD sc_law_bad_ring (fun cdv A outer s H E hr hgd => ?_) conf_law_bad_ring⟩
  have hu := hr.units
  have hr_1 : Room 2 _ := hr.mono (by decide : 2 ≤ 2)
  have hr_2 : Room 2 _ := hr.mono (by decide : 2 ≤ 2)
  exact (wss_cons (ws_set (ps_set (i := 2) sc_law_bad_ring.nd rfl (by first | exact Or.inl rfl | exact Or.inr rfl) (we_call (n := 2) (D := []) (F_law_pick.mono (by decide)) hr_1 hgd rfl mg_law_pick FD_law_pick.kp b_law_pick_2 hd_b_law_pick_2 hD_b_law_pick_2 (takes_of rfl rfl rfl rfl) (wa_cons (we_var (pv 0)) (wa_cons we_int wa_nil)))))
    (wss_cons (ws_set (ps_set (i := 3) sc_law_bad_ring.nd rfl (by first | exact Or.inl rfl | exact Or.inr rfl) (we_call (n := 2) (D := []) (F_law_pick.mono (by decide)) hr_1 hgd rfl mg_law_pick FD_law_pick.kp b_law_pick_2 hd_b_law_pick_2 hD_b_law_pick_2 (takes_of rfl rfl rfl rfl) (wa_cons (we_var (pv 0)) (wa_cons we_int wa_nil)))))
    (wss_cons (ws_if (wt_cmp op_ltU (we_var (pv 3)) we_int (nomark _)) (wss_one (ws_ret (we_bin op_addU (we_bin op_addU (we_sl sl_U (we_var (pv 1)) wp_none (wp_some (we_var (pv 2)))) (we_tup (wa_cons (we_call (n := 2) (D := []) (F_law_among.mono (by decide)) hr_2 hgd rfl mg_law_among FD_law_among.kp b_law_among_2 hd_b_law_among_2 hD_b_law_among_2 (takes_of rfl rfl rfl rfl) (wa_cons (we_var (pv 0)) (wa_cons (we_lst (wa_cons we_non (wa_cons (we_neg we_int) (wa_cons we_str (wa_cons (we_lst (wa_cons we_int wa_nil)) (wa_cons (we_tup (wa_cons we_int wa_nil)) (wa_cons (we_neg (we_bin op_powU we_int we_int)) wa_nil))))))) wa_nil))) wa_nil))) (we_sl sl_U (we_var (pv 1)) (wp_some (we_bin op_addU (we_var (pv 2)) we_int)) wp_none)))) wss_nil)
    (wss_cons (ws_if (wt_cmp (op_eqU hu) (we_var (pv 3)) we_int (nomark _)) (wss_cons (ws_set (ps_set (i := 2) sc_law_bad_ring.nd rfl (by first | exact Or.inl rfl | exact Or.inr rfl) (we_call (n := 2) (D := []) (F_law_among.mono (by decide)) hr_2 hgd rfl mg_law_among FD_law_among.kp b_law_among_2 hd_b_law_among_2 hD_b_law_among_2 (takes_of rfl rfl rfl rfl) (wa_cons (we_var (pv 0)) (wa_cons (we_lst (wa_cons we_int (wa_cons we_int (wa_cons we_int wa_nil)))) wa_nil)))))
    (wss_one (ws_ret (we_bin op_addU (we_bin op_addU (we_sl sl_U (we_var (pv 1)) wp_none (wp_some (we_var (pv 2)))) (we_tup (wa_cons (we_call (n := 2) (D := []) (F_law_among.mono (by decide)) hr_2 hgd rfl mg_law_among FD_law_among.kp b_law_among_2 hd_b_law_among_2 hD_b_law_among_2 (takes_of rfl rfl rfl rfl) (wa_cons (we_var (pv 0)) (wa_cons (we_lst (wa_cons we_bl (wa_cons we_int wa_nil))) wa_nil))) wa_nil))) (we_sl sl_U (we_var (pv 1)) (wp_some (we_bin op_addU (we_var (pv 2)) we_int)) wp_none))))) wss_nil)
    (wss_cons (ws_if (wt_cmp (op_eqU hu) (we_var (pv 3)) we_int (nomark _)) (wss_one (ws_ret (we_bin op_addU (we_sl sl_U (we_var (pv 1)) wp_none (wp_some we_int)) (we_tup (wa_cons (we_bin op_addU (we_ix ix_U (we_var (pv 1)) we_int (fun _ _ => rfl)) (we_call (n := 2) (D := []) (F_law_among.mono (by decide)) hr_2 hgd rfl mg_law_among FD_law_among.kp b_law_among_2 hd_b_law_among_2 hD_b_law_among_2 (takes_of rfl rfl rfl rfl) (wa_cons (we_var (pv 0)) (wa_cons (we_lst (wa_cons we_int (wa_cons we_int (wa_cons we_int wa_nil)))) wa_nil)))) (wa_cons (we_ix ix_U (we_var (pv 1)) we_int (fun _ _ => rfl)) wa_nil)))))) wss_nil)
    (wss_cons (ws_if (wt_cmp (op_eqU hu) (we_var (pv 3)) we_int (nomark _)) (wss_one (ws_ret (we_bin op_addU (we_sl sl_U (we_var (pv 1)) wp_none (wp_some (we_var (pv 2)))) (we_sl sl_U (we_var (pv 1)) (wp_some (we_bin op_addU (we_var (pv 2)) we_int)) wp_none)))) wss_nil)
    (wss_cons (ws_if (wt_cmp op_ltU (we_var (pv 3)) we_int (nomark _)) (wss_cons (ws_set (ps_set (i := 4) sc_law_bad_ring.nd rfl (by first | exact Or.inl rfl | exact Or.inr rfl) (we_bin op_addU we_int (we_call (n := 2) (D := []) (F_law_pick.mono (by decide)) hr_1 hgd rfl mg_law_pick FD_law_pick.kp b_law_pick_2 hd_b_law_pick_2 hD_b_law_pick_2 (takes_of rfl rfl rfl rfl) (wa_cons (we_var (pv 0)) (wa_cons (we_ix ix_U (we_var (pv 1)) we_int (fun _ _ => rfl)) wa_nil))))))
    (wss_one (ws_ret (we_bin op_addU (we_tup (wa_cons (we_ix ix_U (we_var (pv 1)) we_int (fun _ _ => rfl)) (wa_cons (we_var (pv 4)) (wa_cons (we_bin op_subU (we_bin op_subU (we_ix ix_U (we_var (pv 1)) we_int (fun _ _ => rfl)) (we_var (pv 4))) we_int) wa_nil)))) (we_sl sl_U (we_var (pv 1)) (wp_some we_int) wp_none))))) wss_nil)
    (wss_cons (ws_if (wt_cmp (op_eqU hu) (we_var (pv 3)) we_int (nomark _)) (wss_one (ws_ret (we_bin op_addU (we_bin op_addU (we_sl sl_U (we_var (pv 1)) wp_none (wp_some we_int)) (we_tup (wa_cons (we_callTy call_intU rfl (T.free 35) (by decide +kernel) (wa_cons (we_ix ix_U (we_var (pv 1)) we_int (fun _ _ => rfl)) wa_nil)) wa_nil))) (we_sl sl_U (we_var (pv 1)) (wp_some we_int) wp_none)))) wss_nil)
    (wss_cons (ws_if (wt_cmp (op_eqU hu) (we_var (pv 3)) we_int (nomark _)) (wss_cons (ws_set (ps_set (i := 2) sc_law_bad_ring.nd rfl (by first | exact Or.inl rfl | exact Or.inr rfl) (we_call (n := 2) (D := []) (F_law_among.mono (by decide)) hr_2 hgd rfl mg_law_among FD_law_among.kp b_law_among_2 hd_b_law_among_2 hD_b_law_among_2 (takes_of rfl rfl rfl rfl) (wa_cons (we_var (pv 0)) (wa_cons (we_lst (wa_cons we_int (wa_cons we_int wa_nil))) wa_nil)))))
    (wss_one (ws_ret (we_bin op_addU (we_bin op_addU (we_sl sl_U (we_var (pv 1)) wp_none (wp_some (we_var (pv 2)))) (we_tup (wa_cons (we_cmp (op_eqU hu) (we_call (n := 2) (D := []) (F_law_pick.mono (by decide)) hr_1 hgd rfl mg_law_pick FD_law_pick.kp b_law_pick_2 hd_b_law_pick_2 hD_b_law_pick_2 (takes_of rfl rfl rfl rfl) (wa_cons (we_var (pv 0)) (wa_cons we_int wa_nil))) we_int (nomark _)) wa_nil))) (we_sl sl_U (we_var (pv 1)) (wp_some (we_bin op_addU (we_var (pv 2)) we_int)) wp_none))))) wss_nil)
    (wss_one (ws_ret (we_call (n := 2) (D := []) (F_law_among.mono (by decide)) hr_2 hgd rfl mg_law_among FD_law_among.kp b_law_among_2 hd_b_law_among_2 hD_b_law_among_2 (takes_of rfl rfl rfl rfl) (wa_cons (we_var (pv 0)) (wa_cons (we_lst (wa_cons (we_callTy call_listU rfl (T.free 45) (by decide +kernel) (wa_cons (we_var (pv 1)) wa_nil)) (wa_cons (we_bin op_addU (we_sl sl_U (we_var (pv 1)) wp_none (wp_some we_int)) (we_tup (wa_cons we_int wa_nil))) (wa_cons we_non (wa_cons we_int (wa_cons we_str (wa_cons (we_tup (wa_cons (we_var (pv 1)) wa_nil)) (wa_cons (we_bin op_addU (we_var (pv 1)) (we_tup (wa_cons we_int wa_nil))) (wa_cons (we_rev rfl (we_var (pv 1))) wa_nil))))))))) wa_nil))))))))))))))


theorem ok_law_second [WW] {P : Program} {K : PySem.W.Frag} {mg : Str → Option Value} {base : Heap} (T : Tx fas css fns K mg) : ∃ fd, FunD K "_law_second" "_law_second" (defArgs s_law_second) (defBody s_law_second) (defScope s_law_second) [] [] (He.ga K "_law_second") fd ∧ FnG P WW.w K mg base 3 (He.ga K "_law_second") fd ["pot", "right"] (spF K (He.ga K) 2 sp_law_second) := by
  obtain ⟨fd, FD⟩ := T.def_ 30 (d := d_law_second) rfl
  have FD : FunD K "_law_second" "_law_second" (defArgs s_law_second) (defBody s_law_second) (defScope s_law_second) [] [] (He.ga K "_law_second") fd := FD
  obtain ⟨fd_law_among, FD_law_among, F_law_among⟩ := ok_law_among (P := P) (base := base) T
  have mg_law_among := T.glo 2 (x := "_law_among") rfl
  have b_law_among_2 : L2.Binds K fd_law_among ["pot", "some"] [] := FD_law_among.bindsN fun _ _ _ _ _ _ us hl => match us, hl with | [_, _], _ => rfl
  have hd_b_law_among_2 : Vals [] [] := .nil
  have hD_b_law_among_2 : ∀ (W : Wd) (H : Hp), RVs K W H [] [] := fun _ _ => .nil
  obtain ⟨fd_law_pick, FD_law_pick, F_law_pick⟩ := ok_law_pick (P := P) (base := base) T
  have mg_law_pick := T.glo 1 (x := "_law_pick") rfl
  have b_law_pick_2 : L2.Binds K fd_law_pick ["pot", "many"] [] := FD_law_pick.bindsN fun _ _ _ _ _ _ us hl => match us, hl with | [_, _], _ => rfl
  have hd_b_law_pick_2 : Vals [] [] := .nil
  have hD_b_law_pick_2 : ∀ (W : Wd) (H : Hp), RVs K W H [] [] := fun _ _ => .nil
  refine ⟨fd, FD, fn_ok (ga := He.ga K) (t := p_law_second) FD sc_law_second (fun cdv A outer s H E hr hgd => ?_) conf_law_second⟩
  have hu := hr.units
  have hr_1 : Room 2 _ := hr.mono (by decide : 2 ≤ 2)
  have hr_2 : Room 2 _ := hr.mono (by decide : 2 ≤ 2)
  exact (wss_cons (ws_set (ps_set (i := 2) sc_law_second.nd rfl (by first | exact Or.inl rfl | exact Or.inr rfl) (we_ix ix_U (we_var (pv 1)) (we_neg we_int) (fun _ _ => rfl))))
    (wss_cons (ws_set (ps_set (i := 3) sc_law_second.nd rfl (by first | exact Or.inl rfl | exact Or.inr rfl) (we_lst (wa_cons (we_neg we_int) (wa_cons (we_bin op_addU (we_var (pv 2)) we_int) (wa_cons (we_bin op_addU (we_var (pv 2)) we_int) (wa_cons (we_bin op_subU (we_neg we_int) (we_var (pv 2))) (wa_cons we_bl (wa_cons we_bl (wa_cons we_non (wa_cons we_str (wa_cons we_str (wa_cons (we_lst (wa_cons we_int wa_nil)) (wa_cons (we_tup (wa_cons we_int wa_nil)) (wa_cons (we_tup wa_nil) (wa_cons (we_lst wa_nil) (wa_cons (we_bin op_powU we_int we_int) (wa_cons (we_neg (we_bin op_powU we_int we_int)) wa_nil))))))))))))))))))
    (wss_cons (ws_for (passes_of rfl) rfl (wi_range1 rfl (T.free 40) (wa_cons we_int wa_nil)) (wg_name (pg_name (i := 4) sc_law_second.nd rfl (by first | exact Or.inl rfl | exact Or.inr rfl))) (wss_cons (ws_set (ps_set (i := 5) sc_law_second.nd rfl (by first | exact Or.inl rfl | exact Or.inr rfl) (we_call (n := 2) (D := []) (F_law_pick.mono (by decide)) hr_1 hgd rfl mg_law_pick FD_law_pick.kp b_law_pick_2 hd_b_law_pick_2 hD_b_law_pick_2 (takes_of rfl rfl rfl rfl) (wa_cons (we_var (pv 0)) (wa_cons (we_bin op_addU (we_var (pv 2)) we_int) wa_nil)))))
    (wss_one (ws_if (wt_cmp op_notInU (we_var (pv 5)) (we_var (pv 1)) (by rfl)) (wss_one (ws_set (ps_set (i := 3) sc_law_second.nd rfl (by first | exact Or.inl rfl | exact Or.inr rfl) (we_bin op_addU (we_var (pv 3)) (we_bin op_mulU (we_lst (wa_cons (we_var (pv 5)) wa_nil)) we_int))))) wss_nil))))
    (wss_cons (ws_if (wt_cmp (op_eqU hu) (we_call (n := 2) (D := []) (F_law_pick.mono (by decide)) hr_1 hgd rfl mg_law_pick FD_law_pick.kp b_law_pick_2 hd_b_law_pick_2 hD_b_law_pick_2 (takes_of rfl rfl rfl rfl) (wa_cons (we_var (pv 0)) (wa_cons we_int wa_nil))) we_int (nomark _)) (wss_one (ws_ret (we_call (n := 2) (D := []) (F_law_among.mono (by decide)) hr_2 hgd rfl mg_law_among FD_law_among.kp b_law_among_2 hd_b_law_among_2 hD_b_law_among_2 (takes_of rfl rfl rfl rfl) (wa_cons (we_var (pv 0)) (wa_cons (we_var (pv 1)) wa_nil))))) wss_nil)
    (wss_one (ws_ret (we_call (n := 2) (D := []) (F_law_among.mono (by decide)) hr_2 hgd rfl mg_law_among FD_law_among.kp b_law_among_2 hd_b_law_among_2 hD_b_law_among_2 (takes_of rfl rfl rfl rfl) (wa_cons (we_var (pv 0)) (wa_cons (we_var (pv 3)) wa_nil)))))))))


theorem ok_law_lines [WW] {P : Program} {K : PySem.W.Frag} {mg : Str → Option Value} {base : Heap} (T : Tx fas css fns K mg) : ∃ fd, FunD K "_law_lines" "_law_lines" (defArgs s_law_lines) (defBody s_law_lines) (defScope s_law_lines) [] [] (He.ga K "_law_lines") fd ∧ FnG P WW.w K mg base 1 (He.ga K "_law_lines") fd ["ring", "laid"] (spF K (He.ga K) 2 sp_law_lines) := by
  obtain ⟨fd, FD⟩ := T.def_ 31 (d := d_law_lines) rfl
  have FD : FunD K "_law_lines" "_law_lines" (defArgs s_law_lines) (defBody s_law_lines) (defScope s_law_lines) [] [] (He.ga K "_law_lines") fd := FD
  refine ⟨fd, FD, fn_ok (ga := He.ga K) (t := p_law_lines) FD sc_law_lines (fun cdv A outer s H E hr hgd => ?_) conf_law_lines⟩
  have hu := hr.units
  exact (wss_cons (ws_setO (ps_set (i := 2) sc_law_lines.nd rfl (by first | exact Or.inl rfl | exact Or.inr rfl) (we_lst wa_nil)))
    (wss_cons (ws_for (passes_of rfl) rfl (wi_range1 rfl (T.free 40) (wa_cons (we_bin op_fdivU (we_callB call_lenU rfl (T.free 36) (by decide +kernel) (wa_cons (we_var (pv 1)) wa_nil)) (we_ix ix_U (we_var (pv 0)) we_int (fun _ _ => rfl))) wa_nil)) (wg_name (pg_name (i := 3) sc_law_lines.nd rfl (by first | exact Or.inl rfl | exact Or.inr rfl))) (wss_cons (ws_set (ps_set (i := 4) sc_law_lines.nd rfl (by first | exact Or.inl rfl | exact Or.inr rfl) (we_sl sl_U (we_var (pv 1)) (wp_some (we_bin op_mulU (we_var (pv 3)) (we_ix ix_U (we_var (pv 0)) we_int (fun _ _ => rfl)))) (wp_some (we_bin op_addU (we_bin op_mulU (we_var (pv 3)) (we_ix ix_U (we_var (pv 0)) we_int (fun _ _ => rfl))) (we_ix ix_U (we_var (pv 0)) we_int (fun _ _ => rfl)))))))
    (wss_one (ws_if (wt_cmp (op_neU hu) (we_lc rfl sc_law_lines.nd (wi_any rfl (we_var (pv 4))) (own := [("k", 5)]) (blkOk_by (N := N_law_lines) (sc := (defScope s_law_lines)) (by decide +kernel)) (by decide) (fun _ _ _ _ _ => (wg_name (pg_name (i := 5) sc_law_lines.nd rfl (by first | exact Or.inl rfl | exact Or.inr rfl)))) (fun _ _ _ _ _ => (wts_one (wt_cmp op_geU (we_var (pv 5)) we_int (nomark _)))) (fun _ _ _ _ _ => (we_var (pv 5)))) (we_lst wa_nil) (nomark _)) (wss_one (ws_expr (we_mt rfl PySem.F.slot_list_append PySem.F.type_list_append mtU_append (pv 2) (wa_cons (we_tup (wa_cons (we_var (pv 3)) (wa_cons (we_var (pv 4)) wa_nil))) wa_nil)))) wss_nil))))
    (wss_one (ws_ret (we_var (pv 2))))))


theorem ok_law_numbers [WW] {P : Program} {K : PySem.W.Frag} {mg : Str → Option Value} {base : Heap} (T : Tx fas css fns K mg) : ∃ fd, FunD K "_law_numbers" "_law_numbers" (defArgs s_law_numbers) (defBody s_law_numbers) (defScope s_law_numbers) [] [] (He.ga K "_law_numbers") fd ∧ FnG P WW.w K mg base 2 (He.ga K "_law_numbers") fd ["ring", "laid"] (spF K (He.ga K) 2 sp_law_numbers) := by
  obtain ⟨fd, FD⟩ := T.def_ 32 (d := d_law_numbers) rfl
  have FD : FunD K "_law_numbers" "_law_numbers" (defArgs s_law_numbers) (defBody s_law_numbers) (defScope s_law_numbers) [] [] (He.ga K "_law_numbers") fd := FD
  obtain ⟨fd_law_lines, FD_law_lines, F_law_lines⟩ := ok_law_lines (P := P) (base := base) T
  have mg_law_lines := T.glo 31 (x := "_law_lines") rfl
  have b_law_lines_2 : L2.Binds K fd_law_lines ["ring", "laid"] [] := FD_law_lines.bindsN fun _ _ _ _ _ _ us hl => match us, hl with | [_, _], _ => rfl
  have hd_b_law_lines_2 : Vals [] [] := .nil
  have hD_b_law_lines_2 : ∀ (W : Wd) (H : Hp), RVs K W H [] [] := fun _ _ => .nil
  refine ⟨fd, FD, fn_ok (ga := He.ga K) (t := p_law_numbers) FD sc_law_numbers (fun cdv A outer s H E hr hgd => ?_) conf_law_numbers⟩
  have hu := hr.units
  have hr_1 : Room 1 _ := hr.mono (by decide : 1 ≤ 1)
  exact (wss_cons (ws_set (ps_lcU (i := 3) rfl sc_law_numbers.nd rfl rfl (sw_true rfl rfl rfl (by decide +kernel)) (wi_any rfl (we_call (n := 2) (D := []) (F_law_lines.mono (by decide)) hr_1 hgd rfl mg_law_lines FD_law_lines.kp b_law_lines_2 hd_b_law_lines_2 hD_b_law_lines_2 (takes_of rfl rfl rfl rfl) (wa_cons (we_var (pv 0)) (wa_cons (we_var (pv 1)) wa_nil)))) (own := [("row", 2), ("part", 5)]) (blkOk_by (N := N_law_numbers) (sc := (defScope s_law_numbers)) (by decide +kernel)) (by decide) (fun _ _ _ _ _ => (wg_tup rfl rfl (ks := [2, 5]) (pgs_cons (pg_name (i := 2) sc_law_numbers.nd rfl (by first | exact Or.inl rfl | exact Or.inr rfl)) (pgs_cons (pg_name (i := 5) sc_law_numbers.nd rfl (by first | exact Or.inl rfl | exact Or.inr rfl)) pgs_nil)))) (fun _ _ _ _ _ => wts_nil) (fun _ _ _ _ _ => (we_var (pv 2)))))
    (wss_cons (ws_setO (ps_set (i := 4) sc_law_numbers.nd rfl (by first | exact Or.inl rfl | exact Or.inr rfl) (we_lst wa_nil)))
    (wss_cons (ws_for (passes_of rfl) rfl (wi_any rfl (we_var (pv 3))) (wg_name (pg_name (i := 2) sc_law_numbers.nd rfl (by first | exact Or.inl rfl | exact Or.inr rfl))) (wss_one (ws_expr (we_mt rfl PySem.F.slot_list_extend PySem.F.type_list_extend mtU_extend (pv 4) (wa_cons (we_lc rfl sc_law_numbers.nd (wi_range2 rfl (T.free 40) (wa_cons (we_bin op_mulU (we_var (pv 2)) (we_ix ix_U (we_var (pv 0)) we_int (fun _ _ => rfl))) (wa_cons (we_bin op_addU (we_bin op_mulU (we_var (pv 2)) (we_ix ix_U (we_var (pv 0)) we_int (fun _ _ => rfl))) (we_ix ix_U (we_var (pv 0)) we_int (fun _ _ => rfl))) wa_nil))) (own := [("at", 7)]) (blkOk_by (N := N_law_numbers) (sc := (defScope s_law_numbers)) (by decide +kernel)) (by decide) (fun _ _ _ _ _ => (wg_name (pg_name (i := 7) sc_law_numbers.nd rfl (by first | exact Or.inl rfl | exact Or.inr rfl)))) (fun _ _ _ _ _ => wts_nil) (fun _ _ _ _ _ => (we_var (pv 7)))) wa_nil)))))
    (wss_one (ws_ret (we_lst (wa_cons (we_lc rfl sc_law_numbers.nd (wi_range1 rfl (T.free 40) (wa_cons (we_ix ix_U (we_var (pv 0)) we_int (fun _ _ => rfl)) wa_nil)) (own := [("k", 6)]) (blkOk_by (N := N_law_numbers) (sc := (defScope s_law_numbers)) (by decide +kernel)) (by decide) (fun _ _ _ _ _ => (wg_name (pg_name (i := 6) sc_law_numbers.nd rfl (by first | exact Or.inl rfl | exact Or.inr rfl)))) (fun _ _ _ _ _ => wts_nil) (fun _ _ _ _ _ => (we_var (pv 6)))) (wa_cons (we_var (pv 4)) (wa_cons (we_var (pv 3)) (wa_cons (we_var (pv 3)) wa_nil))))))))))


theorem ok_law_holds [WW] {P : Program} {K : PySem.W.Frag} {mg : Str → Option Value} {base : Heap} (T : Tx fas css fns K mg) : ∃ fd, FunD K "_law_holds" "_law_holds" (defArgs s_law_holds) (defBody s_law_holds) (defScope s_law_holds) [] [] (He.ga K "_law_holds") fd ∧ FnG P WW.w K mg base 9 (He.ga K "_law_holds") fd ["pot", "ring"] (spF K (He.ga K) 2 sp_law_holds) := by
  obtain ⟨fd, FD⟩ := T.def_ 33 (d := d_law_holds) rfl
  have FD : FunD K "_law_holds" "_law_holds" (defArgs s_law_holds) (defBody s_law_holds) (defScope s_law_holds) [] [] (He.ga K "_law_holds") fd := FD
  obtain ⟨fd_law_among, FD_law_among, F_law_among⟩ := ok_law_among (P := P) (base := base) T
  have mg_law_among := T.glo 2 (x := "_law_among") rfl
  have b_law_among_2 : L2.Binds K fd_law_among ["pot", "some"] [] := FD_law_among.bindsN fun _ _ _ _ _ _ us hl => match us, hl with | [_, _], _ => rfl
  have hd_b_law_among_2 : Vals [] [] := .nil
  have hD_b_law_among_2 : ∀ (W : Wd) (H : Hp), RVs K W H [] [] := fun _ _ => .nil
  obtain ⟨fd_law_bad_ring, FD_law_bad_ring, F_law_bad_ring⟩ := ok_law_bad_ring (P := P) (base := base) T
  have mg_law_bad_ring := T.glo 29 (x := "_law_bad_ring") rfl
  have b_law_bad_ring_2 : L2.Binds K fd_law_bad_ring ["pot", "ring"] [] := FD_law_bad_ring.bindsN fun _ _ _ _ _ _ us hl => match us, hl with | [_, _], _ => rfl
  have hd_b_law_bad_ring_2 : Vals [] [] := .nil
  have hD_b_law_bad_ring_2 : ∀ (W : Wd) (H : Hp), RVs K W H [] [] := fun _ _ => .nil
  obtain ⟨fd_law_called, FD_law_called, F_law_called⟩ := ok_law_called (P := P) (base := base) T
  have mg_law_called := T.glo 24 (x := "_law_called") rfl
  have b_law_called_3 : L2.Binds K fd_law_called ["door", "ring", "thing"] [] := FD_law_called.bindsN fun _ _ _ _ _ _ us hl => match us, hl with | [_, _, _], _ => rfl
  have hd_b_law_called_3 : Vals [] [] := .nil
  have hD_b_law_called_3 : ∀ (W : Wd) (H : Hp), RVs K W H [] [] := fun _ _ => .nil
  obtain ⟨fd_law_laid, FD_law_laid, F_law_laid⟩ := ok_law_laid (P := P) (base := base) T
  have mg_law_laid := T.glo 28 (x := "_law_laid") rfl
  have b_law_laid_1 : L2.Binds K fd_law_laid ["ring"] [] := FD_law_laid.bindsN fun _ _ _ _ _ _ us hl => match us, hl with | [_], _ => rfl
  have hd_b_law_laid_1 : Vals [] [] := .nil
  have hD_b_law_laid_1 : ∀ (W : Wd) (H : Hp), RVs K W H [] [] := fun _ _ => .nil
  obtain ⟨fd_law_numbers, FD_law_numbers, F_law_numbers⟩ := ok_law_numbers (P := P) (base := base) T
  have mg_law_numbers := T.glo 32 (x := "_law_numbers") rfl
  have b_law_numbers_2 : L2.Binds K fd_law_numbers ["ring", "laid"] [] := FD_law_numbers.bindsN fun _ _ _ _ _ _ us hl => match us, hl with | [_, _], _ => rfl
  have hd_b_law_numbers_2 : Vals [] [] := .nil
  have hD_b_law_numbers_2 : ∀ (W : Wd) (H : Hp), RVs K W H [] [] := fun _ _ => .nil
  obtain ⟨fd_law_pick, FD_law_pick, F_law_pick⟩ := ok_law_pick (P := P) (base := base) T
  have mg_law_pick := T.glo 1 (x := "_law_pick") rfl
  have b_law_pick_2 : L2.Binds K fd_law_pick ["pot", "many"] [] := FD_law_pick.bindsN fun _ _ _ _ _ _ us hl => match us, hl with | [_, _], _ => rfl
  have hd_b_law_pick_2 : Vals [] [] := .nil
  have hD_b_law_pick_2 : ∀ (W : Wd) (H : Hp), RVs K W H [] [] := fun _ _ => .nil
  obtain ⟨fd_law_refused, FD_law_refused, F_law_refused⟩ := ok_law_refused (P := P) (base := base) T
  have mg_law_refused := T.glo 26 (x := "_law_refused") rfl
  have b_law_refused_4 : L2.Binds K fd_law_refused ["named", "door", "ring", "thing"] [] := FD_law_refused.bindsN fun _ _ _ _ _ _ us hl => match us, hl with | [_, _, _, _], _ => rfl
  have hd_b_law_refused_4 : Vals [] [] := .nil
  have hD_b_law_refused_4 : ∀ (W : Wd) (H : Hp), RVs K W H [] [] := fun _ _ => .nil
  obtain ⟨fd_law_second, FD_law_second, F_law_second⟩ := ok_law_second (P := P) (base := base) T
  have mg_law_second := T.glo 30 (x := "_law_second") rfl
  have b_law_second_2 : L2.Binds K fd_law_second ["pot", "right"] [] := FD_law_second.bindsN fun _ _ _ _ _ _ us hl => match us, hl with | [_, _], _ => rfl
  have hd_b_law_second_2 : Vals [] [] := .nil
  have hD_b_law_second_2 : ∀ (W : Wd) (H : Hp), RVs K W H [] [] := fun _ _ => .nil
  refine ⟨fd, FD, fn_ok (ga := He.ga K) (t := p_law_holds) FD sc_law_holds (fun cdv A outer s H E hr hgd => ?_) conf_law_holds⟩
  have hu := hr.units
  have hr_1 : Room 8 _ := hr.mono (by decide : 8 ≤ 8)
  have hr_2 : Room 8 _ := hr.mono (by decide : 8 ≤ 8)
  have hr_3 : Room 8 _ := hr.mono (by decide : 8 ≤ 8)
  have hr_7 : Room 8 _ := hr.mono (by decide : 8 ≤ 8)
  have hr_8 : Room 8 _ := hr.mono (by decide : 8 ≤ 8)
  exact (wss_cons (ws_set (ps_set (i := 2) sc_law_holds.nd rfl (by first | exact Or.inl rfl | exact Or.inr rfl) (we_call (n := 2) (D := []) (F_law_numbers.mono (by decide)) hr_2 hgd rfl mg_law_numbers FD_law_numbers.kp b_law_numbers_2 hd_b_law_numbers_2 hD_b_law_numbers_2 (takes_of rfl rfl rfl rfl) (wa_cons (we_var (pv 1)) (wa_cons (we_call (n := 1) (D := []) (F_law_laid.mono (by decide)) hr_1 hgd rfl mg_law_laid FD_law_laid.kp b_law_laid_1 hd_b_law_laid_1 hD_b_law_laid_1 (takes_of rfl rfl rfl rfl) (wa_cons (we_var (pv 1)) wa_nil)) wa_nil)))))
    (wss_cons (ws_set (ps_set (i := 3) sc_law_holds.nd rfl (by first | exact Or.inl rfl | exact Or.inr rfl) (we_var (pv 1))))
    (wss_cons (ws_set (ps_set (i := 4) sc_law_holds.nd rfl (by first | exact Or.inl rfl | exact Or.inr rfl) (we_cmp (op_eqU hu) (we_call (n := 2) (D := []) (F_law_pick.mono (by decide)) hr_1 hgd rfl mg_law_pick FD_law_pick.kp b_law_pick_2 hd_b_law_pick_2 hD_b_law_pick_2 (takes_of rfl rfl rfl rfl) (wa_cons (we_var (pv 0)) (wa_cons we_int wa_nil))) we_int (nomark _))))
    (wss_cons (ws_if (wt_val (we_var (pv 4))) (wss_one (ws_set (ps_set (i := 1) sc_law_holds.nd rfl (by first | exact Or.inl rfl | exact Or.inr rfl) (we_call (n := 2) (D := []) (F_law_bad_ring.mono (by decide)) hr_3 hgd rfl mg_law_bad_ring FD_law_bad_ring.kp b_law_bad_ring_2 hd_b_law_bad_ring_2 hD_b_law_bad_ring_2 (takes_of rfl rfl rfl rfl) (wa_cons (we_var (pv 0)) (wa_cons (we_var (pv 1)) wa_nil)))))) wss_nil)
    (wss_cons (ws_setO (ps_set (i := 5) sc_law_holds.nd rfl (by first | exact Or.inl rfl | exact Or.inr rfl) (we_lst (wa_cons we_int (wa_cons we_int (wa_cons we_int (wa_cons we_int wa_nil)))))))
    (wss_cons (ws_while (passes_of rfl) (wt_neO rfl hu (pv 5) (we_lst wa_nil)) (wss_cons (ws_set (ps_set (i := 6) sc_law_holds.nd rfl (by first | exact Or.inl rfl | exact Or.inr rfl) (we_mt rfl PySem.F.slot_list_pop PySem.F.type_list_pop mtU_pop (pv 5) (wa_cons (we_call (n := 2) (D := []) (F_law_pick.mono (by decide)) hr_1 hgd rfl mg_law_pick FD_law_pick.kp b_law_pick_2 hd_b_law_pick_2 hD_b_law_pick_2 (takes_of rfl rfl rfl rfl) (wa_cons (we_var (pv 0)) (wa_cons (we_lenO rfl (pv 5) rfl (T.free 36)) wa_nil))) wa_nil))))
    (wss_cons (ws_set (ps_set (i := 7) sc_law_holds.nd rfl (by first | exact Or.inl rfl | exact Or.inr rfl) (we_call (n := 2) (D := []) (F_law_among.mono (by decide)) hr_2 hgd rfl mg_law_among FD_law_among.kp b_law_among_2 hd_b_law_among_2 hD_b_law_among_2 (takes_of rfl rfl rfl rfl) (wa_cons (we_var (pv 0)) (wa_cons (we_ix ix_U (we_var (pv 2)) (we_var (pv 6)) (fun _ _ => rfl)) wa_nil)))))
    (wss_cons (ws_set (ps_set (i := 8) sc_law_holds.nd rfl (by first | exact Or.inl rfl | exact Or.inr rfl) (we_callB (call_reprU hgd hu) rfl (T.free 47) (by decide +kernel) (wa_cons (we_call (n := 3) (D := []) (F_law_called.mono (by decide)) hr_7 hgd rfl mg_law_called FD_law_called.kp b_law_called_3 hd_b_law_called_3 hD_b_law_called_3 (takes_of rfl rfl rfl rfl) (wa_cons (we_var (pv 6)) (wa_cons (we_var (pv 3)) (wa_cons (we_var (pv 7)) wa_nil)))) wa_nil))))
    (wss_cons (ws_set (ps_set (i := 9) sc_law_holds.nd rfl (by first | exact Or.inl rfl | exact Or.inr rfl) (we_call (n := 2) (D := []) (F_law_second.mono (by decide)) hr_3 hgd rfl mg_law_second FD_law_second.kp b_law_second_2 hd_b_law_second_2 hD_b_law_second_2 (takes_of rfl rfl rfl rfl) (wa_cons (we_var (pv 0)) (wa_cons (we_ix ix_U (we_var (pv 2)) (we_var (pv 6)) (fun _ _ => rfl)) wa_nil)))))
    (wss_cons (ws_set (ps_set (i := 10) sc_law_holds.nd rfl (by first | exact Or.inl rfl | exact Or.inr rfl) (we_callB (call_reprU hgd hu) rfl (T.free 47) (by decide +kernel) (wa_cons (we_lst (wa_cons (we_var (pv 1)) (wa_cons (we_var (pv 9)) wa_nil))) wa_nil))))
    (wss_cons (ws_set (ps_set (i := 11) sc_law_holds.nd rfl (by first | exact Or.inl rfl | exact Or.inr rfl) (we_lst wa_nil)))
    (wss_cons (ws_if (wt_bool (wt_or (wt_val (we_callB call_isiU rfl (T.free 37) (by decide +kernel) (wa_cons (we_var (pv 9)) (wa_cons (we_ty rfl (T.free 38) (by decide +kernel)) wa_nil)))) (wt_or (wt_not (wt_val (we_callB call_isiU rfl (T.free 37) (by decide +kernel) (wa_cons (we_var (pv 9)) (wa_cons (we_ty rfl (T.free 35) (by decide +kernel)) wa_nil))))) (wt_or1 (wt_cmp op_notInU (we_var (pv 9)) (we_ix ix_U (we_var (pv 2)) (we_var (pv 6)) (fun _ _ => rfl)) (by rfl)))))) (wss_one (ws_set (ps_set (i := 11) sc_law_holds.nd rfl (by first | exact Or.inl rfl | exact Or.inr rfl) (we_lst (wa_cons (we_ix ix_U (we_lst (wa_cons we_str (wa_cons we_str (wa_cons we_str (wa_cons we_str wa_nil))))) (we_var (pv 6)) (fun _ _ => rfl)) wa_nil))))) wss_nil)
    (wss_cons (ws_if (wt_val (we_var (pv 4))) (wss_one (ws_set (ps_set (i := 11) sc_law_holds.nd rfl (by first | exact Or.inl rfl | exact Or.inr rfl) (we_lst (wa_cons we_str wa_nil))))) wss_nil)
    (wss_cons (ws_if (wt_bool (wt_or (wt_cmp (op_neU hu) (we_call (n := 4) (D := []) (F_law_refused.mono (by decide)) hr_8 hgd rfl mg_law_refused FD_law_refused.kp b_law_refused_4 hd_b_law_refused_4 hD_b_law_refused_4 (takes_of rfl rfl rfl rfl) (wa_cons (we_cmp (op_eqU hu) (we_call (n := 2) (D := []) (F_law_pick.mono (by decide)) hr_1 hgd rfl mg_law_pick FD_law_pick.kp b_law_pick_2 hd_b_law_pick_2 hD_b_law_pick_2 (takes_of rfl rfl rfl rfl) (wa_cons (we_var (pv 0)) (wa_cons we_int wa_nil))) we_int (nomark _)) (wa_cons (we_var (pv 6)) (wa_cons (we_var (pv 1)) (wa_cons (we_var (pv 9)) wa_nil))))) (we_var (pv 11)) (nomark _)) (wt_or1 (wt_cmp (op_neU hu) (we_callB (call_reprU hgd hu) rfl (T.free 47) (by decide +kernel) (wa_cons (we_lst (wa_cons (we_var (pv 1)) (wa_cons (we_var (pv 9)) wa_nil))) wa_nil)) (we_var (pv 10)) (nomark _))))) (wss_one (ws_ret we_bl)) wss_nil)
    (wss_one (ws_if (wt_cmp (op_neU hu) (we_callB (call_reprU hgd hu) rfl (T.free 47) (by decide +kernel) (wa_cons (we_call (n := 3) (D := []) (F_law_called.mono (by decide)) hr_7 hgd rfl mg_law_called FD_law_called.kp b_law_called_3 hd_b_law_called_3 hD_b_law_called_3 (takes_of rfl rfl rfl rfl) (wa_cons (we_var (pv 6)) (wa_cons (we_var (pv 3)) (wa_cons (we_var (pv 7)) wa_nil)))) wa_nil)) (we_var (pv 8)) (nomark _)) (wss_one (ws_ret we_bl)) wss_nil))))))))))))
    (wss_one (ws_ret (we_cmp (op_eqU hu) (we_call (n := 4) (D := []) (F_law_refused.mono (by decide)) hr_8 hgd rfl mg_law_refused FD_law_refused.kp b_law_refused_4 hd_b_law_refused_4 hD_b_law_refused_4 (takes_of rfl rfl rfl rfl) (wa_cons (we_cmp (op_eqU hu) (we_call (n := 2) (D := []) (F_law_pick.mono (by decide)) hr_1 hgd rfl mg_law_pick FD_law_pick.kp b_law_pick_2 hd_b_law_pick_2 hD_b_law_pick_2 (takes_of rfl rfl rfl rfl) (wa_cons (we_var (pv 0)) (wa_cons we_int wa_nil))) we_int (nomark _)) (wa_cons we_int (wa_cons (we_var (pv 1)) (wa_cons we_non wa_nil))))) (we_ix ix_U (we_lst (wa_cons (we_lst (wa_cons we_str wa_nil)) (wa_cons (we_lst wa_nil) wa_nil))) (we_callTy call_intU rfl (T.free 35) (by decide +kernel) (wa_cons (we_not (we_var (pv 4))) wa_nil)) (fun _ _ => rfl)) (nomark _))))))))))


theorem ok_law [WW] {P : Program} {K : PySem.W.Frag} {mg : Str → Option Value} {base : Heap} (T : Tx fas css fns K mg) : ∃ fd, FunD K "law" "law" (defArgs s_law) (defBody s_law) (defScope s_law) [] [] (He.ga K "law") fd ∧ FnG P WW.w K mg base 10 (He.ga K "law") fd ["script"] (spF K (He.ga K) 1 sp_law) := by
  obtain ⟨fd, FD⟩ := T.def_ 34 (d := d_law) rfl
  have FD : FunD K "law" "law" (defArgs s_law) (defBody s_law) (defScope s_law) [] [] (He.ga K "law") fd := FD
  obtain ⟨fd_law_holds, FD_law_holds, F_law_holds⟩ := ok_law_holds (P := P) (base := base) T
  have mg_law_holds := T.glo 33 (x := "_law_holds") rfl
  have b_law_holds_2 : L2.Binds K fd_law_holds ["pot", "ring"] [] := FD_law_holds.bindsN fun _ _ _ _ _ _ us hl => match us, hl with | [_, _], _ => rfl
  have hd_b_law_holds_2 : Vals [] [] := .nil
  have hD_b_law_holds_2 : ∀ (W : Wd) (H : Hp), RVs K W H [] [] := fun _ _ => .nil
  obtain ⟨fd_law_pot, FD_law_pot, F_law_pot⟩ := ok_law_pot (P := P) (base := base) T
  have mg_law_pot := T.glo 0 (x := "_law_pot") rfl
  have b_law_pot_1 : L2.Binds K fd_law_pot ["cell"] [] := FD_law_pot.bindsN fun _ _ _ _ _ _ us hl => match us, hl with | [_], _ => rfl
  have hd_b_law_pot_1 : Vals [] [] := .nil
  have hD_b_law_pot_1 : ∀ (W : Wd) (H : Hp), RVs K W H [] [] := fun _ _ => .nil
  obtain ⟨fd_law_ring, FD_law_ring, F_law_ring⟩ := ok_law_ring (P := P) (base := base) T
  have mg_law_ring := T.glo 3 (x := "_law_ring") rfl
  have b_law_ring_1 : L2.Binds K fd_law_ring ["pot"] [] := FD_law_ring.bindsN fun _ _ _ _ _ _ us hl => match us, hl with | [_], _ => rfl
  have hd_b_law_ring_1 : Vals [] [] := .nil
  have hD_b_law_ring_1 : ∀ (W : Wd) (H : Hp), RVs K W H [] [] := fun _ _ => .nil
  obtain ⟨fd_law_room_holds, FD_law_room_holds, F_law_room_holds⟩ := ok_law_room_holds (P := P) (base := base) T
  have mg_law_room_holds := T.glo 27 (x := "_law_room_holds") rfl
  have b_law_room_holds_2 : L2.Binds K fd_law_room_holds ["pot", "space"] [] := FD_law_room_holds.bindsN fun _ _ _ _ _ _ us hl => match us, hl with | [_, _], _ => rfl
  have hd_b_law_room_holds_2 : Vals [] [] := .nil
  have hD_b_law_room_holds_2 : ∀ (W : Wd) (H : Hp), RVs K W H [] [] := fun _ _ => .nil
  refine ⟨fd, FD, fn_ok (ga := He.ga K) (t := p_law) FD sc_law (fun cdv A outer s H E hr hgd => ?_) conf_law⟩
  have hu := hr.units
  have hr_1 : Room 9 _ := hr.mono (by decide : 9 ≤ 9)
  have hr_3 : Room 9 _ := hr.mono (by decide : 9 ≤ 9)
  have hr_9 : Room 9 _ := hr.mono (by decide : 9 ≤ 9)
  exact (wss_cons (ws_for (passes_of rfl) rfl (wi_any rfl (we_bin op_addU (we_lst (wa_cons we_int wa_nil)) (we_sl sl_U (we_var (pv 0)) wp_none (wp_some we_int)))) (wg_name (pg_name (i := 1) sc_law.nd rfl (by first | exact Or.inl rfl | exact Or.inr rfl))) (wss_cons (ws_setR (ps_set (i := 2) sc_law.nd rfl (by first | exact Or.inl rfl | exact Or.inr rfl) (we_call (n := 1) (D := []) (F_law_pot.mono (by decide)) hr_1 hgd rfl mg_law_pot FD_law_pot.kp b_law_pot_1 hd_b_law_pot_1 hD_b_law_pot_1 (takes_of rfl rfl rfl rfl) (wa_cons (we_var (pv 1)) wa_nil))))
    (wss_cons (ws_set (ps_set (i := 3) sc_law.nd rfl (by first | exact Or.inl rfl | exact Or.inr rfl) (we_call (n := 1) (D := []) (F_law_ring.mono (by decide)) hr_3 hgd rfl mg_law_ring FD_law_ring.kp b_law_ring_1 hd_b_law_ring_1 hD_b_law_ring_1 (takes_of rfl rfl rfl rfl) (wa_cons (we_var (pv 2)) wa_nil))))
    (wss_one (ws_if (wt_bool (wt_or (wt_not (wt_val (we_call (n := 2) (D := []) (F_law_holds.mono (by decide)) hr_9 hgd rfl mg_law_holds FD_law_holds.kp b_law_holds_2 hd_b_law_holds_2 hD_b_law_holds_2 (takes_of rfl rfl rfl rfl) (wa_cons (we_var (pv 2)) (wa_cons (we_var (pv 3)) wa_nil))))) (wt_or1 (wt_not (wt_val (we_call (n := 2) (D := []) (F_law_room_holds.mono (by decide)) hr_9 hgd rfl mg_law_room_holds FD_law_room_holds.kp b_law_room_holds_2 hd_b_law_room_holds_2 hD_b_law_room_holds_2 (takes_of rfl rfl rfl rfl) (wa_cons (we_var (pv 2)) (wa_cons (we_bin op_addU (we_sl sl_U (we_var (pv 3)) wp_none (wp_some we_int)) (we_tup (wa_cons (we_ix ix_U (we_var (pv 3)) we_int (fun _ _ => rfl)) wa_nil))) wa_nil)))))))) (wss_one (ws_ret we_bl)) wss_nil)))))
    (wss_one (ws_ret we_bl)))

theorem law_true (ns : List Int) (hl : ns.length ≤ 63) (hb : ∀ z ∈ ns, Builtin.Int.intBits z ≤ 1048576) : sp_law [.scr ns] [] (fun sv _ => sv = .val (.bl true)) fun _ _ => False := fun _ => rfl

theorem fd_uniq {K : PySem.W.Frag} {x qual : Str} {params : Arguments} {body : List Stmt} {scope : Scope} {dvs : List V} {kws : List (Str × V)} {f : Addr} {fd fd' : FuncData} (a : FunD K x qual params body scope dvs kws f fd) (b : FunD K x qual params body scope dvs kws f fd') : fd = fd' := by
  obtain ⟨_, _, _, _, _, _, _, _, _, _, _, e, _⟩ := a.ex
  obtain ⟨_, _, _, _, _, _, _, _, _, _, _, e', _⟩ := b.ex
  rw [e] at e'
  cases e'
  rfl
def looseS : List String := ["SlotError", "InvalidLayout", "InvalidRoom", "InvalidSpot", "InvalidLine", "InvalidSlot", "is_whole", "has_measures", "is_layout", "is_room", "need_layout", "need_room", "need_slot", "layout_stride", "slots_in", "need_line", "need_spot", "first_spot", "spot_owner", "owner", "lines_of", "slots_of", "line_pattern", "pattern_of", "places", "_law_pot", "_law_pick", "_law_among", "_law_ring", "_law_laid", "_law_lines", "_law_bad_ring", "_law_bad_room", "_law_second", "_law_called", "_law_named", "_law_refused", "_law_numbers", "_law_room_holds", "_law_holds"]
abbrev Rw : PySem.W.OpenRow := PySem.W.OpenLaw.row PySem.Challenge.rw_lentslots_k06_wrong_arguments_of_layouts
abbrev hk : PySem.W.Hook := hookV 4 fas css fns
def ob (s : PySem.W.SharedT) : He.AlD := obsVG 4 fas css fns (HandSHeadRun.getT s)
theorem ob_eq (s : PySem.W.SharedT) : ob s = hk.obs s.abs := by
  have e : HandSHeadRun.getT s = s.abs.heap.get? := funext (HandSHeadRun.getT_eq s)
  unfold ob
  rw [e]
  rfl
def looseL : List PySem.Str := looseS.map PySem.Str.ofString
theorem run (w : World) : HandSHeadRun.RunEq Rw (PySem.W.view Rw.prog [43]) hk ob 20000 looseL w := by
  intro os
  kernel_rfl
theorem facts {P : Program} {w : World} {K : PySem.W.Frag} {h : Heap} {mg : Str → Option Value} {f : Addr} (X : K.In h) (G : h.Ns mainGlobals mg) (hfa : mg ("law" : Str) = some (.ref f)) (c : SaysV fas css fns K) :
    ∃ fd : FuncData, (∀ (s : Shared) (v : Value), BindsTo s fd ⟨[v], []⟩ [("script", v)]) ∧ ∀ base : Heap, K.In base → base.Ns mainGlobals mg → FnG P w K mg base 10 f fd ["script"] (@spF ⟨w⟩ K (He.ga K) 1 sp_law) := by
  letI : WW := ⟨w⟩
  have T : Tx fas css fns K mg := ⟨c, h, X, G⟩
  obtain ⟨fd, F, _⟩ := ok_law (P := P) (base := h) T
  have e := hfa.symm.trans (T.glo 34 (x := "law") rfl)
  cases e
  have b := FunD.bindsA (ps := ["script"]) F fun _ _ _ _ _ _ us hl => match us, hl with | [_], _ => rfl
  refine ⟨fd, fun s v => b s [v] rfl, fun base _ _ => ?_⟩
  obtain ⟨fd', F', H⟩ := ok_law (P := P) (base := base) T
  cases fd_uniq F F'
  exact H
end Vi.Law
open PySem PySem.W PySem.Calls PyProof.Rows
theorem PySem.Challenge.cw_lentslots_k06_wrong_arguments_of_layouts_holds : PySem.Challenge.rw_lentslots_k06_wrong_arguments_of_layouts.Holds := by
  w_on; o_law
  refine HandSHeadRun.head_any (r := OpenLaw.row PySem.Challenge.rw_lentslots_k06_wrong_arguments_of_layouts) (q := view (OpenLaw.row PySem.Challenge.rw_lentslots_k06_wrong_arguments_of_layouts).prog [43]) (H := Vi.Law.hk) (ob := Vi.Law.ob) (M := 20000) (loose := Vi.Law.looseL) (d := HandSHeadRun.topDef (OpenLaw.row PySem.Challenge.rw_lentslots_k06_wrong_arguments_of_layouts).prog 43) (kwd := []) Vi.Law.ob_eq
    (by kernel_rfl) (fun s => by kernel_rfl) Vi.Law.run (by kernel_rfl) (by kernel_rfl) (by kernel_rfl) (by rfl) (by first | assumption | decide +kernel) (by decide +kernel) ⟨rfl, rfl, rfl, rfl, rfl, by decide +kernel⟩ ?hw ?hc
  case hw => w_witness2
  case hc =>
    refine Vi.law_end (l := PySem.Challenge.rw_lentslots_k06_wrong_arguments_of_layouts) (k := 10) (x := "script") rfl (by kernel_rfl) ⟨rfl, by decide, by decide⟩ ?F
    intro w mg fa h Y G hmg0
    obtain ⟨K, KX, c⟩ := Y
    have hmg : mg ("law" : PySem.Str) = some (.ref fa) := by
      have e : (HandSHeadRun.topDef (OpenLaw.row PySem.Challenge.rw_lentslots_k06_wrong_arguments_of_layouts).prog 43).name = ("law" : PySem.Str) := by kernel_rfl
      rw [← e]
      exact hmg0
    obtain ⟨fd, hb, hF⟩ := Vi.Law.facts (P := (PySem.Challenge.rw_lentslots_k06_wrong_arguments_of_layouts).prog) (w := w) KX G hmg c
    exact ⟨K, fd, He.ga K, Vi.Law.sp_law, KX, hb, Vi.Law.law_true, hF⟩
