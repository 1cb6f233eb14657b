import PyProof.Rows.All
import Wide.All
import OpenK.AllK
import Wide.FinOn
import HandS.Base
import HandS.Call
import HandS.List
import HandS.Comp
import HandS.Ends
import HandS.Dict
import HandS.Iter
import HandS.Text
import KE.KCallOwn
import PyProof.EqKinds
import PyProof.InstEq
import PyProof.FactsAll.object_2
import PyProof.FactsInt
import PyProof.FactsAll.str_1
import PyProof.FactsAll.int_1
import PyProof.FactsAll.bool_1
import PyProof.FactsAll.list_1
import PyProof.FactsAll.tuple_1
import PyProof.FactsAll.dict_1
import PyProof.FactsAll.NoneType_1
import HandS.OwnEq
import HandS.Conv
import PyProof.LongRange
import PyProof.ListRange
import HandS.More
import HandS.SetFor
import PyProof.Rows.SortShellAny
import PyProof.Rows.SetFrom
import PyProof.ReprRoads
import PyProof.Rows.RegStrFacts
import HandS.Words
import HandS.ForMost
import HandS.Defaults
import HandS.IsInst
import HandS.TupAny
import HandS.Style
import HandS.Zip
import HandS.Walk
import HandS.WideBits
import HandS.RaiseMore
import HandS.SortInts
import PySem.Challenge.RW_shortgoings_k49_whole_first_apart
set_option Elab.async false
set_option linter.all false
set_option maxRecDepth 100000
set_option maxHeartbeats 4000000
/-! The mathematics of days: a ring from a day on, less some, and some more. No program here. -/
namespace Fa

/-- above the last day, where there is one -/
def above : Option Int → Int → Bool
  | none, _ => false
  | some h, x => decide (h < x)
/-- below the end of a stretch, where it has one -/
def under : Option Int → Int → Prop
  | none, _ => True
  | some e, x => x < e

/-- days as data -/
structure Dd where
  ring : Int → Bool
  lo : Int
  hi : Option Int
  gone : List Int
  more : List Int

def Dd.has (d : Dd) (x : Int) : Bool :=
  if x ∈ d.more then true else if x < d.lo ∨ above d.hi x = true ∨ x ∈ d.gone then false else d.ring x

/-- a day at which a stretch begins -/
def Dd.Edge (d : Dd) (y : Int) : Prop :=
  y = d.lo ∨ (∃ h, d.hi = some h ∧ y = h + 1) ∨ (∃ v, (v ∈ d.gone ∨ v ∈ d.more) ∧ (y = v ∨ y = v + 1))

theorem above_iff {o : Option Int} {x : Int} : above o x = true ↔ ∃ h, o = some h ∧ h < x := by
  cases o with
  | none => simp [above]
  | some h => simp [above]

/-- within a stretch the ring comes round -/
theorem has_back (d : Dd) {m : Int} (hm : 0 < m) (per : ∀ x, 0 ≤ x → d.ring (x + m) = d.ring x) {b x : Int} (h0 : 0 ≤ b) (hb : b ≤ x - m)
    (calm : ∀ y, b < y → y ≤ x → ¬ d.Edge y) : d.has x = d.has (x - m) := by
  have n1 : x ∉ d.more := fun h => calm x (by omega) (Int.le_refl _) (.inr (.inr ⟨x, .inr h, .inl rfl⟩))
  have n2 : x ∉ d.gone := fun h => calm x (by omega) (Int.le_refl _) (.inr (.inr ⟨x, .inl h, .inl rfl⟩))
  have n3 : x - m ∉ d.more := fun h => calm (x - m + 1) (by omega) (by omega) (.inr (.inr ⟨x - m, .inr h, .inr rfl⟩))
  have n4 : x - m ∉ d.gone := fun h => calm (x - m + 1) (by omega) (by omega) (.inr (.inr ⟨x - m, .inl h, .inr rfl⟩))
  have e1 : (x < d.lo) ↔ (x - m < d.lo) := by
    constructor
    · intro h; omega
    · intro h
      refine Int.lt_of_not_ge fun g => ?_
      exact calm d.lo (by omega) g (.inl rfl)
  have e2 : (above d.hi x = true) ↔ (above d.hi (x - m) = true) := by
    rw [above_iff, above_iff]
    constructor
    · rintro ⟨h, e, g⟩
      refine ⟨h, e, Int.lt_of_not_ge fun g2 => ?_⟩
      exact calm (h + 1) (by omega) (by omega) (.inr (.inl ⟨h, e, rfl⟩))
    · rintro ⟨h, e, g⟩
      exact ⟨h, e, by omega⟩
  have e3 : d.ring x = d.ring (x - m) := by
    have := per (x - m) (by omega)
    rw [show x - m + m = x by omega] at this
    exact this
  unfold Dd.has
  rw [if_neg n1, if_neg n3, e3]
  simp only [e1, e2, n2, n4, or_false]

/-- two agree on a stretch where they agree on its first m days -/
theorem agree_on (d e : Dd) {m : Int} (hm : 0 < m) (pd : ∀ x, 0 ≤ x → d.ring (x + m) = d.ring x) (pe : ∀ x, 0 ≤ x → e.ring (x + m) = e.ring x)
    {b : Int} {en : Option Int} (h0 : 0 ≤ b) (cd : ∀ y, b < y → under en y → ¬ d.Edge y) (ce : ∀ y, b < y → under en y → ¬ e.Edge y)
    (h : ∀ x, b ≤ x → x < b + m → under en x → d.has x = e.has x) : ∀ x, b ≤ x → under en x → d.has x = e.has x := by
  have un : ∀ {x y : Int}, y ≤ x → under en x → under en y := fun {x y} l u => by
    cases en with
    | none => trivial
    | some z => exact Int.lt_of_le_of_lt l u
  have go : ∀ (n : Nat) (x : Int), b ≤ x → (x - b).toNat ≤ n → under en x → d.has x = e.has x := by
    intro n
    induction n with
    | zero =>
      intro x hx hn u
      exact h x hx (by omega) u
    | succ n ih =>
      intro x hx hn u
      by_cases hl : x < b + m
      · exact h x hx hl u
      · have u' : under en (x - m) := un (by omega) u
        rw [has_back d hm pd h0 (by omega) fun y a c => cd y a (un c u), has_back e hm pe h0 (by omega) fun y a c => ce y a (un c u)]
        exact ih (x - m) (by omega) (by omega) u'
  exact fun x hx u => go (x - b).toNat x hx (Nat.le_refl _) u

/-- what the least day apart is -/
def Apart (f g : Int → Bool) : Option Int → Prop
  | none => ∀ x, 0 ≤ x → f x = g x
  | some d => 0 ≤ d ∧ f d ≠ g d ∧ ∀ x, 0 ≤ x → x < d → f x = g x

theorem Apart.uniq {f g : Int → Bool} {r r' : Option Int} (h : Apart f g r) (h' : Apart f g r') : r = r' := by
  cases r with
  | none =>
    cases r' with
    | none => rfl
    | some d => exact absurd (h d h'.1) h'.2.1
  | some c =>
    cases r' with
    | none => exact absurd (h' c h.1) h.2.1
    | some d =>
      obtain ⟨c0, c1, c2⟩ := h
      obtain ⟨d0, d1, d2⟩ := h'
      rcases Int.lt_trichotomy c d with l | l | l
      · exact absurd (d2 c c0 l) c1
      · rw [l]
      · exact absurd (c2 d d0 l) d1
theorem Apart.symm {f g : Int → Bool} {r : Option Int} (h : Apart f g r) : Apart g f r := by
  cases r with
  | none => exact fun x hx => (h x hx).symm
  | some c => exact ⟨h.1, fun e => h.2.1 e.symm, fun x a b => (h.2.2 x a b).symm⟩
theorem Apart.self (f : Int → Bool) : Apart f f none := fun _ _ => rfl
theorem Apart.under {f g : Int → Bool} {r : Option Int} (h : Apart f g r) : ∀ x, 0 ≤ x → Fa.under r x → f x = g x := by
  cases r with
  | none => exact fun x hx _ => h x hx
  | some c => exact fun x hx u => h.2.2 x hx u

/-- rising edges, 0 the first -/
structure Rise (es : List Int) : Prop where
  up : es.Pairwise (· < ·)
  zero : es[0]? = some 0

theorem Rise.nonneg {es : List Int} (h : Rise es) : ∀ y ∈ es, 0 ≤ y := by
  cases es with
  | nil => intro y hy; cases hy
  | cons a r =>
    have ha : a = 0 := by simpa using h.zero
    subst ha
    intro y hy
    rcases List.mem_cons.mp hy with e | e
    · omega
    · have := (List.pairwise_cons.mp h.up).1 y e; omega
theorem Rise.tail {es : List Int} (h : Rise es) : es = 0 :: es.filter (fun y => decide (0 < y)) := by
  cases es with
  | nil => cases h.zero
  | cons a r =>
    have ha : a = 0 := by simpa using h.zero
    subst ha
    have k := (List.pairwise_cons.mp h.up).1
    rw [List.filter_cons_of_neg (by simp)]
    congr 1
    exact (List.filter_eq_self.mpr fun y hy => by simpa using k y hy).symm
/-- nothing of the list lies between two that follow one another -/
theorem between {es : List Int} (h : es.Pairwise (· < ·)) : ∀ {i : Nat} {b : Int}, es[i]? = some b → ∀ y ∈ es, b < y → ¬ under es[i + 1]? y := by
  induction es with
  | nil => intro i b e; simp at e
  | cons a r ih =>
    intro i b e y hy hb hu
    obtain ⟨k1, k2⟩ := List.pairwise_cons.mp h
    cases i with
    | zero =>
      have ea : a = b := by simpa using e
      subst ea
      rcases List.mem_cons.mp hy with q | q
      · omega
      · cases r with
        | nil => cases q
        | cons c r' =>
          have hu' : y < c := by simpa [under] using hu
          rcases List.mem_cons.mp q with q | q
          · omega
          · have := (List.pairwise_cons.mp k2).1 y q; omega
    | succ i =>
      have e' : r[i]? = some b := by simpa using e
      have hu' : under r[i + 1]? y := by simpa using hu
      rcases List.mem_cons.mp hy with q | q
      · have := k1 b (List.mem_of_getElem? e'); omega
      · exact ih k2 e' y q hb hu'
end Fa
/-! Rules of my own, first part: len, str, ==, != of instances with methods of the text; == told by the right side; in over two. -/
namespace L2
open PySem PySem.Spec PyProof.Rows

section
variable {X : Cx} {CX : CXT} {k : Nat} {f C : Addr} {fd : FuncData} {ps : List Str} {sp : Sp} {E : XK}

/-- a def of the text called at a place A below the body (no frames between) -/
theorem run_at {A : Around} {pins : List (Addr × Obj)} {σ : St} {H : Hp} {s : Shared} {Q : VK} {us : List Value} {vs : List V}
    (F : FnOk X.prog X.w X.K X.mg X.base CX k f fd ps sp) (hr : Room k A) (hA : A.frames = X.A.frames) (hb : Binds X.K fd ps []) (hx : Passes CX X E)
    (I : Inv X pins σ H s) (r : Vals vs us) (h : sp vs H Q E) : wpAny (model X.prog X.w) A (call (.ref f) us) (EP X pins σ Q) X.xe s := by
  have e := I.env0
  have e0 : Env0 X.prog X.w X.K X.mg X.base A X.stack s H := ⟨hA.trans e.frames, e.mod, e.bs, e.bsz, e.funs, e.frf, e.hok, e.bare⟩
  have hl : us.length = ps.length := r.length.symm.trans (F.len _ _ _ _ h)
  have hb' : BindsTo s fd ⟨us, []⟩ (ps.zip us) := by
    have q := hb s us I.kIn (by simpa using hl)
    simpa using q
  refine wpAny_call (codeAny_mono (F.run A X.stack s H ⟨us, []⟩ us vs Q E hr e0 hb' r h) fun res s' hq => ?_)
  cases res with
  | error er => exact hx pins σ H s er s' I hq
  | ok fl =>
    cases fl with
    | ret u => exact I.after hq
    | next => exact False.elim hq
    | brk => exact False.elim hq
    | cont => exact False.elim hq

/-- len(o) by the text's __len__ -/
theorem call_lenOwn (F : FnOk X.prog X.w X.K X.mg X.base CX k f fd ps sp) (hr : Room (k + 1) X.A) (hs : PySem.W.findIn X.K (.ref C) "__len__" = some (some (.ref f)))
    (hf : PySem.W.isFn X.K (.ref f) = true) (hb : Binds X.K fd ps []) (hx : Passes CX X E) :
    CallR X (.builtin "len") (fun xs H Q => ∃ a dx fs, xs = [.ref a] ∧ H a = some (.ins C dx fs) ∧ sp [.ref a] H (fun v H' => ∃ n : Int, v = .int n ∧ 0 ≤ n ∧ n < 2 ^ 63 ∧ Q (.int n) H') E) := by
  intro pins s σ H xs us Q I r h
  obtain ⟨a, dx, fs, rfl, ha, h⟩ := h
  obtain ⟨u, rfl, ru⟩ := vals1 r
  cases ru
  obtain ⟨mA, J, _⟩ := ins_get I.hok ha
  obtain ⟨od, J, _⟩ := J.look
  obtain ⟨m, hF⟩ := I.fr
  refine PySem.W.len_K hF I.ok.mod.kin J hs hf (wpAny_mono (run_at (vs := [V.ref a]) (us := [Value.ref a]) F hr.in1 rfl hb hx I (.cons rfl .nil) h) (fun v s' hq => ?_) fun _ _ z => z)
  obtain ⟨z, H', I', rz, n, rfl, h0, h1, q⟩ := hq
  obtain ⟨t, rfl⟩ := rz
  exact ⟨⟨h0, h1⟩, .int n, H', I'.tok _, ⟨_, rfl⟩, q⟩

/-- str(o) by the text's __str__ -/
theorem call_strOwn (F : FnOk X.prog X.w X.K X.mg X.base CX k f fd ps sp) (hr : Room (k + 2) X.A) (hs : PySem.W.findIn X.K (.ref C) "__str__" = some (some (.ref f)))
    (hf : PySem.W.isFn X.K (.ref f) = true) (hb : Binds X.K fd ps []) (hx : Passes CX X E) :
    CallR X (.type "str") (fun xs H Q => ∃ a dx fs, xs = [.ref a] ∧ H a = some (.ins C dx fs) ∧ sp [.ref a] H (fun v H' => ∃ z : Str, v = .str z ∧ Q (.str z) H') E) := by
  intro pins s σ H xs us Q I r h
  obtain ⟨a, dx, fs, rfl, ha, h⟩ := h
  obtain ⟨u, rfl, ru⟩ := vals1 r
  cases ru
  obtain ⟨mA, J, _⟩ := ins_get I.hok ha
  obtain ⟨od, J, _⟩ := J.look
  have hr2 : Room k X.A.in1.in1 := Room.in1 (Room.in1 hr)
  refine PySem.W.kso_call hr2.units0 I.kIn J hs hf (wpAny_mono (run_at (vs := [V.ref a]) (us := [Value.ref a]) F hr2 rfl hb hx I (.cons rfl .nil) h) (fun v s' hq => ?_) fun _ _ z => z)
  obtain ⟨z, H', I', rz, y, rfl, q⟩ := hq
  obtain ⟨t, rfl⟩ := rz
  exact ⟨.str y, H', I', ⟨_, rfl⟩, q⟩

/-- the type of a value that a rich comparison asks for -/
inductive TyR (H : Hp) : V → Value → Prop where
  | non : TyR H .non (.type "NoneType")
  | bl (x : Bool) : TyR H (.bl x) (.type "bool")
  | int (i : Int) : TyR H (.int i) (.type "int")
  | str (x : Str) : TyR H (.str x) (.type "str")
  | lst {a : Addr} {xs : List V} (e : H a = some (.lst xs)) : TyR H (.ref a) (.type "list")
  | tup {a : Addr} {xs : List V} (e : H a = some (.tup xs)) : TyR H (.ref a) (.type "tuple")
  | dK {a : Addr} {kvs : List (Key × V)} (e : H a = some (.dK kvs)) : TyR H (.ref a) (.type "dict")
  | ins {a C dx : Addr} {fs : List (Str × V)} (e : H a = some (.ins C dx fs)) : TyR H (.ref a) (.ref C)
theorem TyR.looks {pins : List (Addr × Obj)} {σ : St} {H : Hp} {s : Shared} {y : V} {u t : Value} {M : Model} (I : Inv X pins σ H s) (r : RelV y u) (ty : TyR H y t) : PySem.W.Looks M s.heap (typeOf u) t := by
  have at_ : ∀ {a : Addr} {o : Obj}, s.heap.get? a = some o → PySem.W.Looks M s.heap (typeOf (.ref a)) o.cls := fun e A Q E s' kp q => wpAny_typeOf_ref (kp _ _ e) q
  cases ty with
  | non => cases r; exact .of_pure rfl
  | bl x => cases r; exact .of_pure rfl
  | int i => obtain ⟨_, rfl⟩ := r; exact .of_pure rfl
  | str x => obtain ⟨_, rfl⟩ := r; exact .of_pure rfl
  | lst e =>
    cases r
    obtain ⟨_, _, n, _, h1⟩ := (show ObjOk X.prog X.w H s.heap _ (.lst _) from I.hok _ _ e)
    exact at_ h1
  | tup e =>
    cases r
    obtain ⟨_, _, _, o, h1, h2, _⟩ := (show ObjOk X.prog X.w H s.heap _ (.tup _) from I.hok _ _ e)
    exact h2 ▸ at_ h1
  | dK e =>
    cases r
    obtain ⟨_, _, vs, _, o, es, ep, h1, h2, _⟩ := (show ObjOk X.prog X.w H s.heap _ (.dK _) from I.hok _ _ e)
    exact h2.1 ▸ at_ h1
  | ins e =>
    cases r
    obtain ⟨mA, J, _⟩ := ins_get I.hok e
    obtain ⟨od, J, _⟩ := J.look
    exact J.type

/-- o == y, the text's __eq__ of the left side -/
def rOwnEq (K : PySem.W.Frag) (C : Addr) (sp : Sp) (E : XK) : R2 := fun x y H Q => ∃ a dx fs t, x = .ref a ∧ H a = some (.ins C dx fs) ∧ TyR H y t ∧ PySem.W.notFirst K C t = true ∧
  sp [.ref a, y] H (fun v H' => ∃ b, v = .bl b ∧ Q (.bl b) H') E
theorem rc_own {A : Around} (F : FnOk X.prog X.w X.K X.mg X.base CX k f fd ps sp) (hr : Room k A) (hA : A.frames = X.A.frames) (hs : PySem.W.findIn X.K (.ref C) "__eq__" = some (some (.ref f)))
    (hf : PySem.W.isFn X.K (.ref f) = true) (hb : Binds X.K fd ps []) (hx : Passes CX X E) {pins : List (Addr × Obj)} {s : Shared} {σ : St} {H : Hp} {x y : V} {v u : Value} {Q : VK}
    (I : Inv X pins σ H s) (rx : RelV x v) (ry : RelV y u) (h : rOwnEq X.K C sp E x y H Q) : wpAny (model X.prog X.w) A (richCompare .Eq v u) (EP X pins σ Q) X.xe s := by
  obtain ⟨a, dx, fs, t, rfl, ha, ty, hn, h⟩ := h
  cases rx
  obtain ⟨mA, J, _⟩ := ins_get I.hok ha
  obtain ⟨od, J, _⟩ := J.look
  obtain ⟨m, hF⟩ := I.fr
  refine PySem.W.cmp_K (op := .Eq) hr.units0 hF I.ok.mod.kin J (ty.looks I ry) hn hs hf (wpAny_mono (run_at (vs := [V.ref a, y]) (us := [Value.ref a, u]) F hr hA hb hx I (.cons rfl (.cons ry .nil)) h) (fun w s' hq => ?_) fun _ _ z => z)
  obtain ⟨z, H', I', rz, b, rfl, q⟩ := hq
  cases rz
  exact ⟨.bl b, H', I', rfl, q⟩
theorem op_eqOwn (F : FnOk X.prog X.w X.K X.mg X.base CX k f fd ps sp) (hr : Room k X.A) (hs : PySem.W.findIn X.K (.ref C) "__eq__" = some (some (.ref f)))
    (hf : PySem.W.isFn X.K (.ref f) = true) (hb : Binds X.K fd ps []) (hx : Passes CX X E) : OpR X (compareOp .Eq) (rOwnEq X.K C sp E) := by
  intro pins s σ H x y v u Q I rx ry h
  show wpAny (model X.prog X.w) X.A (richCompare .Eq v u) (EP X pins σ Q) X.xe s
  exact rc_own F hr rfl hs hf hb hx I rx ry h
end
end L2
/-! Rules of my own, second part: != by object's __ne__ over the text's __eq__. -/
namespace L2
open PySem PySem.Spec PyProof.Rows

section
variable {prog : Program} {w : World} {A : Around} {E : Value → Shared → Prop} {s : Shared} {K : PySem.W.Frag} {x C f : Addr} {ox : Obj} {od : Option Obj}

/-- what __eq__ of the text gives, turned round -/
def NotBack (Q : Value → Shared → Prop) (v : Value) (s' : Shared) : Prop := match v with
  | .bool b => Q (.bool (!b)) s'
  | _ => False
theorem ne_body {b : Value} {Q : Fin → Shared → Prop} (hu : A.units < cLine) (X : K.In s.heap) (I : PySem.W.InstAt s.heap x ox C od) (hs : PySem.W.findIn K (.ref C) "__eq__" = some (some (.ref f)))
    (hf : PySem.W.isFn K (.ref f) = true) (h : wpAny (model prog w) A (call (.ref f) [.ref x, b]) (NotBack fun r s' => Q (.done (.ret r)) s') E s) :
    wpAny (model prog w) A (Builtin.«object.__ne__» ⟨[.ref x, b], []⟩) Q E s := by
  unfold Builtin.«object.__ne__»
  refine wpAny_bind (m := slotArgs "__ne__" 1 _) (wpAny_pure ?_)
  refine wpAny_bind (m := cRoomFor _ _) (wpAny_cRoomFor hu ?_)
  refine wpAny_bind (m := callSpecialIfBound? (.ref x) (Str.ofString "__eq__") [b]) (PySem.W.ifBound_K X I hs hf (wpAny_mono h (fun v s' hv => ?_) fun _ _ z => z))
  cases v <;> first | exact hv.elim | skip
  refine wpAny_bind (wpAny_truthy_bool ?_)
  exact wpAny_pure hv
theorem ne_call {b : Value} {Q : Value → Shared → Prop} (hu : A.in1.units < cLine) (X : K.In s.heap) (I : PySem.W.InstAt s.heap x ox C od) (hs : PySem.W.findIn K (.ref C) "__eq__" = some (some (.ref f)))
    (hf : PySem.W.isFn K (.ref f) = true) (ho : PySem.W.subIn K (.ref C) (.type "object") = some true) (h : wpAny (model prog w) A.in1 (call (.ref f) [.ref x, b]) (NotBack Q) E s) :
    wpAny (model prog w) A (call (.builtin "object.__ne__") [.ref x, b]) Q E s := by
  refine wpAny_call (codeAny_call_builtin PySem.F.slot_object_ne.plain PySem.F.entry_object_ne ?_)
  refine PySem.W.check_slot (owner := "object") (n := "__ne__") (by decide +kernel) (by decide +kernel) (I.type.andThen (PySem.W.looks_subIn X ho)) (PySem.F.args_object_ne_2 _ _) ?_
  exact ne_body hu X I hs hf h
theorem ne_own {b tb : Value} {Q : Value → Shared → Prop} (hu : A.in1.units < cLine) (X : K.In s.heap) (I : PySem.W.InstAt s.heap x ox C od) (hb : PySem.W.Looks (model prog w) s.heap (typeOf b) tb) (hn : PySem.W.notFirst K C tb = true)
    (hs : PySem.W.findIn K (.ref C) "__eq__" = some (some (.ref f))) (hf : PySem.W.isFn K (.ref f) = true) (hne : PySem.W.findIn K (.ref C) "__ne__" = some (some (.builtin "object.__ne__")))
    (ho : PySem.W.subIn K (.ref C) (.type "object") = some true) (h : wpAny (model prog w) A.in1 (call (.ref f) [.ref x, b]) (NotBack Q) E s) :
    wpAny (model prog w) A (richCompare .NotEq (.ref x) b) Q E s := by
  have hu0 : A.units < cLine := Nat.lt_of_le_of_lt (Nat.le_succ _) hu
  have back : ∀ {Q' : Value → Shared → Prop}, (∀ r s', Q (.bool r) s' → Q' (.bool r) s') → wpAny (model prog w) A (call (.builtin "object.__ne__") [.ref x, b]) Q' E s := fun hq =>
    ne_call hu X I hs hf ho (wpAny_mono h (fun v s' hv => by cases v <;> first | exact hv.elim | exact hq _ _ hv) fun _ _ z => z)
  have one : wpAny (model prog w) A (tryCompare (.ref x) (cmpInfo .NotEq).2.1 b) (fun r s' => ∃ v, r = some v ∧ Q v s') E s := by
    unfold tryCompare callSpecialIfBound? bindSpecialIfBound?
    refine wpAny_bind (wpAny_holding (wpAny_bind (wpAny_bind (wpAny_bind (I.type.here ((PySem.W.looks_findIn X hne).here ?_))))))
    have slotb := PySem.F.slot_object_ne.bind (.ref x)
    refine wpAny_bind (wpAny_askSetting ?_)
    have fin : wpAny (model prog w) A (call (.builtin "object.__ne__") ([.ref x] ++ [b]) >>= fun v => pure (some v)) (fun r s' => wpAny (model prog w) A (match r with | some .notImplemented => pure none | none => pure none | some v => pure (some v)) (fun r s' => ∃ v, r = some v ∧ Q v s') E s') E s := by
      refine wpAny_bind (back fun r s' hr => wpAny_pure ?_)
      exact wpAny_pure ⟨_, rfl, hr⟩
    refine wpAny_ite ?_
    split
    · rw [slotb]
      exact wpAny_bind (wpAny_pure (wpAny_pure fin))
    · rw [slotb]
      refine wpAny_tryCatch (wpAny_bind (wpAny_pure (wpAny_pure ?_)))
      exact fin
  unfold richCompare
  simp only [oneThing_ref]
  refine wpAny_holding (wpAny_bind (wpAny_cRoomFor hu0 ?_))
  refine wpAny_bind (I.type.here (wpAny_bind (hb.here ?_)))
  split
  · rename_i q
    have e : PySem.W.subIn K tb (.ref C) = some false := by
      rcases Bool.or_eq_true_iff.mp hn with e | e
      · rw [beq_iff_eq.mp e] at q; simp at q
      · exact beq_iff_eq.mp e
    refine wpAny_bind ((PySem.W.looks_subIn X e).here ?_)
    simp only [Bool.false_eq_true, if_false]
    refine wpAny_bind (wpAny_mono one (fun r s' z => ?_) fun _ _ e => e)
    obtain ⟨v, rfl, hq⟩ := z
    exact wpAny_pure hq
  · refine wpAny_bind (wpAny_pure ?_)
    simp only [Bool.false_eq_true, if_false]
    refine wpAny_bind (wpAny_mono one (fun r s' z => ?_) fun _ _ e => e)
    obtain ⟨v, rfl, hq⟩ := z
    exact wpAny_pure hq
end

section
variable {X : Cx} {CX : CXT} {k : Nat} {f C : Addr} {fd : FuncData} {ps : List Str} {sp : Sp} {E : XK}
def rOwnNe (K : PySem.W.Frag) (C : Addr) (sp : Sp) (E : XK) : R2 := fun x y H Q => ∃ a dx fs t, x = .ref a ∧ H a = some (.ins C dx fs) ∧ TyR H y t ∧ PySem.W.notFirst K C t = true ∧
  sp [.ref a, y] H (fun v H' => ∃ b, v = .bl b ∧ Q (.bl (!b)) H') E
theorem op_neOwn (F : FnOk X.prog X.w X.K X.mg X.base CX k f fd ps sp) (hr : Room (k + 1) X.A) (hs : PySem.W.findIn X.K (.ref C) "__eq__" = some (some (.ref f)))
    (hf : PySem.W.isFn X.K (.ref f) = true) (hne : PySem.W.findIn X.K (.ref C) "__ne__" = some (some (.builtin "object.__ne__")))
    (ho : PySem.W.subIn X.K (.ref C) (.type "object") = some true) (hb : Binds X.K fd ps []) (hx : Passes CX X E) : OpR X (compareOp .NotEq) (rOwnNe X.K C sp E) := by
  intro pins s σ H x y v u Q I rx ry h
  show wpAny (model X.prog X.w) X.A (richCompare .NotEq v u) (EP X pins σ Q) X.xe s
  obtain ⟨a, dx, fs, t, rfl, ha, ty, hn, h⟩ := h
  cases rx
  obtain ⟨mA, J, _⟩ := ins_get I.hok ha
  obtain ⟨od, J, _⟩ := J.look
  refine ne_own hr.in1.units0 I.kIn J (ty.looks I ry) hn hs hf hne ho (wpAny_mono (run_at (vs := [V.ref a, y]) (us := [Value.ref a, u]) F hr.in1 rfl hb hx I (.cons rfl (.cons ry .nil)) h) (fun w s' hq => ?_) fun _ _ z => z)
  obtain ⟨z, H', I', rz, b, rfl, q⟩ := hq
  cases rz
  exact ⟨.bl (!b), H', I', rfl, q⟩
end
end L2
/-! Rules of my own, third part: x == o where x is of a built-in type, told by the text's __eq__ of the right side. -/
namespace L2
open PySem PySem.Spec PyProof.Rows

/-- what == asks of a built-in type whose values decline an own instance -/
structure Decl (prog : Program) (w : World) (K : PySem.W.Frag) (C a : Addr) (T : String) (u : Value) (s : Shared) : Prop where
  ty : s.TypeIs u T
  sub : PySem.W.subIn K (.ref C) (.type T) = some false
  try_ : ∀ (A : Around) (E : Value → Shared → Prop) (Q : Option Value → Shared → Prop), Q none s → wpAny (model prog w) A (tryCompare u (cmpInfo .Eq).2.1 (.ref a)) Q E s

section
variable {prog : Program} {w : World} {A : Around} {E : Value → Shared → Prop} {s : Shared} {K : PySem.W.Frag} {x C f : Addr} {ox : Obj} {od : Option Obj}
theorem decl_of {T id : String} {B : Builtin} {u : Value} (hT : s.TypeIs u T) (slot : Slot T (cmpInfo .Eq).2.1 id) (entry : entryFor table id = some B) (args : argsOk id ⟨[u, .ref x], []⟩)
    (hs : PySem.W.subIn K (.ref C) (.type T) = some false) (body : ∀ (A : Around) (E : Value → Shared → Prop) (Q : Fin → Shared → Prop), Q (.done (.ret .notImplemented)) s → wpAny (model prog w) A (B ⟨[u, .ref x], []⟩) Q E s) : Decl prog w K C x T u s :=
  ⟨hT, hs, fun A E Q hq => wpAny_tryCompare_declines hT slot (wpAny_call_entry slot hT entry (body _ _ _ ⟨_, rfl, rfl, hq⟩) args)⟩
theorem eq_refl {T : String} {u : Value} {Q : Value → Shared → Prop} (hu : A.units < cLine) (X : K.In s.heap) (I : PySem.W.InstAt s.heap x ox C od) (D : Decl prog w K C x T u s)
    (hs : PySem.W.findIn K (.ref C) "__eq__" = some (some (.ref f))) (hf : PySem.W.isFn K (.ref f) = true) (h : wpAny (model prog w) A (call (.ref f) [.ref x, u]) (PySem.W.CmpBack Q) E s) :
    wpAny (model prog w) A (richCompare .Eq u (.ref x)) Q E s := by
  have two : wpAny (model prog w) A (tryCompare (.ref x) (cmpInfo .Eq).2.2 u) (fun r s' => ∃ v, r = some v ∧ Q v s') E s := by
    unfold tryCompare
    refine wpAny_bind (PySem.W.ifBound_K X I hs hf (wpAny_mono h (fun v s' hv => ?_) fun _ _ e => e))
    cases v <;> first | exact hv.elim | exact wpAny_pure ⟨_, rfl, hv⟩
  unfold richCompare
  simp only [D.ty.oneThing_none]
  refine wpAny_holding (wpAny_bind (wpAny_cRoomFor hu ?_))
  refine wpAny_bind (wpAny_typeOf D.ty (wpAny_bind (I.type.here ?_)))
  refine wpAny_ite_split (fun _ => ?_) (fun hab => absurd hab (by simp))
  refine wpAny_bind ((PySem.W.looks_subIn X D.sub).here ?_)
  simp only [Bool.false_eq_true, if_false, Bool.not_false, if_true]
  refine wpAny_bind (D.try_ A E _ ?_)
  refine wpAny_bind (wpAny_mono two (fun r s' z => ?_) fun _ _ e => e)
  obtain ⟨v, rfl, hq⟩ := z
  exact wpAny_pure hq
end
end L2
/-! Rules of my own, fourth part: the built-in types' declines. -/
namespace L2
open PySem PySem.Spec PyProof.Rows

section
variable {prog : Program} {w : World} {K : PySem.W.Frag} {x C dx : Addr} {s : Shared}
theorem body_int {i : Int} {t : Tok} (hx : s.heap.get? x = some (PySem.W.instObj C dx)) (A : Around) (E : Value → Shared → Prop) (Q : Fin → Shared → Prop) (h : Q (.done (.ret .notImplemented)) s) :
    wpAny (model prog w) A (Builtin.«int.__eq__» ⟨[.int i t, .ref x], []⟩) Q E s := by
  obtain ⟨hp, g, d, tk, os⟩ := s
  have hx' : hp.get? x = some (PySem.W.instObj C dx) := hx
  have ld : ∀ {R : Obj → Shared → Prop} {A : Around} {E : Value → Shared → Prop}, R (PySem.W.instObj C dx) ⟨hp, g, d, tk, os⟩ → wpAny (model prog w) A (load x) R E ⟨hp, g, d, tk, os⟩ := fun q => wpAny_load hx' q
  wp_walk using ld
  exact h
theorem body_bool {i : Bool} (hx : s.heap.get? x = some (PySem.W.instObj C dx)) (A : Around) (E : Value → Shared → Prop) (Q : Fin → Shared → Prop) (h : Q (.done (.ret .notImplemented)) s) :
    wpAny (model prog w) A (Builtin.«int.__eq__» ⟨[.bool i, .ref x], []⟩) Q E s := by
  obtain ⟨hp, g, d, tk, os⟩ := s
  have hx' : hp.get? x = some (PySem.W.instObj C dx) := hx
  have ld : ∀ {R : Obj → Shared → Prop} {A : Around} {E : Value → Shared → Prop}, R (PySem.W.instObj C dx) ⟨hp, g, d, tk, os⟩ → wpAny (model prog w) A (load x) R E ⟨hp, g, d, tk, os⟩ := fun q => wpAny_load hx' q
  wp_walk using ld
  exact h
theorem body_str {z : Str} {t : Tok} (hx : s.heap.get? x = some (PySem.W.instObj C dx)) (A : Around) (E : Value → Shared → Prop) (Q : Fin → Shared → Prop) (h : Q (.done (.ret .notImplemented)) s) :
    wpAny (model prog w) A (Builtin.«str.__eq__» ⟨[.str z t, .ref x], []⟩) Q E s := by
  obtain ⟨hp, g, d, tk, os⟩ := s
  have hx' : hp.get? x = some (PySem.W.instObj C dx) := hx
  have ld : ∀ {R : Obj → Shared → Prop} {A : Around} {E : Value → Shared → Prop}, R (PySem.W.instObj C dx) ⟨hp, g, d, tk, os⟩ → wpAny (model prog w) A (load x) R E ⟨hp, g, d, tk, os⟩ := fun q => wpAny_load hx' q
  wp_walk using ld
  exact h
theorem body_none (A : Around) (E : Value → Shared → Prop) (Q : Fin → Shared → Prop) (h : Q (.done (.ret .notImplemented)) s) :
    wpAny (model prog w) A (Builtin.«NoneType.__eq__» ⟨[.none, .ref x], []⟩) Q E s := by
  obtain ⟨hp, g, d, tk, os⟩ := s
  wp_walk
  exact h
theorem body_list {l : Addr} (hi : ∀ M, PySem.W.Looks M s.heap (isInstance (.ref x) (.type "list")) false) (A : Around) (E : Value → Shared → Prop) (Q : Fin → Shared → Prop) (h : Q (.done (.ret .notImplemented)) s) :
    wpAny (model prog w) A (Builtin.«list.__eq__» ⟨[.ref l, .ref x], []⟩) Q E s := by
  obtain ⟨hp, g, d, tk, os⟩ := s
  have ld : ∀ {R : Bool → Shared → Prop} {A : Around} {E : Value → Shared → Prop}, R false ⟨hp, g, d, tk, os⟩ → wpAny (model prog w) A (isInstance (.ref x) (.type "list")) R E ⟨hp, g, d, tk, os⟩ := fun q => (hi _).here q
  wp_walk using ld
  exact h
theorem body_tuple {l : Addr} (hi : ∀ M, PySem.W.Looks M s.heap (isInstance (.ref x) (.type "tuple")) false) (A : Around) (E : Value → Shared → Prop) (Q : Fin → Shared → Prop) (h : Q (.done (.ret .notImplemented)) s) :
    wpAny (model prog w) A (Builtin.«tuple.__eq__» ⟨[.ref l, .ref x], []⟩) Q E s := by
  obtain ⟨hp, g, d, tk, os⟩ := s
  have ld : ∀ {R : Bool → Shared → Prop} {A : Around} {E : Value → Shared → Prop}, R false ⟨hp, g, d, tk, os⟩ → wpAny (model prog w) A (isInstance (.ref x) (.type "tuple")) R E ⟨hp, g, d, tk, os⟩ := fun q => (hi _).here q
  wp_walk using ld
  exact h
theorem body_dict {l : Addr} (hi : ∀ M, PySem.W.Looks M s.heap (isInstance (.ref x) (.type "dict")) false) (A : Around) (E : Value → Shared → Prop) (Q : Fin → Shared → Prop) (h : Q (.done (.ret .notImplemented)) s) :
    wpAny (model prog w) A (Builtin.«dict.__eq__» ⟨[.ref l, .ref x], []⟩) Q E s := by
  obtain ⟨hp, g, d, tk, os⟩ := s
  have ld : ∀ {R : Bool → Shared → Prop} {A : Around} {E : Value → Shared → Prop}, R false ⟨hp, g, d, tk, os⟩ → wpAny (model prog w) A (isInstance (.ref x) (.type "dict")) R E ⟨hp, g, d, tk, os⟩ := fun q => (hi _).here q
  wp_walk using ld
  exact h
end
end L2
/-! Rules of my own, fifth part: x == o by the right side; o in [y, z]. -/
namespace L2
open PySem PySem.Spec PyProof.Rows

section
variable {X : Cx} {CX : CXT} {k : Nat} {f C : Addr} {fd : FuncData} {ps : List Str} {sp : Sp} {E : XK}

theorem decl_ty {pins : List (Addr × Obj)} {σ : St} {H : Hp} {s : Shared} {x : V} {u : Value} {T : String} {a dx : Addr} {fs : List (Str × V)}
    (I : Inv X pins σ H s) (rx : RelV x u) (ty : TyR H x (.type T)) (hs : PySem.W.subIn X.K (.ref C) (.type T) = some false) (ha : H a = some (.ins C dx fs)) : Decl X.prog X.w X.K C a T u s := by
  obtain ⟨mA, J, _⟩ := ins_get I.hok ha
  have ob := J.obj
  obtain ⟨od, J, _⟩ := J.look
  have isn : ∀ {U : String}, PySem.W.subIn X.K (.ref C) (.type U) = some false → ∀ M, PySem.W.Looks M s.heap (isInstance (.ref a) (.type U)) false := fun e M => J.type.andThen (PySem.W.looks_subIn I.kIn e)
  generalize ht : Value.type T = t at ty
  cases ty with
  | non => cases ht; cases rx; exact decl_of (typeIs_none s) PySem.F.slot_NoneType_eq PySem.F.entry_NoneType_eq (PySem.F.args_NoneType_eq_2 _ _) hs body_none
  | bl b => cases ht; cases rx; exact decl_of (PySem.typeIs_bool s b) PySem.F.slot_bool_eq PySem.F.entry_int_eq (PySem.F.args_int_eq_2 _ _) hs (body_bool ob)
  | int i => cases ht; obtain ⟨t, rfl⟩ := rx; exact decl_of (typeIs_int s i t) PySem.F.slot_int_eq PySem.F.entry_int_eq (PySem.F.args_int_eq_2 _ _) hs (body_int ob)
  | str z => cases ht; obtain ⟨t, rfl⟩ := rx; exact decl_of (typeIs_str s z t) PySem.F.slot_str_eq PySem.F.entry_str_eq (PySem.F.args_str_eq_2 _ _) hs (body_str ob)
  | lst e =>
    cases ht; cases rx
    obtain ⟨_, _, n, _, h1⟩ := (show ObjOk X.prog X.w H s.heap _ (.lst _) from I.hok _ _ e)
    exact decl_of ⟨_, h1, rfl⟩ PySem.F.slot_list_eq PySem.F.entry_list_eq (PySem.F.args_list_eq_2 _ _) hs (body_list (isn hs))
  | tup e =>
    cases ht; cases rx
    obtain ⟨_, _, _, o, h1, h2, _⟩ := (show ObjOk X.prog X.w H s.heap _ (.tup _) from I.hok _ _ e)
    exact decl_of ⟨o, h1, h2⟩ PySem.F.slot_tuple_eq PySem.F.entry_tuple_eq (PySem.F.args_tuple_eq_2 _ _) hs (body_tuple (isn hs))
  | dK e =>
    cases ht; cases rx
    obtain ⟨_, _, vs, _, o, es, ep, h1, h2, _⟩ := (show ObjOk X.prog X.w H s.heap _ (.dK _) from I.hok _ _ e)
    exact decl_of ⟨o, h1, h2.1⟩ PySem.F.slot_dict_eq PySem.F.entry_dict_eq (PySem.F.args_dict_eq_2 _ _) hs (body_dict (isn hs))
  | ins e => cases ht

/-- x == o, x of a built-in type: the text's __eq__ of the right side -/
def rReflEq (K : PySem.W.Frag) (C : Addr) (sp : Sp) (E : XK) : R2 := fun x y H Q => ∃ a dx fs T, y = .ref a ∧ H a = some (.ins C dx fs) ∧ TyR H x (.type T) ∧ PySem.W.subIn K (.ref C) (.type T) = some false ∧
  sp [.ref a, x] H (fun v H' => ∃ b, v = .bl b ∧ Q (.bl b) H') E
theorem rc_refl {A : Around} (F : FnOk X.prog X.w X.K X.mg X.base CX k f fd ps sp) (hr : Room k A) (hA : A.frames = X.A.frames) (hs : PySem.W.findIn X.K (.ref C) "__eq__" = some (some (.ref f)))
    (hf : PySem.W.isFn X.K (.ref f) = true) (hb : Binds X.K fd ps []) (hx : Passes CX X E) {pins : List (Addr × Obj)} {s : Shared} {σ : St} {H : Hp} {x y : V} {v u : Value} {Q : VK}
    (I : Inv X pins σ H s) (rx : RelV x v) (ry : RelV y u) (h : rReflEq X.K C sp E x y H Q) : wpAny (model X.prog X.w) A (richCompare .Eq v u) (EP X pins σ Q) X.xe s := by
  obtain ⟨a, dx, fs, T, rfl, ha, ty, hn, h⟩ := h
  cases ry
  obtain ⟨mA, J, _⟩ := ins_get I.hok ha
  obtain ⟨od, J, _⟩ := J.look
  refine eq_refl hr.units0 I.kIn J (decl_ty I rx ty hn ha) hs hf (wpAny_mono (run_at (vs := [V.ref a, x]) (us := [Value.ref a, v]) F hr hA hb hx I (.cons rfl (.cons rx .nil)) h) (fun w s' hq => ?_) fun _ _ z => z)
  obtain ⟨z, H', I', rz, b, rfl, q⟩ := hq
  cases rz
  exact ⟨.bl b, H', I', rfl, q⟩
theorem op_eqRefl (F : FnOk X.prog X.w X.K X.mg X.base CX k f fd ps sp) (hr : Room k X.A) (hs : PySem.W.findIn X.K (.ref C) "__eq__" = some (some (.ref f)))
    (hf : PySem.W.isFn X.K (.ref f) = true) (hb : Binds X.K fd ps []) (hx : Passes CX X E) : OpR X (compareOp .Eq) (rReflEq X.K C sp E) := by
  intro pins s σ H x y v u Q I rx ry h
  show wpAny (model X.prog X.w) X.A (richCompare .Eq v u) (EP X pins σ Q) X.xe s
  exact rc_refl F hr rfl hs hf hb hx I rx ry h
end

/-! ### x in [y, z] -/
section
variable {prog : Program} {w : World} {A : Around} {E : Value → Shared → Prop} {s : Shared}
open GQ MeetsSeq in
theorem in_step {R : Result → Shared → Prop} {l : Addr} {its : Array Value} {n : Nat} {x : Value} (i : Nat) (hl : s.heap.get? l = some { cls := .type "list", data := .seq its n })
    (h0 : its[i]? = none → R (.ok (.ret (.bool false))) s)
    (h1 : ∀ y, its[i]? = some y → wpAny (model prog w) A.in1 (eqBool y x) (fun r s1 => if r = true then R (.ok (.ret (.bool true))) s1 else
      wpAny (model prog w) A.in1 (Builtin.«list.__contains__.loop» ⟨[.ref l, x, rawInt ((i + 1 : Nat) : Int)], []⟩) (FinOf prog w A R) (fun e s' => R (.error e) s') s1) (fun e s' => R (.error e) s') s) :
    wpAny (model prog w) A.in1 (Builtin.«list.__contains__.loop» ⟨[.ref l, x, rawInt (i : Int)], []⟩) (FinOf prog w A R) (fun e s' => R (.error e) s') s := by
  cases hi : its[i]? with
  | none =>
    have q := h0 hi
    obtain ⟨hp, g, d, tk, os⟩ := s
    wp_walk using AutoSeq1.wpAny_loadPart' hl
    have hi' : its[((i : Nat) : Int).toNat]? = none := by simpa using hi
    rw [hi']
    wp_walk
    exact q
  | some y =>
    have q := h1 y hi
    obtain ⟨hp, g, d, tk, os⟩ := s
    wp_walk using AutoSeq1.wpAny_loadPart' hl
    have hi' : its[((i : Nat) : Int).toNat]? = some y := by simpa using hi
    rw [hi']
    refine wpAny_bind (wpAny_mono q (fun r s1 z => ?_) fun _ _ z => z)
    cases r with
    | true =>
      rw [if_pos rfl] at z
      exact wpAny_pure z
    | false =>
      rw [if_neg Bool.false_ne_true] at z
      have hc : ((i : Int) + 1) = ((i + 1 : Nat) : Int) := by omega
      obtain ⟨hp2, g2, d2, tk2, os2⟩ := s1
      wp_walk
      rw [hc]
      exact ⟨plainId_quiet plain_contains_loop _, codeAny_builtin entry_contains_loop (by
        rw [Around.under_plainId plain_contains_loop _]
        exact z)⟩
open GQ MeetsSeq in
theorem in_two {l : Addr} {y1 y2 x : Value} {n : Nat} {Q : Value → Shared → Prop} (hl : s.heap.get? l = some { cls := .type "list", data := .seq #[y1, y2] n })
    (h : wpAny (model prog w) A.in1 (eqBool y1 x) (fun r s1 => r = false ∧ (∃ n, s1.heap.get? l = some { cls := .type "list", data := .seq #[y1, y2] n }) ∧
      wpAny (model prog w) A.in1 (eqBool y2 x) (fun r2 s2 => (∃ n, s2.heap.get? l = some { cls := .type "list", data := .seq #[y1, y2] n }) ∧ Q (.bool r2) s2) E s1) E s) : wpAny (model prog w) A (compareOp .In x (.ref l)) Q E s := by
  show wpAny _ A (do return .bool (← contains (.ref l) x)) Q E s
  refine wpAny_bind (wpAny_contains_slot ⟨_, hl, rfl⟩ PySem.F.slot_list_contains (wpAny_mono (Q := fun v s' => ∃ b, v = .bool b ∧ Q (.bool b) s') (call_here PySem.F.slot_list_contains ⟨_, hl, rfl⟩ PySem.F.entry_list_contains (PySem.F.args_list_contains_2 _ _) ?_) (fun v s' hv => ?_) fun _ _ e => e))
  · have go : wpAny (model prog w) A.in1 (Builtin.«list.__contains__.loop» ⟨[.ref l, x, rawInt ((0 : Nat) : Int)], []⟩) (FinOf prog w A (wants (fun v s' => ∃ b, v = .bool b ∧ Q (.bool b) s') E)) (fun e s' => wants (fun v s' => ∃ b, v = .bool b ∧ Q (.bool b) s') E (.error e) s') s := by
      refine in_step 0 hl (fun e => by simp at e) fun y hy => ?_
      have ey : y1 = y := by simpa using hy
      subst ey
      refine wpAny_mono h (fun r s1 z => ?_) fun _ _ z => z
      obtain ⟨rfl, ⟨n1, hl1⟩, h1⟩ := z
      rw [if_neg Bool.false_ne_true]
      refine in_step 1 hl1 (fun e => by simp at e) fun y hy => ?_
      have ey : y2 = y := by simpa using hy
      subst ey
      refine wpAny_mono h1 (fun r s2 z => ?_) fun _ _ z => z
      obtain ⟨⟨n2, hl2⟩, q⟩ := z
      cases r with
      | true =>
        rw [if_pos rfl]
        exact ⟨true, rfl, q⟩
      | false =>
        rw [if_neg Bool.false_ne_true]
        exact in_step 2 hl2 (fun _ => ⟨false, rfl, q⟩) fun y hy => by simp at hy
    obtain ⟨hp, g, d, tk, os⟩ := s
    wp_walk using AutoSeq1.wpAny_loadPart' hl
    exact ⟨plainId_quiet plain_contains_loop _, codeAny_builtin entry_contains_loop (by
      rw [Around.under_plainId plain_contains_loop _]
      exact go)⟩
  · obtain ⟨b, rfl, q⟩ := hv
    exact wpAny_truthy_bool (wpAny_pure q)
end

/-- b == a, two of one class -/
def rOwnEq0 (C : Addr) (sp : Sp) (E : XK) (b a : Addr) (Q : VK) (H : Hp) : Prop := ∃ dx dy fs gs, H b = some (.ins C dy gs) ∧ H a = some (.ins C dx fs) ∧ sp [.ref b, .ref a] H (fun v H' => ∃ c, v = .bl c ∧ Q (.bl c) H') E
section
variable {X : Cx} {CX : CXT} {k : Nat} {f C : Addr} {fd : FuncData} {ps : List Str} {sp : Sp} {E : XK}
theorem eqb_none {prog : Program} {w : World} {A : Around} {E : Value → Shared → Prop} {s : Shared} {a : Addr} {Q : Bool → Shared → Prop}
    (h : wpAny (model prog w) A (richCompare .Eq .none (.ref a)) (fun r s' => ∃ b, r = .bool b ∧ Q b s') E s) : wpAny (model prog w) A (eqBool .none (.ref a)) Q E s := by
  unfold eqBool
  refine wpAny_holding ?_
  refine wpAny_ite_split (fun hab => absurd (show false = true from hab) Bool.false_ne_true) (fun _ => ?_)
  refine wpAny_bind (wpAny_mono h (fun r s' hv => ?_) fun _ _ z => z)
  obtain ⟨b, rfl, q⟩ := hv
  exact wpAny_truthy_bool q
/-- what is wanted behind the second look -/
def inEnd (l b : Addr) (Q : VK) : VK := fun u H2 => (∃ c, u = .bl c) ∧ H2 l = some (.lst [.non, .ref b]) ∧ Q u H2
/-- what is wanted behind the first look -/
def inMid (C : Addr) (sp : Sp) (E : XK) (a l b : Addr) (Q : VK) : VK := fun u H1 => u = .bl false ∧ H1 l = some (.lst [.non, .ref b]) ∧ rOwnEq0 C sp E b a (inEnd l b Q) H1
/-- o in [None, z], both of one class with the text's own __eq__; the two stand apart -/
def rInOwn (C : Addr) (sp : Sp) (E : XK) : R2 := fun x y H Q => ∃ a dx fs l b, x = .ref a ∧ H a = some (.ins C dx fs) ∧ y = .ref l ∧ H l = some (.lst [.non, .ref b]) ∧ b ≠ a ∧
  sp [.ref a, .non] H (fun v H1 => ∃ c, v = .bl c ∧ inMid C sp E a l b Q (.bl c) H1) E
theorem op_inOwn (F : FnOk X.prog X.w X.K X.mg X.base CX k f fd ps sp) (hr : Room (k + 1) X.A) (hs : PySem.W.findIn X.K (.ref C) "__eq__" = some (some (.ref f))) (hn : PySem.W.notFirst X.K C (.ref C) = true)
    (hN : PySem.W.subIn X.K (.ref C) (.type "NoneType") = some false) (hf : PySem.W.isFn X.K (.ref f) = true) (hb : Binds X.K fd ps []) (hx : Passes CX X E) : OpR X (compareOp .In) (rInOwn C sp E) := by
  intro pins s σ H x y v u Q I rx ry h
  obtain ⟨a, dx, fs, l, b, rfl, ha, rfl, hl, hne, h⟩ := h
  cases rx
  cases ry
  have lst : ∀ {H' : Hp} {s' : Shared}, Inv X pins σ H' s' → H' l = some (.lst [.non, .ref b]) → ∃ n, s'.heap.get? l = some { cls := .type "list", data := .seq #[Value.none, Value.ref b] n } := fun {H' s'} I' e => by
    obtain ⟨_, its, n, r, e1⟩ := (show ObjOk X.prog X.w H' s'.heap l (.lst [.non, .ref b]) from I'.hok l _ e)
    cases r with
    | cons r1 r2 =>
      cases r2 with
      | cons r3 r4 =>
        cases r4
        cases r1
        cases r3
        exact ⟨n, e1⟩
  obtain ⟨n, e1⟩ := lst I hl
  refine in_two e1 (eqb_none (wpAny_mono (rc_refl F hr.in1 rfl hs hf hb hx I (x := .non) (y := .ref a) (v := .none) (u := .ref a) (Q := inMid C sp E a l b Q) rfl rfl ⟨a, dx, fs, "NoneType", rfl, ha, .non, hN, h⟩) (fun r s1 q => ?_) fun _ _ z => z))
  obtain ⟨v1, H1, I1, r1, rfl, hl1, q1⟩ := q
  cases r1
  obtain ⟨dx1, dy1, fs1, gs1, hb1, ha1, h1⟩ := q1
  refine ⟨false, rfl, rfl, lst I1 hl1, GQ.eqBool_refG hne (wpAny_mono (rc_own F hr.in1 rfl hs hf hb hx I1 (x := .ref b) (y := .ref a) (v := .ref b) (u := .ref a) (Q := inEnd l b Q) rfl rfl ⟨b, dy1, gs1, .ref C, rfl, hb1, .ins ha1, hn, ?_⟩) (fun r2 s2 q => ?_) fun _ _ z => z)⟩
  · exact h1
  · obtain ⟨v2, H2, I2, r2', ⟨c, rfl⟩, hl2, q2⟩ := q
    cases r2'
    exact ⟨c, rfl, lst I2 hl2, .bl c, H2, I2, rfl, q2⟩
end
end L2
/-! Rules of my own, sixth part: ranges of whole numbers of any size, walked and listed. -/
namespace L2
open PySem PySem.Spec PyProof.Rows

theorem turn_long {P : Program} {w : World} {K : PySem.W.Frag} {tg : Expr} (it : Addr) (lo : Int) (n : Nat) :
    Turn P w K tg (Itr lo n) [it] it (fun i h => IsLongIter h it (lo + (i : Nat) * 1) ((n : Int) - (i : Nat)) 1) where
  mem := by simp
  obj := fun i h st b hb => by
    obtain rfl : b = it := by simpa using hb
    exact ⟨_, st, fun v z => by
      have z2 : Data.fields _ = Data.cell v := z
      cases z2⟩
  keep := fun i h h2 st kp => kp it (by simp) _ st
  item := by
    intro X hP hw hK hc i pins s σ H E I hf st hg
    subst hP hw hK
    obtain ⟨g0, g1, g2, g3, g4, g5⟩ := hf it (by simp)
    have wk := Walks.longrange (prog := X.prog) (w := X.w) (I.ok.hd hc) it lo 1 n
    refine wk.item i s _ _ hg st fun v h2 tk hv st2 kk => ?_
    obtain ⟨t, rfl⟩ := hv
    have J : Inv X pins σ H { s with heap := h2, toks := tk } := I.turned (fun b o hb e => kk b o (by simpa using hb) e) g0 g1 g3 g4 g5
    refine ⟨_, rfl, go_of (s := { s with heap := h2, toks := tk }) (n := "longrange_iterator") st2 rfl rfl (by decide) ⟨.int (lo + i), H, J, ⟨t, ?_⟩, ⟨rfl, rfl⟩, st2, fun b hb => (hf b hb).1⟩⟩
    rw [Int.mul_one]
  done := by
    intro X hP hw hK hc i pins s σ H E I hf st hg
    subst hP hw hK
    obtain ⟨g0, g1, g2, g3, g4, g5⟩ := hf it (by simp)
    exact wpAny_pyNext_long_end (I.ok.hd hc) st (by have : n ≤ i := hg; omega) fun h2 eb => ⟨rfl, I.turned (t' := s.toks) (fun b o hb e => eb b o hb e) g0 g1 g3 g4 g5⟩
  self := fun _ _ _ _ _ st h => wpAny_pyIter_longiter st h

section
variable {X : Cx} {tg : Expr}
theorem size_one (lo hi : Int) : Builtin.Range.rangeSize lo hi 1 = (((hi - lo).toNat : Nat) : Int) := by
  rw [rangeSize_one]; split <;> omega
/-- a range object just made, walked, whatever its size -/
theorem range_any {pins : List (Addr × Obj)} {σ : St} {H : Hp} {s : Shared} {R : It → Hp → Prop} {E : Value → Shared → Prop} {lo hi : Int} {t u v : Tok} {tk : Nat} (I : Inv X pins σ H s)
    (q : R (Itr lo (hi - lo).toNat) H) : wpAny (model X.prog X.w) X.A (pyIter (.ref s.heap.objs.size)) (PIE X pins σ tg R) E { s with heap := s.heap.push { cls := .type "range", data := .fields #[.int lo t, .int hi u, .int 1 v] }, toks := tk } := by
  have J : Inv X pins σ H { s with heap := s.heap.push { cls := .type "range", data := .fields #[.int lo t, .int hi u, .int 1 v] }, toks := tk } := I.kept fun b o e => Heap.get?_push_of_some _ e
  have e1 : lo + ((0 : Nat) : Int) * 1 = lo := by simp
  have e2 : (((hi - lo).toNat : Nat) : Int) - ((0 : Nat) : Int) = Builtin.Range.rangeSize lo hi 1 := by rw [size_one]; simp
  cases hsm : Builtin.Range.small lo hi 1 with
  | true =>
    refine wpAny_pyIter_range (IsRange.new ..) hsm ?_
    refine ⟨(s.heap.push { cls := .type "range", data := .fields #[.int lo t, .int hi u, .int 1 v] }).objs.size, [(s.heap.push { cls := .type "range", data := .fields #[.int lo t, .int hi u, .int 1 v] }).objs.size], _, _, H, rfl,
      J.kept (t' := tk) fun b o e => Heap.get?_push_of_some _ e, turn_range _ lo (hi - lo).toNat, ?_, fun b hb => ?_, q⟩
    · show IsRangeIter _ _ (lo + ((0 : Nat) : Int) * 1) ((((hi - lo).toNat : Nat) : Int) - ((0 : Nat) : Int)) 1
      rw [e1, e2]
      exact Heap.get?_push_size _ rfl
    · obtain rfl : b = (s.heap.push { cls := .type "range", data := .fields #[.int lo t, .int hi u, .int 1 v] }).objs.size := by simpa using hb
      exact J.fpOk (Nat.le_refl _) (J.hok.fresh (Nat.le_refl _))
  | false =>
    refine wpAny_pyIter_longrange (IsRange.new ..) hsm ?_
    refine ⟨(s.heap.push { cls := .type "range", data := .fields #[.int lo t, .int hi u, .int 1 v] }).objs.size, [(s.heap.push { cls := .type "range", data := .fields #[.int lo t, .int hi u, .int 1 v] }).objs.size], _, _, H, rfl,
      J.kept (t' := tk) fun b o e => Heap.get?_push_of_some _ e, turn_long _ lo (hi - lo).toNat, ?_, fun b hb => ?_, q⟩
    · show IsLongIter _ _ (lo + ((0 : Nat) : Int) * 1) ((((hi - lo).toNat : Nat) : Int) - ((0 : Nat) : Int)) 1
      rw [e1, e2]
      exact Heap.get?_push_size _ rfl
    · obtain rfl : b = (s.heap.push { cls := .type "range", data := .fields #[.int lo t, .int hi u, .int 1 v] }).objs.size := by simpa using hb
      exact J.fpOk (Nat.le_refl _) (J.hok.fresh (Nat.le_refl _))
/-- range(a, b), any size -/
def iRngL (ta : TA) : TI := fun σ H R => ta σ H fun vs H1 => ∃ i j : Int, vs = [.int i, .int j] ∧ R (Itr i (j - i).toNat) H1
theorem pi_rangeL {a b : Expr} {ta : TA} {p pos : Pos} (hg : Gl X "range") (hm : X.mg "range" = none) (ha : PA X [a, b] ta) (hs : starEach [a, b] X.env = [(false, eval a X.env), (false, eval b X.env)] := by rfl)
    (hs2 : starEach [b] X.env = [(false, eval b X.env)] := by rfl) : PI X tg (.Call (.Name "range" p) [a, b] [] pos) (iRngL ta) := by
  refine ⟨fun pins s σ H R I h => Call_ (ld_blt I hg hm boot_range (PyProof.Rows.callWith_type1 (thn (ha.run pos pins s σ H _ I h) fun us s1 ⟨vs, H1, I1, r1, q1⟩ => ?_) (by rw [hs, hs2]) (by rw [hs2]; rfl)))⟩
  obtain ⟨i, j, rfl, q⟩ := q1
  obtain ⟨u1, u2, rfl, ⟨t1, rfl⟩, ⟨t2, rfl⟩⟩ := vals2 r1
  exact call_range_2 (range_any I1 q)
end

/-! ### list(range(..)) where the range's iterator is a long one -/
section
variable {prog : Program} {w : World} {A : Around} {E : Value → Shared → Prop} {s : Shared}
theorem extend_long {R : Result → Shared → Prop} {r : Addr} {a b c : Int} {t u v : Tok} {n : Nat} (hh : A.handled = none) (hr : IsRange s.heap r a b c t u v) (hbig : Builtin.Range.small a b c = false)
    (hn : Builtin.Range.rangeSize a b c = n) (hlen : n ≤ 2 ^ 24) (D : Addr) (res : Value) (k0 : Nat) (hD : s.heap.get? D = some { cls := .type "list", data := .seq #[] k0 })
    (hR : ∀ h2 tk acc k, (∀ b o, b ≠ D → s.heap.get? b = some o → h2.get? b = some o) → h2.get? D = some { cls := .type "list", dict := none, data := .seq acc k, slots := #[] } →
      ItemsOf (fun i v => ∃ t, v = .int (a + i * c) t) acc n → R (.ok (.ret res)) { s with heap := h2, toks := tk }) :
    wpAny (model prog w) A.in1 (Builtin.List.listExtendWith (.ref D) (.ref r) res)
      (fun fin s' => match fin with | .done f => R (.ok f) s' | .again c' => c'.quiet = true ∧ codeAny (model prog w) A c' R s') (fun e s' => R (.error e) s') s := by
  have nDr : D ≠ r := fun e => by rw [e, hr] at hD; simp at hD
  have nDI : D ≠ s.heap.objs.size := Nat.ne_of_lt (Heap.lt_size hD)
  have nDf : D ∉ [s.heap.objs.size] := fun hm => nDI (List.mem_singleton.mp hm)
  have wk := (Walks.longrange (prog := prog) (w := w) (A := A.in1) hh s.heap.objs.size a c n).toS
  have run : ∀ (h : Heap) (k1 tk : Nat), IsLongIter h s.heap.objs.size (a + ((0 : Nat) : Int) * c) ((n : Int) - ((0 : Nat) : Int)) c → (∀ b o, b ≠ D → s.heap.get? b = some o → h.get? b = some o) →
      h.get? D = some { cls := .type "list", data := .seq #[] k1 } → codeAny (model prog w) A (.builtin "list.extend.loop" ⟨[.ref D, .ref s.heap.objs.size, res], []⟩) R { s with heap := h, toks := tk } := by
    intro h k1 tk hit hk h1
    refine codeAny_extend_loopS wk (by rw [sizeLine_eq]; omega) D nDf res n 0 _ #[] k1 rfl (Nat.zero_le _) hit h1 (ItemsOf.nil _) fun s2 acc k hm h2 hacc => ?_
    rw [Moved.eq_with hm]
    refine hR s2.heap s2.toks acc k (fun b o hb e => hm.heap b o (fun mem => ?_) (hk b o hb e)) h2 hacc
    rcases List.mem_cons.mp mem with q | mem
    · exact hb q
    · exact absurd (Heap.lt_size e) (by rw [List.mem_singleton.mp mem]; exact Nat.lt_irrefl _)
  unfold Builtin.List.listExtendWith
  refine wpAny_bind (wpAny_typeOf (T := "range") ⟨_, hr, rfl⟩ ?_)
  have f1 : Builtin.List.listSameRef (.ref D) (.ref r) = false := by simp [Builtin.List.listSameRef, nDr]
  have f2 : (Value.type "range" == Value.type "list") = false := by decide
  have f3 : (Value.type "range" == Value.type "tuple") = false := by decide
  simp only [f1, f2, f3, Bool.or_false, Bool.false_eq_true, if_false]
  refine wpAny_bind (wpAny_pyIter_longrange hr hbig ?_)
  refine wpAny_bind (wpAny_holding (wpAny_hint_range (n := n) (Heap.get?_push_of_some _ hr) hn hlen ?_))
  have it1 : IsLongIter (s.heap.push { cls := .type "longrange_iterator", data := .fields #[rawInt a, rawInt (Builtin.Range.rangeSize a b c), rawInt c] }) s.heap.objs.size (a + ((0 : Nat) : Int) * c) ((n : Int) - ((0 : Nat) : Int)) c := by
    show IsLongIter _ _ _ _ _
    rw [hn]
    simpa using Heap.get?_push_size _ rfl
  have d1 := Heap.get?_push_of_some { cls := .type "longrange_iterator", data := .fields #[rawInt a, rawInt (Builtin.Range.rangeSize a b c), rawInt c] } hD
  refine wpAny_ite_split (fun _ => ?_) (fun _ => wpAny_pure ⟨plainId_quiet F.plain_extend_loop _, run _ k0 _ it1 (fun b o _ e => Heap.get?_push_of_some _ e) d1⟩)
  refine wpAny_bind (wpAny_rule ?_)
  refine wpAny_bind ?_
  show wpAny _ _ (updateSeq D (·.push .none) >>= fun _ => updateSeq D (·.pop)) _ _ _
  refine wpAny_bind (wpAny_updateSeq d1 rfl ?_)
  have d2 := Heap.get?_update_self (Obj.mapSeq (·.push Value.none)) d1 rfl
  refine wpAny_updateSeq (hz := by seq_fits) d2 rfl ?_
  have d3 := Heap.get?_update_self (Obj.mapSeq (·.pop)) d2 rfl
  refine wpAny_pure ⟨plainId_quiet F.plain_extend_loop _, run _ _ _ ?_ (fun b o hb e => ?_) d3⟩
  · exact (Heap.get?_update_other _ _ nDI).trans ((Heap.get?_update_other _ _ nDI).trans it1)
  · exact (Heap.get?_update_other _ _ (Ne.symm hb)).trans ((Heap.get?_update_other _ _ (Ne.symm hb)).trans (Heap.get?_push_of_some _ e))
theorem init_long {R : Result → Shared → Prop} {r : Addr} {a b c : Int} {t u v : Tok} {n : Nat} (hh : A.handled = none) (hr : IsRange s.heap r a b c t u v) (hbig : Builtin.Range.small a b c = false)
    (hn : Builtin.Range.rangeSize a b c = n) (hlen : n ≤ 2 ^ 24) (D : Addr) (hD : s.heap.get? D = some { cls := .type "list", data := .seq #[] })
    (hR : ∀ h2 tk acc k, (∀ b o, b ≠ D → s.heap.get? b = some o → h2.get? b = some o) → h2.get? D = some { cls := .type "list", dict := none, data := .seq acc k, slots := #[] } →
      ItemsOf (fun i v => ∃ t, v = .int (a + i * c) t) acc n → R (.ok (.ret .none)) { s with heap := h2, toks := tk }) :
    wpAny (model prog w) A.in1 (Builtin.«list.__init__» ⟨[.ref D, .ref r], []⟩)
      (fun fin s' => match fin with | .done f => R (.ok f) s' | .again c' => c'.quiet = true ∧ codeAny (model prog w) A c' R s') (fun e s' => R (.error e) s') s := by
  have nDr : D ≠ r := fun e => by rw [e, hr] at hD; simp at hD
  show wpAny _ _ (do let old ← Builtin.List.listItems (.ref D); Builtin.List.listUpdate (.ref D) (fun _ => #[]); letGo old.toList.reverse; Builtin.List.listExtendWith (.ref D) (.ref r) .none) _ _ s
  refine wpAny_bind ?_
  unfold Builtin.List.listItems
  refine wpAny_bind (wpAny_seqItems hD rfl (wpAny_pure ?_))
  show wpAny _ _ (updateSeq D (fun _ => #[]) >>= fun _ => letGo (#[] : Array Value).toList.reverse >>= fun _ => Builtin.List.listExtendWith (.ref D) (.ref r) .none) _ _ s
  refine wpAny_bind (wpAny_updateSeq hD rfl ?_)
  have d2 := Heap.get?_update_self (Obj.mapSeq (fun _ => (#[] : Array Value))) hD rfl
  have oth : ∀ b o, b ≠ D → s.heap.get? b = some o → (s.heap.update D (Obj.mapSeq (fun _ => (#[] : Array Value)))).get? b = some o :=
    fun b o hb e => (Heap.get?_update_other _ _ (Ne.symm hb)).trans e
  refine wpAny_bind (wpAny_letGo ?_)
  refine extend_long hh (oth r _ (Ne.symm nDr) hr) hbig hn hlen D .none _ d2 fun h2 tk acc k hk hd hacc => ?_
  exact hR h2 tk acc k (fun b o hb e => hk b o hb (oth b o hb e)) hd hacc
theorem call_list_long {Q : Value → Shared → Prop} {r : Addr} {a b c : Int} {t u v : Tok} {n : Nat} (hh : A.handled = none) (hr : IsRange s.heap r a b c t u v) (hbig : Builtin.Range.small a b c = false)
    (hn : Builtin.Range.rangeSize a b c = n) (hlen : n ≤ 2 ^ 24)
    (hQ : ∀ h2 tk acc k, (∀ b o, s.heap.get? b = some o → h2.get? b = some o) →
      h2.get? s.heap.objs.size = some { cls := .type "list", dict := none, data := .seq acc k, slots := #[] } → ItemsOf (fun i v => ∃ t, v = .int (a + i * c) t) acc n → Q (.ref s.heap.objs.size) { s with heap := h2, toks := tk }) :
    wpAny (model prog w) A (call (.type "list") [.ref r]) Q E s := by
  refine callType_codes (Q₁ := fun obj s₁ => obj = .ref s.heap.objs.size ∧ s₁ = { s with heap := s.heap.push { cls := .type "list", data := .seq #[] } }) F.called_list (F.typeCall_list_1 _) F.entry_list_init
    (code_list_new _ ⟨rfl, rfl⟩) fun obj s₁ h₁ => ?_
  obtain ⟨rfl, rfl⟩ := h₁
  have d0 : (s.heap.push { cls := .type "list", data := .seq #[] }).get? s.heap.objs.size = some { cls := .type "list", data := .seq #[] } := Heap.get?_push_size _ rfl
  refine ⟨⟨_, d0, rfl⟩, F.args_list_init_2 _ _, init_long (A := A.in1) hh (Heap.get?_push_of_some _ hr) hbig hn hlen _ d0 fun h2 tk acc k hk hd hacc => ?_⟩
  exact ⟨rfl, hQ h2 tk acc k (fun b o e => hk b o (Nat.ne_of_lt (Heap.lt_size e)) (Heap.get?_push_of_some _ e)) hd hacc⟩
end

section
variable {X : Cx} {e : Expr} {te : St → Hp → (Int → Int → Hp → Prop) → Prop}
/-- list(range(..)), any size of its bounds -/
def tLstRgL (te : St → Hp → (Int → Int → Hp → Prop) → Prop) : TE := fun σ H Q => te σ H fun a b H1 => (b - a).toNat ≤ 2 ^ 24 ∧ ∀ q, H1 q = none → Q (.ref q) (upd H1 q (.lst (rgV a b)))
theorem pe_listRgL {p pos : Pos} (hc : X.calm = true) (hg : Gl X "list") (hm : X.mg "list" = none) (he : PRg X e te) (na : starEach [e] X.env = (false, eval e X.env) :: starEach [] X.env := by rfl) : PE X (.Call (.Name "list" p) [e] [] pos) (tLstRgL te) := by
  refine ⟨fun pins s σ H Q I h => Call_ (ld_blt I hg hm boot_list (PyProof.Rows.callWith_type1 (args_cons (thn (he pins s σ H _ I h) fun x s1 ⟨r, a, b, t, u, v, H1, ex, hr, I1, ok, q⟩ => args_nil ?_) na) na))⟩
  subst ex
  have fin : ∀ h2 tk acc k, (∀ b o, s1.heap.get? b = some o → h2.get? b = some o) → h2.get? s1.heap.objs.size = some { cls := .type "list", dict := none, data := .seq acc k, slots := #[] } →
      ItemsOf (fun i v => ∃ t, v = .int (a + i * 1) t) acc (b - a).toNat → EP X pins σ Q (.ref s1.heap.objs.size) { s1 with heap := h2, toks := tk } := fun h2 tk acc k hk hd hi => by
    refine ⟨.ref s1.heap.objs.size, upd H1 s1.heap.objs.size (.lst (rgV a b)), I1.laid hk (Nat.le_refl _) (show ObjOk X.prog X.w _ _ _ (.lst (rgV a b)) from ⟨?_, acc.toList, k, vals_rg hi, ?_⟩), rfl, q _ (I1.hok.fresh (Nat.le_refl _))⟩
    · rw [rgV_length, sizeLine_eq]; omega
    · rw [Array.toArray_toList]; exact hd
  cases hsm : Builtin.Range.small a b 1 with
  | true => exact call_list_range (n := (b - a).toNat) (I1.ok.hd hc) hr hsm (size_one a b) ok fin
  | false => exact call_list_long (n := (b - a).toNat) (I1.ok.hd hc) hr hsm (size_one a b) ok fin
end
end L2
/-! Rules of my own, seventh part: sorted of a dict's whole-number keys, and of set(..) of a list of whole numbers, any number of them. -/
namespace L2
open PySem PySem.Spec PyProof.Rows

section
variable {prog : Program} {w : World} {A : Around} {E : Value → Shared → Prop} {s : Shared}
/-- the part of sorted behind the collecting -/
theorem sort_behind {vs : List Value} {ns : List Int} {R : Shared → Prop} (hI : IntsAre vs ns) (hL : vs.length ≤ sizeLine)
    (hQ : ∀ (h2 : Heap) (out : Array Value) (c : Nat) (ys : List Int), (∀ b o, s.heap.get? b = some o → h2.get? b = some o) → h2.get? s.heap.objs.size = some (seqObj "list" out c) → IntsAre out.toList ys → ys.Perm ns →
      ys.Pairwise (· ≤ ·) → R { s with heap := h2 }) :
    wpAny (model prog w) A (call (.builtin "list.sort") [.ref s.heap.objs.size]) (fun _ s2 => R s2) E { s with heap := s.heap.push (seqObj "list" vs.toArray 0) } := by
  have at0 : (s.heap.push (seqObj "list" vs.toArray 0)).get? s.heap.objs.size = some (seqObj "list" vs.toArray 0) := Heap.get?_push_size _ rfl
  refine wpAny_call_entry PyProof.Rows.slot_list_sort ⟨_, at0, rfl⟩ PyProof.Rows.entry_list_sort
    (PyProof.Rows.list_sort_treeAny (s := { s with heap := s.heap.push (seqObj "list" vs.toArray 0) }) at0 hI hL fun out ys g1 g2 g3 => ⟨_, rfl, ?_⟩) (PyProof.Rows.args_list_sort _)
  obtain ⟨c, hc⟩ := PyProof.Rows.sortedHeap_at (vs := vs) (out := out) at0
  refine hQ _ out c ys (fun b u e => ?_) hc g1 g2 g3
  have hb : b < s.heap.objs.size := Heap.lt_size e
  rw [PyProof.Rows.sortedHeap_old (Nat.ne_of_lt hb) (by rw [size_push']; exact Nat.lt_succ_of_lt hb)]
  exact Heap.get?_push_of_some _ e
end

section
variable {X : Cx}
/-- sorted(d) of a dict whose keys are whole numbers -/
theorem call_sortedDA (hcalm : X.calm = true) : CallR X (.builtin "sorted") (fun xs H Q => ∃ (a : Addr) (kvs : List (Key × V)) (ks : List Int), xs = [.ref a] ∧ Rd H a (.dK kvs) ∧ kvs.map (·.1) = ks.map Sum.inl ∧ ks.length ≤ sizeLine ∧
    ∀ (ys : List Int) (p : Addr), ys.Perm ks → ys.Pairwise (· ≤ ·) → H p = none → Q (.ref p) (upd H p (.lst (ys.map V.int)))) := by
  intro pins s σ H xs us Q I r h
  obtain ⟨a, kvs, ks, rfl, hd, hks, hz, q⟩ := h
  obtain ⟨u, rfl, rx⟩ := vals1 r
  cases rx
  obtain ⟨z, lo, vs, rel, dd⟩ := dk_rd I.hok hd
  obtain ⟨ep, at_⟩ := dd.dictAt
  have keys : vs.map (·.1) = ks.map Sum.inl := rel.keys.symm.trans hks
  have len : vs.length = ks.length := by
    have e := congrArg List.length keys
    simpa using e
  refine Calls.call_function_entry PyProof.Rows.kind_sorted PyProof.Rows.plain_sorted PyProof.Rows.entry_sorted (PyProof.Rows.args_sorted1 _) ?_
  unfold Builtin.«sorted»
  refine wpAny_bind (m := checkCount "sorted" 1 1 _) (wpAny_pure ?_)
  refine wpAny_bind (PySem.W.kdu_collect (A := X.A.in1) (PySem.W.kdl_dict (knd := mixKind X.prog X.w) (kvs := vs) (ep := ep) lo) (I.ok.hd hcalm) at_ (by rw [len]; exact hz) fun h2 tk acc hk hacc => ?_)
  have al : acc.toList.length = ks.length := by rw [Array.length_toList, hacc.1, len]
  have areI : IntsAre acc.toList ks := ints_each al fun j v e => by
    obtain ⟨kk, x, e1, e2⟩ := hacc.2 j v (by rw [← Array.getElem?_toList]; exact e)
    have e3 : (vs.map (·.1))[j]? = some kk := by rw [List.getElem?_map, e1]; rfl
    rw [keys, List.getElem?_map] at e3
    obtain ⟨y, e4, e5⟩ := Option.map_eq_some_iff.mp e3
    subst e5
    rcases keyIs_shape (show keyIs (Sum.inl y) v = true from e2) with ⟨i, t, ek, ev⟩ | ⟨z, t, ek, ev⟩
    · cases ek
      exact ⟨y, t, e4, ev⟩
    · cases ek
  have J : Inv X pins σ H { s with heap := h2, toks := tk } := I.kept hk
  refine wpAny_bind (wpAny_newList ?_ (by rw [al]; exact hz))
  refine wpAny_bind (wpAny_holding (sort_behind (s := { s with heap := h2, toks := tk }) areI (by rw [al]; exact hz) fun h3 out c ys k3 hc g1 g2 g3 => ?_))
  have hl : (ys.map V.int).length ≤ sizeLine := by rw [List.length_map, g2.length_eq]; exact hz
  exact wpAny_pure ⟨_, rfl, .ref h2.objs.size, upd H h2.objs.size (.lst (ys.map V.int)), J.laid (t' := tk) k3 (Nat.le_refl _)
    (show ObjOk X.prog X.w _ _ _ (.lst (ys.map V.int)) from ⟨hl, out.toList, c, vals_of_ints g1, by rw [Array.toArray_toList]; exact hc⟩), rfl, q ys _ g2 g3 (J.hok.fresh (Nat.le_refl _))⟩
end
end L2
/-! Rules of my own, eighth part: sorted(set(xs)) of a list of whole numbers. -/
namespace L2
open PySem PySem.Spec PyProof.Rows

section
variable {P : Program} {w : World} {A : Around} {E : Value → Shared → Prop} {s : Shared}
/-- a set just made -/
abbrev newSet (w : World) : Obj := { cls := .type "set", dict := none, data := .set #[] 0 (.fresh 0 0 (!w.params.followText "set-order")) }
theorem fill_set {l : Addr} {items : Array Value} (ns : List Int) (hh : A.handled = none) (hl : s.heap.IsList l items) (hit : IntsAre items.toList ns) (hb : ns.length + 1 < scanBound) :
    wpAny (model P w) A.in1 (Builtin.«set.__init__» ⟨[.ref s.heap.objs.size, .ref l], []⟩)
      (fun fin s' => match fin with
        | .done f => wants (fun r s₂ => r = .none ∧ ∃ h2 tk c, s₂ = { s with heap := h2, toks := tk } ∧ SetR w h2 s.heap.objs.size (fun j => decide (j ∈ ns)) c ∧ c ≤ ns.length ∧ (∀ b o, s.heap.get? b = some o → h2.get? b = some o)) E (.ok f) s'
        | .again c' => c'.quiet = true ∧ codeAny (model P w) A c' (wants (fun r s₂ => r = .none ∧ ∃ h2 tk c, s₂ = { s with heap := h2, toks := tk } ∧ SetR w h2 s.heap.objs.size (fun j => decide (j ∈ ns)) c ∧ c ≤ ns.length ∧ (∀ b o, s.heap.get? b = some o → h2.get? b = some o)) E) s')
      (fun e s' => wants (fun r s₂ => r = .none ∧ ∃ h2 tk c, s₂ = { s with heap := h2, toks := tk } ∧ SetR w h2 s.heap.objs.size (fun j => decide (j ∈ ns)) c ∧ c ≤ ns.length ∧ (∀ b o, s.heap.get? b = some o → h2.get? b = some o)) E (.error e) s')
      { s with heap := s.heap.push (newSet w) } := by
  have num : items.size = ns.length := by
    have q := IntsAre.length hit
    rwa [Array.length_toList] at q
  have at0 : (s.heap.push (newSet w)).get? s.heap.objs.size = some (newSet w) := Heap.get?_push_size _ rfl
  obtain ⟨ol, hol, hcl, nl, hdl⟩ := hl
  obtain ⟨ocls, odict, odata, oslots⟩ := ol
  simp only at hcl hdl
  subst hcl hdl
  have hol' : (s.heap.push (newSet w)).get? l = some { cls := .type "list", dict := odict, data := .seq items nl, slots := oslots } := Heap.get?_push_of_some _ hol
  have no1 := F.sub_list_set
  have no2 := F.sub_list_frozenset
  have no3 : (Value.type "list" == Value.type "dict") = false := by decide
  have hl1 : (s.heap.push (newSet w)).IsList l items := ⟨_, hol', rfl, nl, rfl⟩
  have lt0 : l < s.heap.objs.size := Heap.lt_size hol
  have sz : (s.heap.push (newSet w)).objs.size = s.heap.objs.size + 1 := Heap.size_push ..
  unfold Builtin.«set.__init__» noKeywords Builtin.Frozenset.updateFrom
  generalize hPI : pyIter = PI
  wp_walk
  subst hPI
  refine wpAny_pyIter_list hl1 ?_
  refine wpAny_bind (wpAny_runValue ?_)
  have hh3 : A.in1.in1.handled = none := by simp [hh]
  have apart1 : l ≠ (s.heap.push (newSet w)).objs.size := by rw [sz]; exact Nat.ne_of_lt (Nat.lt_succ_of_lt lt0)
  have apart2 : s.heap.objs.size ∉ [(s.heap.push (newSet w)).objs.size, l] := by
    rw [sz]
    simp only [List.mem_cons, List.mem_singleton, List.not_mem_nil, or_false, not_or]
    exact ⟨Nat.ne_of_lt (Nat.lt_succ_self _), Nat.ne_of_gt lt0⟩
  have val : ∀ (i : Nat) (v : Value), items[i]? = some v → ∃ k t, ns[i]? = some k ∧ v = .int k t := fun i v hv => by
    have hi : i < ns.length := by rw [← num]; exact (Array.getElem?_eq_some_iff.mp hv).1
    obtain ⟨t, e⟩ := PyProof.Rows.IntsAre.int_at hit i v (by rw [Array.getElem?_toList]; exact hv)
    refine ⟨ns[i], t, List.getElem?_eq_getElem hi, ?_⟩
    rw [e, List.getD_eq_getElem?_getD, List.getElem?_eq_getElem hi] <;> rfl
  refine set_update_ints ((Walks.list hh3 _ l apart1 items).toS) s.heap.objs.size apart2 ns num hb val (items.size - 0) 0 _ (by omega) (Nat.zero_le _) ?st1 ?st0 ?fin
  case st1 => exact ⟨⟨_, Heap.get?_push_size _ rfl, rfl, rfl⟩, (hl1.push _)⟩
  case st0 =>
    have g : ((s.heap.push (newSet w)).push { cls := .type "list_iterator", data := .fields #[.ref l, .int 0 0] }).get? s.heap.objs.size = some (newSet w) := Heap.get?_push_of_some _ at0
    exact ⟨0, Nat.le_refl 0, setR_new_at g⟩
  case fin =>
    intro s2 c hm hc hS
    obtain ⟨h2, g2, d2, tk2, os2⟩ := s2
    obtain rfl : g2 = s.gens := hm.gens
    obtain rfl : d2 = s.drawn := hm.drawn
    obtain rfl : os2 = s.os := hm.os
    show wpAny _ _ _ _ _ _
    refine wpAny_pure ?_
    show wpAny _ _ (ret Value.none) _ _ _
    rw [num] at hc
    refine wpAny_pure ⟨rfl, h2, tk2, c, rfl, hS, hc, fun b o e => ?_⟩
    have b0 : b < s.heap.objs.size := Heap.lt_size e
    refine hm.heap b o ?_ (Heap.get?_push_of_some _ (Heap.get?_push_of_some _ e))
    simp only [List.mem_cons, List.mem_singleton, List.not_mem_nil, or_false, not_or]
    refine ⟨Nat.ne_of_lt b0, ?_⟩
    rw [sz]; exact Nat.ne_of_lt (Nat.lt_succ_of_lt b0)

set_option maxHeartbeats 6400000 in
/-- set(l) of a list of whole numbers -/
theorem call_setL {l : Addr} {items : Array Value} (ns : List Int) {Q : Value → Shared → Prop} (hh : A.handled = none) (hl : s.heap.IsList l items) (hit : IntsAre items.toList ns) (hb : ns.length + 1 < scanBound)
    (h : ∀ (h2 : Heap) (tk c : Nat), SetR w h2 s.heap.objs.size (fun j => decide (j ∈ ns)) c → c ≤ ns.length → (∀ b o, s.heap.get? b = some o → h2.get? b = some o) → Q (.ref s.heap.objs.size) { s with heap := h2, toks := tk }) :
    wpAny (model P w) A (call (.type "set") [.ref l]) Q E s := by
  obtain ⟨c, tl, hmro⟩ := F.called_set.mro
  have made := F.called_set.made
  have sub := F.called_set.sub
  refine wpAny_call (codeAny_of_tree ?_)
  show wpAny _ _ (callAny (.type "set") _) _ _ _
  refine wpAny_pure ⟨Code.quiet_builtin _ (by decide +kernel), codeAny_builtin F.entry_type_call ?_⟩
  rw [Around.under_plain (weight_type_call_type "set" [.ref l] []) rfl]
  have f1 := F.called_set.notType
  have f2 := F.called_set.canCreate
  have f3 := F.typeCall_set_1 (.ref l)
  repeat (any_goals (first | assumption | wp_step))
  refine codeAny_mono (code_set_led1 (.ref l) (E := E) (Q₁ := fun obj s₁ => obj = .ref s.heap.objs.size ∧ s₁ = { s with heap := s.heap.push (newSet w) }) ⟨rfl, rfl⟩) fun r s₁ hr => ?_
  cases r with
  | error e => exact hr
  | ok fl =>
    cases fl with
    | ret obj =>
      obtain ⟨rfl, rfl⟩ := hr
      have at0 : (s.heap.push (newSet w)).get? s.heap.objs.size = some (newSet w) := Heap.get?_push_size _ rfl
      have tyS : Shared.TypeIs { s with heap := s.heap.push (newSet w) } (.ref s.heap.objs.size) "set" := ⟨_, at0, rfl⟩
      have li := F.called_set.init.lookup
      have bi := F.called_set.init.bind (.ref s.heap.objs.size)
      repeat (any_goals (first | assumption | wp_step))
      refine codeAny_mono (codeAny_call_builtin F.called_set.init.plain F.entry_set_init (check_set_init_1 tyS (fill_set (A := A.in1) (E := E) ns (by simpa using hh) hl hit hb))) fun r₂ s₂ hr₂ => ?_
      cases r₂ with
      | error e => exact hr₂
      | ok fl₂ =>
        cases fl₂ with
        | ret r =>
          obtain ⟨rfl, h2, tk, c2, rfl, hS, hc, hk⟩ := hr₂
          repeat (any_goals (first | assumption | wp_step))
          exact h _ _ _ hS hc hk
        | _ => exact hr₂.elim
    | _ => exact hr.elim
end
end L2
/-! Rules of my own, ninth part: sorted(set(xs)); text * number; f(k = v) with keywords alone. -/
namespace L2
open PySem PySem.Spec PyProof.Rows

section
variable {P : Program} {w : World} {A : Around} {E : Value → Shared → Prop} {s : Shared} {a : Addr}
theorem sorted_setA {S : Int → Bool} {n : Nat} {Q : Value → Shared → Prop} (R : SetR w s.heap a S n) (hh : A.handled = none)
    (hQ : ∀ s2 p (out : Array Value) (c : Nat) (ys : List Int), (∀ b o, s.heap.get? b = some o → s2.heap.get? b = some o) → s2.gens = s.gens → s2.os = s.os → s.heap.objs.size ≤ p →
      s2.heap.get? p = some (seqObj "list" out c) → IntsAre out.toList ys → ys.Pairwise (· < ·) → (∀ k, k ∈ ys ↔ S k = true) → ys.length = n → Q (.ref p) s2) :
    wpAny (model P w) A (call (.builtin "sorted") [.ref a]) Q E s := by
  obtain ⟨o, es, ep, t, ho, hex, hd, g, nd, hm, hb, hf, hn, hr, hl⟩ := R
  refine Calls.call_function_entry kind_sorted plain_sorted entry_sorted (args_sorted1 _) ?_
  unfold Builtin.«sorted»
  refine wpAny_bind (m := checkCount "sorted" 1 1 _) (wpAny_pure ?_)
  refine wpAny_bind (collect_set (A := A.in1) hh ⟨o, ho, hex.1, hd⟩ hf hb hr hl fun s1 vs k1 hz g1 o1 pm => ?_)
  have num : vs.length = n := by rw [pm.length_eq, List.length_map, Array.length_toList]; exact hn
  have line : vs.length ≤ sizeLine := by rw [num, sizeLine_eq]; unfold scanBound at hb; omega
  have areI : IntsAre vs (vs.map Builtin.Re.reRawOf) := ints_of vs fun v hv => by
    obtain ⟨e, he, q⟩ := List.mem_map.mp (pm.mem_iff.mp hv)
    obtain ⟨k, tk, q1, _⟩ := g e he
    exact ⟨k, tk, by rw [← q]; exact q1⟩
  have pk : (vs.map Builtin.Re.reRawOf).Perm (es.toList.map keyOf) := by
    have q := pm.map Builtin.Re.reRawOf
    rw [List.map_map] at q
    exact q
  refine wpAny_bind (wpAny_newList ?_ line)
  refine wpAny_bind (wpAny_holding (sort_behind (s := s1) areI line fun h2 out c ys k2 hc g2 p2 u2 => ?_))
  have pn : ys.Perm (es.toList.map keyOf) := p2.trans pk
  refine wpAny_pure ⟨_, rfl, hQ _ s1.heap.objs.size out c ys (fun b u e => k2 b u (k1 b u e)) g1 o1 hz hc g2 (lt_of_le_nodup ys u2 (pn.nodup_iff.mpr nd)) (fun k => by rw [pn.mem_iff, ← hm k]) ?_⟩
  rw [pn.length_eq, List.length_map, Array.length_toList]; exact hn
end

theorem boot_sorted9 : bootBuiltins "sorted" = some (.builtin "sorted") := by decide +kernel
theorem boot_set9 : bootBuiltins "set" = some (.type "set") := by decide +kernel
section
variable {X : Cx}
theorem vals_at {us : List Value} {a : Addr} (r : Vals [V.ref a] us) : us = [Value.ref a] := by
  obtain ⟨u, rfl, ru⟩ := vals1 r
  cases ru
  rfl
/-- sorted(set(xs)), xs a list of whole numbers: rising, each once -/
def tSortedSet (K : PySem.W.Frag) (ta : TE) : TE := fun σ H Q => ta σ H fun x H1 => ∃ (l : Addr) (ns : List Int), x = .ref l ∧ SqL K H1 l (ns.map V.int) ∧ ns.length ≤ 4000 ∧
  ∀ (ys : List Int) (p : Addr), ys.Pairwise (· < ·) → (∀ k : Int, k ∈ ys ↔ k ∈ ns) → ys.length ≤ ns.length → H1 p = none → Q (.ref p) (upd H1 p (.lst (ys.map V.int)))
theorem pe_sortedSet {a : Expr} {ta : TE} {p p2 q pos : Pos} (hg : Gl X "sorted") (hm : X.mg "sorted" = none) (hg2 : Gl X "set") (hm2 : X.mg "set" = none) (ha : PE X a ta) (hc : X.calm = true)
    (na : starEach [a] X.env = (false, eval a X.env) :: starEach [] X.env := by rfl)
    (nb : starEach [.Call (.Name "set" p2) [a] [] q] X.env = (false, eval (.Call (.Name "set" p2) [a] [] q) X.env) :: starEach [] X.env := by rfl) :
    PE X (.Call (.Name "sorted" p) [.Call (.Name "set" p2) [a] [] q] [] pos) (tSortedSet X.K ta) := by
  refine ⟨fun pins s σ H Q I h => Call_ (ld_blt I hg hm boot_sorted9 ?_)⟩
  refine PyProof.Rows.callWith_builtin1 (PyProof.Rows.args_cons ?_ nb) nb rfl
  refine Call_ (ld_blt I hg2 hm2 boot_set9 ?_)
  refine PyProof.Rows.callWith_type1 (PyProof.Rows.args_cons (thn (ha.run pins s σ H _ I h) fun v s1 ⟨x, H1, I1, r1, q1⟩ => PyProof.Rows.args_nil ?_) na) na rfl
  obtain ⟨l, ns, rfl, hq, hz, q1⟩ := q1
  cases r1
  obtain ⟨its, r, pl, _⟩ := I1.list hq
  refine call_setL ns (I1.ok.hd hc) pl.isList (ints_of_vals r) (by unfold scanBound; omega) fun h2 tk c hS hcn hk => ?_
  refine PyProof.Rows.args_nil ?_
  have I2 : Inv X pins σ H1 { s1 with heap := h2, toks := tk } := I1.kept hk
  refine sorted_setA (s := { s1 with heap := h2, toks := tk }) hS (I1.ok.hd hc) fun s3 p out c2 ys k3 g3 o3 hp hg3 hi u3 m3 l3 => ?_
  have hl : (ys.map V.int).length ≤ sizeLine := by rw [List.length_map, l3, sizeLine_eq]; omega
  have hn : H1 p = none := I2.hok.fresh hp
  have J : Inv X pins σ (upd H1 p (.lst (ys.map V.int))) s3 :=
    I2.call' (ch := []) o3 (Un.laid k3 hp hn) (I2.hok.laid k3 hp ⟨hl, out.toList, c2, vals_of_ints hi, by rw [Array.toArray_toList]; exact hg3⟩) (by rw [g3]; exact I2.bare) (fun _ z => nomatch z)
  exact ⟨.ref p, _, J, rfl, q1 ys p u3 (fun k => (m3 k).trans (by simp)) (by omega) hn⟩

/-! ### text * number -/
theorem op_mulS : OpR X (binaryOp .Mult) (fun x y H Q => ∃ (z : Str) (i : Int), x = .str z ∧ y = .int i ∧ 0 ≤ i ∧ z.length ≤ 16 ∧ i ≤ 1048576 ∧ Q (.str (Txt.mul z i)) H) := by
  intro pins s σ H x y v u Q I rx ry h
  obtain ⟨z, i, rfl, rfl, h0, h1, h2, q⟩ := h
  obtain ⟨t, rfl⟩ := rx
  obtain ⟨t', rfl⟩ := ry
  exact SB.mul (mulOk_of 16 1048576 h1 h2 (by omega) (by decide) (by decide)) fun t2 k => ⟨.str (Txt.mul z i), H, I.tok _, ⟨_, rfl⟩, q⟩

/-! ### f(k = v, ..), keywords alone -/
variable {CX : CXT} {k : Nat} {f C : Addr} {fd : FuncData} {ps ks : List Str} {sp : Sp} {E : XK} {x : Str} {p pos : Pos} {kws : List Keyword} {tk : TA} {g : List Value → List Value → List Value} {gV : List V → List V → List V}
theorem pe_callK0 (F : FnOk X.prog X.w X.K X.mg X.base CX k f fd ps sp) (hr : Room k X.A) (hg : Gl X x) (hm : X.mg x = some (.ref f)) (hk : PySem.W.keepIn X.K (.ref f) = true) (hb : KBinds X.K fd ps ks g gV) (hx : Passes CX X E)
    (hkw : PK X kws tk) (hall : (backToKw pos (keywordEach kws X.env)).all (·.1.isSome) = true := by rfl) (hks : (backToKw pos (keywordEach kws X.env)).filterMap (·.1) = ks := by rfl)
    (hdb : (x == ("__debug__" : Str)) = false := by decide) (hpl : ((backTo pos (starEach [] X.env)).any (·.1) || (backToKw pos (keywordEach kws X.env)).any (·.1.isNone)) = false := by rfl) :
    PE X (.Call (.Name x p) [] kws pos) (tCallK sp gV E tNil tk) := by
  refine ⟨fun pins s σ H Q I h => ?_⟩
  refine wpAny_Call_Name_kw (ld_glob I hg hm ?_ hdb)
  refine PySem.W.callWith_KW0 (h₀ := X.base) I.ok.mod.kin hk hall ?_ hpl
  refine thn (hkw.run pos pins s σ H _ I h) fun ws s2 ⟨zs, H2, I2, rz, q2⟩ => ⟨I2.kIn, ?_⟩
  rw [hks]
  exact run_fnk (us := []) (vs := []) F hr hb hx I2 .nil rz q2
end
end L2
/-! Rules of my own, tenth part: repr of a list of flat values where nothing is being shown; the law's end over a caller that shows nothing. -/
namespace L2
open PySem PySem.Spec PyProof.Rows

/-! ### repr([..]) -/
def datV : V → PyData
  | .bl b => .bool b
  | .int i => .int i
  | _ => .none
def flatR : V → Bool
  | .non => true
  | .bl _ => true
  | .int i => decide (i.natAbs.log2 < 1920)
  | _ => false
/-- the text -/
def reprL (xs : List V) : Str := PyData.shown (.list (xs.map datV))
theorem reads_flat {h : Heap} : ∀ {xs : List V} {us : List Value}, Vals xs us → (∀ x ∈ xs, flatR x = true) → ∃ as, ReadsAll h us (xs.map datV) as
  | _, _, .nil, _ => ⟨_, .nil⟩
  | _, _, @Paired.cons _ _ _ x u xs us r t, hf => by
    obtain ⟨as, q⟩ := reads_flat (h := h) t fun y hy => hf y (List.mem_cons_of_mem _ hy)
    have fx := hf x List.mem_cons_self
    cases x with
    | non => cases r; exact ⟨_, .cons .none q⟩
    | bl b => cases r; exact ⟨_, .cons (.bool b) q⟩
    | int i => obtain ⟨t, rfl⟩ := r; exact ⟨_, .cons (.int i t) q⟩
    | _ => cases fx
theorem show_flat : ∀ {xs : List V}, (∀ x ∈ xs, flatR x = true) → PyData.showableAll (xs.map datV) = true ∧ PyData.hasDictAll (xs.map datV) = false ∧ PyData.depthAll (xs.map datV) = 0
  | [], _ => ⟨by simp [PyData.showableAll], by simp [PyData.hasDictAll], by simp [PyData.depthAll]⟩
  | x :: xs, hf => by
    obtain ⟨h1, h2, h3⟩ := show_flat (xs := xs) fun y hy => hf y (List.mem_cons_of_mem _ hy)
    have fx := hf x List.mem_cons_self
    have fx' : PyData.showable (datV x) = true ∧ PyData.hasDict (datV x) = false ∧ PyData.depth (datV x) = 0 := by
      cases x with
      | int i =>
        have q : decide (i.natAbs.log2 < 1920) = true := fx
        exact ⟨by simpa [datV, PyData.showable] using q, by simp [datV, PyData.hasDict], by simp [datV, PyData.depth]⟩
      | _ => simp [datV, PyData.showable, PyData.hasDict, PyData.depth]
    rw [List.map_cons]
    refine ⟨?_, ?_, ?_⟩
    · simp [PyData.showableAll, fx'.1, h1]
    · simp [PyData.hasDictAll, fx'.2.1, h2]
    · simp [PyData.depthAll, fx'.2.2, h3]
theorem len_listText : ∀ ts : List Str, (listText ts).length ≤ piled ts + 2
  | [] => by decide
  | t :: r => by
    have e1 := textFrom_length_pos r 1 (("[" : Str) ++ (if (0 : Nat) > 0 then ", " else "" : String) ++ t) (Nat.succ_pos 0)
    have e2 : ((("[" : Str) ++ (if (0 : Nat) > 0 then ", " else "" : String) ++ t)).length = 1 + t.length := by
      rw [strLen_append, strLen_append]; rfl
    have e3 : (listText (t :: r)).length = (textFrom 1 (("[" : Str) ++ (if (0 : Nat) > 0 then ", " else "" : String) ++ t) r).length + 1 := by
      show (textFrom 0 "[" (t :: r) ++ "]").length = _
      rw [strLen_append]; rfl
    rw [e3, e1, e2, piled_cons]; omega
theorem shown_piled : ∀ {xs : List V}, (∀ x ∈ xs, flatR x = true) → piled (PyData.shownAll (xs.map datV)) ≤ 2000 * xs.length
  | [], _ => by simp [PyData.shownAll, piled]
  | x :: xs, hf => by
    have ih := shown_piled (xs := xs) fun y hy => hf y (List.mem_cons_of_mem _ hy)
    have fx := hf x List.mem_cons_self
    have l : (PyData.shown (datV x)).length ≤ 1921 := by
      cases x with
      | int i =>
        have q : i.natAbs.log2 < 1920 := of_decide_eq_true (show decide (i.natAbs.log2 < 1920) = true from fx)
        simp only [datV, PyData.shown]
        exact PyProof.Rows.int_text_len_1921 q
      | bl b => cases b <;> simp [datV, PyData.shown] <;> decide
      | non => simp [datV, PyData.shown]; decide
      | _ => cases fx
    rw [List.map_cons]
    simp only [PyData.shownAll, piled_cons, List.length_cons]
    omega
section
variable {X : Cx}
def rReprL : List V → Hp → VK → Prop := fun vs H Q => ∃ a xs, vs = [V.ref a] ∧ H a = some (.lst xs) ∧ (∀ x ∈ xs, flatR x = true) ∧ xs.length ≤ 8 ∧ Q (.str (reprL xs)) H
theorem call_reprL {k : Nat} (hr : Room k X.A) (hg : X.A.guards = some []) : CallR X (.builtin "repr") rReprL := by
  intro pins s σ H vs us Q I r h
  obtain ⟨a, xs, rfl, ha, hf, hz, q⟩ := h
  rw [vals_at r]
  obtain ⟨_, its, n, rv, e⟩ := (show ObjOk X.prog X.w H s.heap a (.lst xs) from I.hok a _ ha)
  obtain ⟨as, ra⟩ := reads_flat (h := s.heap) rv hf
  obtain ⟨h1, h2, h3⟩ := show_flat hf
  have rd : Reads s.heap (.ref a) (.list (xs.map datV)) (a :: as) := .list e rfl rfl (by simpa using ra)
  have hu := hr.units
  refine repr_of_reads' rd (by simpa [PyData.showable] using h1) (PyData.noDict_hsm (by simpa [PyData.hasDict] using h2)) hg (by simp only [PyData.depth, h3]; omega) (fun _ _ z => z) (fun h' u tk hk => ⟨.str (reprL xs), H, I.kept hk, ⟨_, rfl⟩, q⟩) ?_
  have l1 := len_listText (PyData.shownAll (xs.map datV))
  have l2 := shown_piled hf
  simp only [PyData.shown]
  rw [sizeLine_eq]
  omega
end
end L2
/-! The law's end where nothing is being shown at the caller (repr of lists in the law's own body). -/
namespace L2
open PySem PySem.Spec PyProof.Rows

theorem callerA_guards : callerA.guards = some [] := by first | rfl | decide

/-- one call of a def of the text, at a place that is known -/
theorem run_body {CX : CXT} {P : Program} {w : World} {K : PySem.W.Frag} {mg : Str → Option Value} {base : Heap} {k : Nat} {f : Addr} {x qual : Str} {st : Stmt} {fd : FuncData} {N ps : List Str}
    (F : Fun K x qual st f fd) (S : FnScope N ps (defScope st)) {A : Around} {outer : List Env} {s : Shared} {H : Hp} {args : Args} {us : List Value} {vs : List V} {Q : VK} {E : XK} (hr : Room (k + 1) A)
    (e0 : Env0 P w K mg base A outer s H) (hb : BindsTo s fd args (ps.zip us)) (r : Vals vs us) (hl : vs.length = ps.length)
    (body : ∀ cdv : Value, Room k (A.deeper (envOfC qual (defScope st) s.heap.objs.size f cdv)) →
      ∃ t, PSs (cxOf CX P w K mg base N qual (defScope st) f cdv A outer s H E) (defBody st) t ∧ t { nx := fun _ H' => Q .non H', rt := Q } (start N vs) H) :
    codeAny (model P w) A (.call (.ref f) args) (CR CX outer P w H s Q E) s := by
  obtain ⟨oc, od, kV, doc, pm, an, cdv, ct, osl, rfl, lk, hcd⟩ := F.ex
  have KX : K.In s.heap := e0.mod.kin.keeps fun b o e => (e0.bs b o e).1
  have lim : s.heap.NoLimit := e0.mod.nolimit.keeps fun b o e => (e0.bs b o e).1
  have kinds : ∀ y ∈ ps.zip us, (defScope st).names.lookup y.1 = some .local ∨ ((defScope st).names.lookup y.1 = some .cell ∧ ((cellsFrom (s.heap.objs.size + 1) (defScope st).names []).lookup y.1).isSome = true) := fun ⟨n, v⟩ hy =>
    (S.par n (List.of_mem_zip hy).1).imp id fun q => ⟨q, PySem.W.cellsFrom_some _ _ _ (.inl q)⟩
  refine codeAny_call_function hr.depth (KX _ _ lk) rfl S.co S.gen rfl (PySem.W.codeRec_of KX hcd) (hb _ _ _ _ ?_)
  refine wpAny_newFunctionEnv_cells S.kind kinds fun env he s1 x => ?_
  subst he
  refine ⟨lim.keeps x.toInCall.keep, codeAny_func ?_⟩
  obtain ⟨t, ht, hq⟩ := body cdv (hr.deeper _)
  have I : Inv (cxOf CX P w K mg base N qual (defScope st) f cdv A outer s H E) [] (start N vs) H s1 := inv_start S hr.hd e0 hl r x
  have fin : ∀ {σ2 : St} {H2 : Hp} {s2 : Shared} {v : V} {u : Value}, Inv (cxOf CX P w K mg base N qual (defScope st) f cdv A outer s H E) [] σ2 H2 s2 → RelV v u → Q v H2 → CE outer P w H s Q u s2 :=
    fun {σ2 H2 s2 v u} J rv q => ⟨v, H2, J.os, J.bare, J.base, J.hok, rv, q⟩
  refine wpAny_mono (ht.run [] s1 (start N vs) H _ I hq) (fun fl s2 hs => ?_) fun e s2 hs => hs
  cases fl with
  | ret u =>
    obtain ⟨v, σ2, H2, J, rv, q⟩ := hs
    exact fin J rv q
  | next =>
    obtain ⟨σ2, H2, J, q⟩ := hs
    exact fin (v := V.non) (u := Value.none) J rfl q
  | brk =>
    obtain ⟨_, _, _, q⟩ := hs
    exact False.elim q
  | cont =>
    obtain ⟨_, _, _, q⟩ := hs
    exact False.elim q

/-- what the law's def must keep, called by the caller alone -/
def LawKept (P : Program) (w : World) (K : PySem.W.Frag) (mg : Str → Option Value) (fa : Addr) (n : Nat) : Prop :=
  ∀ (base : Heap) (s : Shared) (H : Hp) (a : Addr) (ns : List Int), K.In base → base.Ns mainGlobals mg → Env0 P w K mg base callerA [] s H → ns.length ≤ n → SqL K H a (ns.map V.int) →
    codeAny (model P w) callerA (.call (.ref fa) ⟨[.ref a], []⟩) (CR CX0 [] P w H s (fun v _ => v = .bl true) E0) s

theorem law_kept {P : Program} {w : World} {K : PySem.W.Frag} {mg mb : Str → Option Value} {fa a : Addr} {s₁ : Shared} {vs : List Value} {ns : List Int} {n : Nat}
    (KX : K.In s₁.heap) (hns : s₁.heap.Ns mainGlobals mg) (hb : s₁.heap.Ns builtinsNs mb) (hbb : ∀ x : Str, x ≠ "__name__" → mb x = bootBuiltins x) (lim : s₁.heap.NoLimit) (hg : s₁.gens = #[])
    (ha : s₁.heap.get? a = some { cls := .type "list", data := .seq vs.toArray }) (hi : IntsAre vs ns) (hl : ns.length ≤ sizeLine) (hn : ns.length ≤ n) (L : LawKept P w K mg fa n) :
    codeAny (model P w) callerA (.call (.ref fa) ⟨[.ref a], []⟩) (fun r s2 => r = .ok (.ret (.bool true)) ∧ OldK s₁.heap s2.heap ∧ s2.os = s₁.os ∧ AllBare s2.gens) s₁ := by
  have rv := vals_ints hi
  have num := hi.length
  have core : ∀ H : Hp, Only H → SqL K H a (ns.map V.int) → HOk P w H s₁.heap → (∀ b, H b ≠ none → b = a) → (H a ≠ none → K.lookup a = none) →
      codeAny (model P w) callerA (.call (.ref fa) ⟨[.ref a], []⟩) (fun r s2 => r = .ok (.ret (.bool true)) ∧ OldK s₁.heap s2.heap ∧ s2.os = s₁.os ∧ AllBare s2.gens) s₁ := by
    intro H hO hS hok only out
    have hid : ∀ {b : Addr} {o : Obj}, s₁.heap.get? b = some o → H b = none → (hidT s₁.heap H).get? b = some o := fun e z => hidT_get e z
    have noD : ∀ {b : Addr} {o : Obj} {es : Array DictEntry} {ep : Nat}, s₁.heap.get? b = some o → o.data = .dict es ep → H b = none := fun {b o es ep} e d => by
      cases q : H b with
      | none => rfl
      | some u =>
        obtain rfl : b = a := only b (by rw [q]; simp)
        rw [ha] at e
        cases e
        have d2 : Data.seq vs.toArray _ = Data.dict es ep := d
        cases d2
    have ns_ : ∀ {b : Addr} {m : Str → Option Value}, s₁.heap.Ns b m → (hidT s₁.heap H).Ns b m := fun {b m} ⟨o, es, ep, e, d, r⟩ => ⟨o, es, ep, hid e (noD e d), d, r⟩
    have inK : K.In (hidT s₁.heap H) := fun b o e => hid (KX b o e) (by
      cases q : H b with
      | none => rfl
      | some u =>
        obtain rfl : b = a := only b (by rw [q]; simp)
        rw [out (by rw [q]; simp)] at e
        cases e)
    have M : Mod K mg (hidT s₁.heap H) := ⟨inK, ns_ hns, ⟨mb, ns_ hb, hbb⟩, let ⟨mc, h1, h2⟩ := lim; ⟨mc, ns_ h1, h2⟩⟩
    have e0 : Env0 P w K mg (hidT s₁.heap H) callerA [] s₁ H := ⟨rfl, M, fun b o e => of_hidT e, Nat.le_of_eq (hidT_size _ _), trivial, fun b z => absurd (show b ∈ ([] : List Addr) from z) (by simp), hok, .of_eq hg⟩
    refine codeAny_mono (L _ s₁ H a ns inK (ns_ hns) e0 hn hS) fun r s2 h => ?_
    cases r with
    | error e => exact False.elim h
    | ok fl =>
      cases fl with
      | next => exact False.elim h
      | brk => exact False.elim h
      | cont => exact False.elim h
      | ret u =>
        obtain ⟨v, H2, os, bare, un, hok2, r2, q⟩ := h
        obtain rfl : v = .bl true := q
        obtain rfl : u = Value.bool true := r2
        refine ⟨rfl, OldK.of_keep fun b o e => ?_, os, bare⟩
        cases q : H b with
        | none => exact un.keep b o e q (fun z => absurd (show b ∈ ([] : List Addr) from z) (by simp)) (by simp)
        | some u =>
          rcases hO b with z | ⟨ob, xs, z⟩
          · rw [q] at z
            cases z
          · obtain ⟨e1, _⟩ := hok b _ z
            obtain ⟨e2, _⟩ := hok2 b _ (un.frzs b ob _ z)
            rw [e] at e1
            cases e1
            exact e2
  cases hk : K.lookup a with
  | some o =>
    have e := KX a o hk
    rw [ha] at e
    cases e
    exact core (fun _ => none) (fun _ => .inl rfl) (.inr ⟨_, vs.toArray, _, hk, rfl, rfl, rfl, by rw [List.size_toArray, num]; exact hl, by simpa using rv⟩) (fun b u z => nomatch (show (none : Option HO) = some u from z)) (fun b z => absurd rfl z) fun z => absurd rfl z
  | none =>
    have at1 : (fun b => if b = a then some (HO.frz { cls := .type "list", data := .seq vs.toArray } (.lst (ns.map V.int))) else none) a = some (HO.frz { cls := .type "list", data := .seq vs.toArray } (.lst (ns.map V.int))) := if_pos rfl
    have at2 : ∀ b, b ≠ a → (fun b => if b = a then some (HO.frz { cls := .type "list", data := .seq vs.toArray } (.lst (ns.map V.int))) else none) b = none := fun b hb => if_neg hb
    refine core (fun b => if b = a then some (.frz { cls := .type "list", data := .seq vs.toArray } (.lst (ns.map V.int))) else none) (fun b => ?_) (.inl (.inr ⟨_, at1⟩)) (fun b u z => ?_) (fun b z => ?_) fun _ => hk
    · by_cases hb : b = a
      · subst hb
        exact .inr ⟨_, _, at1⟩
      · exact .inl (at2 b hb)
    · by_cases hb : b = a
      · subst hb
        rw [at1] at z
        cases z
        exact ⟨ha, by rw [List.length_map]; exact hl, vs, _, rv, ha⟩
      · rw [at2 b hb] at z
        cases z
    · exact Classical.byContradiction fun hb => z (at2 b hb)

/-- the goal that k_head leaves (case hc) -/
theorem walk_kept {l : PySem.W.OpenLaw} {n : Nat} {q : Program} {loose : List Str} {XP : (Str → Option Value) → Heap → Prop} {YP : World → Heap → Prop} {d : DefRec} {K : Params → PySem.W.Frag}
    (hn : l.most = some n) (hn2 : n ≤ sizeLine) (hdf : d.params.defaults = []) (hY : ∀ (w : World) (h : Heap), YP w h → (K w.params).In h)
    (F : ∀ (w : World) (mg : Str → Option Value) (fa : Addr) (h : Heap), (K w.params).In h → h.Ns mainGlobals mg → mg d.name = some (.ref fa) → LawKept l.prog w (K w.params) mg fa n) :
    PySem.W.WalkO q loose XP YP l.row.toRowW d [] (fun f vs => PySem.call f vs) := by
  refine Att.attach_call hn hdf fun w s₀ s₁ mg mb fa o pm cd doc a vs ns G Y ho hd hcd hmg hobj hints hlen hg => ?_
  have KX := hY w _ Y
  exact law_kept KX G.T.g G.T.b G.T.builtins G.T.nolimit hg hobj hints (Nat.le_trans hlen hn2) hlen (F w mg fa _ KX G.T.g hmg)
end L2
/-! The program's text by places; the names of each def by slot. -/
namespace L2
open PySem PySem.Spec PyProof.Rows Fa
namespace T
def top (i : Nat) : Stmt := PySem.Challenge.pw_shortgoings_k49_whole_first_apart.main.body.getD i (.Pass ⟨0, 0, 0, 0⟩)
abbrev isWhole : Stmt := top 5
abbrev isWholeN : List Str := ["thing"]
theorem isWholeS : FnScope isWholeN ["thing"] (defScope isWhole) := ⟨rfl, rfl, rfl, by decide +kernel, rfl, by decide +kernel, by decide +kernel⟩
abbrev isMoment : Stmt := top 6
abbrev isMomentN : List Str := ["thing"]
theorem isMomentS : FnScope isMomentN ["thing"] (defScope isMoment) := ⟨rfl, rfl, rfl, by decide +kernel, rfl, by decide +kernel, by decide +kernel⟩
abbrev wantDay : Stmt := top 11
abbrev wantDayN : List Str := ["thing"]
theorem wantDayS : FnScope wantDayN ["thing"] (defScope wantDay) := ⟨rfl, rfl, rfl, by decide +kernel, rfl, by decide +kernel, by decide +kernel⟩
abbrev areSigns : Stmt := top 12
abbrev areSignsN : List Str := ["thing", "sign"]
theorem areSignsS : FnScope areSignsN ["thing"] (defScope areSigns) := ⟨rfl, rfl, rfl, by decide +kernel, rfl, by decide +kernel, by decide +kernel⟩
abbrev rInit : Stmt := inClass (top 13) 0
abbrev rInitN : List Str := ["self", "text"]
theorem rInitS : FnScope rInitN ["self", "text"] (defScope rInit) := ⟨rfl, rfl, rfl, by decide +kernel, rfl, by decide +kernel, by decide +kernel⟩
abbrev rEq : Stmt := inClass (top 13) 1
abbrev rEqN : List Str := ["self", "other"]
theorem rEqS : FnScope rEqN ["self", "other"] (defScope rEq) := ⟨rfl, rfl, rfl, by decide +kernel, rfl, by decide +kernel, by decide +kernel⟩
abbrev rLen : Stmt := inClass (top 13) 2
abbrev rLenN : List Str := ["self"]
theorem rLenS : FnScope rLenN ["self"] (defScope rLen) := ⟨rfl, rfl, rfl, by decide +kernel, rfl, by decide +kernel, by decide +kernel⟩
abbrev rStr : Stmt := inClass (top 13) 3
abbrev rStrN : List Str := ["self"]
theorem rStrS : FnScope rStrN ["self"] (defScope rStr) := ⟨rfl, rfl, rfl, by decide +kernel, rfl, by decide +kernel, by decide +kernel⟩
abbrev rRings : Stmt := inClass (top 13) 5
abbrev rRingsN : List Str := ["self", "day"]
theorem rRingsS : FnScope rRingsN ["self", "day"] (defScope rRings) := ⟨rfl, rfl, rfl, by decide +kernel, rfl, by decide +kernel, by decide +kernel⟩
abbrev toldDays : Stmt := top 20
abbrev toldDaysN : List Str := ["thing", "day", "found", "one", "other"]
theorem toldDaysS : FnScope toldDaysN ["thing"] (defScope toldDays) := ⟨rfl, rfl, rfl, by decide +kernel, rfl, by decide +kernel, by decide +kernel⟩
abbrev wantTill : Stmt := top 21
abbrev wantTillN : List Str := ["since", "till"]
theorem wantTillS : FnScope wantTillN ["since", "till"] (defScope wantTill) := ⟨rfl, rfl, rfl, by decide +kernel, rfl, by decide +kernel, by decide +kernel⟩
abbrev dInit : Stmt := inClass (top 22) 0
abbrev dInitN : List Str := ["self", "ring", "since", "till", "out", "also", "day"]
theorem dInitS : FnScope dInitN ["self", "ring", "since", "till", "out", "also"] (defScope dInit) := ⟨rfl, rfl, rfl, by decide +kernel, rfl, by decide +kernel, by decide +kernel⟩
abbrev dEq : Stmt := inClass (top 22) 1
abbrev dEqN : List Str := ["self", "other"]
theorem dEqS : FnScope dEqN ["self", "other"] (defScope dEq) := ⟨rfl, rfl, rfl, by decide +kernel, rfl, by decide +kernel, by decide +kernel⟩
abbrev dStr : Stmt := inClass (top 22) 2
abbrev dStrN : List Str := ["self", "words", "word", "some", "day"]
theorem dStrS : FnScope dStrN ["self"] (defScope dStr) := ⟨rfl, rfl, rfl, by decide +kernel, rfl, by decide +kernel, by decide +kernel⟩
abbrev dHas : Stmt := inClass (top 22) 4
abbrev dHasN : List Str := ["self", "day"]
theorem dHasS : FnScope dHasN ["self", "day"] (defScope dHas) := ⟨rfl, rfl, rfl, by decide +kernel, rfl, by decide +kernel, by decide +kernel⟩
abbrev edgesOf : Stmt := top 23
abbrev edgesOfN : List Str := ["some", "found", "days", "day"]
theorem edgesOfS : FnScope edgesOfN ["some"] (defScope edgesOf) := ⟨rfl, rfl, rfl, by decide +kernel, rfl, by decide +kernel, by decide +kernel⟩
abbrev stretches : Stmt := top 24
abbrev stretchesN : List Str := ["edges", "begin", "end", "starts", "found", "here", "there", "edge"]
theorem stretchesS : FnScope stretchesN ["edges", "begin", "end"] (defScope stretches) := ⟨rfl, rfl, rfl, by decide +kernel, rfl, by decide +kernel, by decide +kernel⟩
abbrev firstDays : Stmt := top 25
abbrev firstDaysN : List Str := ["begin", "end", "many"]
theorem firstDaysS : FnScope firstDaysN ["begin", "end", "many"] (defScope firstDays) := ⟨rfl, rfl, rfl, by decide +kernel, rfl, by decide +kernel, by decide +kernel⟩
abbrev round : Stmt := top 26
abbrev roundN : List Str := ["one", "other", "found"]
theorem roundS : FnScope roundN ["one", "other"] (defScope round) := ⟨rfl, rfl, rfl, by decide +kernel, rfl, by decide +kernel, by decide +kernel⟩
abbrev apart : Stmt := top 27
abbrev apartN : List Str := ["one", "other", "many", "begin", "end", "day"]
theorem apartS : FnScope apartN ["one", "other"] (defScope apart) := ⟨rfl, rfl, rfl, by decide +kernel, rfl, by decide +kernel, by decide +kernel⟩
abbrev lPot : Stmt := top 29
abbrev lPotN : List Str := ["_law_script", "_law_k", "_law_cell"]
theorem lPotS : FnScope lPotN ["_law_script", "_law_k"] (defScope lPot) := ⟨rfl, rfl, rfl, by decide +kernel, rfl, by decide +kernel, by decide +kernel⟩
abbrev lTake : Stmt := top 30
abbrev lTakeN : List Str := ["_law_pot_here", "_law_many", "_law_digit"]
theorem lTakeS : FnScope lTakeN ["_law_pot_here", "_law_many"] (defScope lTake) := ⟨rfl, rfl, rfl, by decide +kernel, rfl, by decide +kernel, by decide +kernel⟩
abbrev lGreat : Stmt := top 31
abbrev lGreatN : List Str := ["_law_pot_here", "_law_bound", "_law_found", "_law_k"]
theorem lGreatS : FnScope lGreatN ["_law_pot_here", "_law_bound"] (defScope lGreat) := ⟨rfl, rfl, rfl, by decide +kernel, rfl, by decide +kernel, by decide +kernel⟩
abbrev lBits : Stmt := top 32
abbrev lBitsN : List Str := ["_law_pot_here", "_law_k"]
theorem lBitsS : FnScope lBitsN ["_law_pot_here"] (defScope lBits) := ⟨rfl, rfl, rfl, by decide +kernel, rfl, by decide +kernel, by decide +kernel⟩
abbrev lNear : Stmt := top 33
abbrev lNearN : List Str := ["_law_pot_here", "_law_low", "_law_high", "_law_way"]
theorem lNearS : FnScope lNearN ["_law_pot_here", "_law_low", "_law_high"] (defScope lNear) := ⟨rfl, rfl, rfl, by decide +kernel, rfl, by decide +kernel, by decide +kernel⟩
abbrev lFew : Stmt := top 34
abbrev lFewN : List Str := ["_law_pot_here", "_law_low", "_law_high", "_law_taken", "_law_found", "_law_k", "_law_spot"]
theorem lFewS : FnScope lFewN ["_law_pot_here", "_law_low", "_law_high", "_law_taken"] (defScope lFew) := ⟨rfl, rfl, rfl, by decide +kernel, rfl, by decide +kernel, by decide +kernel⟩
abbrev lSome : Stmt := top 35
abbrev lSomeN : List Str := ["_law_pot_here", "_law_way", "_law_bits_here", "_law_low", "_law_high", "_law_gone"]
theorem lSomeS : FnScope lSomeN ["_law_pot_here"] (defScope lSome) := ⟨rfl, rfl, rfl, by decide +kernel, rfl, by decide +kernel, by decide +kernel⟩
abbrev lHas : Stmt := top 36
abbrev lHasN : List Str := ["_law_some_here", "_law_spot", "_law_bits_here", "_law_low", "_law_high", "_law_gone", "_law_more"]
theorem lHasS : FnScope lHasN ["_law_some_here", "_law_spot"] (defScope lHas) := ⟨rfl, rfl, rfl, by decide +kernel, rfl, by decide +kernel, by decide +kernel⟩
abbrev lMade : Stmt := top 37
abbrev lMadeN : List Str := ["_law_some_here"]
theorem lMadeS : FnScope lMadeN ["_law_some_here"] (defScope lMade) := ⟨rfl, rfl, rfl, by decide +kernel, rfl, by decide +kernel, by decide +kernel⟩
abbrev lEdges : Stmt := top 38
abbrev lEdgesN : List Str := ["_law_some_here", "_law_found", "_law_spot"]
theorem lEdgesS : FnScope lEdgesN ["_law_some_here"] (defScope lEdges) := ⟨rfl, rfl, rfl, by decide +kernel, rfl, by decide +kernel, by decide +kernel⟩
abbrev lPair : Stmt := top 39
abbrev lPairN : List Str := ["_law_pot_here", "_law_way", "_law_head", "_law_bits_here", "_law_low", "_law_high", "_law_gone", "_law_more", "_law_many", "_law_spot", "_law_at"]
theorem lPairS : FnScope lPairN ["_law_pot_here"] (defScope lPair) := ⟨rfl, rfl, rfl, by decide +kernel, rfl, by decide +kernel, by decide +kernel⟩
abbrev lAlike : Stmt := top 40
abbrev lAlikeN : List Str := ["_law_head", "_law_two", "_law_high", "_law_edges_here", "_law_cuts", "_law_here", "_law_there", "_law_last", "_law_edge", "_law_spot"]
theorem lAlikeS : FnScope lAlikeN ["_law_head", "_law_two", "_law_high"] (defScope lAlike) := ⟨rfl, rfl, rfl, by decide +kernel, rfl, by decide +kernel, by decide +kernel⟩
abbrev lRight : Stmt := top 41
abbrev lRightN : List Str := ["_law_found", "_law_head", "_law_two"]
theorem lRightS : FnScope lRightN ["_law_found", "_law_head", "_law_two"] (defScope lRight) := ⟨rfl, rfl, rfl, by decide +kernel, rfl, by decide +kernel, by decide +kernel⟩
abbrev lUnlike : Stmt := top 42
abbrev lUnlikeN : List Str := ["_law_days", "_law_some_here", "_law_things", "_law_thing"]
theorem lUnlikeS : FnScope lUnlikeN ["_law_days", "_law_some_here"] (defScope lUnlike) := ⟨rfl, rfl, rfl, by decide +kernel, rfl, by decide +kernel, by decide +kernel⟩
abbrev law : Stmt := top 43
abbrev lawN : List Str := ["_law_script", "_law_k", "_law_some_here", "_law_made_here", "_law_shown", "_law_found", "_law_due", "_law_told"]
theorem lawS : FnScope lawN ["_law_script"] (defScope law) := ⟨rfl, rfl, rfl, by decide +kernel, rfl, by decide +kernel, by decide +kernel⟩
end T
end L2
/-! Callees in short; what the walk asks of the text; the data: rings, days, the law's tuples. -/
namespace L2
open PySem PySem.Spec PyProof.Rows Fa

/-- a def that may be called by its name: its level, its parameters, its promise -/
def Cal (P : Program) (w : World) (K : PySem.W.Frag) (mg : Str → Option Value) (base : Heap) (k : Nat) (x : Str) (ps : List Str) (sp : Sp) : Prop :=
  ∃ f fd, FnOk P w K mg base CX0 k f fd ps sp ∧ mg x = some (.ref f) ∧ PySem.W.keepIn K (.ref f) = true ∧ Binds K fd ps []
/-- a method -/
def CalM (P : Program) (w : World) (K : PySem.W.Frag) (mg : Str → Option Value) (base : Heap) (k : Nat) (C : Addr) (m : Str) (ps : List Str) (sp : Sp) : Prop :=
  ∃ f fd, FnOk P w K mg base CX0 k f fd ps sp ∧ Meth K C m f ∧ Binds K fd ps []
/-- a class that is made -/
def CalC (P : Program) (w : World) (K : PySem.W.Frag) (mg : Str → Option Value) (base : Heap) (k : Nat) (x : Str) (C : Addr) (ps : List Str) (sp : Sp) : Prop :=
  ∃ f fd, FnOk P w K mg base CX0 k f fd ps sp ∧ Mk K C f ∧ mg x = some (.ref C) ∧ Binds K fd ps []
/-- a constant of the module -/
def KVal (mg : Str → Option Value) (x : Str) (v : V) : Prop := ∃ u, mg x = some u ∧ RelV v u

section
variable {X : Cx} {k : Nat} {x m : Str} {C : Addr} {ps : List Str} {sp : Sp} {p pos apos : Pos} {e o : Expr} {es : List Expr} {t : TA} {ta : TE} {v : V}
theorem pe_cal (c : Cal X.prog X.w X.K X.mg X.base k x ps sp) (hr : Room k X.A) (hg : Gl X x) (ha : PA X (e :: es) t) (hdb : (x == ("__debug__" : Str)) = false := by decide)
    (he : starEach (e :: es) X.env = (false, eval e X.env) :: starEach es X.env := by rfl) (hpl : (backTo pos (starEach es X.env)).any (·.1) = false := by rfl) :
    PE X (.Call (.Name x p) (e :: es) [] pos) (tCall sp [] E0 t) := by
  obtain ⟨f, fd, F, hm, hk, hb⟩ := c
  exact pe_call F hr hg hm hk hb .nil pass0 ha hdb he hpl
theorem pe_calM {pl : Sem Bool} (c : CalM X.prog X.w X.K X.mg X.base k C m ps sp) (he : PE X o ta) (cl : Cls X.K C) (hr : Room k X.A) (ha : PA X (e :: es) t)
    (hst : starEach (e :: es) X.env = (false, eval e X.env) :: starEach es X.env := by rfl) (hpl : (backTo pos (starEach es X.env)).any (·.1) = false := by rfl)
    (ht : eval (.Call (.Attribute o m apos) (e :: es) [] pos) X.env = (do
      let ov ← eval o X.env
      standAt apos.atName
      let (f, first) ← holding [ov] (getMethod ov m pl)
      callWith pos f first (backTo pos (starEach (e :: es) X.env)) (backToKw pos (keywordEach [] X.env))) := by rfl) :
    PE X (.Call (.Attribute o m apos) (e :: es) [] pos) (tMeth C m sp [] E0 ta t) := by
  obtain ⟨f, fd, F, hm, hb⟩ := c
  exact pe_meth he cl hm F hr hb .nil pass0 ha hst hpl ht
theorem pe_calC (c : CalC X.prog X.w X.K X.mg X.base k x C ps sp) (hr : Room (k + 1) X.A) (hg : Gl X x) (ha : PA X (e :: es) t) (hdb : (x == ("__debug__" : Str)) = false := by decide)
    (he : starEach (e :: es) X.env = (false, eval e X.env) :: starEach es X.env := by rfl) (hpl : (backTo pos (starEach es X.env)).any (·.1) = false := by rfl) :
    PE X (.Call (.Name x p) (e :: es) [] pos) (tMake C sp [] E0 t) := by
  obtain ⟨f, fd, F, M, hm, hb⟩ := c
  exact pe_make M F hr hg hm hb .nil pass0 ha hdb he hpl
theorem pe_kv (hg : Gl X x) (h : KVal X.mg x v) (hd : (x == ("__debug__" : Str)) = false := by decide) : PE X (.Name x pos) (tC v) := by
  obtain ⟨u, hm, r⟩ := h
  exact pe_glob hg hm r hd
end

/-! ### what the walk asks of the text -/
/-- what isinstance asks of a class -/
structure IsF (K : PySem.W.Frag) (C : Addr) : Prop where
  ha : PySem.W.findIn K (.ref C) "__class__" = some (some (.builtin "object.__class__"))
  hm : PySem.W.mroIn K C (.type "object") = some true
structure Txt (K : PySem.W.Frag) (mg : Str → Option Value) (CR CD : Addr) : Prop where
  clR : Cls K CR
  clD : Cls K CD
  isR : IsF K CR
  isD : IsF K CD
  og : PySem.W.specialIn K (.builtin "object.__class__") "__get__" = some (some (.builtin "getset_descriptor.__get__"))
  ot : PySem.W.takesIn K (.builtin "object.__class__") = some true
  aBits : NoAttr K CR "bits"
  aRing : NoAttr K CD "ring"
  aSince : NoAttr K CD "since"
  aTill : NoAttr K CD "till"
  aOut : NoAttr K CD "out"
  aAlso : NoAttr K CD "also"
  gR : mg "Ring" = some (.ref CR)
  gD : mg "Days" = some (.ref CD)
  cMostSigns : KVal mg "MOST_SIGNS" (.int 7)
  cNought : KVal mg "NOUGHT" (.str "0")
  cOne : KVal mg "ONE" (.str "1")
  cMostDays : KVal mg "MOST_DAYS" (.int 8)
  cFrom : KVal mg "FROM" (.str "from")
  cTo : KVal mg "TO" (.str "to")
  cNot : KVal mg "NOT" (.str "not")
  cAlso : KVal mg "ALSO" (.str "also")
  nIsinstance : mg "isinstance" = none
  nInt : mg "int" = none
  nBool : mg "bool" = none
  nStr : mg "str" = none
  nLen : mg "len" = none
  nAll : mg "all" = none
  nAny : mg "any" = none
  nList : mg "list" = none
  nTuple : mg "tuple" = none
  nSorted : mg "sorted" = none
  nSet : mg "set" = none
  nZip : mg "zip" = none
  nRange : mg "range" = none
  nMin : mg "min" = none
  nMax : mg "max" = none
  nDivmod : mg "divmod" = none
  nRepr : mg "repr" = none
  -- isinstance with the two classes
  kRR : PySem.W.kitOne K (.ref CR) (.ref CR) = some true
  kDD : PySem.W.kitOne K (.ref CD) (.ref CD) = some true
  kDR : PySem.W.kitOne K (.ref CD) (.ref CR) = some false
  kRD : PySem.W.kitOne K (.ref CR) (.ref CD) = some false
  kNoneD : PySem.W.kitOne K (.type "NoneType") (.ref CD) = some false
  kBoolD : PySem.W.kitOne K (.type "bool") (.ref CD) = some false
  kIntD : PySem.W.kitOne K (.type "int") (.ref CD) = some false
  kStrD : PySem.W.kitOne K (.type "str") (.ref CD) = some false
  kListD : PySem.W.kitOne K (.type "list") (.ref CD) = some false
  kTupleD : PySem.W.kitOne K (.type "tuple") (.ref CD) = some false
  kDictD : PySem.W.kitOne K (.type "dict") (.ref CD) = some false
  -- which side of a comparison goes first
  fDD : PySem.W.notFirst K CD (.ref CD) = true
  fDR : PySem.W.notFirst K CD (.ref CR) = true
  fRD : PySem.W.notFirst K CR (.ref CD) = true
  fNone : PySem.W.notFirst K CD (.type "NoneType") = true
  fBool : PySem.W.notFirst K CD (.type "bool") = true
  fInt : PySem.W.notFirst K CD (.type "int") = true
  fStr : PySem.W.notFirst K CD (.type "str") = true
  fList : PySem.W.notFirst K CD (.type "list") = true
  fTuple : PySem.W.notFirst K CD (.type "tuple") = true
  fDict : PySem.W.notFirst K CD (.type "dict") = true
  sNone : PySem.W.subIn K (.ref CD) (.type "NoneType") = some false
  sBool : PySem.W.subIn K (.ref CD) (.type "bool") = some false
  sInt : PySem.W.subIn K (.ref CD) (.type "int") = some false
  sStr : PySem.W.subIn K (.ref CD) (.type "str") = some false
  sList : PySem.W.subIn K (.ref CD) (.type "list") = some false
  sTuple : PySem.W.subIn K (.ref CD) (.type "tuple") = some false
  sDict : PySem.W.subIn K (.ref CD) (.type "dict") = some false
  sObj : PySem.W.subIn K (.ref CD) (.type "object") = some true
  dNe : PySem.W.findIn K (.ref CD) "__ne__" = some (some (.builtin "object.__ne__"))
end L2
/-! The data of the program's objects and of the law's tuples. -/
namespace L2
open PySem PySem.Spec PyProof.Rows Fa

def optV : Option Int → V
  | none => .non
  | some i => .int i
/-- a ring's text -/
structure OkZ (z : Str) : Prop where
  pos : 1 ≤ z.length
  most : z.length ≤ 7
  signs : ∀ c ∈ z.cps.toList, c = 48 ∨ c = 49
def bitAt (z : Str) (x : Int) : Bool := z.cps.toList[(x % (z.length : Int)).toNat]? == some 49
/-- days, told -/
structure SD where
  z : Str
  lo : Int
  hi : Option Int
  gone : List Int
  more : List Int
def SD.dd (d : SD) : Dd := ⟨bitAt d.z, d.lo, d.hi, d.gone, d.more⟩
abbrev SD.has (d : SD) (x : Int) : Bool := d.dd.has x
structure OkL (xs : List Int) : Prop where
  nn : ∀ x ∈ xs, 0 ≤ x
  lt : ∀ x ∈ xs, x < 10 ^ 51
  nd : xs.Nodup
  few : xs.length ≤ 8
structure OkSD (d : SD) : Prop where
  z : OkZ d.z
  lo0 : 0 ≤ d.lo
  lo1 : d.lo < 3 * 10 ^ 50
  hi0 : ∀ h, d.hi = some h → d.lo ≤ h
  hi1 : ∀ h, d.hi = some h → h < 3 * 10 ^ 50
  gone : OkL d.gone
  more : OkL d.more
  disj : ∀ x ∈ d.more, x ∉ d.gone

/-- a Ring stands at r -/
def rF (z : Str) : List (Str × V) := [("bits", .str z)]
def RingAt (C : Addr) (H : Hp) (r : Addr) (z : Str) : Prop := ∃ dx, H r = some (.ins C dx (rF z))
/-- Days stand at p -/
def dF (r : Addr) (lo : Int) (hi : Option Int) (o l : Addr) : List (Str × V) := [("ring", .ref r), ("since", .int lo), ("till", optV hi), ("out", .ref o), ("also", .ref l)]
def DaysAt (CR CD : Addr) (H : Hp) (p : Addr) (d : SD) : Prop := ∃ dx r o l, H p = some (.ins CD dx (dF r d.lo d.hi o l)) ∧ RingAt CR H r d.z ∧ H o = some (.tup (d.gone.map V.int)) ∧ H l = some (.tup (d.more.map V.int))
/-- the law's tuple of five -/
def SomeAt (H : Hp) (t : Addr) (d : SD) : Prop := ∃ g m, H t = some (.tup [.str d.z, .int d.lo, optV d.hi, .ref g, .ref m]) ∧ H g = some (.lst (d.gone.map V.int)) ∧ H m = some (.lst (d.more.map V.int))

section
variable {C CR CD : Addr} {H H' : Hp} {r p t : Addr} {z : Str} {d : SD}
theorem RingAt.same (e : Same H H') (h : RingAt C H r z) : RingAt C H' r z := by
  obtain ⟨dx, h⟩ := h
  exact ⟨dx, e _ _ h⟩
theorem DaysAt.same (e : Same H H') (h : DaysAt CR CD H p d) : DaysAt CR CD H' p d := by
  obtain ⟨dx, r, o, l, h1, h2, h3, h4⟩ := h
  exact ⟨dx, r, o, l, e _ _ h1, h2.same e, e _ _ h3, e _ _ h4⟩
theorem SomeAt.same (e : Same H H') (h : SomeAt H t d) : SomeAt H' t d := by
  obtain ⟨g, m, h1, h2, h3⟩ := h
  exact ⟨g, m, e _ _ h1, e _ _ h2, e _ _ h3⟩
end
theorem rF_bits (z : Str) : (rF z).lookup ("bits" : Str) = some (.str z) := by kernel_rfl
section
variable (r o l : Addr) (lo : Int) (hi : Option Int)
theorem dF_ring : (dF r lo hi o l).lookup ("ring" : Str) = some (.ref r) := by kernel_rfl
theorem dF_since : (dF r lo hi o l).lookup ("since" : Str) = some (.int lo) := by kernel_rfl
theorem dF_till : (dF r lo hi o l).lookup ("till" : Str) = some (optV hi) := by kernel_rfl
theorem dF_out : (dF r lo hi o l).lookup ("out" : Str) = some (.ref o) := by kernel_rfl
theorem dF_also : (dF r lo hi o l).lookup ("also" : Str) = some (.ref l) := by kernel_rfl
theorem dF_has : (dF r lo hi o l).lookup ("has" : Str) = none := by kernel_rfl
theorem rF_rings (z : Str) : (rF z).lookup ("rings" : Str) = none := by kernel_rfl
theorem rF_put (z : Str) : putF "bits" (.str z) [] = rF z := by kernel_rfl
theorem dF_put : putF "also" (.ref l) (putF "out" (.ref o) (putF "till" (optV hi) (putF "since" (.int lo) (putF "ring" (.ref r) [])))) = dF r lo hi o l := by kernel_rfl
end
/-- new objects leave what stood -/
theorem Same.upd {H H1 : Hp} {p : Addr} {o : HO} (e : Same H H1) (h : H1 p = none) : Same H (upd H1 p o) := fun b u q => by
  rw [upd_ne (ne_of_none (e b u q) h)]
  exact e b u q
theorem Same.tup {K : PySem.W.Frag} {H H' : Hp} {a : Addr} {xs : List V} (e : Same H H') (h : SqT K H a xs) : SqT K H' a xs := by
  rcases h with (h | ⟨o, h⟩) | h
  · exact .inl (.inl (e _ _ h))
  · exact .inl (.inr ⟨o, e _ _ h⟩)
  · exact .inr h
end L2
/-! Comprehensions that keep what stood; isinstance in short. -/
namespace L2
open PySem PySem.Spec PyProof.Rows Fa

theorem take_snoc {α : Type} {xs : List α} {i : Nat} {a : α} (h : xs[i]? = some a) : xs.take (i + 1) = xs.take i ++ [a] := by
  obtain ⟨hl, rfl⟩ := List.getElem?_eq_some_iff.mp h
  rw [List.take_succ_eq_append_getElem hl]
theorem get_mapF {α β : Type} {f : α → β} {xs : List α} {i : Nat} {b : β} (h : (xs.map f)[i]? = some b) : ∃ a, xs[i]? = some a ∧ b = f a := by
  rw [List.getElem?_map] at h
  cases e : xs[i]? with
  | none => rw [e] at h; cases h
  | some a => rw [e] at h; exact ⟨a, rfl, (Option.some.inj h).symm⟩
theorem get_lt {α : Type} {xs : List α} {i : Nat} (h : i < xs.length) : ∃ a, xs[i]? = some a := ⟨xs[i], List.getElem?_eq_getElem h⟩
theorem same_rfl {H : Hp} : Same H H := fun _ _ e => e
theorem Same.tr {H H1 H2 : Hp} (a : Same H H1) (b : Same H1 H2) : Same H H2 := fun c u e => b _ _ (a c u e)
theorem same_new {H : Hp} {p : Addr} {o : HO} (h : H p = none) : Same H (upd H p o) := fun b u q => by
  rw [upd_ne (ne_of_none q h)]
  exact q

/-- a comprehension over a walk whose i-th item goes with xs[i]: the heap that stood stays -/
theorem lc_fil {α : Type} {J : It} {G : Hp → Prop} {Y : Nat → Hp → V → Hp → Prop} (xs : List α) (f : α → V) (keep : α → Bool) (w : Walk J xs.length G Y) {g : TG} {tt : TT} {te : TE} {vs : List Nat} {σ : St} {H1 : Hp} {D : Addr} {Qd : Hp → Prop}
    (hn : xs.length < sizeLine) (hD : H1 D = none) (hG : ∀ H, Same H1 H → G H)
    (hs : ∀ i a x H H' (Q : VK) (QF : Hp → Prop), xs[i]? = some a → Same H1 H → Y i H x H' → (keep a = true → ∀ H4, Same H H4 → Q (f a) H4) → (keep a = false → ∀ H4, Same H H4 → QF H4) →
      g x (wipe σ vs) H' fun σ2 H2 => wipe σ2 vs = wipe σ vs ∧ tt σ2 H2 fun b H3 => if b = true then te σ2 H3 Q else QF H3)
    (hd : ∀ H, Same H1 H → H D = some (.lst ((xs.filter keep).map f)) → Qd H) :
    ∃ W : Nat → Nat → Hp → Prop, (∃ m, W 0 m (upd H1 D (.lst []))) ∧ ∀ i m H, W i m H →
      (J.stop i H ∧ Qd H) ∨ (J.go i H ∧ ∃ Nx : Hp → Prop, (∀ H', Nx H' → ∃ m', m' < m ∧ W (i + 1) m' H') ∧ ∀ x H', J.yld i H x H' → g x (wipe σ vs) H' fun σ2 H2 => wipe σ2 vs = wipe σ vs ∧ tt σ2 H2 fun b H3 =>
        if b = true then te σ2 H3 fun y H4 => ∃ acc, H4 D = some (.lst acc) ∧ acc.length < sizeLine ∧ Nx (upd H4 D (.lst (acc ++ [y]))) else Nx H3) := by
  have up : ∀ {H : Hp} {o : HO}, Same H1 H → Same H1 (upd H D o) := fun {H o} e b u q => by
    rw [upd_ne (ne_of_none q hD)]
    exact e b u q
  refine lc_it w (fun i H => Same H1 H ∧ H D = some (.lst (((xs.take i).filter keep).map f))) ⟨up same_rfl, upd_same⟩ (fun i H _ q => hG H q.1) ?_ (fun H q => hd H q.1 (by have := q.2; rwa [List.take_length] at this))
  intro i x H H' hi ⟨sm, hL⟩ y
  obtain ⟨a, ha⟩ := get_lt hi
  refine hs i a x H H' _ _ ha sm y (fun hk H4 s4 => ⟨_, s4 _ _ hL, ?_, up (sm.tr s4), ?_⟩) (fun hk H4 s4 => ⟨sm.tr s4, ?_⟩)
  · rw [List.length_map]
    refine Nat.lt_of_le_of_lt (List.length_filter_le _ _) ?_
    rw [List.length_take]
    omega
  · rw [upd_same, take_snoc ha, List.filter_append, List.map_append]
    simp [hk]
  · rw [s4 _ _ hL, take_snoc ha, List.filter_append]
    simp [hk]
/-- .. that keeps all -/
theorem lc_map {α : Type} {J : It} {G : Hp → Prop} {Y : Nat → Hp → V → Hp → Prop} (xs : List α) (f : α → V) (w : Walk J xs.length G Y) {g : TG} {te : TE} {vs : List Nat} {σ : St} {H1 : Hp} {D : Addr} {Qd : Hp → Prop}
    (hn : xs.length < sizeLine) (hD : H1 D = none) (hG : ∀ H, Same H1 H → G H)
    (hs : ∀ i a x H H' (Q : VK), xs[i]? = some a → Same H1 H → Y i H x H' → (∀ H4, Same H H4 → Q (f a) H4) → g x (wipe σ vs) H' fun σ2 H2 => wipe σ2 vs = wipe σ vs ∧ te σ2 H2 Q)
    (hd : ∀ H, Same H1 H → H D = some (.lst (xs.map f)) → Qd H) :
    ∃ W : Nat → Nat → Hp → Prop, (∃ m, W 0 m (upd H1 D (.lst []))) ∧ ∀ i m H, W i m H →
      (J.stop i H ∧ Qd H) ∨ (J.go i H ∧ ∃ Nx : Hp → Prop, (∀ H', Nx H' → ∃ m', m' < m ∧ W (i + 1) m' H') ∧ ∀ x H', J.yld i H x H' → g x (wipe σ vs) H' fun σ2 H2 => wipe σ2 vs = wipe σ vs ∧ tYes σ2 H2 fun b H3 =>
        if b = true then te σ2 H3 fun y H4 => ∃ acc, H4 D = some (.lst acc) ∧ acc.length < sizeLine ∧ Nx (upd H4 D (.lst (acc ++ [y]))) else Nx H3) := by
  have up : ∀ {H : Hp} {o : HO}, Same H1 H → Same H1 (upd H D o) := fun {H o} e b u q => by
    rw [upd_ne (ne_of_none q hD)]
    exact e b u q
  refine lc_it w (fun i H => Same H1 H ∧ H D = some (.lst ((xs.take i).map f))) ⟨up same_rfl, upd_same⟩ (fun i H _ q => hG H q.1) ?_ (fun H q => hd H q.1 (by have := q.2; rwa [List.take_length] at this))
  intro i x H H' hi ⟨sm, hL⟩ y
  obtain ⟨a, ha⟩ := get_lt hi
  refine hs i a x H H' (fun y H4 => ∃ acc, H4 D = some (.lst acc) ∧ acc.length < sizeLine ∧ Same H1 (upd H4 D (.lst (acc ++ [y]))) ∧ upd H4 D (.lst (acc ++ [y])) D = some (.lst ((xs.take (i + 1)).map f))) ha sm y (fun H4 s4 => ⟨_, s4 _ _ hL, ?_, up (sm.tr s4), ?_⟩)
  · rw [List.length_map, List.length_take]
    omega
  · rw [upd_same, take_snoc ha, List.map_append]
    rfl

section
variable {X : Cx} {x : Str} {e : Expr} {te : TE} {C : Addr} {p q pos : Pos}
/-- isinstance(e, T) -/
theorem pe_isiB (n : String) (h1 : X.mg "isinstance" = none) (h2 : X.mg x = none) (ha : PE X e te) (hg : Gl X "isinstance" := by rfl) (hg2 : Gl X x := by rfl) (hv : bootBuiltins x = some (.type n) := by decide +kernel) (hn : x ≠ "__name__" := by decide) (hd : (x == ("__debug__" : Str)) = false := by decide)
    (he : starEach (e :: [.Name x q]) X.env = (false, eval e X.env) :: starEach [.Name x q] X.env := by rfl) :
    PE X (.Call (.Name "isinstance" p) [e, .Name x q] [] pos) (tCB (rIsi X.K) (tCons te (tCons (tC (.ty n)) tNil))) :=
  pe_callB call_isi hg h1 (by decide +kernel) (pa_cons ha (pa_cons (pe_bltn hg2 h2 hv (v := .ty n) rfl hn hd) pa_nil) he) (he := he)
/-- isinstance(e, C) -/
theorem pe_isiC (h1 : X.mg "isinstance" = none) (h2 : X.mg x = some (.ref C)) (ha : PE X e te) (hg : Gl X "isinstance" := by rfl) (hg2 : Gl X x := by rfl) (hd : (x == ("__debug__" : Str)) = false := by decide)
    (he : starEach (e :: [.Name x q]) X.env = (false, eval e X.env) :: starEach [.Name x q] X.env := by rfl) :
    PE X (.Call (.Name "isinstance" p) [e, .Name x q] [] pos) (tCB (rIsi X.K) (tCons te (tCons (tC (.ref C)) tNil))) :=
  pe_callB call_isi hg h1 (by decide +kernel) (pa_cons ha (pa_cons (pe_glob hg2 h2 (v := .ref C) rfl hd) pa_nil) he) (he := he)
end
section
variable {K : PySem.W.Frag} {CR CD : Addr} {mg : Str → Option Value}
theorem k_int : PySem.W.kitOne K (.type "int") (.type "int") = some true := kit_ty (by decide +kernel)
theorem k_list : PySem.W.kitOne K (.type "list") (.type "list") = some true := kit_ty (by decide +kernel)
theorem k_int_bool : PySem.W.kitOne K (.type "int") (.type "bool") = some false := kit_ty (by decide +kernel)
theorem k_str : PySem.W.kitOne K (.type "str") (.type "str") = some true := kit_ty (by decide +kernel)
theorem op_in_seqK {X : Cx} (h : X.K = K := by rfl) : OpR X (compareOp .In) (rIn K false) := h ▸ op_in_seq
theorem op_notIn_seqK {X : Cx} (h : X.K = K := by rfl) : OpR X (compareOp .NotIn) (rIn K true) := h ▸ op_notIn_seq
theorem ty_ins {H : Hp} {a C dx : Addr} {fs : List (Str × V)} (c : Cls K C) (i : IsF K C) (Z : Txt K mg CR CD) (h : H a = some (.ins C dx fs)) : TyX K H (.ref a) (.ref C) := .base (.ins h c i.ha Z.og Z.ot i.hm)
end
end L2
/-! The walk, part 1: clock and rings. -/
namespace L2
open PySem PySem.Spec PyProof.Rows Fa

section
variable {P : Program} {w : World} {K : PySem.W.Frag} {mg : Str → Option Value} {base : Heap} {CR CD : Addr}

def spIsWhole : Sp := fun vs H Q _ => ∃ i : Int, vs = [.int i] ∧ Q (.bl true) H
theorem ok_isWhole {f : Addr} {fd : FuncData} (F : Fun K "is_whole" "is_whole" T.isWhole f fd) (Z : Txt K mg CR CD) : FnOk P w K mg base CX0 1 f fd ["thing"] spIsWhole := by
  refine F.ok T.isWholeS (fun vs H Q E h => ?_) (fun cdv A outer s H vs Q E hr h => ?_)
  · obtain ⟨i, rfl, _⟩ := h
    rfl
  · obtain ⟨i, rfl, k⟩ := h
    refine ⟨_, pss_one (ps_ret (pe_and (pe_isiB "int" Z.nIsinstance Z.nInt (pv 0)) (pe_one (pe_not (pe_isiB "bool" Z.nIsinstance Z.nBool (pv 0)))))), ?_⟩
    exact ⟨_, rfl, _, _, _, _, _, rfl, .ty _, .base (.int i), k_int, true, rfl, iteT ⟨_, rfl, _, _, _, _, _, rfl, .ty _, .base (.int i), k_int_bool, _, rfl, k⟩⟩
abbrev CIsWhole (P : Program) (w : World) (K : PySem.W.Frag) (mg : Str → Option Value) (base : Heap) : Prop := Cal P w K mg base 1 "is_whole" ["thing"] spIsWhole

def spIsMoment : Sp := fun vs H Q _ => ∃ i : Int, vs = [.int i] ∧ Q (.bl (decide (0 ≤ i))) H
theorem ok_isMoment {f : Addr} {fd : FuncData} (F : Fun K "is_moment" "is_moment" T.isMoment f fd) (Z : Txt K mg CR CD) (c1 : CIsWhole P w K mg base) : FnOk P w K mg base CX0 2 f fd ["thing"] spIsMoment := by
  refine F.ok T.isMomentS (fun vs H Q E h => ?_) (fun cdv A outer s H vs Q E hr h => ?_)
  · obtain ⟨i, rfl, _⟩ := h
    rfl
  · obtain ⟨i, rfl, k⟩ := h
    refine ⟨_, pss_one (ps_ret (pe_and (pe_cal c1 hr rfl (pa_cons (pv 0) pa_nil)) (pe_one (pe_cmpR op_ge (pv 0) pe_int (nomark _))))), ?_⟩
    exact ⟨_, rfl, i, rfl, true, rfl, iteT ⟨_, rfl, i, 0, rfl, rfl, k⟩⟩
abbrev CIsMoment (P : Program) (w : World) (K : PySem.W.Frag) (mg : Str → Option Value) (base : Heap) : Prop := Cal P w K mg base 2 "is_moment" ["thing"] spIsMoment

def spWantDay : Sp := fun vs H Q _ => ∃ i : Int, vs = [.int i] ∧ 0 ≤ i ∧ Q .non H
theorem ok_wantDay {f : Addr} {fd : FuncData} (F : Fun K "want_day" "want_day" T.wantDay f fd) (Z : Txt K mg CR CD) (c1 : CIsMoment P w K mg base) : FnOk P w K mg base CX0 3 f fd ["thing"] spWantDay := by
  refine F.ok T.wantDayS (fun vs H Q E h => ?_) (fun cdv A outer s H vs Q E hr h => ?_)
  · obtain ⟨i, rfl, _⟩ := h
    rfl
  · obtain ⟨i, rfl, hi, k⟩ := h
    refine ⟨_, pss_one (ps_if (pt_not (pt_val (pe_cal c1 hr rfl (pa_cons (pv 0) pa_nil)))) (pss_one ps_never) pss_nil), ?_⟩
    refine ⟨_, rfl, i, rfl, true, ?_, iteF k⟩
    rw [decide_eq_true hi]
abbrev CWantDay (P : Program) (w : World) (K : PySem.W.Frag) (mg : Str → Option Value) (base : Heap) : Prop := Cal P w K mg base 3 "want_day" ["thing"] spWantDay

theorem bl_true {p : Prop} [Decidable p] (h : p) : V.bl (decide p) = V.bl true := by rw [decide_eq_true h]
theorem bl_false {p : Prop} [Decidable p] (h : ¬ p) : V.bl (decide p) = V.bl false := by rw [decide_eq_false h]
theorem pe_no {X : Cx} (e : Expr) : PE X e (fun _ _ _ => False) := ⟨fun _ _ _ _ _ _ h => h.elim⟩
theorem len_line {z : Str} (h : z.length ≤ 1000) : z.length ≤ sizeLine := Nat.le_trans h (by decide)
theorem cps_len (z : Str) : z.cps.toList.length = z.length := by show z.cps.toList.length = z.cps.size; rw [Array.length_toList]

def spAreSigns : Sp := fun vs H Q _ => ∃ z : Str, vs = [.str z] ∧ OkZ z ∧ ∀ H', Same H H' → Q (.bl true) H'
theorem ok_areSigns {f : Addr} {fd : FuncData} (F : Fun K "are_signs" "are_signs" T.areSigns f fd) (Z : Txt K mg CR CD) : FnOk P w K mg base CX0 1 f fd ["thing"] spAreSigns := by
  refine F.ok T.areSignsS (fun vs H Q E h => ?_) (fun cdv A outer s H vs Q E hr h => ?_)
  · obtain ⟨i, rfl, _⟩ := h
    rfl
  · obtain ⟨z, rfl, hz, k⟩ := h
    refine ⟨_, pss_cons (ps_if (PW.pt (pw_or (pt_not (pt_val (pe_isiB "str" Z.nIsinstance Z.nStr (pv 0)))) (pw_or1 (pt_not (pt_chain op_le op_le pe_int (pe_callB call_len_str (by rfl) Z.nLen PySem.boot_len (pa_cons (pv 0) pa_nil)) (pe_kv rfl Z.cMostSigns))))))
        (pss_one (ps_ret pe_bl)) pss_nil)
      (pss_one (ps_ret (pe_callB (cr_all rfl) (by rfl) Z.nAll (by decide +kernel) (pa_cons (pe_lc (own := [("sign", 1)]) (g := gName 1) (tt := tYes) rfl T.areSignsS.nd (pi_str (pv 0)) (blkOk_by (N := T.areSignsN) (sc := defScope T.areSigns) (by decide +kernel))
        (fun _ _ _ _ _ => pg_name (i := 1) T.areSignsS.nd rfl (Or.inl rfl)) (fun _ _ _ _ _ => pts_nil)
        (fun _ _ _ _ _ => pe_cmpR (op_in_seqK (K := K)) (pv 1) (pe_tup (pa_cons (pe_kv rfl Z.cNought) (pa_cons (pe_kv rfl Z.cOne) pa_nil))) (by rfl))) pa_nil)))), ?_⟩
    refine ⟨_, rfl, _, _, _, _, _, rfl, .ty _, .base (.str z), k_str, true, rfl, iteF ?_⟩
    have hp : (1 : Int) ≤ (z.length : Int) := by have := hz.pos; omega
    have hm : (z.length : Int) ≤ 7 := by have := hz.most; omega
    refine ⟨_, rfl, _, rfl, len_line (Nat.le_trans hz.most (by decide)), _, _, rfl, rfl, true, bl_true hp, iteT ⟨_, _, rfl, rfl, true, bl_true hm, iteF ?_⟩⟩
    refine ⟨_, rfl, _, rfl, fun D hD => lc_map z.cps.toList (fun _ => V.bl true) (by rw [Array.length_toList]; exact walk_str) ?_ hD (fun _ _ => trivial) ?_ ?_⟩
    · rw [cps_len]
      have := hz.most
      exact Nat.lt_of_le_of_lt this (by decide)
    · rintro i a x H2 H3 Q2 ha sm ⟨rfl, c, hc, rfl⟩ kk
      have ea : c = a := by
        rw [Array.getElem?_toList] at ha
        rw [hc] at ha
        exact Option.some.inj ha
      subst ea
      refine ⟨rfl, _, rfl, (by show 2 ≤ sizeLine; decide), fun p hp => ⟨p, _, rfl, .inr (.inl (.inl upd_same)), rfl, rfl, ?_⟩⟩
      have := hz.signs c (List.mem_of_getElem? ha)
      have e : inV (V.str ⟨#[c]⟩) [V.str "0", V.str "1"] = true := by
        rcases this with rfl | rfl <;> decide +kernel
      show Q2 (.bl (inV (V.str ⟨#[c]⟩) [V.str "0", V.str "1"])) _
      rw [e]
      exact kk _ (same_new hp)
    · intro H2 sm hL
      have e : z.cps.toList.map (fun _ => V.bl true) = (z.cps.toList.map fun _ => true).map V.bl := by rw [List.map_map]; rfl
      refine ⟨D, z.cps.toList.map (fun _ => true), rfl, SqL.of (by rw [hL, e]), ?_⟩
      have e2 : (z.cps.toList.map (fun _ => true)).all id = true := by simp
      rw [e2]
      exact k _ sm
abbrev CAreSigns (P : Program) (w : World) (K : PySem.W.Frag) (mg : Str → Option Value) (base : Heap) : Prop := Cal P w K mg base 1 "are_signs" ["thing"] spAreSigns

theorem init_same {H H1 H2 : Hp} {p C dx : Addr} {fs : List (Str × V)} (s1 : Same H H1) (e : ∀ b o, H1 b = some o → b ≠ p → H2 b = some o) : ∀ b o, H b = some o → b ≠ p → H2 b = some o := fun b o q n => e b o (s1 b o q) n

def spRInit (CR : Addr) : Sp := fun vs H Q _ => ∃ (p dx : Addr) (z : Str), vs = [.ref p, .str z] ∧ OkZ z ∧ H p = some (.ins CR dx []) ∧ ∀ H', (∀ b o, H b = some o → b ≠ p → H' b = some o) → H' p = some (.ins CR dx (rF z)) → Q .non H'
theorem ok_rInit {f : Addr} {fd : FuncData} (F : Fun K "__init__" "Ring.__init__" T.rInit f fd) (Z : Txt K mg CR CD) (c1 : CAreSigns P w K mg base) : FnOk P w K mg base CX0 2 f fd ["self", "text"] (spRInit CR) := by
  refine F.ok T.rInitS (fun vs H Q E h => ?_) (fun cdv A outer s H vs Q E hr h => ?_)
  · obtain ⟨p, dx, z, rfl, _⟩ := h
    rfl
  · obtain ⟨p, dx, z, rfl, hz, hp, k⟩ := h
    refine ⟨_, pss_cons (ps_if (pt_not (pt_val (pe_cal c1 hr rfl (pa_cons (pv 1) pa_nil)))) (pss_one ps_never) pss_nil) (pss_one (ps_fld (pv 0) (pv 1) rfl)), ?_⟩
    refine ⟨_, rfl, z, rfl, hz, fun H2 s2 => ⟨true, rfl, iteF ?_⟩⟩
    refine ⟨_, rfl, _, rfl, p, CR, dx, _, rfl, s2 _ _ hp, Z.clR, Z.aBits, (by decide), ?_⟩
    refine k _ (fun b o e n => ?_) ?_
    · rw [upd_ne n]
      exact s2 _ _ e
    · rw [upd_same, rF_put]
abbrev CRing (P : Program) (w : World) (K : PySem.W.Frag) (mg : Str → Option Value) (base : Heap) (CR : Addr) : Prop := CalC P w K mg base 2 "Ring" CR ["self", "text"] (spRInit CR)

def spRLen (CR : Addr) : Sp := fun vs H Q _ => ∃ (p : Addr) (z : Str), vs = [.ref p] ∧ OkZ z ∧ RingAt CR H p z ∧ Q (.int (z.length : Int)) H
theorem ok_rLen {f : Addr} {fd : FuncData} (F : Fun K "__len__" "Ring.__len__" T.rLen f fd) (Z : Txt K mg CR CD) : FnOk P w K mg base CX0 1 f fd ["self"] (spRLen CR) := by
  refine F.ok T.rLenS (fun vs H Q E h => ?_) (fun cdv A outer s H vs Q E hr h => ?_)
  · obtain ⟨p, z, rfl, _⟩ := h
    rfl
  · obtain ⟨p, z, rfl, hz, ⟨dx, hp⟩, k⟩ := h
    refine ⟨_, pss_one (ps_ret (pe_callB call_len_str (by rfl) Z.nLen PySem.boot_len (pa_cons (pe_fld (pv 0) rfl) pa_nil))), ?_⟩
    exact ⟨_, rfl, p, CR, dx, _, _, rfl, hp, Z.clR, Z.aBits, rF_bits _, _, rfl, len_line (Nat.le_trans hz.most (by decide)), k⟩
abbrev CRLen (P : Program) (w : World) (K : PySem.W.Frag) (mg : Str → Option Value) (base : Heap) (CR : Addr) : Prop := CalM P w K mg base 1 CR "__len__" ["self"] (spRLen CR)

def spRStr (CR : Addr) : Sp := fun vs H Q _ => ∃ (p : Addr) (z : Str), vs = [.ref p] ∧ RingAt CR H p z ∧ Q (.str z) H
theorem ok_rStr {f : Addr} {fd : FuncData} (F : Fun K "__str__" "Ring.__str__" T.rStr f fd) (Z : Txt K mg CR CD) : FnOk P w K mg base CX0 1 f fd ["self"] (spRStr CR) := by
  refine F.ok T.rStrS (fun vs H Q E h => ?_) (fun cdv A outer s H vs Q E hr h => ?_)
  · obtain ⟨p, z, rfl, _⟩ := h
    rfl
  · obtain ⟨p, z, rfl, ⟨dx, hp⟩, k⟩ := h
    refine ⟨_, pss_one (ps_ret (pe_callTy SkE.call_str_str (by rfl) Z.nStr (by decide +kernel) (pa_cons (pe_fld (pv 0) rfl) pa_nil))), ?_⟩
    exact ⟨_, rfl, p, CR, dx, _, _, rfl, hp, Z.clR, Z.aBits, rF_bits _, _, rfl, k⟩
abbrev CRStr (P : Program) (w : World) (K : PySem.W.Frag) (mg : Str → Option Value) (base : Heap) (CR : Addr) : Prop := CalM P w K mg base 1 CR "__str__" ["self"] (spRStr CR)

/-- the sign at a day -/
theorem sign_at {z : Str} (hz : OkZ z) (x : Int) : ∃ c, z.cps.toList[(x % (z.length : Int)).toNat]? = some c ∧ (c = 48 ∨ c = 49) ∧ ((V.str ⟨#[c]⟩ = V.str "1") ↔ bitAt z x = true) := by
  have hp := hz.pos
  have h0 := Int.emod_nonneg x (show (z.length : Int) ≠ 0 by omega)
  have h1 := Int.emod_lt_of_pos x (show (0 : Int) < (z.length : Int) by omega)
  have hl : (x % (z.length : Int)).toNat < z.cps.toList.length := by rw [cps_len]; omega
  refine ⟨_, List.getElem?_eq_getElem hl, hz.signs _ (List.getElem_mem hl), ?_⟩
  unfold bitAt
  rw [List.getElem?_eq_getElem hl]
  rcases hz.signs _ (List.getElem_mem hl) with e | e
  · rw [e]
    constructor
    · intro h; exact absurd h (by decide +kernel)
    · intro h; exact absurd h (by decide +kernel)
  · rw [e]
    constructor
    · intro h; decide +kernel
    · intro h; decide +kernel
theorem mod_spot {z : Str} (hz : OkZ z) (x : Int) : x.fmod (z.length : Int) = (((x % (z.length : Int)).toNat : Nat) : Int) := by
  have hp := hz.pos
  rw [Int.fmod_eq_emod_of_nonneg x (by omega), Int.toNat_of_nonneg (Int.emod_nonneg x (by omega))]

def spRings (CR : Addr) : Sp := fun vs H Q _ => ∃ (p : Addr) (z : Str) (x : Int), vs = [.ref p, .int x] ∧ OkZ z ∧ 0 ≤ x ∧ RingAt CR H p z ∧ Q (.bl (bitAt z x)) H
theorem ok_rRings {f : Addr} {fd : FuncData} (F : Fun K "rings" "Ring.rings" T.rRings f fd) (Z : Txt K mg CR CD) (c1 : CWantDay P w K mg base) : FnOk P w K mg base CX0 4 f fd ["self", "day"] (spRings CR) := by
  refine F.ok T.rRingsS (fun vs H Q E h => ?_) (fun cdv A outer s H vs Q E hr h => ?_)
  · obtain ⟨p, z, x, rfl, _⟩ := h
    rfl
  · obtain ⟨p, z, x, rfl, hz, hx, ⟨dx, hp⟩, k⟩ := h
    refine ⟨_, pss_cons (ps_expr (pe_cal c1 hr rfl (pa_cons (pv 1) pa_nil))) (pss_one (ps_ret (pe_cmpR op_eq (pe_ix ix_str (pe_fld (pv 0) rfl) (pe_op op_modN (pv 1) (pe_callB call_len_str (by rfl) Z.nLen PySem.boot_len (pa_cons (pe_fld (pv 0) rfl) pa_nil))) (fun _ _ => rfl)) (pe_kv rfl Z.cOne) (nomark _)))), ?_⟩
    obtain ⟨c, h1, h2, h3⟩ := sign_at hz x
    have hl : z.length ≤ sizeLine := len_line (Nat.le_trans hz.most (by decide))
    refine ⟨_, rfl, x, rfl, hx, _, rfl, p, CR, dx, _, _, rfl, hp, Z.clR, Z.aBits, rF_bits _, _, rfl, _, rfl, p, CR, dx, _, _, rfl, hp, Z.clR, Z.aBits, rF_bits _, _, rfl, hl, _, _, rfl, rfl, (by have := hz.pos; omega), _, _, _, rfl, rfl, hl, by rw [mod_spot hz]; exact atI_nat h1, rfl, ?_⟩
    have e : decide (V.str ⟨#[c]⟩ = V.str "1") = bitAt z x := by
      cases q : bitAt z x with
      | true => exact decide_eq_true (h3.mpr q)
      | false => exact decide_eq_false fun z2 => by rw [h3.mp z2] at q; cases q
    show Q (V.bl (decide (V.str ⟨#[c]⟩ = V.str "1"))) H
    rw [e]
    exact k
abbrev CRings (P : Program) (w : World) (K : PySem.W.Frag) (mg : Str → Option Value) (base : Heap) (CR : Addr) : Prop := CalM P w K mg base 4 CR "rings" ["self", "day"] (spRings CR)

/-- a ring and days are not equal -/
def spREq (CR CD : Addr) : Sp := fun vs H Q _ => ∃ (p q dx : Addr) (fs : List (Str × V)), vs = [.ref p, .ref q] ∧ H q = some (.ins CD dx fs) ∧ Q (.bl false) H
theorem ok_rEq {f : Addr} {fd : FuncData} (F : Fun K "__eq__" "Ring.__eq__" T.rEq f fd) (Z : Txt K mg CR CD) : FnOk P w K mg base CX0 1 f fd ["self", "other"] (spREq CR CD) := by
  refine F.ok T.rEqS (fun vs H Q E h => ?_) (fun cdv A outer s H vs Q E hr h => ?_)
  · obtain ⟨p, q, dx, fs, rfl, _⟩ := h
    rfl
  · obtain ⟨p, q, dx, fs, rfl, hq, k⟩ := h
    refine ⟨_, pss_one (ps_ret (pe_and (pe_isiC Z.nIsinstance Z.gR (pv 1)) (pe_one (pe_no _)))), ?_⟩
    exact ⟨_, rfl, _, _, _, _, _, rfl, .own _, ty_ins Z.clD Z.isD Z hq, Z.kDR, false, rfl, iteF k⟩
abbrev CREq (P : Program) (w : World) (K : PySem.W.Frag) (mg : Str → Option Value) (base : Heap) (CR CD : Addr) : Prop := CalM P w K mg base 1 CR "__eq__" ["self", "other"] (spREq CR CD)
end
end L2
/-! The walk, part 2: the list of days told; days made. -/
namespace L2
open PySem PySem.Spec PyProof.Rows Fa

theorem walk_zipT {K : PySem.W.Frag} {a b : Addr} {xs ys : List V} {n : Nat} (hn : n = min xs.length ys.length) : Walk (RZ.ItzT K a b) n (fun H => SqT K H a xs ∧ SqT K H b ys) (YPair (fun i => xs[i]?) (fun i => ys[i]?)) := by
  subst hn
  refine ⟨fun i _ hi q => ?_, fun _ q => ⟨xs, ys, q.1, q.2, by omega⟩, fun i H v H' _ q y => ?_⟩
  · have h1 : i < xs.length := by omega
    have h2 : i < ys.length := by omega
    exact ⟨xs, ys, xs[i], ys[i], q.1, q.2, by simp [h1], by simp [h2]⟩
  · obtain ⟨T, x, z, h1, h2, h3, h4, h5⟩ := y
    exact ⟨T, x, z, h1, h2, h3, h4 xs q.1, h5 ys q.2⟩
theorem cut_tail (xs : List V) : cutV xs (some 1) none = xs.drop 1 := by
  unfold cutV
  rw [HT.sIx_none, show (1 : Int) = ((1 : Nat) : Int) from rfl, HT.sIx_nat]
  cases xs with
  | nil => rfl
  | cons a r =>
    have e : min 1 (a :: r).length = 1 := by rw [List.length_cons]; omega
    rw [e]
    show List.take ((r.length + 1) - 1) r = r
    rw [Nat.add_sub_cancel, List.take_length]
theorem slA_tail {K : PySem.W.Frag} {a : Addr} {xs : List V} {H : Hp} {Q : VK} (h : SqT K H a xs) (q : ∀ p H', Same H H' → SqT K H' p (xs.drop 1) → Q (.ref p) H') : rSlA K (.ref a) (some 1) none H Q := by
  refine ⟨a, xs, rfl, h, fun e => ?_, fun _ p hp => ?_⟩
  · have e1 := e.1
    rw [show (1 : Int) = ((1 : Nat) : Int) from rfl, HT.sIx_nat] at e1
    cases xs with
    | nil => exact q a H same_rfl h
    | cons y r => rw [List.length_cons] at e1; omega
  · rw [cut_tail]
    exact q p _ (same_new hp) (SqT.of upd_same)
theorem get_pair {α β : Type} {xs : List α} {ys : List β} {i : Nat} {a : α × β} (h : (xs.zip ys)[i]? = some a) : xs[i]? = some a.1 ∧ ys[i]? = some a.2 := by
  rw [List.getElem?_zip_eq_some] at h
  exact h

/-- those that follow one another differ -/
theorem zip_next_ne {ys : List Int} (h : ys.Pairwise (· < ·)) : ∀ p ∈ ys.zip (ys.drop 1), p.1 ≠ p.2 := by
  induction ys with
  | nil => intro p hp; cases hp
  | cons a r ih =>
    obtain ⟨h1, h2⟩ := List.pairwise_cons.mp h
    cases r with
    | nil => intro p hp; cases hp
    | cons b r =>
      intro p hp
      rcases List.mem_cons.mp hp with e | e
      · subst e
        have := h1 b (List.mem_cons_self ..)
        show a ≠ b
        omega
      · exact ih h2 p e
theorem lt_of_le_nd {ys : List Int} (h : ys.Pairwise (· ≤ ·)) (nd : ys.Nodup) : ys.Pairwise (· < ·) := by
  have := List.pairwise_and_iff.mpr ⟨h, nd⟩
  exact this.imp fun {a b} q => by have := q.1; have := q.2; omega

section
variable {P : Program} {w : World} {K : PySem.W.Frag} {mg : Str → Option Value} {base : Heap} {CR CD : Addr}

def spTold : Sp := fun vs H Q _ => ∃ (a : Addr) (xs : List Int), vs = [.ref a] ∧ H a = some (.lst (xs.map V.int)) ∧ OkL xs ∧
  ∀ (ys : List Int) (t : Addr) (H' : Hp), ys.Perm xs → Same H H' → H' t = some (.tup (ys.map V.int)) → Q (.ref t) H'
theorem ok_told {f : Addr} {fd : FuncData} (F : Fun K "told_days" "told_days" T.toldDays f fd) (Z : Txt K mg CR CD) (c1 : CWantDay P w K mg base) : FnOk P w K mg base CX0 4 f fd ["thing"] spTold := by
  refine F.ok T.toldDaysS (fun vs H Q E h => ?_) (fun cdv A outer s H vs Q E hr h => ?_)
  · obtain ⟨a, xs, rfl, _⟩ := h
    rfl
  · obtain ⟨a, xs, rfl, ha, ok, k⟩ := h
    have nd := T.toldDaysS.nd
    refine ⟨_, pss_cons (ps_if (pt_cmpR op_isN (pv 0) pe_non (nomark _)) (pss_one (ps_ret (pe_tup pa_nil))) pss_nil)
      (pss_cons (ps_if (PW.pt (pw_or (pt_not (pt_val (pe_callB call_isiT (by rfl) Z.nIsinstance (by decide +kernel) (pa_cons (pv 0) (pa_cons (pe_tup (pa_cons (pe_bltn (v := .ty "list") (by rfl) Z.nList (by decide +kernel) rfl) (pa_cons (pe_bltn (v := .ty "tuple") (by rfl) Z.nTuple (by decide +kernel) rfl) pa_nil))) pa_nil)))))
          (pw_or1 (pt_cmpR op_gt (pe_callB call_len_seq (by rfl) Z.nLen PySem.boot_len (pa_cons (pv 0) pa_nil)) (pe_kv rfl Z.cMostDays) (nomark _))))) (pss_one ps_never) pss_nil)
      (pss_cons (ps_for PassesOwn.never rfl (pi_list (pv 0)) (pg_name (i := 1) nd rfl (Or.inl rfl)) (pss_one (ps_expr (pe_cal c1 hr rfl (pa_cons (pv 1) pa_nil)))))
      (pss_cons (ps_set (i := 2) nd rfl (Or.inl rfl) (pe_callTy call_tuple_of (by rfl) Z.nTuple (by decide +kernel) (pa_cons (pe_callB cr_sorted (by rfl) Z.nSorted (by decide +kernel) (pa_cons (pv 0) pa_nil)) pa_nil)))
      (pss_cons (ps_if (pt_val (pe_callB (cr_any rfl) (by rfl) Z.nAny (by decide +kernel) (pa_cons
          (pe_lc (own := [("one", 3), ("other", 4)]) (tt := tYes) rfl nd (RZ.pi_zipA (by rfl) Z.nZip (pa_cons (pv 2) (pa_cons (pe_slice sl_tupA (pv 2) (po_some pe_int) po_none) pa_nil)))
            (blkOk_by (N := T.toldDaysN) (sc := defScope T.toldDays) (by decide +kernel))
            (g := gTup K 2 (gCons (gName 3) (gCons (gName 4) gNil)))
            (fun _ _ _ _ _ => pg_tup rfl (pgs_cons (pg_name (i := 3) nd rfl (Or.inl rfl)) (pgs_cons (pg_name (i := 4) nd rfl (Or.inl rfl)) pgs_nil))) (fun _ _ _ _ _ => pts_nil)
            (fun _ _ _ _ _ => pe_cmpR op_eq (pv 3) (pv 4) (nomark _))) pa_nil))) (pss_one ps_never) pss_nil)
      (pss_one (ps_ret (pv 2))))))), ?_⟩
    refine ⟨_, rfl, rfl, false, bl_false (by intro z; cases z), iteF ?_⟩
    refine ⟨_, rfl, (by show 2 ≤ sizeLine; decide), fun tp htp => ⟨_, tp, _, _, _, true, rfl, upd_same, .cons (.ty _) (.cons (.ty _) .nil), .base (.lst ((upd_ne (ne_of_none ha htp)).trans ha)), kitAny_cons k_list (fun z => nomatch z) (fun _ => rfl), true, rfl, iteF ?_⟩⟩
    have s1 : Same H (upd H tp (.tup [.ty "list", .ty "tuple"])) := same_new htp
    generalize upd H tp (.tup [.ty "list", .ty "tuple"]) = H1 at s1
    have ha1 := s1 _ _ ha
    have hlen : ¬ ((((xs.map V.int).length : Nat) : Int) > 8) := by rw [List.length_map]; have := ok.few; omega
    refine ⟨_, rfl, a, _, rfl, .inl (SqL.of ha1), _, _, rfl, rfl, false, bl_false hlen, iteF ?_⟩
    refine ⟨_, rfl, a, rfl, ⟨_, SqL.of ha1⟩, for_list (K := K) (a := a) (xs := xs.map V.int) (fun i σ H' => ∃ v, σ = [some (.ref a), v, none, none, none] ∧ H' = H1) ⟨none, rfl, rfl⟩ (fun i σ H' _ ⟨_, _, e⟩ => by subst e; exact SqL.of ha1) ?_ ?_⟩
    · rintro i y σ H' hi ⟨v, rfl, rfl⟩
      obtain ⟨u, hu, rfl⟩ := get_mapF hi
      exact ⟨_, rfl, u, rfl, ok.nn u (List.mem_of_getElem? hu), _, rfl, rfl⟩
    · rintro σ H' ⟨v, rfl, rfl⟩
      refine ⟨_, rfl, a, xs, rfl, SqL.of ha1, Nat.lt_of_le_of_lt ok.few (by decide), fun ys p perm rise hp => ⟨p, _, rfl, .inl ⟨SqL.of upd_same, fun t ht => ?_⟩⟩⟩
      have s2 : Same H' (upd (upd H' p (.lst (ys.map V.int))) t (.tup (ys.map V.int))) := (same_new hp).tr (same_new ht)
      have ht2 : upd (upd H' p (.lst (ys.map V.int))) t (.tup (ys.map V.int)) t = some (.tup (ys.map V.int)) := upd_same
      generalize upd (upd H' p (.lst (ys.map V.int))) t (.tup (ys.map V.int)) = H3 at s2 ht2
      have rise2 := lt_of_le_nd rise (perm.nodup_iff.mpr ok.nd)
      refine ⟨_, rfl, _, rfl, _, rfl, ?_⟩
      dsimp only [tNoPart]
      refine slA_tail (SqT.of ht2) fun q H4 s4 hq => ⟨t, q, _, _, rfl, .inr ⟨SqT.of (s4 _ _ ht2), hq, fun D hD => ?_⟩⟩
      refine lc_map (ys.zip (ys.drop 1)) (fun _ => V.bl false) (walk_zipT (xs := ys.map V.int) (ys := (ys.map V.int).drop 1) (by simp)) ?_ hD (fun H5 s5 => ⟨SqT.of (s5 _ _ (s4 _ _ ht2)), Same.tup s5 hq⟩) ?_ ?_
      · have := ok.few
        have l := perm.length_eq
        rw [List.length_zip]
        exact Nat.lt_of_le_of_lt (Nat.le_trans (Nat.min_le_left _ _) (by omega : ys.length ≤ 8)) (by decide)
      · rintro i ⟨u, v⟩ x H5 H6 Q2 hi s5 ⟨T, x1, y1, rfl, hT, rfl, hx, hy⟩ kk
        obtain ⟨h1, h2⟩ := get_pair hi
        have e1 : x1 = V.int u := by
          dsimp only at hx
          rw [List.getElem?_map, h1] at hx
          exact (Option.some.inj hx).symm
        have e2 : y1 = V.int v := by
          dsimp only at hy
          rw [← List.map_drop, List.getElem?_map, h2] at hy
          exact (Option.some.inj hy).symm
        subst e1 e2
        refine ⟨T, _, rfl, SqT.of upd_same, rfl, _, _, rfl, _, _, rfl, rfl, rfl, _, rfl, _, rfl, rfl, ?_⟩
        show Q2 (V.bl (decide (V.int u = V.int v))) _
        have ne : ¬ (V.int u = V.int v) := fun z => zip_next_ne rise2 _ (List.mem_of_getElem? hi) (V.int.inj z)
        rw [decide_eq_false ne]
        exact kk _ (same_new hT)
      · intro H5 s5 hL
        have e : (ys.zip (ys.drop 1)).map (fun _ => V.bl false) = ((ys.zip (ys.drop 1)).map fun _ => false).map V.bl := by rw [List.map_map]; rfl
        refine ⟨D, _, rfl, SqL.of (by rw [hL, e]), false, ?_, iteF ?_⟩
        · have e2 : ((ys.zip (ys.drop 1)).map fun _ => false).any id = false := by simp
          rw [e2]
        · exact ⟨_, rfl, k ys t H5 perm (s1.tr (s2.tr (s4.tr s5))) ((s4.tr s5) _ _ ht2)⟩
abbrev CTold (P : Program) (w : World) (K : PySem.W.Frag) (mg : Str → Option Value) (base : Heap) : Prop := Cal P w K mg base 4 "told_days" ["thing"] spTold

def spWantTill : Sp := fun vs H Q _ => ∃ (lo : Int) (hi : Option Int), vs = [.int lo, optV hi] ∧ 0 ≤ lo ∧ (∀ h, hi = some h → lo ≤ h) ∧ Q .non H
theorem ok_wantTill {f : Addr} {fd : FuncData} (F : Fun K "want_till" "want_till" T.wantTill f fd) (Z : Txt K mg CR CD) (c1 : CWantDay P w K mg base) : FnOk P w K mg base CX0 4 f fd ["since", "till"] spWantTill := by
  refine F.ok T.wantTillS (fun vs H Q E h => ?_) (fun cdv A outer s H vs Q E hr h => ?_)
  · obtain ⟨lo, hi, rfl, _⟩ := h
    rfl
  · obtain ⟨lo, hi, rfl, h0, h1, k⟩ := h
    refine ⟨_, pss_one (ps_if (pt_cmpR op_notN (pv 1) pe_non (nomark _)) (pss_cons (ps_expr (pe_cal c1 hr rfl (pa_cons (pv 1) pa_nil))) (pss_one (ps_if (pt_cmpR op_lt (pv 1) (pv 0) (nomark _)) (pss_one ps_never) pss_nil))) pss_nil), ?_⟩
    cases hi with
    | none => exact ⟨_, rfl, rfl, false, rfl, iteF k⟩
    | some x =>
      have := h1 x rfl
      refine ⟨_, rfl, rfl, true, rfl, iteT ⟨_, rfl, x, rfl, by omega, _, rfl, _, rfl, x, lo, rfl, rfl, false, bl_false (by omega), iteF k⟩⟩
abbrev CWantTill (P : Program) (w : World) (K : PySem.W.Frag) (mg : Str → Option Value) (base : Heap) : Prop := Cal P w K mg base 4 "want_till" ["since", "till"] spWantTill
end
end L2
/-! The walk, part 3: Days made, has. -/
namespace L2
open PySem PySem.Spec PyProof.Rows Fa

theorem pe_fldK {K : PySem.W.Frag} {X : Cx} {e : Expr} {ta : TE} {f : Str} {pos : Pos} (he : PE X e ta) (hb : attributeBase e f X.env (eval e X.env) = eval e X.env) (h : X.K = K := by rfl) : PE X (.Attribute e f pos) (tFld K ta f) := h ▸ pe_fld he hb
theorem inV_int (x : Int) (xs : List Int) : inV (.int x) (xs.map V.int) = decide (x ∈ xs) := by
  induction xs with
  | nil => rfl
  | cons a r ih =>
    have e : inV (V.int x) ((a :: r).map V.int) = (eqV (V.int a) (V.int x) || inV (V.int x) (r.map V.int)) := rfl
    rw [e, ih]
    have e2 : eqV (V.int a) (V.int x) = decide (a = x) := by
      show (a == x) = decide (a = x)
      by_cases q : a = x
      · simp [q]
      · simp [q]
    rw [e2]
    by_cases q : a = x
    · subst q; simp
    · have q2 : ¬ x = a := fun z => q z.symm
      simp [q, q2]
theorem flat_ints (xs : List Int) : (xs.map V.int).all flatV = true := by
  rw [List.all_map]
  exact List.all_eq_true.mpr fun _ _ => rfl

/-- told in another order -/
structure Like (d d' : SD) : Prop where
  z : d'.z = d.z
  lo : d'.lo = d.lo
  hi : d'.hi = d.hi
  gone : d'.gone.Perm d.gone
  more : d'.more.Perm d.more
theorem OkL.perm {xs ys : List Int} (h : OkL xs) (p : ys.Perm xs) : OkL ys :=
  ⟨fun x hx => h.nn x (p.mem_iff.mp hx), fun x hx => h.lt x (p.mem_iff.mp hx), p.nodup_iff.mpr h.nd, by rw [p.length_eq]; exact h.few⟩
theorem Like.ok {d d' : SD} (l : Like d d') (h : OkSD d) : OkSD d' where
  z := by rw [l.z]; exact h.z
  lo0 := by rw [l.lo]; exact h.lo0
  lo1 := by rw [l.lo]; exact h.lo1
  hi0 := by rw [l.lo, l.hi]; exact h.hi0
  hi1 := by rw [l.hi]; exact h.hi1
  gone := h.gone.perm l.gone
  more := h.more.perm l.more
  disj := fun x hx hg => h.disj x (l.more.mem_iff.mp hx) (l.gone.mem_iff.mp hg)
theorem Like.has {d d' : SD} (l : Like d d') (x : Int) : d'.has x = d.has x := by
  show d'.dd.has x = d.dd.has x
  unfold Dd.has SD.dd
  simp only [l.z, l.lo, l.hi, l.gone.mem_iff, l.more.mem_iff]
theorem Like.has' {d d' : SD} (l : Like d d') : (fun x => d'.has x) = fun x => d.has x := funext l.has

/-- what stood stays, but at p -/
def But (p : Addr) (H H' : Hp) : Prop := ∀ b o, H b = some o → b ≠ p → H' b = some o
theorem But.refl (p : Addr) (H : Hp) : But p H H := fun _ _ e _ => e
theorem But.same {p : Addr} {H H1 H2 : Hp} (a : But p H H1) (s : Same H1 H2) : But p H H2 := fun b o e n => s _ _ (a b o e n)
theorem But.put {p : Addr} {H H1 : Hp} {u : HO} (a : But p H H1) : But p H (upd H1 p u) := fun b o e n => by
  rw [upd_ne n]
  exact a b o e n

section
variable {P : Program} {w : World} {K : PySem.W.Frag} {mg : Str → Option Value} {base : Heap} {CR CD : Addr}

def spDInit (CR CD : Addr) : Sp := fun vs H Q _ => ∃ (p dx r o l : Addr) (d : SD), vs = [.ref p, .ref r, .int d.lo, optV d.hi, .ref o, .ref l] ∧ OkSD d ∧ H p = some (.ins CD dx []) ∧ RingAt CR H r d.z ∧
  H o = some (.lst (d.gone.map V.int)) ∧ H l = some (.lst (d.more.map V.int)) ∧ ∀ (d' : SD) (H' : Hp), Like d d' → But p H H' → DaysAt CR CD H' p d' → Q .non H'
theorem ok_dInit {f : Addr} {fd : FuncData} {dvs : List V} {kws : List (Str × V)} (F : FunD K "__init__" "Days.__init__" (defArgs T.dInit) (defBody T.dInit) (defScope T.dInit) dvs kws f fd) (Z : Txt K mg CR CD)
    (c1 : CWantDay P w K mg base) (c2 : CWantTill P w K mg base) (c3 : CTold P w K mg base) : FnOk P w K mg base CX0 5 f fd ["self", "ring", "since", "till", "out", "also"] (spDInit CR CD) := by
  refine F.ok T.dInitS (fun vs H Q E h => ?_) (fun cdv A outer s H vs Q E hr h => ?_)
  · obtain ⟨p, dx, r, o, l, d, rfl, _⟩ := h
    rfl
  · obtain ⟨p, dx, r, o, l, d, rfl, ok, hp, ⟨rx, hring⟩, ho, hl, k⟩ := h
    have nd := T.dInitS.nd
    have hr3 : Room 3 _ := hr.mono (by decide)
    refine ⟨_, pss_cons (ps_if (pt_not (pt_val (pe_isiC Z.nIsinstance Z.gR (pv 1)))) (pss_one ps_never) pss_nil)
      (pss_cons (ps_expr (pe_cal c1 hr3 rfl (pa_cons (pv 2) pa_nil)))
      (pss_cons (ps_expr (pe_cal c2 hr rfl (pa_cons (pv 2) (pa_cons (pv 3) pa_nil))))
      (pss_cons (ps_fld (pv 0) (pv 1) rfl)
      (pss_cons (ps_fld (pv 0) (pv 2) rfl)
      (pss_cons (ps_fld (pv 0) (pv 3) rfl)
      (pss_cons (ps_fld (pv 0) (pe_cal c3 hr rfl (pa_cons (pv 4) pa_nil)) rfl)
      (pss_cons (ps_fld (pv 0) (pe_cal c3 hr rfl (pa_cons (pv 5) pa_nil)) rfl)
      (pss_one (ps_if (pt_val (pe_callB (cr_any rfl) (by rfl) Z.nAny (by decide +kernel) (pa_cons
          (pe_lc (own := [("day", 6)]) (g := gName 6) (tt := tYes) rfl nd (pi_tup (pe_fld (pv 0) rfl)) (blkOk_by (N := T.dInitN) (sc := defScope T.dInit) (by decide +kernel))
            (fun _ _ _ _ _ => pg_name (i := 6) nd rfl (Or.inl rfl)) (fun _ _ _ _ _ => pts_nil)
            (fun _ _ _ _ _ => pe_cmpR (op_in_seqK (K := K)) (pv 6) (pe_fldK (K := K) (pv 0) rfl) (by rfl))) pa_nil))) (pss_one ps_never) pss_nil))))))))), ?_⟩
    have nrp : r ≠ p := ne_of hring hp (by intro z; injection z with _ _ z2; cases z2)
    have nop : o ≠ p := ne_of ho hp (by intro z; cases z)
    have nlp : l ≠ p := ne_of hl hp (by intro z; cases z)
    refine ⟨_, rfl, _, _, _, _, _, rfl, .own _, ty_ins Z.clR Z.isR Z hring, Z.kRR, true, rfl, iteF ?_⟩
    refine ⟨_, rfl, d.lo, rfl, ok.lo0, _, rfl, _, rfl, d.lo, d.hi, rfl, ok.lo0, ok.hi0, ?_⟩
    refine ⟨_, rfl, _, rfl, p, CD, dx, _, rfl, hp, Z.clD, Z.aRing, (by decide), ?_⟩
    refine ⟨_, rfl, _, rfl, p, CD, dx, _, rfl, upd_same, Z.clD, Z.aSince, (by show 1 < 1000; decide), ?_⟩
    refine ⟨_, rfl, _, rfl, p, CD, dx, _, rfl, upd_same, Z.clD, Z.aTill, (by show 2 < 1000; decide), ?_⟩
    have b1 : But p H (upd (upd (upd H p (.ins CD dx (putF "ring" (.ref r) []))) p (.ins CD dx (putF "since" (.int d.lo) (putF "ring" (.ref r) [])))) p (.ins CD dx (putF "till" (optV d.hi) (putF "since" (.int d.lo) (putF "ring" (.ref r) []))))) :=
      (((But.refl p H).put).put).put
    have hp1 := upd_same (H := upd (upd H p (.ins CD dx (putF "ring" (.ref r) []))) p (.ins CD dx (putF "since" (.int d.lo) (putF "ring" (.ref r) [])))) (a := p) (o := (.ins CD dx (putF "till" (optV d.hi) (putF "since" (.int d.lo) (putF "ring" (.ref r) [])))))
    generalize upd (upd (upd H p (.ins CD dx (putF "ring" (.ref r) []))) p (.ins CD dx (putF "since" (.int d.lo) (putF "ring" (.ref r) [])))) p (.ins CD dx (putF "till" (optV d.hi) (putF "since" (.int d.lo) (putF "ring" (.ref r) [])))) = H1 at b1 hp1
    refine ⟨_, rfl, o, d.gone, rfl, b1 _ _ ho nop, ok.gone, fun ys t H2 py s2 ht => ?_⟩
    refine ⟨_, rfl, p, CD, dx, _, rfl, s2 _ _ hp1, Z.clD, Z.aOut, (by show 3 < 1000; decide), ?_⟩
    have b2 : But p H (upd H2 p (.ins CD dx (putF "out" (.ref t) (putF "till" (optV d.hi) (putF "since" (.int d.lo) (putF "ring" (.ref r) [])))))) := (b1.same s2).put
    have ntp : t ≠ p := ne_of ht (s2 _ _ hp1) (by intro z; cases z)
    have ht2 := (upd_ne (o := (.ins CD dx (putF "out" (.ref t) (putF "till" (optV d.hi) (putF "since" (.int d.lo) (putF "ring" (.ref r) [])))))) ntp).trans ht
    have hp2 := upd_same (H := H2) (a := p) (o := (.ins CD dx (putF "out" (.ref t) (putF "till" (optV d.hi) (putF "since" (.int d.lo) (putF "ring" (.ref r) []))))))
    generalize upd H2 p (.ins CD dx (putF "out" (.ref t) (putF "till" (optV d.hi) (putF "since" (.int d.lo) (putF "ring" (.ref r) []))))) = H3 at b2 ht2 hp2
    refine ⟨_, rfl, l, d.more, rfl, b2 _ _ hl nlp, ok.more, fun zs t' H4 pz s4 ht' => ?_⟩
    refine ⟨_, rfl, p, CD, dx, _, rfl, s4 _ _ hp2, Z.clD, Z.aAlso, (by show 4 < 1000; decide), ?_⟩
    have ntp' : t' ≠ p := ne_of ht' (s4 _ _ hp2) (by intro z; cases z)
    rw [dF_put]
    have b5 : But p H (upd H4 p (.ins CD dx (dF r d.lo d.hi t t'))) := (b2.same s4).put
    have ht5 := (upd_ne (o := (.ins CD dx (dF r d.lo d.hi t t'))) ntp).trans (s4 _ _ ht2)
    have ht5' := (upd_ne (o := (.ins CD dx (dF r d.lo d.hi t t'))) ntp').trans ht'
    have hp5 := upd_same (H := H4) (a := p) (o := (.ins CD dx (dF r d.lo d.hi t t')))
    generalize upd H4 p (.ins CD dx (dF r d.lo d.hi t t')) = H5 at b5 ht5 ht5' hp5
    refine ⟨_, rfl, p, CD, dx, _, _, rfl, hp5, Z.clD, Z.aAlso, dF_also .., t', rfl, ⟨_, SqT.of ht5'⟩, fun D hD => ?_⟩
    refine lc_map zs (fun _ => V.bl false) (walk_tup (xs := zs.map V.int) |>.mono (fun _ q => q) (fun _ _ _ _ _ _ y => y) |> fun w => by rw [List.length_map] at w; exact w) ?_ hD (fun H6 s6 => SqT.of (s6 _ _ ht5')) ?_ ?_
    · rw [pz.length_eq]
      exact Nat.lt_of_le_of_lt ok.more.few (by decide)
    · rintro i v x H6 H7 Q2 hv s6 ⟨rfl, hx⟩ kk
      rw [List.getElem?_map, hv] at hx
      cases hx
      refine ⟨rfl, _, rfl, _, rfl, p, CD, dx, _, _, rfl, s6 _ _ hp5, Z.clD, Z.aOut, dF_out .., t, _, rfl, .inr (SqT.of (s6 _ _ ht5)), rfl, flat_ints _, ?_⟩
      have e : inV (V.int v) (ys.map V.int) = false := by
        rw [inV_int]
        exact decide_eq_false fun q => ok.disj v (pz.mem_iff.mp (List.mem_of_getElem? hv)) (py.mem_iff.mp q)
      show Q2 (.bl (inV (V.int v) (ys.map V.int))) _
      rw [e]
      exact kk _ same_rfl
    · intro H6 s6 hL
      have e : zs.map (fun _ => V.bl false) = (zs.map fun _ => false).map V.bl := by rw [List.map_map]; rfl
      refine ⟨D, _, rfl, SqL.of (by rw [hL, e]), false, ?_, iteF ?_⟩
      · have e2 : (zs.map fun _ => false).any id = false := by simp
        rw [e2]
      · exact k ⟨d.z, d.lo, d.hi, ys, zs⟩ H6 ⟨rfl, rfl, rfl, py, pz⟩ (b5.same s6) ⟨dx, r, t, t', s6 _ _ hp5, ⟨rx, s6 _ _ (b5 _ _ hring nrp)⟩, s6 _ _ ht5, s6 _ _ ht5'⟩
abbrev CDays (P : Program) (w : World) (K : PySem.W.Frag) (mg : Str → Option Value) (base : Heap) (CR CD : Addr) : Prop := CalC P w K mg base 5 "Days" CD ["self", "ring", "since", "till", "out", "also"] (spDInit CR CD)
end
end L2
/-! The walk, part 4: has, edges_of. -/
namespace L2
open PySem PySem.Spec PyProof.Rows Fa

section
variable {P : Program} {w : World} {K : PySem.W.Frag} {mg : Str → Option Value} {base : Heap} {CR CD : Addr}

theorem ite_bool {c : Bool} {A B : Prop} (h1 : c = true → A) (h2 : c = false → B) : if c = true then A else B := by
  cases c with
  | true => exact iteT (h1 rfl)
  | false => exact iteF (h2 rfl)

def spDHas (CR CD : Addr) : Sp := fun vs H Q _ => ∃ (p : Addr) (d : SD) (x : Int), vs = [.ref p, .int x] ∧ OkSD d ∧ DaysAt CR CD H p d ∧ 0 ≤ x ∧ Q (.bl (d.has x)) H
theorem ok_dHas {f : Addr} {fd : FuncData} (F : Fun K "has" "Days.has" T.dHas f fd) (Z : Txt K mg CR CD) (c1 : CWantDay P w K mg base) (c2 : CRings P w K mg base CR) : FnOk P w K mg base CX0 5 f fd ["self", "day"] (spDHas CR CD) := by
  refine F.ok T.dHasS (fun vs H Q E h => ?_) (fun cdv A outer s H vs Q E hr h => ?_)
  · obtain ⟨p, d, x, rfl, _⟩ := h
    rfl
  · obtain ⟨p, d, x, rfl, ok, ⟨dx, r, o, l, hp, hR, ho, hl⟩, hx, k⟩ := h
    have hr3 : Room 3 _ := hr.mono (by decide)
    refine ⟨_, pss_cons (ps_expr (pe_cal c1 hr3 rfl (pa_cons (pv 1) pa_nil)))
      (pss_cons (ps_if (pt_cmpR op_in_seq (pv 1) (pe_fld (pv 0) rfl) (by rfl)) (pss_one (ps_ret pe_bl)) pss_nil)
      (pss_cons (ps_if (PW.pt (pw_or (pt_cmpR op_lt (pv 1) (pe_fld (pv 0) rfl) (nomark _)) (pw_or (PW.pt (pw_and (pt_cmpR op_notN (pe_fld (pv 0) rfl) pe_non (nomark _)) (pw_and1 (pt_cmpR op_gt (pv 1) (pe_fld (pv 0) rfl) (nomark _)))))
          (pw_or1 (pt_cmpR op_in_seq (pv 1) (pe_fld (pv 0) rfl) (by rfl)))))) (pss_one (ps_ret pe_bl)) pss_nil)
      (pss_one (ps_ret (pe_calM c2 (pe_fld (pv 0) rfl) Z.clR hr (pa_cons (pv 1) pa_nil)))))), ?_⟩
    have hv : d.has x = (if x ∈ d.more then true else if x < d.lo ∨ above d.hi x = true ∨ x ∈ d.gone then false else bitAt d.z x) := rfl
    rw [hv] at k
    refine ⟨_, rfl, x, rfl, hx, _, rfl, _, rfl, p, CD, dx, _, _, rfl, hp, Z.clD, Z.aAlso, dF_also .., l, _, rfl, .inr (SqT.of hl), rfl, flat_ints _, _, rfl, ?_⟩
    show if inV (V.int x) (d.more.map V.int) = true then _ else _
    rw [inV_int]
    by_cases h1 : x ∈ d.more
    · rw [if_pos h1] at k
      rw [decide_eq_true h1]
      exact iteT k
    rw [if_neg h1] at k
    rw [decide_eq_false h1]
    refine iteF ?_
    refine ⟨_, rfl, _, rfl, p, CD, dx, _, _, rfl, hp, Z.clD, Z.aSince, dF_since .., _, _, rfl, rfl, _, rfl, ?_⟩
    by_cases h2 : x < d.lo
    · rw [if_pos (Or.inl h2)] at k
      rw [decide_eq_true h2]
      exact iteT (iteT k)
    rw [decide_eq_false h2]
    refine iteF ?_
    refine ⟨_, rfl, p, CD, dx, _, _, rfl, hp, Z.clD, Z.aTill, dF_till .., rfl, ?_⟩
    have last : above d.hi x = false → if inV (V.int x) (d.gone.map V.int) = true then Q (.bl false) H else Q (.bl (bitAt d.z x)) H := fun hb => by
      rw [inV_int]
      by_cases h4 : x ∈ d.gone
      · rw [if_pos (Or.inr (Or.inr h4))] at k
        rw [decide_eq_true h4]
        exact iteT k
      · rw [decide_eq_false h4]
        rw [if_neg (by rintro (q | q | q); exact h2 q; (rw [hb] at q; cases q); exact h4 q)] at k
        exact iteF k
    rcases hq : d.hi with _ | h
    · refine ⟨false, rfl, iteF (iteF ⟨_, rfl, _, rfl, p, CD, dx, _, _, rfl, hp, Z.clD, Z.aOut, dF_out .., o, _, rfl, .inr (SqT.of ho), rfl, flat_ints _, _, rfl, ?_⟩)⟩
      refine ite_bool (fun e => ?_) (fun e => ?_)
      · have := last (by rw [hq]; rfl)
        rw [if_pos (show inV (V.int x) (d.gone.map V.int) = true from e)] at this
        exact this
      · have := last (by rw [hq]; rfl)
        rw [if_neg (by rw [show inV (V.int x) (d.gone.map V.int) = false from e]; exact Bool.false_ne_true)] at this
        exact ⟨_, rfl, p, CD, dx, _, _, rfl, hp, Z.clD, Z.aRing, dF_ring .., r, _, _, rfl, hR.choose_spec, rF_rings _, _, rfl, r, d.z, x, rfl, ok.z, hx, hR, this⟩
    · refine ⟨true, rfl, iteT ⟨_, rfl, _, rfl, p, CD, dx, _, _, rfl, hp, Z.clD, Z.aTill, dF_till .., x, h, rfl, by first | rfl | (rw [hq]; rfl), _, rfl, ?_⟩⟩
      by_cases h3 : x > h
      · rw [decide_eq_true h3]
        have ab : above d.hi x = true := by rw [hq]; exact decide_eq_true h3
        rw [if_pos (Or.inr (Or.inl ab))] at k
        exact iteT (iteT k)
      · rw [decide_eq_false h3]
        have ab : above d.hi x = false := by rw [hq]; exact decide_eq_false h3
        refine iteF ⟨_, rfl, _, rfl, p, CD, dx, _, _, rfl, hp, Z.clD, Z.aOut, dF_out .., o, _, rfl, .inr (SqT.of ho), rfl, flat_ints _, _, rfl, ?_⟩
        refine ite_bool (fun e => ?_) (fun e => ?_)
        · have := last ab
          rw [if_pos (show inV (V.int x) (d.gone.map V.int) = true from e)] at this
          exact this
        · have := last ab
          rw [if_neg (by rw [show inV (V.int x) (d.gone.map V.int) = false from e]; exact Bool.false_ne_true)] at this
          exact ⟨_, rfl, p, CD, dx, _, _, rfl, hp, Z.clD, Z.aRing, dF_ring .., r, _, _, rfl, hR.choose_spec, rF_rings _, _, rfl, r, d.z, x, rfl, ok.z, hx, hR, this⟩
end
end L2
/-! The walk, part 5: edges_of. -/
namespace L2
open PySem PySem.Spec PyProof.Rows Fa

/-- the bound of all edges -/
def Bd (y : Int) : Prop := 0 ≤ y ∧ y ≤ 10 ^ 51
/-- a dict of edges: all of S, and more within the bound -/
def EdS (H : Hp) (D : Addr) (S : Int → Prop) (n : Nat) : Prop := ∃ (kvs : List (Key × V)) (ks : List Int), H D = some (.dK kvs) ∧ kvs.map (·.1) = ks.map Sum.inl ∧ ks.Nodup ∧ ks.length ≤ n ∧ (∀ y ∈ ks, Bd y) ∧ ∀ y, S y → y ∈ ks

theorem putK_keys (kvs : List (Key × V)) (ks : List Int) (i : Int) (v : V) (h : kvs.map (·.1) = ks.map Sum.inl) : (putK kvs (Sum.inl i) v).map (·.1) = (if i ∈ ks then ks else ks ++ [i]).map Sum.inl := by
  have hm : (kvs.any fun kv => decide (kv.1 = Sum.inl i)) = decide (i ∈ ks) := by
    have e : (kvs.any fun kv => decide (kv.1 = (Sum.inl i : Key))) = (kvs.map (·.1)).any fun k => decide (k = Sum.inl i) := by rw [List.any_map]; rfl
    rw [e, h, List.any_map]
    by_cases q : i ∈ ks
    · rw [decide_eq_true q]
      exact List.any_eq_true.mpr ⟨i, q, by simp⟩
    · rw [decide_eq_false q]
      refine List.any_eq_false.mpr fun x hx => ?_
      simp only [Function.comp, decide_eq_true_eq]
      intro z
      exact q (Sum.inl.inj z ▸ hx)
  unfold putK
  rw [hm]
  by_cases q : i ∈ ks
  · rw [if_pos (decide_eq_true q), if_pos q, List.map_map, ← h]
    refine List.map_congr_left fun kv _ => ?_
    show (if kv.1 = Sum.inl i then (kv.1, v) else kv).1 = kv.1
    split <;> rfl
  · rw [if_neg (by rw [decide_eq_false q]; exact Bool.false_ne_true), if_neg q, List.map_append, List.map_append, h]
    rfl
theorem EdS.put {H : Hp} {D : Addr} {S : Int → Prop} {n : Nat} (e : EdS H D S n) (hn : n ≤ 1000) {i : Int} (hi : Bd i) (v : V) :
    ∃ u, DPut H D (.int i) v (upd H D u) ∧ (∀ H1 : Hp, EdS (upd H1 D u) D (fun y => S y ∨ y = i) (n + 1)) := by
  obtain ⟨kvs, ks, hD, hk, nd, hl, hb, hs⟩ := e
  have len : kvs.length = ks.length := by
    have := congrArg List.length hk
    simpa using this
  refine ⟨.dK (putK kvs (Sum.inl i) v), DPut.k (k := Sum.inl i) hD (small1000 (by omega)), fun H1 => ⟨_, if i ∈ ks then ks else ks ++ [i], upd_same, putK_keys kvs ks i v hk, ?_, ?_, ?_, ?_⟩⟩
  · split
    · exact nd
    · rename_i q
      refine List.nodup_append.mpr ⟨nd, by simp, fun a ha b hb => ?_⟩
      rw [List.mem_singleton] at hb
      subst hb
      intro z
      exact q (z ▸ ha)
  · split
    · omega
    · rw [List.length_append, List.length_singleton]; omega
  · intro y hy
    split at hy
    · exact hb y hy
    · rcases List.mem_append.mp hy with q | q
      · exact hb y q
      · rw [List.mem_singleton] at q; subst q; exact hi
  · rintro y (q | rfl)
    · split
      · exact hs y q
      · exact List.mem_append_left _ (hs y q)
    · split
      · assumption
      · simp
theorem EdS.mono {H : Hp} {D : Addr} {S S' : Int → Prop} {n n' : Nat} (e : EdS H D S n) (h : ∀ y, S' y → S y) (hn : n ≤ n') : EdS H D S' n' := by
  obtain ⟨kvs, ks, h1, h2, h3, h4, h5, h6⟩ := e
  exact ⟨kvs, ks, h1, h2, h3, Nat.le_trans h4 hn, h5, fun y q => h6 y (h y q)⟩
theorem EdS.at {H : Hp} {D : Addr} {S : Int → Prop} {n : Nat} (e : EdS H D S n) : ∃ kvs : List (Key × V), H D = some (.dK kvs) := by
  obtain ⟨kvs, _, h, _⟩ := e
  exact ⟨kvs, h⟩
theorem But.tup {K : PySem.W.Frag} {p a : Addr} {H H' : Hp} {kvs : List (Key × V)} {xs : List V} (e : But p H H') (hp : H p = some (.dK kvs)) (h : SqT K H a xs) : SqT K H' a xs := by
  rcases h with (h | ⟨o, h⟩) | h
  · exact .inl (.inl (e _ _ h (ne_of h hp (by intro z; cases z))))
  · exact .inl (.inr ⟨o, e _ _ h (ne_of h hp (by intro z; cases z))⟩)
  · exact .inr h
theorem But.trans {p : Addr} {H H1 H2 : Hp} (a : But p H H1) (b : But p H1 H2) : But p H H2 := fun c o e n => b c o (a c o e n) n
theorem Same.but {p : Addr} {H H1 H2 : Hp} (a : Same H H1) (b : But p H1 H2) (hp : H p = none) : Same H H2 := fun c o e => b c o (a c o e) (ne_of_none e hp)
theorem catA_all {K : PySem.W.Frag} {a b : Addr} {xs ys : List V} {H : Hp} {Q : VK} (ha : SqT K H a xs) (hb : SqT K H b ys) (hl : xs.length + ys.length ≤ 1000) (q : ∀ p H', Same H H' → SqT K H' p (xs ++ ys) → Q (.ref p) H') : rCatA K (.ref a) (.ref b) H Q := by
  refine ⟨a, b, xs, ys, rfl, rfl, ha, hb, Nat.le_trans hl (by decide), fun e => ?_, fun _ e => ?_, fun _ _ p hp => ?_⟩
  · subst e
    exact q b H same_rfl hb
  · subst e
    exact q a H same_rfl (by rw [List.append_nil]; exact ha)
  · exact q p _ (same_new hp) (SqT.of upd_same)

theorem if_join {k : Bool} {A : Prop} {R : Hp → Prop} (H0 : Hp) (Pj : Hp → Prop) (h2 : k = false → Pj H0) (h1 : k = true → (∀ H, Pj H → R H) → A) (hrest : ∀ H, Pj H → R H) : if k = true then A else R H0 := by
  cases k with
  | true => exact iteT (h1 rfl hrest)
  | false => exact iteF (hrest _ (h2 rfl))

section
variable {P : Program} {w : World} {K : PySem.W.Frag} {mg : Str → Option Value} {base : Heap} {CR CD : Addr}

theorem OkSD.bdLo {d : SD} (h : OkSD d) : Bd d.lo := ⟨h.lo0, by have := h.lo1; omega⟩
theorem OkSD.bdHi {d : SD} (h : OkSD d) {x : Int} (e : d.hi = some x) : Bd (x + 1) := ⟨by have := h.hi0 x e; have := h.lo0; omega, by have := h.hi1 x e; omega⟩
theorem OkSD.bdIn {d : SD} (h : OkSD d) {x : Int} (e : x ∈ d.gone ++ d.more) : Bd x ∧ Bd (x + 1) := by
  have k : 0 ≤ x ∧ x < 10 ^ 51 := by
    rcases List.mem_append.mp e with q | q
    · exact ⟨h.gone.nn x q, h.gone.lt x q⟩
    · exact ⟨h.more.nn x q, h.more.lt x q⟩
  exact ⟨⟨k.1, by omega⟩, ⟨by omega, by omega⟩⟩

def spEdges (CR CD : Addr) : Sp := fun vs H Q _ => ∃ (a p q : Addr) (d e : SD), vs = [.ref a] ∧ H a = some (.lst [.ref p, .ref q]) ∧ OkSD d ∧ OkSD e ∧ DaysAt CR CD H p d ∧ DaysAt CR CD H q e ∧
  ∀ (es : List Int) (t : Addr) (H' : Hp), Rise es → (∀ y, d.dd.Edge y → y ∈ es) → (∀ y, e.dd.Edge y → y ∈ es) → es.length ≤ 100 → (∀ y ∈ es, Bd y) → Same H H' → H' t = some (.lst (es.map V.int)) → Q (.ref t) H'

theorem rise_of {ys ks : List Int} (perm : ys.Perm ks) (rise : ys.Pairwise (· ≤ ·)) (nd : ks.Nodup) (h0 : 0 ∈ ks) (nn : ∀ y ∈ ks, 0 ≤ y) : Rise ys := by
  have up := lt_of_le_nd rise (perm.nodup_iff.mpr nd)
  refine ⟨up, ?_⟩
  have h1 : (0 : Int) ∈ ys := perm.mem_iff.mpr h0
  cases ys with
  | nil => cases h1
  | cons a r =>
    rcases List.mem_cons.mp h1 with e | e
    · rw [← e]; rfl
    · have := (List.pairwise_cons.mp up).1 0 e
      have := nn a (perm.mem_iff.mp (List.mem_cons_self ..))
      omega

theorem ok_edges {f : Addr} {fd : FuncData} (F : Fun K "edges_of" "edges_of" T.edgesOf f fd) (Z : Txt K mg CR CD) : FnOk P w K mg base CX0 1 f fd ["some"] (spEdges CR CD) := by
  refine F.ok T.edgesOfS (fun vs H Q E h => ?_) (fun cdv A outer s H vs Q E hr h => ?_)
  · obtain ⟨a, p, q, d, e, rfl, _⟩ := h
    rfl
  · obtain ⟨a, p, q, d, e, rfl, ha, okd, oke, hp, hq, k⟩ := h
    have nd := T.edgesOfS.nd
    have hu := hu_of hr
    refine ⟨_, pss_cons (ps_set (i := 1) nd rfl (Or.inl rfl) (pe_disp (pps_cons pe_int pe_bl pps_nil) (by rfl) (by rfl) (fun z => by cases z) (by decide)))
      (pss_cons (ps_for PassesOwn.never rfl (pi_list (pv 0)) (pg_name (i := 2) nd rfl (Or.inl rfl))
        (pss_cons (ps_dput hu (pv 1) (pe_fld (pv 2) rfl) pe_bl rfl)
        (pss_cons (ps_if (pt_cmpR op_notN (pe_fld (pv 2) rfl) pe_non (nomark _)) (pss_one (ps_dput hu (pv 1) (pe_op op_add (pe_fld (pv 2) rfl) pe_int) pe_bl rfl)) pss_nil)
        (pss_one (ps_for PassesOwn.never rfl (pi_tup (pe_op op_catA (pe_fld (pv 2) rfl) (pe_fld (pv 2) rfl))) (pg_name (i := 3) nd rfl (Or.inl rfl))
          (pss_cons (ps_dput hu (pv 1) (pv 3) pe_bl rfl) (pss_one (ps_dput hu (pv 1) (pe_op op_add (pv 3) pe_int) pe_bl rfl))))))))
      (pss_one (ps_ret (pe_callB (call_sortedDA rfl) (by rfl) Z.nSorted (by decide +kernel) (pa_cons (pv 1) pa_nil))))), ?_⟩
    intro D hD
    refine ⟨upd_same, [(.inl 0, .bl true)], rfl, by decide, ?_⟩
    have s1 : Same H (upd (upd H D (.dK [])) D (.dK (mergeK [] [(.inl 0, .bl true)]))) := fun b o eb => by
      rw [upd_ne (ne_of_none eb hD), upd_ne (ne_of_none eb hD)]
      exact eb
    have e1 : EdS (upd (upd H D (.dK [])) D (.dK (mergeK [] [(.inl 0, .bl true)]))) D (fun y => y = 0) 1 := ⟨_, [0], upd_same, rfl, by simp, Nat.le_refl _, fun y hy => by
      rw [List.mem_singleton] at hy
      subst hy
      exact ⟨Int.le_refl _, by decide⟩, fun y hy => by rw [hy]; simp⟩
    generalize upd (upd H D (.dK [])) D (.dK (mergeK [] [(.inl 0, .bl true)])) = H1 at s1 e1
    refine ⟨_, rfl, a, rfl, ⟨_, SqL.of (s1 _ _ ha)⟩, for_list (K := K) (a := a) (xs := [.ref p, .ref q]) (fun i σ H' => ∃ v w, σ = [some (.ref a), some (.ref D), v, w] ∧ Same H H' ∧ EdS H' D (fun y => y = 0 ∨ ∃ c ∈ [d, e].take i, c.dd.Edge y) (1 + 40 * i))
      ⟨none, none, rfl, s1, e1.mono (fun y hy => by rcases hy with q | ⟨c, q, _⟩; exact q; cases q) (Nat.le_refl _)⟩ (fun i σ H' _ ⟨_, _, _, sm, _⟩ => SqL.of (sm _ _ ha)) ?_ ?_⟩
    · rintro i y σ H2 hi ⟨v, w, rfl, sm, ed⟩
      have hc : ∃ (c : SD) (pc : Addr), [d, e][i]? = some c ∧ y = .ref pc ∧ OkSD c ∧ DaysAt CR CD H2 pc c := by
        match i, hi with
        | 0, hi => cases hi; exact ⟨d, p, rfl, rfl, okd, hp.same sm⟩
        | 1, hi => cases hi; exact ⟨e, q, rfl, rfl, oke, hq.same sm⟩
        | i + 2, hi => cases hi
      obtain ⟨c, pc, hci, rfl, okc, ⟨dx, r, o, l, h1, h2, h3, h4⟩⟩ := hc
      have hi2 : i < 2 := (List.getElem?_eq_some_iff.mp hci).1
      obtain ⟨u1, dp1, ed1⟩ := ed.put (by omega) okc.bdLo (.bl true)
      replace ed1 := ed1 H2
      have b1 : But D H2 (upd H2 D u1) := (But.refl D H2).put
      obtain ⟨kv2, hD2⟩ := ed.at
      have npD : pc ≠ D := ne_of h1 hD2 (by intro z; cases z)
      have noD : o ≠ D := ne_of h3 hD2 (by intro z; cases z)
      have nlD : l ≠ D := ne_of h4 hD2 (by intro z; cases z)
      refine ⟨_, rfl, _, rfl, pc, CD, dx, _, _, rfl, h1, Z.clD, Z.aSince, dF_since .., D, _, rfl, dp1, ?_⟩
      generalize upd H2 D u1 = H3 at b1 ed1
      have h13 := b1 _ _ h1 npD
      refine ⟨_, rfl, pc, CD, dx, _, _, rfl, h13, Z.clD, Z.aTill, dF_till .., rfl, ?_⟩
      refine ⟨_, rfl, if_join H3 (fun H4 => But D H2 H4 ∧ EdS H4 D (fun y => (y = 0 ∨ ∃ c ∈ [d, e].take i, c.dd.Edge y) ∨ y = c.lo ∨ ∃ h, c.hi = some h ∧ y = h + 1) (1 + 40 * i + 2)) ?_ ?_ ?_⟩
      · intro hk
        refine ⟨b1, ed1.mono ?_ (by omega)⟩
        rintro y (q | q | ⟨h, q, _⟩)
        · exact .inl q
        · exact .inr q
        · rw [q] at hk
          cases hk
      · intro hk rest
        cases hh : c.hi with
        | none => rw [hh] at hk; cases hk
        | some h =>
          obtain ⟨u2, dp2, ed2⟩ := ed1.put (by omega) (okc.bdHi hh) (.bl true)
          replace ed2 := ed2 H3
          refine ⟨_, rfl, _, rfl, pc, CD, dx, _, _, rfl, h13, Z.clD, Z.aTill, dF_till .., h, 1, by rw [hh]; rfl, rfl, D, _, rfl, dp2, rest _ ⟨b1.put, ed2.mono ?_ (by omega)⟩⟩
          rintro y (q | q | ⟨h', q, e⟩)
          · exact .inl (.inl q)
          · exact .inl (.inr q)
          · rw [hh] at q
            cases q
            exact .inr e
      · rintro H4 ⟨b4, ed4⟩
        have h14 := b4 _ _ h1 npD
        obtain ⟨kv4, hD4⟩ := ed4.at
        refine ⟨_, rfl, pc, CD, dx, _, _, rfl, h14, Z.clD, Z.aOut, dF_out .., _, rfl, pc, CD, dx, _, _, rfl, h14, Z.clD, Z.aAlso, dF_also .., ?_⟩
        refine catA_all (SqT.of (b4 _ _ h3 noD)) (SqT.of (b4 _ _ h4 nlD)) ?_ fun t H5 s5 ht => ?_
        · rw [List.length_map, List.length_map]
          have := okc.gone.few
          have := okc.more.few
          omega
        rw [← List.map_append] at ht
        have hD5 := s5 _ _ hD4
        obtain ⟨kvs5, ks5, g1, g2, g3, g4, g5, g6⟩ := ed4
        rw [hD4] at g1
        cases g1
        have ed5 : EdS H5 D (fun y => (y = 0 ∨ ∃ c ∈ [d, e].take i, c.dd.Edge y) ∨ y = c.lo ∨ ∃ h, c.hi = some h ∧ y = h + 1) (1 + 40 * i + 2) := ⟨kv4, ks5, hD5, g2, g3, g4, g5, g6⟩
        have b5 : But D H2 H5 := b4.same s5
        refine ⟨t, rfl, ⟨_, ht⟩, for_tup (K := K) (a := t) (xs := (c.gone ++ c.more).map V.int) (fun j σ H' => ∃ w', σ = [some (.ref a), some (.ref D), some (.ref pc), w'] ∧ But D H5 H' ∧
          EdS H' D (fun y => ((y = 0 ∨ ∃ c ∈ [d, e].take i, c.dd.Edge y) ∨ y = c.lo ∨ ∃ h, c.hi = some h ∧ y = h + 1) ∨ ∃ x ∈ (c.gone ++ c.more).take j, y = x ∨ y = x + 1) (1 + 40 * i + 2 + 2 * j))
          ⟨w, rfl, But.refl _ _, ed5.mono (fun y hy => by rcases hy with z | ⟨x, z, _⟩; exact z; cases z) (Nat.le_refl _)⟩ (fun j σ H' _ ⟨_, _, b, _⟩ => b.tup hD5 ht) ?_ ?_⟩
        · rintro j y σ H6 hj ⟨w', rfl, b6, ed6⟩
          obtain ⟨x, hx, rfl⟩ := get_mapF hj
          have hxm := okc.bdIn (List.mem_of_getElem? hx)
          have hjl : j < (c.gone ++ c.more).length := (List.getElem?_eq_some_iff.mp hx).1
          have hl16 : (c.gone ++ c.more).length ≤ 16 := by
            rw [List.length_append]
            have := okc.gone.few
            have := okc.more.few
            omega
          obtain ⟨u7, dp7, ed7⟩ := ed6.put (by omega) hxm.1 (.bl true)
          replace ed7 := ed7 H6
          obtain ⟨u8, dp8, ed8⟩ := ed7.put (by omega) hxm.2 (.bl true)
          replace ed8 := ed8 (upd H6 D u7)
          refine ⟨_, rfl, _, rfl, D, _, rfl, dp7, _, rfl, _, rfl, x, 1, rfl, rfl, D, _, rfl, dp8, some (.int x), rfl, b6.put.put, ed8.mono ?_ (by omega)⟩
          rintro y (z | ⟨x', z, e2⟩)
          · exact .inl (.inl (.inl z))
          · rw [take_snoc hx] at z
            rcases List.mem_append.mp z with z | z
            · exact .inl (.inl (.inr ⟨x', z, e2⟩))
            · rw [List.mem_singleton] at z
              subst z
              rcases e2 with e2 | e2
              · exact .inl (.inr e2)
              · exact .inr e2
        · rintro σ H6 ⟨w', rfl, b6, ed6⟩
          have b26 : But D H2 H6 := b5.trans b6
          refine ⟨_, _, rfl, sm.but b26 hD, ed6.mono ?_ ?_⟩
          · rintro y (z | ⟨c', hc', z⟩)
            · exact .inl (.inl (.inl z))
            · rw [take_snoc hci] at hc'
              rcases List.mem_append.mp hc' with hc' | hc'
              · exact .inl (.inl (.inr ⟨c', hc', z⟩))
              · rw [List.mem_singleton] at hc'
                subst hc'
                rcases z with z | z | ⟨x, hx, z⟩
                · exact .inl (.inr (.inl z))
                · exact .inl (.inr (.inr z))
                · refine .inr ⟨x, ?_, z⟩
                  rw [List.length_map, List.take_length]
                  exact List.mem_append.mpr hx
          · rw [List.length_map, List.length_append]
            have := okc.gone.few
            have := okc.more.few
            omega
    · rintro σ H2 ⟨v, w, rfl, sm, kvs, ks, g1, g2, g3, g4, g5, g6⟩
      have g4' : ks.length ≤ 81 := g4
      refine ⟨_, rfl, D, kvs, ks, rfl, .of g1, g2, Nat.le_trans g4' (by decide), fun ys t perm rise ht => ?_⟩
      refine k ys t _ (rise_of perm rise g3 (g6 0 (.inl rfl)) fun y hy => (g5 y hy).1) (fun y hy => perm.mem_iff.mpr (g6 y (.inr ⟨d, by simp, hy⟩))) (fun y hy => perm.mem_iff.mpr (g6 y (.inr ⟨e, by simp, hy⟩)))
        (by rw [perm.length_eq]; omega) (fun y hy => g5 y (perm.mem_iff.mp hy)) (sm.tr (same_new ht)) upd_same
abbrev CEdges (P : Program) (w : World) (K : PySem.W.Frag) (mg : Str → Option Value) (base : Heap) (CR CD : Addr) : Prop := Cal P w K mg base 1 "edges_of" ["some"] (spEdges CR CD)
end
end L2
/-! The walk, part 6: stretches, first_days, common_round. -/
namespace L2
open PySem PySem.Spec PyProof.Rows Fa

theorem pt_no {X : Cx} (e : Expr) : PT X e (fun _ _ _ => False) := ⟨fun _ _ _ _ _ _ h => h.elim⟩

/-- the ends of stretches -/
theorem next_at (es : List Int) (z : V) {i : Nat} (h : i < es.length) (hz : z = .non) : ((es.map V.int).drop 1 ++ [z])[i]? = some (optV es[i + 1]?) := by
  subst hz
  by_cases q : i + 1 < es.length
  · rw [List.getElem?_append_left (by rw [List.length_drop, List.length_map]; omega), List.getElem?_drop, List.getElem?_map, Nat.add_comm 1 i, List.getElem?_eq_getElem q]
    rfl
  · have e2 : es[i + 1]? = none := List.getElem?_eq_none (by omega)
    have e3 : i - (es.length - 1) = 0 := by omega
    rw [List.getElem?_append_right (by rw [List.length_drop, List.length_map]; omega), List.length_drop, List.length_map, e2, e3]
    rfl

/-- a stretch stands at tp -/
def StrAt (H : Hp) (tp : Addr) (es : List Int) (i : Nat) : Prop := ∃ b, es[i]? = some b ∧ H tp = some (.tup [.int b, optV es[i + 1]?])

section
variable {P : Program} {w : World} {K : PySem.W.Frag} {mg : Str → Option Value} {base : Heap} {CR CD : Addr}

def spStretches : Sp := fun vs H Q _ => ∃ (a : Addr) (es : List Int), vs = [.ref a, .int 0, .non] ∧ H a = some (.lst (es.map V.int)) ∧ Rise es ∧ es.length ≤ 100 ∧
  ∀ (t : Addr) (ts : List Addr) (H' : Hp), Same H H' → H' t = some (.lst (ts.map V.ref)) → ts.length = es.length → (∀ i tp, ts[i]? = some tp → StrAt H' tp es i) → Q (.ref t) H'
theorem ok_stretches {f : Addr} {fd : FuncData} (F : Fun K "stretches" "stretches" T.stretches f fd) (Z : Txt K mg CR CD) : FnOk P w K mg base CX0 1 f fd ["edges", "begin", "end"] spStretches := by
  refine F.ok T.stretchesS (fun vs H Q E h => ?_) (fun cdv A outer s H vs Q E hr h => ?_)
  · obtain ⟨a, es, rfl, _⟩ := h
    rfl
  · obtain ⟨a, es, rfl, ha, rise, hlen, k⟩ := h
    have nd := T.stretchesS.nd
    refine ⟨_, pss_cons (ps_set (i := 3) nd rfl (Or.inl rfl) (pe_op op_cat (pe_lst (pa_cons (pv 1) pa_nil))
        (pe_lc (own := [("edge", 7)]) (g := gName 7) rfl nd (pi_list (pv 0)) (blkOk_by (N := T.stretchesN) (sc := defScope T.stretches) (by decide +kernel)) (fun _ _ _ _ _ => pg_name (i := 7) nd rfl (Or.inl rfl))
          (fun _ _ _ _ _ => pts_one (pt_cmpR op_gt (pv 7) (pv 1) (nomark _))) (fun _ _ _ _ _ => pv 7))))
      (pss_cons (ps_set (i := 4) nd rfl (Or.inl rfl) (pe_lst pa_nil))
      (pss_cons (ps_for PassesOwn.never rfl (pi_zip (by rfl) Z.nZip (pa_cons (pv 3) (pa_cons (pe_op op_cat (pe_slice sl_list (pv 3) (po_some pe_int) po_none) (pe_lst (pa_cons pe_non pa_nil))) pa_nil)))
          (pg_tup rfl (pgs_cons (pg_name (i := 5) nd rfl (Or.inl rfl)) (pgs_cons (pg_name (i := 6) nd rfl (Or.inl rfl)) pgs_nil)))
          (pss_cons (ps_if (PW.pt (pw_and (pt_cmpR op_notN (pv 2) pe_non (nomark _)) (pw_and1 (pt_no _)))) (pss_one ps_never) pss_nil)
          (pss_one (ps_if (PW.pt (pw_or (pt_cmpR op_isN (pv 6) pe_non (nomark _)) (pw_or1 (pt_cmpR op_lt (pv 5) (pv 6) (nomark _)))))
            (pss_one (ps_expr (pe_bm PySem.F.plainAttrs_list PySem.F.slot_list_append PySem.F.type_list_append mt_append (pv 4) (pa_cons (pe_tup (pa_cons (pv 5) (pa_cons (pv 6) pa_nil))) pa_nil)))) pss_nil))))
      (pss_one (ps_ret (pv 4))))), ?_⟩
    refine ⟨_, rfl, (by show 1 ≤ sizeLine; decide), fun l1 hl1 => ?_⟩
    have s1 : Same H (upd H l1 (.lst [.int 0])) := same_new hl1
    have g1 : upd H l1 (.lst [.int 0]) l1 = some (.lst [.int 0]) := upd_same
    generalize upd H l1 (.lst [.int 0]) = H1 at s1 g1
    refine ⟨_, rfl, a, rfl, ⟨_, SqL.of (s1 _ _ ha)⟩, fun D hD => ?_⟩
    refine lc_fil es V.int (fun y => decide (0 < y)) (walk_list (xs := es.map V.int) |> fun w => by rw [List.length_map] at w; exact w) (small1000 (by omega)) hD (fun H2 s2 => SqL.of (s2 _ _ (s1 _ _ ha))) ?_ ?_
    · rintro i y x H2 H3 Q2 QF hy s2 ⟨rfl, hx⟩ kt kf
      rw [List.getElem?_map, hy] at hx
      cases hx
      refine ⟨rfl, _, rfl, _, rfl, _, _, rfl, rfl, _, rfl, ?_⟩
      by_cases q : y > 0
      · rw [decide_eq_true q]
        exact iteT ⟨_, rfl, kt (decide_eq_true q) _ same_rfl⟩
      · rw [decide_eq_false q]
        exact iteF (kf (decide_eq_false q) _ same_rfl)
    intro H2 s2 hL
    refine ⟨l1, D, _, _, rfl, rfl, s2 _ _ g1, hL, ?_, fun p hp => ?_⟩
    · rw [List.length_map]
      have := List.length_filter_le (fun y => decide (0 < y)) es
      exact Nat.le_of_lt (small1000 (by simp; omega))
    have e1 : ([V.int 0] ++ (es.filter fun y => decide (0 < y)).map V.int) = es.map V.int := by
      have := rise.tail
      rw [List.singleton_append, ← List.map_cons (f := V.int), ← this]
    rw [e1]
    have s3 : Same H (upd H2 p (.lst (es.map V.int))) := (s1.tr s2).tr (same_new hp)
    have g3 : upd H2 p (.lst (es.map V.int)) p = some (.lst (es.map V.int)) := upd_same
    generalize upd H2 p (.lst (es.map V.int)) = H3 at s3 g3
    refine ⟨Nat.zero_le _, fun f hf => ?_⟩
    have nfH : H f = none := s3.free hf
    have s4 : Same H (upd H3 f (.lst [])) := s3.tr (same_new hf)
    have g4 : upd H3 f (.lst []) p = some (.lst (es.map V.int)) := (same_new hf) _ _ g3
    have g5 : upd H3 f (.lst []) f = some (.lst ([] : List V)) := upd_same
    generalize upd H3 f (.lst []) = H4 at s4 g4 g5
    refine ⟨_, rfl, _, rfl, _, rfl, p, _, rfl, SqL.of g4, fun c hc => ⟨by decide, fun n hn => ⟨c, n, _, _, rfl, rfl, (same_new hn) _ _ upd_same, upd_same, ?_, fun r hrr => ?_⟩⟩⟩
    · have := cutV_length (es.map V.int) (some 1) none
      rw [List.length_map] at this
      exact Nat.le_of_lt (small1000 (by simp; omega))
    rw [cut_tail]
    have s5 : Same H4 (upd (upd (upd H4 c (.lst ((es.map V.int).drop 1))) n (.lst [.non])) r (.lst ((es.map V.int).drop 1 ++ [.non]))) := by
      rw [← cut_tail]
      exact ((same_new hc).tr (same_new hn)).tr (same_new hrr)
    have g6 : upd (upd (upd H4 c (.lst ((es.map V.int).drop 1))) n (.lst [.non])) r (.lst ((es.map V.int).drop 1 ++ [.non])) r = some (.lst ((es.map V.int).drop 1 ++ [.non])) := upd_same
    generalize upd (upd (upd H4 c (.lst ((es.map V.int).drop 1))) n (.lst [.non])) r (.lst ((es.map V.int).drop 1 ++ [.non])) = H5 at s5 g6
    have g7 := s5 _ _ g4
    have g8 := s5 _ _ g5
    have nrf : r ≠ f := fun z => by
      rw [z, g8] at g6
      injection g6 with g6
      injection g6 with g6
      have := congrArg List.length g6
      simp at this
    have npf : p ≠ f := ne_of_none (s3 |> fun _ => g3) hf
    have h0 : 0 < es.length := by
      have := rise.zero
      exact (List.getElem?_eq_some_iff.mp this).1
    refine ⟨p, r, _, _, rfl, SqL.of g7, SqL.of g6, for_it (walk_zip (K := K) (a := p) (b := r) (xs := es.map V.int) (ys := (es.map V.int).drop 1 ++ [.non]) (n := es.length) (by simp; omega))
      (fun i σ H' => ∃ (v5 v6 : Option V) (ts : List Addr), σ = [some (.ref a), some (.int 0), some .non, some (.ref p), some (.ref f), v5, v6, none] ∧ But f H5 H' ∧ H' f = some (.lst (ts.map V.ref)) ∧ ts.length = i ∧ ∀ j tp, ts[j]? = some tp → StrAt H' tp es j)
      ⟨none, none, [], rfl, But.refl _ _, g8, rfl, fun j tp z => by cases z⟩ (fun i σ H' _ ⟨_, _, _, _, b, _⟩ => ⟨SqL.of (b _ _ g7 npf), SqL.of (b _ _ g6 nrf)⟩) ?_ ?_⟩
    · rintro i x σ H6 H7 hi ⟨v5, v6, ts, rfl, b6, hf6, hl6, ht6⟩ ⟨T, x1, y1, rfl, hT, rfl, hx, hy⟩
      obtain ⟨b, hb⟩ := get_lt hi
      have ex : x1 = V.int b := by
        dsimp only at hx
        rw [List.getElem?_map, hb] at hx
        exact (Option.some.inj hx).symm
      have ey : y1 = optV es[i + 1]? := by
        dsimp only at hy
        rw [next_at es .non hi rfl] at hy
        exact (Option.some.inj hy).symm
      subst ex ey
      have hf7 : upd H6 T (.tup [V.int b, optV es[i + 1]?]) f = some (.lst (ts.map V.ref)) := same_new hT _ _ hf6
      have sT : Same H6 (upd H6 T (.tup [V.int b, optV es[i + 1]?])) := same_new hT
      have bT : But f H5 (upd H6 T (.tup [V.int b, optV es[i + 1]?])) := b6.same sT
      have gT : upd H6 T (.tup [V.int b, optV es[i + 1]?]) T = some (.tup [V.int b, optV es[i + 1]?]) := upd_same
      generalize upd H6 T (.tup [V.int b, optV es[i + 1]?]) = H7 at hf7 sT bT gT
      refine ⟨T, _, rfl, SqT.of gT, rfl, _, _, rfl, _, _, rfl, rfl, ?_⟩
      refine ⟨_, rfl, rfl, false, rfl, iteF (iteF ?_)⟩
      have body : ∀ u, H7 u = none → But f H5 (upd (upd H7 u (.tup [V.int b, optV es[i + 1]?])) f (.lst (ts.map V.ref ++ [.ref u]))) ∧ upd (upd H7 u (.tup [V.int b, optV es[i + 1]?])) f (.lst (ts.map V.ref ++ [.ref u])) f = some (.lst ((ts ++ [u]).map V.ref)) ∧ (ts ++ [u]).length = i + 1 ∧
          ∀ j tp, (ts ++ [u])[j]? = some tp → StrAt (upd (upd H7 u (.tup [V.int b, optV es[i + 1]?])) f (.lst (ts.map V.ref ++ [.ref u]))) tp es j := fun u hu => by
        have nuf : u ≠ f := fun z => by rw [z, hf7] at hu; cases hu
        refine ⟨(bT.same (same_new hu)).put, by rw [upd_same, List.map_append]; rfl, by rw [List.length_append, hl6]; rfl, fun j tp hj => ?_⟩
        by_cases q : j < ts.length
        · rw [List.getElem?_append_left q] at hj
          obtain ⟨b', e1, e2⟩ := ht6 j tp hj
          have e3 := sT _ _ e2
          refine ⟨b', e1, ?_⟩
          rw [upd_ne (ne_of e3 hf7 (by intro z; cases z)), upd_ne (ne_of_none e3 hu)]
          exact e3
        · have q2 : ts.length ≤ j := by omega
          rw [List.getElem?_append_right q2] at hj
          have q3 : j - ts.length = 0 := by
            have := (List.getElem?_eq_some_iff.mp hj).1
            rw [List.length_singleton] at this
            omega
          rw [q3] at hj
          cases hj
          have q4 : j = i := by omega
          subst q4
          exact ⟨b, hb, by rw [upd_ne nuf, upd_same]⟩
      cases hn : es[i + 1]? with
      | none =>
        rw [hn] at body
        refine ⟨_, rfl, rfl, true, rfl, iteT (iteT ?_)⟩
        refine ⟨_, rfl, .inl ⟨rfl, _, SqL.of hf7⟩, _, rfl, _, rfl, (by show 2 ≤ sizeLine; decide), fun u hu => ⟨f, _, _, rfl, rfl, (same_new hu) _ _ hf7, (by rw [List.length_map]; exact small1000 (by omega)), ?_⟩⟩
        obtain ⟨w1, w2, w3, w4⟩ := body u hu
        exact ⟨_, _, ts ++ [u], rfl, w1, w2, w3, w4⟩
      | some c =>
        rw [hn] at body
        have hbc : b < c := by
          have h1 := (List.getElem?_eq_some_iff.mp hb)
          have h2 := (List.getElem?_eq_some_iff.mp hn)
          obtain ⟨q1, rfl⟩ := h1
          obtain ⟨q2, rfl⟩ := h2
          exact List.pairwise_iff_getElem.mp rise.up i (i + 1) q1 q2 (by omega)
        refine ⟨_, rfl, rfl, false, rfl, iteF ⟨_, rfl, _, rfl, b, c, rfl, rfl, true, bl_true hbc, iteT ?_⟩⟩
        refine ⟨_, rfl, .inl ⟨rfl, _, SqL.of hf7⟩, _, rfl, _, rfl, (by show 2 ≤ sizeLine; decide), fun u hu => ⟨f, _, _, rfl, rfl, (same_new hu) _ _ hf7, (by rw [List.length_map]; exact small1000 (by omega)), ?_⟩⟩
        obtain ⟨w1, w2, w3, w4⟩ := body u hu
        exact ⟨_, _, ts ++ [u], rfl, w1, w2, w3, w4⟩
    · rintro σ H6 ⟨v5, v6, ts, rfl, b6, hf6, hl6, ht6⟩
      exact ⟨_, rfl, k f ts H6 (fun bb o e => b6 _ _ (s5 _ _ (s4 _ _ e)) (ne_of_none e nfH)) hf6 hl6 ht6⟩
abbrev CStretches (P : Program) (w : World) (K : PySem.W.Frag) (mg : Str → Option Value) (base : Heap) : Prop := Cal P w K mg base 1 "stretches" ["edges", "begin", "end"] spStretches

/-- the first days of a stretch -/
def FirstDays (b : Int) (en : Option Int) (m : Int) (n : Nat) : Prop := n ≤ 49 ∧ (∀ x, b ≤ x → x < b + m → under en x → x < b + n) ∧ ∀ x, b ≤ x → x < b + n → under en x
def spFirstDays : Sp := fun vs H Q _ => ∃ (b : Int) (en : Option Int) (m : Int), vs = [.int b, optV en, .int m] ∧ 0 < m ∧ m ≤ 49 ∧ (∀ e, en = some e → b < e) ∧
  ∀ (n : Nat) (t : Addr) (H' : Hp), FirstDays b en m n → Same H H' → H' t = some (.lst ((List.range n).map fun i => V.int (b + (i : Nat)))) → Q (.ref t) H'
theorem ok_firstDays {f : Addr} {fd : FuncData} (F : Fun K "first_days" "first_days" T.firstDays f fd) (Z : Txt K mg CR CD) : FnOk P w K mg base CX0 1 f fd ["begin", "end", "many"] spFirstDays := by
  refine F.ok T.firstDaysS (fun vs H Q E h => ?_) (fun cdv A outer s H vs Q E hr h => ?_)
  · obtain ⟨b, en, m, rfl, _⟩ := h
    rfl
  · obtain ⟨b, en, m, rfl, h0, h1, h2, k⟩ := h
    refine ⟨_, pss_cons (ps_if (pt_cmpR op_isN (pv 1) pe_non (nomark _)) (pss_one (ps_ret (pe_listRgL rfl (by rfl) Z.nList (prg_2 (by rfl) Z.nRange (pv 0) (pe_op op_add (pv 0) (pv 2)))))) pss_nil)
      (pss_one (ps_ret (pe_listRgL rfl (by rfl) Z.nList (prg_2 (by rfl) Z.nRange (pv 0) (pe_callB (call_min2 rfl) (by rfl) Z.nMin (by decide +kernel) (pa_cons (pv 1) (pa_cons (pe_op op_add (pv 0) (pv 2)) pa_nil))))))), ?_⟩
    cases en with
    | none =>
      refine ⟨_, rfl, rfl, true, rfl, iteT ⟨_, rfl, _, rfl, _, rfl, _, _, rfl, rfl, b, b + m, rfl, rfl, ?_, fun t ht => ?_⟩⟩
      · rw [show b + m - b = m by omega]; omega
      · exact k _ t _ ⟨by omega, fun x g1 g2 _ => by omega, fun x _ _ => trivial⟩ (same_new ht) upd_same
    | some e =>
      have := h2 e rfl
      refine ⟨_, rfl, rfl, false, rfl, iteF ⟨_, rfl, _, rfl, _, rfl, _, rfl, _, _, rfl, rfl, e, b + m, rfl, b, _, rfl, rfl, ?_, fun t ht => ?_⟩⟩
      · split <;> omega
      · refine k _ t _ ⟨?_, fun x g1 g2 g3 => ?_, fun x g1 g2 => ?_⟩ (same_new ht) upd_same
        · split <;> omega
        · have g3' : x < e := g3
          split <;> omega
        · show x < e
          split at g2 <;> omega
abbrev CFirstDays (P : Program) (w : World) (K : PySem.W.Frag) (mg : Str → Option Value) (base : Heap) : Prop := Cal P w K mg base 1 "first_days" ["begin", "end", "many"] spFirstDays

def spRound : Sp := fun vs H Q _ => ∃ (m n : Int), vs = [.int m, .int n] ∧ 1 ≤ m ∧ m ≤ 7 ∧ 1 ≤ n ∧ n ≤ 7 ∧ ∀ x : Int, 0 < x → x ≤ 49 → m ∣ x → n ∣ x → Q (.int x) H
theorem ok_round {f : Addr} {fd : FuncData} (F : Fun K "common_round" "common_round" T.round f fd) (Z : Txt K mg CR CD) : FnOk P w K mg base CX0 1 f fd ["one", "other"] spRound := by
  refine F.ok T.roundS (fun vs H Q E h => ?_) (fun cdv A outer s H vs Q E hr h => ?_)
  · obtain ⟨m, n, rfl, _⟩ := h
    rfl
  · obtain ⟨m, n, rfl, hm1, hm7, hn1, hn7, k⟩ := h
    have nd := T.roundS.nd
    refine ⟨_, pss_cons (ps_set (i := 2) nd rfl (Or.inl rfl) (pv 0))
      (pss_cons (ps_while PassesOwn.never (pt_cmpR op_gt (pe_op op_modN (pv 2) (pv 1)) pe_int (nomark _)) (pss_one (ps_set (i := 2) nd rfl (Or.inl rfl) (pe_op op_add (pv 2) (pv 0)))))
      (pss_one (ps_ret (pv 2)))), ?_⟩
    refine ⟨_, rfl, ?_⟩
    refine while_by (fun σ H' => H' = H ∧ ∃ j : Int, 1 ≤ j ∧ j ≤ n ∧ σ = [some (.int m), some (.int n), some (.int (m * j))]) (fun (σ : L2.St) _ => match σ[2]? with | some (some (V.int v)) => (m * n - v).toNat | _ => 0)
      ⟨rfl, 1, Int.le_refl _, hn1, by rw [Int.mul_one]; rfl⟩ ?_ ?_
    · rintro σ H2 ⟨rfl, j, j1, j2, rfl⟩
      refine ⟨_, rfl, _, rfl, _, _, rfl, rfl, by omega, _, _, rfl, rfl, _, rfl, ?_⟩
      have ef : (m * j).fmod n = (m * j) % n := Int.fmod_eq_emod_of_nonneg _ (by omega)
      by_cases q : (m * j).fmod n > 0
      · rw [decide_eq_true q]
        have jn : j < n := by
          by_cases z : j = n
          · subst z
            rw [ef, Int.mul_emod_left] at q
            omega
          · omega
        have e1 : m * j + m = m * (j + 1) := by rw [Int.mul_add, Int.mul_one]
        refine iteT ⟨_, rfl, _, rfl, _, _, rfl, rfl, ⟨rfl, j + 1, by omega, by omega, ?_⟩, ?_⟩
        · show [some (V.int m), some (V.int n), some (V.int (m * j + m))] = _
          rw [e1]
        · show (m * n - (m * j + m)).toNat < (m * n - m * j).toNat
          have g : m * (j + 1) ≤ m * n := Int.mul_le_mul_of_nonneg_left (by omega) (by omega)
          rw [e1]
          have e1' := e1
          omega
      · rw [decide_eq_false q]
        refine iteF ⟨_, rfl, ?_⟩
        have nn := Int.emod_nonneg (m * j) (show n ≠ 0 by omega)
        refine k _ ?_ ?_ ⟨j, rfl⟩ (Int.dvd_of_emod_eq_zero (by omega))
        · exact Int.mul_pos (by omega) (by omega)
        · calc m * j ≤ 7 * j := Int.mul_le_mul_of_nonneg_right hm7 (by omega)
            _ ≤ 49 := by omega
    · intro σ H2 Q1 Q2 hq h
      obtain ⟨x, e1, y, e2, i, j, e3, e4, e5, z, h2⟩ := h
      exact ⟨x, e1, y, e2, i, j, e3, e4, e5, z, by
        obtain ⟨j', e6, e7, k', e8, h3⟩ := h2
        exact ⟨j', e6, e7, k', e8, hq _ _ h3⟩⟩
abbrev CRound (P : Program) (w : World) (K : PySem.W.Frag) (mg : Str → Option Value) (base : Heap) : Prop := Cal P w K mg base 1 "common_round" ["one", "other"] spRound
end
end L2
/-! The walk, part 7: first_apart, == of days. -/
namespace L2
open PySem PySem.Spec PyProof.Rows Fa

theorem bit_per {z : Str} {m : Int} (h : (z.length : Int) ∣ m) (x : Int) : bitAt z (x + m) = bitAt z x := by
  obtain ⟨k, rfl⟩ := h
  unfold bitAt
  rw [Int.add_mul_emod_self_left]

section
variable {P : Program} {w : World} {K : PySem.W.Frag} {mg : Str → Option Value} {base : Heap} {CR CD : Addr}

def spApart (CR CD : Addr) : Sp := fun vs H Q _ => ∃ (p q : Addr) (d e : SD), vs = [.ref p, .ref q] ∧ OkSD d ∧ OkSD e ∧ DaysAt CR CD H p d ∧ DaysAt CR CD H q e ∧
  ∀ (r : Option Int) (H' : Hp), Apart (fun x => d.has x) (fun x => e.has x) r → (∀ x, r = some x → x < 10 ^ 52) → Same H H' → Q (optV r) H'
theorem ok_apart {f : Addr} {fd : FuncData} (F : Fun K "first_apart" "first_apart" T.apart f fd) (Z : Txt K mg CR CD) (cE : CEdges P w K mg base CR CD) (cS : CStretches P w K mg base) (cF : CFirstDays P w K mg base) (cR : CRound P w K mg base)
    (cL : CRLen P w K mg base CR) (cH : CalM P w K mg base 5 CD "has" ["self", "day"] (spDHas CR CD)) : FnOk P w K mg base CX0 6 f fd ["one", "other"] (spApart CR CD) := by
  refine F.ok T.apartS (fun vs H Q E h => ?_) (fun cdv A outer s H vs Q E hr h => ?_)
  · obtain ⟨p, q, d, e, rfl, _⟩ := h
    rfl
  · obtain ⟨p, q, d, e, rfl, okd, oke, hp, hq, k⟩ := h
    have nd := T.apartS.nd
    have hr1 : Room 1 _ := hr.mono (by decide)
    have hr2 : Room 2 _ := hr.mono (by decide)
    obtain ⟨fL, fdL, FL, mL, bL⟩ := cL
    refine ⟨_, pss_cons (ps_set (i := 2) nd rfl (Or.inl rfl) (pe_cal cR hr1 rfl (pa_cons (pe_callB (call_lenOwn FL hr2 mL.1 mL.2 bL pass0) (by rfl) Z.nLen PySem.boot_len (pa_cons (pe_fld (pv 0) rfl) pa_nil))
        (pa_cons (pe_callB (call_lenOwn FL hr2 mL.1 mL.2 bL pass0) (by rfl) Z.nLen PySem.boot_len (pa_cons (pe_fld (pv 1) rfl) pa_nil)) pa_nil))))
      (pss_cons (ps_for PassesOwn.never rfl (pi_list (pe_cal cS hr1 rfl (pa_cons (pe_cal cE hr1 rfl (pa_cons (pe_lst (pa_cons (pv 0) (pa_cons (pv 1) pa_nil))) pa_nil)) (pa_cons pe_int (pa_cons pe_non pa_nil)))))
          (pg_tup rfl (pgs_cons (pg_name (i := 3) nd rfl (Or.inl rfl)) (pgs_cons (pg_name (i := 4) nd rfl (Or.inl rfl)) pgs_nil)))
          (pss_one (ps_for PassesOwn.never rfl (pi_list (pe_cal cF hr1 rfl (pa_cons (pv 3) (pa_cons (pv 4) (pa_cons (pv 2) pa_nil))))) (pg_name (i := 5) nd rfl (Or.inl rfl))
            (pss_one (ps_if (pt_cmpR op_ne (pe_calM cH (pv 0) Z.clD hr (pa_cons (pv 5) pa_nil)) (pe_calM cH (pv 1) Z.clD hr (pa_cons (pv 5) pa_nil)) (nomark _)) (pss_one (ps_ret (pv 5))) pss_nil)))))
      (pss_one (ps_ret pe_non))), ?_⟩
    obtain ⟨dx, r1, o1, l1, hp1, hR1, _, _⟩ := id hp
    obtain ⟨ex, r2, o2, l2, hq1, hR2, _, _⟩ := id hq
    have zl : ∀ {c : SD}, OkSD c → (1 : Int) ≤ (c.z.length : Int) ∧ (c.z.length : Int) ≤ 7 := fun {c} ok => ⟨by have := ok.z.pos; omega, by have := ok.z.most; omega⟩
    refine ⟨_, rfl, p, CD, dx, _, _, rfl, hp1, Z.clD, Z.aRing, dF_ring .., r1, _, _, rfl, hR1.choose_spec, r1, d.z, rfl, okd.z, hR1, (d.z.length : Int), rfl, by have := zl okd; omega, by have := zl okd; omega, ?_⟩
    refine ⟨_, rfl, q, CD, ex, _, _, rfl, hq1, Z.clD, Z.aRing, dF_ring .., r2, _, _, rfl, hR2.choose_spec, r2, e.z, rfl, oke.z, hR2, (e.z.length : Int), rfl, by have := zl oke; omega, by have := zl oke; omega, ?_⟩
    refine ⟨_, _, rfl, (zl okd).1, (zl okd).2, (zl oke).1, (zl oke).2, fun m hm0 hm49 dv1 dv2 => ?_⟩
    refine ⟨_, rfl, _, rfl, (by show 2 ≤ sizeLine; decide), fun a ha => ?_⟩
    have s1 : Same H (upd H a (.lst [.ref p, .ref q])) := same_new ha
    refine ⟨a, p, q, d, e, rfl, upd_same, okd, oke, hp.same s1, hq.same s1, fun es t H2 rise ed ee hlen bd s2 ht => ?_⟩
    refine ⟨t, es, rfl, ht, rise, hlen, fun T ts H3 s3 hT hl hst => ?_⟩
    have s13 : Same H H3 := s1.tr (s2.tr s3)
    refine ⟨T, rfl, ⟨_, SqL.of hT⟩, for_list (K := K) (a := T) (xs := ts.map V.ref) (fun i σ H' => ∃ v3 v4 v5, σ = [some (.ref p), some (.ref q), some (.int m), v3, v4, v5] ∧ Same H3 H' ∧ ∀ x, 0 ≤ x → under es[i]? x → d.has x = e.has x)
      ⟨none, none, none, rfl, same_rfl, fun x h0 hu => by rw [rise.zero] at hu; have hu' : x < 0 := hu; omega⟩ (fun i σ H' _ ⟨_, _, _, _, sm, _⟩ => SqL.of (sm _ _ hT)) ?_ ?_⟩
    · rintro i y σ H4 hi ⟨v3, v4, v5, rfl, s4, ag⟩
      obtain ⟨tp, htp, rfl⟩ := get_mapF hi
      obtain ⟨b, hb, htu⟩ := hst i tp htp
      have hb0 := (bd b (List.mem_of_getElem? hb))
      refine ⟨tp, _, rfl, SqT.of (s4 _ _ htu), rfl, _, _, rfl, _, _, rfl, rfl, ?_⟩
      have hbe : ∀ c, es[i + 1]? = some c → b < c := fun c hn => by
        obtain ⟨q1, rfl⟩ := List.getElem?_eq_some_iff.mp hb
        obtain ⟨q2, rfl⟩ := List.getElem?_eq_some_iff.mp hn
        exact List.pairwise_iff_getElem.mp rise.up i (i + 1) q1 q2 (by omega)
      refine ⟨_, rfl, _, rfl, _, rfl, b, es[i + 1]?, m, rfl, hm0, hm49, hbe, fun n t5 H5 fd5 s5 ht5 => ?_⟩
      obtain ⟨n49, fd1, fd2⟩ := fd5
      refine ⟨t5, rfl, ⟨_, SqL.of ht5⟩, for_list (K := K) (a := t5) (xs := (List.range n).map fun j => V.int (b + (j : Nat))) (fun j σ H' => ∃ v5, σ = [some (.ref p), some (.ref q), some (.int m), some (.int b), some (optV es[i + 1]?), v5] ∧ H' = H5 ∧
          ∀ x, b ≤ x → x < b + j → d.has x = e.has x) ⟨v5, rfl, rfl, fun x h1 h2 => by omega⟩ (fun j σ H' _ ⟨_, _, e5, _⟩ => by subst e5; exact SqL.of ht5) ?_ ?_⟩
      · rintro j y σ H6 hj ⟨v5', rfl, rfl, ag2⟩
        obtain ⟨j', hj', rfl⟩ := get_mapF hj
        have ej : j' = j := by
          obtain ⟨q1, q2⟩ := List.getElem?_eq_some_iff.mp hj'
          rw [List.getElem_range] at q2
          exact q2.symm
        subst ej
        have hjn : j' < n := by
          have := (List.getElem?_eq_some_iff.mp hj').1
          rwa [List.length_range] at this
        have s06 : Same H H6 := s13.tr (s4.tr s5)
        have hx0 : 0 ≤ b + (j' : Int) := by have := hb0.1; omega
        refine ⟨_, rfl, p, dx, _, rfl, s06 _ _ hp1, dF_has .., _, rfl, p, d, _, rfl, okd, hp.same s06, hx0, _, rfl, q, ex, _, rfl, s06 _ _ hq1, dF_has .., _, rfl, q, e, _, rfl, oke, hq.same s06, hx0, rfl, ?_⟩
        refine ⟨_, rfl, ite_bool (fun hn => ?_) (fun hn => ?_)⟩
        · have ne : d.has (b + (j' : Int)) ≠ e.has (b + (j' : Int)) := fun z => by
            rw [z] at hn
            simp at hn
          refine ⟨_, rfl, k (some (b + (j' : Int))) _ ⟨hx0, ne, fun x g0 g1 => ?_⟩ (fun x hx => ?_) s06⟩
          · by_cases gb : x < b
            · exact ag x g0 (by rw [hb]; exact gb)
            · exact ag2 x (by omega) g1
          · cases hx
            have := hb0.2
            omega
        · have eq : d.has (b + (j' : Int)) = e.has (b + (j' : Int)) := by
            have hn' : (!decide (V.bl (d.has (b + (j' : Int))) = V.bl (e.has (b + (j' : Int))))) = false := hn
            have := of_decide_eq_true (by simpa using hn')
            exact this
          refine ⟨_, rfl, rfl, fun x g0 g1 => ?_⟩
          by_cases gx : x < b + (j' : Int)
          · exact ag2 x g0 gx
          · have ex' : x = b + (j' : Int) := by omega
            rw [ex']
            exact eq
      · rintro σ H6 ⟨v5', rfl, rfl, ag2⟩
        rw [List.length_map, List.length_range] at ag2
        refine ⟨_, _, _, rfl, s4.tr s5, fun x h0 hu => ?_⟩
        by_cases gb : x < b
        · exact ag x h0 (by rw [hb]; exact gb)
        · refine agree_on d.dd e.dd hm0 (fun y _ => bit_per dv1 y) (fun y _ => bit_per dv2 y) hb0.1 (fun y g1 g2 g3 => between rise.up hb y (ed y g3) g1 g2) (fun y g1 g2 g3 => between rise.up hb y (ee y g3) g1 g2) (fun y g1 g2 g3 => ag2 y g1 (fd1 y g1 g2 g3)) x (by omega) hu
    · rintro σ H4 ⟨v3, v4, v5, rfl, s4, ag⟩
      refine k none H4 (fun x h0 => ag x h0 ?_) (fun x hx => by cases hx) (s13.tr s4)
      rw [List.length_map, hl, List.getElem?_eq_none (Nat.le_refl _)]
      trivial
abbrev CApart (P : Program) (w : World) (K : PySem.W.Frag) (mg : Str → Option Value) (base : Heap) (CR CD : Addr) : Prop := Cal P w K mg base 6 "first_apart" ["one", "other"] (spApart CR CD)

def spDEq (K : PySem.W.Frag) (CR CD : Addr) : Sp := fun vs H Q _ => (∃ (p q : Addr) (d e : SD), vs = [.ref p, .ref q] ∧ OkSD d ∧ OkSD e ∧ DaysAt CR CD H p d ∧ DaysAt CR CD H q e ∧
  ∀ (r : Option Int) (H' : Hp), Apart (fun x => d.has x) (fun x => e.has x) r → Same H H' → Q (.bl (decide (r = none))) H') ∨
  ∃ (p : Addr) (y : V) (t : Value), vs = [.ref p, y] ∧ TyX K H y t ∧ PySem.W.kitOne K t (.ref CD) = some false ∧ Q (.bl false) H
theorem ok_dEq {f : Addr} {fd : FuncData} (F : Fun K "__eq__" "Days.__eq__" T.dEq f fd) (Z : Txt K mg CR CD) (cA : CApart P w K mg base CR CD) : FnOk P w K mg base CX0 7 f fd ["self", "other"] (spDEq K CR CD) := by
  refine F.ok T.dEqS (fun vs H Q E h => ?_) (fun cdv A outer s H vs Q E hr h => ?_)
  · rcases h with ⟨p, q, d, e, rfl, _⟩ | ⟨p, y, t, rfl, _⟩ <;> rfl
  · refine ⟨_, pss_one (ps_ret (pe_and (pe_isiC Z.nIsinstance Z.gD (pv 1)) (pe_one (pe_cmpR op_isN (pe_cal cA hr rfl (pa_cons (pv 0) (pa_cons (pv 1) pa_nil))) pe_non (nomark _))))), ?_⟩
    rcases h with ⟨p, q, d, e, rfl, okd, oke, hp, hq, k⟩ | ⟨p, y, t, rfl, ty, kit, k⟩
    · obtain ⟨ex, r2, o2, l2, hq1, _⟩ := id hq
      refine ⟨_, rfl, _, _, _, _, _, rfl, .own _, ty_ins Z.clD Z.isD Z hq1, Z.kDD, true, rfl, iteT ⟨_, rfl, _, rfl, p, q, d, e, rfl, okd, oke, hp, hq, fun r H2 ap _ s2 => ⟨rfl, ?_⟩⟩⟩
      have := k r H2 ap s2
      cases r with
      | none => exact this
      | some x => exact this
    · exact ⟨_, rfl, _, _, _, _, _, rfl, .own _, ty, kit, false, rfl, iteF k⟩
abbrev CDEq (P : Program) (w : World) (K : PySem.W.Frag) (mg : Str → Option Value) (base : Heap) (CR CD : Addr) : Prop := CalM P w K mg base 7 CD "__eq__" ["self", "other"] (spDEq K CR CD)
end
end L2
/-! The walk, part 8: str of days. -/
namespace L2
open PySem PySem.Spec PyProof.Rows Fa

def iT (i : Int) : Str := toString i
def dayPart (w : Str) (xs : List Int) : List Str := if xs = [] then [] else w :: xs.map iT
def loW (lo : Int) : List Str := if 0 < lo then (["from", iT lo] : List Str) else []
def hiW : Option Int → List Str
  | none => []
  | some h => ["to", iT h]
def dayWords (d : SD) : List Str := [d.z] ++ loW d.lo ++ hiW d.hi ++ dayPart "not" d.gone ++ dayPart "also" d.more
def dayText (d : SD) : Str := PySem.Txt.join " " (dayWords d)

theorem log2_ok {i : Int} (h0 : 0 ≤ i) (h1 : i < 10 ^ 52) : i.natAbs.log2 < 1920 := by
  by_cases z : i.natAbs = 0
  · rw [z]; decide
  · rw [Nat.log2_lt z]
    have : i.natAbs < 10 ^ 52 := by omega
    exact Nat.lt_trans this (by decide +kernel)
theorem iT_len {i : Int} (h0 : 0 ≤ i) (h1 : i < 10 ^ 52) : (iT i).length ≤ 1921 := PyProof.Rows.int_text_len_1921 (log2_ok h0 h1)

theorem eqv_empty (xs : List Int) : PyData.eqv (.tuple (xs.map PyData.int)) (.tuple []) = decide (xs = []) := by
  cases xs with
  | nil => simp [PyData.eqv, PyData.eqvAll]
  | cons a r => simp [PyData.eqv, PyData.eqvAll]
theorem shaped_empty : SeqAt.shaped (.tuple []) = true := by decide +kernel
theorem ints_all (xs : List Int) : PyData.canLayAll0 (xs.map PyData.int) = true ∧ PyData.depthAll (xs.map PyData.int) = 0 := by
  induction xs with
  | nil => exact ⟨by simp [PyData.canLayAll0], by simp [PyData.depthAll]⟩
  | cons a r ih => exact ⟨by simp [PyData.canLayAll0, PyData.canLay0, ih.1], by simp [PyData.depthAll, PyData.depth, ih.2]⟩
theorem shaped_tup (xs : List Int) : SeqAt.shaped (.tuple (xs.map PyData.int)) = true := by
  unfold SeqAt.shaped
  simp [PyData.canLay0, PyData.depth, (ints_all xs).1, (ints_all xs).2]
theorem shaped_lst (xs : List Int) : SeqAt.shaped (.list (xs.map PyData.int)) = true := by
  unfold SeqAt.shaped
  simp [PyData.canLay0, PyData.depth, (ints_all xs).1, (ints_all xs).2]
theorem dp_ints {K : PySem.W.Frag} {H : Hp} (xs : List Int) : DpAll K H (xs.map V.int) (xs.map PyData.int) := by
  induction xs with
  | nil => exact .nil
  | cons a r ih => exact .cons (.int a) ih

section
variable {P : Program} {w : World} {K : PySem.W.Frag} {mg : Str → Option Value} {base : Heap} {CR CD : Addr}

def spDStr (CR CD : Addr) : Sp := fun vs H Q _ => ∃ (p : Addr) (d : SD), vs = [.ref p] ∧ OkSD d ∧ DaysAt CR CD H p d ∧ ∀ H', Same H H' → Q (.str (dayText d)) H'

theorem words_sum {d : SD} (ok : OkSD d) : (dayWords d).length ≤ 30 ∧ ∀ x ∈ dayWords d, x.length ≤ 1921 := by
  have part : ∀ (w : Str) (xs : List Int), w.length ≤ 1921 → OkL xs → (dayPart w xs).length ≤ 9 ∧ ∀ x ∈ dayPart w xs, x.length ≤ 1921 := fun w xs hw ox => by
    unfold dayPart
    split
    · exact ⟨Nat.zero_le _, fun x hx => by cases hx⟩
    · refine ⟨by rw [List.length_cons, List.length_map]; have := ox.few; omega, fun x hx => ?_⟩
      rcases List.mem_cons.mp hx with rfl | hx
      · exact hw
      · obtain ⟨i, hi, rfl⟩ := List.mem_map.mp hx
        exact iT_len (ox.nn i hi) (by have := ox.lt i hi; omega)
  obtain ⟨a1, a2⟩ := part "not" d.gone (by decide) ok.gone
  obtain ⟨b1, b2⟩ := part "also" d.more (by decide) ok.more
  have z7 := ok.z.most
  have hlo : (iT d.lo).length ≤ 1921 := iT_len ok.lo0 (by have := ok.lo1; omega)
  have t2 : ∀ x ∈ (["from", iT d.lo] : List Str), x.length ≤ 1921 := fun x hx => by
    rcases List.mem_cons.mp hx with rfl | hx
    · decide
    · rw [List.mem_singleton] at hx
      subst hx
      exact hlo
  have e2 : (loW d.lo).length ≤ 2 ∧ ∀ x ∈ loW d.lo, x.length ≤ 1921 := by
    unfold loW
    split
    · exact ⟨Nat.le_refl _, t2⟩
    · exact ⟨Nat.zero_le _, fun x hx => by cases hx⟩
  have e3 : (hiW d.hi).length ≤ 2 ∧ ∀ x ∈ hiW d.hi, x.length ≤ 1921 := by
    cases hh : d.hi with
    | none => exact ⟨Nat.zero_le _, fun x hx => by cases hx⟩
    | some h =>
      refine ⟨Nat.le_refl _, fun x hx => ?_⟩
      have h1 := ok.hi1 h hh
      have h0 := ok.hi0 h hh
      have := ok.lo0
      rcases List.mem_cons.mp hx with rfl | hx
      · decide
      · rw [List.mem_singleton] at hx
        subst hx
        exact iT_len (by omega) (by omega)
  unfold dayWords
  refine ⟨?_, fun x hx => ?_⟩
  · simp only [List.length_append]
    have : ([d.z] : List Str).length = 1 := rfl
    omega
  · simp only [List.mem_append] at hx
    rcases hx with (((hx | hx) | hx) | hx) | hx
    · rw [List.mem_singleton] at hx
      subst hx
      omega
    · exact e2.2 x hx
    · exact e3.2 x hx
    · exact a2 x hx
    · exact b2 x hx
theorem sum_le {xs : List Str} {n : Nat} (h : ∀ x ∈ xs, x.length ≤ n) : (xs.map (·.length)).sum ≤ xs.length * n := by
  induction xs with
  | nil => simp
  | cons a r ih =>
    have h1 := h a (List.mem_cons_self ..)
    have h2 := ih fun x hx => h x (List.mem_cons_of_mem _ hx)
    rw [List.map_cons, List.sum_cons, List.length_cons, Nat.succ_mul]
    omega

theorem ext_step {H H1 : Hp} {W n : Addr} {ws us : List Str} (s : Same H H1) (hW : H W = none) (h1 : H1 W = some (.lst (ws.map V.str))) (hn : H1 n = none) :
    Same H (upd (upd H1 n (.lst (us.map V.str))) W (.lst (ws.map V.str ++ us.map V.str))) ∧ upd (upd H1 n (.lst (us.map V.str))) W (.lst (ws.map V.str ++ us.map V.str)) W = some (.lst ((ws ++ us).map V.str)) := by
  refine ⟨fun b o e => ?_, by rw [upd_same, List.map_append]⟩
  rw [upd_ne (ne_of_none e hW), upd_ne (ne_of_none (s _ _ e) hn)]
  exact s _ _ e

theorem ok_dStr {f : Addr} {fd : FuncData} (F : Fun K "__str__" "Days.__str__" T.dStr f fd) (Z : Txt K mg CR CD) (cS : CRStr P w K mg base CR) : FnOk P w K mg base CX0 4 f fd ["self"] (spDStr CR CD) := by
  refine F.ok T.dStrS (fun vs H Q E h => ?_) (fun cdv A outer s H vs Q E hr h => ?_)
  · obtain ⟨p, d, rfl, _⟩ := h
    rfl
  · obtain ⟨p, d, rfl, ok, hd, k⟩ := h
    have nd := T.dStrS.nd
    obtain ⟨fS, fdS, FS, mS, bS⟩ := cS
    obtain ⟨dx, r, o, l, hp, hR, ho, hl⟩ := id hd
    refine ⟨_, pss_cons (ps_set (i := 1) nd rfl (Or.inl rfl) (pe_lst (pa_cons (pe_callTy (call_strOwn FS hr mS.1 mS.2 bS pass0) (by rfl) Z.nStr (by decide +kernel) (pa_cons (pe_fld (pv 0) rfl) pa_nil)) pa_nil)))
      (pss_cons (ps_if (pt_cmpR op_gt (pe_fld (pv 0) rfl) pe_int (nomark _)) (pss_one (ps_expr (pe_bm PySem.F.plainAttrs_list PySem.F.slot_list_extend PySem.F.type_list_extend mt_extend (pv 1) (pa_cons (pe_lst (pa_cons (pe_kv rfl Z.cFrom) (pa_cons (pe_callTy call_str_int (by rfl) Z.nStr (by decide +kernel) (pa_cons (pe_fld (pv 0) rfl) pa_nil)) pa_nil))) pa_nil)))) pss_nil)
      (pss_cons (ps_if (pt_cmpR op_notN (pe_fld (pv 0) rfl) pe_non (nomark _)) (pss_one (ps_expr (pe_bm PySem.F.plainAttrs_list PySem.F.slot_list_extend PySem.F.type_list_extend mt_extend (pv 1) (pa_cons (pe_lst (pa_cons (pe_kv rfl Z.cTo) (pa_cons (pe_callTy call_str_int (by rfl) Z.nStr (by decide +kernel) (pa_cons (pe_fld (pv 0) rfl) pa_nil)) pa_nil))) pa_nil)))) pss_nil)
      (pss_cons (ps_for PassesOwn.never rfl (pi_tup (pe_tup (pa_cons (pe_tup (pa_cons (pe_kv rfl Z.cNot) (pa_cons (pe_fld (pv 0) rfl) pa_nil))) (pa_cons (pe_tup (pa_cons (pe_kv rfl Z.cAlso) (pa_cons (pe_fld (pv 0) rfl) pa_nil))) pa_nil))))
          (pg_tup rfl (pgs_cons (pg_name (i := 2) nd rfl (Or.inl rfl)) (pgs_cons (pg_name (i := 3) nd rfl (Or.inl rfl)) pgs_nil)))
          (pss_one (ps_if (pt_cmpR (op_neD hr.units) (pv 3) (pe_tup pa_nil) (nomark _)) (pss_one (ps_expr (pe_bm PySem.F.plainAttrs_list PySem.F.slot_list_extend PySem.F.type_list_extend mt_extend (pv 1) (pa_cons (pe_op op_cat (pe_lst (pa_cons (pv 2) pa_nil))
            (pe_lc (own := [("day", 4)]) (g := gName 4) (tt := tYes) rfl nd (pi_tup (pv 3)) (blkOk_by (N := T.dStrN) (sc := defScope T.dStr) (by decide +kernel)) (fun _ _ _ _ _ => pg_name (i := 4) nd rfl (Or.inl rfl)) (fun _ _ _ _ _ => pts_nil)
              (fun _ _ _ _ _ => pe_callTy call_str_int (by rfl) Z.nStr (by decide +kernel) (pa_cons (pv 4) pa_nil)))) pa_nil)))) pss_nil)))
      (pss_one (ps_ret (pe_join pe_str (pv 1))))))), ?_⟩
    refine ⟨_, rfl, p, CD, dx, _, _, rfl, hp, Z.clD, Z.aRing, dF_ring .., r, _, _, rfl, hR.choose_spec, r, d.z, rfl, hR, d.z, rfl, (by show 1 ≤ sizeLine; decide), fun W hW => ?_⟩
    have s1 : Same H (upd H W (.lst [.str d.z])) := same_new hW
    have g1 : upd H W (.lst [.str d.z]) W = some (.lst (([d.z] : List Str).map V.str)) := upd_same
    generalize upd H W (.lst [.str d.z]) = H1 at s1 g1
    refine ⟨_, rfl, p, CD, dx, _, _, rfl, s1 _ _ hp, Z.clD, Z.aSince, dF_since .., d.lo, 0, rfl, rfl, _, rfl, ?_⟩
    refine if_join H1 (fun H' => Same H H' ∧ H' W = some (.lst (([d.z] ++ loW d.lo).map V.str))) (fun hk => ?_) (fun hk rest => ?_) ?_
    · have e : loW d.lo = [] := if_neg (of_decide_eq_false hk)
      rw [e, List.append_nil]
      exact ⟨s1, g1⟩
    · have hk' : 0 < d.lo := of_decide_eq_true hk
      have e : loW d.lo = (["from", iT d.lo] : List Str) := if_pos hk'
      refine ⟨_, rfl, .inl ⟨rfl, _, SqL.of g1⟩, _, rfl, p, CD, dx, _, _, rfl, s1 _ _ hp, Z.clD, Z.aSince, dF_since .., d.lo, rfl, log2_ok ok.lo0 (by have := ok.lo1; omega), (by show 2 ≤ sizeLine; decide), fun n hn => ⟨W, n, _, _, rfl, rfl, (same_new hn) _ _ g1, upd_same, (by show 3 ≤ sizeLine; decide), rest _ ?_⟩⟩
      rw [e]
      exact ext_step (us := ["from", iT d.lo]) s1 hW g1 hn
    rintro H2 ⟨s2, g2⟩
    refine ⟨_, rfl, p, CD, dx, _, _, rfl, s2 _ _ hp, Z.clD, Z.aTill, dF_till .., rfl, _, rfl, ?_⟩
    have l2 : ([d.z] ++ loW d.lo).length ≤ 3 := by
      unfold loW
      split
      · exact Nat.le_refl _
      · exact (by decide : 1 ≤ 3)
    refine if_join H2 (fun H' => Same H H' ∧ H' W = some (.lst (([d.z] ++ loW d.lo ++ hiW d.hi).map V.str))) (fun hk => ?_) (fun hk rest => ?_) ?_
    · cases hh : d.hi with
      | none => exact ⟨s2, by rw [show hiW none = [] from rfl, List.append_nil]; exact g2⟩
      | some h => rw [hh] at hk; cases hk
    · cases hh : d.hi with
      | none => rw [hh] at hk; cases hk
      | some h =>
        have h0 := ok.hi0 h hh
        have h1 := ok.hi1 h hh
        have := ok.lo0
        refine ⟨_, rfl, .inl ⟨rfl, _, SqL.of g2⟩, _, rfl, p, CD, dx, _, _, rfl, s2 _ _ hp, Z.clD, Z.aTill, dF_till .., h, (by rw [hh]; rfl), log2_ok (by omega) (by omega), (by show 2 ≤ sizeLine; decide), fun n hn => ⟨W, n, _, _, rfl, rfl, (same_new hn) _ _ g2, upd_same, ?_, rest _ ?_⟩⟩
        · rw [List.length_map]; exact Nat.le_of_lt (small1000 (by show _ + 2 ≤ 1000; omega))
        · rw [hh]
          exact ext_step (us := ["to", iT h]) s2 hW g2 hn
    rintro H3 ⟨s3, g3⟩
    generalize hws : [d.z] ++ loW d.lo ++ hiW d.hi = ws at g3
    refine ⟨_, rfl, p, CD, dx, _, _, rfl, s3 _ _ hp, Z.clD, Z.aOut, dF_out .., (by show 2 ≤ sizeLine; decide), fun T1 hT1 => ?_⟩
    have s4 : Same H3 (upd H3 T1 (.tup [.str "not", .ref o])) := same_new hT1
    have g4 : upd H3 T1 (.tup [.str "not", .ref o]) T1 = some (.tup [.str "not", .ref o]) := upd_same
    generalize upd H3 T1 (.tup [.str "not", .ref o]) = H4 at s4 g4
    refine ⟨_, rfl, p, CD, dx, _, _, rfl, s4 _ _ (s3 _ _ hp), Z.clD, Z.aAlso, dF_also .., (by show 2 ≤ sizeLine; decide), fun T2 hT2 => ?_⟩
    have s5 : Same H4 (upd H4 T2 (.tup [.str "also", .ref l])) := same_new hT2
    have g5 : upd H4 T2 (.tup [.str "also", .ref l]) T2 = some (.tup [.str "also", .ref l]) := upd_same
    generalize upd H4 T2 (.tup [.str "also", .ref l]) = H5 at s5 g5
    refine ⟨(by show 2 ≤ sizeLine; decide), fun TT hTT => ?_⟩
    have s6 : Same H5 (upd H5 TT (.tup [.ref T1, .ref T2])) := same_new hTT
    have g6 : upd H5 TT (.tup [.ref T1, .ref T2]) TT = some (.tup [.ref T1, .ref T2]) := upd_same
    generalize upd H5 TT (.tup [.ref T1, .ref T2]) = H6 at s6 g6
    have s36 : Same H3 H6 := s4.tr (s5.tr s6)
    have g3' := s36 _ _ g3
    have nW : ∀ {b : Addr} {xs : List V}, H6 b = some (.tup xs) → b ≠ W := fun {b xs} e => ne_of e g3' (by intro z; cases z)
    refine ⟨TT, rfl, ⟨_, SqT.of g6⟩, for_tup (K := K) (a := TT) (xs := [.ref T1, .ref T2]) (fun i σ H' => ∃ v2 v3, σ = [some (.ref p), some (.ref W), v2, v3, none] ∧ But W H6 H' ∧
      H' W = some (.lst ((ws ++ (([dayPart "not" d.gone, dayPart "also" d.more] : List (List Str)).take i).flatten).map V.str))) ⟨none, none, rfl, But.refl _ _, by simpa using g3'⟩ (fun i σ H' _ ⟨_, _, _, b, _⟩ => SqT.of (b _ _ g6 (nW g6))) ?_ ?_⟩
    · rintro i y σ H7 hi ⟨v2, v3, rfl, b7, g7⟩
      have hc : ∃ (word : Str) (xs : List Int) (T a : Addr), ([dayPart "not" d.gone, dayPart "also" d.more] : List (List Str))[i]? = some (dayPart word xs) ∧ y = .ref T ∧ H6 T = some (.tup [.str word, .ref a]) ∧ H6 a = some (.tup (xs.map V.int)) ∧ OkL xs := by
        match i, hi with
        | 0, hi => cases hi; exact ⟨"not", d.gone, T1, o, rfl, rfl, s6 _ _ (s5 _ _ g4), s36 _ _ (s3 _ _ ho), ok.gone⟩
        | 1, hi => cases hi; exact ⟨"also", d.more, T2, l, rfl, rfl, s6 _ _ g5, s36 _ _ (s3 _ _ hl), ok.more⟩
        | i + 2, hi => cases hi
      obtain ⟨word, xs, T, a, hpi, rfl, hT, ha, okx⟩ := hc
      have hi2 : i < 2 := (List.getElem?_eq_some_iff.mp hpi).1
      have hT7 := b7 _ _ hT (nW hT)
      have ha7 := b7 _ _ ha (nW ha)
      have nx : ∀ (zs : List Str), (ws ++ (([dayPart "not" d.gone, dayPart "also" d.more] : List (List Str)).take i).flatten) = zs → (ws ++ (([dayPart "not" d.gone, dayPart "also" d.more] : List (List Str)).take (i + 1)).flatten) = zs ++ dayPart word xs := fun zs e => by
        rw [take_snoc hpi, List.flatten_append, ← List.append_assoc, e]
        simp
      have lz : (ws ++ (([dayPart "not" d.gone, dayPart "also" d.more] : List (List Str)).take i).flatten).length ≤ 100 := by
        have h := (words_sum ok).1
        have e : dayWords d = ws ++ (([dayPart "not" d.gone, dayPart "also" d.more] : List (List Str))).flatten := by
          rw [← hws]
          unfold dayWords
          simp
        rw [e, List.length_append] at h
        have h2 : ((([dayPart "not" d.gone, dayPart "also" d.more] : List (List Str)).take i).flatten).length ≤ ((([dayPart "not" d.gone, dayPart "also" d.more] : List (List Str))).flatten).length := by
          conv => rhs; rw [← List.take_append_drop i ([dayPart "not" d.gone, dayPart "also" d.more] : List (List Str)), List.flatten_append, List.length_append]
          omega
        rw [List.length_append]
        omega
      rw [nx _ rfl]
      generalize (ws ++ (([dayPart "not" d.gone, dayPart "also" d.more] : List (List Str)).take i).flatten) = zs at g7 lz
      refine ⟨T, _, rfl, SqT.of hT7, rfl, _, _, rfl, _, _, rfl, rfl, ?_⟩
      refine ⟨_, rfl, Nat.zero_le _, fun em hem => ⟨.tuple (xs.map PyData.int), .tuple [], .tup (SqT.of ((same_new hem) _ _ ha7)) (dp_ints xs), .tup (SqT.of upd_same) .nil, shaped_tup xs, shaped_empty, _, rfl, ?_⟩⟩
      have s8 : Same H7 (upd H7 em (.tup [])) := same_new hem
      generalize upd H7 em (.tup []) = H8 at s8
      rw [eqv_empty]
      by_cases q : xs = []
      · subst q
        refine iteF ⟨_, _, rfl, b7.same s8, ?_⟩
        have e : dayPart word [] = [] := rfl
        rw [e, List.append_nil]
        exact s8 _ _ g7
      · have e : dayPart word xs = word :: xs.map iT := if_neg q
        rw [decide_eq_false q, e]
        refine iteT ⟨_, rfl, .inl ⟨rfl, _, SqL.of (s8 _ _ g7)⟩, _, rfl, (by show 1 ≤ sizeLine; decide), fun n1 hn1 => ?_⟩
        have s9 : Same H8 (upd H8 n1 (.lst [.str word])) := same_new hn1
        have g9 : upd H8 n1 (.lst [.str word]) n1 = some (.lst [.str word]) := upd_same
        generalize upd H8 n1 (.lst [.str word]) = H9 at s9 g9
        refine ⟨_, rfl, a, rfl, ⟨_, SqT.of (s9 _ _ (s8 _ _ ha7))⟩, fun D hD => ?_⟩
        refine lc_map xs (fun i => V.str (iT i)) (walk_tup (xs := xs.map V.int) |> fun w => by rw [List.length_map] at w; exact w) (small1000 (by have := okx.few; omega)) hD (fun H10 s10 => SqT.of (s10 _ _ (s9 _ _ (s8 _ _ ha7)))) ?_ ?_
        · rintro j v x H10 H11 Q2 hv s10 ⟨rfl, hx⟩ kk
          rw [List.getElem?_map, hv] at hx
          cases hx
          have hm := List.mem_of_getElem? hv
          exact ⟨rfl, _, rfl, v, rfl, log2_ok (okx.nn v hm) (by have := okx.lt v hm; omega), kk _ same_rfl⟩
        · intro H10 s10 hL
          refine ⟨n1, D, _, _, rfl, rfl, s10 _ _ g9, hL, ?_, fun n2 hn2 => ?_⟩
          · rw [List.length_map]; exact Nat.le_of_lt (small1000 (by have := okx.few; show 1 + _ ≤ 1000; omega))
          have e2 : ([V.str word] ++ xs.map (fun i => V.str (iT i))) = (word :: xs.map iT).map V.str := by
            rw [List.map_cons, List.map_map]
            rfl
          rw [e2]
          have s811 : Same H7 H10 := s8.tr (s9.tr s10)
          refine ⟨W, n2, _, _, rfl, rfl, (same_new hn2) _ _ (s811 _ _ g7), upd_same, ?_, _, _, rfl, ?_, ?_⟩
          · rw [List.length_map, List.length_map, List.length_cons, List.length_map]; exact Nat.le_of_lt (small1000 (by have := okx.few; omega))
          · exact ((b7.same s811).same (same_new hn2)).put
          · rw [upd_same, List.map_append]
    · rintro σ H7 ⟨v2, v3, rfl, b7, g7⟩
      have e : dayWords d = ws ++ (([dayPart "not" d.gone, dayPart "also" d.more] : List (List Str)).take 2).flatten := by
        rw [← hws]
        unfold dayWords
        simp
      have g7' : H7 W = some (.lst ((dayWords d).map V.str)) := by rw [e]; exact g7
      refine ⟨⟨_, rfl⟩, _, rfl, _, W, dayWords d, rfl, rfl, .inl (SqL.of g7'), ?_, k _ ?_⟩
      · obtain ⟨h1, h2⟩ := words_sum ok
        have h3 := sum_le h2
        have h4 : (" " : Str).length = 1 := rfl
        rw [h4]
        have h5 : (dayWords d).length * 1921 ≤ 30 * 1921 := Nat.mul_le_mul_right _ h1
        omega
      · exact (s3.tr s36).but b7 hW
abbrev CDStr (P : Program) (w : World) (K : PySem.W.Frag) (mg : Str → Option Value) (base : Heap) (CR CD : Addr) : Prop := CalM P w K mg base 4 CD "__str__" ["self"] (spDStr CR CD)
end
end L2
/-! The walk, part 9: the law's pot. -/
namespace L2
open PySem PySem.Spec PyProof.Rows Fa

def PotAt (H : Hp) (p : Addr) : Prop := ∃ x y z : Int, H p = some (.lst [.int x, .int y, .int z]) ∧ 0 ≤ x
theorem PotAt.same {H H' : Hp} {p : Addr} (s : Same H H') (h : PotAt H p) : PotAt H' p := by
  obtain ⟨x, y, z, e, h0⟩ := h
  exact ⟨x, y, z, s _ _ e, h0⟩

theorem m1 : (2147483629 : Int) ≠ 0 := by decide
theorem m2 : (2147483563 : Int) ≠ 0 := by decide
theorem m3 : (2147483587 : Int) ≠ 0 := by decide
section
variable {P : Program} {w : World} {K : PySem.W.Frag} {mg : Str → Option Value} {base : Heap} {CR CD : Addr}

def spPot (K : PySem.W.Frag) : Sp := fun vs H Q _ => ∃ (a : Addr) (ns : List Int) (k : Nat), vs = [.ref a, .int (k : Int)] ∧ SqL K H a (ns.map V.int) ∧ k < 2 ∧ ∀ (p : Addr) (H' : Hp), H p = none → Same H H' → PotAt H' p → Q (.ref p) H'
theorem ok_pot {f : Addr} {fd : FuncData} (F : Fun K "_law_pot" "_law_pot" T.lPot f fd) (Z : Txt K mg CR CD) : FnOk P w K mg base CX0 1 f fd ["_law_script", "_law_k"] (spPot K) := by
  refine F.ok T.lPotS (fun vs H Q E h => ?_) (fun cdv A outer s H vs Q E hr h => ?_)
  · obtain ⟨a, ns, k, rfl, _⟩ := h
    rfl
  · obtain ⟨a, ns, k, rfl, ha, hk, kk⟩ := h
    have nd := T.lPotS.nd
    refine ⟨_, pss_cons (ps_set (i := 2) nd rfl (Or.inl rfl) (pe_ifExp (pt_cmpR op_lt (pv 1) (pe_callB call_len_seq (by rfl) Z.nLen PySem.boot_len (pa_cons (pv 0) pa_nil)) (nomark _)) (pe_ix ix_list (pv 0) (pv 1) (fun _ _ => rfl)) pe_int))
      (pss_one (ps_ret (pe_lst (pa_cons (pe_callB (call_max2 rfl) (by rfl) Z.nMax (by decide +kernel) (pa_cons pe_int (pa_cons (pe_op op_sub (pv 2) (pe_op op_pow pe_int pe_int)) pa_nil)))
        (pa_cons (pe_op op_modN (pe_op op_pow (pe_op op_add (pe_op op_mul (pe_op op_modN (pv 2) pe_int) pe_int) (pe_op op_mul pe_int (pe_op op_add (pv 1) pe_int))) pe_int) pe_int) (pa_cons pe_int pa_nil)))))), ?_⟩
    have cell : ∃ c : Int, (((k : Int) < ((ns.map V.int).length : Nat)) ∧ (ns.map V.int)[k]? = some (.int c)) ∨ (¬ ((k : Int) < ((ns.map V.int).length : Nat)) ∧ c = 0) := by
      by_cases q : k < ns.length
      · refine ⟨ns[k], .inl ⟨by rw [List.length_map]; omega, by rw [List.getElem?_map, List.getElem?_eq_getElem q]; rfl⟩⟩
      · exact ⟨0, .inr ⟨by rw [List.length_map]; omega, rfl⟩⟩
    obtain ⟨c, hc⟩ := cell
    refine ⟨_, rfl, _, rfl, a, _, rfl, .inl ha, _, _, rfl, rfl, _, rfl, ?_⟩
    have tail : ∀ c : Int, (c.fmod 2147483629 * 69621 + 40503 * ((k : Int) + 1)).natAbs < 2 ^ 64 := fun c => by
      have e1 : c.fmod 2147483629 = c % 2147483629 := Int.fmod_eq_emod_of_nonneg _ (by decide)
      have h0 := Int.emod_nonneg c (show (2147483629 : Int) ≠ 0 by decide)
      have h1 := Int.emod_lt_of_pos c (show (0 : Int) < 2147483629 by decide)
      rw [e1]
      omega
    rcases hc with ⟨q1, q2⟩ | ⟨q1, rfl⟩
    · rw [decide_eq_true q1]
      refine iteT ⟨_, rfl, _, rfl, a, _, _, _, rfl, rfl, ha, atI_nat q2, ?_⟩
      refine ⟨_, rfl, _, _, rfl, rfl, ⟨by decide, by decide, by decide⟩, _, _, rfl, rfl, _, _, rfl, ?_⟩
      refine ⟨_, rfl, _, _, rfl, rfl, m1, _, _, rfl, rfl, .inr ⟨by decide, by decide⟩, _, rfl, _, _, rfl, rfl, _, _, rfl, rfl, .inl ⟨by decide, by decide⟩, _, _, rfl, rfl, _, _, rfl, rfl, ⟨by decide, by decide, tail _⟩, _, _, rfl, rfl, m2, (by show 3 ≤ sizeLine; decide), fun p hp => ?_⟩
      exact kk p _ hp (same_new hp) ⟨_, _, _, upd_same, by split <;> omega⟩
    · rw [decide_eq_false q1]
      refine iteF ?_
      refine ⟨_, rfl, _, _, rfl, rfl, ⟨by decide, by decide, by decide⟩, _, _, rfl, rfl, _, _, rfl, ?_⟩
      refine ⟨_, rfl, _, _, rfl, rfl, m1, _, _, rfl, rfl, .inr ⟨by decide, by decide⟩, _, rfl, _, _, rfl, rfl, _, _, rfl, rfl, .inl ⟨by decide, by decide⟩, _, _, rfl, rfl, _, _, rfl, rfl, ⟨by decide, by decide, tail _⟩, _, _, rfl, rfl, m2, (by show 3 ≤ sizeLine; decide), fun p hp => ?_⟩
      exact kk p _ hp (same_new hp) ⟨_, _, _, upd_same, by split <;> omega⟩
abbrev CPot (P : Program) (w : World) (K : PySem.W.Frag) (mg : Str → Option Value) (base : Heap) : Prop := Cal P w K mg base 1 "_law_pot" ["_law_script", "_law_k"] (spPot K)

def spTake : Sp := fun vs H Q _ => ∃ (p : Addr) (n : Int), vs = [.ref p, .int n] ∧ PotAt H p ∧ 0 < n ∧ n < 1073741824 ∧ ∀ (d : Int) (H' : Hp), 0 ≤ d → d < n → But p H H' → PotAt H' p → Q (.int d) H'
theorem ok_take {f : Addr} {fd : FuncData} (F : Fun K "_law_take" "_law_take" T.lTake f fd) (Z : Txt K mg CR CD) : FnOk P w K mg base CX0 1 f fd ["_law_pot_here", "_law_many"] spTake := by
  refine F.ok T.lTakeS (fun vs H Q E h => ?_) (fun cdv A outer s H vs Q E hr h => ?_)
  · obtain ⟨p, n, rfl, _⟩ := h
    rfl
  · obtain ⟨p, n, rfl, ⟨x, y, z, hp, hx⟩, n0, n1, k⟩ := h
    have nd := T.lTakeS.nd
    refine ⟨_, pss_cons (ps_if (pt_cmpR op_gt (pe_ix ix_list (pv 0) pe_int (fun _ _ => rfl)) pe_int (nomark _))
        (pss_cons (ps_asg (pe_callB call_divmod (by rfl) Z.nDivmod (by decide +kernel) (pa_cons (pe_ix ix_list (pv 0) pe_int (fun _ _ => rfl)) (pa_cons (pv 1) pa_nil)))
          (pg_tup rfl (pgs_cons (pg_sub (pv 0) pe_int set_list) (pgs_cons (pg_name (i := 2) nd rfl (Or.inl rfl)) pgs_nil)))) (pss_one (ps_ret (pv 2)))) pss_nil)
      (pss_cons (ps_asg (pe_op op_add (pe_ix ix_list (pv 0) pe_int (fun _ _ => rfl)) pe_int) (pg_sub (pv 0) pe_int set_list))
      (pss_cons (ps_asg (pe_op op_modN (pe_op op_add (pe_op op_mul (pe_ix ix_list (pv 0) pe_int (fun _ _ => rfl)) pe_int) (pe_op op_mul pe_int (pe_ix ix_list (pv 0) pe_int (fun _ _ => rfl)))) pe_int) (pg_sub (pv 0) pe_int set_list))
      (pss_one (ps_ret (pe_op op_modN (pe_op op_fdiv (pe_op op_modN (pe_op op_mul (pe_ix ix_list (pv 0) pe_int (fun _ _ => rfl)) (pe_ix ix_list (pv 0) pe_int (fun _ _ => rfl))) pe_int) pe_int) (pv 1)))))), ?_⟩
    have at0 : ∀ {u v w : V}, atI [u, v, w] (0 : Int) = some u := fun {u v w} => rfl
    have at1 : ∀ {u v w : V}, atI [u, v, w] (1 : Int) = some v := fun {u v w} => rfl
    have at2 : ∀ {u v w : V}, atI [u, v, w] (2 : Int) = some w := fun {u v w} => rfl
    refine ⟨_, rfl, p, _, _, _, rfl, rfl, SqL.of hp, at0, _, _, rfl, rfl, _, rfl, ?_⟩
    refine ite_bool (fun hk => ?_) (fun hk => ?_)
    · refine ⟨_, rfl, p, _, _, _, rfl, rfl, SqL.of hp, at0, _, rfl, x, n, rfl, ⟨n0, n1⟩, fun q hq => ⟨q, _, rfl, SqT.of upd_same, rfl, _, _, rfl, _, rfl, p, _, _, 0, rfl, rfl, (same_new hq) _ _ hp, rfl, _, _, rfl, rfl, _, rfl, ?_⟩⟩
      refine k (x % n) _ (Int.emod_nonneg x (by omega)) (Int.emod_lt_of_pos x n0) (((But.refl p H).same (same_new hq)).put) ⟨x / n, y, z, upd_same, Int.ediv_nonneg hx (by omega)⟩
    · refine ⟨_, rfl, p, _, _, _, rfl, rfl, SqL.of hp, at2, _, _, rfl, rfl, _, rfl, p, _, _, 2, rfl, rfl, hp, rfl, ?_⟩
      have b1 : But p H (upd H p (.lst [.int x, .int y, .int (z + 1)])) := (But.refl p H).put
      have g1 : upd H p (.lst [.int x, .int y, .int (z + 1)]) p = some (.lst [.int x, .int y, .int (z + 1)]) := upd_same
      change tSeq _ _ _ _ (upd H p (.lst [.int x, .int y, .int (z + 1)]))
      generalize upd H p (.lst [.int x, .int y, .int (z + 1)]) = H1 at b1 g1
      refine ⟨_, rfl, p, _, _, _, rfl, rfl, SqL.of g1, at1, _, _, rfl, rfl, .inr ⟨by decide, by decide⟩, _, rfl, p, _, _, _, rfl, rfl, SqL.of g1, at2, _, _, rfl, rfl, .inl ⟨by decide, by decide⟩, _, _, rfl, rfl, _, _, rfl, rfl, m1, ?_⟩
      refine ⟨_, rfl, p, _, _, 1, rfl, rfl, g1, rfl, ?_⟩
      generalize hy : (y * 48271 + 11213 * (z + 1)).fmod 2147483629 = y'
      have hy0 : 0 ≤ y' ∧ y' < 2147483629 := by
        rw [← hy, Int.fmod_eq_emod_of_nonneg _ (by decide)]
        exact ⟨Int.emod_nonneg _ m1, Int.emod_lt_of_pos _ (by decide)⟩
      refine ⟨_, rfl, p, _, _, _, rfl, rfl, SqL.of upd_same, at1, _, rfl, p, _, _, _, rfl, rfl, SqL.of upd_same, at1, _, _, rfl, rfl, .inl ⟨by omega, by omega⟩, _, _, rfl, rfl, m3, _, _, rfl, rfl, ⟨by decide, by decide⟩, _, rfl, _, _, rfl, rfl, by omega, ?_⟩
      refine k _ _ ?_ ?_ b1.put ⟨x, _, z + 1, upd_same, hx⟩
      · exact Int.fmod_nonneg_of_pos _ n0
      · exact Int.fmod_lt_of_pos _ n0
abbrev CTake (P : Program) (w : World) (K : PySem.W.Frag) (mg : Str → Option Value) (base : Heap) : Prop := Cal P w K mg base 1 "_law_take" ["_law_pot_here", "_law_many"] spTake

def spGreat : Sp := fun vs H Q _ => ∃ (p : Addr) (n : Int), vs = [.ref p, .int n] ∧ PotAt H p ∧ 0 < n ∧ ∀ (d : Int) (H' : Hp), 0 ≤ d → d < n → But p H H' → PotAt H' p → Q (.int d) H'
theorem ok_great {f : Addr} {fd : FuncData} (F : Fun K "_law_great" "_law_great" T.lGreat f fd) (Z : Txt K mg CR CD) (cT : CTake P w K mg base) : FnOk P w K mg base CX0 2 f fd ["_law_pot_here", "_law_bound"] spGreat := by
  refine F.ok T.lGreatS (fun vs H Q E h => ?_) (fun cdv A outer s H vs Q E hr h => ?_)
  · obtain ⟨p, n, rfl, _⟩ := h
    rfl
  · obtain ⟨p, n, rfl, pot, n0, k⟩ := h
    have nd := T.lGreatS.nd
    refine ⟨_, pss_cons (ps_set (i := 2) nd rfl (Or.inl rfl) pe_int)
      (pss_cons (ps_for PassesOwn.never rfl (pi_range1 rfl Z.nRange (pa_cons pe_int pa_nil)) (pg_name (i := 3) nd rfl (Or.inl rfl))
        (pss_one (ps_set (i := 2) nd rfl (Or.inl rfl) (pe_op op_add (pe_op op_mul (pv 2) (pe_op op_pow pe_int pe_int)) (pe_cal cT hr rfl (pa_cons (pv 0) (pa_cons (pe_op op_pow pe_int pe_int) pa_nil)))))))
      (pss_one (ps_ret (pe_op op_modN (pv 2) (pv 1))))), ?_⟩
    refine ⟨7, rfl, by decide, by decide, for_range (n := 7) (fun i σ H' => ∃ v w, σ = [some (.ref p), some (.int n), some (.int v), w] ∧ But p H H' ∧ PotAt H' p) ⟨0, none, rfl, But.refl _ _, pot⟩ ?_ ?_⟩
    · rintro i σ H1 hi ⟨v, w, rfl, b1, pot1⟩
      refine ⟨_, rfl, _, _, rfl, rfl, ⟨by decide, by decide, by decide⟩, _, _, rfl, rfl, .inr ⟨by decide, by decide⟩, _, rfl, _, _, rfl, rfl, ⟨by decide, by decide, by decide⟩, p, _, rfl, pot1, by decide, by decide, fun d H2 d0 d1 b2 pot2 => ⟨_, _, rfl, rfl, _, _, rfl, b1.trans b2, pot2⟩⟩
    · rintro σ H1 ⟨v, w, rfl, b1, pot1⟩
      exact ⟨_, rfl, _, rfl, _, _, rfl, rfl, by omega, k _ _ (Int.fmod_nonneg_of_pos _ n0) (Int.fmod_lt_of_pos _ n0) b1 pot1⟩
abbrev CGreat (P : Program) (w : World) (K : PySem.W.Frag) (mg : Str → Option Value) (base : Heap) : Prop := Cal P w K mg base 2 "_law_great" ["_law_pot_here", "_law_bound"] spGreat

theorem joinL_flat (ls : List (List Nat)) : TL.joinL [] ls = ls.flatten := by
  induction ls with
  | nil => rfl
  | cons a r ih =>
    cases r with
    | nil => simp [TL.joinL]
    | cons b r' =>
      show a ++ ([] ++ TL.joinL [] (b :: r')) = _
      rw [ih]
      simp
/-- one of the two signs -/
def IsBit (z : Str) : Prop := z = ⟨#[48]⟩ ∨ z = ⟨#[49]⟩
theorem okZ_join {zs : List Str} (h : ∀ z ∈ zs, IsBit z) (h1 : 1 ≤ zs.length) (h7 : zs.length ≤ 7) : OkZ (PySem.Txt.join "" zs) := by
  have e : (PySem.Txt.join "" zs).cps.toList = (zs.map fun z => z.cps.toList).flatten := by
    rw [TL.join_eq]
    have := TL.tl_join "" zs
    rw [show TL.tl "" = [] from rfl, joinL_flat] at this
    exact this
  have l : ((zs.map fun z => z.cps.toList).flatten).length = zs.length ∧ ∀ c ∈ (zs.map fun z => z.cps.toList).flatten, c = 48 ∨ c = 49 := by
    clear e h1 h7
    induction zs with
    | nil => exact ⟨rfl, fun c hc => by cases hc⟩
    | cons a r ih =>
      obtain ⟨i1, i2⟩ := ih fun z hz => h z (List.mem_cons_of_mem _ hz)
      have ha : a.cps.toList.length = 1 ∧ ∀ c ∈ a.cps.toList, c = 48 ∨ c = 49 := by
        rcases h a (List.mem_cons_self ..) with rfl | rfl
        · exact ⟨rfl, fun c hc => by simp at hc; exact .inl hc⟩
        · exact ⟨rfl, fun c hc => by simp at hc; exact .inr hc⟩
      refine ⟨?_, fun c hc => ?_⟩
      · rw [List.map_cons, List.flatten_cons, List.length_append, i1, ha.1, List.length_cons]
        omega
      · rw [List.map_cons, List.flatten_cons] at hc
        rcases List.mem_append.mp hc with q | q
        · exact ha.2 c q
        · exact i2 c q
  have len : (PySem.Txt.join "" zs).length = zs.length := by rw [← cps_len, e, l.1]
  exact ⟨by rw [len]; exact h1, by rw [len]; exact h7, by rw [e]; exact l.2⟩

def spBits : Sp := fun vs H Q _ => ∃ p : Addr, vs = [.ref p] ∧ PotAt H p ∧ ∀ (z : Str) (H' : Hp), OkZ z → But p H H' → PotAt H' p → Q (.str z) H'
theorem ok_bits {f : Addr} {fd : FuncData} (F : Fun K "_law_bits" "_law_bits" T.lBits f fd) (Z : Txt K mg CR CD) (cT : CTake P w K mg base) : FnOk P w K mg base CX0 2 f fd ["_law_pot_here"] spBits := by
  refine F.ok T.lBitsS (fun vs H Q E h => ?_) (fun cdv A outer s H vs Q E hr h => ?_)
  · obtain ⟨p, rfl, _⟩ := h
    rfl
  · obtain ⟨p, rfl, pot, k⟩ := h
    have nd := T.lBitsS.nd
    refine ⟨_, pss_one (ps_ret (pe_join pe_str (pe_lc (own := [("_law_k", 1)]) (g := gName 1) (tt := tYes) rfl nd (pi_range1 rfl Z.nRange (pa_cons (pe_op op_add pe_int (pe_cal cT hr rfl (pa_cons (pv 0) (pa_cons pe_int pa_nil)))) pa_nil))
      (blkOk_by (N := T.lBitsN) (sc := defScope T.lBits) (by decide +kernel)) (fun _ _ _ _ _ => pg_name (i := 1) nd rfl (Or.inl rfl)) (fun _ _ _ _ _ => pts_nil)
      (fun _ _ _ _ _ => pe_ix ix_str pe_str (pe_cal cT hr rfl (pa_cons (pv 0) (pa_cons pe_int pa_nil))) (fun _ _ => rfl))))), ?_⟩
    refine ⟨⟨_, rfl⟩, _, rfl, p, _, rfl, pot, by decide, by decide, fun d H1 d0 d1 b1 pot1 => ⟨1, d, rfl, rfl, 1 + d, rfl, by omega, by omega, fun D hD => ?_⟩⟩
    have npD : p ≠ D := by
      obtain ⟨x, y, z, e, _⟩ := pot1
      exact ne_of_none e hD
    have nDH : ∀ {b : Addr} {o : HO}, H b = some o → b ≠ p → b ≠ D := fun {b o} e n => ne_of_none (b1 _ _ e n) hD
    refine lc_range (lo := 0) (n := (1 + d).toNat) (fun i H' => But p H H' ∧ PotAt H' p ∧ ∃ zs : List Str, H' D = some (.lst (zs.map V.str)) ∧ zs.length = i ∧ ∀ z ∈ zs, IsBit z) ?_ ?_ ?_
    · refine ⟨fun b o e n => ?_, pot1.same (same_new hD), [], upd_same, rfl, fun z hz => by cases hz⟩
      rw [upd_ne (nDH e n)]
      exact b1 b o e n
    · rintro i H2 hi ⟨b2, pot2, zs, hzs, hl, hz⟩
      refine ⟨rfl, _, rfl, p, _, rfl, pot2, by decide, by decide, fun d' H3 d0' d1' b3 pot3 => ?_⟩
      have hc : ∃ c, atI ("01" : Str).cps.toList d' = some c ∧ IsBit ⟨#[c]⟩ := by
        have : d' = 0 ∨ d' = 1 := by omega
        rcases this with rfl | rfl
        · exact ⟨48, rfl, .inl rfl⟩
        · exact ⟨49, rfl, .inr rfl⟩
      obtain ⟨c, hc1, hc2⟩ := hc
      refine ⟨_, _, c, rfl, rfl, by decide, hc1, _, b3 _ _ hzs npD.symm, ?_, ?_, ?_, zs ++ [⟨#[c]⟩], ?_, ?_, ?_⟩
      · rw [List.length_map]; exact small1000 (by omega)
      · intro b o e n
        rw [upd_ne (nDH e n)]
        exact b3 _ _ (b2 b o e n) n
      · obtain ⟨x, y, z, e, h0⟩ := pot3
        exact ⟨x, y, z, by rw [upd_ne npD]; exact e, h0⟩
      · rw [upd_same, List.map_append]
        rfl
      · rw [List.length_append, hl]
        rfl
      · intro z hz'
        rcases List.mem_append.mp hz' with q | q
        · exact hz z q
        · rw [List.mem_singleton] at q
          subst q
          exact hc2
    · rintro H2 ⟨b2, pot2, zs, hzs, hl, hz⟩
      have hlen : 1 ≤ zs.length ∧ zs.length ≤ 7 := by omega
      have ok := okZ_join hz hlen.1 hlen.2
      refine ⟨_, D, zs, rfl, rfl, .inl (SqL.of hzs), ?_, k _ _ ok b2 pot2⟩
      have h2 : (zs.map (·.length)).sum ≤ zs.length * 1 := sum_le fun x hx => by
        rcases hz x hx with rfl | rfl
        · exact Nat.le_refl _
        · exact Nat.le_refl _
      have h4 : ("" : Str).length = 0 := rfl
      rw [h4]
      omega
abbrev CBits (P : Program) (w : World) (K : PySem.W.Frag) (mg : Str → Option Value) (base : Heap) : Prop := Cal P w K mg base 2 "_law_bits" ["_law_pot_here"] spBits

theorem and_join {k : Bool} {A B R' : Prop} (hrest : R') (h1 : k = true → R' → A) : if k = true then A else (if false = true then B else R') := by
  cases k with
  | true => exact iteT (h1 rfl hrest)
  | false => exact iteF (iteF hrest)
def spNear : Sp := fun vs H Q _ => ∃ (p : Addr) (lo : Int) (hi : Option Int), vs = [.ref p, .int lo, optV hi] ∧ PotAt H p ∧ lo < 3 * 10 ^ 50 ∧ (∀ h, hi = some h → h < 3 * 10 ^ 50) ∧
  ∀ (d : Int) (H' : Hp), 0 ≤ d → d < 10 ^ 51 → But p H H' → PotAt H' p → Q (.int d) H'
theorem ok_near {f : Addr} {fd : FuncData} (F : Fun K "_law_near" "_law_near" T.lNear f fd) (Z : Txt K mg CR CD) (cT : CTake P w K mg base) (cG : CGreat P w K mg base) : FnOk P w K mg base CX0 3 f fd ["_law_pot_here", "_law_low", "_law_high"] spNear := by
  refine F.ok T.lNearS (fun vs H Q E h => ?_) (fun cdv A outer s H vs Q E hr h => ?_)
  · obtain ⟨p, lo, hi, rfl, _⟩ := h
    rfl
  · obtain ⟨p, lo, hi, rfl, pot, hlo, hhi, k⟩ := h
    have nd := T.lNearS.nd
    have hr1 : Room 1 _ := hr.mono (by decide)
    refine ⟨_, pss_cons (ps_set (i := 3) nd rfl (Or.inl rfl) (pe_cal cT hr1 rfl (pa_cons (pv 0) (pa_cons pe_int pa_nil))))
      (pss_cons (ps_if (pt_cmpR op_eq (pv 3) pe_int (nomark _)) (pss_one (ps_ret (pe_cal cT hr1 rfl (pa_cons (pv 0) (pa_cons pe_int pa_nil))))) pss_nil)
      (pss_cons (ps_if (PW.pt (pw_and (pt_cmpR op_eq (pv 3) pe_int (nomark _)) (pw_and1 (pt_cmpR op_notN (pv 2) pe_non (nomark _)))))
        (pss_one (ps_ret (pe_callB (call_max2 rfl) (by rfl) Z.nMax (by decide +kernel) (pa_cons pe_int (pa_cons (pe_op op_sub (pe_op op_add (pv 2) pe_int) (pe_cal cT hr1 rfl (pa_cons (pv 0) (pa_cons pe_int pa_nil)))) pa_nil))))) pss_nil)
      (pss_cons (ps_if (pt_cmpR op_eq (pv 3) pe_int (nomark _)) (pss_one (ps_ret (pe_cal cG hr rfl (pa_cons (pv 0) (pa_cons (pe_op op_pow pe_int pe_int) pa_nil))))) pss_nil)
      (pss_one (ps_ret (pe_callB (call_max2 rfl) (by rfl) Z.nMax (by decide +kernel) (pa_cons pe_int (pa_cons (pe_op op_add (pe_op op_sub (pv 1) pe_int) (pe_cal cT hr1 rfl (pa_cons (pv 0) (pa_cons pe_int pa_nil)))) pa_nil)))))))), ?_⟩
    refine ⟨_, rfl, p, _, rfl, pot, by decide, by decide, fun way H1 w0 w1 b1 pot1 => ?_⟩
    refine ⟨_, rfl, rfl, _, rfl, ite_bool (fun _ => ?_) (fun _ => ?_)⟩
    · exact ⟨_, rfl, p, _, rfl, pot1, by decide, by decide, fun d H2 d0 d1 b2 pot2 => k d H2 d0 (by omega) (b1.trans b2) pot2⟩
    refine ⟨_, rfl, rfl, _, rfl, and_join ?_ (fun _ rest => ?_)⟩
    · refine ⟨_, rfl, rfl, _, rfl, ite_bool (fun _ => ?_) (fun _ => ?_)⟩
      · exact ⟨_, rfl, _, _, rfl, rfl, ⟨by decide, by decide, by decide⟩, p, _, rfl, pot1, by decide +kernel, fun d H2 d0 d1 b2 pot2 => k d H2 d0 (Int.lt_trans d1 (by decide +kernel)) (b1.trans b2) pot2⟩
      · refine ⟨_, rfl, _, _, rfl, rfl, _, rfl, p, _, rfl, pot1, by decide, by decide, fun d H2 d0 d1 b2 pot2 => ⟨_, _, rfl, rfl, _, _, rfl, ?_⟩⟩
        refine k _ H2 ?_ ?_ (b1.trans b2) pot2
        · split <;> omega
        · split <;> omega
    · cases hi with
      | none => exact ⟨_, rfl, rfl, false, rfl, iteF rest⟩
      | some h =>
        have := hhi h rfl
        refine ⟨_, rfl, rfl, true, rfl, iteT ⟨_, rfl, h, _, rfl, rfl, _, rfl, p, _, rfl, pot1, by decide, by decide, fun d H2 d0 d1 b2 pot2 => ⟨_, _, rfl, rfl, _, _, rfl, ?_⟩⟩⟩
        refine k _ H2 ?_ ?_ (b1.trans b2) pot2
        · split <;> omega
        · split <;> omega
abbrev CNear (P : Program) (w : World) (K : PySem.W.Frag) (mg : Str → Option Value) (base : Heap) : Prop := Cal P w K mg base 3 "_law_near" ["_law_pot_here", "_law_low", "_law_high"] spNear
end
end L2
/-! The walk, part 10: the law's few, some, has. -/
namespace L2
open PySem PySem.Spec PyProof.Rows Fa

/-- a block with a word said between its first statement and the rest -/
def tCut (t u : TS) : TS := fun D σ H => ∃ Pj : St → Hp → Prop, t { D with nx := Pj } σ H ∧ ∀ σ' H', Pj σ' H' → u D σ' H'
theorem pss_cut {X : Cx} {st : Stmt} {rest : List Stmt} {t u : TS} (h1 : PS X st t) (h2 : PSs X rest u) : PSs X (st :: rest) (tCut t u) := by
  refine ⟨fun pins s σ H D I h => ?_⟩
  obtain ⟨Pj, ha, hb⟩ := h
  refine wpAny_execs_cons (thn (h1.run pins s σ H { D with nx := Pj } I ha) fun f s1 q => ?_)
  cases f with
  | next =>
    obtain ⟨σ', H', I', q⟩ := q
    exact h2.run pins s1 σ' H' D I' (hb _ _ q)
  | ret v => exact q
  | brk => exact q
  | cont => exact q

def SomeP (p : Addr) (H : Hp) (t : Addr) (d : SD) : Prop := ∃ g m, H t = some (.tup [.str d.z, .int d.lo, optV d.hi, .ref g, .ref m]) ∧ H g = some (.lst (d.gone.map V.int)) ∧ H m = some (.lst (d.more.map V.int)) ∧ g ≠ p ∧ m ≠ p
theorem SomeP.at {p : Addr} {H : Hp} {t : Addr} {d : SD} (h : SomeP p H t d) : SomeAt H t d := by
  obtain ⟨g, m, h1, h2, h3, _⟩ := h
  exact ⟨g, m, h1, h2, h3⟩
theorem SomeP.but {p : Addr} {H H' : Hp} {t : Addr} {d : SD} (b : But p H H') (pot : PotAt H p) (h : SomeP p H t d) : SomeP p H' t d := by
  obtain ⟨g, m, h1, h2, h3, n1, n2⟩ := h
  obtain ⟨x, y, z, e, _⟩ := pot
  exact ⟨g, m, b _ _ h1 (ne_of h1 e (by intro z; cases z)), b _ _ h2 n1, b _ _ h3 n2, n1, n2⟩
theorem Same.but' {p : Addr} {H H' : Hp} (s : Same H H') : But p H H' := fun b o e _ => s b o e

section
variable {P : Program} {w : World} {K : PySem.W.Frag} {mg : Str → Option Value} {base : Heap} {CR CD : Addr}

def spFew : Sp := fun vs H Q _ => ∃ (p t : Addr) (lo : Int) (hi : Option Int) (xs : List Int), vs = [.ref p, .int lo, optV hi, .ref t] ∧ PotAt H p ∧ lo < 3 * 10 ^ 50 ∧ (∀ h, hi = some h → h < 3 * 10 ^ 50) ∧
  H t = some (.lst (xs.map V.int)) ∧ xs.length ≤ 100 ∧ t ≠ p ∧ ∀ (ys : List Int) (f : Addr) (H' : Hp), OkL ys → (∀ x ∈ ys, x ∉ xs) → But p H H' → PotAt H' p → H' f = some (.lst (ys.map V.int)) → f ≠ p → Q (.ref f) H'
theorem ok_few {f : Addr} {fd : FuncData} (F : Fun K "_law_few" "_law_few" T.lFew f fd) (Z : Txt K mg CR CD) (cT : CTake P w K mg base) (cN : CNear P w K mg base) : FnOk P w K mg base CX0 4 f fd ["_law_pot_here", "_law_low", "_law_high", "_law_taken"] spFew := by
  refine F.ok T.lFewS (fun vs H Q E h => ?_) (fun cdv A outer s H vs Q E hr h => ?_)
  · obtain ⟨p, t, lo, hi, xs, rfl, _⟩ := h
    rfl
  · obtain ⟨p, t, lo, hi, xs, rfl, pot, hlo, hhi, ht, hxl, ntp, k⟩ := h
    have nd := T.lFewS.nd
    have hr1 : Room 1 _ := hr.mono (by decide)
    refine ⟨_, pss_cons (ps_set (i := 4) nd rfl (Or.inl rfl) (pe_lst pa_nil))
      (pss_cons (ps_for PassesOwn.never rfl (pi_range1 rfl Z.nRange (pa_cons (pe_ix ix_list (pe_lst (pa_cons pe_int (pa_cons pe_int (pa_cons pe_int (pa_cons pe_int (pa_cons pe_int (pa_cons pe_int (pa_cons pe_int (pa_cons pe_int pa_nil))))))))) (pe_cal cT hr1 rfl (pa_cons (pv 0) (pa_cons pe_int pa_nil))) (fun _ _ => rfl)) pa_nil)) (pg_name (i := 5) nd rfl (Or.inl rfl))
        (pss_cons (ps_set (i := 6) nd rfl (Or.inl rfl) (pe_cal cN hr rfl (pa_cons (pv 0) (pa_cons (pv 1) (pa_cons (pv 2) pa_nil)))))
        (pss_one (ps_if (pt_cmpR op_notIn_seq (pv 6) (pe_op op_cat (pv 4) (pv 3)) (by rfl)) (pss_one (ps_expr (pe_bm PySem.F.plainAttrs_list PySem.F.slot_list_append PySem.F.type_list_append mt_append (pv 4) (pa_cons (pv 6) pa_nil)))) pss_nil))))
      (pss_one (ps_ret (pv 4)))), ?_⟩
    refine ⟨Nat.zero_le _, fun f hf => ?_⟩
    have s1 : Same H (upd H f (.lst [])) := same_new hf
    have g1 : upd H f (.lst []) f = some (.lst ([] : List V)) := upd_same
    generalize upd H f (.lst []) = H1 at s1 g1
    have nfp : f ≠ p := by
      obtain ⟨x, y, z, e, _⟩ := pot
      exact (ne_of_none e hf).symm
    have nH : ∀ {b : Addr} {o : HO}, H b = some o → b ≠ f := fun {b o} e => ne_of_none e hf
    refine ⟨(by show 8 ≤ sizeLine; decide), fun l hl => ?_⟩
    have s2 : Same H1 (upd H1 l (.lst [.int 0, .int 0, .int 1, .int 2, .int 3, .int 5, .int 8, .int 8])) := same_new hl
    have g2 : upd H1 l (.lst [.int 0, .int 0, .int 1, .int 2, .int 3, .int 5, .int 8, .int 8]) l = some (.lst [.int 0, .int 0, .int 1, .int 2, .int 3, .int 5, .int 8, .int 8]) := upd_same
    generalize upd H1 l (.lst [.int 0, .int 0, .int 1, .int 2, .int 3, .int 5, .int 8, .int 8]) = H2 at s2 g2
    have pot2 : PotAt H2 p := (pot.same s1).same s2
    have nlp : l ≠ p := by
      obtain ⟨x, y, z, e, _⟩ := pot.same s1
      exact (ne_of_none e hl).symm
    refine ⟨_, rfl, p, _, rfl, pot2, by decide, by decide, fun d H3 d0 d1 b3 pot3 => ?_⟩
    have hc : ∃ c : Int, atI [V.int 0, .int 0, .int 1, .int 2, .int 3, .int 5, .int 8, .int 8] d = some (.int c) ∧ 0 ≤ c ∧ c ≤ 8 := by
      have : d = 0 ∨ d = 1 ∨ d = 2 ∨ d = 3 ∨ d = 4 ∨ d = 5 ∨ d = 6 ∨ d = 7 := by omega
      rcases this with rfl | rfl | rfl | rfl | rfl | rfl | rfl | rfl
      all_goals exact ⟨_, rfl, by decide, by decide⟩
    obtain ⟨c, hc1, c0, c8⟩ := hc
    refine ⟨l, _, _, _, rfl, rfl, SqL.of (b3 _ _ g2 nlp), hc1, c, rfl, by omega, by omega, ?_⟩
    refine for_range (n := c.toNat) (fun i σ H' => ∃ v u, σ = [some (.ref p), some (.int lo), some (optV hi), some (.ref t), some (.ref f), v, u] ∧ But p H H' ∧ PotAt H' p ∧ ∃ ys : List Int, H' f = some (.lst (ys.map V.int)) ∧ OkL ys ∧ (∀ x ∈ ys, x ∉ xs) ∧ ys.length ≤ i)
      ⟨none, none, rfl, ((s1.tr s2).but').trans b3, pot3, [], b3 _ _ (s2 _ _ g1) nfp, ⟨fun x hx => (by cases hx), fun x hx => (by cases hx), List.nodup_nil, Nat.zero_le _⟩, fun x hx => (by cases hx), Nat.le_refl _⟩ ?_ ?_
    · rintro i σ H4 hix ⟨v, u, rfl, b4, pot4, ys, hys, oky, disj, hyl⟩
      refine ⟨_, rfl, _, rfl, _, rfl, p, lo, hi, rfl, pot4, hlo, hhi, fun x H5 x0 x1 b5 pot5 => ?_⟩
      have hy5 := b5 _ _ hys nfp
      have ht5 := b5 _ _ (b4 _ _ ht ntp) ntp
      refine ⟨_, rfl, _, rfl, _, rfl, f, t, _, _, rfl, rfl, hy5, ht5, ?_, fun n hn => ?_⟩
      · rw [List.length_map, List.length_map]; exact Nat.le_of_lt (small1000 (by omega))
      have s6 : Same H5 (upd H5 n (.lst (ys.map V.int ++ xs.map V.int))) := same_new hn
      have g6 : upd H5 n (.lst (ys.map V.int ++ xs.map V.int)) n = some (.lst ((ys ++ xs).map V.int)) := by rw [upd_same, List.map_append]
      generalize upd H5 n (.lst (ys.map V.int ++ xs.map V.int)) = H6 at s6 g6
      refine ⟨n, _, rfl, .inl (SqL.of g6), rfl, flat_ints _, _, rfl, ite_bool (fun hk => ?_) (fun hk => ?_)⟩
      · have hnm : x ∉ ys ++ xs := by
          have hk' : (!inV (V.int x) ((ys ++ xs).map V.int)) = true := hk
          rw [inV_int] at hk'
          simpa using hk'
        refine ⟨_, rfl, .inl ⟨rfl, _, SqL.of (s6 _ _ hy5)⟩, _, rfl, f, _, _, rfl, rfl, s6 _ _ hy5, ?_, _, _, rfl, fun b o e n => ?_, ?_, ys ++ [x], ?_, ?_, ?_, ?_⟩
        · rw [List.length_map]; exact small1000 (by omega)
        · rw [upd_ne (nH e)]
          exact s6 _ _ (b5 _ _ (b4 _ _ e n) n)
        · obtain ⟨x', y', z', e, e0⟩ := pot5.same s6
          exact ⟨x', y', z', by rw [upd_ne nfp.symm]; exact e, e0⟩
        · rw [upd_same, List.map_append]
          rfl
        · refine ⟨fun y hy => ?_, fun y hy => ?_, ?_, ?_⟩
          · rcases List.mem_append.mp hy with q | q
            · exact oky.nn y q
            · rw [List.mem_singleton] at q; subst q; exact x0
          · rcases List.mem_append.mp hy with q | q
            · exact oky.lt y q
            · rw [List.mem_singleton] at q; subst q; exact x1
          · refine List.nodup_append.mpr ⟨oky.nd, by simp, fun a ha b hb => ?_⟩
            rw [List.mem_singleton] at hb
            subst hb
            intro z
            subst z
            exact hnm (List.mem_append_left _ ha)
          · rw [List.length_append, List.length_singleton]; omega
        · intro y hy
          rcases List.mem_append.mp hy with q | q
          · exact disj y q
          · rw [List.mem_singleton] at q
            subst q
            exact fun z => hnm (List.mem_append_right _ z)
        · rw [List.length_append, List.length_singleton]; omega
      · exact ⟨_, _, rfl, (b4.trans b5).same s6, pot5.same s6, ys, s6 _ _ hy5, oky, disj, by omega⟩
    · rintro σ H4 ⟨v, u, rfl, b4, pot4, ys, hys, oky, disj, hyl⟩
      exact ⟨_, rfl, k ys f H4 oky disj b4 pot4 hys nfp⟩
abbrev CFew (P : Program) (w : World) (K : PySem.W.Frag) (mg : Str → Option Value) (base : Heap) : Prop := Cal P w K mg base 4 "_law_few" ["_law_pot_here", "_law_low", "_law_high", "_law_taken"] spFew

def spSome : Sp := fun vs H Q _ => ∃ p : Addr, vs = [.ref p] ∧ PotAt H p ∧ ∀ (d : SD) (t : Addr) (H' : Hp), OkSD d → d.lo < 10 ^ 50 → (∀ h, d.hi = some h → h < 2 * 10 ^ 50) → But p H H' → PotAt H' p → SomeP p H' t d → Q (.ref t) H'
theorem ok_some {f : Addr} {fd : FuncData} (F : Fun K "_law_some" "_law_some" T.lSome f fd) (Z : Txt K mg CR CD) (cT : CTake P w K mg base) (cB : CBits P w K mg base) (cG : CGreat P w K mg base) (cF : CFew P w K mg base) : FnOk P w K mg base CX0 5 f fd ["_law_pot_here"] spSome := by
  refine F.ok T.lSomeS (fun vs H Q E h => ?_) (fun cdv A outer s H vs Q E hr h => ?_)
  · obtain ⟨p, rfl, _⟩ := h
    rfl
  · obtain ⟨p, rfl, pot, k⟩ := h
    have nd := T.lSomeS.nd
    have hr1 : Room 1 _ := hr.mono (by decide)
    have hr2 : Room 2 _ := hr.mono (by decide)
    have m3' : (3 : Int) ≠ 0 := by decide
    refine ⟨_, pss_cons (ps_set (i := 1) nd rfl (Or.inl rfl) (pe_cal cT hr1 rfl (pa_cons (pv 0) (pa_cons pe_int pa_nil))))
      (pss_cons (ps_set (i := 2) nd rfl (Or.inl rfl) (pe_cal cB hr2 rfl (pa_cons (pv 0) pa_nil)))
      (pss_cons (ps_set (i := 3) nd rfl (Or.inl rfl) pe_int)
      (pss_cut (ps_if (pt_cmpR op_eq (pe_op op_modN (pv 1) pe_int) pe_int (nomark _)) (pss_one (ps_set (i := 3) nd rfl (Or.inl rfl) (pe_cal cT hr1 rfl (pa_cons (pv 0) (pa_cons pe_int pa_nil))))) pss_nil)
      (pss_cut (ps_if (pt_cmpR op_eq (pe_op op_modN (pv 1) pe_int) pe_int (nomark _)) (pss_one (ps_set (i := 3) nd rfl (Or.inl rfl) (pe_cal cG hr2 rfl (pa_cons (pv 0) (pa_cons (pe_op op_pow pe_int pe_int) pa_nil))))) pss_nil)
      (pss_cons (ps_set (i := 4) nd rfl (Or.inl rfl) pe_non)
      (pss_cut (ps_if (pt_cmpR op_eq (pe_op op_fdiv (pv 1) pe_int) pe_int (nomark _)) (pss_one (ps_set (i := 4) nd rfl (Or.inl rfl) (pe_op op_add (pv 3) (pe_cal cT hr1 rfl (pa_cons (pv 0) (pa_cons pe_int pa_nil)))))) pss_nil)
      (pss_cut (ps_if (pt_cmpR op_eq (pe_op op_fdiv (pv 1) pe_int) pe_int (nomark _)) (pss_one (ps_set (i := 4) nd rfl (Or.inl rfl) (pe_op op_add (pv 3) (pe_cal cG hr2 rfl (pa_cons (pv 0) (pa_cons (pe_op op_pow pe_int pe_int) pa_nil)))))) pss_nil)
      (pss_cons (ps_set (i := 5) nd rfl (Or.inl rfl) (pe_cal cF hr rfl (pa_cons (pv 0) (pa_cons (pv 3) (pa_cons (pv 4) (pa_cons (pe_lst pa_nil) pa_nil))))))
      (pss_one (ps_ret (pe_tup (pa_cons (pv 2) (pa_cons (pv 3) (pa_cons (pv 4) (pa_cons (pv 5) (pa_cons (pe_cal cF hr rfl (pa_cons (pv 0) (pa_cons (pv 3) (pa_cons (pv 4) (pa_cons (pv 5) pa_nil))))) pa_nil)))))))))))))))), ?_⟩
    refine ⟨_, rfl, p, _, rfl, pot, by decide, by decide, fun way H1 w0 w1 b1 pot1 => ?_⟩
    refine ⟨_, rfl, p, rfl, pot1, fun z H2 hz b2 pot2 => ?_⟩
    have b02 := b1.trans b2
    let Lo : L2.St → Hp → Prop := fun σ H' => ∃ lo : Int, 0 ≤ lo ∧ lo < 10 ^ 50 ∧ σ = [some (.ref p), some (.int way), some (.str z), some (.int lo), none, none] ∧ But p H H' ∧ PotAt H' p
    let Hi : L2.St → Hp → Prop := fun σ H' => ∃ (lo : Int) (hi : Option Int), 0 ≤ lo ∧ lo < 10 ^ 50 ∧ (∀ h, hi = some h → lo ≤ h ∧ h < 2 * 10 ^ 50) ∧ σ = [some (.ref p), some (.int way), some (.str z), some (.int lo), some (optV hi), none] ∧ But p H H' ∧ PotAt H' p
    refine ⟨Lo, ?_, ?_⟩
    · refine ⟨_, rfl, _, _, rfl, rfl, m3', rfl, _, rfl, ite_bool (fun _ => ?_) (fun _ => ?_)⟩
      · exact ⟨_, rfl, p, _, rfl, pot2, by decide, by decide, fun d H3 d0 d1 b3 pot3 => ⟨d, d0, by omega, rfl, b02.trans b3, pot3⟩⟩
      · exact ⟨0, Int.le_refl _, by decide, rfl, b02, pot2⟩
    rintro σ H3 ⟨lo, l0, l1, rfl, b3, pot3⟩
    refine ⟨Lo, ?_, ?_⟩
    · refine ⟨_, rfl, _, _, rfl, rfl, m3', rfl, _, rfl, ite_bool (fun _ => ?_) (fun _ => ?_)⟩
      · exact ⟨_, rfl, _, _, rfl, rfl, ⟨by decide, by decide, by decide⟩, p, _, rfl, pot3, by decide +kernel, fun d H4 d0 d1 b4 pot4 => ⟨d, d0, d1, rfl, b3.trans b4, pot4⟩⟩
      · exact ⟨lo, l0, l1, rfl, b3, pot3⟩
    clear l0 l1 b3 pot3
    rintro σ H4 ⟨lo, l0, l1, rfl, b4, pot4⟩
    refine ⟨Hi, ?_, ?_⟩
    · refine ⟨_, rfl, _, _, rfl, rfl, ⟨by decide, by decide⟩, rfl, _, rfl, ite_bool (fun _ => ?_) (fun _ => ?_)⟩
      · exact ⟨_, rfl, _, rfl, p, _, rfl, pot4, by decide, by decide, fun d H5 d0 d1 b5 pot5 => ⟨_, _, rfl, rfl, lo, some (lo + d), l0, l1, fun h e => (by cases e; omega), rfl, b4.trans b5, pot5⟩⟩
      · exact ⟨lo, none, l0, l1, fun h e => (by cases e), rfl, b4, pot4⟩
    clear l0 l1 b4 pot4
    rintro σ H5 ⟨lo, hi, l0, l1, hh, rfl, b5, pot5⟩
    refine ⟨Hi, ?_, ?_⟩
    · refine ⟨_, rfl, _, _, rfl, rfl, ⟨by decide, by decide⟩, rfl, _, rfl, ite_bool (fun _ => ?_) (fun _ => ?_)⟩
      · refine ⟨_, rfl, _, rfl, _, _, rfl, rfl, ⟨by decide, by decide, by decide⟩, p, _, rfl, pot5, by decide +kernel, fun d H6 d0 d1 b6 pot6 => ⟨_, _, rfl, rfl, lo, some (lo + d), l0, l1, fun h e => ?_, rfl, b5.trans b6, pot6⟩⟩
        have d1' : d < 10 ^ 49 := d1
        cases e
        omega
      · exact ⟨lo, hi, l0, l1, hh, rfl, b5, pot5⟩
    clear l0 l1 hh b5 pot5
    rintro σ H6 ⟨lo, hi, l0, l1, hh, rfl, b6, pot6⟩
    have hlo3 : lo < 3 * 10 ^ 50 := by omega
    have hhi3 : ∀ h, hi = some h → h < 3 * 10 ^ 50 := fun h e => by have := (hh h e).2; omega
    refine ⟨_, rfl, _, rfl, _, rfl, Nat.zero_le _, fun e he => ?_⟩
    have nep : e ≠ p := by
      obtain ⟨x, y, z, q, _⟩ := pot6
      exact (ne_of_none q he).symm
    refine ⟨p, e, lo, hi, [], rfl, pot6.same (same_new he), hlo3, hhi3, upd_same, by decide, nep, fun gone g H7 ok7 _ b7 pot7 hg ngp => ?_⟩
    refine ⟨_, rfl, _, rfl, _, rfl, _, rfl, _, rfl, _, rfl, _, rfl, _, rfl, p, g, lo, hi, gone, rfl, pot7, hlo3, hhi3, hg, by have := ok7.few; omega, ngp, fun more m H8 ok8 disj b8 pot8 hm nmp => ?_⟩
    refine ⟨(by show 5 ≤ sizeLine; decide), fun t ht => ?_⟩
    refine k ⟨z, lo, hi, gone, more⟩ t _ ⟨hz, l0, hlo3, fun h e => (hh h e).1, fun h e => hhi3 h e, ok7, ok8, disj⟩ l1 (fun h e => (hh h e).2) ?_ (pot8.same (same_new ht)) ⟨g, m, upd_same, (same_new ht) _ _ (b8 _ _ hg ngp), (same_new ht) _ _ hm, ngp, nmp⟩
    exact ((((b6.same (same_new he)).trans b7).trans b8)).same (same_new ht)
abbrev CSome (P : Program) (w : World) (K : PySem.W.Frag) (mg : Str → Option Value) (base : Heap) : Prop := Cal P w K mg base 5 "_law_some" ["_law_pot_here"] spSome
end
end L2
/-! The walk, part 11: the law's has, made, edges. -/
namespace L2
open PySem PySem.Spec PyProof.Rows Fa

def rCatS : R2 := fun x y H Q => ∃ l b xs zs, x = .ref l ∧ y = .ref b ∧ H l = some (.lst xs) ∧ H b = some (.lst zs) ∧ xs.length + zs.length ≤ 1000 ∧ ∀ p H', H p = none → Same H H' → H' p = some (.lst (xs ++ zs)) → Q (.ref p) H'
theorem op_catS {X : Cx} : OpR X (binaryOp .Add) rCatS := by
  intro pins s σ H x y v u Q I rx ry h
  obtain ⟨l, b, xs, zs, e1, e2, h1, h2, hz, q⟩ := h
  exact op_cat pins s σ H x y v u Q I rx ry ⟨l, b, xs, zs, e1, e2, h1, h2, Nat.le_of_lt (small1000 hz), fun p hp => q p _ hp (same_new hp) upd_same⟩

section
variable {P : Program} {w : World} {K : PySem.W.Frag} {mg : Str → Option Value} {base : Heap} {CR CD : Addr}

def spLHas : Sp := fun vs H Q _ => ∃ (t : Addr) (d : SD) (x : Int), vs = [.ref t, .int x] ∧ OkZ d.z ∧ SomeAt H t d ∧ Q (.bl (d.has x)) H
theorem ok_lHas {f : Addr} {fd : FuncData} (F : Fun K "_law_has" "_law_has" T.lHas f fd) (Z : Txt K mg CR CD) : FnOk P w K mg base CX0 1 f fd ["_law_some_here", "_law_spot"] spLHas := by
  refine F.ok T.lHasS (fun vs H Q E h => ?_) (fun cdv A outer s H vs Q E hr h => ?_)
  · obtain ⟨t, d, x, rfl, _⟩ := h
    rfl
  · obtain ⟨t, d, x, rfl, hz, ⟨g, m, ht, hg, hm⟩, k⟩ := h
    have nd := T.lHasS.nd
    refine ⟨_, pss_cons (ps_asg (pv 0) (pg_tup rfl (pgs_cons (pg_name (i := 2) nd rfl (Or.inl rfl)) (pgs_cons (pg_name (i := 3) nd rfl (Or.inl rfl)) (pgs_cons (pg_name (i := 4) nd rfl (Or.inl rfl)) (pgs_cons (pg_name (i := 5) nd rfl (Or.inl rfl)) (pgs_cons (pg_name (i := 6) nd rfl (Or.inl rfl)) pgs_nil)))))))
      (pss_cons (ps_if (pt_cmpR op_in_seq (pv 1) (pv 6) (by rfl)) (pss_one (ps_ret pe_bl)) pss_nil)
      (pss_cons (ps_if (PW.pt (pw_or (pt_cmpR op_lt (pv 1) (pv 3) (nomark _)) (pw_or (PW.pt (pw_and (pt_cmpR op_notN (pv 4) pe_non (nomark _)) (pw_and1 (pt_cmpR op_gt (pv 1) (pv 4) (nomark _)))))
          (pw_or1 (pt_cmpR op_in_seq (pv 1) (pv 5) (by rfl)))))) (pss_one (ps_ret pe_bl)) pss_nil)
      (pss_one (ps_ret (pe_cmpR op_eq (pe_ix ix_str (pv 2) (pe_op op_modN (pv 1) (pe_callB call_len_str (by rfl) Z.nLen PySem.boot_len (pa_cons (pv 2) pa_nil))) (fun _ _ => rfl)) pe_str (nomark _)))))), ?_⟩
    have hv : d.has x = (if x ∈ d.more then true else if x < d.lo ∨ above d.hi x = true ∨ x ∈ d.gone then false else bitAt d.z x) := rfl
    rw [hv] at k
    refine ⟨_, rfl, t, _, rfl, SqT.of ht, rfl, _, _, rfl, _, _, rfl, _, _, rfl, _, _, rfl, _, _, rfl, rfl, ?_⟩
    refine ⟨_, rfl, _, rfl, m, _, rfl, .inl (SqL.of hm), rfl, flat_ints _, _, rfl, ?_⟩
    show if inV (V.int x) (d.more.map V.int) = true then _ else _
    rw [inV_int]
    by_cases h1 : x ∈ d.more
    · rw [if_pos h1] at k
      rw [decide_eq_true h1]
      exact iteT k
    rw [if_neg h1] at k
    rw [decide_eq_false h1]
    refine iteF ?_
    refine ⟨_, rfl, _, rfl, _, _, rfl, rfl, _, rfl, ?_⟩
    by_cases h2 : x < d.lo
    · rw [if_pos (Or.inl h2)] at k
      rw [decide_eq_true h2]
      exact iteT (iteT k)
    rw [decide_eq_false h2]
    refine iteF ?_
    have last : above d.hi x = false → if inV (V.int x) (d.gone.map V.int) = true then Q (.bl false) H else Q (.bl (bitAt d.z x)) H := fun hb => by
      rw [inV_int]
      by_cases h4 : x ∈ d.gone
      · rw [if_pos (Or.inr (Or.inr h4))] at k
        rw [decide_eq_true h4]
        exact iteT k
      · rw [decide_eq_false h4]
        rw [if_neg (by rintro (q | q | q); exact h2 q; (rw [hb] at q; cases q); exact h4 q)] at k
        exact iteF k
    obtain ⟨c, c1, c2, c3⟩ := sign_at hz x
    have hl : d.z.length ≤ sizeLine := len_line (Nat.le_trans hz.most (by decide))
    have e : decide (V.str ⟨#[c]⟩ = V.str "1") = bitAt d.z x := by
      cases q : bitAt d.z x with
      | true => exact decide_eq_true (c3.mpr q)
      | false => exact decide_eq_false fun z2 => by rw [c3.mp z2] at q; cases q
    rw [← e] at last
    refine ⟨_, rfl, rfl, ?_⟩
    rcases hq : d.hi with _ | h
    · refine ⟨false, rfl, iteF (iteF ⟨_, rfl, _, rfl, g, _, rfl, .inl (SqL.of hg), rfl, flat_ints _, _, rfl, ?_⟩)⟩
      have := last (by rw [hq]; rfl)
      refine ite_bool (fun e => ?_) (fun e => ?_)
      · rw [if_pos (show inV (V.int x) (d.gone.map V.int) = true from e)] at this
        exact this
      · rw [if_neg (by rw [show inV (V.int x) (d.gone.map V.int) = false from e]; exact Bool.false_ne_true)] at this
        exact ⟨_, rfl, _, rfl, _, rfl, _, rfl, hl, _, _, rfl, rfl, (by have := hz.pos; omega), _, _, c, rfl, rfl, hl, (by rw [mod_spot hz]; exact atI_nat c1), rfl, this⟩
    · refine ⟨true, rfl, iteT ⟨_, rfl, _, rfl, x, h, rfl, by first | rfl | (rw [hq]; rfl), _, rfl, ?_⟩⟩
      by_cases h3 : x > h
      · rw [decide_eq_true h3]
        have ab : above d.hi x = true := by rw [hq]; exact decide_eq_true h3
        rw [if_pos (Or.inr (Or.inl ab))] at k
        exact iteT (iteT k)
      · rw [decide_eq_false h3]
        have ab : above d.hi x = false := by rw [hq]; exact decide_eq_false h3
        have := last ab
        refine iteF ⟨_, rfl, _, rfl, g, _, rfl, .inl (SqL.of hg), rfl, flat_ints _, _, rfl, ?_⟩
        refine ite_bool (fun e => ?_) (fun e => ?_)
        · rw [if_pos (show inV (V.int x) (d.gone.map V.int) = true from e)] at this
          exact this
        · rw [if_neg (by rw [show inV (V.int x) (d.gone.map V.int) = false from e]; exact Bool.false_ne_true)] at this
          exact ⟨_, rfl, _, rfl, _, rfl, _, rfl, hl, _, _, rfl, rfl, (by have := hz.pos; omega), _, _, c, rfl, rfl, hl, (by rw [mod_spot hz]; exact atI_nat c1), rfl, this⟩
abbrev CLHas (P : Program) (w : World) (K : PySem.W.Frag) (mg : Str → Option Value) (base : Heap) : Prop := Cal P w K mg base 1 "_law_has" ["_law_some_here", "_law_spot"] spLHas

def spMade (CR CD : Addr) : Sp := fun vs H Q _ => ∃ (t : Addr) (d : SD), vs = [.ref t] ∧ OkSD d ∧ SomeAt H t d ∧ ∀ (d' : SD) (p : Addr) (H' : Hp), Like d d' → Same H H' → DaysAt CR CD H' p d' → H p = none → Q (.ref p) H'
theorem ok_made {f : Addr} {fd : FuncData} (F : Fun K "_law_made" "_law_made" T.lMade f fd) (Z : Txt K mg CR CD) (cR : CRing P w K mg base CR) (cD : CDays P w K mg base CR CD) : FnOk P w K mg base CX0 7 f fd ["_law_some_here"] (spMade CR CD) := by
  refine F.ok T.lMadeS (fun vs H Q E h => ?_) (fun cdv A outer s H vs Q E hr h => ?_)
  · obtain ⟨t, d, rfl, _⟩ := h
    rfl
  · obtain ⟨t, d, rfl, ok, ⟨g, m, ht, hg, hm⟩, k⟩ := h
    have nd := T.lMadeS.nd
    have hr3 : Room 3 _ := hr.mono (by decide)
    refine ⟨_, pss_one (ps_ret (pe_calC cD hr rfl (pa_cons (pe_calC cR hr3 rfl (pa_cons (pe_ix ix_tup (pv 0) pe_int (fun _ _ => rfl)) pa_nil)) (pa_cons (pe_ix ix_tup (pv 0) pe_int (fun _ _ => rfl)) (pa_cons (pe_ix ix_tup (pv 0) pe_int (fun _ _ => rfl))
      (pa_cons (pe_callTy call_list_of (by rfl) Z.nList (by decide +kernel) (pa_cons (pe_ix ix_tup (pv 0) pe_int (fun _ _ => rfl)) pa_nil)) (pa_cons (pe_callTy call_list_of (by rfl) Z.nList (by decide +kernel) (pa_cons (pe_ix ix_tup (pv 0) pe_int (fun _ _ => rfl)) pa_nil)) pa_nil))))))), ?_⟩
    refine ⟨_, rfl, t, _, _, _, rfl, rfl, SqT.of ht, rfl, fun x dx hx hdx ne => ?_⟩
    refine ⟨x, dx, d.z, rfl, ok.z, upd_same, fun H1 e1 hx1 => ⟨rfl, ?_⟩⟩
    have s1 : Same H H1 := Same.made hx hdx e1
    refine ⟨_, rfl, t, _, _, _, rfl, rfl, SqT.of (s1 _ _ ht), rfl, _, rfl, t, _, _, _, rfl, rfl, SqT.of (s1 _ _ ht), rfl, _, rfl, t, _, _, _, rfl, rfl, SqT.of (s1 _ _ ht), rfl, g, _, rfl, .inl (SqL.of (s1 _ _ hg)), fun o ho => ?_⟩
    have s2 : Same H1 (upd H1 o (.lst (d.gone.map V.int))) := same_new ho
    have g2 : upd H1 o (.lst (d.gone.map V.int)) o = some (.lst (d.gone.map V.int)) := upd_same
    generalize upd H1 o (.lst (d.gone.map V.int)) = H2 at s2 g2
    have s12 := s1.tr s2
    refine ⟨_, rfl, t, _, _, _, rfl, rfl, SqT.of (s12 _ _ ht), rfl, m, _, rfl, .inl (SqL.of (s12 _ _ hm)), fun l hl => ?_⟩
    have s3 : Same H2 (upd H2 l (.lst (d.more.map V.int))) := same_new hl
    have g3 : upd H2 l (.lst (d.more.map V.int)) l = some (.lst (d.more.map V.int)) := upd_same
    generalize upd H2 l (.lst (d.more.map V.int)) = H3 at s3 g3
    intro y dy hy hdy ney
    have s4 : Same H3 (upd (upd H3 dy (.own y)) y (.ins CD dy [])) := (same_new hdy).tr (same_new (by rw [upd_ne (Ne.symm ney)]; exact hy))
    refine ⟨y, dy, x, o, l, d, rfl, ok, upd_same, ⟨dx, s4 _ _ (s3 _ _ (s2 _ _ hx1))⟩, s4 _ _ (s3 _ _ g2), s4 _ _ g3, fun d' H5 lk b5 hD => ⟨rfl, ?_⟩⟩
    refine k d' y H5 lk ((s12.tr s3).tr (Same.made hy hdy b5)) hD ((s12.tr s3).free hy)
abbrev CMade (P : Program) (w : World) (K : PySem.W.Frag) (mg : Str → Option Value) (base : Heap) (CR CD : Addr) : Prop := Cal P w K mg base 7 "_law_made" ["_law_some_here"] (spMade CR CD)
end
end L2
/-! The walk, part 12: the law's edges. -/
namespace L2
open PySem PySem.Spec PyProof.Rows Fa

section
variable {P : Program} {w : World} {K : PySem.W.Frag} {mg : Str → Option Value} {base : Heap} {CR CD : Addr}

/-- a list that holds all edges of d and 0, all within the bound -/
structure EdL (d : SD) (ys : List Int) : Prop where
  ed : ∀ y, d.dd.Edge y → y ∈ ys
  zero : 0 ∈ ys
  bd : ∀ y ∈ ys, Bd y
  few : ys.length ≤ 40
def edBase (d : SD) : List Int := [0, d.lo] ++ d.gone ++ d.more ++ (d.gone ++ d.more).map (· + 1)
def edAll (d : SD) : List Int := edBase d ++ (match d.hi with | none => [] | some h => [h + 1])
theorem edAll_ok {d : SD} (ok : OkSD d) : EdL d (edAll d) := by
  refine ⟨fun y hy => ?_, ?_, fun y hy => ?_, ?_⟩
  · unfold edAll edBase
    rcases hy with q | ⟨h, e, q⟩ | ⟨v, hv, q⟩
    · have q' : y = d.lo := q
      subst q'
      simp
    · have e' : d.hi = some h := e
      rw [e']
      subst q
      simp
    · have hv' : v ∈ d.gone ∨ v ∈ d.more := hv
      rcases q with q | q
      · subst q
        rcases hv' with z | z <;> simp [z]
      · subst q
        refine List.mem_append_left _ (List.mem_append_right _ (List.mem_map.mpr ⟨v, List.mem_append.mpr hv', rfl⟩))
  · unfold edAll edBase
    simp
  · unfold edAll edBase at hy
    rcases List.mem_append.mp hy with hy | hy
    · rcases List.mem_append.mp hy with hy | hy
      · rcases List.mem_append.mp hy with hy | hy
        · rcases List.mem_append.mp hy with hy | hy
          · rcases List.mem_cons.mp hy with q | q
            · subst q; exact ⟨Int.le_refl _, by decide⟩
            · rw [List.mem_singleton] at q; subst q; exact ok.bdLo
          · exact (ok.bdIn (List.mem_append_left _ hy)).1
        · exact (ok.bdIn (List.mem_append_right _ hy)).1
      · obtain ⟨v, hv, q⟩ := List.mem_map.mp hy
        have := (ok.bdIn hv).2
        rw [← q]
        exact this
    · cases e : d.hi with
      | none => rw [e] at hy; cases hy
      | some h =>
        rw [e] at hy
        rw [List.mem_singleton] at hy
        subst hy
        exact ok.bdHi e
  · have h1 := ok.gone.few
    have h2 := ok.more.few
    have h3 : (match d.hi with | none => ([] : List Int) | some h => [h + 1]).length ≤ 1 := by
      cases d.hi with
      | none => exact Nat.zero_le _
      | some h => exact Nat.le_refl _
    unfold edAll edBase
    simp only [List.length_append, List.length_map, List.length_cons, List.length_nil]
    omega
theorem EdL.like {d : SD} {xs ys : List Int} (h : EdL d xs) (m : ∀ y, y ∈ ys ↔ y ∈ xs) (l : ys.length ≤ xs.length) : EdL d ys :=
  ⟨fun y hy => (m y).mpr (h.ed y hy), (m 0).mpr h.zero, fun y hy => h.bd y ((m y).mp hy), Nat.le_trans l h.few⟩

def spLEdges : Sp := fun vs H Q _ => ∃ (t : Addr) (d : SD), vs = [.ref t] ∧ OkSD d ∧ SomeAt H t d ∧ ∀ (ys : List Int) (p : Addr) (H' : Hp), EdL d ys → Same H H' → H' p = some (.lst (ys.map V.int)) → Q (.ref p) H'
theorem ok_lEdges {f : Addr} {fd : FuncData} (F : Fun K "_law_edges" "_law_edges" T.lEdges f fd) (Z : Txt K mg CR CD) : FnOk P w K mg base CX0 1 f fd ["_law_some_here"] spLEdges := by
  refine F.ok T.lEdgesS (fun vs H Q E h => ?_) (fun cdv A outer s H vs Q E hr h => ?_)
  · obtain ⟨t, d, rfl, _⟩ := h
    rfl
  · obtain ⟨t, d, rfl, ok, ⟨g, m, ht, hg, hm⟩, k⟩ := h
    have nd := T.lEdgesS.nd
    refine ⟨_, pss_cons (ps_set (i := 1) nd rfl (Or.inl rfl) (pe_op op_catS (pe_op op_catS (pe_op op_catS (pe_lst (pa_cons pe_int (pa_cons (pe_ix ix_tup (pv 0) pe_int (fun _ _ => rfl)) pa_nil))) (pe_ix ix_tup (pv 0) pe_int (fun _ _ => rfl))) (pe_ix ix_tup (pv 0) pe_int (fun _ _ => rfl)))
        (pe_lc (own := [("_law_spot", 2)]) (g := gName 2) (tt := tYes) rfl nd (pi_list (pe_op op_catS (pe_ix ix_tup (pv 0) pe_int (fun _ _ => rfl)) (pe_ix ix_tup (pv 0) pe_int (fun _ _ => rfl)))) (blkOk_by (N := T.lEdgesN) (sc := defScope T.lEdges) (by decide +kernel))
          (fun _ _ _ _ _ => pg_name (i := 2) nd rfl (Or.inl rfl)) (fun _ _ _ _ _ => pts_nil) (fun _ _ _ _ _ => pe_op op_add (pv 2) pe_int))))
      (pss_cut (ps_if (pt_cmpR op_notN (pe_ix ix_tup (pv 0) pe_int (fun _ _ => rfl)) pe_non (nomark _)) (pss_one (ps_expr (pe_bm PySem.F.plainAttrs_list PySem.F.slot_list_append PySem.F.type_list_append mt_append (pv 1) (pa_cons (pe_op op_add (pe_ix ix_tup (pv 0) pe_int (fun _ _ => rfl)) pe_int) pa_nil)))) pss_nil)
      (pss_one (ps_ret (pe_sortedSet rfl Z.nSorted rfl Z.nSet (pv 1) rfl)))), ?_⟩
    have h1 := ok.gone.few
    have h2 := ok.more.few
    refine ⟨_, rfl, t, _, _, _, rfl, rfl, SqT.of ht, rfl, (by show 2 ≤ sizeLine; decide), fun l1 hl1 => ?_⟩
    have s1 : Same H (upd H l1 (.lst [.int 0, .int d.lo])) := same_new hl1
    have g1 : upd H l1 (.lst [.int 0, .int d.lo]) l1 = some (.lst [.int 0, .int d.lo]) := upd_same
    generalize upd H l1 (.lst [.int 0, .int d.lo]) = H1 at s1 g1
    refine ⟨_, rfl, t, _, _, _, rfl, rfl, SqT.of (s1 _ _ ht), rfl, l1, g, _, _, rfl, rfl, g1, s1 _ _ hg, (by rw [List.length_map]; show 2 + _ ≤ 1000; omega), fun l2 H2 _ s2 g2 => ?_⟩
    replace s2 := s1.tr s2
    refine ⟨_, rfl, t, _, _, _, rfl, rfl, SqT.of (s2 _ _ ht), rfl, l2, m, _, _, rfl, rfl, g2, s2 _ _ hm, (by rw [List.length_append, List.length_map, List.length_map]; show 2 + _ + _ ≤ 1000; omega), fun l3 H3 _ s3 g3 => ?_⟩
    replace s3 := s2.tr s3
    refine ⟨_, rfl, t, _, _, _, rfl, rfl, SqT.of (s3 _ _ ht), rfl, _, rfl, t, _, _, _, rfl, rfl, SqT.of (s3 _ _ ht), rfl, g, m, _, _, rfl, rfl, s3 _ _ hg, s3 _ _ hm, (by rw [List.length_map, List.length_map]; omega), fun l4 H4 _ s4 g4 => ?_⟩
    rw [← List.map_append] at g4
    refine ⟨l4, rfl, ⟨_, SqL.of g4⟩, fun D hD => ?_⟩
    refine lc_map (d.gone ++ d.more) (fun x => V.int (x + 1)) (walk_list (xs := (d.gone ++ d.more).map V.int) |> fun w => by rw [List.length_map] at w; exact w) (small1000 (by rw [List.length_append]; omega)) hD (fun H5 s5 => SqL.of (s5 _ _ g4)) ?_ ?_
    · rintro j v x H5 H6 Q2 hv s5 ⟨rfl, hx⟩ kk
      rw [List.getElem?_map, hv] at hx
      cases hx
      exact ⟨rfl, _, rfl, _, _, rfl, rfl, kk _ same_rfl⟩
    intro H5 s5 hL
    refine ⟨l3, D, _, _, rfl, rfl, s5 _ _ (s4 _ _ g3), hL, (by simp only [List.length_append, List.length_map, List.length_cons, List.length_nil]; omega), fun F1 H6 nF5 s6 g6 => ?_⟩
    have e1 : ([V.int 0, V.int d.lo] ++ d.gone.map V.int ++ d.more.map V.int ++ (d.gone ++ d.more).map (fun x => V.int (x + 1))) = (edBase d).map V.int := by
      unfold edBase
      simp [List.map_append, List.map_map, Function.comp]
      rfl
    rw [e1] at g6
    have s06 : Same H H6 := s3.tr (s4.tr (s5.tr s6))
    have nF : H F1 = none := (s3.tr (s4.tr s5)).free nF5
    have lb : (edBase d).length ≤ 40 := by
      unfold edBase
      simp only [List.length_append, List.length_map, List.length_cons, List.length_nil]
      omega
    refine ⟨fun σ H' => σ = [some (.ref t), some (.ref F1), none] ∧ Same H H' ∧ H' F1 = some (.lst ((edAll d).map V.int)), ?_, ?_⟩
    · refine ⟨_, rfl, t, _, _, _, rfl, rfl, SqT.of (s06 _ _ ht), rfl, rfl, _, rfl, ?_⟩
      unfold edAll
      cases hh : d.hi with
      | none => exact iteF ⟨rfl, s06, by rw [List.append_nil]; exact g6⟩
      | some h =>
        refine iteT ⟨_, rfl, .inl ⟨rfl, _, SqL.of g6⟩, _, rfl, t, _, _, _, rfl, rfl, SqT.of (s06 _ _ ht), rfl, h, 1, by rw [hh]; rfl, rfl, F1, _, _, rfl, rfl, g6, ?_, rfl, fun b o e => ?_, ?_⟩
        · rw [List.length_map]; exact small1000 (by omega)
        · rw [upd_ne (ne_of_none e nF)]
          exact s06 _ _ e
        · rw [upd_same, List.map_append]
          rfl
    · rintro σ H7 ⟨rfl, s7, g7⟩
      have ed := edAll_ok ok
      refine ⟨_, rfl, F1, _, rfl, SqL.of g7, by have := ed.few; omega, fun ys p _ hm2 hl2 hp => ?_⟩
      exact k ys p _ (ed.like hm2 hl2) (s7.tr (same_new hp)) upd_same
abbrev CLEdges (P : Program) (w : World) (K : PySem.W.Frag) (mg : Str → Option Value) (base : Heap) : Prop := Cal P w K mg base 1 "_law_edges" ["_law_some_here"] spLEdges
end
end L2
/-! The walk, part 13: the law's pair. -/
namespace L2
open PySem PySem.Spec PyProof.Rows Fa

theorem okZ_of {z : Str} (l : List Nat) (e : z.cps.toList = l) (h1 : 1 ≤ l.length) (h7 : l.length ≤ 7) (hs : ∀ c ∈ l, c = 48 ∨ c = 49) : OkZ z := by
  subst e
  rw [cps_len] at h1 h7
  exact ⟨h1, h7, hs⟩
theorem foldl_app (ls : List (Array Nat)) : ∀ acc : Array Nat, (ls.foldl (· ++ ·) acc).toList = acc.toList ++ (ls.map Array.toList).flatten := by
  induction ls with
  | nil => intro acc; simp
  | cons a r ih =>
    intro acc
    rw [List.foldl_cons, ih, Array.toList_append, List.map_cons, List.flatten_cons, List.append_assoc]
theorem okZ_mul {z : Str} (hz : OkZ z) : OkZ (PySem.Txt.mul z (7 / (z.length : Int))) := by
  have h1 := hz.pos
  have h7 := hz.most
  generalize hn : z.length = n at h1 h7
  have hi : ∃ k : Nat, (7 : Int) / (n : Int) = (k : Int) ∧ 1 ≤ k ∧ n * k ≤ 7 := by
    have : n = 1 ∨ n = 2 ∨ n = 3 ∨ n = 4 ∨ n = 5 ∨ n = 6 ∨ n = 7 := by omega
    rcases this with rfl | rfl | rfl | rfl | rfl | rfl | rfl
    · exact ⟨7, by decide, by decide, by decide⟩
    · exact ⟨3, by decide, by decide, by decide⟩
    · exact ⟨2, by decide, by decide, by decide⟩
    all_goals exact ⟨1, by decide, by decide, by decide⟩
  obtain ⟨k, ek, k1, k7⟩ := hi
  have hl := cps_len z
  rw [hn] at hl
  have lk : ∀ k, ((List.replicate k z.cps.toList).flatten).length = k * n := fun k => by
    induction k with
    | zero => simp
    | succ k ih => rw [List.replicate_succ, List.flatten_cons, List.length_append, ih, hl, Nat.succ_mul]; omega
  rw [ek]
  unfold PySem.Txt.mul
  rw [if_neg (by omega)]
  split
  · exact hz
  · have e : ((List.replicate (k : Int).toNat z.cps).foldl (· ++ ·) #[]).toList = (List.replicate k z.cps.toList).flatten := by
      rw [foldl_app]
      simp
    refine okZ_of _ e ?_ ?_ (fun c hc => ?_)
    · rw [lk k]
      exact Nat.mul_pos (by omega : 0 < k) (by omega : 0 < n)
    · rw [lk k, Nat.mul_comm]
      exact k7
    · obtain ⟨l, hl2, hc2⟩ := List.mem_flatten.mp hc
      rw [List.mem_replicate] at hl2
      rw [hl2.2] at hc2
      exact hz.signs c hc2
theorem okZ_flip {z : Str} (hz : OkZ z) {at_ : Int} (h0 : 0 ≤ at_) (h1 : at_ < (z.length : Int)) {y : Str} (hy : IsBit y) : OkZ (cutS z none (some at_) ++ y ++ cutS z (some (at_ + 1)) none) := by
  obtain ⟨a, rfl⟩ := Int.eq_ofNat_of_zero_le h0
  have hl := cps_len z
  have e1 : (cutS z none (some (a : Int))).cps.toList = z.cps.toList.take a := by
    show ((z.cps.toList.drop (HT.sIx z.length 0 none)).take (HT.sIx z.length z.length (some (a : Int)) - HT.sIx z.length 0 none)).toArray.toList = _
    rw [HT.sIx_none, HT.sIx_nat, List.drop_zero, Nat.sub_zero, show min a z.length = a by omega]
  have e2 : (cutS z (some ((a : Int) + 1)) none).cps.toList = z.cps.toList.drop (a + 1) := by
    show ((z.cps.toList.drop (HT.sIx z.length 0 (some ((a : Int) + 1)))).take (HT.sIx z.length z.length none - HT.sIx z.length 0 (some ((a : Int) + 1)))).toArray.toList = _
    rw [HT.sIx_none, show (a : Int) + 1 = (((a + 1 : Nat)) : Int) by omega, HT.sIx_nat, show min (a + 1) z.length = a + 1 by omega]
    show List.take _ _ = _
    exact List.take_of_length_le (by rw [List.length_drop, hl]; omega)
  have hy1 : y.cps.toList.length = 1 ∧ ∀ c ∈ y.cps.toList, c = 48 ∨ c = 49 := by
    rcases hy with rfl | rfl
    · exact ⟨rfl, fun c hc => by simp at hc; exact .inl hc⟩
    · exact ⟨rfl, fun c hc => by simp at hc; exact .inr hc⟩
  have e : (cutS z none (some (a : Int)) ++ y ++ cutS z (some ((a : Int) + 1)) none).cps.toList = z.cps.toList.take a ++ y.cps.toList ++ z.cps.toList.drop (a + 1) := by
    have := TL.tl_append (cutS z none (some (a : Int)) ++ y) (cutS z (some ((a : Int) + 1)) none)
    have t2 := TL.tl_append (cutS z none (some (a : Int))) y
    show TL.tl _ = _
    rw [this, t2]
    show (cutS z none (some (a : Int))).cps.toList ++ y.cps.toList ++ (cutS z (some ((a : Int) + 1)) none).cps.toList = _
    rw [e1, e2]
  have hm := hz.most
  refine okZ_of _ e ?_ ?_ (fun c hc => ?_)
  · simp only [List.length_append, hy1.1]; omega
  · simp only [List.length_append, hy1.1, List.length_take, List.length_drop, hl]; omega
  · rcases List.mem_append.mp hc with hc | hc
    · rcases List.mem_append.mp hc with hc | hc
      · exact hz.signs c (List.mem_of_mem_take hc)
      · exact hy1.2 c hc
    · exact hz.signs c (List.mem_of_mem_drop hc)

section
variable {P : Program} {w : World} {K : PySem.W.Frag} {mg : Str → Option Value} {base : Heap} {CR CD : Addr}

def spPair : Sp := fun vs H Q _ => ∃ p : Addr, vs = [.ref p] ∧ PotAt H p ∧ ∀ (d e : SD) (t1 t2 pr : Addr) (H' : Hp), OkSD d → OkSD e → But p H H' → SomeAt H' t1 d → SomeAt H' t2 e → H' pr = some (.tup [.ref t1, .ref t2]) → Q (.ref pr) H'
set_option maxHeartbeats 4000000 in
theorem ok_pair {f : Addr} {fd : FuncData} (F : Fun K "_law_pair" "_law_pair" T.lPair f fd) (Z : Txt K mg CR CD) (cT : CTake P w K mg base) (cN : CNear P w K mg base) (cS : CSome P w K mg base) : FnOk P w K mg base CX0 6 f fd ["_law_pot_here"] spPair := by
  refine F.ok T.lPairS (fun vs H Q E h => ?_) (fun cdv A outer s H vs Q E hr h => ?_)
  · obtain ⟨p, rfl, _⟩ := h
    rfl
  · obtain ⟨p, rfl, pot, k⟩ := h
    have nd := T.lPairS.nd
    have hr1 : Room 1 _ := hr.mono (by decide)
    have hr3 : Room 3 _ := hr.mono (by decide)
    refine ⟨_, pss_cons (ps_set (i := 1) nd rfl (Or.inl rfl) (pe_cal cT hr1 rfl (pa_cons (pv 0) (pa_cons pe_int pa_nil))))
      (pss_cons (ps_set (i := 2) nd rfl (Or.inl rfl) (pe_cal cS hr rfl (pa_cons (pv 0) pa_nil)))
      (pss_cons (ps_asg (pv 2) (pg_tup rfl (pgs_cons (pg_name (i := 3) nd rfl (Or.inl rfl)) (pgs_cons (pg_name (i := 4) nd rfl (Or.inl rfl)) (pgs_cons (pg_name (i := 5) nd rfl (Or.inl rfl)) (pgs_cons (pg_name (i := 6) nd rfl (Or.inl rfl)) (pgs_cons (pg_name (i := 7) nd rfl (Or.inl rfl)) pgs_nil)))))))
      (pss_cons (ps_if (pt_cmpR op_eq (pv 1) pe_int (nomark _))
        (pss_cons (ps_set (i := 8) nd rfl (Or.inl rfl) (pe_op op_fdiv pe_int (pe_callB call_len_str (by rfl) Z.nLen PySem.boot_len (pa_cons (pv 3) pa_nil))))
        (pss_one (ps_ret (pe_tup (pa_cons (pv 2) (pa_cons (pe_tup (pa_cons (pe_op op_mulS (pv 3) (pv 8)) (pa_cons (pv 4) (pa_cons (pv 5) (pa_cons (pe_revL (pv 6)) (pa_cons (pe_revL (pv 7)) pa_nil)))))) pa_nil)))))) pss_nil)
      (pss_cons (ps_if (pt_cmpR op_eq (pv 1) pe_int (nomark _))
        (pss_cons (ps_set (i := 9) nd rfl (Or.inl rfl) (pe_cal cN hr3 rfl (pa_cons (pv 0) (pa_cons (pv 4) (pa_cons (pv 5) pa_nil)))))
        (pss_cons (ps_if (PW.pt (pw_or (pt_cmpR op_in_seq (pv 9) (pe_op op_catS (pv 6) (pv 7)) (by rfl)) (pw_or1 (pt_cmpR op_eq (pe_callB call_len_seq (by rfl) Z.nLen PySem.boot_len (pa_cons (pv 6) pa_nil)) pe_int (nomark _)))))
          (pss_one (ps_ret (pe_tup (pa_cons (pv 2) (pa_cons (pv 2) pa_nil))))) pss_nil)
        (pss_one (ps_ret (pe_tup (pa_cons (pv 2) (pa_cons (pe_tup (pa_cons (pv 3) (pa_cons (pv 4) (pa_cons (pv 5) (pa_cons (pe_op op_catS (pv 6) (pe_lst (pa_cons (pv 9) pa_nil))) (pa_cons (pv 7) pa_nil)))))) pa_nil))))))) pss_nil)
      (pss_cons (ps_if (pt_cmpR op_eq (pv 1) pe_int (nomark _))
        (pss_one (ps_ret (pe_tup (pa_cons (pv 2) (pa_cons (pe_tup (pa_cons (pv 3) (pa_cons (pv 4) (pa_cons (pv 5) (pa_cons (pv 6) (pa_cons (pe_slice sl_list (pv 7) (po_some pe_int) po_none) pa_nil)))))) pa_nil))))) pss_nil)
      (pss_cons (ps_if (pt_cmpR op_eq (pv 1) pe_int (nomark _))
        (pss_cons (ps_set (i := 10) nd rfl (Or.inl rfl) (pe_cal cT hr1 rfl (pa_cons (pv 0) (pa_cons (pe_callB call_len_str (by rfl) Z.nLen PySem.boot_len (pa_cons (pv 3) pa_nil)) pa_nil))))
        (pss_one (ps_ret (pe_tup (pa_cons (pv 2) (pa_cons (pe_tup (pa_cons
          (pe_op op_add_str (pe_op op_add_str (pe_slice sl_str (pv 3) po_none (po_some (pv 10))) (pe_ix ix_str pe_str (pe_callTy call_int_str (by rfl) Z.nInt (by decide +kernel) (pa_cons (pe_ix ix_str (pv 3) (pv 10) (fun _ _ => rfl)) pa_nil)) (fun _ _ => rfl))) (pe_slice sl_str (pv 3) (po_some (pe_op op_add (pv 10) pe_int)) po_none))
          (pa_cons (pv 4) (pa_cons (pv 5) (pa_cons (pv 6) (pa_cons (pv 7) pa_nil)))))) pa_nil)))))) pss_nil)
      (pss_cons (ps_if (pt_cmpR op_eq (pv 1) pe_int (nomark _))
        (pss_one (ps_ret (pe_tup (pa_cons (pv 2) (pa_cons (pe_ifExp (pt_cmpR op_isN (pv 5) pe_non (nomark _)) (pe_tup (pa_cons (pv 3) (pa_cons (pe_op op_add (pv 4) (pe_cal cT hr1 rfl (pa_cons (pv 0) (pa_cons pe_int pa_nil)))) (pa_cons (pv 5) (pa_cons (pv 6) (pa_cons (pv 7) pa_nil)))))) (pv 2)) pa_nil))))) pss_nil)
      (pss_cons (ps_if (pt_cmpR op_eq (pv 1) pe_int (nomark _))
        (pss_one (ps_ret (pe_tup (pa_cons (pv 2) (pa_cons (pe_tup (pa_cons (pv 3) (pa_cons (pv 4) (pa_cons (pe_op op_add (pv 4) (pe_cal cT hr1 rfl (pa_cons (pv 0) (pa_cons pe_int pa_nil)))) (pa_cons (pv 6) (pa_cons (pv 7) pa_nil)))))) pa_nil))))) pss_nil)
      (pss_one (ps_ret (pe_tup (pa_cons (pv 2) (pa_cons (pe_cal cS hr rfl (pa_cons (pv 0) pa_nil)) pa_nil))))))))))))), ?_⟩
    refine ⟨_, rfl, p, _, rfl, pot, by decide, by decide, fun way H1 w0 w1 b1 pot1 => ?_⟩
    refine ⟨_, rfl, p, rfl, pot1, fun d t1 H2 ok dlo dhi b2 pot2 sm => ?_⟩
    have b02 := b1.trans b2
    obtain ⟨g, m, h1, hg, hm, ngp, nmp⟩ := id sm
    refine ⟨_, rfl, t1, _, rfl, SqT.of h1, rfl, _, _, rfl, _, _, rfl, _, _, rfl, _, _, rfl, _, _, rfl, rfl, ?_⟩
    have hl : d.z.length ≤ sizeLine := len_line (Nat.le_trans ok.z.most (by decide))
    have hz1 := ok.z.pos
    have hz7 := ok.z.most
    have hg8 := ok.gone.few
    have hm8 := ok.more.few
    have fin : ∀ (e : SD) (g' m' : Addr) (H3 : Hp), OkSD e → But p H H3 → SomeAt H3 t1 d → H3 g' = some (.lst (e.gone.map V.int)) → H3 m' = some (.lst (e.more.map V.int)) →
        5 ≤ sizeLine ∧ ∀ t2, H3 t2 = none → 2 ≤ sizeLine ∧ ∀ pr, upd H3 t2 (.tup [.str e.z, .int e.lo, optV e.hi, .ref g', .ref m']) pr = none → Q (.ref pr) (upd (upd H3 t2 (.tup [.str e.z, .int e.lo, optV e.hi, .ref g', .ref m'])) pr (.tup [.ref t1, .ref t2])) := fun e g' m' H3 oke b3 s3 hg' hm' => by
      refine ⟨by decide, fun t2 ht2 => ⟨by decide, fun pr hpr => ?_⟩⟩
      have s4 : Same H3 (upd H3 t2 (.tup [.str e.z, .int e.lo, optV e.hi, .ref g', .ref m'])) := same_new ht2
      exact k d e t1 t2 pr _ ok oke ((b3.same s4).same (same_new hpr)) ((s3.same s4).same (same_new hpr)) (SomeAt.same (same_new hpr) ⟨g', m', upd_same, s4 _ _ hg', s4 _ _ hm'⟩) upd_same
    have same2 : ∀ H3 : Hp, But p H H3 → SomeAt H3 t1 d → 2 ≤ sizeLine ∧ ∀ pr, H3 pr = none → Q (.ref pr) (upd H3 pr (.tup [.ref t1, .ref t1])) := fun H3 b3 s3 =>
      ⟨by decide, fun pr hpr => k d d t1 t1 pr _ ok ok (b3.same (same_new hpr)) (s3.same (same_new hpr)) (s3.same (same_new hpr)) upd_same⟩
    -- way 0
    refine ⟨_, rfl, rfl, _, rfl, ite_bool (fun _ => ?_) (fun _ => ?_)⟩
    · refine ⟨_, rfl, _, rfl, hl, _, _, rfl, rfl, ⟨by omega, by omega⟩, ?_⟩
      refine ⟨_, rfl, _, rfl, _, rfl, _, _, rfl, rfl, ?_, by omega, ?_, _, rfl, _, rfl, _, rfl, g, _, rfl, SqL.of hg, fun q1 hq1 => ?_⟩
      · exact Int.ediv_nonneg (by decide) (by omega)
      · exact Int.le_trans (Int.ediv_le_self _ (by decide)) (by decide)
      have s3 : Same H2 (upd H2 q1 (.lst (d.gone.map V.int).reverse)) := same_new hq1
      have g3 : upd H2 q1 (.lst (d.gone.map V.int).reverse) q1 = some (.lst (d.gone.reverse.map V.int)) := by rw [upd_same, List.map_reverse]
      generalize upd H2 q1 (.lst (d.gone.map V.int).reverse) = H3 at s3 g3
      refine ⟨_, rfl, m, _, rfl, SqL.of (s3 _ _ hm), fun q2 hq2 => ?_⟩
      have s4 : Same H3 (upd H3 q2 (.lst (d.more.map V.int).reverse)) := same_new hq2
      have g4 : upd H3 q2 (.lst (d.more.map V.int).reverse) q2 = some (.lst (d.more.reverse.map V.int)) := by rw [upd_same, List.map_reverse]
      generalize upd H3 q2 (.lst (d.more.map V.int).reverse) = H4 at s4 g4
      have lk : Like d ⟨d.z, d.lo, d.hi, d.gone.reverse, d.more.reverse⟩ := ⟨rfl, rfl, rfl, List.reverse_perm _, List.reverse_perm _⟩
      have ok' := lk.ok ok
      exact fin ⟨PySem.Txt.mul d.z (7 / (d.z.length : Int)), d.lo, d.hi, d.gone.reverse, d.more.reverse⟩ q1 q2 H4 ⟨okZ_mul ok.z, ok.lo0, ok.lo1, ok.hi0, ok.hi1, ok'.gone, ok'.more, ok'.disj⟩ ((b02.same s3).same s4) (sm.at.same (s3.tr s4)) (s4 _ _ g3) g4
    -- way 1
    refine ⟨_, rfl, rfl, _, rfl, ite_bool (fun _ => ?_) (fun _ => ?_)⟩
    · refine ⟨_, rfl, _, rfl, _, rfl, p, d.lo, d.hi, rfl, pot2, ok.lo1, ok.hi1, fun spot H3 p0 p1 b3 pot3 => ?_⟩
      have b03 := b02.trans b3
      have sm3 := sm.but b3 pot2
      refine ⟨_, rfl, _, rfl, _, rfl, g, m, _, _, rfl, rfl, b3 _ _ hg ngp, b3 _ _ hm nmp, (by rw [List.length_map, List.length_map]; omega), fun n H4 _ s4 g4 => ?_⟩
      rw [← List.map_append] at g4
      have b04 := b03.same s4
      have sm4 := sm3.at.same s4
      refine ⟨n, _, rfl, .inl (SqL.of g4), rfl, flat_ints _, _, rfl, ite_bool (fun _ => ?_) (fun hin => ?_)⟩
      · exact iteT ⟨_, rfl, _, rfl, same2 H4 b04 sm4⟩
      refine ⟨_, rfl, g, _, rfl, .inl (SqL.of (s4 _ _ (b3 _ _ hg ngp))), rfl, _, rfl, ite_bool (fun _ => ?_) (fun h8 => ?_)⟩
      · exact ⟨_, rfl, _, rfl, same2 H4 b04 sm4⟩
      have hnm : spot ∉ d.gone ++ d.more := by
        have hin' : inV (V.int spot) ((d.gone ++ d.more).map V.int) = false := hin
        rw [inV_int] at hin'
        exact of_decide_eq_false hin'
      have hl8 : d.gone.length ≠ 8 := fun z => by
        have h8' : decide (V.int (((d.gone.map V.int).length : Nat) : Int) = V.int 8) = false := h8
        rw [List.length_map, z] at h8'
        exact absurd h8' (by decide)
      refine ⟨_, rfl, _, rfl, _, rfl, _, rfl, _, rfl, _, rfl, (by show 1 ≤ sizeLine; decide), fun n2 hn2 => ?_⟩
      have s5 : Same H4 (upd H4 n2 (.lst [.int spot])) := same_new hn2
      have g5 : upd H4 n2 (.lst [.int spot]) n2 = some (.lst [.int spot]) := upd_same
      generalize upd H4 n2 (.lst [.int spot]) = H5 at s5 g5
      refine ⟨g, n2, _, _, rfl, rfl, s5 _ _ (s4 _ _ (b3 _ _ hg ngp)), g5, (by rw [List.length_map]; show _ + 1 ≤ 1000; omega), fun n3 H6 _ s6 g6 => ?_⟩
      have e6 : d.gone.map V.int ++ [V.int spot] = (d.gone ++ [spot]).map V.int := by rw [List.map_append]; rfl
      rw [e6] at g6
      have okg : OkL (d.gone ++ [spot]) := by
        refine ⟨fun y hy => ?_, fun y hy => ?_, ?_, ?_⟩
        · rcases List.mem_append.mp hy with q | q
          · exact ok.gone.nn y q
          · rw [List.mem_singleton] at q; subst q; exact p0
        · rcases List.mem_append.mp hy with q | q
          · exact ok.gone.lt y q
          · rw [List.mem_singleton] at q; subst q; exact p1
        · refine List.nodup_append.mpr ⟨ok.gone.nd, by simp, fun a ha b hb => ?_⟩
          rw [List.mem_singleton] at hb
          subst hb
          intro z
          subst z
          exact hnm (List.mem_append_left _ ha)
        · rw [List.length_append, List.length_singleton]; omega
      refine ⟨_, rfl, fin ⟨d.z, d.lo, d.hi, d.gone ++ [spot], d.more⟩ n3 m H6 ⟨ok.z, ok.lo0, ok.lo1, ok.hi0, ok.hi1, okg, ok.more, fun x hx hg2 => ?_⟩ ((b04.same s5).same s6) (sm4.same (s5.tr s6)) g6 (s6 _ _ (s5 _ _ (s4 _ _ (b3 _ _ hm nmp))))⟩
      rcases List.mem_append.mp hg2 with q | q
      · exact ok.disj x hx q
      · rw [List.mem_singleton] at q
        subst q
        exact hnm (List.mem_append_right _ hx)
    -- way 2
    refine ⟨_, rfl, rfl, _, rfl, ite_bool (fun _ => ?_) (fun _ => ?_)⟩
    · refine ⟨_, rfl, _, rfl, _, rfl, _, rfl, _, rfl, _, rfl, _, rfl, m, _, rfl, SqL.of hm, fun n hn => ?_⟩
      rw [cut_tail]
      have s3 : Same H2 (upd H2 n (.lst ((d.more.map V.int).drop 1))) := by rw [← cut_tail]; exact same_new hn
      have g3 : upd H2 n (.lst ((d.more.map V.int).drop 1)) n = some (.lst ((d.more.drop 1).map V.int)) := by rw [upd_same, List.map_drop]
      generalize upd H2 n (.lst ((d.more.map V.int).drop 1)) = H3 at s3 g3
      refine fin ⟨d.z, d.lo, d.hi, d.gone, d.more.drop 1⟩ g n H3 ⟨ok.z, ok.lo0, ok.lo1, ok.hi0, ok.hi1, ok.gone, ⟨fun y hy => ok.more.nn y (List.mem_of_mem_drop hy), fun y hy => ok.more.lt y (List.mem_of_mem_drop hy), ok.more.nd.sublist (List.drop_sublist 1 _), by rw [List.length_drop]; omega⟩, fun x hx => ok.disj x (List.mem_of_mem_drop hx)⟩ (b02.same s3) (sm.at.same s3) (s3 _ _ hg) g3
    -- way 3
    refine ⟨_, rfl, rfl, _, rfl, ite_bool (fun _ => ?_) (fun _ => ?_)⟩
    · refine ⟨_, rfl, _, rfl, _, rfl, hl, p, _, rfl, pot2, by omega, by omega, fun at_ H3 a0 a1 b3 pot3 => ?_⟩
      have hc : ∃ (c : Nat) (n : Int) (c' : Nat), atI d.z.cps.toList at_ = some c ∧ PySem.intText? ⟨#[c]⟩ = some n ∧ atI ("10" : Str).cps.toList n = some c' ∧ IsBit ⟨#[c']⟩ := by
        obtain ⟨a, rfl⟩ := Int.eq_ofNat_of_zero_le a0
        have ha : a < d.z.cps.toList.length := by rw [cps_len]; omega
        have hget := List.getElem?_eq_getElem ha
        rcases ok.z.signs _ (List.getElem_mem ha) with q | q
        · rw [q] at hget
          exact ⟨48, 0, 49, atI_nat hget, by decide +kernel, rfl, .inr rfl⟩
        · rw [q] at hget
          exact ⟨49, 1, 48, atI_nat hget, by decide +kernel, rfl, .inl rfl⟩
      obtain ⟨c, n, c', hc1, hc2, hc3, hc4⟩ := hc
      have lz1 := cutS_length d.z none (some at_)
      have lz2 := cutS_length d.z (some (at_ + 1)) none
      have l1 : (⟨#[c']⟩ : Str).length = 1 := rfl
      have sz : (16 : Nat) ≤ sizeLine := by decide
      refine ⟨_, rfl, _, rfl, _, rfl, at_, rfl, d.z, rfl, hl, _, rfl, _, rfl, _, _, c, rfl, rfl, hl, hc1, _, n, rfl, hc2, (by show 1 ≤ 640; decide), _, _, c', rfl, rfl, (by decide), hc3, _, _, rfl, rfl, ?_, _, rfl, _, rfl, _, _, rfl, rfl, _, rfl, d.z, rfl, hl, _, _, rfl, rfl, ?_, _, rfl, _, rfl, _, rfl, _, rfl, ?_⟩
      · rw [l1]; omega
      · have : (cutS d.z none (some at_) ++ ⟨#[c']⟩ : Str).length = (cutS d.z none (some at_)).length + 1 := by
          rw [← cps_len, ← cps_len]
          have := TL.tl_append (cutS d.z none (some at_)) ⟨#[c']⟩
          show (TL.tl _).length = _
          rw [this, List.length_append]
          rfl
        rw [this]
        omega
      exact fin ⟨cutS d.z none (some at_) ++ ⟨#[c']⟩ ++ cutS d.z (some (at_ + 1)) none, d.lo, d.hi, d.gone, d.more⟩ g m H3 ⟨okZ_flip ok.z a0 a1 hc4, ok.lo0, ok.lo1, ok.hi0, ok.hi1, ok.gone, ok.more, ok.disj⟩ (b02.trans b3) (sm.but b3 pot2).at (b3 _ _ hg ngp) (b3 _ _ hm nmp)
    -- way 4
    refine ⟨_, rfl, rfl, _, rfl, ite_bool (fun _ => ?_) (fun _ => ?_)⟩
    · refine ⟨_, rfl, _, rfl, rfl, _, rfl, ?_⟩
      cases hh : d.hi with
      | none =>
        refine iteT ⟨_, rfl, _, rfl, _, rfl, p, _, rfl, pot2, by decide, by decide, fun d3 H3 a0 a1 b3 pot3 => ⟨_, _, rfl, rfl, _, rfl, _, rfl, _, rfl, ?_⟩⟩
        have := ok.lo0
        exact fin ⟨d.z, d.lo + d3, none, d.gone, d.more⟩ g m H3 ⟨ok.z, by show 0 ≤ d.lo + d3; omega, by show d.lo + d3 < 3 * 10 ^ 50; omega, fun h e => (by cases e), fun h e => (by cases e), ok.gone, ok.more, ok.disj⟩ (b02.trans b3) (sm.but b3 pot2).at (b3 _ _ hg ngp) (b3 _ _ hm nmp)
      | some h =>
        exact iteF ⟨_, rfl, same2 H2 b02 sm.at⟩
    -- way 5
    refine ⟨_, rfl, rfl, _, rfl, ite_bool (fun _ => ?_) (fun _ => ?_)⟩
    · refine ⟨_, rfl, _, rfl, _, rfl, _, rfl, _, rfl, p, _, rfl, pot2, by decide, by decide, fun d3 H3 a0 a1 b3 pot3 => ⟨_, _, rfl, rfl, _, rfl, _, rfl, ?_⟩⟩
      exact fin ⟨d.z, d.lo, some (d.lo + d3), d.gone, d.more⟩ g m H3 ⟨ok.z, ok.lo0, ok.lo1, fun h e => (by cases e; show d.lo ≤ d.lo + d3; omega), fun h e => (by cases e; omega), ok.gone, ok.more, ok.disj⟩ (b02.trans b3) (sm.but b3 pot2).at (b3 _ _ hg ngp) (b3 _ _ hm nmp)
    -- way 6
    refine ⟨_, rfl, _, rfl, p, rfl, pot2, fun e t2 H3 oke _ _ b3 pot3 sm3 => ⟨(by show 2 ≤ sizeLine; decide), fun pr hpr => ?_⟩⟩
    exact k d e t1 t2 pr _ ok oke ((b02.trans b3).same (same_new hpr)) ((sm.but b3 pot2).at.same (same_new hpr)) (sm3.at.same (same_new hpr)) upd_same
abbrev CPair (P : Program) (w : World) (K : PySem.W.Frag) (mg : Str → Option Value) (base : Heap) : Prop := Cal P w K mg base 6 "_law_pair" ["_law_pot_here"] spPair
end
end L2
/-! The walk, part 14: the law's alike, right. -/
namespace L2
open PySem PySem.Spec PyProof.Rows Fa

/-- the end of the i-th cut -/
def cutEnd (cs : List Int) (r : Option Int) (i : Nat) : Option Int := if i + 1 < cs.length then cs[i + 1]? else r
theorem cut_at (cs : List Int) (r : Option Int) {i : Nat} (h : i < cs.length) : ((cs.map V.int).drop 1 ++ [optV r])[i]? = some (optV (cutEnd cs r i)) := by
  unfold cutEnd
  by_cases q : i + 1 < cs.length
  · rw [if_pos q, List.getElem?_append_left (by rw [List.length_drop, List.length_map]; omega), List.getElem?_drop, List.getElem?_map, Nat.add_comm 1 i, List.getElem?_eq_getElem q]
    rfl
  · have e3 : i - (cs.length - 1) = 0 := by omega
    rw [if_neg q, List.getElem?_append_right (by rw [List.length_drop, List.length_map]; omega), List.length_drop, List.length_map, e3]
    rfl
theorem cut_under {cs : List Int} {r : Option Int} (h : ∀ c ∈ cs, under r c) {i : Nat} {x : Int} (hx : under (cutEnd cs r i) x) : under r x := by
  unfold cutEnd at hx
  by_cases q : i + 1 < cs.length
  · rw [if_pos q, List.getElem?_eq_getElem q] at hx
    have := h _ (List.getElem_mem q)
    cases r with
    | none => trivial
    | some e =>
      have a1 : x < cs[i + 1] := hx
      have a2 : cs[i + 1] < e := this
      show x < e
      omega
  · rw [if_neg q] at hx
    exact hx

def keepU : Option Int → Int → Bool
  | none, _ => true
  | some h, c => decide (c < h)

section
variable {P : Program} {w : World} {K : PySem.W.Frag} {mg : Str → Option Value} {base : Heap} {CR CD : Addr}

def spAlike : Sp := fun vs H Q _ => ∃ (t1 t2 : Addr) (d e : SD) (r : Option Int), vs = [.ref t1, .ref t2, optV r] ∧ OkSD d ∧ OkSD e ∧ SomeAt H t1 d ∧ SomeAt H t2 e ∧ (∀ x, 0 ≤ x → under r x → d.has x = e.has x) ∧ ∀ H', Same H H' → Q (.bl true) H'
theorem ok_alike {f : Addr} {fd : FuncData} (F : Fun K "_law_alike" "_law_alike" T.lAlike f fd) (Z : Txt K mg CR CD) (cE : CLEdges P w K mg base) (cH : CLHas P w K mg base) : FnOk P w K mg base CX0 2 f fd ["_law_head", "_law_two", "_law_high"] spAlike := by
  refine F.ok T.lAlikeS (fun vs H Q E h => ?_) (fun cdv A outer s H vs Q E hr h => ?_)
  · obtain ⟨t1, t2, d, e, r, rfl, _⟩ := h
    rfl
  · obtain ⟨t1, t2, d, e, r, rfl, okd, oke, sd, se, ag, k⟩ := h
    have nd := T.lAlikeS.nd
    refine ⟨_, pss_cons (ps_set (i := 3) nd rfl (Or.inl rfl) (pe_sortedSet rfl Z.nSorted rfl Z.nSet (pe_op op_catS (pe_cal cE hr rfl (pa_cons (pv 0) pa_nil)) (pe_cal cE hr rfl (pa_cons (pv 1) pa_nil))) rfl))
      (pss_cons (ps_setLc (i := 4) (own := [("_law_edge", 8)]) (g := gName 8) rfl nd rfl rfl (sw_true rfl rfl rfl (by decide +kernel)) (pi_list (pv 3)) (blkOk_by (N := T.lAlikeN) (sc := defScope T.lAlike) (by decide +kernel)) (fun _ _ _ _ _ => pg_name (i := 8) nd rfl (Or.inl rfl))
          (fun _ _ _ _ _ => pts_one (PW.pt (pw_or (pt_cmpR op_isN (pv 2) pe_non (nomark _)) (pw_or1 (pt_cmpR op_lt (pv 8) (pv 2) (nomark _)))))) (fun _ _ _ _ _ => pv 8))
      (pss_cons (ps_for PassesOwn.never rfl (pi_zip (by rfl) Z.nZip (pa_cons (pv 4) (pa_cons (pe_op op_catS (pe_slice sl_list (pv 4) (po_some pe_int) po_none) (pe_lst (pa_cons (pv 2) pa_nil))) pa_nil)))
          (pg_tup rfl (pgs_cons (pg_name (i := 5) nd rfl (Or.inl rfl)) (pgs_cons (pg_name (i := 6) nd rfl (Or.inl rfl)) pgs_nil)))
          (pss_cons (ps_set (i := 7) nd rfl (Or.inl rfl) (pe_op op_add (pv 5) (pe_op op_mul (pe_callB call_len_str (by rfl) Z.nLen PySem.boot_len (pa_cons (pe_ix ix_tup (pv 0) pe_int (fun _ _ => rfl)) pa_nil)) (pe_callB call_len_str (by rfl) Z.nLen PySem.boot_len (pa_cons (pe_ix ix_tup (pv 1) pe_int (fun _ _ => rfl)) pa_nil)))))
          (pss_cut (ps_if (pt_cmpR op_notN (pv 6) pe_non (nomark _)) (pss_one (ps_set (i := 7) nd rfl (Or.inl rfl) (pe_callB (call_min2 rfl) (by rfl) Z.nMin (by decide +kernel) (pa_cons (pv 7) (pa_cons (pv 6) pa_nil))))) pss_nil)
          (pss_one (ps_if (pt_val (pe_callB (cr_any rfl) (by rfl) Z.nAny (by decide +kernel) (pa_cons
              (pe_lc (own := [("_law_spot", 9)]) (g := gName 9) (tt := tYes) rfl nd (pi_rangeL (by rfl) Z.nRange (pa_cons (pv 5) (pa_cons (pv 7) pa_nil))) (blkOk_by (N := T.lAlikeN) (sc := defScope T.lAlike) (by decide +kernel)) (fun _ _ _ _ _ => pg_name (i := 9) nd rfl (Or.inl rfl)) (fun _ _ _ _ _ => pts_nil)
                (fun _ _ _ _ _ => pe_cmpR op_ne (pe_cal cH hr rfl (pa_cons (pv 0) (pa_cons (pv 9) pa_nil))) (pe_cal cH hr rfl (pa_cons (pv 1) (pa_cons (pv 9) pa_nil))) (nomark _))) pa_nil))) (pss_one ps_never) pss_nil)))))
      (pss_one (ps_ret pe_bl)))), ?_⟩
    obtain ⟨g1', m1', ht1, _, _⟩ := id sd
    obtain ⟨g2', m2', ht2, _, _⟩ := id se
    have hl1 : d.z.length ≤ sizeLine := len_line (Nat.le_trans okd.z.most (by decide))
    have hl2 : e.z.length ≤ sizeLine := len_line (Nat.le_trans oke.z.most (by decide))
    have z1 := okd.z.most
    have z2 := oke.z.most
    have zz : (d.z.length : Int) * (e.z.length : Int) ≤ 49 := by
      have : d.z.length * e.z.length ≤ 7 * 7 := Nat.mul_le_mul z1 z2
      have h : ((d.z.length * e.z.length : Nat) : Int) ≤ 49 := by omega
      rwa [Int.natCast_mul] at h
    refine ⟨_, rfl, t1, d, rfl, okd, sd, fun ys1 p1 H1 ed1 s1 g1 => ⟨_, rfl, t2, e, rfl, oke, se.same s1, fun ys2 p2 H2 ed2 s2 g2 => ?_⟩⟩
    have f1 := ed1.few
    have f2 := ed2.few
    refine ⟨p1, p2, _, _, rfl, rfl, s2 _ _ g1, g2, (by rw [List.length_map, List.length_map]; omega), fun q H3 _ s3 g3 => ?_⟩
    rw [← List.map_append] at g3
    refine ⟨q, _, rfl, SqL.of g3, by rw [List.length_append]; omega, fun es p up mem len hp => ?_⟩
    have bd : ∀ y ∈ es, Bd y := fun y hy => by
      rcases List.mem_append.mp ((mem y).mp hy) with z | z
      · exact ed1.bd y z
      · exact ed2.bd y z
    have elen : es.length ≤ 100 := by rw [List.length_append] at len; omega
    have s4 : Same H (upd H3 p (.lst (es.map V.int))) := (s1.tr (s2.tr s3)).tr (same_new hp)
    have g4 : upd H3 p (.lst (es.map V.int)) p = some (.lst (es.map V.int)) := upd_same
    generalize upd H3 p (.lst (es.map V.int)) = H4 at s4 g4
    refine ⟨_, rfl, p, rfl, ⟨_, SqL.of g4⟩, fun D hD => ?_⟩
    refine lc_fil es V.int (keepU r) (walk_list (xs := es.map V.int) |> fun w => by rw [List.length_map] at w; exact w) (small1000 (by omega)) hD (fun H5 s5 => SqL.of (s5 _ _ g4)) ?_ ?_
    · rintro i y x H5 H6 Q2 QF hy s5 ⟨rfl, hx⟩ kt kf
      rw [List.getElem?_map, hy] at hx
      cases hx
      refine ⟨rfl, _, rfl, rfl, _, rfl, ?_⟩
      cases r with
      | none => exact iteT (iteT ⟨_, rfl, kt rfl _ same_rfl⟩)
      | some h =>
        refine iteF ⟨_, rfl, _, rfl, _, _, rfl, rfl, _, rfl, ?_⟩
        by_cases hc : y < h
        · rw [decide_eq_true hc]
          exact iteT ⟨_, rfl, kt (decide_eq_true hc) _ same_rfl⟩
        · rw [decide_eq_false hc]
          exact iteF (kf (decide_eq_false hc) _ same_rfl)
    intro H5 s5 g5
    have hcs : ∀ c ∈ es.filter (keepU r), c ∈ es ∧ under r c := fun c hc => by
      obtain ⟨h1, h2⟩ := List.mem_filter.mp hc
      refine ⟨h1, ?_⟩
      cases r with
      | none => trivial
      | some h => exact (of_decide_eq_true h2 : c < h)
    have clen : (es.filter (keepU r)).length ≤ 100 := Nat.le_trans (List.length_filter_le _ _) elen
    generalize es.filter (keepU r) = cs at hcs g5 clen
    have s05 : Same H H5 := s4.tr s5
    refine ⟨_, rfl, _, rfl, _, rfl, D, _, rfl, SqL.of g5, fun c hc => ⟨_, rfl, (by show 1 ≤ sizeLine; decide), fun n hn => ?_⟩⟩
    have gc : upd H5 c (.lst (cutV (cs.map V.int) (some 1) none)) c = some (.lst ((cs.map V.int).drop 1)) := by rw [upd_same, cut_tail]
    have sc : Same H5 (upd H5 c (.lst (cutV (cs.map V.int) (some 1) none))) := same_new hc
    generalize upd H5 c (.lst (cutV (cs.map V.int) (some 1) none)) = H6 at gc sc hn
    have s6 : Same H6 (upd H6 n (.lst [optV r])) := same_new hn
    have g6 : upd H6 n (.lst [optV r]) n = some (.lst [optV r]) := upd_same
    generalize upd H6 n (.lst [optV r]) = H7 at s6 g6
    refine ⟨c, n, _, _, rfl, rfl, s6 _ _ gc, g6, (by rw [List.length_drop, List.length_map]; show _ + 1 ≤ 1000; omega), fun z H8 _ s8 g8 => ?_⟩
    have s58 : Same H5 H8 := sc.tr (s6.tr s8)
    have g58 := s58 _ _ g5
    have s08 : Same H H8 := s05.tr s58
    refine ⟨D, z, _, _, rfl, SqL.of g58, SqL.of g8, for_it (walk_zip (K := K) (a := D) (b := z) (xs := cs.map V.int) (ys := (cs.map V.int).drop 1 ++ [optV r]) (n := cs.length) (by simp; omega))
      (fun i σ H' => ∃ v5 v6 v7, σ = [some (.ref t1), some (.ref t2), some (optV r), some (.ref p), some (.ref D), v5, v6, v7, none, none] ∧ Same H8 H') ⟨none, none, none, rfl, same_rfl⟩ (fun i σ H' _ ⟨_, _, _, _, sm⟩ => ⟨SqL.of (sm _ _ g58), SqL.of (sm _ _ g8)⟩) ?_ ?_⟩
    · rintro i x σ H9 H10 hi ⟨v5, v6, v7, rfl, s9⟩ ⟨TT, x1, y1, rfl, hT, rfl, hx, hy⟩
      obtain ⟨b, hb⟩ := get_lt hi
      have ex : x1 = V.int b := by
        dsimp only at hx
        rw [List.getElem?_map, hb] at hx
        exact (Option.some.inj hx).symm
      have ey : y1 = optV (cutEnd cs r i) := by
        dsimp only at hy
        rw [cut_at cs r hi] at hy
        exact (Option.some.inj hy).symm
      subst ex ey
      have sT : Same H9 (upd H9 TT (.tup [V.int b, optV (cutEnd cs r i)])) := same_new hT
      have gT : upd H9 TT (.tup [V.int b, optV (cutEnd cs r i)]) TT = some (.tup [V.int b, optV (cutEnd cs r i)]) := upd_same
      generalize upd H9 TT (.tup [V.int b, optV (cutEnd cs r i)]) = H10 at sT gT
      have s010 : Same H H10 := s08.tr (s9.tr sT)
      have hb0 : 0 ≤ b := (bd b (hcs b (List.mem_of_getElem? hb)).1).1
      have hun : ∀ x, under (cutEnd cs r i) x → under r x := fun x => cut_under fun c hc => (hcs c hc).2
      generalize cutEnd cs r i = en at gT hun
      refine ⟨TT, _, rfl, SqT.of gT, rfl, _, _, rfl, _, _, rfl, rfl, ?_⟩
      refine ⟨_, rfl, _, rfl, t1, _, _, _, rfl, rfl, SqT.of (s010 _ _ ht1), rfl, _, rfl, hl1, _, rfl, t2, _, _, _, rfl, rfl, SqT.of (s010 _ _ ht2), rfl, _, rfl, hl2, _, _, rfl, rfl, .inl ⟨by omega, by omega⟩, _, _, rfl, rfl, ?_⟩
      refine ⟨fun σ' H' => ∃ la : Int, σ' = [some (.ref t1), some (.ref t2), some (optV r), some (.ref p), some (.ref D), some (.int b), some (optV en), some (.int la), none, none] ∧ H' = H10 ∧ la ≤ b + 49 ∧ ∀ x, x < la → under en x, ?_, ?_⟩
      · cases en with
        | none => exact ⟨_, rfl, rfl, false, rfl, iteF ⟨_, rfl, rfl, by show b + (d.z.length : Int) * (e.z.length : Int) ≤ b + 49; omega, fun x _ => trivial⟩⟩
        | some c =>
          refine ⟨_, rfl, rfl, true, rfl, iteT ⟨_, rfl, _, rfl, _, _, rfl, _, rfl, rfl, ?_, fun x hx => ?_⟩⟩
          · show (if c < b + (d.z.length : Int) * (e.z.length : Int) then c else b + (d.z.length : Int) * (e.z.length : Int)) ≤ b + 49
            split <;> omega
          · show x < c
            have hx' : x < (if c < b + (d.z.length : Int) * (e.z.length : Int) then c else b + (d.z.length : Int) * (e.z.length : Int)) := hx
            split at hx' <;> omega
      · rintro σ' H' ⟨la, rfl, rfl, lb, lu⟩
        refine ⟨_, rfl, _, rfl, b, la, rfl, fun D2 hD2 => ?_⟩
        refine lc_map (List.range (la - b).toNat) (fun _ => V.bl false) (walk_range (lo := b) (n := (la - b).toNat) |> fun w => by rw [← List.length_range (n := (la - b).toNat)] at w; simpa using w) ?_ hD2 (fun _ _ => trivial) ?_ ?_
        · rw [List.length_range]; exact small1000 (by omega)
        · rintro j j' x H11 H12 Q2 hj s11 ⟨rfl, rfl⟩ kk
          have hjl : j < (la - b).toNat := by
            have := (List.getElem?_eq_some_iff.mp hj).1
            rwa [List.length_range] at this
          have eqx : d.has (b + (j : Int)) = e.has (b + (j : Int)) := ag _ (by omega) (hun _ (lu _ (by omega)))
          refine ⟨rfl, _, rfl, _, rfl, t1, d, _, rfl, okd.z, sd.same (s010.tr s11), _, rfl, _, rfl, t2, e, _, rfl, oke.z, se.same (s010.tr s11), rfl, ?_⟩
          show Q2 (V.bl (!decide (V.bl (d.has (b + (j : Int))) = V.bl (e.has (b + (j : Int)))))) _
          rw [eqx]
          simpa using kk _ same_rfl
        · intro H11 s11 hL
          have e1 : (List.range (la - b).toNat).map (fun _ => V.bl false) = ((List.range (la - b).toNat).map fun _ => false).map V.bl := by rw [List.map_map]; rfl
          refine ⟨D2, _, rfl, SqL.of (by rw [hL, e1]), false, ?_, iteF ?_⟩
          · have e2 : ((List.range (la - b).toNat).map fun _ => false).any id = false := by simp
            rw [e2]
          · exact ⟨_, _, _, rfl, s9.tr (sT.tr s11)⟩
    · rintro σ H9 ⟨v5, v6, v7, rfl, s9⟩
      exact k _ (s08.tr s9)
abbrev CAlike (P : Program) (w : World) (K : PySem.W.Frag) (mg : Str → Option Value) (base : Heap) : Prop := Cal P w K mg base 2 "_law_alike" ["_law_head", "_law_two", "_law_high"] spAlike

def spRight : Sp := fun vs H Q _ => ∃ (t1 t2 : Addr) (d e : SD) (r : Option Int), vs = [optV r, .ref t1, .ref t2] ∧ OkSD d ∧ OkSD e ∧ SomeAt H t1 d ∧ SomeAt H t2 e ∧ Apart (fun x => d.has x) (fun x => e.has x) r ∧ ∀ H', Same H H' → Q (.bl true) H'
theorem ok_right {f : Addr} {fd : FuncData} (F : Fun K "_law_right" "_law_right" T.lRight f fd) (Z : Txt K mg CR CD) (cA : CAlike P w K mg base) (cH : CLHas P w K mg base) : FnOk P w K mg base CX0 3 f fd ["_law_found", "_law_head", "_law_two"] spRight := by
  refine F.ok T.lRightS (fun vs H Q E h => ?_) (fun cdv A outer s H vs Q E hr h => ?_)
  · obtain ⟨t1, t2, d, e, r, rfl, _⟩ := h
    rfl
  · obtain ⟨t1, t2, d, e, r, rfl, okd, oke, sd, se, ap, k⟩ := h
    have nd := T.lRightS.nd
    have hr1 : Room 1 _ := hr.mono (by decide)
    refine ⟨_, pss_cons (ps_if (pt_cmpR op_isN (pv 0) pe_non (nomark _)) (pss_one (ps_ret (pe_cal cA hr rfl (pa_cons (pv 1) (pa_cons (pv 2) (pa_cons pe_non pa_nil)))))) pss_nil)
      (pss_cons (ps_if (PW.pt (pw_or (pt_not (pt_val (pe_isiB "int" Z.nIsinstance Z.nInt (pv 0)))) (pw_or (pt_val (pe_isiB "bool" Z.nIsinstance Z.nBool (pv 0))) (pw_or1 (pt_cmpR op_lt (pv 0) pe_int (nomark _)))))) (pss_one ps_never) pss_nil)
      (pss_one (ps_ret (pe_and (pe_cmpR op_ne (pe_cal cH hr1 rfl (pa_cons (pv 1) (pa_cons (pv 0) pa_nil))) (pe_cal cH hr1 rfl (pa_cons (pv 2) (pa_cons (pv 0) pa_nil))) (nomark _)) (pe_one (pe_cal cA hr rfl (pa_cons (pv 1) (pa_cons (pv 2) (pa_cons (pv 0) pa_nil))))))))), ?_⟩
    cases r with
    | none => exact ⟨_, rfl, rfl, true, rfl, iteT ⟨_, rfl, _, rfl, t1, t2, d, e, none, rfl, okd, oke, sd, se, fun x h _ => ap x h, k⟩⟩
    | some c =>
      obtain ⟨c0, c1, c2⟩ := ap
      refine ⟨_, rfl, rfl, false, rfl, iteF ?_⟩
      refine ⟨_, rfl, _, _, _, _, _, rfl, .ty _, .base (.int c), k_int, true, rfl, iteF ⟨_, rfl, _, _, _, _, _, rfl, .ty _, .base (.int c), k_int_bool, false, rfl, iteF ⟨_, rfl, c, 0, rfl, rfl, false, bl_false (by omega), iteF ?_⟩⟩⟩
      refine ⟨_, rfl, _, rfl, t1, d, c, rfl, okd.z, sd, _, rfl, _, rfl, t2, e, c, rfl, oke.z, se, rfl, true, ?_, iteT ⟨_, rfl, _, rfl, _, rfl, t1, t2, d, e, some c, rfl, okd, oke, sd, se, fun x h0 hu => c2 x h0 hu, k⟩⟩
      show V.bl (!decide (V.bl (d.has c) = V.bl (e.has c))) = V.bl true
      have ne : ¬ (V.bl (d.has c) = V.bl (e.has c)) := fun z => c1 (V.bl.inj z)
      rw [decide_eq_false ne]
      rfl
abbrev CRight (P : Program) (w : World) (K : PySem.W.Frag) (mg : Str → Option Value) (base : Heap) : Prop := Cal P w K mg base 3 "_law_right" ["_law_found", "_law_head", "_law_two"] spRight
end
end L2
/-! The walk, part 15: the law's unlike. -/
namespace L2
open PySem PySem.Spec PyProof.Rows Fa

section
variable {X : Cx} {K : PySem.W.Frag} {k k2 : Nat} {f C f2 C2 : Addr} {fd fd2 : FuncData} {ps ps2 : List Str} {sp sp2 : Sp}
theorem op_eqOwnK (F : FnOk X.prog X.w X.K X.mg X.base CX0 k f fd ps sp) (hr : Room k X.A) (hs : PySem.W.findIn X.K (.ref C) "__eq__" = some (some (.ref f)))
    (hf : PySem.W.isFn X.K (.ref f) = true) (hb : Binds X.K fd ps []) (hK : X.K = K := by rfl) : OpR X (compareOp .Eq) (rOwnEq K C sp E0) := hK ▸ op_eqOwn F hr hs hf hb pass0
/-- == of a thing whose own side tells, or whose right side tells -/
theorem op_eqMix (F : FnOk X.prog X.w X.K X.mg X.base CX0 k f fd ps sp) (hr : Room k X.A) (hs : PySem.W.findIn X.K (.ref C) "__eq__" = some (some (.ref f)))
    (hf : PySem.W.isFn X.K (.ref f) = true) (hb : Binds X.K fd ps [])
    (F2 : FnOk X.prog X.w X.K X.mg X.base CX0 k2 f2 fd2 ps2 sp2) (hr2 : Room k2 X.A) (hs2 : PySem.W.findIn X.K (.ref C2) "__eq__" = some (some (.ref f2)))
    (hf2 : PySem.W.isFn X.K (.ref f2) = true) (hb2 : Binds X.K fd2 ps2 []) (hK : X.K = K := by rfl) : OpR X (compareOp .Eq) (fun x y H Q => rOwnEq K C sp E0 x y H Q ∨ rReflEq K C2 sp2 E0 x y H Q) := by
  subst hK
  intro pins s σ H x y v u Q I rx ry h
  rcases h with h | h
  · exact op_eqOwn F hr hs hf hb pass0 pins s σ H x y v u Q I rx ry h
  · exact op_eqRefl F2 hr2 hs2 hf2 hb2 pass0 pins s σ H x y v u Q I rx ry h
end

/-- a thing that is no days: what the two comparisons ask -/
structure Thing (K : PySem.W.Frag) (CR CD : Addr) (H : Hp) (x : V) (t : Value) : Prop where
  r : TyR H x t
  tx : TyX K H x t
  first : PySem.W.notFirst K CD t = true
  kit : PySem.W.kitOne K t (.ref CD) = some false
  side : (∃ a dx fs, x = .ref a ∧ H a = some (.ins CR dx fs)) ∨ ∃ T, t = .type T ∧ PySem.W.subIn K (.ref CD) (.type T) = some false
section
variable {P : Program} {w : World} {K : PySem.W.Frag} {mg : Str → Option Value} {base : Heap} {CR CD : Addr}
variable {H : Hp}
theorem thing_str (Z : Txt K mg CR CD) (z : Str) : Thing K CR CD H (.str z) (.type "str") := ⟨.str z, .base (.str z), Z.fStr, Z.kStrD, .inr ⟨_, rfl, Z.sStr⟩⟩
theorem thing_non (Z : Txt K mg CR CD) : Thing K CR CD H .non (.type "NoneType") := ⟨.non, .base .non, Z.fNone, Z.kNoneD, .inr ⟨_, rfl, Z.sNone⟩⟩
theorem thing_int (Z : Txt K mg CR CD) (i : Int) : Thing K CR CD H (.int i) (.type "int") := ⟨.int i, .base (.int i), Z.fInt, Z.kIntD, .inr ⟨_, rfl, Z.sInt⟩⟩
theorem thing_bl (Z : Txt K mg CR CD) (b : Bool) : Thing K CR CD H (.bl b) (.type "bool") := ⟨.bl b, .base (.bl b), Z.fBool, Z.kBoolD, .inr ⟨_, rfl, Z.sBool⟩⟩
theorem thing_lst (Z : Txt K mg CR CD) {a : Addr} {xs : List V} (e : H a = some (.lst xs)) : Thing K CR CD H (.ref a) (.type "list") := ⟨.lst e, .base (.lst e), Z.fList, Z.kListD, .inr ⟨_, rfl, Z.sList⟩⟩
theorem thing_tup (Z : Txt K mg CR CD) {a : Addr} {xs : List V} (e : H a = some (.tup xs)) : Thing K CR CD H (.ref a) (.type "tuple") := ⟨.tup e, .base (.tup e), Z.fTuple, Z.kTupleD, .inr ⟨_, rfl, Z.sTuple⟩⟩
theorem thing_dct (Z : Txt K mg CR CD) {a : Addr} {kvs : List (Key × V)} (e : H a = some (.dK kvs)) : Thing K CR CD H (.ref a) (.type "dict") := ⟨.dK e, .base (.dK e), Z.fDict, Z.kDictD, .inr ⟨_, rfl, Z.sDict⟩⟩
theorem thing_ring (Z : Txt K mg CR CD) {a dx : Addr} {fs : List (Str × V)} (e : H a = some (.ins CR dx fs)) : Thing K CR CD H (.ref a) (.ref CR) := ⟨.ins e, ty_ins Z.clR Z.isR Z e, Z.fDR, Z.kRD, .inl ⟨a, dx, fs, rfl, e⟩⟩

def spUnlike (CR CD : Addr) : Sp := fun vs H Q _ => ∃ (p t : Addr) (d d2 : SD), vs = [.ref p, .ref t] ∧ OkSD d ∧ DaysAt CR CD H p d ∧ OkZ d2.z ∧ SomeAt H t d2 ∧ ∀ H', Same H H' → Q (.bl true) H'
theorem ok_unlike {f : Addr} {fd : FuncData} (F : Fun K "_law_unlike" "_law_unlike" T.lUnlike f fd) (Z : Txt K mg CR CD) (cS : CDStr P w K mg base CR CD) (cR : CRing P w K mg base CR) (cE : CDEq P w K mg base CR CD) (cRE : CREq P w K mg base CR CD) :
    FnOk P w K mg base CX0 8 f fd ["_law_days", "_law_some_here"] (spUnlike CR CD) := by
  refine F.ok T.lUnlikeS (fun vs H Q E h => ?_) (fun cdv A outer s H vs Q E hr h => ?_)
  · obtain ⟨p, t, d, d2, rfl, _⟩ := h
    rfl
  · obtain ⟨p, t, d, d2, rfl, ok, hp, hz, ⟨g, m, ht, _, _⟩, k⟩ := h
    have nd := T.lUnlikeS.nd
    obtain ⟨fS, fdS, FS, mS, bS⟩ := cS
    obtain ⟨fE, fdE, FE, mE, bE⟩ := cE
    obtain ⟨fR, fdR, FR, mR, bR⟩ := cRE
    have hr1 : Room 1 _ := hr.mono (by decide)
    have hr3 : Room 3 _ := hr.mono (by decide)
    have hr6 : Room 6 _ := hr.mono (by decide)
    refine ⟨_, pss_cons (ps_set (i := 2) nd rfl (Or.inl rfl) (pe_lst (pa_cons (pe_callTy (call_strOwn FS hr6 mS.1 mS.2 bS pass0) (by rfl) Z.nStr (by decide +kernel) (pa_cons (pv 0) pa_nil)) (pa_cons (pe_calC cR hr3 rfl (pa_cons (pe_ix ix_tup (pv 1) pe_int (fun _ _ => rfl)) pa_nil))
        (pa_cons (pe_lst (pa_cons (pv 0) pa_nil)) (pa_cons pe_non (pa_cons (pe_ix ix_tup (pv 1) pe_int (fun _ _ => rfl)) (pa_cons pe_bl (pa_cons (pe_tup (pa_cons (pe_ix ix_tup (pv 1) pe_int (fun _ _ => rfl)) pa_nil)) (pa_cons pe_dnewK pa_nil))))))))))
      (pss_one (ps_ret (pe_cmpR (op_eqD hr.units) (pe_op op_catS
        (pe_lc (own := [("_law_thing", 3)]) (g := gName 3) (tt := tYes) rfl nd (pi_list (pv 2)) (blkOk_by (N := T.lUnlikeN) (sc := defScope T.lUnlike) (by decide +kernel)) (fun _ _ _ _ _ => pg_name (i := 3) nd rfl (Or.inl rfl)) (fun _ _ _ _ _ => pts_nil)
          (fun _ _ _ _ _ => pe_callTy call_int1 (by rfl) Z.nInt (by decide +kernel) (pa_cons (pe_cmpR (op_eqOwnK (K := K) (C := CD) FE hr mE.1 mE.2 bE) (pv 0) (pv 3) (nomark _)) pa_nil)))
        (pe_lc (own := [("_law_thing", 3)]) (g := gName 3) (tt := tYes) rfl nd (pi_list (pv 2)) (blkOk_by (N := T.lUnlikeN) (sc := defScope T.lUnlike) (by decide +kernel)) (fun _ _ _ _ _ => pg_name (i := 3) nd rfl (Or.inl rfl)) (fun _ _ _ _ _ => pts_nil)
          (fun _ _ _ _ _ => pe_callTy call_int1 (by rfl) Z.nInt (by decide +kernel) (pa_cons (pe_cmpR (op_eqMix (K := K) (C := CR) (C2 := CD) FR hr1 mR.1 mR.2 bR FE hr mE.1 mE.2 bE) (pv 3) (pv 0) (nomark _)) pa_nil))))
        (pe_op op_rep (pe_lst (pa_cons pe_int pa_nil)) pe_int) (nomark _)))), ?_⟩
    obtain ⟨dx, r, o, l, hp1, _⟩ := id hp
    refine ⟨_, rfl, p, _, _, rfl, hp1, p, d, rfl, ok, hp, fun H1 s1 => ⟨_, rfl, ?_⟩⟩
    refine ⟨_, rfl, t, _, _, _, rfl, rfl, SqT.of (s1 _ _ ht), rfl, fun x dx2 hx hdx ne => ?_⟩
    refine ⟨x, dx2, d2.z, rfl, hz, upd_same, fun H2 e2 hx2 => ⟨rfl, ?_⟩⟩
    have s2 : Same H1 H2 := Same.made hx hdx e2
    refine ⟨_, rfl, (by show 1 ≤ sizeLine; decide), fun l1 hl1 => ?_⟩
    have s3 : Same H2 (upd H2 l1 (.lst [.ref p])) := same_new hl1
    have g3 : upd H2 l1 (.lst [.ref p]) l1 = some (.lst [.ref p]) := upd_same
    generalize upd H2 l1 (.lst [.ref p]) = H3 at s3 g3
    have s03 : Same H H3 := s1.tr (s2.tr s3)
    refine ⟨_, rfl, t, _, _, _, rfl, rfl, SqT.of (s03 _ _ ht), rfl, _, rfl, t, _, _, _, rfl, rfl, SqT.of (s03 _ _ ht), rfl, (by show 1 ≤ sizeLine; decide), fun tp htp => ?_⟩
    have s4 : Same H3 (upd H3 tp (.tup [.str d2.z])) := same_new htp
    have g4 : upd H3 tp (.tup [.str d2.z]) tp = some (.tup [.str d2.z]) := upd_same
    generalize upd H3 tp (.tup [.str d2.z]) = H4 at s4 g4
    intro dk hdk
    have s5 : Same H4 (upd H4 dk (.dK [])) := same_new hdk
    have g5 : upd H4 dk (.dK []) dk = some (.dK []) := upd_same
    generalize upd H4 dk (.dK []) = H5 at s5 g5
    refine ⟨(by show 8 ≤ sizeLine; decide), fun ll hll => ?_⟩
    have s6 : Same H5 (upd H5 ll (.lst [.str (dayText d), .ref x, .ref l1, .non, .int d2.lo, .bl true, .ref tp, .ref dk])) := same_new hll
    have g6 : upd H5 ll (.lst [.str (dayText d), .ref x, .ref l1, .non, .int d2.lo, .bl true, .ref tp, .ref dk]) ll = some (.lst [.str (dayText d), .ref x, .ref l1, .non, .int d2.lo, .bl true, .ref tp, .ref dk]) := upd_same
    generalize hxs : [V.str (dayText d), .ref x, .ref l1, .non, .int d2.lo, .bl true, .ref tp, .ref dk] = xs at s6 g6
    have lxs : xs.length = 8 := by rw [← hxs]; rfl
    generalize upd H5 ll (.lst xs) = H6 at s6 g6
    have s06 : Same H H6 := s03.tr (s4.tr (s5.tr s6))
    have things : ∀ H', Same H6 H' → ∀ y ∈ xs, ∃ t, Thing K CR CD H' y t := fun H' s' y hy => by
      rw [← hxs] at hy
      simp only [List.mem_cons, List.not_mem_nil, or_false] at hy
      rcases hy with rfl | rfl | rfl | rfl | rfl | rfl | rfl | rfl
      · exact ⟨_, thing_str Z _⟩
      · exact ⟨_, thing_ring Z (s' _ _ (s6 _ _ (s5 _ _ (s4 _ _ (s3 _ _ hx2)))))⟩
      · exact ⟨_, thing_lst Z (s' _ _ (s6 _ _ (s5 _ _ (s4 _ _ g3))))⟩
      · exact ⟨_, thing_non Z⟩
      · exact ⟨_, thing_int Z _⟩
      · exact ⟨_, thing_bl Z _⟩
      · exact ⟨_, thing_tup Z (s' _ _ (s6 _ _ (s5 _ _ g4)))⟩
      · exact ⟨_, thing_dct Z (s' _ _ (s6 _ _ g5))⟩
    refine ⟨_, rfl, ll, rfl, ⟨_, SqL.of g6⟩, fun D1 hD1 => ?_⟩
    refine lc_map xs (fun _ => V.int 0) walk_list (small1000 (by omega)) hD1 (fun H7 s7 => SqL.of (s7 _ _ g6)) ?_ ?_
    · rintro i y z H7 H8 Q2 hy s7 ⟨rfl, hz'⟩ kk
      rw [hy] at hz'
      cases hz'
      obtain ⟨ty, th⟩ := things _ s7 y (List.mem_of_getElem? hy)
      exact ⟨rfl, _, rfl, _, rfl, p, _, _, ty, rfl, s7 _ _ (s06 _ _ hp1), th.r, th.first, .inr ⟨p, y, ty, rfl, th.tx, th.kit, false, rfl, .inr ⟨false, rfl, kk _ same_rfl⟩⟩⟩
    intro H7 s7 g7
    refine ⟨_, rfl, ll, rfl, ⟨_, SqL.of (s7 _ _ g6)⟩, fun D2 hD2 => ?_⟩
    refine lc_map xs (fun _ => V.int 0) walk_list (small1000 (by omega)) hD2 (fun H8 s8 => SqL.of (s8 _ _ (s7 _ _ g6))) ?_ ?_
    · rintro i y z H8 H9 Q2 hy s8 ⟨rfl, hz'⟩ kk
      rw [hy] at hz'
      cases hz'
      obtain ⟨ty, th⟩ := things _ (s7.tr s8) y (List.mem_of_getElem? hy)
      have hp8 := s8 _ _ (s7 _ _ (s06 _ _ hp1))
      refine ⟨rfl, _, rfl, _, rfl, ?_⟩
      rcases th.side with ⟨a, dxa, fs, e1, e2⟩ | ⟨T, rfl, e2⟩
      · subst e1
        exact .inl ⟨a, _, _, _, rfl, e2, .ins hp8, Z.fRD, a, p, _, _, rfl, hp8, false, rfl, .inr ⟨false, rfl, kk _ same_rfl⟩⟩
      · exact .inr ⟨p, _, _, T, rfl, hp8, th.r, e2, .inr ⟨p, y, _, rfl, th.tx, th.kit, false, rfl, .inr ⟨false, rfl, kk _ same_rfl⟩⟩⟩
    intro H8 s8 g8
    refine ⟨D1, D2, _, _, rfl, rfl, s8 _ _ g7, g8, (by rw [List.length_map]; omega), fun n H9 _ s9 g9 => ?_⟩
    refine ⟨(by show 1 ≤ sizeLine; decide), fun n2 hn2 => ⟨n2, 16, _, rfl, rfl, upd_same, by decide, by decide, (by show 16 ≤ sizeLine; decide), fun n3 hn3 => ?_⟩⟩
    have s10 : Same H9 (upd (upd H9 n2 (.lst [.int 0])) n3 (.lst (List.replicate (16 : Int).toNat [V.int 0]).flatten)) := (same_new hn2).tr (same_new hn3)
    have e9 : xs.map (fun _ => V.int 0) ++ xs.map (fun _ => V.int 0) = (List.replicate 16 (0 : Int)).map V.int := by
      rw [← hxs]
      rfl
    rw [e9] at g9
    refine ⟨.list ((List.replicate 16 (0 : Int)).map PyData.int), .list ((List.replicate 16 (0 : Int)).map PyData.int), .lst (SqL.of (s10 _ _ g9)) (dp_ints _), .lst (SqL.of (upd_same : upd _ n3 (.lst ((List.replicate 16 (0 : Int)).map V.int)) n3 = _)) (dp_ints _), shaped_lst _, shaped_lst _, ?_⟩
    have ee : PyData.eqv (.list ((List.replicate 16 (0 : Int)).map PyData.int)) (.list ((List.replicate 16 (0 : Int)).map PyData.int)) = true := by decide +kernel
    rw [ee]
    exact k _ (s06.tr (s7.tr (s8.tr (s9.tr s10))))
abbrev CUnlike (P : Program) (w : World) (K : PySem.W.Frag) (mg : Str → Option Value) (base : Heap) (CR CD : Addr) : Prop := Cal P w K mg base 8 "_law_unlike" ["_law_days", "_law_some_here"] (spUnlike CR CD)
end
end L2
/-! The walk, part 16: the law. -/
namespace L2
open PySem PySem.Spec PyProof.Rows Fa

theorem strOk_iff (x : Str) : PyData.strOk x = true ↔ ∀ c ∈ x.cps.toList, c < 0x110000 := by
  unfold PyData.strOk
  rw [Array.all_eq_true']
  simp
theorem mem_joinL {S : List Nat} {c : Nat} : ∀ {ls : List (List Nat)}, c ∈ TL.joinL S ls → c ∈ S ∨ ∃ l ∈ ls, c ∈ l
  | [], h => by cases h
  | [p], h => .inr ⟨p, List.mem_singleton.mpr rfl, h⟩
  | p :: q :: r, h => by
    have h' : c ∈ p ++ (S ++ TL.joinL S (q :: r)) := h
    rcases List.mem_append.mp h' with z | z
    · exact .inr ⟨p, List.mem_cons_self .., z⟩
    · rcases List.mem_append.mp z with z | z
      · exact .inl z
      · rcases mem_joinL z with z | ⟨l, hl, z⟩
        · exact .inl z
        · exact .inr ⟨l, List.mem_cons_of_mem _ hl, z⟩
theorem strOk_join {y : Str} {zs : List Str} (h0 : PyData.strOk y = true) (h : ∀ z ∈ zs, PyData.strOk z = true) : PyData.strOk (PySem.Txt.join y zs) = true := by
  rw [strOk_iff]
  intro c hc
  rw [TL.join_eq] at hc
  have hc' : c ∈ TL.tl (PySem.Str.join y zs) := hc
  rw [TL.tl_join] at hc'
  rcases mem_joinL hc' with z | ⟨l, hl, z⟩
  · exact (strOk_iff y).mp h0 c z
  · obtain ⟨w, hw, rfl⟩ := List.mem_map.mp hl
    exact (strOk_iff w).mp (h w hw) c z
theorem strOk_iT (i : Int) : PyData.strOk (iT i) = true := by
  rw [strOk_iff]
  intro c hc
  have e : (iT i).cps.toList = (toString i).toList.map Char.toNat := by
    show (Str.ofString (toString i)).cps.toList = _
    rw [PySem.Str.ofString_eq_toList]
  rw [e] at hc
  obtain ⟨ch, _, rfl⟩ := List.mem_map.mp hc
  have h := ch.valid
  unfold UInt32.isValidChar Nat.isValidChar at h
  show ch.val.toNat < _
  omega
theorem strOk_day {d : SD} (hz : OkZ d.z) : PyData.strOk (dayText d) = true := by
  refine strOk_join (by decide +kernel) fun x hx => ?_
  have part : ∀ (w : Str) (xs : List Int), PyData.strOk w = true → ∀ x ∈ dayPart w xs, PyData.strOk x = true := fun w xs hw x hx => by
    unfold dayPart at hx
    split at hx
    · cases hx
    · rcases List.mem_cons.mp hx with rfl | hx
      · exact hw
      · obtain ⟨i, _, rfl⟩ := List.mem_map.mp hx
        exact strOk_iT i
  unfold dayWords at hx
  simp only [List.mem_append] at hx
  rcases hx with (((hx | hx) | hx) | hx) | hx
  · rw [List.mem_singleton] at hx
    subst hx
    rw [strOk_iff]
    intro c hc
    rcases hz.signs c hc with q | q <;> omega
  · unfold loW at hx
    split at hx
    · rcases List.mem_cons.mp hx with rfl | hx
      · decide +kernel
      · rw [List.mem_singleton] at hx
        subst hx
        exact strOk_iT _
    · cases hx
  · cases hh : d.hi with
    | none => rw [hh] at hx; cases hx
    | some h =>
      rw [hh] at hx
      rcases List.mem_cons.mp hx with rfl | hx
      · decide +kernel
      · rw [List.mem_singleton] at hx
        subst hx
        exact strOk_iT _
  · exact part _ _ (by decide +kernel) x hx
  · exact part _ _ (by decide +kernel) x hx
theorem flat_opt {r : Option Int} (h0 : ∀ x, r = some x → 0 ≤ x) (h1 : ∀ x, r = some x → x < 10 ^ 52) : flatR (optV r) = true := by
  cases r with
  | none => rfl
  | some x => exact decide_eq_true (log2_ok (h0 x rfl) (h1 x rfl))
theorem Apart.nn {f g : Int → Bool} {r : Option Int} (h : Apart f g r) : ∀ x, r = some x → 0 ≤ x := fun x e => by
  subst e
  exact h.1
theorem due_eq (r : Option Int) : decide (optV r = V.non) = decide (r = none) := by
  cases r with
  | none => rfl
  | some x => rfl

/-- how the two keywords come to the parameters -/
def gK : List Value → List Value → List Value
  | [], [a, b] => [b, a]
  | _, _ => []
def gKV : List V → List V → List V
  | [], [a, b] => [b, a]
  | _, _ => []

section
variable {P : Program} {w : World} {K : PySem.W.Frag} {mg : Str → Option Value} {CR CD : Addr}

theorem ok_law {fa fA : Addr} {fd fdA : FuncData} {n : Nat} (F : Fun K "law" "law" T.law fa fd) (hbl : Binds K fd ["_law_script"] []) (Z : Txt K mg CR CD)
    (cPot : ∀ base, K.In base → base.Ns mainGlobals mg → CPot P w K mg base) (cPair : ∀ base, K.In base → base.Ns mainGlobals mg → CPair P w K mg base) (cMade : ∀ base, K.In base → base.Ns mainGlobals mg → CMade P w K mg base CR CD)
    (cS : ∀ base, K.In base → base.Ns mainGlobals mg → CDStr P w K mg base CR CD) (cE : ∀ base, K.In base → base.Ns mainGlobals mg → CDEq P w K mg base CR CD)
    (cRt : ∀ base, K.In base → base.Ns mainGlobals mg → CRight P w K mg base) (cUn : ∀ base, K.In base → base.Ns mainGlobals mg → CUnlike P w K mg base CR CD)
    (FA : ∀ base, K.In base → base.Ns mainGlobals mg → FnOk P w K mg base CX0 6 fA fdA ["one", "other"] (spApart CR CD)) (mA : mg "first_apart" = some (.ref fA)) (kA : PySem.W.keepIn K (.ref fA) = true) (bA : Binds K fdA ["one", "other"] [])
    (kbA : KBinds K fdA ["one", "other"] ["other", "one"] gK gKV) : LawKept P w K mg fa n := by
  intro base s H a ns hin hns e0 _ hS
  have hr0 : Room 9 callerA := ⟨rfl, by decide, by decide⟩
  have KX : K.In s.heap := e0.mod.kin.keeps fun b o e => (e0.bs b o e).1
  refine run_body (N := T.lawN) (vs := [V.ref a]) (us := [Value.ref a]) F T.lawS hr0 e0 (hbl s [.ref a] KX rfl) (.cons rfl .nil) rfl fun cdv hr => ?_
  have cA : CApart P w K mg base CR CD := ⟨fA, fdA, FA base hin hns, mA, kA, bA⟩
  have cPot := cPot base hin hns
  have cPair := cPair base hin hns
  have cMade := cMade base hin hns
  have cS := cS base hin hns
  have cE := cE base hin hns
  have cRt := cRt base hin hns
  have cUn := cUn base hin hns
  have FA := FA base hin hns
  obtain ⟨fS, fdS, FS, mS, bS⟩ := cS
  obtain ⟨fE, fdE, FE, mE, bE⟩ := cE
  have hr1 : Room 1 _ := hr.mono (by decide)
  have hr3 : Room 3 _ := hr.mono (by decide)
  have hr6 : Room 6 _ := hr.mono (by decide)
  have hr7 : Room 7 _ := hr.mono (by decide)
  have hg : (callerA.deeper (envOfC "law" (defScope T.law) s.heap.objs.size fa cdv)).guards = some [] := callerA_guards
  have nd := T.lawS.nd
  refine ⟨_, PSs.nox (pss_cons (ps_for PassesOwn.never rfl (pi_range1 rfl Z.nRange (pa_cons (pe_callB (call_max2 rfl) (by rfl) Z.nMax (by decide +kernel) (pa_cons pe_int (pa_cons (pe_callB (call_min2 rfl) (by rfl) Z.nMin (by decide +kernel) (pa_cons (pe_callB call_len_seq (by rfl) Z.nLen PySem.boot_len (pa_cons (pv 0) pa_nil)) (pa_cons pe_int pa_nil))) pa_nil))) pa_nil)) (pg_name (i := 1) nd rfl (Or.inl rfl))
      (pss_cons (ps_set (i := 2) nd rfl (Or.inl rfl) (pe_cal cPair hr6 rfl (pa_cons (pe_cal cPot hr1 rfl (pa_cons (pv 0) (pa_cons (pv 1) pa_nil))) pa_nil)))
      (pss_cons (ps_set (i := 3) nd rfl (Or.inl rfl) (pe_lst (pa_cons (pe_cal cMade hr7 rfl (pa_cons (pe_ix ix_tup (pv 2) pe_int (fun _ _ => rfl)) pa_nil)) (pa_cons (pe_cal cMade hr7 rfl (pa_cons (pe_ix ix_tup (pv 2) pe_int (fun _ _ => rfl)) pa_nil)) pa_nil))))
      (pss_cons (ps_set (i := 4) nd rfl (Or.inl rfl) (pe_lst (pa_cons (pe_callTy (call_strOwn FS hr6 mS.1 mS.2 bS pass0) (by rfl) Z.nStr (by decide +kernel) (pa_cons (pe_ix ix_list (pv 3) pe_int (fun _ _ => rfl)) pa_nil)) (pa_cons (pe_callTy (call_strOwn FS hr6 mS.1 mS.2 bS pass0) (by rfl) Z.nStr (by decide +kernel) (pa_cons (pe_ix ix_list (pv 3) pe_int (fun _ _ => rfl)) pa_nil)) pa_nil))))
      (pss_cons (ps_set (i := 5) nd rfl (Or.inl rfl) (pe_cal cA hr6 rfl (pa_cons (pe_ix ix_list (pv 3) pe_int (fun _ _ => rfl)) (pa_cons (pe_ix ix_list (pv 3) pe_int (fun _ _ => rfl)) pa_nil))))
      (pss_cons (ps_if (pt_not (pt_val (pe_cal cRt hr3 rfl (pa_cons (pv 5) (pa_cons (pe_ix ix_tup (pv 2) pe_int (fun _ _ => rfl)) (pa_cons (pe_ix ix_tup (pv 2) pe_int (fun _ _ => rfl)) pa_nil)))))) (pss_one ps_never) pss_nil)
      (pss_cons (ps_if (pt_cmpR op_ne (pe_callB (call_reprL hr hg) (by rfl) Z.nRepr (by decide +kernel) (pa_cons (pe_lst (pa_cons (pe_cal cA hr6 rfl (pa_cons (pe_ix ix_list (pv 3) pe_int (fun _ _ => rfl)) (pa_cons (pe_ix ix_list (pv 3) pe_int (fun _ _ => rfl)) pa_nil)))
          (pa_cons (pe_callK0 FA hr6 rfl mA kA kbA pass0 (pk_cons (pe_ix ix_list (pv 3) pe_int (fun _ _ => rfl)) (pk_cons (pe_ix ix_list (pv 3) pe_int (fun _ _ => rfl)) pk_nil))) pa_nil))) pa_nil))
          (pe_callB (call_reprL hr hg) (by rfl) Z.nRepr (by decide +kernel) (pa_cons (pe_lst (pa_cons (pv 5) (pa_cons (pv 5) pa_nil))) pa_nil)) (nomark _)) (pss_one ps_never) pss_nil)
      (pss_cons (ps_set (i := 6) nd rfl (Or.inl rfl) (pe_cmpR op_isN (pv 5) pe_non (nomark _)))
      (pss_cons (ps_set (i := 7) nd rfl (Or.inl rfl) (pe_lst (pa_cons (pe_cmpR (op_eqOwn FE hr7 mE.1 mE.2 bE pass0) (pe_ix ix_list (pv 3) pe_int (fun _ _ => rfl)) (pe_ix ix_list (pv 3) pe_int (fun _ _ => rfl)) (nomark _))
          (pa_cons (pe_cmpR (op_eqOwn FE hr7 mE.1 mE.2 bE pass0) (pe_ix ix_list (pv 3) pe_int (fun _ _ => rfl)) (pe_ix ix_list (pv 3) pe_int (fun _ _ => rfl)) (nomark _))
          (pa_cons (pe_cmpR (op_neOwn FE hr mE.1 mE.2 Z.dNe Z.sObj bE pass0) (pe_ix ix_list (pv 3) pe_int (fun _ _ => rfl)) (pe_ix ix_list (pv 3) pe_int (fun _ _ => rfl)) (nomark _))
          (pa_cons (pe_cmpR (op_inOwn FE hr mE.1 Z.fDD Z.sNone mE.2 bE pass0) (pe_ix ix_list (pv 3) pe_int (fun _ _ => rfl)) (pe_lst (pa_cons pe_non (pa_cons (pe_ix ix_list (pv 3) pe_int (fun _ _ => rfl)) pa_nil))) (by rfl)) pa_nil))))))
      (pss_cons (ps_if (PW.pt (pw_or (pt_cmpR op_ne (pe_callB (call_reprL hr hg) (by rfl) Z.nRepr (by decide +kernel) (pa_cons (pv 7) pa_nil)) (pe_callB (call_reprL hr hg) (by rfl) Z.nRepr (by decide +kernel) (pa_cons (pe_lst (pa_cons (pv 6) (pa_cons (pv 6) (pa_cons (pe_not (pv 6)) (pa_cons (pv 6) pa_nil))))) pa_nil)) (nomark _))
          (pw_or1 (pt_not (pt_cmpR (op_eqOwn FE hr7 mE.1 mE.2 bE pass0) (pe_ix ix_list (pv 3) pe_int (fun _ _ => rfl)) (pe_cal cMade hr7 rfl (pa_cons (pe_ix ix_tup (pv 2) pe_int (fun _ _ => rfl)) pa_nil)) (nomark _)))))) (pss_one ps_never) pss_nil)
      (pss_cons (ps_if (PW.pt (pw_or (pt_cmpR op_notN (pe_cal cA hr6 rfl (pa_cons (pe_ix ix_list (pv 3) pe_int (fun _ _ => rfl)) (pa_cons (pe_ix ix_list (pv 3) pe_int (fun _ _ => rfl)) pa_nil))) pe_non (nomark _))
          (pw_or1 (pt_not (pt_val (pe_cal cUn hr rfl (pa_cons (pe_ix ix_list (pv 3) pe_int (fun _ _ => rfl)) (pa_cons (pe_ix ix_tup (pv 2) pe_int (fun _ _ => rfl)) pa_nil)))))))) (pss_one ps_never) pss_nil)
      (pss_one (ps_if (pt_cmpR (op_neD hr.units) (pe_lst (pa_cons (pe_callTy (call_strOwn FS hr6 mS.1 mS.2 bS pass0) (by rfl) Z.nStr (by decide +kernel) (pa_cons (pe_ix ix_list (pv 3) pe_int (fun _ _ => rfl)) pa_nil)) (pa_cons (pe_callTy (call_strOwn FS hr6 mS.1 mS.2 bS pass0) (by rfl) Z.nStr (by decide +kernel) (pa_cons (pe_ix ix_list (pv 3) pe_int (fun _ _ => rfl)) pa_nil)) pa_nil))) (pv 4) (nomark _)) (pss_one ps_never) pss_nil)))))))))))))
    (pss_one (ps_ret pe_bl))), ?_⟩
  refine ⟨_, rfl, a, _, rfl, .inl hS, _, _, rfl, _, _, rfl, _, rfl, ?_, ?_, ?_⟩
  · split <;> split <;> omega
  · split <;> split <;> omega
  refine for_range (fun i σ H' => ∃ v1 v2 v3 v4 v5 v6 v7, σ = [some (.ref a), v1, v2, v3, v4, v5, v6, v7] ∧ Same H H') ⟨none, none, none, none, none, none, none, rfl, same_rfl⟩ ?_ (fun σ H' _ => rfl)
  rintro i σ H0 hi ⟨v1, v2, v3, v4, v5, v6, v7, rfl, s0⟩
  have hi2 : i < 2 := by
    refine Nat.lt_of_lt_of_le hi ?_
    split <;> split <;> omega
  clear hi
  -- some_here
  refine ⟨_, rfl, _, rfl, a, ns, i, by rw [Int.zero_add]; rfl, s0.seq hS, hi2, fun pt H1 hp0 s1 pot1 => ?_⟩
  refine ⟨pt, rfl, pot1, fun d e t1 t2 pr H2 okd oke b2 sd se hpr => ?_⟩
  have s02 : Same H H2 := s0.tr (s1.but b2 hp0)
  -- made_here
  refine ⟨_, rfl, pr, _, _, _, rfl, rfl, SqT.of hpr, rfl, t1, d, rfl, okd, sd, fun d' m0 H3 lk0 s3 hm0 _ => ?_⟩
  refine ⟨_, rfl, pr, _, _, _, rfl, rfl, SqT.of (s3 _ _ hpr), rfl, t2, e, rfl, oke, se.same s3, fun e' m1 H4 lk1 s4 hm1 new1 => ⟨(by show 2 ≤ sizeLine; decide), fun M hM => ?_⟩⟩
  have okd' := lk0.ok okd
  have oke' := lk1.ok oke
  have ne10 : m1 ≠ m0 := by
    obtain ⟨_, _, _, _, q, _⟩ := id hm0
    exact (ne_of_none q new1).symm
  have s5 : Same H4 (upd H4 M (.lst [.ref m0, .ref m1])) := same_new hM
  have gM : upd H4 M (.lst [.ref m0, .ref m1]) M = some (.lst [.ref m0, .ref m1]) := upd_same
  replace hm0 := (hm0.same s4).same s5
  replace hm1 := hm1.same s5
  replace hpr := s5 _ _ (s4 _ _ (s3 _ _ hpr))
  replace sd := ((sd.same s3).same s4).same s5
  replace se := ((se.same s3).same s4).same s5
  have s05 : Same H (upd H4 M (.lst [.ref m0, .ref m1])) := s02.tr (s3.tr (s4.tr s5))
  generalize upd H4 M (.lst [.ref m0, .ref m1]) = B at gM hm0 hm1 hpr sd se s05
  clear s5 s4 s3 s02 b2 s1 s0 pot1 hp0 hM new1 hS
  obtain ⟨dx0, r0, o0, l0, q0, _⟩ := id hm0
  obtain ⟨dx1, r1, o1, l1, q1, _⟩ := id hm1
  have at0 : atI [V.ref m0, V.ref m1] (0 : Int) = some (.ref m0) := rfl
  have at1 : atI [V.ref m0, V.ref m1] (1 : Int) = some (.ref m1) := rfl
  have tat0 : atI [V.ref t1, V.ref t2] (0 : Int) = some (.ref t1) := rfl
  have tat1 : atI [V.ref t1, V.ref t2] (1 : Int) = some (.ref t2) := rfl
  -- shown
  refine ⟨_, rfl, M, _, _, _, rfl, rfl, SqL.of gM, at0, m0, _, _, rfl, q0, m0, d', rfl, okd', hm0, fun H6 s6 => ⟨_, rfl, ?_⟩⟩
  refine ⟨_, rfl, M, _, _, _, rfl, rfl, SqL.of (s6 _ _ gM), at1, m1, _, _, rfl, s6 _ _ q1, m1, e', rfl, oke', hm1.same s6, fun H7 s7 => ⟨_, rfl, (by show 2 ≤ sizeLine; decide), fun S hS => ?_⟩⟩
  have s67 := s6.tr s7
  have s8 : Same B (upd H7 S (.lst [.str (dayText d'), .str (dayText e')])) := s67.tr (same_new hS)
  have gS : upd H7 S (.lst [.str (dayText d'), .str (dayText e')]) S = some (.lst [.str (dayText d'), .str (dayText e')]) := upd_same
  generalize upd H7 S (.lst [.str (dayText d'), .str (dayText e')]) = C at s8 gS
  clear s67 s7 s6 hS
  -- found
  refine ⟨_, rfl, M, _, _, _, rfl, rfl, SqL.of (s8 _ _ gM), at0, _, rfl, M, _, _, _, rfl, rfl, SqL.of (s8 _ _ gM), at1, m0, m1, d', e', rfl, okd', oke', hm0.same s8, hm1.same s8, fun r C1 ap bd s9 => ?_⟩
  have t9 := s8.tr s9
  have apd : Apart (fun x => d.has x) (fun x => e.has x) r := by
    have := ap
    rw [lk0.has', lk1.has'] at this
    exact this
  -- right
  refine ⟨_, rfl, _, rfl, pr, _, _, _, rfl, rfl, SqT.of (t9 _ _ hpr), tat0, _, rfl, pr, _, _, _, rfl, rfl, SqT.of (t9 _ _ hpr), tat1, t1, t2, d, e, r, rfl, okd, oke, sd.same t9, se.same t9, apd, fun C2 s10 => ⟨true, rfl, iteF ?_⟩⟩
  have t10 := t9.tr s10
  -- repr
  refine ⟨_, rfl, M, _, _, _, rfl, rfl, SqL.of (t10 _ _ gM), at1, _, rfl, M, _, _, _, rfl, rfl, SqL.of (t10 _ _ gM), at0, m1, m0, e', d', rfl, oke', okd', hm1.same t10, hm0.same t10, fun r1 C3 ap1 bd1 s11 => ?_⟩
  have t11 := t10.tr s11
  refine ⟨_, rfl, M, _, _, _, rfl, rfl, SqL.of (t11 _ _ gM), at1, _, rfl, M, _, _, _, rfl, rfl, SqL.of (t11 _ _ gM), at0, m0, m1, d', e', rfl, okd', oke', hm0.same t11, hm1.same t11, fun r2 C4 ap2 bd2 s12 => ?_⟩
  have er1 : r1 = r := ap1.symm.uniq ap
  have er2 : r2 = r := ap2.uniq ap
  rw [er1, er2]
  have t12 := t11.tr s12
  have fl2 : ∀ x ∈ [optV r, optV r], flatR x = true := fun x hx => by
    simp only [List.mem_cons, List.not_mem_nil, or_false, or_self] at hx
    rw [hx]
    exact flat_opt (L2.Apart.nn ap) bd
  refine ⟨(by show 2 ≤ sizeLine; decide), fun l hl => ⟨l, _, rfl, upd_same, fl2, by show 2 ≤ 8; decide, ?_⟩⟩
  have s13 : Same C4 (upd C4 l (.lst [optV r, optV r])) := same_new hl
  generalize upd C4 l (.lst [optV r, optV r]) = C5 at s13
  refine ⟨_, rfl, _, rfl, (by show 2 ≤ sizeLine; decide), fun l2 hl2 => ⟨l2, _, rfl, upd_same, fl2, by show 2 ≤ 8; decide, rfl, false, by simp, iteF ?_⟩⟩
  have s14 : Same C5 (upd C5 l2 (.lst [optV r, optV r])) := same_new hl2
  generalize upd C5 l2 (.lst [optV r, optV r]) = C6 at s14
  have t14 := t12.tr (s13.tr s14)
  -- due
  refine ⟨_, rfl, rfl, ?_⟩
  rw [due_eq r]
  generalize hb : decide (r = none) = b
  -- told
  refine ⟨_, rfl, M, _, _, _, rfl, rfl, SqL.of (t14 _ _ gM), at0, _, rfl, M, _, _, _, rfl, rfl, SqL.of (t14 _ _ gM), at1, m0, _, _, _, rfl, t14 _ _ q0, .ins (t14 _ _ q1), Z.fDD, .inl ⟨m0, m1, d', e', rfl, okd', oke', hm0.same t14, hm1.same t14, fun ra C7 apa s15 => ⟨_, rfl, ?_⟩⟩⟩
  rw [apa.uniq ap, hb]
  have t15 := t14.tr s15
  refine ⟨_, rfl, M, _, _, _, rfl, rfl, SqL.of (t15 _ _ gM), at1, _, rfl, M, _, _, _, rfl, rfl, SqL.of (t15 _ _ gM), at0, m1, _, _, _, rfl, t15 _ _ q1, .ins (t15 _ _ q0), Z.fDD, .inl ⟨m1, m0, e', d', rfl, oke', okd', hm1.same t15, hm0.same t15, fun rb C8 apb s16 => ⟨_, rfl, ?_⟩⟩⟩
  rw [apb.symm.uniq ap, hb]
  have t16 := t15.tr s16
  refine ⟨_, rfl, M, _, _, _, rfl, rfl, SqL.of (t16 _ _ gM), at0, _, rfl, M, _, _, _, rfl, rfl, SqL.of (t16 _ _ gM), at1, m0, _, _, _, rfl, t16 _ _ q0, .ins (t16 _ _ q1), Z.fDD, .inl ⟨m0, m1, d', e', rfl, okd', oke', hm0.same t16, hm1.same t16, fun rc C9 apc s17 => ⟨_, rfl, ?_⟩⟩⟩
  rw [apc.uniq ap, hb]
  have t17 := t16.tr s17
  refine ⟨_, rfl, M, _, _, _, rfl, rfl, SqL.of (t17 _ _ gM), at0, _, rfl, M, _, _, _, rfl, rfl, SqL.of (t17 _ _ gM), at1, (by show 2 ≤ sizeLine; decide), fun N hN => ?_⟩
  have s18 : Same C9 (upd C9 N (.lst [.non, .ref m1])) := same_new hN
  have gN : upd C9 N (.lst [.non, .ref m1]) N = some (.lst [.non, .ref m1]) := upd_same
  generalize upd C9 N (.lst [.non, .ref m1]) = D0 at s18 gN
  have t18 := t17.tr s18
  refine ⟨m0, _, _, N, m1, rfl, t18 _ _ q0, rfl, gN, ne10, .inr ⟨m0, .non, _, rfl, .base .non, Z.kNoneD, false, rfl, rfl, gN, _, _, _, _, t18 _ _ q1, t18 _ _ q0, .inl ⟨m1, m0, e', d', rfl, oke', okd', hm1.same t18, hm0.same t18, fun rd D1 apd2 s19 => ⟨_, rfl, ⟨_, rfl⟩, s19 _ _ gN, ?_⟩⟩⟩⟩
  rw [apd2.symm.uniq ap, hb]
  have t19 := t18.tr s19
  refine ⟨(by show 4 ≤ sizeLine; decide), fun TL hTL => ?_⟩
  have s20 : Same D1 (upd D1 TL (.lst [.bl b, .bl b, .bl (!b), .bl b])) := same_new hTL
  have gT : upd D1 TL (.lst [.bl b, .bl b, .bl (!b), .bl b]) TL = some (.lst [.bl b, .bl b, .bl (!b), .bl b]) := upd_same
  generalize upd D1 TL (.lst [.bl b, .bl b, .bl (!b), .bl b]) = D2 at s20 gT
  have t20 := t19.tr s20
  have fl4 : ∀ x ∈ [V.bl b, .bl b, .bl (!b), .bl b], flatR x = true := fun x hx => by
    simp only [List.mem_cons, List.not_mem_nil, or_false] at hx
    rcases hx with rfl | rfl | rfl | rfl <;> rfl
  -- repr(told)
  refine ⟨_, rfl, TL, _, rfl, gT, fl4, by show 4 ≤ 8; decide, ?_⟩
  refine ⟨_, rfl, _, rfl, _, rfl, _, rfl, _, rfl, (by show 4 ≤ sizeLine; decide), fun l3 hl3 => ⟨l3, _, rfl, upd_same, fl4, by show 4 ≤ 8; decide, rfl, false, by simp, iteF ?_⟩⟩
  have s21 : Same D2 (upd D2 l3 (.lst [.bl b, .bl b, .bl (!b), .bl b])) := same_new hl3
  generalize upd D2 l3 (.lst [.bl b, .bl b, .bl (!b), .bl b]) = D3 at s21
  have t21 := t20.tr s21
  refine ⟨_, rfl, M, _, _, _, rfl, rfl, SqL.of (t21 _ _ gM), at0, _, rfl, pr, _, _, _, rfl, rfl, SqT.of (t21 _ _ hpr), tat0, t1, d, rfl, okd, sd.same t21, fun d2 m2 D4 lk2 s22 hm2 _ => ?_⟩
  have t22 := t21.tr s22
  obtain ⟨dx2, r2', o2, l2', q2, _⟩ := id hm2
  refine ⟨m0, _, _, _, rfl, t22 _ _ q0, .ins q2, Z.fDD, .inl ⟨m0, m2, d', d2, rfl, okd', lk2.ok okd, hm0.same t22, hm2, fun re D5 ape s23 => ⟨_, rfl, true, ?_, iteF ?_⟩⟩⟩
  · have e1 : re = none := by
      rw [lk0.has', lk2.has'] at ape
      exact ape.uniq (Apart.self _)
    rw [e1]
    rfl
  have t23 := t22.tr s23
  -- none apart from itself
  refine ⟨_, rfl, M, _, _, _, rfl, rfl, SqL.of (t23 _ _ gM), at0, _, rfl, M, _, _, _, rfl, rfl, SqL.of (t23 _ _ gM), at0, m0, m0, d', d', rfl, okd', okd', hm0.same t23, hm0.same t23, fun rf D6 apf _ s24 => ⟨rfl, false, ?_, iteF ?_⟩⟩
  · have e1 : rf = none := apf.uniq (Apart.self _)
    rw [e1]
    rfl
  have t24 := t23.tr s24
  refine ⟨_, rfl, M, _, _, _, rfl, rfl, SqL.of (t24 _ _ gM), at1, _, rfl, pr, _, _, _, rfl, rfl, SqT.of (t24 _ _ hpr), tat1, m1, t2, e', e, rfl, oke', hm1.same t24, oke.z, se.same t24, fun D7 s25 => ⟨true, rfl, iteF ?_⟩⟩
  have t25 := t24.tr s25
  -- shown again
  refine ⟨_, rfl, M, _, _, _, rfl, rfl, SqL.of (t25 _ _ gM), at0, m0, _, _, rfl, t25 _ _ q0, m0, d', rfl, okd', hm0.same t25, fun D8 s26 => ⟨_, rfl, ?_⟩⟩
  have t26 := t25.tr s26
  refine ⟨_, rfl, M, _, _, _, rfl, rfl, SqL.of (t26 _ _ gM), at1, m1, _, _, rfl, t26 _ _ q1, m1, e', rfl, oke', hm1.same t26, fun D9 s27 => ⟨_, rfl, (by show 2 ≤ sizeLine; decide), fun l4 hl4 => ?_⟩⟩
  have s28 : Same D9 (upd D9 l4 (.lst [.str (dayText d'), .str (dayText e')])) := same_new hl4
  have g28 : upd D9 l4 (.lst [.str (dayText d'), .str (dayText e')]) l4 = some (.lst [.str (dayText d'), .str (dayText e')]) := upd_same
  generalize upd D9 l4 (.lst [.str (dayText d'), .str (dayText e')]) = D10 at s28 g28
  have t28 := t26.tr (s27.tr s28)
  have sh : SeqAt.shaped (.list [.str (dayText d'), .str (dayText e')]) = true := by
    unfold SeqAt.shaped
    simp [PyData.canLay0, PyData.canLayAll0, PyData.depth, PyData.depthAll, strOk_day okd'.z, strOk_day oke'.z]
  have sC : Same C D10 := s9.tr (s10.tr (s11.tr (s12.tr (s13.tr (s14.tr (s15.tr (s16.tr (s17.tr (s18.tr (s19.tr (s20.tr (s21.tr (s22.tr (s23.tr (s24.tr (s25.tr (s26.tr (s27.tr s28))))))))))))))))))
  refine ⟨_, rfl, .list [.str (dayText d'), .str (dayText e')], .list [.str (dayText d'), .str (dayText e')], .lst (SqL.of g28) (.cons (.str _) (.cons (.str _) .nil)), .lst (SqL.of (sC _ _ gS)) (.cons (.str _) (.cons (.str _) .nil)), sh, sh, false, ?_, iteF ?_⟩
  · rw [SeqAt.eqv_refl _ (SeqAt.canLay_of_shaped sh)]
    rfl
  · exact ⟨_, _, _, _, _, _, _, rfl, s05.tr t28⟩
end
end L2
/-! All facts of the top joined (printed by gen_head.py). -/
namespace L2
open PySem PySem.Spec PyProof.Rows Fa

theorem kit_self {K : PySem.W.Frag} {C : Addr} : PySem.W.kitOne K (.ref C) (.ref C) = some true := if_pos (beq_self_eq_true _)
theorem kit_own {K : PySem.W.Frag} {C : Addr} {t : Value} {cl : ClassData} {b : Bool} (h1 : PySem.W.clsIn K C = some cl) (h2 : PySem.W.typeIn K (.ref C) = some (.type "type")) (h3 : PySem.W.subIn K t (.ref C) = some b) (hne : (t == .ref C) = false) : PySem.W.kitOne K t (.ref C) = some b := by
  unfold PySem.W.kitOne
  rw [hne]
  have e : ((PySem.W.clsIn K C).isSome && PySem.W.typeIn K (.ref C) == some (.type "type")) = true := by
    rw [h1, h2]
    simp
  show (if ((PySem.W.clsIn K C).isSome && PySem.W.typeIn K (.ref C) == some (.type "type")) = true then PySem.W.subIn K t (.ref C) else none) = some b
  rw [if_pos e]
  exact h3
theorem gK_len : ∀ (us ws : List Value), (gK us ws).length = 2 → us = [] ∧ ∃ a b, ws = [a, b]
  | [], [a, b], _ => ⟨rfl, a, b, rfl⟩
  | [], [], h => absurd (show (0 : Nat) = 2 from h) (by decide)
  | [], [_], h => absurd (show (0 : Nat) = 2 from h) (by decide)
  | [], _ :: _ :: _ :: _, h => absurd (show (0 : Nat) = 2 from h) (by decide)
  | _ :: _, _, h => absurd (show (0 : Nat) = 2 from h) (by decide)
theorem gK_rel : ∀ {vs : List V} {us : List Value} {zs : List V} {ws : List Value}, Vals vs us → Vals zs ws → Vals (gKV vs zs) (gK us ws)
  | _, _, _, _, .nil, .cons a (.cons b .nil) => .cons b (.cons a .nil)
  | _, _, _, _, .nil, .nil => .nil
  | _, _, _, _, .nil, .cons _ .nil => .nil
  | _, _, _, _, .nil, .cons _ (.cons _ (.cons _ _)) => .nil
  | _, _, _, _, .cons _ _, _ => .nil
theorem apart_kw {K : PySem.W.Frag} {f : Addr} {fd : FuncData} (F : Fun K "first_apart" "first_apart" T.apart f fd) : KBinds K fd ["one", "other"] ["other", "one"] gK gKV := by
  obtain ⟨oc, od, kV, doc, pm, an, cdv, ct, osl, rfl, lk, hcd⟩ := F.ex
  refine ⟨fun s us ws _ hl => ?_, gK_rel⟩
  obtain ⟨rfl, a, b, rfl⟩ := gK_len us ws hl
  exact .of_eq rfl

set_option maxHeartbeats 4000000 in
theorem all_mk {l : PySem.W.OpenLaw} {w : World} {K : PySem.W.Frag} {h : Heap} {mg : Str → Option Value} {fa CR CD : Addr} {n : Nat} (X : K.In h) (G : h.Ns mainGlobals mg) (hfa : mg "law" = some (.ref fa))
    {fg0 : Addr} {odg0 ang0 : Option Addr} {ocg0 kVg0 dcg0 pmg0 cdg0 ctg0 : Value} {slg0 : Array (Option Value)}
    {fg1 : Addr} {odg1 ang1 : Option Addr} {ocg1 kVg1 dcg1 pmg1 cdg1 ctg1 : Value} {slg1 : Array (Option Value)}
    {fg2 : Addr} {odg2 ang2 : Option Addr} {ocg2 kVg2 dcg2 pmg2 cdg2 ctg2 : Value} {slg2 : Array (Option Value)}
    {fg3 : Addr} {odg3 ang3 : Option Addr} {ocg3 kVg3 dcg3 pmg3 cdg3 ctg3 : Value} {slg3 : Array (Option Value)}
    {fg4 : Addr} {odg4 ang4 : Option Addr} {ocg4 kVg4 dcg4 pmg4 cdg4 ctg4 : Value} {slg4 : Array (Option Value)}
    {fg5 : Addr} {odg5 ang5 : Option Addr} {ocg5 kVg5 dcg5 pmg5 cdg5 ctg5 : Value} {slg5 : Array (Option Value)}
    {fg6 : Addr} {odg6 ang6 : Option Addr} {ocg6 kVg6 dcg6 pmg6 cdg6 ctg6 : Value} {slg6 : Array (Option Value)}
    {fg7 : Addr} {odg7 ang7 : Option Addr} {ocg7 kVg7 dcg7 pmg7 cdg7 ctg7 : Value} {slg7 : Array (Option Value)}
    {fg8 : Addr} {odg8 ang8 : Option Addr} {ocg8 kVg8 dcg8 pmg8 cdg8 ctg8 : Value} {slg8 : Array (Option Value)}
    {fg9 : Addr} {odg9 ang9 : Option Addr} {ocg9 kVg9 dcg9 pmg9 cdg9 ctg9 : Value} {slg9 : Array (Option Value)}
    {fg10 : Addr} {odg10 ang10 : Option Addr} {ocg10 kVg10 dcg10 pmg10 cdg10 ctg10 : Value} {slg10 : Array (Option Value)}
    {fg11 : Addr} {odg11 ang11 : Option Addr} {ocg11 kVg11 dcg11 pmg11 cdg11 ctg11 : Value} {slg11 : Array (Option Value)}
    {fg12 : Addr} {odg12 ang12 : Option Addr} {ocg12 kVg12 dcg12 pmg12 cdg12 ctg12 : Value} {slg12 : Array (Option Value)}
    {fg13 : Addr} {odg13 ang13 : Option Addr} {ocg13 kVg13 dcg13 pmg13 cdg13 ctg13 : Value} {slg13 : Array (Option Value)}
    {fg14 : Addr} {odg14 ang14 : Option Addr} {ocg14 kVg14 dcg14 pmg14 cdg14 ctg14 : Value} {slg14 : Array (Option Value)}
    {fg15 : Addr} {odg15 ang15 : Option Addr} {ocg15 kVg15 dcg15 pmg15 cdg15 ctg15 : Value} {slg15 : Array (Option Value)}
    {fg16 : Addr} {odg16 ang16 : Option Addr} {ocg16 kVg16 dcg16 pmg16 cdg16 ctg16 : Value} {slg16 : Array (Option Value)}
    {fg17 : Addr} {odg17 ang17 : Option Addr} {ocg17 kVg17 dcg17 pmg17 cdg17 ctg17 : Value} {slg17 : Array (Option Value)}
    {fg18 : Addr} {odg18 ang18 : Option Addr} {ocg18 kVg18 dcg18 pmg18 cdg18 ctg18 : Value} {slg18 : Array (Option Value)}
    {fg19 : Addr} {odg19 ang19 : Option Addr} {ocg19 kVg19 dcg19 pmg19 cdg19 ctg19 : Value} {slg19 : Array (Option Value)}
    {fg20 : Addr} {odg20 ang20 : Option Addr} {ocg20 kVg20 dcg20 pmg20 cdg20 ctg20 : Value} {slg20 : Array (Option Value)}
    {fg21 : Addr} {odg21 ang21 : Option Addr} {ocg21 kVg21 dcg21 pmg21 cdg21 ctg21 : Value} {slg21 : Array (Option Value)}
    {fg22 : Addr} {odg22 ang22 : Option Addr} {ocg22 kVg22 dcg22 pmg22 cdg22 ctg22 : Value} {slg22 : Array (Option Value)}
    {fg23 : Addr} {odg23 ang23 : Option Addr} {ocg23 kVg23 dcg23 pmg23 cdg23 ctg23 : Value} {slg23 : Array (Option Value)}
    {fg24 : Addr} {odg24 ang24 : Option Addr} {ocg24 kVg24 dcg24 pmg24 cdg24 ctg24 : Value} {slg24 : Array (Option Value)}
    {fg25 : Addr} {odg25 ang25 : Option Addr} {ocg25 kVg25 dcg25 pmg25 cdg25 ctg25 : Value} {slg25 : Array (Option Value)}
    {fm0 : Addr} {odm0 anm0 : Option Addr} {ocm0 kVm0 dcm0 pmm0 cdm0 ctm0 : Value} {slm0 : Array (Option Value)}
    {fm1 : Addr} {odm1 anm1 : Option Addr} {ocm1 kVm1 dcm1 pmm1 cdm1 ctm1 : Value} {slm1 : Array (Option Value)}
    {fm2 : Addr} {odm2 anm2 : Option Addr} {ocm2 kVm2 dcm2 pmm2 cdm2 ctm2 : Value} {slm2 : Array (Option Value)}
    {fm3 : Addr} {odm3 anm3 : Option Addr} {ocm3 kVm3 dcm3 pmm3 cdm3 ctm3 : Value} {slm3 : Array (Option Value)}
    {fm4 : Addr} {odm4 anm4 : Option Addr} {ocm4 kVm4 dcm4 pmm4 cdm4 ctm4 : Value} {slm4 : Array (Option Value)}
    {fm5 : Addr} {odm5 anm5 : Option Addr} {ocm5 kVm5 dcm5 pmm5 cdm5 ctm5 : Value} {slm5 : Array (Option Value)}
    {TT tn : Nat} {tc : Value} {td : Option Addr} {its : Array Value} {tsl : Array (Option Value)}
    {fm6 : Addr} {odm6 anm6 : Option Addr} {ocm6 kVm6 dcm6 pmm6 cdm6 ctm6 : Value} {slm6 : Array (Option Value)}
    {fm7 : Addr} {odm7 anm7 : Option Addr} {ocm7 kVm7 dcm7 pmm7 cdm7 ctm7 : Value} {slm7 : Array (Option Value)}
    {fm8 : Addr} {odm8 anm8 : Option Addr} {ocm8 kVm8 dcm8 pmm8 cdm8 ctm8 : Value} {slm8 : Array (Option Value)}
    {clR : ClassData}
    {clD : ClassData}
    {tcMostSigns : Tok}
    {tcNought : Tok}
    {tcOne : Tok}
    {tcMostDays : Tok}
    {tcFrom : Tok}
    {tcTo : Tok}
    {tcNot : Tok}
    {tcAlso : Tok}
    (aR : PySem.W.nsIn K mainGlobals "Ring" = some (some (.ref CR)))
    (aD : PySem.W.nsIn K mainGlobals "Days" = some (some (.ref CD)))
    (ag0 : PySem.W.nsIn K mainGlobals "is_whole" = some (some (.ref fg0)))
    (lg0 : K.lookup fg0 = some ⟨ocg0, odg0, .func (PySem.W.fnOf "is_whole" "is_whole" (defArgs T.isWhole) (defBody T.isWhole) (defScope T.isWhole) .none kVg0 dcg0 pmg0 ang0 cdg0 ctg0), slg0⟩)
    (cg0 : PySem.W.codeIn K cdg0 "is_whole" = true)
    (kg0 : PySem.W.keepIn K (.ref fg0) = true)
    (ag1 : PySem.W.nsIn K mainGlobals "is_moment" = some (some (.ref fg1)))
    (lg1 : K.lookup fg1 = some ⟨ocg1, odg1, .func (PySem.W.fnOf "is_moment" "is_moment" (defArgs T.isMoment) (defBody T.isMoment) (defScope T.isMoment) .none kVg1 dcg1 pmg1 ang1 cdg1 ctg1), slg1⟩)
    (cg1 : PySem.W.codeIn K cdg1 "is_moment" = true)
    (kg1 : PySem.W.keepIn K (.ref fg1) = true)
    (ag2 : PySem.W.nsIn K mainGlobals "want_day" = some (some (.ref fg2)))
    (lg2 : K.lookup fg2 = some ⟨ocg2, odg2, .func (PySem.W.fnOf "want_day" "want_day" (defArgs T.wantDay) (defBody T.wantDay) (defScope T.wantDay) .none kVg2 dcg2 pmg2 ang2 cdg2 ctg2), slg2⟩)
    (cg2 : PySem.W.codeIn K cdg2 "want_day" = true)
    (kg2 : PySem.W.keepIn K (.ref fg2) = true)
    (ag3 : PySem.W.nsIn K mainGlobals "are_signs" = some (some (.ref fg3)))
    (lg3 : K.lookup fg3 = some ⟨ocg3, odg3, .func (PySem.W.fnOf "are_signs" "are_signs" (defArgs T.areSigns) (defBody T.areSigns) (defScope T.areSigns) .none kVg3 dcg3 pmg3 ang3 cdg3 ctg3), slg3⟩)
    (cg3 : PySem.W.codeIn K cdg3 "are_signs" = true)
    (kg3 : PySem.W.keepIn K (.ref fg3) = true)
    (ag4 : PySem.W.nsIn K mainGlobals "told_days" = some (some (.ref fg4)))
    (lg4 : K.lookup fg4 = some ⟨ocg4, odg4, .func (PySem.W.fnOf "told_days" "told_days" (defArgs T.toldDays) (defBody T.toldDays) (defScope T.toldDays) .none kVg4 dcg4 pmg4 ang4 cdg4 ctg4), slg4⟩)
    (cg4 : PySem.W.codeIn K cdg4 "told_days" = true)
    (kg4 : PySem.W.keepIn K (.ref fg4) = true)
    (ag5 : PySem.W.nsIn K mainGlobals "want_till" = some (some (.ref fg5)))
    (lg5 : K.lookup fg5 = some ⟨ocg5, odg5, .func (PySem.W.fnOf "want_till" "want_till" (defArgs T.wantTill) (defBody T.wantTill) (defScope T.wantTill) .none kVg5 dcg5 pmg5 ang5 cdg5 ctg5), slg5⟩)
    (cg5 : PySem.W.codeIn K cdg5 "want_till" = true)
    (kg5 : PySem.W.keepIn K (.ref fg5) = true)
    (ag6 : PySem.W.nsIn K mainGlobals "edges_of" = some (some (.ref fg6)))
    (lg6 : K.lookup fg6 = some ⟨ocg6, odg6, .func (PySem.W.fnOf "edges_of" "edges_of" (defArgs T.edgesOf) (defBody T.edgesOf) (defScope T.edgesOf) .none kVg6 dcg6 pmg6 ang6 cdg6 ctg6), slg6⟩)
    (cg6 : PySem.W.codeIn K cdg6 "edges_of" = true)
    (kg6 : PySem.W.keepIn K (.ref fg6) = true)
    (ag7 : PySem.W.nsIn K mainGlobals "stretches" = some (some (.ref fg7)))
    (lg7 : K.lookup fg7 = some ⟨ocg7, odg7, .func (PySem.W.fnOf "stretches" "stretches" (defArgs T.stretches) (defBody T.stretches) (defScope T.stretches) .none kVg7 dcg7 pmg7 ang7 cdg7 ctg7), slg7⟩)
    (cg7 : PySem.W.codeIn K cdg7 "stretches" = true)
    (kg7 : PySem.W.keepIn K (.ref fg7) = true)
    (ag8 : PySem.W.nsIn K mainGlobals "first_days" = some (some (.ref fg8)))
    (lg8 : K.lookup fg8 = some ⟨ocg8, odg8, .func (PySem.W.fnOf "first_days" "first_days" (defArgs T.firstDays) (defBody T.firstDays) (defScope T.firstDays) .none kVg8 dcg8 pmg8 ang8 cdg8 ctg8), slg8⟩)
    (cg8 : PySem.W.codeIn K cdg8 "first_days" = true)
    (kg8 : PySem.W.keepIn K (.ref fg8) = true)
    (ag9 : PySem.W.nsIn K mainGlobals "common_round" = some (some (.ref fg9)))
    (lg9 : K.lookup fg9 = some ⟨ocg9, odg9, .func (PySem.W.fnOf "common_round" "common_round" (defArgs T.round) (defBody T.round) (defScope T.round) .none kVg9 dcg9 pmg9 ang9 cdg9 ctg9), slg9⟩)
    (cg9 : PySem.W.codeIn K cdg9 "common_round" = true)
    (kg9 : PySem.W.keepIn K (.ref fg9) = true)
    (ag10 : PySem.W.nsIn K mainGlobals "first_apart" = some (some (.ref fg10)))
    (lg10 : K.lookup fg10 = some ⟨ocg10, odg10, .func (PySem.W.fnOf "first_apart" "first_apart" (defArgs T.apart) (defBody T.apart) (defScope T.apart) .none kVg10 dcg10 pmg10 ang10 cdg10 ctg10), slg10⟩)
    (cg10 : PySem.W.codeIn K cdg10 "first_apart" = true)
    (kg10 : PySem.W.keepIn K (.ref fg10) = true)
    (ag11 : PySem.W.nsIn K mainGlobals "_law_pot" = some (some (.ref fg11)))
    (lg11 : K.lookup fg11 = some ⟨ocg11, odg11, .func (PySem.W.fnOf "_law_pot" "_law_pot" (defArgs T.lPot) (defBody T.lPot) (defScope T.lPot) .none kVg11 dcg11 pmg11 ang11 cdg11 ctg11), slg11⟩)
    (cg11 : PySem.W.codeIn K cdg11 "_law_pot" = true)
    (kg11 : PySem.W.keepIn K (.ref fg11) = true)
    (ag12 : PySem.W.nsIn K mainGlobals "_law_take" = some (some (.ref fg12)))
    (lg12 : K.lookup fg12 = some ⟨ocg12, odg12, .func (PySem.W.fnOf "_law_take" "_law_take" (defArgs T.lTake) (defBody T.lTake) (defScope T.lTake) .none kVg12 dcg12 pmg12 ang12 cdg12 ctg12), slg12⟩)
    (cg12 : PySem.W.codeIn K cdg12 "_law_take" = true)
    (kg12 : PySem.W.keepIn K (.ref fg12) = true)
    (ag13 : PySem.W.nsIn K mainGlobals "_law_great" = some (some (.ref fg13)))
    (lg13 : K.lookup fg13 = some ⟨ocg13, odg13, .func (PySem.W.fnOf "_law_great" "_law_great" (defArgs T.lGreat) (defBody T.lGreat) (defScope T.lGreat) .none kVg13 dcg13 pmg13 ang13 cdg13 ctg13), slg13⟩)
    (cg13 : PySem.W.codeIn K cdg13 "_law_great" = true)
    (kg13 : PySem.W.keepIn K (.ref fg13) = true)
    (ag14 : PySem.W.nsIn K mainGlobals "_law_bits" = some (some (.ref fg14)))
    (lg14 : K.lookup fg14 = some ⟨ocg14, odg14, .func (PySem.W.fnOf "_law_bits" "_law_bits" (defArgs T.lBits) (defBody T.lBits) (defScope T.lBits) .none kVg14 dcg14 pmg14 ang14 cdg14 ctg14), slg14⟩)
    (cg14 : PySem.W.codeIn K cdg14 "_law_bits" = true)
    (kg14 : PySem.W.keepIn K (.ref fg14) = true)
    (ag15 : PySem.W.nsIn K mainGlobals "_law_near" = some (some (.ref fg15)))
    (lg15 : K.lookup fg15 = some ⟨ocg15, odg15, .func (PySem.W.fnOf "_law_near" "_law_near" (defArgs T.lNear) (defBody T.lNear) (defScope T.lNear) .none kVg15 dcg15 pmg15 ang15 cdg15 ctg15), slg15⟩)
    (cg15 : PySem.W.codeIn K cdg15 "_law_near" = true)
    (kg15 : PySem.W.keepIn K (.ref fg15) = true)
    (ag16 : PySem.W.nsIn K mainGlobals "_law_few" = some (some (.ref fg16)))
    (lg16 : K.lookup fg16 = some ⟨ocg16, odg16, .func (PySem.W.fnOf "_law_few" "_law_few" (defArgs T.lFew) (defBody T.lFew) (defScope T.lFew) .none kVg16 dcg16 pmg16 ang16 cdg16 ctg16), slg16⟩)
    (cg16 : PySem.W.codeIn K cdg16 "_law_few" = true)
    (kg16 : PySem.W.keepIn K (.ref fg16) = true)
    (ag17 : PySem.W.nsIn K mainGlobals "_law_some" = some (some (.ref fg17)))
    (lg17 : K.lookup fg17 = some ⟨ocg17, odg17, .func (PySem.W.fnOf "_law_some" "_law_some" (defArgs T.lSome) (defBody T.lSome) (defScope T.lSome) .none kVg17 dcg17 pmg17 ang17 cdg17 ctg17), slg17⟩)
    (cg17 : PySem.W.codeIn K cdg17 "_law_some" = true)
    (kg17 : PySem.W.keepIn K (.ref fg17) = true)
    (ag18 : PySem.W.nsIn K mainGlobals "_law_has" = some (some (.ref fg18)))
    (lg18 : K.lookup fg18 = some ⟨ocg18, odg18, .func (PySem.W.fnOf "_law_has" "_law_has" (defArgs T.lHas) (defBody T.lHas) (defScope T.lHas) .none kVg18 dcg18 pmg18 ang18 cdg18 ctg18), slg18⟩)
    (cg18 : PySem.W.codeIn K cdg18 "_law_has" = true)
    (kg18 : PySem.W.keepIn K (.ref fg18) = true)
    (ag19 : PySem.W.nsIn K mainGlobals "_law_made" = some (some (.ref fg19)))
    (lg19 : K.lookup fg19 = some ⟨ocg19, odg19, .func (PySem.W.fnOf "_law_made" "_law_made" (defArgs T.lMade) (defBody T.lMade) (defScope T.lMade) .none kVg19 dcg19 pmg19 ang19 cdg19 ctg19), slg19⟩)
    (cg19 : PySem.W.codeIn K cdg19 "_law_made" = true)
    (kg19 : PySem.W.keepIn K (.ref fg19) = true)
    (ag20 : PySem.W.nsIn K mainGlobals "_law_edges" = some (some (.ref fg20)))
    (lg20 : K.lookup fg20 = some ⟨ocg20, odg20, .func (PySem.W.fnOf "_law_edges" "_law_edges" (defArgs T.lEdges) (defBody T.lEdges) (defScope T.lEdges) .none kVg20 dcg20 pmg20 ang20 cdg20 ctg20), slg20⟩)
    (cg20 : PySem.W.codeIn K cdg20 "_law_edges" = true)
    (kg20 : PySem.W.keepIn K (.ref fg20) = true)
    (ag21 : PySem.W.nsIn K mainGlobals "_law_pair" = some (some (.ref fg21)))
    (lg21 : K.lookup fg21 = some ⟨ocg21, odg21, .func (PySem.W.fnOf "_law_pair" "_law_pair" (defArgs T.lPair) (defBody T.lPair) (defScope T.lPair) .none kVg21 dcg21 pmg21 ang21 cdg21 ctg21), slg21⟩)
    (cg21 : PySem.W.codeIn K cdg21 "_law_pair" = true)
    (kg21 : PySem.W.keepIn K (.ref fg21) = true)
    (ag22 : PySem.W.nsIn K mainGlobals "_law_alike" = some (some (.ref fg22)))
    (lg22 : K.lookup fg22 = some ⟨ocg22, odg22, .func (PySem.W.fnOf "_law_alike" "_law_alike" (defArgs T.lAlike) (defBody T.lAlike) (defScope T.lAlike) .none kVg22 dcg22 pmg22 ang22 cdg22 ctg22), slg22⟩)
    (cg22 : PySem.W.codeIn K cdg22 "_law_alike" = true)
    (kg22 : PySem.W.keepIn K (.ref fg22) = true)
    (ag23 : PySem.W.nsIn K mainGlobals "_law_right" = some (some (.ref fg23)))
    (lg23 : K.lookup fg23 = some ⟨ocg23, odg23, .func (PySem.W.fnOf "_law_right" "_law_right" (defArgs T.lRight) (defBody T.lRight) (defScope T.lRight) .none kVg23 dcg23 pmg23 ang23 cdg23 ctg23), slg23⟩)
    (cg23 : PySem.W.codeIn K cdg23 "_law_right" = true)
    (kg23 : PySem.W.keepIn K (.ref fg23) = true)
    (ag24 : PySem.W.nsIn K mainGlobals "_law_unlike" = some (some (.ref fg24)))
    (lg24 : K.lookup fg24 = some ⟨ocg24, odg24, .func (PySem.W.fnOf "_law_unlike" "_law_unlike" (defArgs T.lUnlike) (defBody T.lUnlike) (defScope T.lUnlike) .none kVg24 dcg24 pmg24 ang24 cdg24 ctg24), slg24⟩)
    (cg24 : PySem.W.codeIn K cdg24 "_law_unlike" = true)
    (kg24 : PySem.W.keepIn K (.ref fg24) = true)
    (ag25 : PySem.W.nsIn K mainGlobals "law" = some (some (.ref fg25)))
    (lg25 : K.lookup fg25 = some ⟨ocg25, odg25, .func (PySem.W.fnOf "law" "law" (defArgs T.law) (defBody T.law) (defScope T.law) .none kVg25 dcg25 pmg25 ang25 cdg25 ctg25), slg25⟩)
    (cg25 : PySem.W.codeIn K cdg25 "law" = true)
    (kg25 : PySem.W.keepIn K (.ref fg25) = true)
    (am0 : PySem.W.findIn K (.ref CR) "__init__" = some (some (.ref fm0)))
    (im0 : PySem.W.isFn K (.ref fm0) = true)
    (lm0 : K.lookup fm0 = some ⟨ocm0, odm0, .func (PySem.W.fnOf "__init__" "Ring.__init__" (defArgs T.rInit) (defBody T.rInit) (defScope T.rInit) .none kVm0 dcm0 pmm0 anm0 cdm0 ctm0), slm0⟩)
    (cm0 : PySem.W.codeIn K cdm0 "Ring.__init__" = true)
    (km0 : PySem.W.keepIn K (.ref fm0) = true)
    (am1 : PySem.W.findIn K (.ref CR) "__eq__" = some (some (.ref fm1)))
    (im1 : PySem.W.isFn K (.ref fm1) = true)
    (lm1 : K.lookup fm1 = some ⟨ocm1, odm1, .func (PySem.W.fnOf "__eq__" "Ring.__eq__" (defArgs T.rEq) (defBody T.rEq) (defScope T.rEq) .none kVm1 dcm1 pmm1 anm1 cdm1 ctm1), slm1⟩)
    (cm1 : PySem.W.codeIn K cdm1 "Ring.__eq__" = true)
    (km1 : PySem.W.keepIn K (.ref fm1) = true)
    (am2 : PySem.W.findIn K (.ref CR) "__len__" = some (some (.ref fm2)))
    (im2 : PySem.W.isFn K (.ref fm2) = true)
    (lm2 : K.lookup fm2 = some ⟨ocm2, odm2, .func (PySem.W.fnOf "__len__" "Ring.__len__" (defArgs T.rLen) (defBody T.rLen) (defScope T.rLen) .none kVm2 dcm2 pmm2 anm2 cdm2 ctm2), slm2⟩)
    (cm2 : PySem.W.codeIn K cdm2 "Ring.__len__" = true)
    (km2 : PySem.W.keepIn K (.ref fm2) = true)
    (am3 : PySem.W.findIn K (.ref CR) "__str__" = some (some (.ref fm3)))
    (im3 : PySem.W.isFn K (.ref fm3) = true)
    (lm3 : K.lookup fm3 = some ⟨ocm3, odm3, .func (PySem.W.fnOf "__str__" "Ring.__str__" (defArgs T.rStr) (defBody T.rStr) (defScope T.rStr) .none kVm3 dcm3 pmm3 anm3 cdm3 ctm3), slm3⟩)
    (cm3 : PySem.W.codeIn K cdm3 "Ring.__str__" = true)
    (km3 : PySem.W.keepIn K (.ref fm3) = true)
    (am4 : PySem.W.findIn K (.ref CR) "rings" = some (some (.ref fm4)))
    (im4 : PySem.W.isFn K (.ref fm4) = true)
    (lm4 : K.lookup fm4 = some ⟨ocm4, odm4, .func (PySem.W.fnOf "rings" "Ring.rings" (defArgs T.rRings) (defBody T.rRings) (defScope T.rRings) .none kVm4 dcm4 pmm4 anm4 cdm4 ctm4), slm4⟩)
    (cm4 : PySem.W.codeIn K cdm4 "Ring.rings" = true)
    (km4 : PySem.W.keepIn K (.ref fm4) = true)
    (am5 : PySem.W.findIn K (.ref CD) "__init__" = some (some (.ref fm5)))
    (im5 : PySem.W.isFn K (.ref fm5) = true)
    (lm5 : K.lookup fm5 = some ⟨ocm5, odm5, .func (PySem.W.fnOf "__init__" "Days.__init__" (defArgs T.dInit) (defBody T.dInit) (defScope T.dInit) (.ref TT) kVm5 dcm5 pmm5 anm5 cdm5 ctm5), slm5⟩)
    (cm5 : PySem.W.codeIn K cdm5 "Days.__init__" = true)
    (km5 : PySem.W.keepIn K (.ref fm5) = true)
    (lT : K.lookup TT = some ⟨tc, td, .seq its tn, tsl⟩)
    (am6 : PySem.W.findIn K (.ref CD) "__eq__" = some (some (.ref fm6)))
    (im6 : PySem.W.isFn K (.ref fm6) = true)
    (lm6 : K.lookup fm6 = some ⟨ocm6, odm6, .func (PySem.W.fnOf "__eq__" "Days.__eq__" (defArgs T.dEq) (defBody T.dEq) (defScope T.dEq) .none kVm6 dcm6 pmm6 anm6 cdm6 ctm6), slm6⟩)
    (cm6 : PySem.W.codeIn K cdm6 "Days.__eq__" = true)
    (km6 : PySem.W.keepIn K (.ref fm6) = true)
    (am7 : PySem.W.findIn K (.ref CD) "__str__" = some (some (.ref fm7)))
    (im7 : PySem.W.isFn K (.ref fm7) = true)
    (lm7 : K.lookup fm7 = some ⟨ocm7, odm7, .func (PySem.W.fnOf "__str__" "Days.__str__" (defArgs T.dStr) (defBody T.dStr) (defScope T.dStr) .none kVm7 dcm7 pmm7 anm7 cdm7 ctm7), slm7⟩)
    (cm7 : PySem.W.codeIn K cdm7 "Days.__str__" = true)
    (km7 : PySem.W.keepIn K (.ref fm7) = true)
    (am8 : PySem.W.findIn K (.ref CD) "has" = some (some (.ref fm8)))
    (im8 : PySem.W.isFn K (.ref fm8) = true)
    (lm8 : K.lookup fm8 = some ⟨ocm8, odm8, .func (PySem.W.fnOf "has" "Days.has" (defArgs T.dHas) (defBody T.dHas) (defScope T.dHas) .none kVm8 dcm8 pmm8 anm8 cdm8 ctm8), slm8⟩)
    (cm8 : PySem.W.codeIn K cdm8 "Days.has" = true)
    (km8 : PySem.W.keepIn K (.ref fm8) = true)
    (pgR : PySem.W.plainGet K CR Str.empty = true)
    (hdR : PySem.W.hasDictIn K CR = true)
    (poR : PySem.W.plainOver K CR = true)
    (saR : PySem.W.findIn K (.ref CR) "__setattr__" = some (some (.builtin "object.__setattr__")))
    (mkR : PySem.W.makesIn K CR = true)
    (kcR : PySem.W.keepIn K (.ref CR) = true)
    (haR : PySem.W.findIn K (.ref CR) "__class__" = some (some (.builtin "object.__class__")))
    (hmR : PySem.W.mroIn K CR (.type "object") = some true)
    (csR : PySem.W.clsIn K CR = some clR)
    (tyR : PySem.W.typeIn K (.ref CR) = some (.type "type"))
    (pgD : PySem.W.plainGet K CD Str.empty = true)
    (hdD : PySem.W.hasDictIn K CD = true)
    (poD : PySem.W.plainOver K CD = true)
    (saD : PySem.W.findIn K (.ref CD) "__setattr__" = some (some (.builtin "object.__setattr__")))
    (mkD : PySem.W.makesIn K CD = true)
    (kcD : PySem.W.keepIn K (.ref CD) = true)
    (haD : PySem.W.findIn K (.ref CD) "__class__" = some (some (.builtin "object.__class__")))
    (hmD : PySem.W.mroIn K CD (.type "object") = some true)
    (csD : PySem.W.clsIn K CD = some clD)
    (tyD : PySem.W.typeIn K (.ref CD) = some (.type "type"))
    (og : PySem.W.specialIn K (.builtin "object.__class__") "__get__" = some (some (.builtin "getset_descriptor.__get__")))
    (ot : PySem.W.takesIn K (.builtin "object.__class__") = some true)
    (nBits : PySem.W.findIn K (.ref CR) "bits" = some none)
    (nAring : PySem.W.findIn K (.ref CD) "ring" = some none)
    (nAsince : PySem.W.findIn K (.ref CD) "since" = some none)
    (nAtill : PySem.W.findIn K (.ref CD) "till" = some none)
    (nAout : PySem.W.findIn K (.ref CD) "out" = some none)
    (nAalso : PySem.W.findIn K (.ref CD) "also" = some none)
    (cMostSigns : PySem.W.nsIn K mainGlobals "MOST_SIGNS" = some (some (.int 7 tcMostSigns)))
    (cNought : PySem.W.nsIn K mainGlobals "NOUGHT" = some (some (.str "0" tcNought)))
    (cOne : PySem.W.nsIn K mainGlobals "ONE" = some (some (.str "1" tcOne)))
    (cMostDays : PySem.W.nsIn K mainGlobals "MOST_DAYS" = some (some (.int 8 tcMostDays)))
    (cFrom : PySem.W.nsIn K mainGlobals "FROM" = some (some (.str "from" tcFrom)))
    (cTo : PySem.W.nsIn K mainGlobals "TO" = some (some (.str "to" tcTo)))
    (cNot : PySem.W.nsIn K mainGlobals "NOT" = some (some (.str "not" tcNot)))
    (cAlso : PySem.W.nsIn K mainGlobals "ALSO" = some (some (.str "also" tcAlso)))
    (zisinstance : PySem.W.nsIn K mainGlobals "isinstance" = some none)
    (zint : PySem.W.nsIn K mainGlobals "int" = some none)
    (zbool : PySem.W.nsIn K mainGlobals "bool" = some none)
    (zstr : PySem.W.nsIn K mainGlobals "str" = some none)
    (zlen : PySem.W.nsIn K mainGlobals "len" = some none)
    (zall : PySem.W.nsIn K mainGlobals "all" = some none)
    (zany : PySem.W.nsIn K mainGlobals "any" = some none)
    (zlist : PySem.W.nsIn K mainGlobals "list" = some none)
    (ztuple : PySem.W.nsIn K mainGlobals "tuple" = some none)
    (zsorted : PySem.W.nsIn K mainGlobals "sorted" = some none)
    (zset : PySem.W.nsIn K mainGlobals "set" = some none)
    (zzip : PySem.W.nsIn K mainGlobals "zip" = some none)
    (zrange : PySem.W.nsIn K mainGlobals "range" = some none)
    (zmin : PySem.W.nsIn K mainGlobals "min" = some none)
    (zmax : PySem.W.nsIn K mainGlobals "max" = some none)
    (zdivmod : PySem.W.nsIn K mainGlobals "divmod" = some none)
    (zrepr : PySem.W.nsIn K mainGlobals "repr" = some none)
    (sDR : PySem.W.subIn K (.ref CD) (.ref CR) = some false)
    (sRD : PySem.W.subIn K (.ref CR) (.ref CD) = some false)
    (uNone : PySem.W.subIn K (.type "NoneType") (.ref CD) = some false)
    (uBool : PySem.W.subIn K (.type "bool") (.ref CD) = some false)
    (uInt : PySem.W.subIn K (.type "int") (.ref CD) = some false)
    (uStr : PySem.W.subIn K (.type "str") (.ref CD) = some false)
    (uList : PySem.W.subIn K (.type "list") (.ref CD) = some false)
    (uTuple : PySem.W.subIn K (.type "tuple") (.ref CD) = some false)
    (uDict : PySem.W.subIn K (.type "dict") (.ref CD) = some false)
    (fDD : PySem.W.notFirst K CD (.ref CD) = true)
    (fDR : PySem.W.notFirst K CD (.ref CR) = true)
    (fRD : PySem.W.notFirst K CR (.ref CD) = true)
    (fNone : PySem.W.notFirst K CD (.type "NoneType") = true)
    (fBool : PySem.W.notFirst K CD (.type "bool") = true)
    (fInt : PySem.W.notFirst K CD (.type "int") = true)
    (fStr : PySem.W.notFirst K CD (.type "str") = true)
    (fList : PySem.W.notFirst K CD (.type "list") = true)
    (fTuple : PySem.W.notFirst K CD (.type "tuple") = true)
    (fDict : PySem.W.notFirst K CD (.type "dict") = true)
    (sNone : PySem.W.subIn K (.ref CD) (.type "NoneType") = some false)
    (sBool : PySem.W.subIn K (.ref CD) (.type "bool") = some false)
    (sInt : PySem.W.subIn K (.ref CD) (.type "int") = some false)
    (sStr : PySem.W.subIn K (.ref CD) (.type "str") = some false)
    (sList : PySem.W.subIn K (.ref CD) (.type "list") = some false)
    (sTuple : PySem.W.subIn K (.ref CD) (.type "tuple") = some false)
    (sDict : PySem.W.subIn K (.ref CD) (.type "dict") = some false)
    (sObj : PySem.W.subIn K (.ref CD) (.type "object") = some true)
    (dNe : PySem.W.findIn K (.ref CD) "__ne__" = some (some (.builtin "object.__ne__")))
    (vT : Vals [V.int 0, .non, .non, .non] its.toList)
    (nRD : (Value.ref CR == Value.ref CD) = false)
    (nDR : (Value.ref CD == Value.ref CR) = false) :
    LawKept l.prog w K mg fa n := by
  have e := hfa.symm.trans (PySem.W.mg_of X G ag25)
  cases e
  have Z : Txt K mg CR CD := {
    clR := ⟨pgR, hdR, poR, saR⟩
    clD := ⟨pgD, hdD, poD, saD⟩
    isR := ⟨haR, hmR⟩
    isD := ⟨haD, hmD⟩
    og := og
    ot := ot
    aBits := nBits
    aRing := nAring
    aSince := nAsince
    aTill := nAtill
    aOut := nAout
    aAlso := nAalso
    gR := PySem.W.mg_of X G aR
    gD := PySem.W.mg_of X G aD
    cMostSigns := ⟨_, PySem.W.mg_of X G cMostSigns, _, rfl⟩
    cNought := ⟨_, PySem.W.mg_of X G cNought, _, rfl⟩
    cOne := ⟨_, PySem.W.mg_of X G cOne, _, rfl⟩
    cMostDays := ⟨_, PySem.W.mg_of X G cMostDays, _, rfl⟩
    cFrom := ⟨_, PySem.W.mg_of X G cFrom, _, rfl⟩
    cTo := ⟨_, PySem.W.mg_of X G cTo, _, rfl⟩
    cNot := ⟨_, PySem.W.mg_of X G cNot, _, rfl⟩
    cAlso := ⟨_, PySem.W.mg_of X G cAlso, _, rfl⟩
    nIsinstance := PySem.W.mg_none_of X G zisinstance
    nInt := PySem.W.mg_none_of X G zint
    nBool := PySem.W.mg_none_of X G zbool
    nStr := PySem.W.mg_none_of X G zstr
    nLen := PySem.W.mg_none_of X G zlen
    nAll := PySem.W.mg_none_of X G zall
    nAny := PySem.W.mg_none_of X G zany
    nList := PySem.W.mg_none_of X G zlist
    nTuple := PySem.W.mg_none_of X G ztuple
    nSorted := PySem.W.mg_none_of X G zsorted
    nSet := PySem.W.mg_none_of X G zset
    nZip := PySem.W.mg_none_of X G zzip
    nRange := PySem.W.mg_none_of X G zrange
    nMin := PySem.W.mg_none_of X G zmin
    nMax := PySem.W.mg_none_of X G zmax
    nDivmod := PySem.W.mg_none_of X G zdivmod
    nRepr := PySem.W.mg_none_of X G zrepr
    kRR := kit_self
    kDD := kit_self
    kDR := kit_own csR tyR sDR nDR
    kRD := kit_own csD tyD sRD nRD
    kNoneD := kit_own csD tyD uNone rfl
    kBoolD := kit_own csD tyD uBool rfl
    kIntD := kit_own csD tyD uInt rfl
    kStrD := kit_own csD tyD uStr rfl
    kListD := kit_own csD tyD uList rfl
    kTupleD := kit_own csD tyD uTuple rfl
    kDictD := kit_own csD tyD uDict rfl
    fDD := fDD
    fDR := fDR
    fRD := fRD
    fNone := fNone
    fBool := fBool
    fInt := fInt
    fStr := fStr
    fList := fList
    fTuple := fTuple
    fDict := fDict
    sNone := sNone
    sBool := sBool
    sInt := sInt
    sStr := sStr
    sList := sList
    sTuple := sTuple
    sDict := sDict
    sObj := sObj
    dNe := dNe }
  have Fg0 := fun_mk (st := T.isWhole) lg0 cg0 kg0
  have bg0 := Fg0.binds (ps := ["thing"]) fun _ _ _ _ _ _ us hl => match us, hl with | [_], _ => rfl
  have qg0 := PySem.W.mg_of X G ag0
  have Fg1 := fun_mk (st := T.isMoment) lg1 cg1 kg1
  have bg1 := Fg1.binds (ps := ["thing"]) fun _ _ _ _ _ _ us hl => match us, hl with | [_], _ => rfl
  have qg1 := PySem.W.mg_of X G ag1
  have Fg2 := fun_mk (st := T.wantDay) lg2 cg2 kg2
  have bg2 := Fg2.binds (ps := ["thing"]) fun _ _ _ _ _ _ us hl => match us, hl with | [_], _ => rfl
  have qg2 := PySem.W.mg_of X G ag2
  have Fg3 := fun_mk (st := T.areSigns) lg3 cg3 kg3
  have bg3 := Fg3.binds (ps := ["thing"]) fun _ _ _ _ _ _ us hl => match us, hl with | [_], _ => rfl
  have qg3 := PySem.W.mg_of X G ag3
  have Fg4 := fun_mk (st := T.toldDays) lg4 cg4 kg4
  have bg4 := Fg4.binds (ps := ["thing"]) fun _ _ _ _ _ _ us hl => match us, hl with | [_], _ => rfl
  have qg4 := PySem.W.mg_of X G ag4
  have Fg5 := fun_mk (st := T.wantTill) lg5 cg5 kg5
  have bg5 := Fg5.binds (ps := ["since", "till"]) fun _ _ _ _ _ _ us hl => match us, hl with | [_, _], _ => rfl
  have qg5 := PySem.W.mg_of X G ag5
  have Fg6 := fun_mk (st := T.edgesOf) lg6 cg6 kg6
  have bg6 := Fg6.binds (ps := ["some"]) fun _ _ _ _ _ _ us hl => match us, hl with | [_], _ => rfl
  have qg6 := PySem.W.mg_of X G ag6
  have Fg7 := fun_mk (st := T.stretches) lg7 cg7 kg7
  have bg7 := Fg7.binds (ps := ["edges", "begin", "end"]) fun _ _ _ _ _ _ us hl => match us, hl with | [_, _, _], _ => rfl
  have qg7 := PySem.W.mg_of X G ag7
  have Fg8 := fun_mk (st := T.firstDays) lg8 cg8 kg8
  have bg8 := Fg8.binds (ps := ["begin", "end", "many"]) fun _ _ _ _ _ _ us hl => match us, hl with | [_, _, _], _ => rfl
  have qg8 := PySem.W.mg_of X G ag8
  have Fg9 := fun_mk (st := T.round) lg9 cg9 kg9
  have bg9 := Fg9.binds (ps := ["one", "other"]) fun _ _ _ _ _ _ us hl => match us, hl with | [_, _], _ => rfl
  have qg9 := PySem.W.mg_of X G ag9
  have Fg10 := fun_mk (st := T.apart) lg10 cg10 kg10
  have bg10 := Fg10.binds (ps := ["one", "other"]) fun _ _ _ _ _ _ us hl => match us, hl with | [_, _], _ => rfl
  have qg10 := PySem.W.mg_of X G ag10
  have Fg11 := fun_mk (st := T.lPot) lg11 cg11 kg11
  have bg11 := Fg11.binds (ps := ["_law_script", "_law_k"]) fun _ _ _ _ _ _ us hl => match us, hl with | [_, _], _ => rfl
  have qg11 := PySem.W.mg_of X G ag11
  have Fg12 := fun_mk (st := T.lTake) lg12 cg12 kg12
  have bg12 := Fg12.binds (ps := ["_law_pot_here", "_law_many"]) fun _ _ _ _ _ _ us hl => match us, hl with | [_, _], _ => rfl
  have qg12 := PySem.W.mg_of X G ag12
  have Fg13 := fun_mk (st := T.lGreat) lg13 cg13 kg13
  have bg13 := Fg13.binds (ps := ["_law_pot_here", "_law_bound"]) fun _ _ _ _ _ _ us hl => match us, hl with | [_, _], _ => rfl
  have qg13 := PySem.W.mg_of X G ag13
  have Fg14 := fun_mk (st := T.lBits) lg14 cg14 kg14
  have bg14 := Fg14.binds (ps := ["_law_pot_here"]) fun _ _ _ _ _ _ us hl => match us, hl with | [_], _ => rfl
  have qg14 := PySem.W.mg_of X G ag14
  have Fg15 := fun_mk (st := T.lNear) lg15 cg15 kg15
  have bg15 := Fg15.binds (ps := ["_law_pot_here", "_law_low", "_law_high"]) fun _ _ _ _ _ _ us hl => match us, hl with | [_, _, _], _ => rfl
  have qg15 := PySem.W.mg_of X G ag15
  have Fg16 := fun_mk (st := T.lFew) lg16 cg16 kg16
  have bg16 := Fg16.binds (ps := ["_law_pot_here", "_law_low", "_law_high", "_law_taken"]) fun _ _ _ _ _ _ us hl => match us, hl with | [_, _, _, _], _ => rfl
  have qg16 := PySem.W.mg_of X G ag16
  have Fg17 := fun_mk (st := T.lSome) lg17 cg17 kg17
  have bg17 := Fg17.binds (ps := ["_law_pot_here"]) fun _ _ _ _ _ _ us hl => match us, hl with | [_], _ => rfl
  have qg17 := PySem.W.mg_of X G ag17
  have Fg18 := fun_mk (st := T.lHas) lg18 cg18 kg18
  have bg18 := Fg18.binds (ps := ["_law_some_here", "_law_spot"]) fun _ _ _ _ _ _ us hl => match us, hl with | [_, _], _ => rfl
  have qg18 := PySem.W.mg_of X G ag18
  have Fg19 := fun_mk (st := T.lMade) lg19 cg19 kg19
  have bg19 := Fg19.binds (ps := ["_law_some_here"]) fun _ _ _ _ _ _ us hl => match us, hl with | [_], _ => rfl
  have qg19 := PySem.W.mg_of X G ag19
  have Fg20 := fun_mk (st := T.lEdges) lg20 cg20 kg20
  have bg20 := Fg20.binds (ps := ["_law_some_here"]) fun _ _ _ _ _ _ us hl => match us, hl with | [_], _ => rfl
  have qg20 := PySem.W.mg_of X G ag20
  have Fg21 := fun_mk (st := T.lPair) lg21 cg21 kg21
  have bg21 := Fg21.binds (ps := ["_law_pot_here"]) fun _ _ _ _ _ _ us hl => match us, hl with | [_], _ => rfl
  have qg21 := PySem.W.mg_of X G ag21
  have Fg22 := fun_mk (st := T.lAlike) lg22 cg22 kg22
  have bg22 := Fg22.binds (ps := ["_law_head", "_law_two", "_law_high"]) fun _ _ _ _ _ _ us hl => match us, hl with | [_, _, _], _ => rfl
  have qg22 := PySem.W.mg_of X G ag22
  have Fg23 := fun_mk (st := T.lRight) lg23 cg23 kg23
  have bg23 := Fg23.binds (ps := ["_law_found", "_law_head", "_law_two"]) fun _ _ _ _ _ _ us hl => match us, hl with | [_, _, _], _ => rfl
  have qg23 := PySem.W.mg_of X G ag23
  have Fg24 := fun_mk (st := T.lUnlike) lg24 cg24 kg24
  have bg24 := Fg24.binds (ps := ["_law_days", "_law_some_here"]) fun _ _ _ _ _ _ us hl => match us, hl with | [_, _], _ => rfl
  have qg24 := PySem.W.mg_of X G ag24
  have Fg25 := fun_mk (st := T.law) lg25 cg25 kg25
  have bg25 := Fg25.binds (ps := ["_law_script"]) fun _ _ _ _ _ _ us hl => match us, hl with | [_], _ => rfl
  have qg25 := PySem.W.mg_of X G ag25
  have Fm0 := fun_mk (st := T.rInit) lm0 cm0 km0
  have bm0 := Fm0.binds (ps := ["self", "text"]) fun _ _ _ _ _ _ us hl => match us, hl with | [_, _], _ => rfl
  have Fm1 := fun_mk (st := T.rEq) lm1 cm1 km1
  have bm1 := Fm1.binds (ps := ["self", "other"]) fun _ _ _ _ _ _ us hl => match us, hl with | [_, _], _ => rfl
  have Fm2 := fun_mk (st := T.rLen) lm2 cm2 km2
  have bm2 := Fm2.binds (ps := ["self"]) fun _ _ _ _ _ _ us hl => match us, hl with | [_], _ => rfl
  have Fm3 := fun_mk (st := T.rStr) lm3 cm3 km3
  have bm3 := Fm3.binds (ps := ["self"]) fun _ _ _ _ _ _ us hl => match us, hl with | [_], _ => rfl
  have Fm4 := fun_mk (st := T.rRings) lm4 cm4 km4
  have bm4 := Fm4.binds (ps := ["self", "day"]) fun _ _ _ _ _ _ us hl => match us, hl with | [_, _], _ => rfl
  obtain ⟨fdD, Fm5, bm5⟩ : ∃ fd : FuncData, FunD K "__init__" "Days.__init__" (defArgs T.dInit) (defBody T.dInit) (defScope T.dInit) [V.int 0, .non, .non, .non] [] fm5 fd ∧ Binds K fd ["self", "ring", "since", "till", "out", "also"] [] := by
    have F : FunD K "__init__" "Days.__init__" (defArgs T.dInit) (defBody T.dInit) (defScope T.dInit) [V.int 0, .non, .non, .non] [] fm5 (PySem.W.fnOf "__init__" "Days.__init__" (defArgs T.dInit) (defBody T.dInit) (defScope T.dInit) (.ref TT) kVm5 dcm5 pmm5 anm5 cdm5 ctm5) :=
      ⟨⟨ocm5, odm5, .ref TT, kVm5, dcm5, pmm5, anm5, cdm5, ctm5, slm5, rfl, lm5, cm5, .inr ⟨by simp, TT, _, its.toList, tn, rfl, lT, by rw [Array.toArray_toList], vT⟩, .inl rfl⟩, km5⟩
    obtain ⟨ds, v, hb⟩ := F.binds1 (ps := ["self", "ring", "since", "till", "out", "also"]) 6 4 (by simp) rfl fun T kV doc pm an cdv ct us its hu hi => by
      match us, its, hu, hi with
      | [_, _, _, _, _, _], [_, _, _, _], _, _ => exact ⟨_, rfl, rfl⟩
    cases v
    exact ⟨_, F, hb⟩
  have Fm6 := fun_mk (st := T.dEq) lm6 cm6 km6
  have bm6 := Fm6.binds (ps := ["self", "other"]) fun _ _ _ _ _ _ us hl => match us, hl with | [_, _], _ => rfl
  have Fm7 := fun_mk (st := T.dStr) lm7 cm7 km7
  have bm7 := Fm7.binds (ps := ["self"]) fun _ _ _ _ _ _ us hl => match us, hl with | [_], _ => rfl
  have Fm8 := fun_mk (st := T.dHas) lm8 cm8 km8
  have bm8 := Fm8.binds (ps := ["self", "day"]) fun _ _ _ _ _ _ us hl => match us, hl with | [_, _], _ => rfl
  have cIsWhole : ∀ base, CIsWhole l.prog w K mg base := fun base => ⟨_, _, ok_isWhole Fg0 Z, qg0, kg0, bg0⟩
  have cIsMoment : ∀ base, CIsMoment l.prog w K mg base := fun base => ⟨_, _, ok_isMoment Fg1 Z (cIsWhole base), qg1, kg1, bg1⟩
  have cWantDay : ∀ base, CWantDay l.prog w K mg base := fun base => ⟨_, _, ok_wantDay Fg2 Z (cIsMoment base), qg2, kg2, bg2⟩
  have cAreSigns : ∀ base, CAreSigns l.prog w K mg base := fun base => ⟨_, _, ok_areSigns Fg3 Z, qg3, kg3, bg3⟩
  have cRing : ∀ base, CRing l.prog w K mg base CR := fun base => ⟨_, _, ok_rInit Fm0 Z (cAreSigns base), ⟨mkR, am0, im0, kcR⟩, Z.gR, bm0⟩
  have cRLen : ∀ base, CRLen l.prog w K mg base CR := fun base => ⟨_, _, ok_rLen Fm2 Z, ⟨am2, im2, km2⟩, bm2⟩
  have cRStr : ∀ base, CRStr l.prog w K mg base CR := fun base => ⟨_, _, ok_rStr Fm3 Z, ⟨am3, im3, km3⟩, bm3⟩
  have cRings : ∀ base, CRings l.prog w K mg base CR := fun base => ⟨_, _, ok_rRings Fm4 Z (cWantDay base), ⟨am4, im4, km4⟩, bm4⟩
  have cREq : ∀ base, CREq l.prog w K mg base CR CD := fun base => ⟨_, _, ok_rEq Fm1 Z, ⟨am1, im1, km1⟩, bm1⟩
  have cTold : ∀ base, CTold l.prog w K mg base := fun base => ⟨_, _, ok_told Fg4 Z (cWantDay base), qg4, kg4, bg4⟩
  have cWantTill : ∀ base, CWantTill l.prog w K mg base := fun base => ⟨_, _, ok_wantTill Fg5 Z (cWantDay base), qg5, kg5, bg5⟩
  have cDays : ∀ base, CDays l.prog w K mg base CR CD := fun base => ⟨_, _, ok_dInit Fm5 Z (cWantDay base) (cWantTill base) (cTold base), ⟨mkD, am5, im5, kcD⟩, Z.gD, bm5⟩
  have cHas : ∀ base, CalM l.prog w K mg base 5 CD "has" ["self", "day"] (spDHas CR CD) := fun base => ⟨_, _, ok_dHas Fm8 Z (cWantDay base) (cRings base), ⟨am8, im8, km8⟩, bm8⟩
  have cEdges : ∀ base, CEdges l.prog w K mg base CR CD := fun base => ⟨_, _, ok_edges Fg6 Z, qg6, kg6, bg6⟩
  have cStretches : ∀ base, CStretches l.prog w K mg base := fun base => ⟨_, _, ok_stretches Fg7 Z, qg7, kg7, bg7⟩
  have cFirstDays : ∀ base, CFirstDays l.prog w K mg base := fun base => ⟨_, _, ok_firstDays Fg8 Z, qg8, kg8, bg8⟩
  have cRound : ∀ base, CRound l.prog w K mg base := fun base => ⟨_, _, ok_round Fg9 Z, qg9, kg9, bg9⟩
  obtain ⟨fdA, FAf, bA⟩ : ∃ fd : FuncData, Fun K "first_apart" "first_apart" T.apart fg10 fd ∧ Binds K fd ["one", "other"] [] := ⟨_, Fg10, bg10⟩
  have FA : ∀ base, FnOk l.prog w K mg base CX0 6 fg10 fdA ["one", "other"] (spApart CR CD) := fun base => ok_apart FAf Z (cEdges base) (cStretches base) (cFirstDays base) (cRound base) (cRLen base) (cHas base)
  have cApart : ∀ base, CApart l.prog w K mg base CR CD := fun base => ⟨_, _, FA base, qg10, kg10, bA⟩
  have cDEq : ∀ base, CDEq l.prog w K mg base CR CD := fun base => ⟨_, _, ok_dEq Fm6 Z (cApart base), ⟨am6, im6, km6⟩, bm6⟩
  have cDStr : ∀ base, CDStr l.prog w K mg base CR CD := fun base => ⟨_, _, ok_dStr Fm7 Z (cRStr base), ⟨am7, im7, km7⟩, bm7⟩
  have cPot : ∀ base, CPot l.prog w K mg base := fun base => ⟨_, _, ok_pot Fg11 Z, qg11, kg11, bg11⟩
  have cTake : ∀ base, CTake l.prog w K mg base := fun base => ⟨_, _, ok_take Fg12 Z, qg12, kg12, bg12⟩
  have cGreat : ∀ base, CGreat l.prog w K mg base := fun base => ⟨_, _, ok_great Fg13 Z (cTake base), qg13, kg13, bg13⟩
  have cBits : ∀ base, CBits l.prog w K mg base := fun base => ⟨_, _, ok_bits Fg14 Z (cTake base), qg14, kg14, bg14⟩
  have cNear : ∀ base, CNear l.prog w K mg base := fun base => ⟨_, _, ok_near Fg15 Z (cTake base) (cGreat base), qg15, kg15, bg15⟩
  have cFew : ∀ base, CFew l.prog w K mg base := fun base => ⟨_, _, ok_few Fg16 Z (cTake base) (cNear base), qg16, kg16, bg16⟩
  have cSome : ∀ base, CSome l.prog w K mg base := fun base => ⟨_, _, ok_some Fg17 Z (cTake base) (cBits base) (cGreat base) (cFew base), qg17, kg17, bg17⟩
  have cLHas : ∀ base, CLHas l.prog w K mg base := fun base => ⟨_, _, ok_lHas Fg18 Z, qg18, kg18, bg18⟩
  have cMade : ∀ base, CMade l.prog w K mg base CR CD := fun base => ⟨_, _, ok_made Fg19 Z (cRing base) (cDays base), qg19, kg19, bg19⟩
  have cLEdges : ∀ base, CLEdges l.prog w K mg base := fun base => ⟨_, _, ok_lEdges Fg20 Z, qg20, kg20, bg20⟩
  have cPair : ∀ base, CPair l.prog w K mg base := fun base => ⟨_, _, ok_pair Fg21 Z (cTake base) (cNear base) (cSome base), qg21, kg21, bg21⟩
  have cAlike : ∀ base, CAlike l.prog w K mg base := fun base => ⟨_, _, ok_alike Fg22 Z (cLEdges base) (cLHas base), qg22, kg22, bg22⟩
  have cRight : ∀ base, CRight l.prog w K mg base := fun base => ⟨_, _, ok_right Fg23 Z (cAlike base) (cLHas base), qg23, kg23, bg23⟩
  have cUnlike : ∀ base, CUnlike l.prog w K mg base CR CD := fun base => ⟨_, _, ok_unlike Fg24 Z (cDStr base) (cRing base) (cDEq base) (cREq base), qg24, kg24, bg24⟩
  exact ok_law Fg25 bg25 Z (fun base _ _ => cPot base) (fun base _ _ => cPair base) (fun base _ _ => cMade base) (fun base _ _ => cDStr base) (fun base _ _ => cDEq base) (fun base _ _ => cRight base) (fun base _ _ => cUnlike base) (fun base _ _ => FA base) qg10 kg10 bA (apart_kw FAf)
end L2
open PySem PySem.W PyProof.Rows in
set_option maxRecDepth 100000 in
set_option maxHeartbeats 0 in
theorem PySem.Challenge.cw_shortgoings_k49_whole_first_apart_holds : PySem.Challenge.rw_shortgoings_k49_whole_first_apart.Holds := by
  w_on; o_law; k_head; (case hw => w_witness2)
  k_fill
  refine L2.walk_kept (l := PySem.Challenge.rw_shortgoings_k49_whole_first_apart) rfl (by decide) rfl (fun w h Y => PySem.W.kIn_of Y) ?F
  case F =>
    intro w mg fa h KX G hmg
    refine' L2.all_mk KX G hmg ?aR ?aD ?ag0 ?lg0 ?cg0 ?kg0 ?ag1 ?lg1 ?cg1 ?kg1 ?ag2 ?lg2 ?cg2 ?kg2 ?ag3 ?lg3 ?cg3 ?kg3 ?ag4 ?lg4 ?cg4 ?kg4 ?ag5 ?lg5 ?cg5 ?kg5 ?ag6 ?lg6 ?cg6 ?kg6 ?ag7 ?lg7 ?cg7 ?kg7 ?ag8 ?lg8 ?cg8 ?kg8 ?ag9 ?lg9 ?cg9 ?kg9 ?ag10 ?lg10 ?cg10 ?kg10 ?ag11 ?lg11 ?cg11 ?kg11 ?ag12 ?lg12 ?cg12 ?kg12 ?ag13 ?lg13 ?cg13 ?kg13 ?ag14 ?lg14 ?cg14 ?kg14 ?ag15 ?lg15 ?cg15 ?kg15 ?ag16 ?lg16 ?cg16 ?kg16 ?ag17 ?lg17 ?cg17 ?kg17 ?ag18 ?lg18 ?cg18 ?kg18 ?ag19 ?lg19 ?cg19 ?kg19 ?ag20 ?lg20 ?cg20 ?kg20 ?ag21 ?lg21 ?cg21 ?kg21 ?ag22 ?lg22 ?cg22 ?kg22 ?ag23 ?lg23 ?cg23 ?kg23 ?ag24 ?lg24 ?cg24 ?kg24 ?ag25 ?lg25 ?cg25 ?kg25 ?am0 ?im0 ?lm0 ?cm0 ?km0 ?am1 ?im1 ?lm1 ?cm1 ?km1 ?am2 ?im2 ?lm2 ?cm2 ?km2 ?am3 ?im3 ?lm3 ?cm3 ?km3 ?am4 ?im4 ?lm4 ?cm4 ?km4 ?am5 ?im5 ?lm5 ?cm5 ?km5 ?lT ?am6 ?im6 ?lm6 ?cm6 ?km6 ?am7 ?im7 ?lm7 ?cm7 ?km7 ?am8 ?im8 ?lm8 ?cm8 ?km8 ?pgR ?hdR ?poR ?saR ?mkR ?kcR ?haR ?hmR ?csR ?tyR ?pgD ?hdD ?poD ?saD ?mkD ?kcD ?haD ?hmD ?csD ?tyD ?og ?ot ?nBits ?nAring ?nAsince ?nAtill ?nAout ?nAalso ?cMostSigns ?cNought ?cOne ?cMostDays ?cFrom ?cTo ?cNot ?cAlso ?zisinstance ?zint ?zbool ?zstr ?zlen ?zall ?zany ?zlist ?ztuple ?zsorted ?zset ?zzip ?zrange ?zmin ?zmax ?zdivmod ?zrepr ?sDR ?sRD ?uNone ?uBool ?uInt ?uStr ?uList ?uTuple ?uDict ?fDD ?fDR ?fRD ?fNone ?fBool ?fInt ?fStr ?fList ?fTuple ?fDict ?sNone ?sBool ?sInt ?sStr ?sList ?sTuple ?sDict ?sObj ?dNe ?vT ?nRD ?nDR
    (case aR => k_is)
    (case aD => k_is)
    (case ag0 => k_is)
    (case lg0 => k_is)
    (case cg0 => k_is)
    (case kg0 => k_is)
    (case ag1 => k_is)
    (case lg1 => k_is)
    (case cg1 => k_is)
    (case kg1 => k_is)
    (case ag2 => k_is)
    (case lg2 => k_is)
    (case cg2 => k_is)
    (case kg2 => k_is)
    (case ag3 => k_is)
    (case lg3 => k_is)
    (case cg3 => k_is)
    (case kg3 => k_is)
    (case ag4 => k_is)
    (case lg4 => k_is)
    (case cg4 => k_is)
    (case kg4 => k_is)
    (case ag5 => k_is)
    (case lg5 => k_is)
    (case cg5 => k_is)
    (case kg5 => k_is)
    (case ag6 => k_is)
    (case lg6 => k_is)
    (case cg6 => k_is)
    (case kg6 => k_is)
    (case ag7 => k_is)
    (case lg7 => k_is)
    (case cg7 => k_is)
    (case kg7 => k_is)
    (case ag8 => k_is)
    (case lg8 => k_is)
    (case cg8 => k_is)
    (case kg8 => k_is)
    (case ag9 => k_is)
    (case lg9 => k_is)
    (case cg9 => k_is)
    (case kg9 => k_is)
    (case ag10 => k_is)
    (case lg10 => k_is)
    (case cg10 => k_is)
    (case kg10 => k_is)
    (case ag11 => k_is)
    (case lg11 => k_is)
    (case cg11 => k_is)
    (case kg11 => k_is)
    (case ag12 => k_is)
    (case lg12 => k_is)
    (case cg12 => k_is)
    (case kg12 => k_is)
    (case ag13 => k_is)
    (case lg13 => k_is)
    (case cg13 => k_is)
    (case kg13 => k_is)
    (case ag14 => k_is)
    (case lg14 => k_is)
    (case cg14 => k_is)
    (case kg14 => k_is)
    (case ag15 => k_is)
    (case lg15 => k_is)
    (case cg15 => k_is)
    (case kg15 => k_is)
    (case ag16 => k_is)
    (case lg16 => k_is)
    (case cg16 => k_is)
    (case kg16 => k_is)
    (case ag17 => k_is)
    (case lg17 => k_is)
    (case cg17 => k_is)
    (case kg17 => k_is)
    (case ag18 => k_is)
    (case lg18 => k_is)
    (case cg18 => k_is)
    (case kg18 => k_is)
    (case ag19 => k_is)
    (case lg19 => k_is)
    (case cg19 => k_is)
    (case kg19 => k_is)
    (case ag20 => k_is)
    (case lg20 => k_is)
    (case cg20 => k_is)
    (case kg20 => k_is)
    (case ag21 => k_is)
    (case lg21 => k_is)
    (case cg21 => k_is)
    (case kg21 => k_is)
    (case ag22 => k_is)
    (case lg22 => k_is)
    (case cg22 => k_is)
    (case kg22 => k_is)
    (case ag23 => k_is)
    (case lg23 => k_is)
    (case cg23 => k_is)
    (case kg23 => k_is)
    (case ag24 => k_is)
    (case lg24 => k_is)
    (case cg24 => k_is)
    (case kg24 => k_is)
    (case ag25 => k_is)
    (case lg25 => k_is)
    (case cg25 => k_is)
    (case kg25 => k_is)
    (case am0 => k_is)
    (case im0 => k_is)
    (case lm0 => k_is)
    (case cm0 => k_is)
    (case km0 => k_is)
    (case am1 => k_is)
    (case im1 => k_is)
    (case lm1 => k_is)
    (case cm1 => k_is)
    (case km1 => k_is)
    (case am2 => k_is)
    (case im2 => k_is)
    (case lm2 => k_is)
    (case cm2 => k_is)
    (case km2 => k_is)
    (case am3 => k_is)
    (case im3 => k_is)
    (case lm3 => k_is)
    (case cm3 => k_is)
    (case km3 => k_is)
    (case am4 => k_is)
    (case im4 => k_is)
    (case lm4 => k_is)
    (case cm4 => k_is)
    (case km4 => k_is)
    (case am5 => k_is)
    (case im5 => k_is)
    (case lm5 => k_is)
    (case cm5 => k_is)
    (case km5 => k_is)
    (case lT => k_is)
    (case am6 => k_is)
    (case im6 => k_is)
    (case lm6 => k_is)
    (case cm6 => k_is)
    (case km6 => k_is)
    (case am7 => k_is)
    (case im7 => k_is)
    (case lm7 => k_is)
    (case cm7 => k_is)
    (case km7 => k_is)
    (case am8 => k_is)
    (case im8 => k_is)
    (case lm8 => k_is)
    (case cm8 => k_is)
    (case km8 => k_is)
    (case pgR => k_is)
    (case hdR => k_is)
    (case poR => k_is)
    (case saR => k_is)
    (case mkR => k_is)
    (case kcR => k_is)
    (case haR => k_is)
    (case hmR => k_is)
    (case csR => k_is)
    (case tyR => k_is)
    (case pgD => k_is)
    (case hdD => k_is)
    (case poD => k_is)
    (case saD => k_is)
    (case mkD => k_is)
    (case kcD => k_is)
    (case haD => k_is)
    (case hmD => k_is)
    (case csD => k_is)
    (case tyD => k_is)
    (case og => k_is)
    (case ot => k_is)
    (case nBits => k_is)
    (case nAring => k_is)
    (case nAsince => k_is)
    (case nAtill => k_is)
    (case nAout => k_is)
    (case nAalso => k_is)
    (case cMostSigns => k_is)
    (case cNought => k_is)
    (case cOne => k_is)
    (case cMostDays => k_is)
    (case cFrom => k_is)
    (case cTo => k_is)
    (case cNot => k_is)
    (case cAlso => k_is)
    (case zisinstance => k_is)
    (case zint => k_is)
    (case zbool => k_is)
    (case zstr => k_is)
    (case zlen => k_is)
    (case zall => k_is)
    (case zany => k_is)
    (case zlist => k_is)
    (case ztuple => k_is)
    (case zsorted => k_is)
    (case zset => k_is)
    (case zzip => k_is)
    (case zrange => k_is)
    (case zmin => k_is)
    (case zmax => k_is)
    (case zdivmod => k_is)
    (case zrepr => k_is)
    (case sDR => k_is)
    (case sRD => k_is)
    (case uNone => k_is)
    (case uBool => k_is)
    (case uInt => k_is)
    (case uStr => k_is)
    (case uList => k_is)
    (case uTuple => k_is)
    (case uDict => k_is)
    (case fDD => k_is)
    (case fDR => k_is)
    (case fRD => k_is)
    (case fNone => k_is)
    (case fBool => k_is)
    (case fInt => k_is)
    (case fStr => k_is)
    (case fList => k_is)
    (case fTuple => k_is)
    (case fDict => k_is)
    (case sNone => k_is)
    (case sBool => k_is)
    (case sInt => k_is)
    (case sStr => k_is)
    (case sList => k_is)
    (case sTuple => k_is)
    (case sDict => k_is)
    (case sObj => k_is)
    (case dNe => k_is)
    (case vT => exact .cons ⟨_, rfl⟩ (.cons rfl (.cons rfl (.cons rfl .nil))))
    (case nRD => rfl)
    (case nDR => rfl)
