import PyProof.Rows.All
import Wide.All
import OpenK.AllK
import Wide.FinOn
import PySem.Challenge.RW_or0014_01
set_option Elab.async false
section PartHd
open PySem PySem.W PyProof.Rows
namespace Mine
set_option maxRecDepth 100000 in
set_option maxHeartbeats 8000000 in
open_top hd for PySem.Challenge.rw_or0014_01
end Mine
end PartHd
section PartB1
open PySem PySem.W PyProof.Rows PySem.Calls PySem.Spec PySem.SeqAt
set_option maxRecDepth 100000
set_option maxHeartbeats 4000000
namespace Mine
inductive T where
  | leaf (i : Fin 6)
  | all
  | neg (t : T)
  | bin (o : Bool) (l r : T)
abbrev Led := List (Addr × Obj)
def leafA : Fin 6 → Addr
  | 0 => 64 | 1 => 65 | 2 => 68 | 3 => 69 | 4 => 72 | 5 => 73
def leafS : Fin 6 → Str
  | 0 => Str.ofString "flag" | 1 => Str.ofString "larger" | 2 => Str.ofString "seq" | 3 => Str.ofString "text" | 4 => Str.ofString "uid" | 5 => Str.ofString "modseq"
def leafK : Fin 6 → Tok
  | 0 => 251 | 1 => 253 | 2 => 255 | 3 => 258 | 4 => 260 | 5 => 263
def leafV : Fin 6 → Value
  | 0 => .str (Str.ofString "work") 252 | 1 => .int 5 254 | 2 => .ref 67 | 3 => .bytes #[97] 259 | 4 => .ref 71 | 5 => .int 9 264
def wordS (o : Bool) : Str := if o then Str.ofString "or" else Str.ofString "and"
abbrev tupOf (vs : List Value) (n : Nat) : Obj := { cls := .type "tuple", data := .seq vs.toArray n }
abbrev lstOf (vs : List Value) (n : Nat) : Obj := listOf vs.toArray n
inductive TI (news : Led) : Value → T → Prop
  | leaf (i : Fin 6) : TI news (.ref (leafA i)) (.leaf i)
  | all {a : Addr} {k : Tok} {n : Nat} : (a, tupOf [.str (Str.ofString "all") k] n) ∈ news → TI news (.ref a) .all
  | neg {a : Addr} {k : Tok} {n : Nat} {v : Value} {t : T} : (a, tupOf [.str (Str.ofString "not") k, v] n) ∈ news → TI news v t → TI news (.ref a) (.neg t)
  | bin {a : Addr} {o : Bool} {k : Tok} {n : Nat} {v u : Value} {l r : T} : (a, tupOf [.str (wordS o) k, v, u] n) ∈ news → TI news v l → TI news u r → TI news (.ref a) (.bin o l r)
theorem TI.mono {news news' : Led} {v : Value} {t : T} (h : TI news v t) (hs : ∀ p ∈ news, p ∈ news') : TI news' v t := by
  induction h with
  | leaf i => exact .leaf i
  | all hm => exact .all (hs _ hm)
  | neg hm _ ih => exact .neg (hs _ hm) ih
  | bin hm _ _ ih1 ih2 => exact .bin (hs _ hm) ih1 ih2
inductive TIs (news : Led) : List Value → List T → Prop
  | nil : TIs news [] []
  | cons {v : Value} {vs : List Value} {t : T} {ts : List T} : TI news v t → TIs news vs ts → TIs news (v :: vs) (t :: ts)
theorem TIs.mono {news news' : Led} {vs : List Value} {ts : List T} (h : TIs news vs ts) (hs : ∀ p ∈ news, p ∈ news') : TIs news' vs ts := by
  induction h with
  | nil => exact .nil
  | cons h _ ih => exact .cons (h.mono hs) ih
theorem TIs.length {news : Led} {vs : List Value} {ts : List T} (h : TIs news vs ts) : vs.length = ts.length := by
  induction h with
  | nil => rfl
  | cons _ _ ih => rw [List.length_cons, List.length_cons, ih]
theorem TIs.append {news : Led} {vs ws : List Value} {ts us : List T} (h : TIs news vs ts) (k : TIs news ws us) : TIs news (vs ++ ws) (ts ++ us) := by
  induction h with
  | nil => exact k
  | cons h _ ih => exact .cons h ih
theorem TIs.one {news : Led} {v : Value} {t : T} (h : TI news v t) : TIs news [v] [t] := .cons h .nil
theorem TIs.snoc {news : Led} {vs : List Value} {ts : List T} {v : Value} {t : T} (h : TIs news vs ts) (k : TI news v t) : TIs news (vs ++ [v]) (ts ++ [t]) := h.append (.one k)
theorem TIs.take {news : Led} {vs : List Value} {ts : List T} (h : TIs news vs ts) : ∀ n, TIs news (vs.take n) (ts.take n) := by
  induction h with
  | nil => intro n; simp; exact .nil
  | cons h _ ih => intro n; cases n with
    | zero => exact .nil
    | succ n => exact .cons h (ih n)
theorem TIs.drop {news : Led} {vs : List Value} {ts : List T} (h : TIs news vs ts) : ∀ n, TIs news (vs.drop n) (ts.drop n) := by
  induction h with
  | nil => intro n; simp; exact .nil
  | cons h hr ih => intro n; cases n with
    | zero => exact .cons h hr
    | succ n => exact ih n
theorem TIs.get {news : Led} {vs : List Value} {ts : List T} (h : TIs news vs ts) : ∀ (k : Nat) (v : Value), vs[k]? = some v → ∃ t, ts[k]? = some t ∧ TI news v t := by
  induction h with
  | nil => intro k v e; simp at e
  | cons h hr ih => intro k v e; cases k with
    | zero => simp at e; subst e; exact ⟨_, rfl, h⟩
    | succ k => simpa using ih k v (by simpa using e)
theorem TIs.unsnoc {news : Led} {vs : List Value} {ts : List T} {t : T} (h : TIs news vs (ts ++ [t])) : ∃ us v, vs = us ++ [v] ∧ TIs news us ts ∧ TI news v t := by
  induction ts generalizing vs with
  | nil => cases h with
    | cons h r => cases r; exact ⟨[], _, rfl, .nil, h⟩
  | cons x ts ih => cases h with
    | cons h r =>
      obtain ⟨us, v, rfl, h1, h2⟩ := ih r
      exact ⟨_ :: us, v, rfl, .cons h h1, h2⟩
theorem K_leaf (w : World) (i : Fin 6) : (hd.heap_39 w.params).lookup (leafA i) = some (tupOf [.str (leafS i) (leafK i), leafV i] 0) := by
  match i with
  | 0 => rfl
  | 1 => rfl
  | 2 => rfl
  | 3 => rfl
  | 4 => rfl
  | 5 => rfl
def hdS : T → Str
  | .leaf i => leafS i
  | .all => Str.ofString "all"
  | .neg _ => Str.ofString "not"
  | .bin o _ _ => wordS o
section
variable {h₀ h : Heap} {L : Addr} {news : Led} {w : World} {m : Str → Option Value}
/-- the ledger is functional, and its addresses are none of the written part's -/
theorem led_fn (N : News h₀ L h news) {a : Addr} {o o' : Obj} (h1 : (a, o) ∈ news) (h2 : (a, o') ∈ news) : o = o' := by
  have e1 := (N _ h1).1
  have e2 := (N _ h2).1
  exact Option.some.inj (e1.symm.trans e2)
theorem led_leaf (X : (hd.heap_39 w.params).In h₀) (N : News h₀ L h news) {i : Fin 6} {o : Obj} (h1 : (leafA i, o) ∈ news) : False := by
  have e1 := (N _ h1).2.2
  rw [X _ _ (K_leaf w i)] at e1
  cases e1
theorem leafA_inj : ∀ i j : Fin 6, leafA i = leafA j → i = j := by decide
theorem wordS_inj : ∀ o p : Bool, wordS o = wordS p → o = p := by decide +kernel
theorem TI.inj (X : (hd.heap_39 w.params).In h₀) (N : News h₀ L h news) {v : Value} {t u : T} (h1 : TI news v t) (h2 : TI news v u) : t = u := by
  induction h1 generalizing u with
  | leaf i =>
    generalize e : Value.ref (leafA i) = v at h2
    cases h2 with
    | leaf j => rw [leafA_inj i j (by injection e)]
    | all hm => injection e with e; exact (led_leaf X N (e ▸ hm)).elim
    | neg hm _ => injection e with e; exact (led_leaf X N (e ▸ hm)).elim
    | bin hm _ _ => injection e with e; exact (led_leaf X N (e ▸ hm)).elim
  | @all a k n hm =>
    generalize e : Value.ref a = v at h2
    cases h2 with
    | leaf j => injection e with e; exact (led_leaf X N (e ▸ hm)).elim
    | all hm' => rfl
    | neg hm' _ => injection e with e; subst e; have q := led_fn N hm hm'; simp at q
    | bin hm' _ _ => injection e with e; subst e; have q := led_fn N hm hm'; simp at q
  | @neg a k n v t hm _ ih =>
    generalize e : Value.ref a = v at h2
    cases h2 with
    | leaf j => injection e with e; exact (led_leaf X N (e ▸ hm)).elim
    | all hm' => injection e with e; subst e; have q := led_fn N hm hm'; simp at q
    | neg hm' h' => injection e with e; subst e; have q := led_fn N hm hm'; simp at q; rw [ih (q.1.2 ▸ h')]
    | bin hm' _ _ => injection e with e; subst e; have q := led_fn N hm hm'; simp at q
  | @bin a o k n v u l r hm _ _ ih1 ih2 =>
    generalize e : Value.ref a = v at h2
    cases h2 with
    | leaf j => injection e with e; exact (led_leaf X N (e ▸ hm)).elim
    | all hm' => injection e with e; subst e; have q := led_fn N hm hm'; simp at q
    | neg hm' h' => injection e with e; subst e; have q := led_fn N hm hm'; simp at q
    | bin hm' h1 h2 =>
      injection e with e; subst e; have q := led_fn N hm hm'; simp at q
      rw [ih1 (q.1.2.1 ▸ h1), ih2 (q.1.2.2 ▸ h2), wordS_inj _ _ q.1.1.1]
/-- a list of the ledger may change: the trees stand -/
theorem TI.chg (N : News h₀ L h news) {D : Addr} {xs : List Value} {n : Nat} (hD : (D, lstOf xs n) ∈ news) {news' : Led} (c : ∀ p ∈ news, p.1 ≠ D → p ∈ news') {v : Value} {t : T} (h1 : TI news v t) : TI news' v t := by
  induction h1 with
  | leaf i => exact .leaf i
  | all hm => refine .all (c _ hm ?_); rintro rfl; have q := led_fn N hm hD; simp at q
  | neg hm _ ih => refine .neg (c _ hm ?_) ih; rintro rfl; have q := led_fn N hm hD; simp at q
  | bin hm _ _ ih1 ih2 => refine .bin (c _ hm ?_) ih1 ih2; rintro rfl; have q := led_fn N hm hD; simp at q
theorem TIs.chg (N : News h₀ L h news) {D : Addr} {xs : List Value} {n : Nat} (hD : (D, lstOf xs n) ∈ news) {news' : Led} (c : ∀ p ∈ news, p.1 ≠ D → p ∈ news') {vs : List Value} {ts : List T} (h1 : TIs news vs ts) : TIs news' vs ts := by
  induction h1 with
  | nil => exact .nil
  | cons h _ ih => exact .cons (h.chg N hD c) ih
theorem TI.tup (F : Fr h₀ L h m) (X : (hd.heap_39 w.params).In h₀) (N : News h₀ L h news) {v : Value} {t : T} (h1 : TI news v t) : ∃ a k vs, v = .ref a ∧ IsTup h a (Value.str (hdS t) k :: vs).toArray := by
  cases h1 with
  | leaf i => exact ⟨_, _, _, rfl, _, F.keep _ _ (X _ _ (K_leaf w i)), rfl, _, rfl⟩
  | all hm => exact ⟨_, _, _, rfl, _, (N _ hm).1, rfl, _, rfl⟩
  | neg hm _ => exact ⟨_, _, _, rfl, _, (N _ hm).1, rfl, _, rfl⟩
  | bin hm _ _ => exact ⟨_, _, _, rfl, _, (N _ hm).1, rfl, _, rfl⟩
end
end Mine
end PartB1
section PartB2
open Classical
open PySem PySem.W PyProof.Rows PySem.Calls PySem.Spec PySem.SeqAt
open PySem.AutoSeq1 (wpAny_loadPart')
open PySem.MeetsSeq PySem.MeetsSeq2 PySem.MeetsSeq3
set_option maxRecDepth 100000
set_option maxHeartbeats 4000000
namespace Mine
theorem tupEqFirst (l b : Addr) (x y : Value) (xs ys : List Value) (n n2 : Nat) (dd dd2 : Option Addr) (sl sl2 : Array (Option Value)) :
    Meets (Builtin.«tuple.__eq__» ⟨[.ref l, .ref b], []⟩)
      (fun A R s => s.heap.get? l = some { cls := .type "tuple", dict := dd, data := .seq (x :: xs).toArray n, slots := sl } ∧ s.heap.get? b = some { cls := .type "tuple", dict := dd2, data := .seq (y :: ys).toArray n2, slots := sl2 } ∧
        EqAt A.in1 s x y false ∧ R (.ok (.ret (.bool false))) s) :=
  .of_wp fun prog w A R s h => by
    obtain ⟨hp, g, d, tk, os⟩ := s; obtain ⟨hl, hb, he, h⟩ := h
    have f2 := PySem.AutoSeq1.sub_tuple_tuple
    wp_walk using wpAny_loadPart' hl, wpAny_loadPart' hb, wpAny_forIn_list _ (fun rest b s' => b.1 = none ∧ s' = ⟨hp, g, d, tk, os⟩ ∧ ∃ r, rest = (x, y) :: r) _
    case turn =>
      rintro ⟨y', x'⟩ rest b s' ⟨hb', rfl, r, hr⟩
      injection hr with h1 h2
      injection h1 with h3 h4
      subst h3 h4
      refine wpAny_bind (he prog w _ _ ?_)
      wp_walk
      exact ⟨_, rfl, by simpa using h⟩
    case fin =>
      rintro ⟨b1, b2⟩ s' ⟨hb', rfl, r, hr⟩
      cases hr
    case h =>
      exact ⟨rfl, rfl, _, rfl⟩
theorem tupNeFirst (l b : Addr) (x y : Value) (xs ys : List Value) (n n2 : Nat) (dd dd2 : Option Addr) (sl sl2 : Array (Option Value)) :
    Meets (Builtin.«tuple.__ne__» ⟨[.ref l, .ref b], []⟩)
      (fun A R s => s.heap.get? l = some { cls := .type "tuple", dict := dd, data := .seq (x :: xs).toArray n, slots := sl } ∧ s.heap.get? b = some { cls := .type "tuple", dict := dd2, data := .seq (y :: ys).toArray n2, slots := sl2 } ∧
        EqAt A.in1 s x y false ∧ R (.ok (.ret (.bool true))) s) :=
  .of_wp fun prog w A R s h => by
    obtain ⟨hp, g, d, tk, os⟩ := s; obtain ⟨hl, hb, he, h⟩ := h
    have f2 := PySem.AutoSeq1.sub_tuple_tuple
    wp_walk using wpAny_loadPart' hl, wpAny_loadPart' hb, wpAny_forIn_list _ (fun rest b s' => b.1 = none ∧ s' = ⟨hp, g, d, tk, os⟩ ∧ ∃ r, rest = (x, y) :: r) _
    case turn =>
      rintro ⟨y', x'⟩ rest b s' ⟨hb', rfl, r, hr⟩
      injection hr with h1 h2
      injection h1 with h3 h4
      subst h3 h4
      refine wpAny_bind (he prog w _ _ ?_)
      wp_walk
      exact ⟨_, rfl, by simpa using h⟩
    case fin =>
      rintro ⟨b1, b2⟩ s' ⟨hb', rfl, r, hr⟩
      cases hr
    case h =>
      exact ⟨rfl, rfl, _, rfl⟩
section
variable {A : Around} {s : Shared}
theorem rcFirst {l b : Addr} {x y : Value} {xs ys : List Value} (hl : IsTup s.heap l (x :: xs).toArray) (hb : IsTup s.heap b (y :: ys).toArray) (hu : A.units < cLine)
    (he : EqAt A.in1 s x y false) : RcAt A s (.ref l) (.ref b) false := fun prog w E Q h => by
  obtain ⟨⟨cls, dd, data, sl⟩, ho, hc, n, hd⟩ := id hl
  obtain ⟨⟨cls2, dd2, data2, sl2⟩, ho2, hc2, n2, hd2⟩ := id hb
  simp only at hc hd hc2 hd2
  subst hc hd hc2 hd2
  exact richCompare_meets_room (op := .Eq) ⟨_, ho, rfl⟩ ⟨_, ho2, rfl⟩ PySem.F.slot_tuple_eq PySem.F.entry_tuple_eq (PySem.F.args_tuple_eq_2 _ _) (tupEqFirst l b x y xs ys n n2 dd dd2 sl sl2)
    ⟨ho, ho2, he, show Value.bool false ≠ Value.notImplemented ∧ Q (.bool false) s from ⟨(fun x => nomatch x), h⟩⟩ hu
theorem rcNeFirst {l b : Addr} {x y : Value} {xs ys : List Value} (hl : IsTup s.heap l (x :: xs).toArray) (hb : IsTup s.heap b (y :: ys).toArray) (hu : A.units < cLine)
    (he : EqAt A.in1 s x y false) : RcNeAt A s (.ref l) (.ref b) true := fun prog w E Q h => by
  obtain ⟨⟨cls, dd, data, sl⟩, ho, hc, n, hd⟩ := id hl
  obtain ⟨⟨cls2, dd2, data2, sl2⟩, ho2, hc2, n2, hd2⟩ := id hb
  simp only at hc hd hc2 hd2
  subst hc hd hc2 hd2
  exact richCompare_meets_room (op := .NotEq) ⟨_, ho, rfl⟩ ⟨_, ho2, rfl⟩ PySem.F.slot_tuple_ne PySem.F.entry_tuple_ne (PySem.F.args_tuple_ne_2 _ _) (tupNeFirst l b x y xs ys n n2 dd dd2 sl sl2)
    ⟨ho, ho2, he, show Value.bool true ≠ Value.notImplemented ∧ Q (.bool true) s from ⟨(fun x => nomatch x), h⟩⟩ hu
end
def T.dep : T → Nat
  | .leaf _ => 1
  | .all => 1
  | .neg t => t.dep + 1
  | .bin _ l r => max l.dep r.dep + 1
/-- what the items of two trees' tuples give: by constructor -/
theorem hdS_leaf : ∀ i j : Fin 6, (leafS i == leafS j) = decide (i = j) := by decide +kernel
theorem hdS_all : ∀ i : Fin 6, (leafS i == Str.ofString "all") = false ∧ (leafS i == Str.ofString "not") = false ∧ ∀ o, (leafS i == wordS o) = false := by decide +kernel
theorem hdS_all' : ∀ i : Fin 6, (Str.ofString "all" == leafS i) = false ∧ (Str.ofString "not" == leafS i) = false ∧ ∀ o, (wordS o == leafS i) = false := by decide +kernel
theorem hdS_word : ∀ o : Bool, (Str.ofString "all" == wordS o) = false ∧ (Str.ofString "not" == wordS o) = false ∧ (wordS o == Str.ofString "all") = false ∧ (wordS o == Str.ofString "not") = false := by decide +kernel
theorem hdS_an : (Str.ofString "all" == Str.ofString "not") = false ∧ (Str.ofString "not" == Str.ofString "all") = false := by decide +kernel
theorem wordS_eq : ∀ o p : Bool, (wordS o == wordS p) = decide (o = p) := by decide +kernel
section
variable {h₀ : Heap} {L : Addr} {news : Led} {w : World} {m : Str → Option Value} {s : Shared}
theorem eq_str {A : Around} {x y : Str} {t u : Tok} {b : Bool} (e : (x == y) = b) : EqAt A s (.str x t) (.str y u) b := e ▸ EqAt.str_str x t y u
theorem tup_of {a : Addr} {vs : List Value} {n : Nat} (N : News h₀ L s.heap news) (hm : (a, tupOf vs n) ∈ news) : IsTup s.heap a vs.toArray := ⟨_, (N _ hm).1, rfl, _, rfl⟩
theorem tup_leaf (F : Fr h₀ L s.heap m) (X : (hd.heap_39 w.params).In h₀) (i : Fin 6) : IsTup s.heap (leafA i) [.str (leafS i) (leafK i), leafV i].toArray := ⟨_, F.keep _ _ (X _ _ (K_leaf w i)), rfl, _, rfl⟩
theorem eqAt_rc {A : Around} (X : (hd.heap_39 w.params).In h₀) (N : News h₀ L s.heap news) {v u : Value} {t r : T} (h1 : TI news v t) (h2 : TI news u r) (h : ∀ a b, v = .ref a → u = .ref b → RcAt A s v u (decide (t = r))) : EqAt A s v u (decide (t = r)) := by
  have e1 : ∃ a, v = .ref a := by cases h1 <;> exact ⟨_, rfl⟩
  have e2 : ∃ a, u = .ref a := by cases h2 <;> exact ⟨_, rfl⟩
  obtain ⟨a, rfl⟩ := e1
  obtain ⟨b, rfl⟩ := e2
  by_cases hab : a = b
  · subst hab
    rw [decide_eq_true (TI.inj X N h1 h2)]
    exact EqAt.same _
  · exact EqAt.of_refs hab (h a b rfl rfl)
theorem rc_three {A : Around} {a b : Addr} {x0 x1 x2 y0 y1 y2 : Value} {c : Bool} (ha : IsTup s.heap a [x0, x1, x2].toArray) (hb : IsTup s.heap b [y0, y1, y2].toArray) (hu : A.units < cLine) {b0 b1 b2 : Bool}
    (e0 : EqAt A.in1 s x0 y0 b0) (e1 : EqAt A.in1 s x1 y1 b1) (e2 : EqAt A.in1 s x2 y2 b2) (hc : (b0 && (b1 && b2)) = c) : RcAt A s (.ref a) (.ref b) c ∧ RcNeAt A s (.ref a) (.ref b) (!c) := by
  have he : ∀ j (h1 : j < [x0, x1, x2].toArray.size) (h2 : j < [y0, y1, y2].toArray.size), EqAt A.in1 s [x0, x1, x2].toArray[j] [y0, y1, y2].toArray[j] ((fun i => if i = 0 then b0 else if i = 1 then b1 else b2) j) := fun j h1 h2 => by
    match j with
    | 0 => exact e0
    | 1 => exact e1
    | 2 => exact e2
    | j + 3 => exact absurd h1 (by simp)
  have q1 := RcAt.tuples (e := fun i => if i = 0 then b0 else if i = 1 then b1 else b2) ha hb hu he
  have q2 := RcNeAt.tuples (e := fun i => if i = 0 then b0 else if i = 1 then b1 else b2) ha hb hu he
  subst hc
  exact ⟨by simpa [List.range, List.range.loop] using q1, by simpa [List.range, List.range.loop] using q2⟩
theorem rc_two {A : Around} {a b : Addr} {x0 x1 y0 y1 : Value} {c : Bool} (ha : IsTup s.heap a [x0, x1].toArray) (hb : IsTup s.heap b [y0, y1].toArray) (hu : A.units < cLine) {b0 b1 : Bool}
    (e0 : EqAt A.in1 s x0 y0 b0) (e1 : EqAt A.in1 s x1 y1 b1) (hc : (b0 && b1) = c) : RcAt A s (.ref a) (.ref b) c ∧ RcNeAt A s (.ref a) (.ref b) (!c) := by
  have he : ∀ j (h1 : j < [x0, x1].toArray.size) (h2 : j < [y0, y1].toArray.size), EqAt A.in1 s [x0, x1].toArray[j] [y0, y1].toArray[j] ((fun i => if i = 0 then b0 else b1) j) := fun j h1 h2 => by
    match j with
    | 0 => exact e0
    | 1 => exact e1
    | j + 2 => exact absurd h1 (by simp)
  have q1 := RcAt.tuples (e := fun i => if i = 0 then b0 else b1) ha hb hu he
  have q2 := RcNeAt.tuples (e := fun i => if i = 0 then b0 else b1) ha hb hu he
  subst hc
  exact ⟨by simpa [List.range, List.range.loop] using q1, by simpa [List.range, List.range.loop] using q2⟩
theorem rc_one {A : Around} {a b : Addr} {x0 y0 : Value} {c : Bool} (ha : IsTup s.heap a [x0].toArray) (hb : IsTup s.heap b [y0].toArray) (hu : A.units < cLine)
    (e0 : EqAt A.in1 s x0 y0 c) : RcAt A s (.ref a) (.ref b) c ∧ RcNeAt A s (.ref a) (.ref b) (!c) := by
  have he : ∀ j (h1 : j < [x0].toArray.size) (h2 : j < [y0].toArray.size), EqAt A.in1 s [x0].toArray[j] [y0].toArray[j] c := fun j h1 h2 => by
    match j with
    | 0 => exact e0
    | j + 1 => exact absurd h1 (by simp)
  have q1 := RcAt.tuples ha hb hu he
  have q2 := RcNeAt.tuples ha hb hu he
  exact ⟨by simpa [List.range, List.range.loop] using q1, by simpa [List.range, List.range.loop] using q2⟩
theorem rc_first {A : Around} {a b : Addr} {x y : Str} {t u : Tok} {xs ys : List Value} (hl : IsTup s.heap a (Value.str x t :: xs).toArray) (hb : IsTup s.heap b (Value.str y u :: ys).toArray) (hu : A.units < cLine)
    (e : (x == y) = false) {c : Bool} (hc : c = false) : RcAt A s (.ref a) (.ref b) c ∧ RcNeAt A s (.ref a) (.ref b) (!c) := by
  subst hc
  exact ⟨rcFirst hl hb hu (eq_str e), rcNeFirst hl hb hu (eq_str e)⟩
theorem TI.rc (F : Fr h₀ L s.heap m) (X : (hd.heap_39 w.params).In h₀) (N : News h₀ L s.heap news) {v : Value} {t : T} (h1 : TI news v t) :
    ∀ {u : Value} {r : T} {A : Around}, TI news u r → A.units + t.dep < cLine → RcAt A s v u (decide (t = r)) ∧ RcNeAt A s v u (!decide (t = r)) := by
  induction h1 with
  | leaf i =>
    intro u r A h2 hu
    have hu' : A.units < cLine := by omega
    cases h2 with
    | leaf j =>
      by_cases e : i = j
      · subst e
        exact rc_two (tup_leaf F X i) (tup_leaf F X i) hu' (EqAt.same _) (EqAt.same _) (by simp)
      · exact rc_first (tup_leaf F X i) (tup_leaf F X j) hu' (by rw [hdS_leaf]; exact decide_eq_false e) (decide_eq_false (fun q => e (by injection q)))
    | all hm => exact rc_first (tup_leaf F X i) (tup_of N hm) hu' (hdS_all i).1 (decide_eq_false nofun)
    | neg hm _ => exact rc_first (tup_leaf F X i) (tup_of N hm) hu' (hdS_all i).2.1 (decide_eq_false nofun)
    | bin hm _ _ => exact rc_first (tup_leaf F X i) (tup_of N hm) hu' ((hdS_all i).2.2 _) (decide_eq_false nofun)
  | all hm =>
    intro u r A h2 hu
    have hu' : A.units < cLine := by omega
    cases h2 with
    | leaf j => exact rc_first (tup_of N hm) (tup_leaf F X j) hu' (hdS_all' j).1 (decide_eq_false nofun)
    | all hm' => exact rc_one (tup_of N hm) (tup_of N hm') hu' (eq_str (by simp))
    | neg hm' _ => exact rc_first (tup_of N hm) (tup_of N hm') hu' hdS_an.1 (decide_eq_false nofun)
    | bin hm' _ _ => exact rc_first (tup_of N hm) (tup_of N hm') hu' (hdS_word _).1 (decide_eq_false nofun)
  | @neg a k n v t hm h1 ih =>
    intro u r A h2 hu
    have hu' : A.units < cLine := by omega
    cases h2 with
    | leaf j => exact rc_first (tup_of N hm) (tup_leaf F X j) hu' (hdS_all' j).2.1 (decide_eq_false nofun)
    | all hm' => exact rc_first (tup_of N hm) (tup_of N hm') hu' hdS_an.2 (decide_eq_false nofun)
    | bin hm' _ _ => exact rc_first (tup_of N hm) (tup_of N hm') hu' (hdS_word _).2.1 (decide_eq_false nofun)
    | @neg _ _ _ _ r hm' h2 =>
      refine rc_two (tup_of N hm) (tup_of N hm') hu' (eq_str (b := true) (by simp)) (eqAt_rc X N h1 h2 fun a b _ _ => (ih h2 (by rw [T.dep] at hu; show A.units + 1 + t.dep < cLine; omega)).1) ?_
      simp
  | @bin a o k n v u' l r' hm h1 h1' ih1 ih2 =>
    intro u r A h2 hu
    have hu' : A.units < cLine := by omega
    cases h2 with
    | leaf j => exact rc_first (tup_of N hm) (tup_leaf F X j) hu' ((hdS_all' j).2.2 _) (decide_eq_false nofun)
    | all hm' => exact rc_first (tup_of N hm) (tup_of N hm') hu' (hdS_word _).2.2.1 (decide_eq_false nofun)
    | neg hm' _ => exact rc_first (tup_of N hm) (tup_of N hm') hu' (hdS_word _).2.2.2 (decide_eq_false nofun)
    | @bin _ p _ _ _ _ l2 r2 hm' h2 h2' =>
      refine rc_three (tup_of N hm) (tup_of N hm') hu' (eq_str (wordS_eq o p)) (eqAt_rc X N h1 h2 fun a b _ _ => (ih1 h2 ?_).1) (eqAt_rc X N h1' h2' fun a b _ _ => (ih2 h2' ?_).1) ?_
      · rw [T.dep] at hu; show A.units + 1 + l.dep < cLine; omega
      · rw [T.dep] at hu; show A.units + 1 + r'.dep < cLine; omega
      · simp
end
end Mine
end PartB2
section PartB3
open Classical
open PySem PySem.W PyProof.Rows PySem.Calls PySem.Spec PySem.SeqAt
set_option maxRecDepth 100000
set_option maxHeartbeats 400000
namespace Mine
def off (D : Addr) (news : Led) : Led := news.filter (fun p => decide (p.1 ≠ D))
theorem off_mem {D : Addr} {news : Led} {p : Addr × Obj} (h : p ∈ news) (hn : p.1 ≠ D) : p ∈ off D news := List.mem_filter.mpr ⟨h, by simpa using hn⟩
theorem off_ne {D : Addr} {news : Led} : ∀ p ∈ off D news, p.1 ≠ D := fun p hp => by simpa using (List.mem_filter.mp hp).2
theorem news_off {h₀ h : Heap} {L : Addr} {D : Addr} {o : Obj} {news : Led} (N : News h₀ L h news) (hm : (D, o) ∈ news) : News h₀ L h ((D, o) :: off D news) := fun p hp => by
  rcases List.mem_cons.mp hp with rfl | hp
  · exact N _ hm
  · exact N _ (List.mem_filter.mp hp).1
theorem sz16 : (sizeLine : Nat) = 16777216 := by decide +kernel
section
variable {prog : Program} {w w' : World} {A : Around} {E : Value → Shared → Prop} {s : Shared} {h₀ : Heap} {L D : Addr} {m : Str → Option Value} {news : Led} {vs : List Value} {n : Nat} {Q : Value → Shared → Prop}
theorem r_append {x : Value} (F : Fr h₀ L s.heap m) (N : News h₀ L s.heap news) (hm : (D, lstOf vs n) ∈ news) (hz : vs.length ≤ 100000)
    (h : ∀ h' news', Fr h₀ L h' m → News h₀ L h' news' → (D, lstOf (vs ++ [x]) (n + 1)) ∈ news' → (∀ p ∈ news, p.1 ≠ D → p ∈ news') → Q .none { s with heap := h' }) :
    wpAny (model prog w) A (call (.builtin "list.append") [.ref D, x]) Q E s := by
  have hz' : vs.toArray.size ≤ sizeLine := by rw [sz16, List.size_toArray]; omega
  refine append_K (its := vs.toArray) (n := n) (D := D) F (news_off N hm) (.head off_ne) ?_ hz'
  intro h' F' N'
  rw [List.push_toArray] at N'
  exact h h' _ F' N' (.head _) (fun p hp hne => .tail _ (off_mem hp hne))
theorem last_snoc (x : Value) : ∀ vs : List Value, kl_last (vs ++ [x]) = some (vs, x)
  | [] => rfl
  | v :: vs => by
    show kl_last (v :: (vs ++ [x])) = _
    unfold kl_last
    rw [last_snoc x vs]
theorem r_pop {x : Value} (F : Fr h₀ L s.heap m) (N : News h₀ L s.heap news) (hm : (D, lstOf (vs ++ [x]) n) ∈ news) (hz : vs.length ≤ 100000)
    (h : ∀ h' news', Fr h₀ L h' m → News h₀ L h' news' → (D, lstOf vs (n + 1)) ∈ news' → (∀ p ∈ news, p.1 ≠ D → p ∈ news') → Q x { s with heap := h' }) :
    wpAny (model prog w) A (call (.builtin "list.pop") [.ref D]) Q E s := by
  have hz' : (vs ++ [x]).toArray.toList.length ≤ sizeLine := by rw [sz16, List.toList_toArray, List.length_append, List.length_singleton]; omega
  have e : kl_last (vs ++ [x]).toArray.toList = some (vs, x) := last_snoc x vs
  refine kl_pop (its := (vs ++ [x]).toArray) (n := n) (D := D) F (news_off N hm) e (.head off_ne) hz' ?_
  intro h' F' N'
  exact h h' _ F' N' (.head _) (fun p hp hne => .tail _ (off_mem hp hne))
theorem r_pop0 {x : Value} {u : Tok} (F : Fr h₀ L s.heap m) (N : News h₀ L s.heap news) (hm : (D, lstOf (x :: vs) n) ∈ news) (hz : vs.length ≤ 100000)
    (h : ∀ h' news', Fr h₀ L h' m → News h₀ L h' news' → (D, lstOf vs (n + 1)) ∈ news' → (∀ p ∈ news, p.1 ≠ D → p ∈ news') → Q x { s with heap := h' }) :
    wpAny (model prog w) A (call (.builtin "list.pop") [.ref D, .int 0 u]) Q E s := by
  have hz' : (x :: vs).toArray.toList.length ≤ sizeLine := by rw [sz16]; simp; omega
  refine kl_popAt (k := 0) (p := []) (q := vs) (y := x) F (news_off N hm) (by decide) (by simp [seqIndex?]) (by rfl) (.head off_ne) hz' (fun h' F' N' => h h' _ F' N' (.head _) (fun p hp hne => .tail _ (off_mem hp hne)))
theorem r_extend2 {b : Addr} {x y : Value} {nb : Nat} (F : Fr h₀ L s.heap m) (N : News h₀ L s.heap news) (hm : (D, lstOf vs n) ∈ news) (hb : (b, lstOf [x, y] nb) ∈ news) (hbD : b ≠ D) (hz : vs.length ≤ 100000)
    (h : ∀ h' news', Fr h₀ L h' m → News h₀ L h' news' → (D, lstOf (vs ++ [x, y]) (n + 1)) ∈ news' → (∀ p ∈ news, p.1 ≠ D → p ∈ news') → Q .none { s with heap := h' }) :
    wpAny (model prog w) A (call (.builtin "list.extend") [.ref D, .ref b]) Q E s := by
  refine kl_extend F (news_off N hm) (.tail _ (off_mem hb hbD)) rfl (by simp) (.head off_ne) ?_ ?_ ?_ (fun h' F' N' => h h' _ F' N' (.head _) (fun p hp hne => .tail _ (off_mem hp hne)))
  · have q : Builtin.List.listTooLong (vs.toArray.size + [x, y].toArray.size) = false := by
      unfold Builtin.List.listTooLong
      rw [sz16]
      simp
      omega
    rw [q]
    simp
  · rw [sz16]; simp; omega
  · rw [sz16]; simp; omega
theorem lst_at (N : News h₀ L s.heap news) (hm : (D, lstOf vs n) ∈ news) : s.heap.IsList D vs.toArray := ⟨_, (N _ hm).1, rfl, _, rfl⟩
theorem r_eqNil {b : Addr} {nb : Nat} (N : News h₀ L s.heap news) (hm : (D, lstOf vs n) ∈ news) (hb : (b, lstOf [] nb) ∈ news) (hu : A.units < cLine)
    {c : Bool} (hc : decide (vs = []) = c) (h : Q (.bool c) s) : wpAny (model prog w) A (compareOp .Eq (.ref D) (.ref b)) Q E s := by
  subst hc
  by_cases e : vs = []
  · subst e
    refine eq_listAt (e := fun _ => true) (lst_at N hm) (lst_at N hb) rfl hu (fun j h1 => absurd h1 (by simp)) (by simpa using h)
  · rw [decide_eq_false e] at h
    exact eq_list_lengthsAt (lst_at N hm) (lst_at N hb) (by cases vs with | nil => exact absurd rfl e | cons _ _ => simp) hu h
theorem r_neNil {b : Addr} {nb : Nat} (N : News h₀ L s.heap news) (hm : (D, lstOf vs n) ∈ news) (hb : (b, lstOf [] nb) ∈ news) (hu : A.units < cLine)
    {c : Bool} (hc : decide (vs = []) = c) (h : Q (.bool (!c)) s) : wpAny (model prog w) A (compareOp .NotEq (.ref D) (.ref b)) Q E s := by
  subst hc
  by_cases e : vs = []
  · subst e
    exact RcNeAt.lists (e := fun _ => true) (lst_at N hm) (lst_at N hb) rfl hu (fun j h1 => absurd h1 (by simp)) _ _ _ _ (by simpa using h)
  · rw [decide_eq_false e] at h
    exact RcNeAt.lists_lengths (lst_at N hm) (lst_at N hb) (by cases vs with | nil => exact absurd rfl e | cons _ _ => simp) hu _ _ _ _ h
theorem r_len (N : News h₀ L s.heap news) (hm : (D, lstOf vs n) ∈ news) (hz : vs.length ≤ 1000) (h : ∀ t k, Q (.int (vs.length : Int) t) { s with toks := k }) :
    wpAny (model prog w) A (call (.builtin "len") [.ref D]) Q E s :=
  kun_lenL (k := (vs.length : Int)) (lst_at N hm) (by simp) (by omega) (h _ _)
end
section
variable {prog : Program} {w : World} {A : Around} {E : Value → Shared → Prop} {s : Shared} {h₀ : Heap} {L D : Addr} {m : Str → Option Value} {news : Led} {vs : List Value} {ts : List T} {n : Nat} {Q : Value → Shared → Prop} {v u : Value} {t r : T}
theorem r_eq (F : Fr h₀ L s.heap m) (X : (hd.heap_39 w.params).In h₀) (N : News h₀ L s.heap news) (h1 : TI news v t) (h2 : TI news u r) (hu : A.units + t.dep < cLine)
    {c : Bool} (hc : decide (t = r) = c) (h : Q (.bool c) s) : wpAny (model prog w) A (compareOp .Eq v u) Q E s := (h1.rc F X N h2 hu).1 _ _ _ _ (by rw [hc]; exact h)
theorem r_ne (F : Fr h₀ L s.heap m) (X : (hd.heap_39 w.params).In h₀) (N : News h₀ L s.heap news) (h1 : TI news v t) (h2 : TI news u r) (hu : A.units + t.dep < cLine)
    {c : Bool} (hc : decide (t = r) = c) (h : Q (.bool (!c)) s) : wpAny (model prog w) A (compareOp .NotEq v u) Q E s := (h1.rc F X N h2 hu).2 _ _ _ _ (by rw [hc]; exact h)
theorem in_eq (X : (hd.heap_39 w.params).In h₀) (N : News h₀ L s.heap news) (h1 : TIs news vs ts) (h2 : TI news u r) : (vs.any fun y => decide (∃ t, TI news y t ∧ t = r)) = decide (r ∈ ts) := by
  induction h1 with
  | nil => simp
  | @cons v vs t ts h _ ih =>
    rw [List.any_cons, ih]
    by_cases e : r = t
    · subst e
      rw [decide_eq_true (⟨_, h, rfl⟩ : ∃ t, TI news v t ∧ t = r)]
      simp
    · rw [decide_eq_false (fun ⟨t', a, b⟩ => e ((TI.inj X N h a).trans b).symm : ¬ ∃ t, TI news v t ∧ t = r)]
      simp [e]
theorem in_at (F : Fr h₀ L s.heap m) (X : (hd.heap_39 w.params).In h₀) (N : News h₀ L s.heap news) (h1 : TIs news vs ts) (h2 : TI news u r) (hu : ∀ t ∈ ts, A.units + 1 + t.dep < cLine) :
    ∀ y, y ∈ vs.toArray → EqAt A.in1 s y u (decide (∃ t, TI news y t ∧ t = r)) := by
  intro y hy
  have hy' : y ∈ vs := by simpa using hy
  clear hy
  induction h1 with
  | nil => cases hy'
  | @cons v vs t ts h _ ih =>
    rcases List.mem_cons.mp hy' with rfl | hy'
    · have e : decide (∃ t, TI news y t ∧ t = r) = decide (t = r) := by
        by_cases e : t = r
        · rw [decide_eq_true e, decide_eq_true ⟨_, h, e⟩]
        · rw [decide_eq_false e, decide_eq_false (fun ⟨t', a, b⟩ => e ((TI.inj X N h a).trans b))]
      rw [e]
      exact eqAt_rc X N h h2 fun a b _ _ => (h.rc F X N h2 (by show A.units + 1 + t.dep < cLine; exact hu t (.head _))).1
    · exact ih (fun t ht => hu t (.tail _ ht)) hy'
theorem r_in (F : Fr h₀ L s.heap m) (X : (hd.heap_39 w.params).In h₀) (N : News h₀ L s.heap news) (hm : (D, lstOf vs n) ∈ news) (h1 : TIs news vs ts) (h2 : TI news u r) (hu : ∀ t ∈ ts, A.units + 1 + t.dep < cLine)
    {c : Bool} (hc : decide (r ∈ ts) = c) (h : Q (.bool c) s) : wpAny (model prog w) A (compareOp .In u (.ref D)) Q E s := by
  subst hc
  refine in_listAt _ (lst_at N hm) (in_at F X N h1 h2 hu) ?_
  rw [List.any_toArray, in_eq X N h1 h2]
  exact h
theorem r_notIn (F : Fr h₀ L s.heap m) (X : (hd.heap_39 w.params).In h₀) (N : News h₀ L s.heap news) (hm : (D, lstOf vs n) ∈ news) (h1 : TIs news vs ts) (h2 : TI news u r) (hu : ∀ t ∈ ts, A.units + 1 + t.dep < cLine)
    {c : Bool} (hc : decide (r ∈ ts) = c) (h : Q (.bool (!c)) s) : wpAny (model prog w) A (compareOp .NotIn u (.ref D)) Q E s := by
  subst hc
  refine notIn_listAt _ (lst_at N hm) (in_at F X N h1 h2 hu) ?_
  rw [List.any_toArray, in_eq X N h1 h2]
  exact h
/-- tree[0] -/
theorem r_item0 {value slice : PySem.Expr} {a : Addr} {k : Tok} (F : Fr h₀ L s.heap m) (X : (hd.heap_39 w.params).In h₀) (N : News h₀ L s.heap news) (h1 : TI news (.ref a) t) (h : ∀ k, Q (.str (hdS t) k) s)
    (hs : subscripted slice false (.ref a) (.int 0 k) = operate [.ref a, .int 0 k] (getItem (.ref a) (.int 0 k)) := by with_unfolding_all rfl) :
    wpAny (model prog w) A (subscriptTail value slice (.ref a) (.int 0 k)) Q E s := by
  obtain ⟨a', k', vs, e, ht⟩ := h1.tup F X N
  injection e with e
  subst e
  exact item_tupleT (j := 0) ht (by decide) (by decide) (by simp [seqIndex?]) rfl (h _) hs
theorem r_itemT {value slice : PySem.Expr} {a : Addr} {k : Tok} {i : Int} {vs : List Value} {n j : Nat} {x : Value} (N : News h₀ L s.heap news) (hm : (a, tupOf vs n) ∈ news) (hlo : -(2 ^ 63) ≤ i) (hhi : i < 2 ^ 63) (hj : seqIndex? i vs.length = some j) (hx : vs[j]? = some x) (h : Q x s)
    (hs : subscripted slice false (.ref a) (.int i k) = operate [.ref a, .int i k] (getItem (.ref a) (.int i k)) := by with_unfolding_all rfl) :
    wpAny (model prog w) A (subscriptTail value slice (.ref a) (.int i k)) Q E s := item_tupleT (tup_of N hm) hlo hhi hj hx h hs
theorem r_itemL {value slice : PySem.Expr} {k : Tok} {x : Value} (N : News h₀ L s.heap news) (hm : (D, lstOf (x :: vs) n) ∈ news) (h : Q x s)
    (hs : subscripted slice false (.ref D) (.int 0 k) = operate [.ref D, .int 0 k] (getItem (.ref D) (.int 0 k)) := by with_unfolding_all rfl) :
    wpAny (model prog w) A (subscriptTail value slice (.ref D) (.int 0 k)) Q E s :=
  have hL := lst_at N hm
  tail_any hL.typeIs slot_list_getitem.lookup (wpAny_getItem_list hL (by decide) (by decide) rfl h) hs
theorem pick_to {y : Int} (h : 0 ≤ y) : slicePick vs.toArray none (some y) none = (vs.take y.toNat).toArray := by
  have e : sliceBounds none (some y) none vs.toArray.size = (((0 : Nat) : Int), ((min y.toNat vs.toArray.size : Nat) : Int), 1) := by
    simp only [sliceBounds, Option.getD_none, show (1 : Int) > 0 by decide, if_true, if_neg (show ¬ (y < 0) by omega)]
    congr 1
    congr 1
    omega
  rw [kmk_pick_nat _ e]
  show ((vs.drop 0).take (min y.toNat vs.toArray.size - 0)).toArray = _
  rw [List.drop_zero, Nat.sub_zero, List.size_toArray, kmk_take_min]
theorem pick_from {x : Int} (h : 0 ≤ x) : slicePick vs.toArray (some x) none none = (vs.drop x.toNat).toArray := by
  have e : sliceBounds (some x) none none vs.toArray.size = (((min x.toNat vs.toArray.size : Nat) : Int), ((vs.toArray.size : Nat) : Int), 1) := by
    simp only [sliceBounds, Option.getD_none, show (1 : Int) > 0 by decide, if_true, if_neg (show ¬ (x < 0) by omega)]
    congr 1
    omega
  rw [kmk_pick_nat _ e]
  show ((vs.drop (min x.toNat vs.toArray.size)).take (vs.toArray.size - min x.toNat vs.toArray.size)).toArray = _
  rw [List.size_toArray, kmk_drop_min, List.take_of_length_le]
  rw [List.length_drop]
  omega
theorem r_to {value slice : PySem.Expr} {y : Int} {ty : Tok} (F : Fr h₀ L s.heap m) (N : News h₀ L s.heap news) (hm : (D, lstOf vs n) ∈ news) (hy : 0 ≤ y) (hz : vs.length ≤ 1000)
    (h : ∀ D' h', Fr h₀ L h' m → News h₀ L h' ((D', lstOf (vs.take y.toNat) 0) :: news) → (∀ p ∈ news, p.1 < D') → Q (.ref D') { s with heap := h' })
    (hs : subscripted slice false (.ref D) (.ref s.heap.objs.size) = operate [.ref s.heap.objs.size, .ref D] (getItem (.ref D) (.ref s.heap.objs.size)) := by with_unfolding_all rfl) (ht : ∀ r, letTemporaryGo value (.ref D) r = pure () := by intro _; with_unfolding_all rfl) :
    wpAny (model prog w) A (subscriptTail value slice (.ref D) (.ref s.heap.objs.size)) Q E { s with heap := s.heap.push { cls := .type "slice", data := .fields #[.none, .int y ty, .none] } } :=
  kmk_slice F N (lst_at N hm) .none (.int y ty) (fun D' h' F' N' l => h D' h' F' (by rw [pick_to hy] at N'; exact N') l) hs ht (by rw [sz16]; simp; omega)
theorem r_from {value slice : PySem.Expr} {x : Int} {tx : Tok} (F : Fr h₀ L s.heap m) (N : News h₀ L s.heap news) (hm : (D, lstOf vs n) ∈ news) (hx : 0 ≤ x) (hz : vs.length ≤ 1000)
    (h : ∀ D' h', Fr h₀ L h' m → News h₀ L h' ((D', lstOf (vs.drop x.toNat) 0) :: news) → (∀ p ∈ news, p.1 < D') → Q (.ref D') { s with heap := h' })
    (hs : subscripted slice false (.ref D) (.ref s.heap.objs.size) = operate [.ref s.heap.objs.size, .ref D] (getItem (.ref D) (.ref s.heap.objs.size)) := by with_unfolding_all rfl) (ht : ∀ r, letTemporaryGo value (.ref D) r = pure () := by intro _; with_unfolding_all rfl) :
    wpAny (model prog w) A (subscriptTail value slice (.ref D) (.ref s.heap.objs.size)) Q E { s with heap := s.heap.push { cls := .type "slice", data := .fields #[.int x tx, .none, .none] } } :=
  kmk_slice F N (lst_at N hm) (.int x tx) .none (fun D' h' F' N' l => h D' h' F' (by rw [pick_from hx] at N'; exact N') l) hs ht (by rw [sz16]; simp; omega)
theorem r_cat {b : Addr} {ws : List Value} {nb : Nat} (F : Fr h₀ L s.heap m) (N : News h₀ L s.heap news) (hm : (D, lstOf vs n) ∈ news) (hb : (b, lstOf ws nb) ∈ news) (hz : vs.length + ws.length ≤ 1000)
    (h : ∀ D' h', Fr h₀ L h' m → News h₀ L h' ((D', lstOf (vs ++ ws) 0) :: news) → (∀ p ∈ news, p.1 < D') → Q (.ref D') { s with heap := h' }) :
    wpAny (model prog w) A (binaryOp .Add (.ref D) (.ref b)) Q E s :=
  add_lists F N (lst_at N hm) (lst_at N hb) (fun h' F' N' => h _ h' F' N' fun p hp => Heap.lt_size (N p hp).1) (by rw [sz16]; omega)
end
end Mine
end PartB3
section PartB4
open Classical
open PySem PySem.W PyProof.Rows PySem.Calls PySem.Spec PySem.SeqAt
set_option maxRecDepth 100000
set_option maxHeartbeats 400000
namespace Mine
abbrev Tp (mean : ExcName → Option Value) (mg mb : Str → Option Value) (h : Heap) : Prop := Top hd.view_39 (looseW hd.view_39 []) mean mg mb h
abbrev Ar (dp un : Nat) (gd : Option (List Code)) (env : Env) (outer : List Env) : Around := { handled := none, depth := dp, frames := some (env :: outer), guards := gd, units := un }
def Ret (g : Heap) (L : Addr) (s : Shared) (Out : Led → Value → Prop) (fl : Flow) (s' : Shared) : Prop :=
  ∃ h' tk m' news', s' = { s with heap := h', toks := tk } ∧ Fr g L h' m' ∧ News g L h' news' ∧ Out news' (match fl with | .ret v => v | _ => .none)
def Sp (w : World) (mean : ExcName → Option Value) (mg mb : Str → Option Value) (f : Addr) (vs : List Value) (dp un : Nat) (Pre : Led → Prop) (Out : Led → Led → Value → Prop) : Prop :=
  ∀ (A A₀ : Around) (env : Env) (outer : List Env) (base h₀ : Heap) (L : Addr) (m : Str → Option Value) (news : Led) (s : Shared) (Q E : Value → Shared → Prop),
    Below A₀ base outer h₀ → A.frames = some (env :: outer) → env.frame = some L → env.scope.kind = .function → A.handled = none → Fr h₀ L s.heap m → (hd.heap_39 w.params).In h₀ → News h₀ L s.heap news → Tp mean mg mb h₀ →
    A.depth + dp < recursionLimit → A.units + un < cLine → Pre news →
    (∀ r h' tk' news', Fr h₀ L h' m → News h₀ L h' news' → Out news news' r → Q r { s with heap := h', toks := tk' }) →
    wpAny (model PySem.Challenge.rw_or0014_01.row.prog w) A (call (.ref f) vs) Q E s
theorem Sp.intro {w : World} {mean : ExcName → Option Value} {mg mb : Str → Option Value} {f : Addr} {vs : List Value} {dp un : Nat} {Pre : Led → Prop} {Out : Led → Led → Value → Prop}
    {name qual : Str} {params : Arguments} {body : List Stmt} {scope : Scope} {dV kV doc pm cdv ct oc : Value} {an od : Option Addr} {osl : Array (Option Value)} {binds : List (Str × Value)}
    (ho : (hd.heap_39 w.params).lookup f = some ⟨oc, od, .func (fnOf name qual params body scope dV kV doc pm an cdv ct), osl⟩) (hcd : codeIn (hd.heap_39 w.params) cdv qual = true)
    (hbind : ∀ s, BindsTo s (fnOf name qual params body scope dV kV doc pm an cdv ct) ⟨vs, []⟩ binds) (hloc : ∀ y ∈ binds, scope.names.lookup y.1 = some .local)
    (hco : scope.isCoroutine = false) (hgen : scope.isGenerator = false) (hk : scope.kind = .function) (hcell : ∀ x ∈ scope.names, x.2 ≠ .cell)
    (h : ∀ (da ua : Nat) (gd : Option (List Code)) (A₀ : Around) (outer : List Env) (base g : Heap) (L : Addr) (news : Led) (s : Shared),
      Below A₀ base outer g → (hd.heap_39 w.params).In g → Tp mean mg mb g → Fr g L s.heap (fun y => binds.reverse.lookup y) → News g L s.heap news →
      da + dp < recursionLimit → ua + un < cLine → Pre news →
      wpAny (model PySem.Challenge.rw_or0014_01.row.prog w) (Ar da ua gd (envOf qual scope L f cdv) outer) (execs body (envOf qual scope L f cdv)) (Ret g L s (Out news)) (fun _ _ => False) s) :
    Sp w mean mg mb f vs (dp + 1) (un + 3) Pre Out := by
  intro A A₀ env outer base h₀ L m news s Q E B hA hf hke hh F X N T hd hu hP hret
  obtain ⟨hn, da, fr, gd, ua⟩ := A
  dsimp only at hA hh hd hu
  subst hA hh
  refine wpAny_call ?_
  refine code_def B F X N T rfl hf hke ho hcd (by show da < _; omega) (hbind s) hloc ?_ hco hgen hk hcell
  intro g L' h₁ FG F' N' B' X' T'
  refine wpAny_mono (h (da + 1) (ua + 3) gd _ (env :: outer) base g L' news { s with heap := h₁, toks := s.toks + binds.length } B' X' T' F' N' (by omega) (by omega) hP) ?_ (fun _ _ x => x.elim)
  rintro fl s' ⟨h', tk, m', news', rfl, F'', N'', ho'⟩
  exact ⟨L', m', news', F'', N'', fun Fe Ne => hret _ _ _ _ Fe Ne ho'⟩
theorem Sp.le {w : World} {mean : ExcName → Option Value} {mg mb : Str → Option Value} {f : Addr} {vs : List Value} {dp un dp' un' : Nat} {Pre : Led → Prop} {Out : Led → Led → Value → Prop}
    (h : Sp w mean mg mb f vs dp un Pre Out) (h1 : dp ≤ dp') (h2 : un ≤ un') : Sp w mean mg mb f vs dp' un' Pre Out :=
  fun A A₀ env outer base h₀ L m news s Q E B hA hf hke hh F X N T hd hu hP hret => h A A₀ env outer base h₀ L m news s Q E B hA hf hke hh F X N T (by omega) (by omega) hP hret
theorem Sp.use {w : World} {mean : ExcName → Option Value} {mg mb : Str → Option Value} {f : Addr} {vs : List Value} {dp un : Nat} {Pre : Led → Prop} {Out : Led → Led → Value → Prop} (h : Sp w mean mg mb f vs dp un Pre Out)
    {da ua : Nat} {gd : Option (List Code)} {A₀ : Around} {env : Env} {outer : List Env} {base h₀ : Heap} {L : Addr} {m : Str → Option Value} {news : Led} {s : Shared} {Q E : Value → Shared → Prop}
    (B : Below A₀ base outer h₀) (hf : env.frame = some L) (hke : env.scope.kind = .function) (F : Fr h₀ L s.heap m) (X : (hd.heap_39 w.params).In h₀) (N : News h₀ L s.heap news) (T : Tp mean mg mb h₀)
    (hd : da + dp < recursionLimit) (hu : ua + un < cLine) (hP : Pre news)
    (hret : ∀ r h' tk' news', Fr h₀ L h' m → News h₀ L h' news' → Out news news' r → Q r { s with heap := h', toks := tk' }) :
    wpAny (model PySem.Challenge.rw_or0014_01.row.prog w) (Ar da ua gd env outer) (call (.ref f) vs) Q E s := h _ A₀ env outer base h₀ L m news s Q E B rfl hf hke rfl F X N T hd hu hP hret
theorem fr_know {g h : Heap} {L : Addr} {m : Str → Option Value} {x : Str} {v : Value} (F : Fr g L h m) (e : m x = some v) : Fr g L h (fun y => if y = x then some v else m y) := by
  have q : (fun y => if y = x then some v else m y) = m := by
    funext y
    by_cases h : y = x
    · subst h; simp [e]
    · simp [h]
  rw [q]
  exact F
@[reducible] def know : List (Str × Value) → (Str → Option Value) → Str → Option Value
  | [], m => m
  | (x, v) :: r, m => fun y => if y = x then some v else know r m y
theorem know_eq {m : Str → Option Value} : ∀ {ps : List (Str × Value)}, (∀ p ∈ ps, m p.1 = some p.2) → know ps m = m
  | [], _ => rfl
  | (x, v) :: r, h => by
    funext y
    show (if y = x then some v else know r m y) = m y
    rw [know_eq (ps := r) fun p hp => h p (.tail _ hp)]
    by_cases q : y = x
    · subst q; rw [if_pos rfl, h _ (.head _)]
    · rw [if_neg q]
theorem fr_knows {g h : Heap} {L : Addr} {m : Str → Option Value} (ps : List (Str × Value)) (F : Fr g L h m) (e : ∀ p ∈ ps, m p.1 = some p.2) : Fr g L h (know ps m) := by
  rw [know_eq e]
  exact F
theorem fr_turn {g h : Heap} {L : Addr} {m : Str → Option Value} {x : Str} {v : Value} {ps : List (Str × Value)} (ns : List Str) (F : Fr g L h (fun y => if y = x then some v else m y)) (e : ∀ p ∈ ps, m p.1 = some p.2) (hn : ps.map (·.1) = ns) (hx : ns.contains x = false) :
    Fr g L h (know ps fun y => if y = x then some v else m y) :=
  fr_knows ps F fun p hp => by
    have h1 : p.1 ≠ x := fun q => by
      have h2 : p.1 ∈ ns := hn ▸ List.mem_map.mpr ⟨p, hp, rfl⟩
      have h3 : ns.contains x = true := List.contains_iff_mem.mpr (q ▸ h2)
      rw [hx] at h3
      cases h3
    show (if p.1 = x then _ else _) = _
    rw [if_neg h1]
    exact e p hp
theorem snoc_or {α : Type} (l : List α) : l = [] ∨ ∃ r x, l = r ++ [x] := by
  rcases List.eq_nil_or_concat l with h | ⟨r, x, h⟩
  · exact .inl h
  · exact .inr ⟨r, x, by rw [h, List.concat_eq_append]⟩
theorem own_cons {own nx : Led} {D : Addr} {o : Obj} (h : OwnOff own (nx.map (·.1))) (l : ∀ p ∈ nx ++ own, p.1 < D) : OwnOff own (((D, o) :: nx).map (·.1)) := by
  intro p hp b hb
  rcases List.mem_cons.mp hb with rfl | hb
  · exact Nat.ne_of_lt (l p (List.mem_append.mpr (.inr hp)))
  · exact h p hp b hb
theorem mem_l {own nx : Led} : ∀ p ∈ nx, p ∈ nx ++ own := fun _ h => List.mem_append.mpr (.inl h)
theorem mem_r {own nx : Led} : ∀ p ∈ own, p ∈ nx ++ own := fun _ h => List.mem_append.mpr (.inr h)
theorem loop_end {g h' : Heap} {L : Addr} {m' : Str → Option Value} {own nx : Led} {p : Addr × Obj} {J : (Str → Option Value) → Led → Prop} {s₁ : Shared} {tk : Nat} (F : Fr g L h' m') (N : News g L h' (p :: (nx ++ own))) (hoff : OwnOff own (nx.map (·.1))) (l : ∀ q ∈ nx ++ own, q.1 < p.1)
    (hj : J m' (p :: nx)) : InvEndG g L J own s₁ { s₁ with heap := h', toks := tk } :=
  InvEndG.intro F N hj (own_cons hoff l) (fun q hq => by
    rcases List.mem_cons.mp hq with rfl | hq
    · exact .head _
    · exact .tail _ (mem_l q hq)) (fun q hq => .tail _ (mem_r q hq))
def away (own nw : Led) : Led := nw.filter (fun p => decide (p.1 ∉ own.map (·.1)))
theorem away_mem {own nw : Led} {p : Addr × Obj} (h : p ∈ nw) (hn : ∀ q ∈ own, q.1 ≠ p.1) : p ∈ away own nw := by
  refine List.mem_filter.mpr ⟨h, decide_eq_true fun hm => ?_⟩
  obtain ⟨q, hq, e⟩ := List.mem_map.mp hm
  exact hn q hq e
theorem away_sub {own nw : Led} {p : Addr × Obj} (h : p ∈ away own nw) : p ∈ nw := (List.mem_filter.mp h).1
theorem off_of {own nx : Led} (h : OwnOff own (nx.map (·.1))) {p : Addr × Obj} (hp : p ∈ nx) : ∀ q ∈ own, q.1 ≠ p.1 := fun q hq => h q hq _ (List.mem_map.mpr ⟨p, hp, rfl⟩)
theorem loop_end2 {g h' : Heap} {L : Addr} {m' : Str → Option Value} {own nw : Led} {J : (Str → Option Value) → Led → Prop} {s₁ : Shared} {tk : Nat} (F : Fr g L h' m') (N : News g L h' nw) (ho : ∀ p ∈ own, p ∈ nw)
    (hj : J m' (away own nw)) : InvEndG g L J own s₁ { s₁ with heap := h', toks := tk } :=
  InvEndG.intro F N hj (fun p hp b hb e => by
    obtain ⟨q, hq, rfl⟩ := List.mem_map.mp hb
    have := (List.mem_filter.mp hq).2
    exact (of_decide_eq_true this) (List.mem_map.mpr ⟨p, hp, e⟩)) (fun p hp => away_sub hp) ho
def opp : T → T
  | .neg u => u
  | t => .neg t
def Sub (a b : Led) : Prop := ∀ p ∈ a, p ∈ b
theorem prime (w : World) : hd.heap_39 w.params = hd.heap_39 w.params ∧ PySem.Challenge.rw_or0014_01 = PySem.Challenge.rw_or0014_01 := by k_fill; exact ⟨rfl, rfl⟩
theorem r_eqStr {M : Model} {A : Around} {E : Value → Shared → Prop} {s : Shared} {prog : Program} {w : World} {x y : Str} {t u : Tok} {b : Bool} {Q : Value → Shared → Prop} (e : (x == y) = b) (h : Q (.bool b) s) :
    wpAny (model prog w) A (compareOp .Eq (.str x t) (.str y u)) Q E s := RcAt.str_str x t y u _ _ _ _ (by rw [e]; exact h)
theorem opp_or (t : T) : (∃ u, t = .neg u) ∨ ((hdS t == Str.ofString "not") = false ∧ opp t = .neg t) := by
  cases t with
  | leaf i => exact .inr ⟨(hdS_all i).2.1, rfl⟩
  | all => exact .inr ⟨hdS_an.1, rfl⟩
  | neg u => exact .inl ⟨u, rfl⟩
  | bin o _ _ => exact .inr ⟨(hdS_word o).2.2.2, rfl⟩
theorem TI.ref {news : Led} {v : Value} {t : T} (h : TI news v t) : ∃ a, v = .ref a := by cases h <;> exact ⟨_, rfl⟩
end Mine
end PartB4
section PartC1
open Classical
open PySem PySem.W PyProof.Rows PySem.Calls PySem.Spec PySem.SeqAt
set_option maxRecDepth 100000
set_option maxHeartbeats 8000000
namespace Mine
variable {w : World} {mean : ExcName → Option Value} {mg mb : Str → Option Value}
theorem prime_c1 (w : World) : hd.heap_39 w.params = hd.heap_39 w.params ∧ PySem.Challenge.rw_or0014_01 = PySem.Challenge.rw_or0014_01 := by k_fill; exact ⟨rfl, rfl⟩
local macro_rules | `(tactic| k_steps) => `(tactic| repeat' ((fail_if_success (with_reducible show wpAny _ _ (PySem.call (Value.ref _) _) _ _ _)); (fail_if_success (with_reducible show wpAny _ _ (PySem.exec (Stmt.For _ _ _ _ _) _) _ _ _)); (fail_if_success (with_reducible show wpAny _ _ (PySem.exec (Stmt.While _ _ _ _) _) _ _ _)); (fail_if_success (with_reducible show wpAny _ _ (PySem.pyIter (Value.ref _)) _ _ _)); (fail_if_success (with_reducible show wpAny _ _ (PySem.subscriptTail _ _ (Value.ref _) _) _ _ _)); (fail_if_success (with_reducible show wpAny _ _ (PySem.call (Value.builtin _) (Value.ref _ :: _)) _ _ _)); (fail_if_success (with_reducible show wpAny _ _ (PySem.call (Value.builtin _) ([Value.ref _] ++ _)) _ _ _)); (fail_if_success (with_reducible show wpAny _ _ (PySem.compareOp _ (Value.ref _) (Value.ref _)) _ _ _)); (fail_if_success (with_reducible show wpAny _ _ (PySem.binaryOp _ (Value.ref _) (Value.ref _)) _ _ _)); (fail_if_success (with_reducible show wpAny _ _ (PySem.getMethod (Value.ref _) _ _) _ _ _)); first | (k_unfold; (try dsimp only)) | (k_end; wrow_close) | walk1 | (dsimp only; walk1) | (leave1; walk_say "STEP leave1"; try dsimp only) | fail "no step"))
theorem opp_sp {v : Value} {t : T} : Sp w mean mg mb 42 [v] 1 33 (fun l => TI l v t) (fun l l' r => Sub l l' ∧ TI l' r (opp t)) := by
  refine' Sp.le (Sp.intro (dp := 0) (un := 30) (binds := [("tree", v)]) ?ho ?hcd ?hb ?hl ?c1 ?c2 ?c3 ?c4 ?_) (by omega) (by omega)
  case ho => k_is
  case hcd => k_is
  case hb => exact fun s => BindsTo.of_eq rfl
  case hl => exact locs rfl
  case c1 => rfl
  case c2 => rfl
  case c3 => rfl
  case c4 => decide
  intro da ua gd A₀ outer base g L news s B X T' F N hd hu hR
  obtain ⟨a, rfl⟩ := hR.ref
  rcases opp_or t with ⟨u, rfl⟩ | ⟨hn, ho⟩
  · have hn : (hdS (.neg u) == Str.ofString "not") = true := rfl
    k_steps
    refine r_item0 F X N hR ?_
    intro k
    k_steps
    cases hR with
    | neg hm h1 =>
    refine r_itemT (j := 1) N hm (by decide) (by decide) (by simp [seqIndex?]) rfl ?_
    exact ⟨_, _, _, _, rfl, F, N, fun p hp => hp, h1⟩
  · k_steps
    refine r_item0 F X N hR ?_
    intro k
    k_steps
    rename Fr _ _ _ _ => F'
    rename News _ _ _ _ => N'
    exact ⟨_, _, _, _, rfl, F', N', fun p hp => .tail _ hp, ho ▸ .neg (.head _) (hR.mono fun p hp => .tail _ hp)⟩
theorem con_sp {v : Value} {t : T} : Sp w mean mg mb 107 [v] 1 33 (fun l => TI l v t) (fun l l' r => Sub l l' ∧ TI l' r (opp t)) := by
  refine' Sp.le (Sp.intro (dp := 0) (un := 30) (binds := [("part", v)]) ?ho ?hcd ?hb ?hl ?c1 ?c2 ?c3 ?c4 ?_) (by omega) (by omega)
  case ho => k_is
  case hcd => k_is
  case hb => exact fun s => BindsTo.of_eq rfl
  case hl => exact locs rfl
  case c1 => rfl
  case c2 => rfl
  case c3 => rfl
  case c4 => decide
  intro da ua gd A₀ outer base g L news s B X T' F N hd hu hR
  obtain ⟨a, rfl⟩ := hR.ref
  rcases opp_or t with ⟨u, rfl⟩ | ⟨hn, ho⟩
  · have hn : (hdS (.neg u) == Str.ofString "not") = true := rfl
    k_steps
    refine r_item0 F X N hR ?_
    intro k
    k_steps
    cases hR with
    | neg hm h1 =>
    refine r_itemT (j := 1) N hm (by decide) (by decide) (by simp [seqIndex?]) rfl ?_
    exact ⟨_, _, _, _, rfl, F, N, fun p hp => hp, h1⟩
  · k_steps
    refine r_item0 F X N hR ?_
    intro k
    k_steps
    rename Fr _ _ _ _ => F'
    rename News _ _ _ _ => N'
    exact ⟨_, _, _, _, rfl, F', N', fun p hp => .tail _ hp, ho ▸ .neg (.head _) (hR.mono fun p hp => .tail _ hp)⟩
end Mine
end PartC1
section PartC2
open Classical
open PySem PySem.W PyProof.Rows PySem.Calls PySem.Spec PySem.SeqAt
set_option maxRecDepth 100000
set_option maxHeartbeats 8000000
namespace Mine
variable {w : World} {mean : ExcName → Option Value} {mg mb : Str → Option Value}
theorem prime_c2 (w : World) : hd.heap_39 w.params = hd.heap_39 w.params ∧ PySem.Challenge.rw_or0014_01 = PySem.Challenge.rw_or0014_01 := by k_fill; exact ⟨rfl, rfl⟩
local macro_rules | `(tactic| k_steps) => `(tactic| repeat' ((fail_if_success (with_reducible show wpAny _ _ (PySem.call (Value.ref _) _) _ _ _)); (fail_if_success (with_reducible show wpAny _ _ (PySem.exec (Stmt.For _ _ _ _ _) _) _ _ _)); (fail_if_success (with_reducible show wpAny _ _ (PySem.exec (Stmt.While _ _ _ _) _) _ _ _)); (fail_if_success (with_reducible show wpAny _ _ (PySem.pyIter (Value.ref _)) _ _ _)); (fail_if_success (with_reducible show wpAny _ _ (PySem.subscriptTail _ _ (Value.ref _) _) _ _ _)); (fail_if_success (with_reducible show wpAny _ _ (PySem.call (Value.builtin _) (Value.ref _ :: _)) _ _ _)); (fail_if_success (with_reducible show wpAny _ _ (PySem.call (Value.builtin _) ([Value.ref _] ++ _)) _ _ _)); (fail_if_success (with_reducible show wpAny _ _ (PySem.compareOp _ (Value.ref _) (Value.ref _)) _ _ _)); (fail_if_success (with_reducible show wpAny _ _ (PySem.binaryOp _ (Value.ref _) (Value.ref _)) _ _ _)); (fail_if_success (with_reducible show wpAny _ _ (PySem.getMethod (Value.ref _) _ _) _ _ _)); first | (k_unfold; (try dsimp only)) | (k_end; wrow_close) | walk1 | (dsimp only; walk1) | (leave1; walk_say "STEP leave1"; try dsimp only) | fail "no step"))
def halvesN : Nat → List T → T
  | 0, _ => .all
  | n + 1, ts => if ts.length = 1 then ts.headD .all else .bin true (halvesN n (ts.take (ts.length / 2))) (halvesN n (ts.drop (ts.length / 2)))
theorem half_sp : ∀ (n : Nat) (a : Addr) (vs : List Value) (k : Nat) (ts : List T), ts ≠ [] → ts.length ≤ n → n ≤ 100 →
    Sp w mean mg mb 49 [.ref a] n (3 * n + 30) (fun l => (a, lstOf vs k) ∈ l ∧ TIs l vs ts) (fun l l' r => Sub l l' ∧ TI l' r (halvesN n ts)) := by
  intro n
  induction n with
  | zero => intro a vs k ts h1 h2; cases ts with
    | nil => exact absurd rfl h1
    | cons _ _ => simp at h2
  | succ n ih =>
  intro a vs k ts h1 h2 h3
  refine' Sp.le (Sp.intro (dp := n) (un := 3 * n + 30) (binds := [("trees", .ref a)]) ?ho ?hcd ?hb ?hl ?c1 ?c2 ?c3 ?c4 ?_) (by omega) (by omega)
  case ho => k_is
  case hcd => k_is
  case hb => exact fun s => BindsTo.of_eq rfl
  case hl => exact locs rfl
  case c1 => rfl
  case c2 => rfl
  case c3 => rfl
  case c4 => decide
  intro da ua gd A₀ outer base g L news s B X T' F N hd hu hR
  obtain ⟨hm, hR⟩ := hR
  have hlen := hR.length
  k_steps
  refine r_len N hm (by omega) ?_
  intro t tk
  k_steps
  · rename ((_ : Int) = 1) => e1
    cases hR with
    | nil => exact absurd rfl h1
    | @cons x _ r rs hx hr =>
    refine r_itemL N hm ?_
    refine ⟨_, _, _, _, rfl, F, N, fun p hp => hp, ?_⟩
    have hone : (r :: rs).length = 1 := by omega
    rw [halvesN, if_pos hone]
    exact hx
  · rename ((_ : Int) ≠ 1) => e1
    refine r_len N hm (by omega) ?_
    intro t tk
    k_steps
    have e2 : ((vs.length : Int).fdiv 2) = ((ts.length / 2 : Nat) : Int) := by rw [Int.fdiv_eq_ediv_of_nonneg _ (by decide), hlen]; omega
    have e3 : 0 ≤ ((vs.length : Int).fdiv 2) := by omega
    have e4 : ((vs.length : Int).fdiv 2).toNat = ts.length / 2 := by omega
    have h5 : 2 ≤ ts.length := by cases ts with
      | nil => exact absurd rfl h1
      | cons _ r => cases r with
        | nil => simp at hlen; omega
        | cons _ _ => simp
    rename Fr _ _ _ _ => F1
    rename News _ _ _ _ => N1
    dsimp only at F1
    refine r_to F1 N1 hm e3 (by omega) ?_
    intro D1 h1' F1 N1 l1
    rw [e4] at N1
    k_steps
    refine (ih D1 _ _ (ts.take (ts.length / 2)) ?_ ?_ (by omega)).use B rfl rfl F1 X N1 T' (by omega) (by omega) ⟨.head _, (hR.take _).mono fun p hp => .tail _ hp⟩ ?_
    · intro q; have q2 := congrArg List.length q; rw [List.length_take, List.length_nil] at q2; omega
    · rw [List.length_take]; omega
    intro r1 h1' tk1 news1 F1 N1 hO1
    obtain ⟨s1, o1⟩ := hO1
    k_steps
    refine r_from F1 N1 (s1 _ (.tail _ hm)) e3 (by omega) ?_
    intro D2 h2' F2 N2 l2
    rw [e4] at N2
    k_steps
    refine (ih D2 _ _ (ts.drop (ts.length / 2)) ?_ ?_ (by omega)).use B rfl rfl F2 X N2 T' (by omega) (by omega) ⟨.head _, (hR.drop _).mono fun p hp => .tail _ (s1 _ (.tail _ hp))⟩ ?_
    · intro q; have q2 := congrArg List.length q; rw [List.length_drop, List.length_nil] at q2; omega
    · rw [List.length_drop]; omega
    intro r2 h2' tk2 news2 F2 N2 hO2
    obtain ⟨s2, o2⟩ := hO2
    k_steps
    rename Fr _ _ _ _ => F3
    rename News _ _ _ _ => N3
    have hone : ¬ ts.length = 1 := by omega
    refine ⟨_, _, _, _, rfl, F3, N3, fun p hp => .tail _ (s2 _ (.tail _ (s1 _ (.tail _ hp)))), ?_⟩
    rw [halvesN, if_neg hone]
    exact .bin (o := true) (.head _) (o1.mono fun p hp => .tail _ (s2 _ (.tail _ hp))) (o2.mono fun p hp => .tail _ hp)
theorem hlv_sp : ∀ (n : Nat) (a : Addr) (vs : List Value) (k : Nat) (ts : List T), ts ≠ [] → ts.length ≤ n → n ≤ 100 →
    Sp w mean mg mb 114 [.ref a] n (3 * n + 30) (fun l => (a, lstOf vs k) ∈ l ∧ TIs l vs ts) (fun l l' r => Sub l l' ∧ TI l' r (halvesN n ts)) := by
  intro n
  induction n with
  | zero => intro a vs k ts h1 h2; cases ts with
    | nil => exact absurd rfl h1
    | cons _ _ => simp at h2
  | succ n ih =>
  intro a vs k ts h1 h2 h3
  refine' Sp.le (Sp.intro (dp := n) (un := 3 * n + 30) (binds := [("parts", .ref a)]) ?ho ?hcd ?hb ?hl ?c1 ?c2 ?c3 ?c4 ?_) (by omega) (by omega)
  case ho => k_is
  case hcd => k_is
  case hb => exact fun s => BindsTo.of_eq rfl
  case hl => exact locs rfl
  case c1 => rfl
  case c2 => rfl
  case c3 => rfl
  case c4 => decide
  intro da ua gd A₀ outer base g L news s B X T' F N hd hu hR
  obtain ⟨hm, hR⟩ := hR
  have hlen := hR.length
  k_steps
  refine r_len N hm (by omega) ?_
  intro t tk
  k_steps
  · rename ((_ : Int) = 1) => e1
    cases hR with
    | nil => exact absurd rfl h1
    | @cons x _ r rs hx hr =>
    refine r_itemL N hm ?_
    refine ⟨_, _, _, _, rfl, F, N, fun p hp => hp, ?_⟩
    have hone : (r :: rs).length = 1 := by omega
    rw [halvesN, if_pos hone]
    exact hx
  · rename ((_ : Int) ≠ 1) => e1
    refine r_len N hm (by omega) ?_
    intro t tk
    k_steps
    have e2 : ((vs.length : Int).fdiv 2) = ((ts.length / 2 : Nat) : Int) := by rw [Int.fdiv_eq_ediv_of_nonneg _ (by decide), hlen]; omega
    have e3 : 0 ≤ ((vs.length : Int).fdiv 2) := by omega
    have e4 : ((vs.length : Int).fdiv 2).toNat = ts.length / 2 := by omega
    have h5 : 2 ≤ ts.length := by cases ts with
      | nil => exact absurd rfl h1
      | cons _ r => cases r with
        | nil => simp at hlen; omega
        | cons _ _ => simp
    rename Fr _ _ _ _ => F1
    rename News _ _ _ _ => N1
    dsimp only at F1
    refine r_to F1 N1 hm e3 (by omega) ?_
    intro D1 h1' F1 N1 l1
    rw [e4] at N1
    k_steps
    refine (ih D1 _ _ (ts.take (ts.length / 2)) ?_ ?_ (by omega)).use B rfl rfl F1 X N1 T' (by omega) (by omega) ⟨.head _, (hR.take _).mono fun p hp => .tail _ hp⟩ ?_
    · intro q; have q2 := congrArg List.length q; rw [List.length_take, List.length_nil] at q2; omega
    · rw [List.length_take]; omega
    intro r1 h1' tk1 news1 F1 N1 hO1
    obtain ⟨s1, o1⟩ := hO1
    k_steps
    refine r_from F1 N1 (s1 _ (.tail _ hm)) e3 (by omega) ?_
    intro D2 h2' F2 N2 l2
    rw [e4] at N2
    k_steps
    refine (ih D2 _ _ (ts.drop (ts.length / 2)) ?_ ?_ (by omega)).use B rfl rfl F2 X N2 T' (by omega) (by omega) ⟨.head _, (hR.drop _).mono fun p hp => .tail _ (s1 _ (.tail _ hp))⟩ ?_
    · intro q; have q2 := congrArg List.length q; rw [List.length_drop, List.length_nil] at q2; omega
    · rw [List.length_drop]; omega
    intro r2 h2' tk2 news2 F2 N2 hO2
    obtain ⟨s2, o2⟩ := hO2
    k_steps
    rename Fr _ _ _ _ => F3
    rename News _ _ _ _ => N3
    have hone : ¬ ts.length = 1 := by omega
    refine ⟨_, _, _, _, rfl, F3, N3, fun p hp => .tail _ (s2 _ (.tail _ (s1 _ (.tail _ hp)))), ?_⟩
    rw [halvesN, if_neg hone]
    exact .bin (o := true) (.head _) (o1.mono fun p hp => .tail _ (s2 _ (.tail _ hp))) (o2.mono fun p hp => .tail _ hp)
end Mine
end PartC2
section PartC3
open Classical
open PySem PySem.W PyProof.Rows PySem.Calls PySem.Spec PySem.SeqAt
set_option maxRecDepth 100000
set_option maxHeartbeats 8000000
namespace Mine
variable {w : World} {mean : ExcName → Option Value} {mg mb : Str → Option Value}
theorem prime_c3 (w : World) : hd.heap_39 w.params = hd.heap_39 w.params ∧ PySem.Challenge.rw_or0014_01 = PySem.Challenge.rw_or0014_01 := by k_fill; exact ⟨rfl, rfl⟩
local macro_rules | `(tactic| k_steps) => `(tactic| repeat' ((fail_if_success (with_reducible show wpAny _ _ (PySem.call (Value.ref _) _) _ _ _)); (fail_if_success (with_reducible show wpAny _ _ (PySem.exec (Stmt.For _ _ _ _ _) _) _ _ _)); (fail_if_success (with_reducible show wpAny _ _ (PySem.exec (Stmt.While _ _ _ _) _) _ _ _)); (fail_if_success (with_reducible show wpAny _ _ (PySem.pyIter (Value.ref _)) _ _ _)); (fail_if_success (with_reducible show wpAny _ _ (PySem.subscriptTail _ _ (Value.ref _) _) _ _ _)); (fail_if_success (with_reducible show wpAny _ _ (PySem.call (Value.builtin _) (Value.ref _ :: _)) _ _ _)); (fail_if_success (with_reducible show wpAny _ _ (PySem.call (Value.builtin _) ([Value.ref _] ++ _)) _ _ _)); (fail_if_success (with_reducible show wpAny _ _ (PySem.compareOp _ (Value.ref _) (Value.ref _)) _ _ _)); (fail_if_success (with_reducible show wpAny _ _ (PySem.binaryOp _ (Value.ref _) (Value.ref _)) _ _ _)); (fail_if_success (with_reducible show wpAny _ _ (PySem.getMethod (Value.ref _) _ _) _ _ _)); first | (k_unfold; (try dsimp only)) | (k_end; wrow_close) | walk1 | (dsimp only; walk1) | (leave1; walk_say "STEP leave1"; try dsimp only) | fail "no step"))
def rowT : List T → T
  | [] => .all
  | t :: ts => ts.foldl (fun a p => .bin false a p) t
theorem row_sp {a : Addr} {vs : List Value} {k : Nat} {ts : List T} (h1 : ts ≠ []) (h2 : ts.length ≤ 100) :
    Sp w mean mg mb 56 [.ref a] 1 33 (fun l => (a, lstOf vs k) ∈ l ∧ TIs l vs ts) (fun l l' r => Sub l l' ∧ TI l' r (rowT ts)) := by
  refine' Sp.le (Sp.intro (dp := 0) (un := 30) (binds := [("trees", .ref a)]) ?ho ?hcd ?hb ?hl ?c1 ?c2 ?c3 ?c4 ?_) (by omega) (by omega)
  case ho => k_is
  case hcd => k_is
  case hb => exact fun s => BindsTo.of_eq rfl
  case hl => exact locs rfl
  case c1 => rfl
  case c2 => rfl
  case c3 => rfl
  case c4 => decide
  intro da ua gd A₀ outer base g L news s B X T' F N hd hu hR
  obtain ⟨hm, hR⟩ := hR
  have hlen := hR.length
  cases hR with
  | nil => exact absurd rfl h1
  | @cons x xs r rs hx hr =>
  k_steps
  refine r_itemL N hm ?_
  k_steps
  rename Fr _ _ _ _ => F1
  rename News _ _ _ _ => N1
  (try dsimp only at F1)
  refine For_invV g rfl rfl ?_
  k_steps
  refine r_from F1 N1 hm (by decide) (by omega) ?_
  intro D2 h2' F2 N2 l2
  have e1 : List.drop (Int.toNat 1) (x :: xs) = xs := rfl
  rw [e1] at N2
  clear F1 N1
  k_steps
  refine kdl_iter (fun i m' nx => Sub news nx ∧ ∃ v, m' (Str.ofString "tree") = some v ∧ TI nx v ((rs.take i).foldl (fun a p => .bin false a p) r)) rfl (.head _) F2 N2 ⟨fun p hp => .tail _ hp, x, rfl, hx.mono fun p hp => .tail _ hp⟩ ?_ ?_
  · rintro i v m1 nx h3 tk3 own hv hoff hl ⟨hs, v0, hm1, ht⟩ F3 N3
    obtain ⟨tp, htp, hv2⟩ := (hr.mono hs).get _ _ hv
    have F4 := fr_know F3 (x := Str.ofString "tree") (v := v0) (by show (if Str.ofString "tree" = Str.ofString "part" then _ else _) = _; rw [if_neg (by decide)]; exact hm1)
    clear F3
    k_steps
    rename Fr _ _ _ _ => F5
    rename News _ _ _ _ => N5
    rename (∀ p ∈ nx ++ own, p.1 < _) => l5
    refine loop_end F5 N5 hoff l5 ⟨.tail _ hl, fun p hp => .tail _ (hs p hp), _, rfl, ?_⟩
    rw [List.take_add_one, htp, Option.toList_some, List.foldl_append]
    exact .bin (o := false) (.head _) (ht.mono fun p hp => .tail _ hp) (hv2.mono fun p hp => .tail _ hp)
  · rintro m1 nx h3 tk3 ⟨hs, v0, hm1, ht⟩ F3 N3
    have F4 := fr_know F3 hm1
    clear F3
    dsimp only
    k_steps
    rename Fr _ _ _ _ => F5
    rename News _ _ _ _ => N5
    refine ⟨_, _, _, _, rfl, F5, N5, hs, ?_⟩
    rw [List.take_of_length_le (by simp at hlen; omega)] at ht
    exact ht
end Mine
end PartC3
section PartC4
open Classical
open PySem PySem.W PyProof.Rows PySem.Calls PySem.Spec PySem.SeqAt
set_option maxRecDepth 100000
set_option maxHeartbeats 8000000
namespace Mine
variable {w : World} {mean : ExcName → Option Value} {mg mb : Str → Option Value}
theorem prime_c4 (w : World) : hd.heap_39 w.params = hd.heap_39 w.params ∧ PySem.Challenge.rw_or0014_01 = PySem.Challenge.rw_or0014_01 := by k_fill; exact ⟨rfl, rfl⟩
local macro_rules | `(tactic| k_steps) => `(tactic| repeat' ((fail_if_success (with_reducible show wpAny _ _ (PySem.call (Value.ref _) _) _ _ _)); (fail_if_success (with_reducible show wpAny _ _ (PySem.exec (Stmt.For _ _ _ _ _) _) _ _ _)); (fail_if_success (with_reducible show wpAny _ _ (PySem.exec (Stmt.While _ _ _ _) _) _ _ _)); (fail_if_success (with_reducible show wpAny _ _ (PySem.pyIter (Value.ref _)) _ _ _)); (fail_if_success (with_reducible show wpAny _ _ (PySem.subscriptTail _ _ (Value.ref _) _) _ _ _)); (fail_if_success (with_reducible show wpAny _ _ (PySem.call (Value.builtin _) (Value.ref _ :: _)) _ _ _)); (fail_if_success (with_reducible show wpAny _ _ (PySem.call (Value.builtin _) ([Value.ref _] ++ _)) _ _ _)); (fail_if_success (with_reducible show wpAny _ _ (PySem.compareOp _ (Value.ref _) (Value.ref _)) _ _ _)); (fail_if_success (with_reducible show wpAny _ _ (PySem.binaryOp _ (Value.ref _) (Value.ref _)) _ _ _)); (fail_if_success (with_reducible show wpAny _ _ (PySem.getMethod (Value.ref _) _ _) _ _ _)); first | (k_unfold; (try dsimp only)) | (k_end; wrow_close) | walk1 | (dsimp only; walk1) | (leave1; walk_say "STEP leave1"; try dsimp only) | fail "no step"))
def ops (k : Bool) : T → List T
  | .bin o l r => if o = k then ops k l ++ ops k r else [.bin o l r]
  | .leaf i => [.leaf i]
  | .all => [.all]
  | .neg t => [.neg t]
def T.sz : T → Nat
  | .bin _ l r => l.sz + r.sz + 1
  | .leaf _ => 1
  | .all => 1
  | .neg _ => 1
theorem T.sz_pos : ∀ t : T, 1 ≤ t.sz
  | .bin _ l r => by unfold T.sz; omega
  | .leaf _ => Nat.le_refl _
  | .all => Nat.le_refl _
  | .neg _ => Nat.le_refl _
def szs (ls : List T) : Nat := (ls.map T.sz).sum
theorem szs_snoc (ls : List T) (t : T) : szs (ls ++ [t]) = szs ls + t.sz := by simp [szs]
theorem szs_len : ∀ ls : List T, ls.length ≤ szs ls
  | [] => Nat.le_refl _
  | t :: r => by have := szs_len r; have := t.sz_pos; simp only [szs, List.map_cons, List.sum_cons, List.length_cons] at *; omega
def rest (k : Bool) (ls : List T) : List T := ls.reverse.flatMap (ops k)
theorem rest_snoc (k : Bool) (ls : List T) (t : T) : rest k (ls ++ [t]) = ops k t ++ rest k ls := by simp [rest]
theorem ops_or (k : Bool) (t : T) : (∃ l r, t = .bin k l r) ∨ ((hdS t == wordS k) = false ∧ ops k t = [t]) := by
  cases t with
  | leaf i => exact .inr ⟨(hdS_all i).2.2 k, rfl⟩
  | all => exact .inr ⟨(hdS_word k).1, rfl⟩
  | neg u => exact .inr ⟨(hdS_word k).2.1, rfl⟩
  | bin o l r =>
    by_cases e : o = k
    · exact .inl ⟨l, r, by rw [e]⟩
    · exact .inr ⟨by rw [hdS, wordS_eq]; exact decide_eq_false e, by rw [ops, if_neg e]⟩
structure OpJ (o : Bool) (q : Tok) (t : T) (base : Led) (f l : Addr) (n : Nat) (m' : Str → Option Value) (nx : Led) (fvs lvs : List Value) (fs ls : List T) (nf nl : Nat) : Prop where
  kn : ∀ p ∈ [(Str.ofString "found", Value.ref f), (Str.ofString "left", Value.ref l), (Str.ofString "kind", Value.str (wordS o) q)], m' p.1 = some p.2
  hf : (f, lstOf fvs nf) ∈ nx
  hl : (l, lstOf lvs nl) ∈ nx
  tf : TIs nx fvs fs
  tl : TIs nx lvs ls
  eq : fs ++ rest o ls = ops o t
  sb : Sub base nx
  bd : fs.length + szs ls ≤ t.sz
  me : n = szs ls
theorem ops_sp {v : Value} {o : Bool} {q : Tok} {t : T} (hsz : t.sz ≤ 900) :
    Sp w mean mg mb 35 [.str (wordS o) q, v] 1 33 (fun l => TI l v t) (fun l l' r => Sub l l' ∧ ∃ a vs n, r = .ref a ∧ (a, lstOf vs n) ∈ l' ∧ TIs l' vs (ops o t)) := by
  refine' Sp.le (Sp.intro (dp := 0) (un := 30) (binds := [("kind", .str (wordS o) q), ("tree", v)]) ?ho ?hcd ?hb ?hl ?c1 ?c2 ?c3 ?c4 ?_) (by omega) (by omega)
  case ho => k_is
  case hcd => k_is
  case hb => exact fun s => BindsTo.of_eq rfl
  case hl => exact locs rfl
  case c1 => rfl
  case c2 => rfl
  case c3 => rfl
  case c4 => decide
  intro da ua gd A₀ outer base g L news s B X T' F N hd hu hR
  k_steps
  rename Fr _ _ _ _ => F1
  rename News _ _ _ _ => N1
  rename (_ < _ ∧ _ < _ ∧ AllLt _ news) => l3
  rename (_ < _ ∧ AllLt _ news) => l2
  rename (∀ p ∈ news, p.1 < _) => l1
  rename_i f _ l _ _ _ _ _ _
  (try dsimp only at F1)
  have hfl : f ≠ l := Nat.ne_of_lt l2.1
  have hfn : ∀ p ∈ news, p.1 ≠ f := fun p hp => Nat.ne_of_lt (l1 p hp)
  have hln : ∀ p ∈ news, p.1 ≠ l := fun p hp => Nat.ne_of_lt (ktn_ltOf l2.2 p hp)
  refine While_inv2 (n₀ := t.sz) (fun n m' nx => ∃ fvs lvs fs ls nf nl, OpJ o q t news f l n m' nx fvs lvs fs ls nf nl) F1 N1 ⟨[], [v], [], [t], 0, 0, ⟨?_, .tail _ (.tail _ (.head _)), .tail _ (.head _), .nil, .one (hR.mono fun p hp => .tail _ (.tail _ (.tail _ hp))), by simp [rest], fun p hp => .tail _ (.tail _ (.tail _ hp)), by simp [szs], by simp [szs]⟩⟩ ?_
  · intro p hp
    simp only [List.mem_cons, List.not_mem_nil, or_false] at hp
    rcases hp with rfl | rfl | rfl <;> rfl
  clear F1 N1
  rintro n m1 nx h3 tk3 F3 N3 ⟨fvs, lvs, fs, ls, nf, nl, ⟨kn, hf, hl, tf, tl, eq, sb, bd, me⟩⟩
  have F4 := fr_knows _ F3 kn
  simp only [know] at F4
  clear F3
  rcases snoc_or ls with rfl | ⟨ls, tx, rfl⟩
  · cases tl
    k_steps
    rename Fr _ _ _ _ => F5
    rename News _ _ _ _ => N5
    refine r_neNil N5 (.tail _ hl) (.head _) (by dsimp only; omega) (c := true) rfl ?_
    k_steps
    rename Fr _ _ _ _ => F6
    rename News _ _ _ _ => N6
    refine ⟨_, _, _, _, rfl, F6, N6, fun p hp => .tail _ (sb p hp), f, fvs, nf, rfl, .tail _ hf, ?_⟩
    rw [← eq, show rest o [] = [] from rfl, List.append_nil]
    exact tf.mono fun p hp => .tail _ hp
  · obtain ⟨us, x, rfl, tu, tx1⟩ := tl.unsnoc
    have b1 := szs_snoc ls tx
    have b2 := tx.sz_pos
    have b3 := szs_len ls
    have b4 := tf.length
    have b5 := tu.length
    k_steps
    rename Fr _ _ _ _ => F5
    rename News _ _ _ _ => N5
    refine r_neNil N5 (.tail _ hl) (.head _) (by dsimp only; omega) (c := false) (by simp) ?_
    k_steps
    refine kl_method N5 (.tail _ hl) PySem.F.slot_list_pop PySem.F.type_list_pop ?_
    k_steps
    refine r_pop F5 N5 (.tail _ hl) (by omega) ?_
    intro h6 nw F6 N6 hl6 hI6
    have hf6 := hI6 _ (.tail _ hf) hfl
    have tf6 := TIs.chg N5 (.tail _ hl) hI6 (tf.mono fun p hp => .tail _ hp)
    have tu6 := TIs.chg N5 (.tail _ hl) hI6 (tu.mono fun p hp => .tail _ hp)
    have tx6 := TI.chg N5 (.tail _ hl) hI6 (tx1.mono fun p hp => .tail _ hp)
    have sb6 : Sub news nw := fun p hp => hI6 _ (.tail _ (sb p hp)) (hln p hp)
    clear F5 N5 hI6 hl hf tf tu tx1 sb
    obtain ⟨a, rfl⟩ := tx6.ref
    rcases ops_or o tx with ⟨lt, rt, rfl⟩ | ⟨hn, ho⟩
    · have hn : (hdS (.bin o lt rt) == wordS o) = true := by rw [hdS, wordS_eq]; simp
      k_steps
      rename Fr _ _ _ _ => F7
      rename News _ _ _ _ => N7
      refine r_item0 F7 X N7 tx6 ?_
      intro k
      k_steps
      refine kl_method N7 hl6 PySem.F.slot_list_extend PySem.F.type_list_extend ?_
      k_steps
      cases tx6 with
      | bin hm tl6 tr6 =>
      refine r_itemT (j := 2) N7 hm (by decide) (by decide) (by simp [seqIndex?]) rfl ?_
      k_steps
      rename Fr _ _ _ _ => F8
      rename News _ _ _ _ => N8
      rename (∀ p ∈ nw, p.1 < _) => l8
      refine r_extend2 F8 N8 (.tail _ hl6) (.head _) (Nat.ne_of_gt (l8 _ hl6)) (by omega) ?_
      intro h9 nw9 F9 N9 hl9 hI9
      k_steps
      have tf9 := TIs.chg N8 (.tail _ hl6) hI9 (tf6.mono fun p hp => .tail _ hp)
      have tu9 := TIs.chg N8 (.tail _ hl6) hI9 (tu6.mono fun p hp => .tail _ hp)
      have ta9 := TI.chg N8 (.tail _ hl6) hI9 (tl6.mono fun p hp => .tail _ hp)
      have tb9 := TI.chg N8 (.tail _ hl6) hI9 (tr6.mono fun p hp => .tail _ hp)
      have b6 : szs (ls ++ [rt, lt]) = szs ls + rt.sz + lt.sz := by simp [szs]; omega
      have b7 : (T.bin o lt rt).sz = lt.sz + rt.sz + 1 := rfl
      refine ⟨_, _, _, _, szs (ls ++ [rt, lt]), rfl, F9, N9, by omega, fvs, us ++ [_, _], fs, ls ++ [rt, lt], _, _, ⟨?_, hI9 _ (.tail _ hf6) hfl, hl9, tf9, tu9.append (.cons tb9 (.one ta9)), ?_, fun p hp => hI9 _ (.tail _ (sb6 p hp)) (hln p hp), by omega, rfl⟩⟩
      · intro p hp
        simp only [List.mem_cons, List.not_mem_nil, or_false] at hp
        rcases hp with rfl | rfl | rfl <;> rfl
      · rw [← eq, rest_snoc, show ls ++ [rt, lt] = (ls ++ [rt]) ++ [lt] by simp, rest_snoc, rest_snoc, ops, if_pos rfl]
        simp
    · k_steps
      rename Fr _ _ _ _ => F7
      rename News _ _ _ _ => N7
      refine r_item0 F7 X N7 tx6 ?_
      intro k
      k_steps
      refine kl_method N7 hf6 PySem.F.slot_list_append PySem.F.type_list_append ?_
      k_steps
      refine r_append F7 N7 hf6 (by omega) ?_
      intro h8 nw8 F8 N8 hf8 hI8
      k_steps
      have tf8 := TIs.chg N7 hf6 hI8 tf6
      have tu8 := TIs.chg N7 hf6 hI8 tu6
      have tx8 := TI.chg N7 hf6 hI8 tx6
      refine ⟨_, _, _, _, szs ls, rfl, F8, N8, by omega, fvs ++ [_], us, fs ++ [tx], ls, _, _, ⟨?_, hf8, hI8 _ hl6 (Ne.symm hfl), tf8.snoc tx8, tu8, ?_, fun p hp => hI8 _ (sb6 p hp) (hfn p hp), ?_, rfl⟩⟩
      · intro p hp
        simp only [List.mem_cons, List.not_mem_nil, or_false] at hp
        rcases hp with rfl | rfl | rfl <;> rfl
      · rw [← eq, rest_snoc, ho]
        simp
      · rw [List.length_append, List.length_singleton]; omega
end Mine
end PartC4
section PartB5
open Classical
open PySem PySem.W PyProof.Rows PySem.Calls PySem.Spec PySem.SeqAt
set_option maxRecDepth 100000
set_option maxHeartbeats 400000
namespace Mine
def restT (o : Bool) : T := if o then .neg .all else .all
noncomputable def scan (R W : T) : List T → List T → Option (List T)
  | found, [] => some found
  | found, p :: ps => if p = W ∨ opp p ∈ found then none else scan R W (if p ≠ R ∧ p ∉ found then found ++ [p] else found) ps
noncomputable def finT (o : Bool) (ps : List T) : T :=
  match scan (restT o) (restT (!o)) [] ps with
  | none => restT (!o)
  | some fs => if fs = [] then restT o else if o then halvesN 100 fs else rowT fs
noncomputable def joinT (o : Bool) (t u : T) : T := finT o (ops o t ++ ops o u)
theorem scan_stop {R W p : T} {fs ps : List T} (h : p = W ∨ opp p ∈ fs) : scan R W fs (p :: ps) = none := by rw [scan, if_pos h]
theorem scan_same {R W p : T} {fs ps : List T} (h : ¬ (p = W ∨ opp p ∈ fs)) (h2 : ¬ (p ≠ R ∧ p ∉ fs)) : scan R W fs (p :: ps) = scan R W fs ps := by rw [scan, if_neg h, if_neg h2]
theorem scan_more {R W p : T} {fs ps : List T} (h : ¬ (p = W ∨ opp p ∈ fs)) (h2 : p ≠ R ∧ p ∉ fs) : scan R W fs (p :: ps) = scan R W (fs ++ [p]) ps := by rw [scan, if_neg h, if_pos h2]
theorem finT_none {o : Bool} {ps : List T} (h : scan (restT o) (restT (!o)) [] ps = none) : finT o ps = restT (!o) := by rw [finT, h]
theorem finT_some {o : Bool} {ps fs : List T} (h : scan (restT o) (restT (!o)) [] ps = some fs) : finT o ps = if fs = [] then restT o else if o then halvesN 100 fs else rowT fs := by rw [finT, h]
theorem drop_get {ps : List T} {i : Nat} {p : T} (h : ps[i]? = some p) : ps.drop i = p :: ps.drop (i + 1) := by
  obtain ⟨hi, e⟩ := List.getElem?_eq_some_iff.mp h
  rw [List.drop_eq_getElem_cons hi, e]
theorem ops_dep (k : Bool) : ∀ (t : T), ∀ p ∈ ops k t, p.dep ≤ t.dep
  | .leaf _, p, h => by rw [ops, List.mem_singleton] at h; rw [h]; exact Nat.le_refl _
  | .all, p, h => by rw [ops, List.mem_singleton] at h; rw [h]; exact Nat.le_refl _
  | .neg t, p, h => by rw [ops, List.mem_singleton] at h; rw [h]; exact Nat.le_refl _
  | .bin o l r, p, h => by
    rw [ops] at h
    split at h
    · rcases List.mem_append.mp h with h | h
      · have h1 := ops_dep k l p h; have h2 : (T.bin o l r).dep = max l.dep r.dep + 1 := rfl; omega
      · have h1 := ops_dep k r p h; have h2 : (T.bin o l r).dep = max l.dep r.dep + 1 := rfl; omega
    · rw [List.mem_singleton] at h; rw [h]; exact Nat.le_refl _
theorem ops_len (k : Bool) : ∀ (t : T), (ops k t).length ≤ t.sz
  | .leaf _ => Nat.le_refl _
  | .all => Nat.le_refl _
  | .neg t => Nat.le_refl _
  | .bin o l r => by
    have h1 := ops_len k l
    have h2 := ops_len k r
    rw [ops, T.sz]
    split
    · rw [List.length_append]; omega
    · simp
end Mine
end PartB5
section PartC0
open Classical
open PySem PySem.W PyProof.Rows PySem.Calls PySem.Spec PySem.SeqAt
set_option maxRecDepth 100000
set_option maxHeartbeats 8000000
namespace Mine
variable {w : World} {mean : ExcName → Option Value} {mg mb : Str → Option Value}
theorem prime_c0 (w : World) : hd.heap_39 w.params = hd.heap_39 w.params ∧ PySem.Challenge.rw_or0014_01 = PySem.Challenge.rw_or0014_01 := by k_fill; exact ⟨rfl, rfl⟩
local macro_rules | `(tactic| k_steps) => `(tactic| repeat' ((fail_if_success (with_reducible show wpAny _ _ (PySem.call (Value.ref _) _) _ _ _)); (fail_if_success (with_reducible show wpAny _ _ (PySem.exec (Stmt.For _ _ _ _ _) _) _ _ _)); (fail_if_success (with_reducible show wpAny _ _ (PySem.exec (Stmt.While _ _ _ _) _) _ _ _)); (fail_if_success (with_reducible show wpAny _ _ (PySem.pyIter (Value.ref _)) _ _ _)); (fail_if_success (with_reducible show wpAny _ _ (PySem.subscriptTail _ _ (Value.ref _) _) _ _ _)); (fail_if_success (with_reducible show wpAny _ _ (PySem.call (Value.builtin _) (Value.ref _ :: _)) _ _ _)); (fail_if_success (with_reducible show wpAny _ _ (PySem.call (Value.builtin _) ([Value.ref _] ++ _)) _ _ _)); (fail_if_success (with_reducible show wpAny _ _ (PySem.compareOp _ (Value.ref _) (Value.ref _)) _ _ _)); (fail_if_success (with_reducible show wpAny _ _ (PySem.binaryOp _ (Value.ref _) (Value.ref _)) _ _ _)); (fail_if_success (with_reducible show wpAny _ _ (PySem.getMethod (Value.ref _) _ _) _ _ _)); first | (k_unfold; (try dsimp only)) | (k_end; wrow_close) | walk1 | (dsimp only; walk1) | (leave1; walk_say "STEP leave1"; try dsimp only) | fail "no step"))
theorem every_sp : Sp w mean mg mb 21 [] 1 33 (fun _ => True) (fun l l' r => Sub l l' ∧ TI l' r .all) := by
  refine' Sp.le (Sp.intro (dp := 0) (un := 30) (binds := []) ?ho ?hcd ?hb ?hl ?c1 ?c2 ?c3 ?c4 ?_) (by omega) (by omega)
  case ho => k_is
  case hcd => k_is
  case hb => exact fun s => BindsTo.of_eq rfl
  case hl => exact locs rfl
  case c1 => rfl
  case c2 => rfl
  case c3 => rfl
  case c4 => decide
  intro da ua gd A₀ outer base g L news s B X T' F N hd hu hR
  k_steps
  rename Fr _ _ _ _ => F5
  rename News _ _ _ _ => N5
  exact ⟨_, _, _, _, rfl, F5, N5, fun p hp => .tail _ hp, .all (.head _)⟩
theorem no_sp : Sp w mean mg mb 28 [] 1 33 (fun _ => True) (fun l l' r => Sub l l' ∧ TI l' r (.neg .all)) := by
  refine' Sp.le (Sp.intro (dp := 0) (un := 30) (binds := []) ?ho ?hcd ?hb ?hl ?c1 ?c2 ?c3 ?c4 ?_) (by omega) (by omega)
  case ho => k_is
  case hcd => k_is
  case hb => exact fun s => BindsTo.of_eq rfl
  case hl => exact locs rfl
  case c1 => rfl
  case c2 => rfl
  case c3 => rfl
  case c4 => decide
  intro da ua gd A₀ outer base g L news s B X T' F N hd hu hR
  k_steps
  rename Fr _ _ _ _ => F5
  rename News _ _ _ _ => N5
  exact ⟨_, _, _, _, rfl, F5, N5, fun p hp => .tail _ (.tail _ hp), .neg (.head _) (.all (.tail _ (.head _)))⟩
end Mine
end PartC0
section PartC5
open Classical
open PySem PySem.W PyProof.Rows PySem.Calls PySem.Spec PySem.SeqAt
set_option maxRecDepth 100000
set_option maxHeartbeats 8000000
namespace Mine
variable {w : World} {mean : ExcName → Option Value} {mg mb : Str → Option Value}
theorem prime_c5 (w : World) : hd.heap_39 w.params = hd.heap_39 w.params ∧ PySem.Challenge.rw_or0014_01 = PySem.Challenge.rw_or0014_01 := by k_fill; exact ⟨rfl, rfl⟩
local macro_rules | `(tactic| k_steps) => `(tactic| repeat' ((fail_if_success (with_reducible show wpAny _ _ (PySem.call (Value.ref _) _) _ _ _)); (fail_if_success (with_reducible show wpAny _ _ (PySem.exec (Stmt.For _ _ _ _ _) _) _ _ _)); (fail_if_success (with_reducible show wpAny _ _ (PySem.exec (Stmt.While _ _ _ _) _) _ _ _)); (fail_if_success (with_reducible show wpAny _ _ (PySem.pyIter (Value.ref _)) _ _ _)); (fail_if_success (with_reducible show wpAny _ _ (PySem.subscriptTail _ _ (Value.ref _) _) _ _ _)); (fail_if_success (with_reducible show wpAny _ _ (PySem.call (Value.builtin _) (Value.ref _ :: _)) _ _ _)); (fail_if_success (with_reducible show wpAny _ _ (PySem.call (Value.builtin _) ([Value.ref _] ++ _)) _ _ _)); (fail_if_success (with_reducible show wpAny _ _ (PySem.compareOp _ (Value.ref _) (Value.ref _)) _ _ _)); (fail_if_success (with_reducible show wpAny _ _ (PySem.binaryOp _ (Value.ref _) (Value.ref _)) _ _ _)); (fail_if_success (with_reducible show wpAny _ _ (PySem.getMethod (Value.ref _) _ _) _ _ _)); first | (k_unfold; (try dsimp only)) | (k_end; wrow_close) | walk1 | (dsimp only; walk1) | (leave1; walk_say "STEP leave1"; try dsimp only) | fail "no step"))
local macro_rules | `(tactic| ktn_step) => `(tactic| repeat' ((fail_if_success (with_reducible show wpAny _ _ (PySem.call (Value.ref _) _) _ _ _)); (fail_if_success (with_reducible show wpAny _ _ (PySem.exec (Stmt.For _ _ _ _ _) _) _ _ _)); (fail_if_success (with_reducible show wpAny _ _ (PySem.exec (Stmt.While _ _ _ _) _) _ _ _)); (fail_if_success (with_reducible show wpAny _ _ (PySem.pyIter (Value.ref _)) _ _ _)); (fail_if_success (with_reducible show wpAny _ _ (PySem.subscriptTail _ _ (Value.ref _) _) _ _ _)); (fail_if_success (with_reducible show wpAny _ _ (PySem.call (Value.builtin _) (Value.ref _ :: _)) _ _ _)); (fail_if_success (with_reducible show wpAny _ _ (PySem.call (Value.builtin _) ([Value.ref _] ++ _)) _ _ _)); (fail_if_success (with_reducible show wpAny _ _ (PySem.compareOp _ (Value.ref _) (Value.ref _)) _ _ _)); (fail_if_success (with_reducible show wpAny _ _ (PySem.binaryOp _ (Value.ref _) (Value.ref _)) _ _ _)); (fail_if_success (with_reducible show wpAny _ _ (PySem.getMethod (Value.ref _) _ _) _ _ _)); (fail_if_success (with_reducible show wpAny _ _ (PySem.exec (Stmt.If _ _ _ _) _) _ _ _)); first | (k_unfold; (try dsimp only)) | (k_end; wrow_close) | walk1 | (dsimp only; walk1) | (leave1; walk_say "STEP leave1"; try dsimp only) | fail "no step"))
structure JnJ (o : Bool) (ps : List T) (base : Led) (f : Addr) (vr vw : Value) (kq : Tok) (i : Nat) (m' : Str → Option Value) (nx : Led) (fvs : List Value) (fs : List T) (nf : Nat) : Prop where
  kn : ∀ p ∈ [(Str.ofString "found", Value.ref f), (Str.ofString "rest", vr), (Str.ofString "whole", vw), (Str.ofString "kind", Value.str (wordS o) kq)], m' p.1 = some p.2
  hf : (f, lstOf fvs nf) ∈ nx
  tf : TIs nx fvs fs
  tr : TI nx vr (restT o)
  tw : TI nx vw (restT (!o))
  eq : scan (restT o) (restT (!o)) fs (ps.drop i) = scan (restT o) (restT (!o)) [] ps
  sb : Sub base nx
  bd : fs.length ≤ i
  dp : ∀ t ∈ fs, t.dep ≤ 60
def MidJ (o : Bool) (q : Tok) (v u : Value) (g : Heap) (L : Addr) (news : Led) (s : Shared) (f : Flow) (s' : Shared) : Prop :=
  f = .next ∧ ∃ h tk m' nx vr vw, s' = { s with heap := h, toks := tk } ∧ Fr g L h m' ∧ News g L h nx ∧ Sub news nx ∧ TI nx vr (restT o) ∧ TI nx vw (restT (!o)) ∧
    (∀ p ∈ [(Str.ofString "rest", vr), (Str.ofString "whole", vw), (Str.ofString "kind", Value.str (wordS o) q), (Str.ofString "one", v), (Str.ofString "other", u)], m' p.1 = some p.2)
theorem join_sp {v u : Value} {o : Bool} {q : Tok} {t r : T} (hs1 : t.sz ≤ 40) (hs2 : r.sz ≤ 40) (hd1 : t.dep ≤ 60) (hd2 : r.dep ≤ 60) :
    Sp w mean mg mb 63 [.str (wordS o) q, v, u] 110 500 (fun l => TI l v t ∧ TI l u r) (fun l l' x => Sub l l' ∧ TI l' x (joinT o t r)) := by
  refine' Sp.le (Sp.intro (dp := 109) (un := 497) (binds := [("kind", .str (wordS o) q), ("one", v), ("other", u)]) ?ho ?hcd ?hb ?hl ?c1 ?c2 ?c3 ?c4 ?_) (by omega) (by omega)
  case ho => k_is
  case hcd => k_is
  case hb => exact fun s => BindsTo.of_eq rfl
  case hl => exact locs rfl
  case c1 => rfl
  case c2 => rfl
  case c3 => rfl
  case c4 => decide
  intro da ua gd A₀ outer base g L news s B X T' F N hd hu hR
  obtain ⟨hv, hw⟩ := hR
  ktn_step
  refine every_sp.use B rfl rfl F X N T' (by omega) (by omega) trivial ?_
  intro r1 h1 tk1 n1 F1 N1 hO1
  obtain ⟨s1, o1⟩ := hO1
  ktn_step
  refine no_sp.use B rfl rfl F1 X N1 T' (by omega) (by omega) trivial ?_
  intro r2 h2 tk2 n2 F2 N2 hO2
  obtain ⟨s2, o2⟩ := hO2
  ktn_step
  rename Fr _ _ _ _ => F3
  rename News _ _ _ _ => N3
  refine wpAny_mono (Q := MidJ o q v u g L news s) ?_ ?_ (fun _ _ x => x)
  · cases o with
    | true =>
      have hn : (wordS true == Str.ofString "or") = true := rfl
      k_steps
      rename Fr _ _ _ _ => F4
      rename News _ _ _ _ => N4
      refine ⟨rfl, _, _, _, _, r2, r1, rfl, F4, N4, fun p hp => .tail _ (.tail _ (s2 _ (s1 _ hp))), o2.mono fun p hp => .tail _ (.tail _ hp), o1.mono fun p hp => .tail _ (.tail _ (s2 _ hp)), ?_⟩
      intro p hp
      simp only [List.mem_cons, List.not_mem_nil, or_false] at hp
      rcases hp with rfl | rfl | rfl | rfl | rfl <;> rfl
    | false =>
      have hn : (wordS false == Str.ofString "or") = false := by decide +kernel
      k_steps
      refine ⟨rfl, _, _, _, _, r1, r2, rfl, F3, N3, fun p hp => .tail _ (s2 _ (s1 _ hp)), o1.mono fun p hp => .tail _ (s2 _ hp), o2.mono fun p hp => .tail _ hp, ?_⟩
      intro p hp
      simp only [List.mem_cons, List.not_mem_nil, or_false] at hp
      rcases hp with rfl | rfl | rfl | rfl | rfl <;> rfl
  clear F3 N3 o1 o2 s1 s2
  rintro f s' ⟨rfl, h3, tk3, m3, n3, vr, vw, rfl, F3, N3, sb, tr, tw, kn⟩
  dsimp only
  have F4 := fr_knows _ F3 kn
  simp only [know] at F4
  clear F3
  k_steps
  rename Fr _ _ _ _ => F5
  rename News _ _ _ _ => N5
  rename (∀ p ∈ n3, p.1 < _) => l5
  rename_i f _ _
  have hfn : ∀ p ∈ n3, p.1 ≠ f := fun p hp => Nat.ne_of_lt (l5 p hp)
  refine For_invV g rfl rfl ?_
  k_steps
  refine (ops_sp (by omega)).use B rfl rfl F5 X N5 T' (by omega) (by omega) ((hv.mono sb).mono fun p hp => .tail _ hp) ?_
  intro r6 h6 tk6 n6 F6 N6 hO6
  obtain ⟨s6, a6, vs6, k6, rfl, m6, t6⟩ := hO6
  k_steps
  refine (ops_sp (by omega)).use B rfl rfl F6 X N6 T' (by omega) (by omega) ((hw.mono sb).mono fun p hp => s6 _ (.tail _ hp)) ?_
  intro r7 h7 tk7 n7 F7 N7 hO7
  obtain ⟨s7, a7, vs7, k7, rfl, m7, t7⟩ := hO7
  k_steps
  have len6 := t6.length
  have len7 := t7.length
  have ol6 := ops_len o t
  have ol7 := ops_len o r
  refine r_cat F7 N7 (s7 _ m6) m7 (by omega) ?_
  intro D8 h8 F8 N8 l8
  k_steps
  have hps : TIs n7 (vs6 ++ vs7) (ops o t ++ ops o r) := (t6.mono s7).append t7
  have hf8 : (f, lstOf [] 0) ∈ n7 := s7 _ (s6 _ (.head _))
  have hdp : ∀ p ∈ ops o t ++ ops o r, p.dep ≤ 60 := fun p hp => by
    rcases List.mem_append.mp hp with hp | hp
    · exact Nat.le_trans (ops_dep _ _ _ hp) hd1
    · exact Nat.le_trans (ops_dep _ _ _ hp) hd2
  have hln : (ops o t ++ ops o r).length ≤ 80 := by rw [List.length_append]; omega
  have hvs := hps.length
  generalize hpe : ops o t ++ ops o r = ps at hps hdp hln hvs
  generalize vs6 ++ vs7 = vs at hps hvs N8
  have hsb : Sub n3 n7 := fun p hp => s7 _ (s6 _ (.tail _ hp))
  refine kdl_iter (fun i m' nx => ∃ fvs fs nf, JnJ o ps n3 f vr vw q i m' nx fvs fs nf ∧ TIs nx vs ps) rfl (.head _) F8 N8 ⟨[], [], 0, ⟨?_, .tail _ hf8, .nil, (tr.mono hsb).mono fun p hp => .tail _ hp, (tw.mono hsb).mono fun p hp => .tail _ hp, rfl, fun p hp => .tail _ (hsb p hp), Nat.le_refl _, fun _ hp => nomatch hp⟩, hps.mono fun p hp => .tail _ hp⟩ ?_ ?_
  · intro p hp
    simp only [List.mem_cons, List.not_mem_nil, or_false] at hp
    rcases hp with rfl | rfl | rfl | rfl <;> rfl
  · clear F5 N5 F6 N6 F7 N7 F8 N8
    rintro i pv m9 nx h9 tk9 own hv9 hoff hl9 ⟨fvs, fs, nf, ⟨kn9, hf9, tf9, tr9, tw9, eq9, sb9, bd9, dp9⟩, hps9⟩ F9 N9
    obtain ⟨pt, hpt, tp9⟩ := hps9.get _ _ hv9
    have F10 := fr_turn [Str.ofString "found", Str.ofString "rest", Str.ofString "whole", Str.ofString "kind"] F9 kn9 rfl (by decide +kernel)
    simp only [know] at F10
    clear F9
    have N9x : News g L h9 nx := fun p hp => N9 p (mem_l p hp)
    obtain ⟨pa, rfl⟩ := tp9.ref
    obtain ⟨wa, rfl⟩ := tw9.ref
    obtain ⟨ra, rfl⟩ := tr9.ref
    have hpd : pt.dep ≤ 60 := hdp _ (List.mem_of_getElem? hpt)
    rw [drop_get hpt] at eq9
    k_steps
    by_cases hW : pt = restT (!o)
    · refine r_eq F10 X N9 (tp9.mono mem_l) (tw9.mono mem_l) (by dsimp only; omega) (c := true) (decide_eq_true hW) ?_
      k_steps
      refine ⟨_, _, _, _, rfl, F10, N9, fun p hp => mem_l _ (sb9 _ (sb p hp)), ?_⟩
      rw [joinT, hpe, finT_none (eq9.symm.trans (scan_stop (.inl hW)))]
      exact tw9.mono mem_l
    refine r_eq F10 X N9 (tp9.mono mem_l) (tw9.mono mem_l) (by dsimp only; omega) (c := false) (decide_eq_false hW) ?_
    k_steps
    refine opp_sp.use B rfl rfl F10 X N9 T' (by omega) (by omega) (tp9.mono mem_l) ?_
    intro r11 h11 tk11 n11 F11 N11 hO11
    obtain ⟨s11, o11⟩ := hO11
    obtain ⟨oa, rfl⟩ := o11.ref
    have s11x : Sub nx n11 := fun p hp => s11 _ (mem_l p hp)
    clear F10 N9
    k_steps
    by_cases hO : opp pt ∈ fs
    · refine r_in F11 X N11 (s11x _ hf9) (tf9.mono s11x) o11 (fun t ht => by have := dp9 t ht; dsimp only; omega) (c := true) (decide_eq_true hO) ?_
      k_steps
      refine ⟨_, _, _, _, rfl, F11, N11, fun p hp => s11x _ (sb9 _ (sb p hp)), ?_⟩
      rw [joinT, hpe, finT_none (eq9.symm.trans (scan_stop (.inr hO)))]
      exact tw9.mono s11x
    refine r_in F11 X N11 (s11x _ hf9) (tf9.mono s11x) o11 (fun t ht => by have := dp9 t ht; dsimp only; omega) (c := false) (decide_eq_false hO) ?_
    have hst : ¬ (pt = restT (!o) ∨ opp pt ∈ fs) := fun x => x.elim hW hO
    have keep : ∀ p ∈ nx, p ∈ away own n11 := fun p hp => away_mem (s11x _ hp) (off_of hoff hp)
    k_steps
    by_cases hRr : pt = restT o
    · refine r_ne F11 X N11 (tp9.mono s11x) (tr9.mono s11x) (by dsimp only; omega) (c := true) (decide_eq_true hRr) ?_
      k_steps
      refine loop_end2 F11 N11 (fun p hp => s11 _ (mem_r p hp)) ⟨keep _ hl9, fvs, fs, nf, ⟨?_, keep _ hf9, tf9.mono keep, tr9.mono keep, tw9.mono keep, (scan_same hst (fun x => x.1 hRr)).symm.trans eq9, fun p hp => keep _ (sb9 p hp), by omega, dp9⟩, hps9.mono keep⟩
      intro p hp
      simp only [List.mem_cons, List.not_mem_nil, or_false] at hp
      rcases hp with rfl | rfl | rfl | rfl <;> rfl
    refine r_ne F11 X N11 (tp9.mono s11x) (tr9.mono s11x) (by dsimp only; omega) (c := false) (decide_eq_false hRr) ?_
    k_steps
    by_cases hI : pt ∈ fs
    · refine r_notIn F11 X N11 (s11x _ hf9) (tf9.mono s11x) (tp9.mono s11x) (fun t ht => by have := dp9 t ht; dsimp only; omega) (c := true) (decide_eq_true hI) ?_
      k_steps
      refine loop_end2 F11 N11 (fun p hp => s11 _ (mem_r p hp)) ⟨keep _ hl9, fvs, fs, nf, ⟨?_, keep _ hf9, tf9.mono keep, tr9.mono keep, tw9.mono keep, (scan_same hst (fun x => x.2 hI)).symm.trans eq9, fun p hp => keep _ (sb9 p hp), by omega, dp9⟩, hps9.mono keep⟩
      intro p hp
      simp only [List.mem_cons, List.not_mem_nil, or_false] at hp
      rcases hp with rfl | rfl | rfl | rfl <;> rfl
    refine r_notIn F11 X N11 (s11x _ hf9) (tf9.mono s11x) (tp9.mono s11x) (fun t ht => by have := dp9 t ht; dsimp only; omega) (c := false) (decide_eq_false hI) ?_
    k_steps
    refine kl_method N11 (s11x _ hf9) PySem.F.slot_list_append PySem.F.type_list_append ?_
    k_steps
    have lf := tf9.length
    have hil : i < vs.length := (List.getElem?_eq_some_iff.mp hv9).1
    refine r_append F11 N11 (s11x _ hf9) (by omega) ?_
    intro h12 n12 F12 N12 hf12 hI12
    have keep2 : ∀ p ∈ nx, p.1 ≠ f → p ∈ away own n12 := fun p hp hn => away_mem (hI12 _ (s11x _ hp) hn) (off_of hoff hp)
    have hDf : D8 ≠ f := Nat.ne_of_gt (l8 _ hf8)
    k_steps
    refine loop_end2 F12 N12 (fun p hp => hI12 _ (s11 _ (mem_r p hp)) (off_of hoff hf9 p hp)) ⟨keep2 _ hl9 hDf, fvs ++ [_], fs ++ [pt], nf + 1, ⟨?_, away_mem hf12 (fun q hq => off_of hoff hf9 q hq), (tf9.chg N9x hf9 keep2).snoc (tp9.chg N9x hf9 keep2), tr9.chg N9x hf9 keep2, tw9.chg N9x hf9 keep2, (scan_more hst ⟨hRr, hI⟩).symm.trans eq9, fun p hp => keep2 _ (sb9 p hp) (hfn p hp), ?_, ?_⟩, hps9.chg N9x hf9 keep2⟩
    · intro p hp
      simp only [List.mem_cons, List.not_mem_nil, or_false] at hp
      rcases hp with rfl | rfl | rfl | rfl <;> rfl
    · rw [List.length_append, List.length_singleton]; omega
    · intro x hx
      rcases List.mem_append.mp hx with hx | hx
      · exact dp9 x hx
      · rw [List.mem_singleton.mp hx]; exact hpd
  · clear F5 N5 F6 N6 F7 N7 F8 N8
    rintro m9 nx h9 tk9 ⟨fvs, fs, nf, ⟨kn9, hf9, tf9, tr9, tw9, eq9, sb9, bd9, dp9⟩, hps9⟩ F9 N9
    have F10 := fr_knows _ F9 kn9
    simp only [know] at F10
    clear F9
    rw [List.drop_of_length_le (by omega)] at eq9
    have hfin := finT_some eq9.symm
    have lf := tf9.length
    dsimp only
    k_steps
    rename Fr _ _ _ _ => F11
    rename News _ _ _ _ => N11
    by_cases hnil : fs = []
    · subst hnil
      cases tf9
      refine r_eqNil N11 (.tail _ hf9) (.head _) (by dsimp only; omega) (c := true) rfl ?_
      k_steps
      refine ⟨_, _, _, _, rfl, F11, N11, fun p hp => .tail _ (sb9 _ (sb p hp)), ?_⟩
      rw [joinT, hpe, hfin, if_pos rfl]
      exact tr9.mono fun p hp => .tail _ hp
    have hnv : fvs ≠ [] := fun x => hnil (by have := congrArg List.length x; rw [lf] at this; exact List.length_eq_zero_iff.mp this)
    refine r_eqNil N11 (.tail _ hf9) (.head _) (by dsimp only; omega) (c := false) (decide_eq_false hnv) ?_
    rw [if_neg hnil] at hfin
    cases o with
    | true =>
      have hn : (wordS true == Str.ofString "and") = false := by decide +kernel
      k_steps
      refine (half_sp 100 f fvs nf fs hnil (by omega) (by omega)).use B rfl rfl F11 X N11 T' (by omega) (by omega) ⟨.tail _ hf9, tf9.mono fun p hp => .tail _ hp⟩ ?_
      intro r13 h13 tk13 n13 F13 N13 hO13
      k_steps
      refine ⟨_, _, _, _, rfl, F13, N13, fun p hp => hO13.1 _ (.tail _ (sb9 _ (sb p hp))), ?_⟩
      rw [joinT, hpe, hfin]
      exact hO13.2
    | false =>
      have hn : (wordS false == Str.ofString "and") = true := rfl
      k_steps
      refine (row_sp hnil (by omega)).use B rfl rfl F11 X N11 T' (by omega) (by omega) ⟨.tail _ hf9, tf9.mono fun p hp => .tail _ hp⟩ ?_
      intro r13 h13 tk13 n13 F13 N13 hO13
      k_steps
      refine ⟨_, _, _, _, rfl, F13, N13, fun p hp => hO13.1 _ (.tail _ (sb9 _ (sb p hp))), ?_⟩
      rw [joinT, hpe, hfin]
      exact hO13.2
end Mine
end PartC5
section PartB6
open Classical
open PySem PySem.W PyProof.Rows PySem.Calls PySem.Spec PySem.SeqAt
set_option maxRecDepth 100000
set_option maxHeartbeats 400000
namespace Mine
section
variable {prog : Program} {w : World} {A : Around} {E : Value → Shared → Prop} {s : Shared} {env : Env} {h₀ : Heap} {target : Expr} {body : List Stmt} {Q : Flow → Shared → Prop}
/-- a tuple's items, turn by turn, by what holds of those that are left -/
theorem items_of {ws : List (Addr × String)} {keep : Led} (J : List Value → (Str → Option Value) → Led → Prop)
    (h0 : ∀ m news h tk, J [] m news → Fr h₀ env.locals h m → News h₀ env.locals h news → Q .next { s with heap := h, toks := tk })
    (h1 : ∀ v r m news h tk its, J (v :: r) m news → Objs ws its → Fr h₀ env.locals h m → News h₀ env.locals h (its ++ news) →
      wpAny (model prog w) A (assign target env v) (fun _ s₂ => wpAny (model prog w) A (execs body env) (UnrPostW h₀ env.locals { s with heap := h, toks := tk } its (fun m' n' => SubL keep n' ∧ J r m' n') Q) E s₂) E { s with heap := h, toks := tk }) :
    ∀ xs m news, J xs m news → ItemsRest prog w A E h₀ env target body Q s ws keep (xs.map .val) m news := by
  have allObj : ∀ (ws : List (Addr × String)) (k : Led → Prop), (∀ its, Objs ws its → k its) → AllObj ws k := by
    intro ws
    induction ws with
    | nil => intro k h; exact h [] trivial
    | cons w r ih => intro k h; exact fun o ho => ih _ fun its hi => h _ ⟨⟨rfl, ho⟩, hi⟩
  intro xs
  induction xs with
  | nil => intro m news hj; exact ItemsRest.zero fun h tk F N => h0 m news h tk hj F N
  | cons v r ih =>
    intro m news hj
    refine ItemsRest.val fun h tk F => allObj _ _ fun its hi N => ?_
    refine wpAny_mono (h1 v r m news h tk its hj hi F N) (fun _ s₂ q => wpAny_mono q (fun f s₃ p => ?_) fun _ _ x => x) fun _ _ x => x
    cases f with
    | ret v => exact p
    | brk => exact p
    | next => obtain ⟨h', tk', m', n', e, F', N', o, k, j⟩ := p; exact ⟨h', tk', m', n', e, F', N', o, k, ih _ _ j⟩
    | cont => obtain ⟨h', tk', m', n', e, F', N', o, k, j⟩ := p; exact ⟨h', tk', m', n', e, F', N', o, k, ih _ _ j⟩
end
theorem unr_end {g h' : Heap} {L : Addr} {m' : Str → Option Value} {its nw : Led} {rest : (Str → Option Value) → Led → Prop} {s₁ : Shared} {tk : Nat} (F : Fr g L h' m') (N : News g L h' nw) (ho : ∀ p ∈ its, p ∈ nw)
    (hr : rest m' (away its nw)) : UnrEndW g L s₁ its rest { s₁ with heap := h', toks := tk } :=
  ⟨h', tk, m', away its nw, rfl, F, fun p hp => by
    rcases List.mem_append.mp hp with hp | hp
    · exact N p (ho p hp)
    · exact N p (away_sub hp), fun p hp q hq e => by
    have := (List.mem_filter.mp hp).2
    exact (of_decide_eq_true this) (List.mem_map.mpr ⟨q, hq, e.symm⟩), hr⟩
section
variable {h₀ h : Heap} {L : Addr} {news : Led}
theorem TI.chgO (N : News h₀ L h news) {D : Addr} {o : Obj} (hD : (D, o) ∈ news) (hc : o.cls ≠ .type "tuple") {news' : Led} (c : ∀ p ∈ news, p.1 ≠ D → p ∈ news') {v : Value} {t : T} (h1 : TI news v t) : TI news' v t := by
  induction h1 with
  | leaf i => exact .leaf i
  | all hm => refine .all (c _ hm ?_); rintro rfl; exact hc (led_fn N hm hD ▸ rfl)
  | neg hm _ ih => refine .neg (c _ hm ?_) ih; rintro rfl; exact hc (led_fn N hm hD ▸ rfl)
  | bin hm _ _ ih1 ih2 => refine .bin (c _ hm ?_) ih1 ih2; rintro rfl; exact hc (led_fn N hm hD ▸ rfl)
theorem TIs.chgO (N : News h₀ L h news) {D : Addr} {o : Obj} (hD : (D, o) ∈ news) (hc : o.cls ≠ .type "tuple") {news' : Led} (c : ∀ p ∈ news, p.1 ≠ D → p ∈ news') {vs : List Value} {ts : List T} (h1 : TIs news vs ts) : TIs news' vs ts := by
  induction h1 with
  | nil => exact .nil
  | cons h _ ih => exact .cons (h.chgO N hD hc c) ih
end
structure DuJ (k : Bool) (total : List T) (base : Led) (f : Addr) (vi vs : Value) (kq : Tok) (todo : List T) (m' : Str → Option Value) (nx : Led) (fvs : List Value) (fs : List T) (nf : Nat) : Prop where
  kn : ∀ p ∈ [(Str.ofString "found", Value.ref f), (Str.ofString "idle", vi), (Str.ofString "sure", vs), (Str.ofString "word", Value.str (wordS k) kq)], m' p.1 = some p.2
  hf : (f, lstOf fvs nf) ∈ nx
  tf : TIs nx fvs fs
  tr : TI nx vi (restT k)
  tw : TI nx vs (restT (!k))
  eq : scan (restT k) (restT (!k)) fs todo = scan (restT k) (restT (!k)) [] total
  sb : Sub base nx
  bd : fs.length + todo.length ≤ total.length
  dp : ∀ t ∈ fs, t.dep ≤ 60
theorem objs_one {I : Addr} {c : String} {its : Led} (h : Objs [(I, c)] its) : ∃ o : Obj, o.cls = .type c ∧ its = [(I, o)] := by
  rcases its with _ | ⟨⟨a, o⟩, _ | ⟨q, r⟩⟩
  · exact (show False from h).elim
  · obtain ⟨h1, _⟩ := h
    obtain ⟨e, hc⟩ := h1
    have e' : a = I := e
    subst e'
    exact ⟨o, hc, rfl⟩
  · exact (show False from h.2).elim
theorem away_ne {own nw : Led} {p : Addr × Obj} (h : p ∈ away own nw) : ∀ q ∈ own, q.1 ≠ p.1 := fun q hq e => (of_decide_eq_true (List.mem_filter.mp h).2) (List.mem_map.mpr ⟨q, hq, e⟩)
structure Sd where
  o : Bool
  t : T
  ps : List T
def SideI (news : Led) (v : Value) (d : Sd) : Prop :=
  ∃ a n tv k p m pvs, v = .ref a ∧ (a, tupOf [tv, .str (wordS d.o) k, .ref p] n) ∈ news ∧ (p, lstOf pvs m) ∈ news ∧ TI news tv d.t ∧ TIs news pvs d.ps
theorem SideI.mono {news news' : Led} {v : Value} {d : Sd} (h : SideI news v d) (hs : ∀ p ∈ news, p ∈ news') : SideI news' v d := by
  obtain ⟨a, n, tv, k, p, m, pvs, e, h1, h2, h3, h4⟩ := h
  exact ⟨a, n, tv, k, p, m, pvs, e, hs _ h1, hs _ h2, h3.mono hs, h4.mono hs⟩
inductive SidesI (news : Led) : List Value → List Sd → Prop
  | nil : SidesI news [] []
  | cons {v : Value} {vs : List Value} {d : Sd} {ds : List Sd} : SideI news v d → SidesI news vs ds → SidesI news (v :: vs) (d :: ds)
theorem SidesI.mono {news news' : Led} {vs : List Value} {ds : List Sd} (h : SidesI news vs ds) (hs : ∀ p ∈ news, p ∈ news') : SidesI news' vs ds := by
  induction h with
  | nil => exact .nil
  | cons h _ ih => exact .cons (h.mono hs) ih
def duep (k : Bool) (d : Sd) : List T := if d.o = k ∨ d.ps.length = 1 then d.ps else [d.t]
theorem scan_len {R W : T} : ∀ (ps fs gs : List T), scan R W fs ps = some gs → gs.length ≤ fs.length + ps.length
  | [], fs, gs, h => by rw [scan] at h; cases h; exact Nat.le_refl _
  | p :: ps, fs, gs, h => by
    rw [scan] at h
    split at h
    · cases h
    · have := scan_len ps _ gs h
      split at this <;> simp at * <;> omega
end Mine
end PartB6
section PartC6
open Classical
open PySem PySem.W PyProof.Rows PySem.Calls PySem.Spec PySem.SeqAt
set_option maxRecDepth 100000
set_option maxHeartbeats 8000000
namespace Mine
variable {w : World} {mean : ExcName → Option Value} {mg mb : Str → Option Value}
theorem prime_c6 (w : World) : hd.heap_39 w.params = hd.heap_39 w.params ∧ PySem.Challenge.rw_or0014_01 = PySem.Challenge.rw_or0014_01 := by k_fill; exact ⟨rfl, rfl⟩
local macro_rules | `(tactic| k_steps) => `(tactic| repeat' ((fail_if_success (with_reducible show wpAny _ _ (PySem.call (Value.ref _) _) _ _ _)); (fail_if_success (with_reducible show wpAny _ _ (PySem.exec (Stmt.For _ _ _ _ _) _) _ _ _)); (fail_if_success (with_reducible show wpAny _ _ (PySem.exec (Stmt.While _ _ _ _) _) _ _ _)); (fail_if_success (with_reducible show wpAny _ _ (PySem.pyIter (Value.ref _)) _ _ _)); (fail_if_success (with_reducible show wpAny _ _ (PySem.subscriptTail _ _ (Value.ref _) _) _ _ _)); (fail_if_success (with_reducible show wpAny _ _ (PySem.call (Value.builtin _) (Value.ref _ :: _)) _ _ _)); (fail_if_success (with_reducible show wpAny _ _ (PySem.call (Value.builtin _) ([Value.ref _] ++ _)) _ _ _)); (fail_if_success (with_reducible show wpAny _ _ (PySem.compareOp _ (Value.ref _) (Value.ref _)) _ _ _)); (fail_if_success (with_reducible show wpAny _ _ (PySem.binaryOp _ (Value.ref _) (Value.ref _)) _ _ _)); (fail_if_success (with_reducible show wpAny _ _ (PySem.getMethod (Value.ref _) _ _) _ _ _)); first | (k_unfold; (try dsimp only)) | (k_end; wrow_close) | walk1 | (dsimp only; walk1) | (leave1; walk_say "STEP leave1"; try dsimp only) | fail "no step"))
local macro_rules | `(tactic| ktn_step) => `(tactic| repeat' ((fail_if_success (with_reducible show wpAny _ _ (PySem.call (Value.ref _) _) _ _ _)); (fail_if_success (with_reducible show wpAny _ _ (PySem.exec (Stmt.For _ _ _ _ _) _) _ _ _)); (fail_if_success (with_reducible show wpAny _ _ (PySem.exec (Stmt.While _ _ _ _) _) _ _ _)); (fail_if_success (with_reducible show wpAny _ _ (PySem.pyIter (Value.ref _)) _ _ _)); (fail_if_success (with_reducible show wpAny _ _ (PySem.subscriptTail _ _ (Value.ref _) _) _ _ _)); (fail_if_success (with_reducible show wpAny _ _ (PySem.call (Value.builtin _) (Value.ref _ :: _)) _ _ _)); (fail_if_success (with_reducible show wpAny _ _ (PySem.call (Value.builtin _) ([Value.ref _] ++ _)) _ _ _)); (fail_if_success (with_reducible show wpAny _ _ (PySem.compareOp _ (Value.ref _) (Value.ref _)) _ _ _)); (fail_if_success (with_reducible show wpAny _ _ (PySem.binaryOp _ (Value.ref _) (Value.ref _)) _ _ _)); (fail_if_success (with_reducible show wpAny _ _ (PySem.getMethod (Value.ref _) _ _) _ _ _)); (fail_if_success (with_reducible show wpAny _ _ (PySem.eval (Expr.IfExp _ _ _ _) _) _ _ _)); first | (k_unfold; (try dsimp only)) | (k_end; wrow_close) | walk1 | (dsimp only; walk1) | (leave1; walk_say "STEP leave1"; try dsimp only) | fail "no step"))
def MidE (k : Bool) (g : Heap) (L : Addr) (kn : List (Str × Value)) (n0 : Led) (s : Shared) (v : Value) (s' : Shared) : Prop :=
  ∃ h tk nx D n vi vs m, v = .ref D ∧ s' = { s with heap := h, toks := tk } ∧ Fr g L h m ∧ (∀ p ∈ kn, m p.1 = some p.2) ∧ News g L h nx ∧ Sub n0 nx ∧ (D, tupOf [vi, vs] n) ∈ nx ∧ TI nx vi (restT k) ∧ TI nx vs (restT (!k))
def MidD (g : Heap) (L : Addr) (kn : List (Str × Value)) (n0 : Led) (f : Addr) (ts : List T) (s : Shared) (v : Value) (s' : Shared) : Prop :=
  ∃ h tk nx l lvs n m, v = .ref l ∧ s' = { s with heap := h, toks := tk } ∧ Fr g L h m ∧ (∀ p ∈ kn, m p.1 = some p.2) ∧ News g L h nx ∧ Sub n0 nx ∧ (l, lstOf lvs n) ∈ nx ∧ TIs nx lvs ts ∧ l ≠ f
theorem due_sp {k : Bool} {q : Tok} {sd : Addr} {vs : List Value} {nn : Nat} {ds : List Sd} {total : List T} (ht : ds.flatMap (duep k) = total) (htl : total.length ≤ 80) (hdd : ∀ d ∈ ds, d.t.dep ≤ 60 ∧ d.ps.length ≤ 40 ∧ ∀ p ∈ d.ps, p.dep ≤ 60) :
    Sp w mean mg mb 121 [.str (wordS k) q, .ref sd] 110 500 (fun l => (sd, tupOf vs nn) ∈ l ∧ SidesI l vs ds) (fun l l' x => Sub l l' ∧ TI l' x (finT k total)) := by
  refine' Sp.le (Sp.intro (dp := 109) (un := 497) (binds := [("word", .str (wordS k) q), ("sides", .ref sd)]) ?ho ?hcd ?hb ?hl ?c1 ?c2 ?c3 ?c4 ?_) (by omega) (by omega)
  case ho => k_is
  case hcd => k_is
  case hb => exact fun s => BindsTo.of_eq rfl
  case hl => exact locs rfl
  case c1 => rfl
  case c2 => rfl
  case c3 => rfl
  case c4 => decide
  intro da ua gd A₀ outer base g L news s B X T' F N hd hu hR
  obtain ⟨hm, hR⟩ := hR
  ktn_step
  rename Fr _ _ _ _ => F1
  rename News _ _ _ _ => N1
  rename (_ < _ ∧ _ < _ ∧ _ < _ ∧ AllLt _ news) => lf
  rename_i De _ _ Da _ _ Dn _ _ f _ Dt _ _ _ _ _ _
  have hfn : ∀ p ∈ news, p.1 ≠ f := fun p hp => Nat.ne_of_lt (ktn_ltOf lf.2.2.2 p hp)
  refine wpAny_mono (Q := MidE k g L [(Str.ofString "found", Value.ref f), (Str.ofString "word", Value.str (wordS k) q), (Str.ofString "sides", Value.ref sd)] ((f, lstOf [] 0) :: news) s) ?_ ?_ (fun _ _ x => x)
  · cases k with
    | true =>
      have hn : (wordS true == Str.ofString "and") = false := by decide +kernel
      k_steps
      rename Fr _ _ _ _ => F4
      rename News _ _ _ _ => N4
      have kn0 : ∀ p ∈ [(Str.ofString "found", Value.ref f), (Str.ofString "word", Value.str (wordS true) q), (Str.ofString "sides", Value.ref sd)], (fun y => if y = Str.ofString "every" then some (Value.ref De) else if y = Str.ofString "none" then some (Value.ref Dn) else if y = Str.ofString "found" then some (Value.ref f) else List.lookup y [(Str.ofString "word", Value.str (wordS true) q), (Str.ofString "sides", Value.ref sd)].reverse) p.1 = some p.2 := by
        intro p hp
        simp only [List.mem_cons, List.not_mem_nil, or_false] at hp
        rcases hp with rfl | rfl | rfl <;> rfl
      refine ⟨_, _, _, _, _, _, _, _, rfl, rfl, F4, kn0, N4, fun p hp => ?_, .head _, .neg (.tail _ (.tail _ (.tail _ (.head _)))) (.all (.tail _ (.tail _ (.tail _ (.tail _ (.head _)))))), .all (.tail _ (.tail _ (.tail _ (.tail _ (.tail _ (.head _))))))⟩
      rcases List.mem_cons.mp hp with rfl | hp
      · exact .tail _ (.tail _ (.head _))
      · exact .tail _ (.tail _ (.tail _ (.tail _ (.tail _ (.tail _ hp)))))
    | false =>
      have hn : (wordS false == Str.ofString "and") = true := rfl
      k_steps
      rename Fr _ _ _ _ => F4
      rename News _ _ _ _ => N4
      have kn0 : ∀ p ∈ [(Str.ofString "found", Value.ref f), (Str.ofString "word", Value.str (wordS false) q), (Str.ofString "sides", Value.ref sd)], (fun y => if y = Str.ofString "every" then some (Value.ref De) else if y = Str.ofString "none" then some (Value.ref Dn) else if y = Str.ofString "found" then some (Value.ref f) else List.lookup y [(Str.ofString "word", Value.str (wordS false) q), (Str.ofString "sides", Value.ref sd)].reverse) p.1 = some p.2 := by
        intro p hp
        simp only [List.mem_cons, List.not_mem_nil, or_false] at hp
        rcases hp with rfl | rfl | rfl <;> rfl
      refine ⟨_, _, _, _, _, _, _, _, rfl, rfl, F4, kn0, N4, fun p hp => ?_, .head _, .all (.tail _ (.tail _ (.tail _ (.tail _ (.tail _ (.head _)))))), .neg (.tail _ (.tail _ (.tail _ (.head _)))) (.all (.tail _ (.tail _ (.tail _ (.tail _ (.head _))))))⟩
      rcases List.mem_cons.mp hp with rfl | hp
      · exact .tail _ (.tail _ (.head _))
      · exact .tail _ (.tail _ (.tail _ (.tail _ (.tail _ (.tail _ hp)))))
  rintro v s' ⟨h3, tk3, n3, D, n, vi, vw, m3, rfl, rfl, F3, kn, N3, s3, hD3, ti, tw⟩
  clear F1 N1
  have F4 := fr_knows _ F3 kn
  simp only [know] at F4
  clear F3
  k_steps
  rename Fr _ _ _ _ => F5
  rename News _ _ _ _ => N5
  refine For_turns F5 ?_
  k_steps
  have sub5 : ∀ p ∈ n3, p ∈ n3 := fun _ h => h
  refine iter_tupTurns rfl F5 N5 (s3 _ (.tail _ hm)) rfl rfl (fun I hI => ?_)
  refine items_of (fun rem m' nx => (∀ p ∈ nx, p.1 ≠ I) ∧ (∃ fvs fs nf rd, DuJ k total news f vi vw q (rd.flatMap (duep k)) m' nx fvs fs nf ∧ SidesI news rem rd ∧ ∀ d ∈ rd, d.t.dep ≤ 60 ∧ d.ps.length ≤ 40 ∧ ∀ p ∈ d.ps, p.dep ≤ 60)) ?_ ?_ vs _ _ ⟨fun p hp => Nat.ne_of_lt (hI p hp), [], [], 0, ds, ⟨?_, s3 _ (.head _), .nil, ti, tw, by rw [ht], fun p hp => s3 _ (.tail _ hp), by rw [ht]; simp, fun _ hp => nomatch hp⟩, hR, hdd⟩
  case refine_3 =>
    intro p hp
    simp only [List.mem_cons, List.not_mem_nil, or_false] at hp
    rcases hp with rfl | rfl | rfl | rfl <;> rfl
  · clear F5 N5
    rintro m9 nx h9 tk9 ⟨hoI, fvs, fs, nf, rd, J, hrd, _⟩ F9 N9
    cases hrd
    have F10 := fr_knows _ F9 J.kn
    simp only [know] at F10
    clear F9
    have hfin := finT_some J.eq.symm
    have lf := J.tf.length
    have hbd := J.bd
    dsimp only
    k_steps
    rename Fr _ _ _ _ => F11
    rename News _ _ _ _ => N11
    have J1 := J.tf
    have J2 := J.hf
    by_cases hnil : fs = []
    · subst hnil
      cases J1
      refine r_eqNil N11 (.tail _ J2) (.head _) (by dsimp only; omega) (c := true) rfl ?_
      k_steps
      refine ⟨_, _, _, _, rfl, F11, N11, fun p hp => .tail _ (J.sb p hp), ?_⟩
      rw [hfin, if_pos rfl]
      exact J.tr.mono fun p hp => .tail _ hp
    have hnv : fvs ≠ [] := fun x => hnil (by have := congrArg List.length x; rw [lf] at this; exact List.length_eq_zero_iff.mp this)
    refine r_eqNil N11 (.tail _ J2) (.head _) (by dsimp only; omega) (c := false) (decide_eq_false hnv) ?_
    rw [if_neg hnil] at hfin
    have fl : fs.length ≤ 80 := by omega
    cases k with
    | true =>
      have hn : (wordS true == Str.ofString "or") = true := rfl
      k_steps
      refine (hlv_sp 100 f fvs nf fs hnil (by omega) (by omega)).use B rfl rfl F11 X N11 T' (by omega) (by omega) ⟨.tail _ J2, J1.mono fun p hp => .tail _ hp⟩ ?_
      intro r13 h13 tk13 n13 F13 N13 hO13
      k_steps
      refine ⟨_, _, _, _, rfl, F13, N13, fun p hp => hO13.1 _ (.tail _ (J.sb p hp)), ?_⟩
      rw [hfin]
      exact hO13.2
    | false =>
      have hn : (wordS false == Str.ofString "or") = false := by decide +kernel
      have sbx := J.sb
      clear J
      cases J1 with
      | nil => exact absurd rfl hnil
      | @cons x xs r rs hx hr =>
      k_steps
      refine r_itemL N11 (.tail _ J2) ?_
      k_steps
      rename Fr _ _ _ _ => F12
      rename News _ _ _ _ => N12
      refine For_invV g rfl rfl ?_
      k_steps
      refine r_from F12 N12 (.tail _ J2) (by decide) (by simp at lf; simp at fl; simp; omega) ?_
      intro D2 h2' F13 N13 l13
      have ex : List.drop (Int.toNat 1) (x :: xs) = xs := rfl
      rw [ex] at N13
      k_steps
      generalize hM : (_ :: nx : Led) = nz at N13 l13
      have hz : Sub nx nz := fun p hp => hM ▸ .tail _ hp
      refine kdl_iter (fun i m' nx' => Sub nx nx' ∧ ∃ v, m' (Str.ofString "tree") = some v ∧ TI nx' v ((rs.take i).foldl (fun a p => .bin false a p) r)) rfl (.head _) F13 N13 ⟨fun p hp => .tail _ (hz p hp), x, rfl, hx.mono fun p hp => .tail _ (hz p hp)⟩ ?_ ?_
      · clear F11 N11 F12 N12 F13 N13
        rintro i v m1 nx1 h3 tk3 own hv hoff hl ⟨hs, v0, hm1, ht⟩ F3 N3
        obtain ⟨tp, htp, hv2⟩ := (hr.mono hs).get _ _ hv
        have F4 := fr_know F3 (x := Str.ofString "tree") (v := v0) (by show (if Str.ofString "tree" = Str.ofString "part" then _ else _) = _; rw [if_neg (by decide)]; exact hm1)
        clear F3
        k_steps
        rename Fr _ _ _ _ => F5
        rename News _ _ _ _ => N5
        rename (∀ p ∈ nx1 ++ own, p.1 < _) => l5
        refine loop_end F5 N5 hoff l5 ⟨.tail _ hl, fun p hp => .tail _ (hs p hp), _, rfl, ?_⟩
        rw [List.take_add_one, htp, Option.toList_some, List.foldl_append]
        exact .bin (o := false) (.head _) (ht.mono fun p hp => .tail _ hp) (hv2.mono fun p hp => .tail _ hp)
      · clear F11 N11 F12 N12 F13 N13
        rintro m1 nx1 h3 tk3 ⟨hs, v0, hm1, ht⟩ F3 N3
        have F4 := fr_know F3 hm1
        clear F3
        dsimp only
        k_steps
        refine ⟨_, _, _, _, rfl, F4, N3, fun p hp => hs _ (sbx p hp), ?_⟩
        rw [List.take_of_length_le (by simp at lf; omega)] at ht
        rw [hfin]
        exact ht
  · clear F5 N5
    rintro v r m9 nx h9 tk9 its ⟨hoI, fvs, fs, nf, rd, J, hrd, hdd⟩ hits F9 N9
    obtain ⟨oI, hoc, rfl⟩ := objs_one hits
    cases hrd with
    | @cons _ _ d rd hs hr =>
    obtain ⟨a, n9, tv, kk, p, mm, pvs, rfl, e1, e2, e3, e4⟩ := hs
    obtain ⟨hdt, hdl, hdp⟩ := hdd d (.head _)
    have hdd2 := fun d' h' => hdd d' (.tail _ h')
    have sb9 : Sub news ((I, oI) :: nx) := fun x hx => .tail _ (J.sb _ hx)
    have e1' := J.sb _ e1
    have F10 := fr_knows _ F9 J.kn
    simp only [know] at F10
    clear F9
    have hoIf : I ≠ f := fun x => hoI _ J.hf x.symm
    replace N9 : News g L h9 ((I, oI) :: nx) := N9
    refine unpackN_ F10 N9 (tup_of N9 (.tail _ e1')) rfl rfl rfl ?_
    intro h10 F10 N10
    k_steps
    rename Fr _ _ _ _ => F11
    rename News _ _ _ _ => N11
    have hpl := e4.length
    have kn10 := J.kn
    refine For_invV g rfl rfl (wpAny_mono (Q := MidD g L [(Str.ofString "found", Value.ref f), (Str.ofString "idle", vi), (Str.ofString "sure", vw), (Str.ofString "word", Value.str (wordS k) q)] ((I, oI) :: nx) f (duep k d) s) ?_ ?_ (fun _ _ x => x))
    · by_cases hok : d.o = k
      · have hn : (wordS d.o == wordS k) = true := by rw [wordS_eq]; exact decide_eq_true hok
        k_steps
        refine ⟨_, _, _, p, pvs, mm, _, rfl, rfl, F11, ?_, N11, fun _ hx => hx, sb9 _ e2, ?_, hfn _ e2⟩
        · intro x hx
          simp only [List.mem_cons, List.not_mem_nil, or_false] at hx
          rcases hx with rfl | rfl | rfl | rfl <;> rfl
        · rw [duep, if_pos (.inl hok)]
          exact e4.mono sb9
      · have hn : (wordS d.o == wordS k) = false := by rw [wordS_eq]; exact decide_eq_false hok
        k_steps
        refine r_len N11 (sb9 _ e2) (by omega) ?_
        intro t12 tk12
        k_steps
        · rename ((_ : Int) = 1) => h1
          refine ⟨_, _, _, p, pvs, mm, _, rfl, rfl, F11, ?_, N11, fun _ hx => hx, sb9 _ e2, ?_, hfn _ e2⟩
          · intro x hx
            simp only [List.mem_cons, List.not_mem_nil, or_false] at hx
            rcases hx with rfl | rfl | rfl | rfl <;> rfl
          · rw [duep, if_pos (.inr (by omega))]
            exact e4.mono sb9
        · rename ((_ : Int) ≠ 1) => h1
          rename Fr _ _ _ _ => F12
          rename News _ _ _ _ => N12
          rename (I < _ ∧ AllLt _ nx) => l12
          refine ⟨_, _, _, _, [tv], 0, _, rfl, rfl, F12, ?_, N12, fun _ hx => .tail _ hx, .head _, ?_, Nat.ne_of_gt (ktn_ltOf l12.2 _ J.hf)⟩
          · intro x hx
            simp only [List.mem_cons, List.not_mem_nil, or_false] at hx
            rcases hx with rfl | rfl | rfl | rfl <;> rfl
          · rw [duep, if_neg (fun x => x.elim hok (fun y => h1 (by omega)))]
            exact .one (e3.mono fun x hx => .tail _ (sb9 x hx))
    · clear F11 N11 F10
      rintro v s' ⟨h4, tk4, n4, l, lvs, ln, m4, rfl, rfl, F4, kn4, N4, s4, hl, tl, hlf⟩
      have hpsl : (duep k d).length ≤ 40 := by
        rw [duep]
        split
        · exact hdl
        · simp
      have hpsd : ∀ t ∈ duep k d, t.dep ≤ 60 := by
        intro t ht9
        rw [duep] at ht9
        split at ht9
        · exact hdp t ht9
        · rw [List.mem_singleton.mp ht9]; exact hdt
      have bd0 := J.bd
      rw [List.flatMap_cons] at bd0
      have eq0 := J.eq
      rw [List.flatMap_cons] at eq0
      have s4x : ∀ p ∈ nx, p ∈ n4 := fun p hp => s4 _ (.tail _ hp)
      generalize duep k d = ps at hpsl hpsd bd0 eq0 tl
      generalize htd : rd.flatMap (duep k) = todo at bd0 eq0
      have hvs := tl.length
      refine kdl_iter (fun i m' nx' => (I, oI) ∈ nx' ∧ ∃ fvs fs nf, DuJ k total news f vi vw q (ps.drop i ++ todo) m' nx' fvs fs nf ∧ TIs nx' lvs ps) rfl hl F4 N4 ⟨s4 _ (.head _), fvs, fs, nf, ⟨kn4, s4x _ J.hf, J.tf.mono s4x, J.tr.mono s4x, J.tw.mono s4x, eq0, fun p hp => s4x _ (J.sb p hp), bd0, J.dp⟩, tl⟩ ?_ ?_
      · clear F4 N4
        rintro i pv m9 nx h9 tk9 own hv9 hoff hl9 ⟨hI9, fvs, fs, nf, ⟨kn9, hf9, tf9, tr9, tw9, eq9, sb9, bd9, dp9⟩, hps9⟩ F9 N9
        obtain ⟨pt, hpt, tp9⟩ := hps9.get _ _ hv9
        have F10 := fr_turn [Str.ofString "found", Str.ofString "idle", Str.ofString "sure", Str.ofString "word"] F9 kn9 rfl (by decide +kernel)
        simp only [know] at F10
        clear F9
        have N9x : News g L h9 nx := fun p hp => N9 p (mem_l p hp)
        obtain ⟨pa, rfl⟩ := tp9.ref
        obtain ⟨wa, rfl⟩ := tw9.ref
        obtain ⟨ra, rfl⟩ := tr9.ref
        have hpd : pt.dep ≤ 60 := hpsd _ (List.mem_of_getElem? hpt)
        rw [drop_get hpt, List.cons_append] at eq9
        rw [drop_get hpt, List.cons_append, List.length_cons] at bd9
        k_steps
        by_cases hW : pt = restT (!k)
        · refine r_eq F10 X N9 (tp9.mono mem_l) (tw9.mono mem_l) (by dsimp only; omega) (c := true) (decide_eq_true hW) ?_
          k_steps
          refine ⟨_, _, _, _, rfl, F10, N9, fun p hp => mem_l _ (sb9 _ hp), ?_⟩
          rw [finT_none (eq9.symm.trans (scan_stop (.inl hW)))]
          exact tw9.mono mem_l
        refine r_eq F10 X N9 (tp9.mono mem_l) (tw9.mono mem_l) (by dsimp only; omega) (c := false) (decide_eq_false hW) ?_
        k_steps
        refine con_sp.use B rfl rfl F10 X N9 T' (by omega) (by omega) (tp9.mono mem_l) ?_
        intro r11 h11 tk11 n11 F11 N11 hO11
        obtain ⟨s11, o11⟩ := hO11
        obtain ⟨oa, rfl⟩ := o11.ref
        have s11x : Sub nx n11 := fun p hp => s11 _ (mem_l p hp)
        clear F10 N9
        k_steps
        by_cases hO : opp pt ∈ fs
        · refine r_in F11 X N11 (s11x _ hf9) (tf9.mono s11x) o11 (fun t ht => by have := dp9 t ht; dsimp only; omega) (c := true) (decide_eq_true hO) ?_
          k_steps
          refine ⟨_, _, _, _, rfl, F11, N11, fun p hp => s11x _ (sb9 _ hp), ?_⟩
          rw [finT_none (eq9.symm.trans (scan_stop (.inr hO)))]
          exact tw9.mono s11x
        refine r_in F11 X N11 (s11x _ hf9) (tf9.mono s11x) o11 (fun t ht => by have := dp9 t ht; dsimp only; omega) (c := false) (decide_eq_false hO) ?_
        have hst : ¬ (pt = restT (!k) ∨ opp pt ∈ fs) := fun x => x.elim hW hO
        have keep : ∀ p ∈ nx, p ∈ away own n11 := fun p hp => away_mem (s11x _ hp) (off_of hoff hp)
        k_steps
        by_cases hRr : pt = restT k
        · refine r_ne F11 X N11 (tp9.mono s11x) (tr9.mono s11x) (by dsimp only; omega) (c := true) (decide_eq_true hRr) ?_
          k_steps
          refine loop_end2 F11 N11 (fun p hp => s11 _ (mem_r p hp)) ⟨keep _ hl9, keep _ hI9, fvs, fs, nf, ⟨?_, keep _ hf9, tf9.mono keep, tr9.mono keep, tw9.mono keep, (scan_same hst (fun x => x.1 hRr)).symm.trans eq9, fun p hp => keep _ (sb9 p hp), by omega, dp9⟩, hps9.mono keep⟩
          intro p hp
          simp only [List.mem_cons, List.not_mem_nil, or_false] at hp
          rcases hp with rfl | rfl | rfl | rfl <;> rfl
        refine r_ne F11 X N11 (tp9.mono s11x) (tr9.mono s11x) (by dsimp only; omega) (c := false) (decide_eq_false hRr) ?_
        k_steps
        by_cases hI : pt ∈ fs
        · refine r_notIn F11 X N11 (s11x _ hf9) (tf9.mono s11x) (tp9.mono s11x) (fun t ht => by have := dp9 t ht; dsimp only; omega) (c := true) (decide_eq_true hI) ?_
          k_steps
          refine loop_end2 F11 N11 (fun p hp => s11 _ (mem_r p hp)) ⟨keep _ hl9, keep _ hI9, fvs, fs, nf, ⟨?_, keep _ hf9, tf9.mono keep, tr9.mono keep, tw9.mono keep, (scan_same hst (fun x => x.2 hI)).symm.trans eq9, fun p hp => keep _ (sb9 p hp), by omega, dp9⟩, hps9.mono keep⟩
          intro p hp
          simp only [List.mem_cons, List.not_mem_nil, or_false] at hp
          rcases hp with rfl | rfl | rfl | rfl <;> rfl
        refine r_notIn F11 X N11 (s11x _ hf9) (tf9.mono s11x) (tp9.mono s11x) (fun t ht => by have := dp9 t ht; dsimp only; omega) (c := false) (decide_eq_false hI) ?_
        k_steps
        refine kl_method N11 (s11x _ hf9) PySem.F.slot_list_append PySem.F.type_list_append ?_
        k_steps
        have lf := tf9.length
        have hil : i < lvs.length := (List.getElem?_eq_some_iff.mp hv9).1
        refine r_append F11 N11 (s11x _ hf9) (by omega) ?_
        intro h12 n12 F12 N12 hf12 hI12
        have keep2 : ∀ p ∈ nx, p.1 ≠ f → p ∈ away own n12 := fun p hp hn => away_mem (hI12 _ (s11x _ hp) hn) (off_of hoff hp)
        k_steps
        refine loop_end2 F12 N12 (fun p hp => hI12 _ (s11 _ (mem_r p hp)) (off_of hoff hf9 p hp)) ⟨keep2 _ hl9 hlf, keep2 _ hI9 hoIf, fvs ++ [_], fs ++ [pt], nf + 1, ⟨?_, away_mem hf12 (fun q hq => off_of hoff hf9 q hq), (tf9.chg N9x hf9 keep2).snoc (tp9.chg N9x hf9 keep2), tr9.chg N9x hf9 keep2, tw9.chg N9x hf9 keep2, (scan_more hst ⟨hRr, hI⟩).symm.trans eq9, fun p hp => keep2 _ (sb9 p hp) (hfn p hp), ?_, ?_⟩, hps9.chg N9x hf9 keep2⟩
        · intro p hp
          simp only [List.mem_cons, List.not_mem_nil, or_false] at hp
          rcases hp with rfl | rfl | rfl | rfl <;> rfl
        · rw [List.length_append, List.length_singleton]; omega
        · intro x hx
          rcases List.mem_append.mp hx with hx | hx
          · exact dp9 x hx
          · rw [List.mem_singleton.mp hx]; exact hpd
      · clear F4 N4
        rintro m9 nx9 h9 tk9 ⟨hI9, fvs, fs, nf, J9, hps9⟩ F9 N9
        rw [List.drop_of_length_le (by omega), List.nil_append] at J9
        subst htd
        dsimp only
        k_steps
        have c9 : ∀ p ∈ nx9, p.1 ≠ I → p ∈ away [(I, oI)] nx9 := fun p hp hn => away_mem hp (fun q hq => by rw [List.mem_singleton.mp hq]; exact Ne.symm hn)
        have hbI : ∀ p ∈ news, p.1 ≠ I := fun p hp => Nat.ne_of_lt (hI _ (s3 _ (.tail _ hp)))
        have hocT : oI.cls ≠ .type "tuple" := by rw [hoc]; decide
        refine unr_end F9 N9 (fun p hp => by rw [List.mem_singleton.mp hp]; exact hI9) ⟨⟨c9 _ (J9.sb _ hm) (hbI _ hm), trivial⟩, fun p hp => (away_ne hp _ (.head _)).symm, fvs, fs, nf, rd, ⟨J9.kn, c9 _ J9.hf hoIf.symm, J9.tf.chgO N9 hI9 hocT c9, J9.tr.chgO N9 hI9 hocT c9, J9.tw.chgO N9 hI9 hocT c9, J9.eq, fun p hp => c9 _ (J9.sb p hp) (hbI p hp), J9.bd, J9.dp⟩, hr, hdd2⟩
end Mine
end PartC6
section PartB7
open Classical
open PySem PySem.W PyProof.Rows PySem.Calls PySem.Spec PySem.SeqAt
set_option maxRecDepth 100000
set_option maxHeartbeats 400000
namespace Mine
/-- the cells' list, after some draws -/
def Cut (c : Addr) (len : Nat) (news news' : Led) : Prop :=
  (∃ vs n ns, (c, lstOf vs n) ∈ news' ∧ IntsAre vs ns ∧ vs.length ≤ len) ∧ ∀ p ∈ news, p.1 ≠ c → p ∈ news'
theorem Cut.trans {c : Addr} {len len' : Nat} {a b d : Led} (h : Cut c len a b) (k : Cut c len' b d) : Cut c len' a d := ⟨k.1, fun p hp hn => k.2 p (h.2 p hp hn) hn⟩
theorem fresh_of {c D : Addr} {o : Obj} {news n2 : Led} (h : AllLt D n2) (hm : (c, o) ∈ n2) (k : ∀ p ∈ news, p.1 ≠ c → p ∈ n2) : ∀ q ∈ news, q.1 ≠ D := fun q hq => by
  by_cases e : q.1 = c
  · rw [e]; exact Nat.ne_of_lt (ktn_ltOf h _ hm)
  · exact Nat.ne_of_lt (ktn_ltOf h _ (k q hq e))
def isPart : T → Prop
  | .leaf _ => True
  | .all => True
  | .neg (.leaf _) => True
  | .neg .all => True
  | _ => False
section
variable {prog : Program} {w : World} {A : Around} {E : Value → Shared → Prop} {s : Shared} {h₀ : Heap} {L D : Addr} {m : Str → Option Value} {news : Led} {Q : Value → Shared → Prop}
theorem r_mod {a b : Int} {t u : Tok} (hb : 0 < b) (h : ∀ x t k, 0 ≤ x → x < b → Q (.int x t) { s with toks := k }) : wpAny (model prog w) A (binaryOp .Mod (.int a t) (.int b u)) Q E s :=
  mod_int' (by omega) (h _ _ _ (fmod_lo a hb) (fmod_hi a hb))
def leafVs : List Value := [.ref 64, .ref 65, .ref 68, .ref 69, .ref 72, .ref 73]
theorem K_leaves (w : World) : (hd.heap_39 w.params).lookup 74 = some (tupOf leafVs 0) := rfl
theorem r_leaf {value slice : PySem.Expr} {x : Int} {k : Tok} (F : Fr h₀ L s.heap m) (X : (hd.heap_39 w.params).In h₀) (h0 : 0 ≤ x) (h6 : x < 6) (h : ∀ i : Fin 6, Q (.ref (leafA i)) s)
    (hs : subscripted slice false (.ref 74) (.int x k) = operate [.ref 74, .int x k] (getItem (.ref 74) (.int x k)) := by with_unfolding_all rfl) :
    wpAny (model prog w) A (subscriptTail value slice (.ref 74) (.int x k)) Q E s := by
  have ht : IsTup s.heap 74 leafVs.toArray := ⟨_, F.keep _ _ (X _ _ (K_leaves w)), rfl, _, rfl⟩
  have hx : x = 0 ∨ x = 1 ∨ x = 2 ∨ x = 3 ∨ x = 4 ∨ x = 5 := by omega
  rcases hx with rfl | rfl | rfl | rfl | rfl | rfl
  · exact item_tupleT (l := leafVs) (j := 0) ht (by decide) (by decide) (by decide) rfl (h 0) hs
  · exact item_tupleT (l := leafVs) (j := 1) ht (by decide) (by decide) (by decide) rfl (h 1) hs
  · exact item_tupleT (l := leafVs) (j := 2) ht (by decide) (by decide) (by decide) rfl (h 2) hs
  · exact item_tupleT (l := leafVs) (j := 3) ht (by decide) (by decide) (by decide) rfl (h 3) hs
  · exact item_tupleT (l := leafVs) (j := 4) ht (by decide) (by decide) (by decide) rfl (h 4) hs
  · exact item_tupleT (l := leafVs) (j := 5) ht (by decide) (by decide) (by decide) rfl (h 5) hs
def pick3 (way : Int) (a b c : Value) : Value := if way = 0 then a else if way = 1 then b else c
theorem r_pick3 {value slice : PySem.Expr} {way : Int} {k : Tok} {a b c : Value} {n : Nat} (N : News h₀ L s.heap news) (hm : (D, tupOf [a, b, c] n) ∈ news) (h0 : 0 ≤ way) (h3 : way < 3) (h : Q (pick3 way a b c) s)
    (hs : subscripted slice false (.ref D) (.int way k) = operate [.ref D, .int way k] (getItem (.ref D) (.int way k)) := by with_unfolding_all rfl) :
    wpAny (model prog w) A (subscriptTail value slice (.ref D) (.int way k)) Q E s := by
  have hx : way = 0 ∨ way = 1 ∨ way = 2 := by omega
  rcases hx with rfl | rfl | rfl
  · exact item_tupleT (j := 0) (tup_of N hm) (by decide) (by decide) (by simp [seqIndex?]) rfl h hs
  · exact item_tupleT (j := 1) (tup_of N hm) (by decide) (by decide) (by simp [seqIndex?]) rfl h hs
  · exact item_tupleT (j := 2) (tup_of N hm) (by decide) (by decide) (by simp [seqIndex?]) rfl h hs
theorem r_pick2 {value slice : PySem.Expr} {way : Int} {k : Tok} {n : Nat} {t u : Tok} (N : News h₀ L s.heap news) (hm : (D, tupOf [.str (Str.ofString "and") t, .str (Str.ofString "or") u] n) ∈ news) (h0 : 0 ≤ way) (h3 : way < 2) (h : ∀ o q, Q (.str (wordS o) q) s)
    (hs : subscripted slice false (.ref D) (.int way k) = operate [.ref D, .int way k] (getItem (.ref D) (.int way k)) := by with_unfolding_all rfl) :
    wpAny (model prog w) A (subscriptTail value slice (.ref D) (.int way k)) Q E s := by
  have hx : way = 0 ∨ way = 1 := by omega
  rcases hx with rfl | rfl
  · exact item_tupleT (j := 0) (tup_of N hm) (by decide) (by decide) (by simp [seqIndex?]) rfl (h false t) hs
  · exact item_tupleT (j := 1) (tup_of N hm) (by decide) (by decide) (by simp [seqIndex?]) rfl (h true u) hs
end
def Apart (l l' : Led) (r : Value) : Prop := ∃ t l₂, TI l₂ r t ∧ isPart t ∧ ∀ p ∈ l₂, p ∈ l' ∧ ∀ q ∈ l, q.1 ≠ p.1
theorem pe_all {l l' : Led} {D : Addr} {k : Tok} {n : Nat} (h : (D, tupOf [.str (Str.ofString "all") k] n) ∈ l') (hf : ∀ q ∈ l, q.1 ≠ D) : Apart l l' (.ref D) :=
  ⟨.all, [(D, tupOf [.str (Str.ofString "all") k] n)], .all (.head _), trivial, fun p hp => by rw [List.mem_singleton.mp hp]; exact ⟨h, hf⟩⟩
theorem pe_neg {l l' : Led} {D : Addr} {k : Tok} {n : Nat} {i : Fin 6} (h : (D, tupOf [.str (Str.ofString "not") k, .ref (leafA i)] n) ∈ l') (hf : ∀ q ∈ l, q.1 ≠ D) : Apart l l' (.ref D) :=
  ⟨.neg (.leaf i), [(D, tupOf [.str (Str.ofString "not") k, .ref (leafA i)] n)], .neg (.head _) (.leaf i), trivial, fun p hp => by rw [List.mem_singleton.mp hp]; exact ⟨h, hf⟩⟩
theorem pe_none {l l' : Led} {D D2 : Addr} {k k2 : Tok} {n n2 : Nat} (h : (D, tupOf [.str (Str.ofString "not") k, .ref D2] n) ∈ l') (h2 : (D2, tupOf [.str (Str.ofString "all") k2] n2) ∈ l') (hf : ∀ q ∈ l, q.1 ≠ D) (hf2 : ∀ q ∈ l, q.1 ≠ D2) : Apart l l' (.ref D) :=
  ⟨.neg .all, [(D, tupOf [.str (Str.ofString "not") k, .ref D2] n), (D2, tupOf [.str (Str.ofString "all") k2] n2)], .neg (.head _) (.all (.tail _ (.head _))), trivial, fun p hp => by
    rcases List.mem_cons.mp hp with rfl | hp
    · exact ⟨h, hf⟩
    · rw [List.mem_singleton.mp hp]; exact ⟨h2, hf2⟩⟩
theorem pe_leaf {l l' : Led} {i : Fin 6} : Apart l l' (.ref (leafA i)) := ⟨.leaf i, [], .leaf i, trivial, fun p hp => nomatch hp⟩
end Mine
end PartB7
section PartC7
open Classical
open PySem PySem.W PyProof.Rows PySem.Calls PySem.Spec PySem.SeqAt
set_option maxRecDepth 100000
set_option maxHeartbeats 8000000
namespace Mine
variable {w : World} {mean : ExcName → Option Value} {mg mb : Str → Option Value}
theorem prime_c7 (w : World) : hd.heap_39 w.params = hd.heap_39 w.params ∧ PySem.Challenge.rw_or0014_01 = PySem.Challenge.rw_or0014_01 := by k_fill; exact ⟨rfl, rfl⟩
local macro_rules | `(tactic| k_steps) => `(tactic| repeat' ((fail_if_success (with_reducible show wpAny _ _ (PySem.call (Value.ref _) _) _ _ _)); (fail_if_success (with_reducible show wpAny _ _ (PySem.exec (Stmt.For _ _ _ _ _) _) _ _ _)); (fail_if_success (with_reducible show wpAny _ _ (PySem.exec (Stmt.While _ _ _ _) _) _ _ _)); (fail_if_success (with_reducible show wpAny _ _ (PySem.pyIter (Value.ref _)) _ _ _)); (fail_if_success (with_reducible show wpAny _ _ (PySem.subscriptTail _ _ (Value.ref _) _) _ _ _)); (fail_if_success (with_reducible show wpAny _ _ (PySem.call (Value.builtin _) (Value.ref _ :: _)) _ _ _)); (fail_if_success (with_reducible show wpAny _ _ (PySem.call (Value.builtin _) ([Value.ref _] ++ _)) _ _ _)); (fail_if_success (with_reducible show wpAny _ _ (PySem.compareOp _ (Value.ref _) (Value.ref _)) _ _ _)); (fail_if_success (with_reducible show wpAny _ _ (PySem.binaryOp _ (Value.ref _) (Value.ref _)) _ _ _)); (fail_if_success (with_reducible show wpAny _ _ (PySem.getMethod (Value.ref _) _ _) _ _ _)); (fail_if_success (with_reducible show wpAny _ _ (PySem.binaryOp Operator.Mod (Value.int _ _) (Value.int _ _)) _ _ _)); (fail_if_success (with_reducible show wpAny _ _ (subscriptTail _ _ (Value.ref _) _) _ _ _)); first | (k_unfold; (try dsimp only)) | (k_end; wrow_close) | walk1 | (dsimp only; walk1) | (leave1; walk_say "STEP leave1"; try dsimp only) | fail "no step"))
theorem cell_sp {c : Addr} {many : Int} {mt : Tok} {vs : List Value} {n : Nat} {ns : List Int} (hmany : 0 < many) (hlen : vs.length ≤ 1000) :
    Sp w mean mg mb 81 [.ref c, .int many mt] 1 33 (fun l => (c, lstOf vs n) ∈ l ∧ IntsAre vs ns) (fun l l' r => (∃ x t, r = .int x t ∧ 0 ≤ x ∧ x < many) ∧ Cut c vs.length l l') := by
  refine' Sp.le (Sp.intro (dp := 0) (un := 30) (binds := [("cells", .ref c), ("many", .int many mt)]) ?ho ?hcd ?hb ?hl ?c1 ?c2 ?c3 ?c4 ?_) (by omega) (by omega)
  case ho => k_is
  case hcd => k_is
  case hb => exact fun s => BindsTo.of_eq rfl
  case hl => exact locs rfl
  case c1 => rfl
  case c2 => rfl
  case c3 => rfl
  case c4 => decide
  intro da ua gd A₀ outer base g L news s B X T' F N hd hu hR
  obtain ⟨hm, hI⟩ := hR
  k_steps
  rename Fr _ _ _ _ => F1
  rename News _ _ _ _ => N1
  rename (∀ p ∈ news, p.1 < _) => l1
  cases hI with
  | nil =>
    refine r_neNil N1 (.tail _ hm) (.head _) (by dsimp only; omega) (c := true) rfl ?_
    k_steps
    refine ⟨_, _, _, _, rfl, F1, N1, ⟨_, _, rfl, Int.le_refl _, hmany⟩, ⟨[], n, [], .tail _ hm, .nil, Nat.le_refl _⟩, fun p hp _ => .tail _ hp⟩
  | @cons x t vs ns hI =>
    refine r_neNil N1 (.tail _ hm) (.head _) (by dsimp only; omega) (c := false) rfl ?_
    k_steps
    refine kl_method N1 (.tail _ hm) PySem.F.slot_list_pop PySem.F.type_list_pop ?_
    k_steps
    refine r_pop0 F1 N1 (.tail _ hm) (by rw [List.length_cons] at hlen; omega) ?_
    intro h3 n3 F3 N3 hm3 hI3
    k_steps
    refine r_mod hmany ?_
    intro y ty ky hy0 hy1
    k_steps
    refine ⟨_, _, _, _, rfl, F3, N3, ⟨_, _, rfl, hy0, hy1⟩, ⟨vs, _, ns, hm3, hI, by simp⟩, fun p hp hn => hI3 _ (.tail _ hp) hn⟩
theorem part_sp {c : Addr} {vs : List Value} {n : Nat} {ns : List Int} (hlen : vs.length ≤ 1000) :
    Sp w mean mg mb 88 [.ref c] 2 66 (fun l => (c, lstOf vs n) ∈ l ∧ IntsAre vs ns) (fun l l' r => Apart l l' r ∧ Cut c vs.length l l') := by
  refine' Sp.le (Sp.intro (dp := 1) (un := 63) (binds := [("cells", .ref c)]) ?ho ?hcd ?hb ?hl ?c1 ?c2 ?c3 ?c4 ?_) (by omega) (by omega)
  case ho => k_is
  case hcd => k_is
  case hb => exact fun s => BindsTo.of_eq rfl
  case hl => exact locs rfl
  case c1 => rfl
  case c2 => rfl
  case c3 => rfl
  case c4 => decide
  intro da ua gd A₀ outer base g L news s B X T' F N hd hu hR
  obtain ⟨hm, hI⟩ := hR
  k_steps
  refine (cell_sp (by decide) hlen).use B rfl rfl F X N T' (by omega) (by omega) ⟨hm, hI⟩ ?_
  intro r1 h1 tk1 n1 F1 N1 hO1
  obtain ⟨⟨way, t1, rfl, w0, w8⟩, ⟨vs1, k1, ns1, hm1, hI1, hl1⟩, c1⟩ := hO1
  k_steps
  refine (cell_sp (by decide) (by omega)).use B rfl rfl F1 X N1 T' (by omega) (by omega) ⟨hm1, hI1⟩ ?_
  intro r2 h2 tk2 n2 F2 N2 hO2
  obtain ⟨⟨x, t2, rfl, x0, x6⟩, ⟨vs2, k2, ns2, hm2, hI2, hl2⟩, c2⟩ := hO2
  k_steps
  refine r_leaf F2 X x0 x6 ?_
  intro i
  have hc : Cut c vs.length news n2 := ⟨⟨vs2, k2, ns2, hm2, hI2, by omega⟩, fun p hp hn => c2 p (c1 p hp hn) hn⟩
  k_steps
  · rename Fr _ _ _ _ => F3
    rename News _ _ _ _ => N3
    rename (_ < _ ∧ AllLt _ n2) => l3
    refine ⟨_, _, _, _, rfl, F3, N3, pe_all (.head _) (fresh_of l3.2 hm2 hc.2), ⟨vs2, k2, ns2, .tail _ (.tail _ hm2), hI2, by omega⟩, fun p hp hn => .tail _ (.tail _ (hc.2 p hp hn))⟩
  · rename Fr _ _ _ _ => F3
    rename News _ _ _ _ => N3
    rename (_ < _ ∧ _ < _ ∧ AllLt _ n2) => l4
    rename (_ < _ ∧ AllLt _ n2) => l3
    refine ⟨_, _, _, _, rfl, F3, N3, pe_none (.head _) (.tail _ (.head _)) (fresh_of l4.2.2 hm2 hc.2) (fresh_of l3.2 hm2 hc.2), ⟨vs2, k2, ns2, .tail _ (.tail _ (.tail _ hm2)), hI2, by omega⟩, fun p hp hn => .tail _ (.tail _ (.tail _ (hc.2 p hp hn)))⟩
  · refine r_mod (by decide) ?_
    intro y ty ky hy0 hy1
    k_steps
    · rename Fr _ _ _ _ => F3
      rename News _ _ _ _ => N3
      rename (_ < _ ∧ AllLt _ n2) => l3
      refine ⟨_, _, _, _, rfl, F3, N3, pe_neg (.head _) (fresh_of l3.2 hm2 hc.2), ⟨vs2, k2, ns2, .tail _ (.tail _ hm2), hI2, by omega⟩, fun p hp hn => .tail _ (.tail _ (hc.2 p hp hn))⟩
    · rename Fr _ _ _ _ => F3
      rename News _ _ _ _ => N3
      exact ⟨_, _, _, _, rfl, F3, N3, pe_leaf, ⟨vs2, k2, ns2, .tail _ hm2, hI2, by omega⟩, fun p hp hn => .tail _ (hc.2 p hp hn)⟩
end Mine
end PartC7
section PartC8
open Classical
open PySem PySem.W PyProof.Rows PySem.Calls PySem.Spec PySem.SeqAt
set_option maxRecDepth 100000
set_option maxHeartbeats 8000000
namespace Mine
variable {w : World} {mean : ExcName → Option Value} {mg mb : Str → Option Value}
theorem prime_c8 (w : World) : hd.heap_39 w.params = hd.heap_39 w.params ∧ PySem.Challenge.rw_or0014_01 = PySem.Challenge.rw_or0014_01 := by k_fill; exact ⟨rfl, rfl⟩
local macro_rules | `(tactic| k_steps) => `(tactic| repeat' ((fail_if_success (with_reducible show wpAny _ _ (PySem.call (Value.ref _) _) _ _ _)); (fail_if_success (with_reducible show wpAny _ _ (PySem.exec (Stmt.For _ _ _ _ _) _) _ _ _)); (fail_if_success (with_reducible show wpAny _ _ (PySem.exec (Stmt.While _ _ _ _) _) _ _ _)); (fail_if_success (with_reducible show wpAny _ _ (PySem.pyIter (Value.ref _)) _ _ _)); (fail_if_success (with_reducible show wpAny _ _ (PySem.subscriptTail _ _ (Value.ref _) _) _ _ _)); (fail_if_success (with_reducible show wpAny _ _ (PySem.call (Value.builtin _) (Value.ref _ :: _)) _ _ _)); (fail_if_success (with_reducible show wpAny _ _ (PySem.call (Value.builtin _) ([Value.ref _] ++ _)) _ _ _)); (fail_if_success (with_reducible show wpAny _ _ (PySem.compareOp _ (Value.ref _) (Value.ref _)) _ _ _)); (fail_if_success (with_reducible show wpAny _ _ (PySem.binaryOp _ (Value.ref _) (Value.ref _)) _ _ _)); (fail_if_success (with_reducible show wpAny _ _ (PySem.getMethod (Value.ref _) _ _) _ _ _)); (fail_if_success (with_reducible show wpAny _ _ (subscriptTail _ _ (Value.ref _) _) _ _ _)); first | (k_unfold; (try dsimp only)) | (k_end; wrow_close) | walk1 | (dsimp only; walk1) | (leave1; walk_say "STEP leave1"; try dsimp only) | fail "no step"))
def spotN (way : Int) (len : Nat) : Nat := if way = 0 then len - 1 else if way = 1 then 1 else (len + 1) / 2
def laidN (o : Bool) (way : Int) : Nat → List T → T
  | 0, _ => .all
  | n + 1, ts => if ts.length = 1 then ts.headD .all else .bin o (laidN o way n (ts.take (spotN way ts.length))) (laidN o way n (ts.drop (spotN way ts.length)))
theorem spot_lo {way : Int} {len : Nat} (h : 2 ≤ len) : 1 ≤ spotN way len ∧ spotN way len < len := by
  unfold spotN
  split
  · omega
  · split <;> omega
theorem r_spot {prog : Program} {A : Around} {E : Value → Shared → Prop} {s : Shared} {h₀ : Heap} {L D : Addr} {news : Led} {Q : Value → Shared → Prop} {value slice : PySem.Expr} {way : Int} {k t u v : Tok} {n len : Nat} (N : News h₀ L s.heap news)
    (hm : (D, tupOf [.int ((len : Int) - 1) t, .int 1 u, .int (((len : Int) + 1).fdiv 2) v] n) ∈ news) (h0 : 0 ≤ way) (h3 : way < 3) (hl : 1 ≤ len) (h : ∀ q, Q (.int ((spotN way len : Nat) : Int) q) s)
    (hs : subscripted slice false (.ref D) (.int way k) = operate [.ref D, .int way k] (getItem (.ref D) (.int way k)) := by with_unfolding_all rfl) :
    wpAny (model prog w) A (subscriptTail value slice (.ref D) (.int way k)) Q E s := by
  refine r_pick3 N hm h0 h3 ?_ hs
  unfold pick3
  split
  · have e : (len : Int) - 1 = ((spotN way len : Nat) : Int) := by rw [spotN, if_pos (by assumption)]; omega
    rw [e]; exact h _
  · split
    · have e : (1 : Int) = ((spotN way len : Nat) : Int) := by rw [spotN, if_neg (by assumption), if_pos (by assumption)]; rfl
      rw [e]; exact h _
    · have e : ((len : Int) + 1).fdiv 2 = ((spotN way len : Nat) : Int) := by rw [spotN, if_neg (by assumption), if_neg (by assumption), Int.fdiv_eq_ediv_of_nonneg _ (by decide)]; omega
      rw [e]; exact h _
theorem laid_sp {o : Bool} {way : Int} (w0 : 0 ≤ way) (w3 : way < 3) : ∀ (n : Nat) (q qt : Tok) (a : Addr) (vs : List Value) (k : Nat) (ts : List T), ts ≠ [] → ts.length ≤ n → n ≤ 100 →
    Sp w mean mg mb 95 [.str (wordS o) q, .ref a, .int way qt] n (3 * n + 30) (fun l => (a, lstOf vs k) ∈ l ∧ TIs l vs ts) (fun l l' r => Sub l l' ∧ TI l' r (laidN o way n ts)) := by
  intro n
  induction n with
  | zero => intro q qt a vs k ts h1 h2; cases ts with
    | nil => exact absurd rfl h1
    | cons _ _ => simp at h2
  | succ n ih =>
  intro q qt a vs k ts h1 h2 h3
  refine' Sp.le (Sp.intro (dp := n) (un := 3 * n + 30) (binds := [("word", .str (wordS o) q), ("parts", .ref a), ("way", .int way qt)]) ?ho ?hcd ?hb ?hl ?c1 ?c2 ?c3 ?c4 ?_) (by omega) (by omega)
  case ho => k_is
  case hcd => k_is
  case hb => exact fun s => BindsTo.of_eq rfl
  case hl => exact locs rfl
  case c1 => rfl
  case c2 => rfl
  case c3 => rfl
  case c4 => decide
  intro da ua gd A₀ outer base g L news s B X T' F N hd hu hR
  obtain ⟨hm, hR⟩ := hR
  have hlen := hR.length
  k_steps
  refine r_len N hm (by omega) ?_
  intro t tk
  k_steps
  · rename ((_ : Int) = 1) => e1
    cases hR with
    | nil => exact absurd rfl h1
    | @cons x _ r rs hx hr =>
    refine r_itemL N hm ?_
    refine ⟨_, _, _, _, rfl, F, N, fun p hp => hp, ?_⟩
    have hone : (r :: rs).length = 1 := by omega
    rw [laidN, if_pos hone]
    exact hx
  · rename ((_ : Int) ≠ 1) => e1
    refine r_len N hm (by omega) ?_
    intro t1 tk1
    k_steps
    refine r_len N hm (by omega) ?_
    intro t2 tk2
    k_steps
    rename Fr _ _ _ _ => F1
    rename News _ _ _ _ => N1
    have h5 : 2 ≤ ts.length := by cases ts with
      | nil => exact absurd rfl h1
      | cons _ r => cases r with
        | nil => simp at hlen; omega
        | cons _ _ => simp
    refine r_spot N1 (.head _) w0 w3 (by omega) ?_
    intro sq
    have hsp := spot_lo (way := way) h5
    rw [hlen]
    generalize hspd : spotN way ts.length = sp at hsp
    have e3 : (0 : Int) ≤ ((sp : Nat) : Int) := by omega
    have e4 : ((sp : Nat) : Int).toNat = sp := by omega
    k_steps
    rename Fr _ _ _ _ => F1
    rename News _ _ _ _ => N1
    rename_i D0 _ l0 _ _ _
    refine r_to F1 N1 (.tail _ hm) e3 (by omega) ?_
    intro D1 h1' F1 N1 l1
    rw [e4] at N1
    k_steps
    refine (ih _ _ D1 _ _ (ts.take sp) ?_ ?_ (by omega)).use B rfl rfl F1 X N1 T' (by omega) (by omega) ⟨.head _, (hR.take _).mono fun p hp => .tail _ (.tail _ hp)⟩ ?_
    · intro q; have q2 := congrArg List.length q; rw [List.length_take, List.length_nil] at q2; omega
    · rw [List.length_take]; omega
    intro r1 h1' tk1 news1 F1 N1 hO1
    obtain ⟨s1, o1⟩ := hO1
    k_steps
    refine r_from F1 N1 (s1 _ (.tail _ (.tail _ hm))) e3 (by omega) ?_
    intro D2 h2' F2 N2 l2
    rw [e4] at N2
    k_steps
    refine (ih _ _ D2 _ _ (ts.drop sp) ?_ ?_ (by omega)).use B rfl rfl F2 X N2 T' (by omega) (by omega) ⟨.head _, (hR.drop _).mono fun p hp => .tail _ (s1 _ (.tail _ (.tail _ hp)))⟩ ?_
    · intro q; have q2 := congrArg List.length q; rw [List.length_drop, List.length_nil] at q2; omega
    · rw [List.length_drop]; omega
    intro r2 h2' tk2 news2 F2 N2 hO2
    obtain ⟨s2, o2⟩ := hO2
    k_steps
    rename Fr _ _ _ _ => F3
    rename News _ _ _ _ => N3
    have hone : ¬ ts.length = 1 := by omega
    refine ⟨_, _, _, _, rfl, F3, N3, fun p hp => .tail _ (s2 _ (.tail _ (s1 _ (.tail _ (.tail _ hp))))), ?_⟩
    rw [laidN, if_neg hone, hspd]
    exact .bin (.head _) (o1.mono fun p hp => .tail _ (s2 _ (.tail _ hp))) (o2.mono fun p hp => .tail _ hp)
end Mine
end PartC8
section PartB8
open Classical
open PySem PySem.W PyProof.Rows PySem.Calls PySem.Spec PySem.SeqAt
set_option maxRecDepth 100000
set_option maxHeartbeats 400000
namespace Mine
theorem Sp.introC {w : World} {mean : ExcName → Option Value} {mg mb : Str → Option Value} {f : Addr} {vs : List Value} {dp un : Nat} {Pre : Led → Prop} {Out : Led → Led → Value → Prop}
    {name qual : Str} {params : Arguments} {body : List Stmt} {scope : Scope} {dV kV doc pm cdv ct oc : Value} {an od : Option Addr} {osl : Array (Option Value)} {binds : List (Str × Value)}
    (ho : (hd.heap_39 w.params).lookup f = some ⟨oc, od, .func (fnOf name qual params body scope dV kV doc pm an cdv ct), osl⟩) (hcd : codeIn (hd.heap_39 w.params) cdv qual = true)
    (hbind : ∀ s, BindsTo s (fnOf name qual params body scope dV kV doc pm an cdv ct) ⟨vs, []⟩ binds) (hkind : (binds.all fun y => scope.names.lookup y.1 == some .local || scope.names.lookup y.1 == some .cell) = true)
    (hnd : ((cellsFrom 0 scope.names []).map (·.1)).Nodup)
    (hco : scope.isCoroutine = false) (hgen : scope.isGenerator = false) (hk : scope.kind = .function)
    (h : ∀ (da ua : Nat) (gd : Option (List Code)) (A₀ : Around) (outer : List Env) (base g : Heap) (L : Addr) (news cells : Led) (s : Shared),
      Below A₀ base outer g → (hd.heap_39 w.params).In g → Tp mean mg mb g → Fr g L s.heap (bindL (envOfC qual scope L f cdv).kindOf binds fun _ => none) → News g L s.heap (cells ++ news) →
      CellsAre (bindC (envOfC qual scope L f cdv).kindOf binds fun _ => none) (cellsFrom (L + 1) scope.names []) cells → (∀ p ∈ news, p.1 < L) →
      da + dp < recursionLimit → ua + un < cLine → Pre news →
      wpAny (model PySem.Challenge.rw_or0014_01.row.prog w) (Ar da ua gd (envOfC qual scope L f cdv) outer) (execs body (envOfC qual scope L f cdv)) (Ret g L s (Out news)) (fun _ _ => False) s) :
    Sp w mean mg mb f vs (dp + 1) (un + 3) Pre Out := by
  intro A A₀ env outer base h₀ L m news s Q E B hA hf hke hh F X N T hd hu hP hret
  obtain ⟨hn, da, fr, gd, ua⟩ := A
  dsimp only at hA hh hd hu
  subst hA hh
  refine wpAny_call ?_
  refine code_defC B F X N T rfl hf hke ho hcd (by show da < _; omega) (hbind s) hkind hnd ?_ hco hgen hk
  intro g L' h₁ tk cells FG F' N' Y B' X' T' hl
  refine wpAny_mono (h (da + 1) (ua + 3) gd _ (env :: outer) base g L' news cells { s with heap := h₁, toks := tk } B' X' T' F' N' Y hl (by omega) (by omega) hP) ?_ (fun _ _ x => x.elim)
  rintro fl s' ⟨h', tk', m', news', rfl, F'', N'', ho'⟩
  exact ⟨L', m', news', F'', N'', fun Fe Ne => hret _ _ _ _ Fe Ne ho'⟩
section
variable {prog : Program} {w : World} {A : Around} {h₀ : Heap} {L : Addr} {m : Str → Option Value} {env : Env} {elt : Expr} {x : Str} {scope : Scope} {cl : List (Str × Addr)} {s : Shared} {S : Led → Prop} {P : Nat → Value → Prop} {Fin : List Value → Led → Prop} {news : Led}
theorem comp_inv {n : Nat} (J : Nat → List Value → Led → Prop)
    (turn : ∀ i ys nx v I oI C oC D m₂ h tk (E' : Value → Shared → Prop), i < n → J i ys nx → P i v → LCg.NsObj oC m₂ → m₂ x = some v → Fr h₀ L h m → News h₀ L h ((I, oI) :: (C, oC) :: (D, LCg.lst ys) :: nx) → LCg.Off3 I C D nx → ((@Ne Nat I C) ∧ (@Ne Nat I D) ∧ (@Ne Nat C D)) →
      wpAny (model prog w) A (eval elt (compEnvC scope cl C env)) (LCg.CompEnd h₀ L m { s with heap := h, toks := tk } I oI C oC D (LCg.lst ys) S (fun y news' => J (i + 1) (ys ++ [y]) news')) E' { s with heap := h, toks := tk })
    (fin : ∀ ys nx, J n ys nx → Fin ys nx) (h0 : J 0 [] news) : LCg.CompRest prog w A h₀ L m env elt x scope cl s S P Fin n 0 [] news := by
  have key : ∀ (j i : Nat) (ys : List Value) (nx : Led), i + j = n → J i ys nx → LCg.CompRest prog w A h₀ L m env elt x scope cl s S P Fin j i ys nx := by
    intro j
    induction j with
    | zero => intro i ys nx hi hj; exact LCg.CompRest.zero (fin ys nx ((show i = n by omega) ▸ hj))
    | succ j ih =>
      intro i ys nx hi hj
      refine LCg.CompRest.succ ?_
      intro v I oI C oC D m₂ h tk E' hv hC hx F N off ne
      refine wpAny_mono (turn i ys nx v I oI C oC D m₂ h tk E' (by omega) hj hv hC hx F N off ne) (fun y s₂ hq => ?_) fun _ _ e => e
      obtain ⟨h', tk', nw, e, F', N', off', hS, hj'⟩ := hq
      exact ⟨h', tk', nw, e, F', N', off', hS, ih (i + 1) _ nw (by omega) hj'⟩
  exact key n 0 [] news (by omega) h0
/-- a turn's end: what the call laid, less the block's own -/
theorem comp_end {J : Value → Led → Prop} {I C D : Addr} {oI oC oD : Obj} {y : Value} {h' : Heap} {tk : Nat} {nw : Led} (F : Fr h₀ L h' m) (N : News h₀ L h' nw) (hI : (I, oI) ∈ nw) (hC : (C, oC) ∈ nw) (hD : (D, oD) ∈ nw)
    (hS : S (away [(I, oI), (C, oC), (D, oD)] nw)) (hj : J y (away [(I, oI), (C, oC), (D, oD)] nw)) : LCg.CompEnd h₀ L m s I oI C oC D oD S J y { s with heap := h', toks := tk } := by
  refine LCg.CompEnd.intro F N (away [(I, oI), (C, oC), (D, oD)] nw) ?_ (LCg.Off3.of fun p hp => ?_) hS hj
  · intro p hp
    rcases List.mem_cons.mp hp with rfl | hp
    · exact hI
    · rcases List.mem_cons.mp hp with rfl | hp
      · exact hC
      · rcases List.mem_cons.mp hp with rfl | hp
        · exact hD
        · exact away_sub hp
  · have q := away_ne hp
    exact ⟨(q _ (.head _)).symm, (q _ (.tail _ (.head _))).symm, (q _ (.tail _ (.tail _ (.head _)))).symm⟩
end
end Mine
end PartB8
section PartC9
open Classical
open PySem PySem.W PyProof.Rows PySem.Calls PySem.Spec PySem.SeqAt
set_option maxRecDepth 100000
set_option maxHeartbeats 8000000
namespace Mine
variable {w : World} {mean : ExcName → Option Value} {mg mb : Str → Option Value}
theorem prime_c9 (w : World) : hd.heap_39 w.params = hd.heap_39 w.params ∧ PySem.Challenge.rw_or0014_01 = PySem.Challenge.rw_or0014_01 := by k_fill; exact ⟨rfl, rfl⟩
local macro_rules | `(tactic| k_steps) => `(tactic| repeat' ((fail_if_success (with_reducible show wpAny _ _ (PySem.call (Value.ref _) _) _ _ _)); (fail_if_success (with_reducible show wpAny _ _ (PySem.exec (Stmt.For _ _ _ _ _) _) _ _ _)); (fail_if_success (with_reducible show wpAny _ _ (PySem.exec (Stmt.While _ _ _ _) _) _ _ _)); (fail_if_success (with_reducible show wpAny _ _ (PySem.pyIter (Value.ref _)) _ _ _)); (fail_if_success (with_reducible show wpAny _ _ (PySem.subscriptTail _ _ (Value.ref _) _) _ _ _)); (fail_if_success (with_reducible show wpAny _ _ (PySem.call (Value.builtin _) (Value.ref _ :: _)) _ _ _)); (fail_if_success (with_reducible show wpAny _ _ (PySem.call (Value.builtin _) ([Value.ref _] ++ _)) _ _ _)); (fail_if_success (with_reducible show wpAny _ _ (PySem.compareOp _ (Value.ref _) (Value.ref _)) _ _ _)); (fail_if_success (with_reducible show wpAny _ _ (PySem.binaryOp _ (Value.ref _) (Value.ref _)) _ _ _)); (fail_if_success (with_reducible show wpAny _ _ (PySem.getMethod (Value.ref _) _ _) _ _ _)); (fail_if_success (with_reducible show wpAny _ _ (subscriptTail _ _ (Value.ref _) _) _ _ _)); (fail_if_success (with_reducible show wpAny _ _ (PySem.exec (Stmt.Assign _ (Expr.ListComp _ _ _ _) _) _) _ _ _)); (fail_if_success (with_reducible show wpAny _ _ (PySem.eval (Expr.Name (Str.ofString "cells") _) _) _ _ _)); first | (k_unfold; (try dsimp only)) | (k_end; wrow_close) | walk1 | (dsimp only; walk1) | (leave1; walk_say "STEP leave1"; try dsimp only) | fail "no step"))
def SideOut (l' : Led) (r : Value) : Prop := ∃ (o : Bool) (way : Int) (ts : List T), 0 ≤ way ∧ way < 3 ∧ 1 ≤ ts.length ∧ ts.length ≤ 5 ∧ (∀ t ∈ ts, isPart t) ∧ SideI l' r ⟨o, laidN o way 5 ts, ts⟩
theorem r_cell {M : Model} {A : Around} {E : Value → Shared → Prop} {s : Shared} {h₀ : Heap} {L c : Addr} {news : Led} {o : Obj} {v : Value} {env : Env} {x : Str} {pos : Pos} {Q : Value → Shared → Prop} (N : News h₀ L s.heap news) (hm : (c, o) ∈ news) (hd : o.data = .cell (some v)) (h : Q v s)
    (hc : env.cells.lookup x = some c := by rfl) (hk : env.scope.kind = .function := by rfl) (hl : env.kindOf x = some .cell := by rfl) (hb : (x == ("__debug__" : Str)) = false := by decide) :
    wpAny M A (eval (.Name x pos) env) Q E s := wpAny_Name (wpAny_loadName_cell hk hl hc ⟨o, N.get hm, hd⟩ h) hb
def MidR (g : Heap) (L : Addr) (m : Str → Option Value) (c : Addr) (len : Nat) (n0 : Led) (s : Shared) (xv : Value) (s' : Shared) : Prop :=
  ∃ h tk nx r k t u v, xv = .ref r ∧ s' = { s with heap := h, toks := tk } ∧ Fr g L h m ∧ News g L h nx ∧ IsRange h r 0 ((k : Nat) : Int) 1 t u v ∧ 1 ≤ k ∧ k ≤ 5 ∧ Cut c len n0 nx
theorem side_sp {c : Addr} {vs : List Value} {n : Nat} {ns : List Int} (hlen : vs.length ≤ 1000) :
    Sp w mean mg mb 100 [.ref c] 40 200 (fun l => (c, lstOf vs n) ∈ l ∧ IntsAre vs ns) (fun l l' r => SideOut l' r ∧ Cut c vs.length l l') := by
  refine' Sp.le (Sp.introC (dp := 39) (un := 197) (binds := [("cells", .ref c)]) ?ho ?hcd ?hb ?hl ?hnd ?c1 ?c2 ?c3 ?_) (by omega) (by omega)
  case ho => k_is
  case hcd => k_is
  case hb => exact fun s => BindsTo.of_eq rfl
  case hl => rfl
  case hnd => decide +kernel
  case c1 => rfl
  case c2 => rfl
  case c3 => rfl
  intro da ua gd A₀ outer base g L news cells s B X T' F N Y hL hd hu hR
  obtain ⟨hm, hI⟩ := hR
  obtain ⟨oc, rfl, hoc⟩ := CellsAre.one Y
  replace N : News g L s.heap ((L + 1, oc) :: news) := N
  clear Y
  replace hoc : oc.data = .cell (some (.ref c)) := hoc
  replace F : Fr g L s.heap (fun _ => none) := F
  k_steps
  rename Fr _ _ _ _ => F1
  rename News _ _ _ _ => N1
  rename (L + 1 < _ ∧ AllLt _ news) => l1
  rename_i D1 _
  refine r_cell N1 (.tail _ (.head _)) hoc ?_
  k_steps
  have hcL : c < L := hL _ hm
  have hcD : D1 ≠ c := Nat.ne_of_gt (ktn_ltOf l1.2 _ hm)
  have hcC : L + 1 ≠ c := Nat.ne_of_gt (Nat.lt_succ_of_lt hcL)
  refine (cell_sp (by decide) hlen).use B rfl rfl F1 X N1 T' (by omega) (by omega) ⟨.tail _ (.tail _ hm), hI⟩ ?_
  intro r1 h1 tk1 n1 F1 N1 hO1
  obtain ⟨⟨x1, t1, rfl, x10, x12⟩, ⟨vs1, k1, ns1, hm1, hI1, hl1⟩, c1⟩ := hO1
  have hcell1 : (L + 1, oc) ∈ n1 := c1 _ (.tail _ (.head _)) hcC
  k_steps
  refine r_pick2 N1 (c1 _ (.head _) hcD) x10 x12 ?_
  intro o q
  k_steps
  refine r_cell N1 hcell1 hoc ?_
  k_steps
  refine (cell_sp (by decide) (by omega)).use B rfl rfl F1 X N1 T' (by omega) (by omega) ⟨hm1, hI1⟩ ?_
  intro r2 h2 tk2 n2 F2 N2 hO2
  obtain ⟨⟨way, t2, rfl, w0, w3⟩, ⟨vs2, k2, ns2, hm2, hI2, hl2⟩, c2⟩ := hO2
  have hcell2 : (L + 1, oc) ∈ n2 := c2 _ hcell1 hcC
  have hc2 : ∀ p ∈ news, p.1 ≠ c → p ∈ n2 := fun p hp hn => c2 _ (c1 _ (.tail _ (.tail _ hp)) hn) hn
  clear F1 N1
  k_steps
  rename Fr _ _ _ _ => F3
  rename News _ _ _ _ => N3
  k_dflt (refine LCg.Assign_ListComp_U (F₀ := by k_asm) (by rfl) (by with_unfolding_all rfl) (by with_unfolding_all rfl) (by decide) (by rfl) (by decide) (by rfl) (by rfl) (by rfl) ?_)
  refine (wpAny_mono (Q := MidR g L (fun y => if y = Str.ofString "word" then some (Value.str (wordS o) q) else if y = Str.ofString "way" then some (Value.int way t2) else none) c vs.length n2 s) ?_ ?_ (fun _ _ x => x))
  · k_steps
    refine r_cell N3 (.tail _ hcell2) hoc ?_
    k_steps
    refine (cell_sp (by decide) (by omega)).use B rfl rfl F3 X N3 T' (by omega) (by omega) ⟨.tail _ hm2, hI2⟩ ?_
    intro r4 h4 tk4 n4 F4 N4 hO4
    obtain ⟨⟨x4, t4, rfl, x40, x45⟩, ⟨vs4, k4, ns4, hm4, hI4, hl4⟩, c4⟩ := hO4
    k_steps
    rename Fr _ _ _ _ => F5
    rename News _ _ _ _ => N5
    rename IsRange _ _ _ _ _ _ _ _ => R5
    have e5 : (1 : Int) + x4 = (((1 + x4).toNat : Nat) : Int) := by omega
    rw [e5] at R5
    exact ⟨_, _, n4, _, (1 + x4).toNat, _, _, _, rfl, rfl, F5, N5, R5, by omega, by omega, ⟨vs4, k4, ns4, hm4, hI4, by omega⟩, fun p hp hn => c4 _ (.tail _ hp) hn⟩
  · rintro xv s' ⟨h4, tk4, n4, r, k, t, u, v, rfl, rfl, F4, N4, R4, k1, k5, ⟨vs4, kk4, ns4, hm4, hI4, hl4⟩, c4⟩
    clear F3 N3
    refine LCg.CompSrc.range rfl F4 N4 R4 (small_one (by omega) (by omega) (by omega) (by omega)) (by rw [rangeSize_nat]) (by rw [sz16]; omega) ?_
    intro g'
    refine comp_inv (fun i ys nx => (∃ ts, TIs nx ys ts ∧ (∀ t ∈ ts, isPart t) ∧ ts.length = i) ∧ Cut c vs.length n2 nx) ?_ ?_ ⟨⟨[], .nil, (fun _ h => nomatch h), rfl⟩, ⟨vs4, kk4, ns4, hm4, hI4, hl4⟩, c4⟩
    · clear F4 N4
      rintro i ys nx v I oI C oC D m2 h5 tk5 E' hi ⟨⟨ts, hts, hpt, htl⟩, ⟨vs5, kk5, ns5, hm5, hI5, hl5⟩, c5⟩ hv hC hx F5 N5 off ne
      have hoff := off.mem
      have hcell5 := c5 _ hcell2 hcC
      k_steps
      refine r_cell N5 (.tail _ (.tail _ (.tail _ hcell5))) hoc ?_
      k_steps
      refine (part_sp (by omega)).use B rfl rfl F5 X N5 T' (by omega) (by omega) ⟨.tail _ (.tail _ (.tail _ hm5)), hI5⟩ ?_
      intro r6 h6 tk6 n6 F6 N6 hO6
      obtain ⟨⟨t6, l6, ht6, hp6, hf6⟩, ⟨vs6, kk6, ns6, hm6, hI6, hl6⟩, c6⟩ := hO6
      have ho5 := hoff _ hm5
      have three : ∀ q ∈ [(I, oI), (C, oC), (D, LCg.lst ys)], q ∈ (I, oI) :: (C, oC) :: (D, LCg.lst ys) :: nx := fun q hq => by
        rcases List.mem_cons.mp hq with rfl | hq
        · exact .head _
        · rcases List.mem_cons.mp hq with rfl | hq
          · exact .tail _ (.head _)
          · rw [List.mem_singleton.mp hq]; exact .tail _ (.tail _ (.head _))
      have sep : ∀ p : Addr × Obj, (p.1 ≠ I ∧ p.1 ≠ C ∧ p.1 ≠ D) → ∀ q ∈ [(I, oI), (C, oC), (D, LCg.lst ys)], q.1 ≠ p.1 := fun p hp q hq => by
        rcases List.mem_cons.mp hq with rfl | hq
        · exact hp.1.symm
        · rcases List.mem_cons.mp hq with rfl | hq
          · exact hp.2.1.symm
          · rw [List.mem_singleton.mp hq]; exact hp.2.2.symm
      have keep : ∀ p ∈ nx, p.1 ≠ c → p ∈ away [(I, oI), (C, oC), (D, LCg.lst ys)] n6 := fun p hp hn => away_mem (c6 _ (.tail _ (.tail _ (.tail _ hp))) hn) (sep p (hoff p hp))
      refine comp_end F6 N6 (c6 _ (.head _) ho5.1.symm) (c6 _ (.tail _ (.head _)) ho5.2.1.symm) (c6 _ (.tail _ (.tail _ (.head _))) ho5.2.2.symm) trivial ⟨⟨ts ++ [t6], ?_, ?_, by rw [List.length_append, htl]; rfl⟩, ⟨vs6, kk6, ns6, away_mem hm6 (sep (c, _) ho5), hI6, by omega⟩, fun p hp hn => keep p (c5 p hp hn) hn⟩
      · refine (hts.chg (fun p hp => N5 p (.tail _ (.tail _ (.tail _ hp)))) hm5 keep).snoc (ht6.mono fun p hp => ?_)
        exact away_mem (hf6 p hp).1 (fun q hq => (hf6 p hp).2 q (three q hq))
      · intro x hx
        rcases List.mem_append.mp hx with hx | hx
        · exact hpt x hx
        · rw [List.mem_singleton.mp hx]; exact hp6
    · clear F4 N4
      rintro ys nx ⟨⟨ts, hts, hpt, htl⟩, ⟨vs5, kk5, ns5, hm5, hI5, hl5⟩, c5⟩ D h6 tk6 F6 N6 o1
      have hne : ts ≠ [] := fun x => by rw [x] at htl; simp at htl; omega
      dsimp only
      k_steps
      refine (laid_sp w0 w3 5 _ _ D ys _ ts hne (by omega) (by omega)).use B rfl rfl F6 X N6 T' (by omega) (by omega) ⟨.head _, hts.mono fun p hp => .tail _ hp⟩ ?_
      intro r7 h7 tk7 n7 F7 N7 hO7
      obtain ⟨s7, o7⟩ := hO7
      k_steps
      rename Fr _ _ _ _ => F8
      rename News _ _ _ _ => N8
      refine ⟨_, _, _, _, rfl, F8, N8, ⟨o, way, ts, w0, w3, by omega, by omega, hpt, ⟨_, _, r7, _, D, _, ys, rfl, .head _, .tail _ (s7 _ (.head _)), o7.mono fun p hp => .tail _ hp, hts.mono fun p hp => .tail _ (s7 _ (.tail _ hp))⟩⟩, ⟨vs5, kk5, ns5, .tail _ (s7 _ (.tail _ hm5)), hI5, hl5⟩, fun p hp hn => .tail _ (s7 _ (.tail _ (c5 _ (hc2 p hp hn) hn)))⟩
end Mine
end PartC9
section PartB9
open Classical
open PySem PySem.W PyProof.Rows PySem.Calls PySem.Spec PySem.SeqAt
set_option maxRecDepth 100000
set_option maxHeartbeats 400000
namespace Mine
theorem part_ops (k : Bool) {p : T} (h : isPart p) : ops k p = [p] := by
  cases p with
  | leaf i => rfl
  | all => rfl
  | neg t => rfl
  | bin o l r => exact h.elim
theorem part_sz {p : T} (h : isPart p) : p.sz = 1 := by
  cases p with
  | leaf i => rfl
  | all => rfl
  | neg t => rfl
  | bin o l r => exact h.elim
theorem part_dep {p : T} (h : isPart p) : p.dep ≤ 2 := by
  cases p with
  | leaf i => exact Nat.le_succ _
  | all => exact Nat.le_succ _
  | neg t => cases t with
    | leaf i => exact Nat.le_refl _
    | all => exact Nat.le_refl _
    | neg t => exact h.elim
    | bin o l r => exact h.elim
  | bin o l r => exact h.elim
theorem len_two {ts : List T} (h : ¬ ts.length = 1) (h1 : 1 ≤ ts.length) : 2 ≤ ts.length := by omega
theorem laid_facts (k o : Bool) (way : Int) : ∀ (n : Nat) (ts : List T), 1 ≤ ts.length → ts.length ≤ n → (∀ t ∈ ts, isPart t) →
    (o = k → ops k (laidN o way n ts) = ts) ∧ (laidN o way n ts).sz + 1 ≤ 2 * ts.length ∧ (laidN o way n ts).dep ≤ n + 2
  | 0, ts, h1, h2, _ => by omega
  | n + 1, ts, h1, h2, hp => by
    rw [laidN]
    split
    · rename_i h
      cases ts with
      | nil => simp at h1
      | cons p r =>
        have hpp := hp p (.head _)
        have hr : r = [] := by simpa using h
        subst hr
        refine ⟨fun _ => part_ops k hpp, ?_, ?_⟩
        · show p.sz + 1 ≤ 2 * 1
          rw [part_sz hpp]
          omega
        · have := part_dep hpp
          show p.dep ≤ n + 1 + 2
          omega
    · rename_i h
      have hs := spot_lo (way := way) (len_two h h1)
      generalize spotN way ts.length = sp at hs
      have lt : (ts.take sp).length = sp := by rw [List.length_take]; omega
      have ld : (ts.drop sp).length = ts.length - sp := List.length_drop
      have a := laid_facts k o way n (ts.take sp) (by omega) (by omega) (fun t ht => hp t (List.mem_of_mem_take ht))
      have b := laid_facts k o way n (ts.drop sp) (by omega) (by omega) (fun t ht => hp t (List.mem_of_mem_drop ht))
      refine ⟨fun e => ?_, ?_, ?_⟩
      · rw [ops, if_pos e, a.1 e, b.1 e, List.take_append_drop]
      · show (laidN o way n (ts.take sp)).sz + (laidN o way n (ts.drop sp)).sz + 1 + 1 ≤ 2 * ts.length
        have a2 := a.2.1
        have b2 := b.2.1
        omega
      · show max (laidN o way n (ts.take sp)).dep (laidN o way n (ts.drop sp)).dep + 1 ≤ n + 1 + 2
        have a2 := a.2.2
        have b2 := b.2.2
        omega
theorem laid_due (k o : Bool) (way : Int) (ts : List T) (h1 : 1 ≤ ts.length) (h5 : ts.length ≤ 5) (hp : ∀ t ∈ ts, isPart t) : ops k (laidN o way 5 ts) = duep k ⟨o, laidN o way 5 ts, ts⟩ := by
  rw [duep]
  split
  · rename_i h
    rcases h with h | h
    · exact (laid_facts k o way 5 ts h1 h5 hp).1 h
    · cases ts with
      | nil => simp at h1
      | cons p r =>
        have hr : r = [] := by simpa using h
        subst hr
        have e1 : laidN o way 5 [p] = p := by rw [laidN, if_pos (show [p].length = 1 from rfl)]; rfl
        rw [e1]
        exact part_ops k (hp p (.head _))
  · rename_i h
    have hok : o ≠ k := fun e => h (.inl e)
    have hl : ¬ ts.length = 1 := fun e => h (.inr e)
    show ops k (laidN o way 5 ts) = [laidN o way 5 ts]
    rw [laidN, if_neg hl, ops, if_neg hok]
/-- a side that the law builds -/
structure Good (d : Sd) : Prop where
  laid : ∃ way, d.t = laidN d.o way 5 d.ps
  lo : 1 ≤ d.ps.length
  hi : d.ps.length ≤ 5
  parts : ∀ t ∈ d.ps, isPart t
theorem Good.ops {d : Sd} (g : Good d) (k : Bool) : ops k d.t = duep k d := by
  obtain ⟨o, t, ps⟩ := d
  obtain ⟨way, e⟩ := g.laid
  dsimp only at e
  subst e
  exact laid_due k o way ps g.lo g.hi g.parts
theorem Good.sz {d : Sd} (g : Good d) : d.t.sz ≤ 40 := by
  obtain ⟨way, e⟩ := g.laid
  have h1 := (laid_facts true d.o way 5 d.ps g.lo g.hi g.parts).2.1
  have h2 := g.hi
  rw [e]
  omega
theorem Good.dep {d : Sd} (g : Good d) : d.t.dep ≤ 60 := by
  obtain ⟨way, e⟩ := g.laid
  have h1 := (laid_facts true d.o way 5 d.ps g.lo g.hi g.parts).2.2
  rw [e]
  omega
theorem Good.pdep {d : Sd} (g : Good d) : ∀ p ∈ d.ps, p.dep ≤ 60 := fun p hp => Nat.le_trans (part_dep (g.parts p hp)) (by decide)
theorem Good.dlen {d : Sd} (g : Good d) (k : Bool) : (duep k d).length ≤ 5 := by
  rw [duep]
  split
  · exact g.hi
  · simp
theorem Good.ddep {d : Sd} (g : Good d) (k : Bool) : ∀ p ∈ duep k d, p.dep ≤ 60 := by
  intro p hp
  rw [duep] at hp
  split at hp
  · exact g.pdep p hp
  · rw [List.mem_singleton.mp hp]; exact g.dep
/-- THE PLAIN LAW -/
theorem plain_law {d e : Sd} (g : Good d) (h : Good e) (k : Bool) : joinT k d.t e.t = finT k ([d, e].flatMap (duep k)) := by
  rw [joinT, g.ops, h.ops]
  simp [List.flatMap]
theorem scan_sub {R W : T} : ∀ (ps fs gs : List T), scan R W fs ps = some gs → ∀ t ∈ gs, t ∈ fs ∨ t ∈ ps
  | [], fs, gs, h, t, ht => by rw [scan] at h; cases h; exact .inl ht
  | p :: ps, fs, gs, h, t, ht => by
    rw [scan] at h
    split at h
    · cases h
    · rcases scan_sub ps _ gs h t ht with q | q
      · split at q
        · rcases List.mem_append.mp q with q | q
          · exact .inl q
          · rw [List.mem_singleton.mp q]; exact .inr (.head _)
        · exact .inl q
      · exact .inr (.tail _ q)
theorem halves_dep (b : Nat) : ∀ (n : Nat) (ts : List T), (∀ t ∈ ts, t.dep ≤ b) → 1 ≤ b → (halvesN n ts).dep ≤ b + n
  | 0, ts, _, hb => by show 1 ≤ b + 0; omega
  | n + 1, ts, h, hb => by
    rw [halvesN]
    split
    · cases ts with
      | nil => show 1 ≤ _; omega
      | cons p r => have := h p (.head _); show p.dep ≤ _; omega
    · have a := halves_dep b n (ts.take (ts.length / 2)) (fun t ht => h t (List.mem_of_mem_take ht)) hb
      have c := halves_dep b n (ts.drop (ts.length / 2)) (fun t ht => h t (List.mem_of_mem_drop ht)) hb
      show max _ _ + 1 ≤ _
      omega
theorem fold_dep (b : Nat) : ∀ (ts : List T) (x : T) (n : Nat), (∀ t ∈ ts, t.dep ≤ b) → x.dep ≤ b + n → (ts.foldl (fun a p => T.bin false a p) x).dep ≤ b + n + ts.length
  | [], x, n, _, hx => by simpa using hx
  | p :: r, x, n, h, hx => by
    have := fold_dep b r (.bin false x p) (n + 1) (fun t ht => h t (.tail _ ht)) (by
      have hp := h p (.head _)
      show max x.dep p.dep + 1 ≤ _
      omega)
    rw [List.foldl_cons, List.length_cons]
    omega
theorem fin_dep {k : Bool} {ps : List T} (h : ∀ t ∈ ps, t.dep ≤ 60) (hl : ps.length ≤ 80) : (finT k ps).dep ≤ 160 := by
  have rd : ∀ o, (restT o).dep ≤ 2 := by decide
  rw [finT]
  split
  · have := rd (!k); omega
  · rename_i fs hfs
    have hd : ∀ t ∈ fs, t.dep ≤ 60 := fun t ht => by
      rcases scan_sub _ _ _ hfs t ht with q | q
      · cases q
      · exact h t q
    have hn := scan_len _ _ _ hfs
    split
    · have := rd k; omega
    · split
      · exact halves_dep 60 100 fs hd (by decide)
      · cases fs with
        | nil => show 1 ≤ 160; decide
        | cons x r =>
          have h1 := fold_dep 60 r x 0 (fun t ht => hd t (.tail _ ht)) (hd x (.head _))
          simp at hn
          show (r.foldl (fun a p => T.bin false a p) x).dep ≤ 160
          omega
theorem SideI.chg {h₀ h : Heap} {L : Addr} {news news' : Led} {c : Addr} {vs : List Value} {n : Nat} {ns : List Int} (N : News h₀ L h news) (hc : (c, lstOf vs n) ∈ news) (hI : IntsAre vs ns) (k : ∀ p ∈ news, p.1 ≠ c → p ∈ news') {v : Value} {d : Sd} (g : 1 ≤ d.ps.length)
    (x : SideI news v d) : SideI news' v d := by
  obtain ⟨a, n1, tv, kk, p, m, pvs, e, h1, h2, h3, h4⟩ := x
  refine ⟨a, n1, tv, kk, p, m, pvs, e, k _ h1 ?_, k _ h2 ?_, h3.chg N hc k, h4.chg N hc k⟩
  · rintro rfl
    have q := led_fn N h1 hc
    simp at q
  · rintro rfl
    have q := led_fn N h2 hc
    injection q with _ _ q _
    injection q with q _
    have q2 : pvs = vs := by simpa using q
    subst q2
    generalize d.ps = ps at h4 g
    cases h4 with
    | nil => simp at g
    | cons ht _ =>
      obtain ⟨b, rfl⟩ := ht.ref
      cases hI
theorem led_pack2 {h₀ h : Heap} {L : Addr} {p q : Addr × Obj} {n2 : Led} (N : News h₀ L h (p :: q :: n2)) : ∃ nb, News h₀ L h nb ∧ p ∈ nb ∧ Sub n2 nb := ⟨_, N, .head _, fun _ h => .tail _ (.tail _ h)⟩
theorem led_pack5 {h₀ h : Heap} {L : Addr} {p q r t u : Addr × Obj} {n2 : Led} (N : News h₀ L h (p :: q :: r :: t :: u :: n2)) : ∃ nb, News h₀ L h nb ∧ p ∈ nb ∧ q ∈ nb ∧ r ∈ nb ∧ t ∈ nb ∧ u ∈ nb ∧ Sub n2 nb :=
  ⟨_, N, .head _, .tail _ (.head _), .tail _ (.tail _ (.head _)), .tail _ (.tail _ (.tail _ (.head _))), .tail _ (.tail _ (.tail _ (.tail _ (.head _)))), fun _ h => .tail _ (.tail _ (.tail _ (.tail _ (.tail _ h))))⟩
def PairI (nc : Led) (v : Value) : Prop := ∃ a x y d e n, v = .ref a ∧ (a, tupOf [x, y] n) ∈ nc ∧ SideI nc x d ∧ SideI nc y e ∧ Good d ∧ Good e
end Mine
end PartB9
section PartL1
open Classical
open PySem PySem.W PyProof.Rows PySem.Calls PySem.Spec PySem.SeqAt Mine
set_option maxRecDepth 100000
set_option maxHeartbeats 8000000
local macro_rules | `(tactic| k_steps) => `(tactic| repeat' ((fail_if_success (with_reducible show wpAny _ _ (PySem.call (Value.ref _) _) _ _ _)); (fail_if_success (with_reducible show wpAny _ _ (PySem.exec (Stmt.For _ _ _ _ _) _) _ _ _)); first | (k_unfold; (try dsimp only)) | (k_end; wrow_close) | walk1 | (dsimp only; walk1) | (leave1; walk_say "STEP leave1"; try dsimp only) | fail "no step"))
local macro_rules | `(tactic| ktn_step) => `(tactic| repeat' ((fail_if_success (with_reducible show wpAny _ _ (PySem.call (Value.ref _) _) _ _ _)); (fail_if_success (with_reducible show wpAny _ _ (PySem.exec (Stmt.For _ _ _ _ _) _) _ _ _)); (fail_if_success (with_reducible show wpAny _ _ (PySem.exec (Stmt.While _ _ _ _) _) _ _ _)); (fail_if_success (with_reducible show wpAny _ _ (PySem.pyIter (Value.ref _)) _ _ _)); (fail_if_success (with_reducible show wpAny _ _ (PySem.subscriptTail _ _ (Value.ref _) _) _ _ _)); (fail_if_success (with_reducible show wpAny _ _ (PySem.call (Value.builtin _) (Value.ref _ :: _)) _ _ _)); (fail_if_success (with_reducible show wpAny _ _ (PySem.call (Value.builtin _) ([Value.ref _] ++ _)) _ _ _)); (fail_if_success (with_reducible show wpAny _ _ (PySem.compareOp _ (Value.ref _) (Value.ref _)) _ _ _)); (fail_if_success (with_reducible show wpAny _ _ (PySem.binaryOp _ (Value.ref _) (Value.ref _)) _ _ _)); (fail_if_success (with_reducible show wpAny _ _ (PySem.getMethod (Value.ref _) _ _) _ _ _)); (fail_if_success (with_reducible show wpAny _ _ (subscriptTail _ _ (Value.ref _) _) _ _ _)); first | (k_unfold; (try dsimp only)) | (k_end; wrow_close) | walk1 | (dsimp only; walk1) | (leave1; walk_say "STEP leave1"; try dsimp only) | fail "no step"))
theorem PySem.Challenge.cw_or0014_01_holds : PySem.Challenge.rw_or0014_01.Holds := by
  refine Mine.hd ?_
  k_go0
  k_steps
  rename Fr _ _ _ _ => F1
  rename News _ _ _ _ => N1
  rename Below callerA _ _ _ => B
  rename Frag.In _ _ => X
  rename Top _ _ _ _ _ _ => T'
  rename IntsAre _ (List.map _ (List.take 60 _)) => hIy
  have hly := hIy.length
  rw [List.length_map, List.length_take] at hly
  refine (side_sp (by omega)).use B rfl rfl F1 X N1 T' (by decide) (by decide) ⟨.head _, hIy⟩ ?_
  intro r1 h1 tk1 n1 F1 N1 hO1
  obtain ⟨⟨o1, w1, ts1, w10, w13, l10, l15, p1, S1⟩, ⟨vs1, k1, ns1, hm1, hI1, hl1⟩, c1⟩ := hO1
  ktn_step
  refine (side_sp (by omega)).use B rfl rfl F1 X N1 T' (by decide) (by decide) ⟨hm1, hI1⟩ ?_
  intro r2 h2 tk2 n2 F2 N2 hO2
  obtain ⟨⟨o2, w2, ts2, w20, w23, l20, l25, p2, S2⟩, ⟨vs2, k2, ns2, hm2, hI2, hl2⟩, c2⟩ := hO2
  replace S1 := S1.chg N1 hm1 hI1 c2 l10
  have g1 : Good ⟨o1, laidN o1 w1 5 ts1, ts1⟩ := ⟨⟨w1, rfl⟩, l10, l15, p1⟩
  have g2 : Good ⟨o2, laidN o2 w2 5 ts2, ts2⟩ := ⟨⟨w2, rfl⟩, l20, l25, p2⟩
  generalize (⟨o1, laidN o1 w1 5 ts1, ts1⟩ : Sd) = d1 at S1 g1
  generalize (⟨o2, laidN o2 w2 5 ts2, ts2⟩ : Sd) = d2 at S2 g2
  clear F1 N1 c1 c2 hm1 hI1 hm2 hI2
  ktn_step
  rename Fr _ _ _ _ => F3
  rename News _ _ _ _ => N3
  refine For_turns F3 ?_
  ktn_step
  rename Fr _ _ _ _ => F4
  rename News _ _ _ _ => N4
  obtain ⟨nb, N5, hw5, s5⟩ := led_pack2 N4
  clear N4
  refine iter_tupTurns rfl F4 N5 hw5 rfl rfl (fun I1 hI1 => ?_)
  refine items_of (fun rem m' nx => Sub nb nx ∧ (∀ p ∈ [(Str.ofString "one", r1), (Str.ofString "other", r2)], m' p.1 = some p.2) ∧ ∀ v ∈ rem, ∃ o q, v = Value.str (wordS o) q) ?_ ?_ _ _ _ ⟨fun _ h => h, ?_, ?_⟩
  case refine_3 =>
    intro p hp
    simp only [List.mem_cons, List.not_mem_nil, or_false] at hp
    rcases hp with rfl | rfl <;> rfl
  case refine_4 =>
    intro v hv
    simp only [List.mem_cons, List.not_mem_nil, or_false] at hv
    rcases hv with rfl | rfl
    · exact ⟨false, _, rfl⟩
    · exact ⟨true, _, rfl⟩
  · clear F4 N5
    rintro m9 nx h9 tk9 ⟨sb, kn, _⟩ F9 N9
    dsimp only
    k_steps
  · clear F4 N5
    rintro v r m9 nx h9 tk9 its ⟨sb, kn, hw⟩ hits F9 N9
    obtain ⟨o, q, rfl⟩ := hw _ (.head _)
    obtain ⟨oI, hoc, rfl⟩ := objs_one hits
    have N10 : News _ _ h9 ((I1, oI) :: nx) := N9
    have F10 := fr_knows _ F9 kn
    simp only [know] at F10
    clear F9 N9
    ktn_step
    rename Fr _ _ _ _ => F11
    rename News _ _ _ _ => N11
    refine For_turns F11 ?_
    ktn_step
    rename Fr _ _ _ _ => F12
    rename News _ _ _ _ => N12
    obtain ⟨nc, N13, hD, hC, hB, hA, hI, s13⟩ := led_pack5 N12
    clear N12
    have hS1 : Sub n2 nc := fun p hp => s13 _ (sb _ (s5 _ hp))
    have S1c := S1.mono hS1
    have S2c := S2.mono hS1
    refine iter_tupTurns rfl F12 N13 hD rfl rfl (fun I2 hI2 => ?_)
    refine items_of (fun rem m' nx' => Sub nc nx' ∧ (∀ p ∈ [(Str.ofString "one", r1), (Str.ofString "other", r2), (Str.ofString "word", Value.str (wordS o) q)], m' p.1 = some p.2) ∧ ∀ v ∈ rem, PairI nc v) ?_ ?_ _ _ _ ⟨fun _ h => h, ?_, ?_⟩
    case refine_3 =>
      intro p hp
      simp only [List.mem_cons, List.not_mem_nil, or_false] at hp
      rcases hp with rfl | rfl | rfl <;> rfl
    case refine_4 =>
      intro v hv
      simp only [List.mem_cons, List.not_mem_nil, or_false] at hv
      rcases hv with rfl | rfl | rfl
      · exact ⟨_, _, _, _, _, _, rfl, hA, S1c, S2c, g1, g2⟩
      · exact ⟨_, _, _, _, _, _, rfl, hB, S2c, S1c, g2, g1⟩
      · exact ⟨_, _, _, _, _, _, rfl, hC, S1c, S1c, g1, g1⟩
    · clear F12 N13
      rintro m9 nx9 h9 tk9 ⟨sb9, kn9, _⟩ F9 N9
      dsimp only
      ktn_step
      have c9 : ∀ p ∈ nb, p ∈ away [(I1, oI)] nx9 := fun p hp => away_mem (sb9 _ (s13 _ (sb _ hp))) (fun x hx => by rw [List.mem_singleton.mp hx]; exact Nat.ne_of_gt (hI1 p hp))
      refine unr_end F9 N9 (fun p hp => by rw [List.mem_singleton.mp hp]; exact sb9 _ hI) ⟨⟨c9 _ hw5, trivial⟩, c9, fun p hp => kn9 p ?_, fun v hv => hw v (.tail _ hv)⟩
      simp only [List.mem_cons, List.not_mem_nil, or_false] at hp ⊢
      rcases hp with rfl | rfl
      · exact .inl rfl
      · exact .inr (.inl rfl)
    · clear F12 N13
      rintro v r m9 nx9 h9 tk9 its ⟨sb9, kn9, hp9⟩ hits F9 N9
      obtain ⟨a, x, y, d, e, n, rfl, ha, Sx, Sy, gd, ge⟩ := hp9 _ (.head _)
      obtain ⟨oI2, hoc2, rfl⟩ := objs_one hits
      have N10 : News _ _ h9 ((I2, oI2) :: nx9) := N9
      have F10 := fr_knows _ F9 kn9
      simp only [know] at F10
      clear F9 N9
      have ha9 := sb9 _ ha
      have up : Sub nc ((I2, oI2) :: nx9) := fun p hp => .tail _ (sb9 _ hp)
      have Sx' := Sx
      have Sy' := Sy
      obtain ⟨ax, nax, tv1, kk1, pa1, mm1, pvs1, rfl, ex1, ex2, ex3, ex4⟩ := Sx'
      obtain ⟨ay, nay, tv2, kk2, pa2, mm2, pvs2, rfl, ey1, ey2, ey3, ey4⟩ := Sy'
      ktn_step
      rename Fr _ _ _ _ => F14
      rename News _ _ _ _ => N14
      refine r_itemT (j := 0) N14 (.tail _ ha9) (by decide) (by decide) (by simp [seqIndex?]) rfl ?_
      ktn_step
      refine r_itemT (j := 0) N14 (up _ ex1) (by decide) (by decide) (by simp [seqIndex?]) rfl ?_
      ktn_step
      refine r_itemT (j := 1) N14 (.tail _ ha9) (by decide) (by decide) (by simp [seqIndex?]) rfl ?_
      ktn_step
      refine r_itemT (j := 0) N14 (up _ ey1) (by decide) (by decide) (by simp [seqIndex?]) rfl ?_
      ktn_step
      refine (join_sp gd.sz ge.sz gd.dep ge.dep).use B rfl rfl F14 X N14 T' (by decide) (by decide) ⟨ex3.mono up, ey3.mono up⟩ ?_
      intro r15 h15 tk15 n15 F15 N15 hO15
      obtain ⟨s15, o15⟩ := hO15
      ktn_step
      have hdl := gd.dlen o
      have hel := ge.dlen o
      have htl : ([d, e].flatMap (duep o)).length ≤ 80 := by
        rw [show [d, e].flatMap (duep o) = duep o d ++ duep o e by simp [List.flatMap], List.length_append]
        omega
      have hdd : ∀ x ∈ [d, e], x.t.dep ≤ 60 ∧ x.ps.length ≤ 40 ∧ ∀ p ∈ x.ps, p.dep ≤ 60 := fun x hx => by
        have gx : Good x := by
          rcases List.mem_cons.mp hx with rfl | hx
          · exact gd
          · rw [List.mem_singleton.mp hx]; exact ge
        exact ⟨gx.dep, Nat.le_trans gx.hi (by decide), gx.pdep⟩
      refine (due_sp (k := o) (sd := a) (ds := [d, e]) rfl htl hdd).use B rfl rfl F15 X N15 T' (by decide) (by decide) ⟨s15 _ (.tail _ ha9), .cons ((Sx.mono up).mono s15) (.cons ((Sy.mono up).mono s15) .nil)⟩ ?_
      intro r16 h16 tk16 n16 F16 N16 hO16
      obtain ⟨s16, o16⟩ := hO16
      obtain ⟨ra, rfl⟩ := o15.ref
      obtain ⟨rb, rfl⟩ := o16.ref
      have hpl := plain_law gd ge o
      have hdep : (joinT o d.t e.t).dep ≤ 160 := by
        rw [hpl]
        refine fin_dep (fun t ht => ?_) htl
        rw [show [d, e].flatMap (duep o) = duep o d ++ duep o e by simp [List.flatMap]] at ht
        rcases List.mem_append.mp ht with ht | ht
        · exact gd.ddep o t ht
        · exact ge.ddep o t ht
      ktn_step
      refine r_ne F16 X N16 (o15.mono s16) o16 (Nat.lt_of_le_of_lt (Nat.add_le_add_left hdep _) (by show callerA.units + 3 + 160 < cLine; decide)) (c := true) (decide_eq_true hpl) ?_
      ktn_step
      have c9 : ∀ p ∈ nc, p ∈ away [(I2, oI2)] n16 := fun p hp => away_mem (s16 _ (s15 _ (up _ hp))) (fun x hx => by rw [List.mem_singleton.mp hx]; exact Nat.ne_of_gt (hI2 p hp))
      refine unr_end F16 N16 (fun p hp => by rw [List.mem_singleton.mp hp]; exact s16 _ (s15 _ (.head _))) ⟨⟨c9 _ hD, trivial⟩, c9, ?_, fun v hv => hp9 v (.tail _ hv)⟩
      intro p hp
      simp only [List.mem_cons, List.not_mem_nil, or_false] at hp
      rcases hp with rfl | rfl | rfl <;> rfl
end PartL1
