import PyProof.Rows.All
import Wide.All
import OpenK.AllK
import Wide.FinOn
import Lean
import PySem.Challenge.RW_ot0007_01
open PySem PySem.W PyProof.Rows
set_option Elab.async false
namespace Mine
set_option maxRecDepth 100000
set_option tactic.hygienic false
set_option compiler.extract_closed false
set_option maxHeartbeats 4000000
set_option linter.all false
set_option linter.unusedVariables false
set_option linter.unusedSimpArgs false
/-- the row, as the head takes it -/
noncomputable abbrev rW : RowW := PySem.Challenge.rw_ot0007_01.row.toRowW
/-- the text without the two lines that only set `__name__` -/
noncomputable def vw : Program := { rW.prog with main := { rW.prog.main with body := (rW.prog.main.body.drop 1).eraseIdx 12 } }
/-- the looks at the law, each by itself: the library's quick forms, but no quick form of the program's text (70,000 nodes) -/
theorem looked : PySem.Challenge.rw_ot0007_01.wellSaid = true := by
  refine (congrFun PySem.W.Fast.te9446332074065402090 _).trans ?_
  delta PySem.W.Fast.tw9446332074065402090
  repeat' (with_reducible refine look_both ?_ ?_)
  all_goals with_reducible first
    | (show PySem.W.Fast.tw17960256430627541270 _ = true
       delta PySem.W.Fast.tw17960256430627541270
       repeat' (with_reducible refine look_both ?_ ?_)
       all_goals (first
         | (show PySem.W.Fast.tw2436336058641802641 _ = true
            delta PySem.W.Fast.tw2436336058641802641
            repeat' (with_reducible refine look_both ?_ ?_)
            all_goals (first | (show PySem.W.Fast.tw12908688711261696721 _ = true; delta PySem.W.Fast.tw12908688711261696721; (repeat' (with_reducible refine look_both ?_ ?_)); all_goals decide +kernel) | decide +kernel))
         | decide +kernel))
    | decide +kernel
theorem own_head (H : Hook) {d : DefRec} {kwd : List (Str × Expr)} (hl : LeftO PySem.Challenge.rw_ot0007_01.row.toRowW.prog vw [] (fun s => xlAt vw [] s && recOk PySem.Challenge.rw_ot0007_01.row.toRowW.records s) H.obs H.val 1684)
    (hdef : defOf vw PySem.Challenge.rw_ot0007_01.row.toRowW.name = some (d, kwd)) (hp : PySem.Challenge.rw_ot0007_01.row.toRowW.prog.theDef PySem.Challenge.rw_ot0007_01.row.toRowW.name = some (d.params, d.body, d.scope)) (hk : kwWritten? d.params.kwonlyargs d.params.kw_defaults = some kwd)
    (k1 : PySem.Challenge.rw_ot0007_01.row.wellSaid = true) (hw : PySem.Challenge.rw_ot0007_01.row.toRowW.promised) (hc : WalkO vw [] (XL vw []) H.says PySem.Challenge.rw_ot0007_01.row.toRowW d kwd fun f vs => PySem.call f vs) : PySem.Challenge.rw_ot0007_01.row.Holds :=
  holds_open (q := vw) (loose := []) (Xt := fun s => xlAt vw [] s && recOk PySem.Challenge.rw_ot0007_01.row.toRowW.records s) hl H.of H.keeps (fun s e => xl_of s (Bool.and_eq_true_iff.mp e).1) XL.keeps hdef hp hk (fun s e => recFacts_of (Bool.and_eq_true_iff.mp e).2) rfl k1 (by decide +kernel) ⟨rfl, rfl, rfl, rfl, rfl, by decide +kernel⟩ hw hc
section
set_option compiler.extract_closed false
/- the kit's own row of the head, with the text's run shown at once in place of in pieces: a fifth of the compiled size -/
local macro_rules
  | `(tactic| o_law) => `(tactic| refine holds_law looked fun _ => ?_)
local macro_rules
  | `(tactic| o_head $H) => `(tactic| refine own_head $H (by intro w; kernel_rfl) (by rfl) (by rfl) (by rfl) (by assumption) ?hw ?hc)
open_top hd for PySem.Challenge.rw_ot0007_01
end

section
theorem flushLBase : True ∧ True := by (w_top off); (first | (walk1; done) | exact ⟨True.intro, True.intro⟩)
noncomputable abbrev S (x : String) : Str := Str.ofString x
noncomputable abbrev Led := List (Addr × Obj)
noncomputable abbrev tupO (vs : List Value) (n : Nat) : Obj := { cls := .type "tuple", data := .seq vs.toArray n }

inductive Reg where
  | none | a | b | st | n3 | c | n7
  deriving DecidableEq

inductive RegV : Value → Reg → Prop
  | none : RegV .none .none
  | a (t) : RegV (.str (S "'a") t) .a
  | b (t) : RegV (.str (S "'b") t) .b
  | st (t) : RegV (.str (S "'static") t) .st
  | n3 (t) : RegV (.int 3 t) .n3
  | c (t) : RegV (.str (S "'c") t) .c
  | n7 (t) : RegV (.int 7 t) .n7

inductive Ty where
  | param (x : Bool)
  | int (x : Bool)
  | bool | never | unit | var | intvar
  | ref (r : Reg) (m : Bool) (t : Ty)
  | box (t : Ty)
  | array (t : Ty)
  | pair (t u : Ty)
  | adt (r q : Reg) (t u : Ty)
  deriving DecidableEq

noncomputable def pname (x : Bool) : Str := if x then S "X" else S "Y"
noncomputable def iname (x : Bool) : Str := if x then S "u8" else S "i64"

inductive TyIn (fz : Led) : Value → Ty → Prop
  | param {a n t u x} : (a, tupO [.str (S "param") t, .str (pname x) u] n) ∈ fz → TyIn fz (.ref a) (.param x)
  | int {a n t u x} : (a, tupO [.str (S "int") t, .str (iname x) u] n) ∈ fz → TyIn fz (.ref a) (.int x)
  | bool {a n t} : (a, tupO [.str (S "bool") t] n) ∈ fz → TyIn fz (.ref a) .bool
  | never {a n t} : (a, tupO [.str (S "never") t] n) ∈ fz → TyIn fz (.ref a) .never
  | unit {a n t b k} : (a, tupO [.str (S "tuple") t, .ref b] n) ∈ fz → (b, tupO [] k) ∈ fz → TyIn fz (.ref a) .unit
  | var {a n t u} : (a, tupO [.str (S "var") t, .int 4 u] n) ∈ fz → TyIn fz (.ref a) .var
  | intvar {a n t u} : (a, tupO [.str (S "intvar") t, .int 2 u] n) ∈ fz → TyIn fz (.ref a) .intvar
  | ref {a n t v rv r m T} : (a, tupO [.str (S "ref") t, rv, .bool m, v] n) ∈ fz → RegV rv r → TyIn fz v T → TyIn fz (.ref a) (.ref r m T)
  | box {a n t v T} : (a, tupO [.str (S "box") t, v] n) ∈ fz → TyIn fz v T → TyIn fz (.ref a) (.box T)
  | array {a n t u v T} : (a, tupO [.str (S "array") t, v, .int 2 u] n) ∈ fz → TyIn fz v T → TyIn fz (.ref a) (.array T)
  | pair {a n t b k v x T U} : (a, tupO [.str (S "tuple") t, .ref b] n) ∈ fz → (b, tupO [v, x] k) ∈ fz → TyIn fz v T → TyIn fz x U → TyIn fz (.ref a) (.pair T U)
  | adt {a n t u b k c j rv qv r q v x T U} : (a, tupO [.str (S "adt") t, .str (S "m::A") u, .ref c, .ref b] n) ∈ fz → (c, tupO [rv, qv] j) ∈ fz → (b, tupO [v, x] k) ∈ fz →
      RegV rv r → RegV qv q → TyIn fz v T → TyIn fz x U → TyIn fz (.ref a) (.adt r q T U)

theorem TyIn.mono {fz fz' : Led} (hs : ∀ p ∈ fz, p ∈ fz') : ∀ {v T}, TyIn fz v T → TyIn fz' v T := by
  intro v T h
  induction h with
  | param h => exact .param (hs _ h)
  | int h => exact .int (hs _ h)
  | bool h => exact .bool (hs _ h)
  | never h => exact .never (hs _ h)
  | unit h g => exact .unit (hs _ h) (hs _ g)
  | var h => exact .var (hs _ h)
  | intvar h => exact .intvar (hs _ h)
  | ref h r _ ih => exact .ref (hs _ h) r ih
  | box h _ ih => exact .box (hs _ h) ih
  | array h _ ih => exact .array (hs _ h) ih
  | pair h g _ _ i1 i2 => exact .pair (hs _ h) (hs _ g) i1 i2
  | adt h g k r q _ _ i1 i2 => exact .adt (hs _ h) (hs _ g) (hs _ k) r q i1 i2

/-- the frame's state around a call -/
noncomputable abbrev Ard (dp un : Nat) (gd : Option (List Code)) (cn : Str) (cs : Scope) (L a : Addr) (ccd : Value) (cl : List (Str × Addr)) (outer : List Env) : Around :=
  { handled := none, depth := dp, frames := some (envX cn cs L a ccd cl :: outer), guards := gd, units := un }

structure Sub (fz fz' : Led) : Prop where
  sub : ∀ p ∈ fz, p ∈ fz'
structure Tups (fz : Led) : Prop where
  all : ∀ p ∈ fz, ∃ vs n, p.2 = tupO vs n
structure Off (rest : Led) (d : Addr) : Prop where
  off : ∀ p ∈ rest, p.1 ≠ d
theorem Sub.refl {fz : Led} : Sub fz fz := ⟨fun _ h => h⟩
theorem Sub.cons {fz fz' : Led} {p : Addr × Obj} (h : Sub fz fz') : Sub fz (p :: fz') := ⟨fun q hq => .tail _ (h.sub q hq)⟩
theorem Sub.step {a b c : Led} (h : Sub b c) (k : Sub a b) : Sub a c := ⟨fun q hq => h.sub q (k.sub q hq)⟩
theorem Tups.nil : Tups [] := ⟨fun _ h => nomatch h⟩
theorem Tups.cons {fz : Led} {a : Addr} {vs : List Value} {n : Nat} (h : Tups fz) : Tups ((a, tupO vs n) :: fz) := ⟨fun p hp => by
  rcases List.mem_cons.mp hp with rfl | hp
  · exact ⟨_, _, rfl⟩
  · exact h.all p hp⟩
theorem TyIn.up {fz fz' : Led} {v : Value} {T : Ty} (s : Sub fz fz') (h : TyIn fz v T) : TyIn fz' v T := h.mono s.sub

/-- a ledger: its tuples, its other written entries, its tail -/
inductive Part : Led → Led → Led → Led → Prop
  | tail {fz rest} : Part (fz ++ rest) fz [] rest
  | tup {l fz cs rest a vs n} : Part l fz cs rest → Part ((a, tupO vs n) :: l) ((a, tupO vs n) :: fz) cs rest
  | oth {l fz cs rest a o} : Part l fz cs rest → Part ((a, o) :: l) fz ((a, o) :: cs) rest
theorem Part.mem {l fz cs rest : Led} (h : Part l fz cs rest) : ∀ p, (p ∈ fz ∨ p ∈ cs ∨ p ∈ rest) → p ∈ l := by
  induction h with
  | tail => intro p hp; rcases hp with hp | hp | hp
            · exact List.mem_append.mpr (.inl hp)
            · exact nomatch hp
            · exact List.mem_append.mpr (.inr hp)
  | tup _ ih => intro p hp; rcases hp with hp | hp | hp
                · rcases List.mem_cons.mp hp with rfl | hp
                  · exact .head _
                  · exact .tail _ (ih p (.inl hp))
                · exact .tail _ (ih p (.inr (.inl hp)))
                · exact .tail _ (ih p (.inr (.inr hp)))
  | oth _ ih => intro p hp; rcases hp with hp | hp | hp
                · exact .tail _ (ih p (.inl hp))
                · rcases List.mem_cons.mp hp with rfl | hp
                  · exact .head _
                  · exact .tail _ (ih p (.inr (.inl hp)))
                · exact .tail _ (ih p (.inr (.inr hp)))
theorem Part.news {h₀ h : Heap} {L : Addr} {l fz cs rest : Led} (h1 : Part l fz cs rest) (N : News h₀ L h l) : News h₀ L h (fz ++ (cs ++ rest)) := fun p hp => N p (h1.mem p (by
  rcases List.mem_append.mp hp with hp | hp
  · exact .inl hp
  · exact .inr (List.mem_append.mp hp)))
theorem Part.newsT {h₀ h : Heap} {L : Addr} {l fz cs rest : Led} (h1 : Part l fz cs rest) (N : News h₀ L h l) : News h₀ L h (fz ++ rest) := fun p hp => N p (h1.mem p (by
  rcases List.mem_append.mp hp with hp | hp
  · exact .inl hp
  · exact .inr (.inr hp)))
theorem news_back {h₀ h : Heap} {L : Addr} {fz cs rest : Led} (N : News h₀ L h (fz ++ (cs ++ rest))) : News h₀ L h (cs ++ (fz ++ rest)) := fun p hp => N p (by
  simp only [List.mem_append] at hp ⊢
  rcases hp with hp | hp | hp
  · exact .inr (.inl hp)
  · exact .inl hp
  · exact .inr (.inr hp))

/-- pieces of a ledger put in another order -/
noncomputable def segAt : List Led → Nat → Led
  | [], _ => []
  | s :: _, 0 => s
  | _ :: r, n + 1 => segAt r n
noncomputable def catI (L : List Led) : List Nat → Led
  | [] => []
  | i :: r => if r.isEmpty = true then segAt L i else segAt L i ++ catI L r
set_option tactic.hygienic true in
theorem mem_catI {L : List Led} {p : Addr × Obj} : ∀ {is : List Nat}, p ∈ catI L is ↔ ∃ i ∈ is, p ∈ segAt L i
  | [] => ⟨fun h => (nomatch h), fun ⟨_, h, _⟩ => (nomatch h)⟩
  | i :: r => by
    rw [catI]
    split
    · rename_i h
      obtain rfl := List.isEmpty_iff.mp h
      exact ⟨fun h => ⟨i, .head _, h⟩, fun ⟨j, hj, h⟩ => (List.mem_singleton.mp hj) ▸ h⟩
    · rw [List.mem_append, mem_catI]
      constructor
      · rintro (h | ⟨j, hj, h⟩)
        · exact ⟨i, .head _, h⟩
        · exact ⟨j, .tail _ hj, h⟩
      · rintro ⟨j, hj, h⟩
        rcases List.mem_cons.mp hj with rfl | hj
        · exact .inl h
        · exact .inr ⟨j, hj, h⟩
theorem mv (L : List Led) (ia ib : List Nat) {p : Addr × Obj} (hp : p ∈ catI L ia) (h : (ia.all fun i => ib.contains i) = true := by rfl) : p ∈ catI L ib := by
  obtain ⟨i, hi, hp⟩ := mem_catI.mp hp
  have := List.all_eq_true.mp h i hi
  exact mem_catI.mpr ⟨i, by simpa using this, hp⟩
inductive Tr
  | s (i : Nat)
  | a (l r : Tr)
noncomputable def den (L : List Led) : Tr → Led
  | .s i => segAt L i
  | .a l r => den L l ++ den L r
noncomputable def ids : Tr → List Nat
  | .s i => [i]
  | .a l r => ids l ++ ids r
theorem mem_den {L : List Led} {p : Addr × Obj} : ∀ {t : Tr}, p ∈ den L t ↔ ∃ i ∈ ids t, p ∈ segAt L i
  | .s i => ⟨fun h => ⟨i, .head _, h⟩, fun ⟨_, hj, h⟩ => List.mem_singleton.mp hj ▸ h⟩
  | .a l r => by
    show p ∈ den L l ++ den L r ↔ ∃ i ∈ ids l ++ ids r, p ∈ segAt L i
    rw [List.mem_append, mem_den, mem_den]
    constructor
    · rintro (⟨j, hj, h⟩ | ⟨j, hj, h⟩)
      · exact ⟨j, List.mem_append.mpr (.inl hj), h⟩
      · exact ⟨j, List.mem_append.mpr (.inr hj), h⟩
    · rintro ⟨j, hj, h⟩
      rcases List.mem_append.mp hj with hj | hj
      · exact .inl ⟨j, hj, h⟩
      · exact .inr ⟨j, hj, h⟩
/-- the same, for any nesting -/
theorem mvT (L : List Led) (ta tb : Tr) {p : Addr × Obj} (hp : p ∈ den L ta) (h : ((ids ta).all fun i => (ids tb).contains i) = true := by rfl) : p ∈ den L tb := by
  obtain ⟨i, hi, hp⟩ := mem_den.mp hp
  have := List.all_eq_true.mp h i hi
  exact mem_den.mpr ⟨i, by simpa using this, hp⟩
theorem led_new {x p : Addr × Obj} {own fz rest : Led} (hp : p ∈ own ++ ((x :: fz) ++ rest)) : p ∈ x :: (own ++ (fz ++ rest)) := mv [own, [x], fz, rest] [0, 1, 2, 3] [1, 0, 2, 3] hp
theorem led_swap {p : Addr × Obj} {own fz rest : Led} (hp : p ∈ fz ++ (own ++ rest)) : p ∈ own ++ (fz ++ rest) := mv [own, fz, rest] [1, 0, 2] [0, 1, 2] hp
theorem lin {a b c d h : Nat} (x : Nat.ble a c = true) (y : Nat.ble b d = true) : a * h + b ≤ c * h + d := Nat.add_le_add (Nat.mul_le_mul_right _ (Nat.le_of_ble_eq_true x)) (Nat.le_of_ble_eq_true y)
theorem lin0 {b c d h : Nat} (y : Nat.ble b d = true) : b ≤ c * h + d := Nat.le_trans (Nat.le_of_ble_eq_true y) (Nat.le_add_left ..)
theorem dl {p X Y l : Nat} (h : p + X < l + 1) (w : Y + 1 ≤ X) : p + Y < l := Nat.lt_of_succ_lt_succ (Nat.lt_of_le_of_lt (Nat.add_le_add_left w p) h)
theorem ul {p X Y l : Nat} (h : p + 8 * X < l + 8) (w : Y + 1 ≤ X) : p + 8 * Y < l := Nat.lt_of_add_lt_add_right (n := 8) (Nat.lt_of_le_of_lt (Nat.add_le_add_left (Nat.mul_le_mul_left 8 w) p) h)
theorem dlk {p X Y l : Nat} (h : p + X < l + 1) (w : Nat.ble (Y + 1) X = true) : p + Y < l := dl h (Nat.le_of_ble_eq_true w)
theorem ulk {p X Y l : Nat} (h : p + 8 * X < l + 8) (w : Nat.ble (Y + 1) X = true) : p + 8 * Y < l := ul h (Nat.le_of_ble_eq_true w)
theorem dld {p a j Y l : Nat} (h : p + (a + j) < l + 1) (w : Nat.ble (Y + 1) j = true) : p + Y < l := dl h (Nat.le_trans (Nat.le_of_ble_eq_true w) (Nat.le_add_left ..))
theorem uld {p a j Y l : Nat} (h : p + 8 * (a + j) < l + 8) (w : Nat.ble (Y + 1) j = true) : p + 8 * Y < l := ul h (Nat.le_trans (Nat.le_of_ble_eq_true w) (Nat.le_add_left ..))
theorem dln {p a j l : Nat} (h : p + (a + j) < l + 1) (w : Nat.ble 1 j = true) : p + a < l := dl h (Nat.add_le_add_left (Nat.le_of_ble_eq_true w) a)
theorem uln {p a j l : Nat} (h : p + 8 * (a + j) < l + 8) (w : Nat.ble 1 j = true) : p + 8 * a < l := ul h (Nat.add_le_add_left (Nat.le_of_ble_eq_true w) a)
/-- a call of the def at f with the arguments vs: the tuples grow, the rest stands -/
noncomputable def Tel (w : World) (f : Addr) (vs : List Value) (fz rest : Led) (d : Nat) (P : Value → Led → Prop) : Prop :=
  ∀ (loose : List Str) (mean : ExcName → Option Value) (mg mb : Str → Option Value) (dp un : Nat) (gd : Option (List Code)) (cn : Str) (cs : Scope) (a : Addr) (ccd : Value) (cl : List (Str × Addr)) (outer : List Env) (A₀ : Around) (base h₀ : Heap) (L : Addr) (m : Str → Option Value) (s : Shared)
    (Q E : Value → Shared → Prop),
    Below A₀ base outer h₀ → Fr h₀ L s.heap m → (hd.heap_1 w.params).In h₀ → News h₀ L s.heap (fz ++ rest) → Top topProg loose mean mg mb h₀ → cs.kind = .function → dp + d < recursionLimit → un + 8 * d < cLine →
    (∀ r fz' h' tk', Fr h₀ L h' m → News h₀ L h' (fz' ++ rest) → Sub fz fz' → Tups fz' → P r fz' → Q r { s with heap := h', toks := tk' }) →
    wpAny (model PySem.Challenge.rw_ot0007_01.row.prog w) (Ard dp un gd cn cs L a ccd cl outer) (call (.ref f) vs) Q E s

noncomputable def kids : Ty → List Ty
  | .ref _ _ t | .box t | .array t => [t]
  | .pair t u | .adt _ _ t u => [t, u]
  | _ => []
inductive TyAll (fz : Led) : List Value → List Ty → Prop
  | nil : TyAll fz [] []
  | cons {v vs T Ts} : TyIn fz v T → TyAll fz vs Ts → TyAll fz (v :: vs) (T :: Ts)
theorem TyAll.up {fz fz' : Led} {vs : List Value} {Ts : List Ty} (s : Sub fz fz') (h : TyAll fz vs Ts) : TyAll fz' vs Ts := by
  induction h with
  | nil => exact .nil
  | cons h _ ih => exact .cons (h.up s) ih
theorem len_two {α : Type} {l : List α} (h : l.length = 2) : ∃ a b, l = [a, b] := by
  rcases l with _ | ⟨a, _ | ⟨b, _ | _⟩⟩ <;> simp at h ⊢
theorem TyAll.zero {fz : Led} {vs : List Value} (h : TyAll fz vs []) : vs = [] := by cases h; rfl
theorem TyAll.one {fz : Led} {vs : List Value} {T : Ty} (h : TyAll fz vs [T]) : ∃ v, vs = [v] ∧ TyIn fz v T := by
  cases h with
  | cons a b => cases b; exact ⟨_, rfl, a⟩
theorem TyAll.two {fz : Led} {vs : List Value} {T U : Ty} (h : TyAll fz vs [T, U]) : ∃ v x, vs = [v, x] ∧ TyIn fz v T ∧ TyIn fz x U := by
  cases h with
  | cons a b => obtain ⟨x, rfl, c⟩ := b.one; exact ⟨_, _, rfl, a, c⟩
theorem TyAll.snoc {fz : Led} {vs : List Value} {Ts : List Ty} {v : Value} {T : Ty} (h : TyAll fz vs Ts) (k : TyIn fz v T) : TyAll fz (vs ++ [v]) (Ts ++ [T]) := by
  induction h with
  | nil => exact .cons k .nil
  | cons a _ ih => exact .cons a ih
theorem TyAll.at {fz : Led} {vs : List Value} {Ts : List Ty} (h : TyAll fz vs Ts) {i : Nat} {v : Value} (e : vs[i]? = some v) : ∃ T, Ts[i]? = some T ∧ TyIn fz v T := by
  induction h generalizing i with
  | nil => simp at e
  | cons a _ ih =>
    cases i with
    | zero => simp at e; subst e; exact ⟨_, rfl, a⟩
    | succ i => simp at e; simpa using ih e
theorem TyAll.length {fz : Led} {vs : List Value} {Ts : List Ty} (h : TyAll fz vs Ts) : vs.length = Ts.length := by
  induction h with
  | nil => rfl
  | cons a _ ih => simp [ih]
inductive KidsIn (Ts : List Ty) (v : Value) (fz : Led) : Prop
  | mk {b vs k} : v = .ref b → (b, tupO vs k) ∈ fz → TyAll fz vs Ts → KidsIn Ts v fz

noncomputable def kindS : Ty → Str
  | .param _ => S "param" | .int _ => S "int" | .bool => S "bool" | .never => S "never" | .unit => S "tuple" | .var => S "var" | .intvar => S "intvar"
  | .ref _ _ _ => S "ref" | .box _ => S "box" | .array _ => S "array" | .pair _ _ => S "tuple" | .adt _ _ _ _ => S "adt"
theorem TyIn.head {fz : Led} {v : Value} {T : Ty} (h : TyIn fz v T) : ∃ a t more n, v = .ref a ∧ (a, tupO (.str (kindS T) t :: more) n) ∈ fz := by
  cases h <;> exact ⟨_, _, _, _, rfl, by assumption⟩
noncomputable def withKids : Ty → List Ty → Ty
  | .ref r m _, [t] => .ref r m t
  | .box _, [t] => .box t
  | .array _, [t] => .array t
  | .pair _ _, [t, u] => .pair t u
  | .adt r q _ _, [t, u] => .adt r q t u
  | T, _ => T
noncomputable def isParam : Ty → Bool
  | .param _ => true
  | _ => false
theorem kindS_param {T : Ty} (h : isParam T = false) : kindS T ≠ S "param" := by cases T <;> first | (cases h; done) | (show S _ ≠ S _; decide)
section
variable {prog : Program} {w : World} {A : Around} {E : Value → Shared → Prop} {s : Shared} {h₀ : Heap} {L a : Addr} {news : Led} {vs : List Value} {n : Nat} {i : Nat} {u : Tok} {v : Value} {value slice : Expr} {Q : Value → Shared → Prop}
theorem sub_tup {k : Int} (N : News h₀ L s.heap news) (hm : (a, tupO vs n) ∈ news) (h0 : 0 ≤ k) (hi : k < 2 ^ 63) (hx : vs[k.toNat]? = some v) (h : Q v s)
    (hs : subscripted slice false (.ref a) (.int k u) = operate [.ref a, .int k u] (getItem (.ref a) (.int k u)) := by with_unfolding_all rfl) :
    wpAny (model prog w) A (subscriptTail value slice (.ref a) (.int k u)) Q E s :=
  item_tupleT (j := k.toNat) (N.isTup hm) (by omega) hi (by
    have hl : k.toNat < vs.length := by
      rcases Nat.lt_or_ge k.toNat vs.length with q | q
      · exact q
      · rw [List.getElem?_eq_none q] at hx; cases hx
    have e : ¬ (k < 0) := by omega
    simp only [seqIndex?, if_neg e]
    have h2 : k < (vs.length : Int) := by omega
    simp [h0, h2]) hx h hs
theorem sub_list {k : Int} (N : News h₀ L s.heap news) (hm : (a, PySem.W.listOf vs.toArray n) ∈ news) (h0 : 0 ≤ k) (hi : k < 2 ^ 63) (hx : vs[k.toNat]? = some v) (h : Q v s)
    (hs : subscripted slice false (.ref a) (.int k u) = operate [.ref a, .int k u] (getItem (.ref a) (.int k u)) := by with_unfolding_all rfl) :
    wpAny (model prog w) A (subscriptTail value slice (.ref a) (.int k u)) Q E s :=
  have hL := N.isList hm
  tail_any hL.typeIs slot_list_getitem.lookup (wpAny_getItem_list hL h0 hi (by simpa using hx) h) hs
end
noncomputable def height : Ty → Nat
  | .ref _ _ t | .box t | .array t => height t + 1
  | .pair t u | .adt _ _ t u => max (height t) (height u) + 1
  | _ => 0
theorem kid_height {T T' : Ty} (h : T' ∈ kids T) : height T' + 1 ≤ height T := by
  cases T with
  | ref _ _ t | box t | array t => exact List.mem_singleton.mp h ▸ Nat.le_refl _
  | pair t u | adt _ _ t u => exact (List.mem_cons.mp h).elim (fun e => e ▸ Nat.succ_le_succ (Nat.le_max_left ..)) fun h => List.mem_singleton.mp h ▸ Nat.succ_le_succ (Nat.le_max_right ..)
  | _ => cases h
noncomputable abbrev Tab := List (Bool × Ty)
noncomputable def lk (τ : Tab) (x : Bool) : Option Ty := (τ.find? fun p => p.1 = x).map (·.2)
noncomputable def subst (τ : Tab) : Ty → Ty
  | .param x => (lk τ x).getD (.param x)
  | .ref r m t => .ref r m (subst τ t)
  | .box t => .box (subst τ t)
  | .array t => .array (subst τ t)
  | .pair t u => .pair (subst τ t) (subst τ u)
  | .adt r q t u => .adt r q (subst τ t) (subst τ u)
  | t => t
inductive KV (fz : Led) : List (Str × Value) → Tab → Prop
  | nil : KV fz [] []
  | cons {x v T kvs τ} : TyIn fz v T → KV fz kvs τ → KV fz ((pname x, v) :: kvs) ((x, T) :: τ)
theorem KV.up {fz fz' : Led} {kvs τ} (s : Sub fz fz') (h : KV fz kvs τ) : KV fz' kvs τ := by
  induction h with
  | nil => exact .nil
  | cons a _ ih => exact .cons (a.up s) ih
theorem pname_inj {x y : Bool} : pname x = pname y ↔ x = y := by cases x <;> cases y <;> simp [pname] <;> decide
inductive OptIn (fz : Led) : Option Value → Option Ty → Prop
  | none : OptIn fz none none
  | some {v T} : TyIn fz v T → OptIn fz (some v) (some T)
set_option tactic.hygienic true in
theorem KV.at {fz : Led} {kvs τ} (h : KV fz kvs τ) (x : Bool) : OptIn fz (valueAt kvs (pname x)) (lk τ x) := by
  induction h with
  | nil => exact .none
  | cons a _ ih =>
    rename_i y v T kvs τ _
    by_cases e : y = x
    · subst e; simp only [valueAt, lk, List.find?_cons, decide_true]; exact .some a
    · have e' : ¬ pname y = pname x := fun q => e (pname_inj.mp q)
      simp only [valueAt, lk, List.find?_cons, e, e', decide_false] at ih ⊢
      exact ih
/-- a dict of the ledger that holds types under the parameters' names -/
inductive TabIn (w : World) (led : Led) (fz : Led) (d : Addr) (τ : Tab) : Prop
  | mk {o kvs} : (d, o) ∈ led → o.IsDictOf (strKind PySem.Challenge.rw_ot0007_01.row.prog w) kvs → (d == sysModules) = false → KV fz kvs τ → TabIn w led fz d τ
structure Under (led : Led) (x : Addr) : Prop where
  lt : ∀ p ∈ led, p.1 < x
structure Has (u : Str → Option Value) (x : Str) (v : Value) : Prop where
  eq : u x = some v
/-- a call that hands back a list of its own: the list stands in front of the ledger -/
noncomputable def TelL (w : World) (f : Addr) (vs : List Value) (fz rest : Led) (d : Nat) (P : List Value → Led → Prop) : Prop :=
  ∀ (loose : List Str) (mean : ExcName → Option Value) (mg mb : Str → Option Value) (dp un : Nat) (gd : Option (List Code)) (cn : Str) (cs : Scope) (a : Addr) (ccd : Value) (cl : List (Str × Addr)) (outer : List Env) (A₀ : Around) (base h₀ : Heap) (L : Addr) (m : Str → Option Value) (s : Shared)
    (Q E : Value → Shared → Prop),
    Below A₀ base outer h₀ → Fr h₀ L s.heap m → (hd.heap_1 w.params).In h₀ → News h₀ L s.heap (fz ++ rest) → Top topProg loose mean mg mb h₀ → cs.kind = .function → dp + d < recursionLimit → un + 8 * d < cLine →
    (∀ D vals k fz' h' tk', Fr h₀ L h' m → News h₀ L h' ((D, PySem.W.listOf vals.toArray k) :: (fz' ++ rest)) → Off rest D → Sub fz fz' → Tups fz' → P vals fz' → Q (.ref D) { s with heap := h', toks := tk' }) →
    wpAny (model PySem.Challenge.rw_ot0007_01.row.prog w) (Ard dp un gd cn cs L a ccd cl outer) (call (.ref f) vs) Q E s
theorem news_backL {h₀ h : Heap} {L : Addr} {p : Addr × Obj} {fz cs rest : Led} (N : News h₀ L h (p :: (fz ++ (cs ++ rest)))) : News h₀ L h (p :: (cs ++ (fz ++ rest))) := fun q hq => N q (by
  simp only [List.mem_cons, List.mem_append] at hq ⊢
  rcases hq with hq | hq | hq | hq
  · exact .inl hq
  · exact .inr (.inr (.inl hq))
  · exact .inr (.inl hq)
  · exact .inr (.inr (.inr hq)))
theorem eq_str_B {prog : Program} {w : World} {A : Around} {E : Value → Shared → Prop} {s : Shared} {x y : Str} {t u : Tok} {b : Bool} {Q : Value → Shared → Prop} (h : (x == y) = b) (k : Q (.bool b) s) : wpAny (model prog w) A (compareOp .Eq (.str x t) (.str y u)) Q E s :=
  eq_str (by rw [h]; exact k)
end
section
theorem flushLComp : True ∧ True := by (w_top off); (first | (walk1; done) | exact ⟨True.intro, True.intro⟩)
/-! A list comprehension, turn by turn over any source, the ledger kept as written entries, tuples, rest. -/
open LCg in
noncomputable def CDone {σ : Type} (h₀ : Heap) (L : Addr) (m : Str → Option Value) (s₂ : Shared) (I : Addr) (oI : Obj) (C : Addr) (oC : Obj) (D : Addr) (oD : Obj) (cs : σ → Led) (fz rest : Led) (Acc : Nat → List Value → Led → σ → Prop) (i : Nat) (ys : List Value) (s' : Shared) : Prop :=
  ∃ fz' c h' tk', s' = { s₂ with heap := h', toks := tk' } ∧ Fr h₀ L h' m ∧ News h₀ L h' ((I, oI) :: (C, oC) :: (D, oD) :: (cs c ++ (fz' ++ rest))) ∧ Sub fz fz' ∧ Tups fz' ∧ Acc i ys fz' c
noncomputable abbrev CTests (prog : Program) (w : World) (A : Around) (ifs : List Expr) (env : Env) (Q : Bool → Shared → Prop) (E : Value → Shared → Prop) (s : Shared) : Prop :=
  wpAny (model prog w) A (forIn ifs true fun c r => if r = true then do let ok ← isTrue c env (eval c env); pure (ForInStep.yield ok) else pure (ForInStep.yield r)) Q E s

section
open LCg
variable {prog : Program} {w : World} {A : Around} {E : Value → Shared → Prop} {h₀ : Heap} {L : Addr} {m : Str → Option Value} {env : Env}
theorem tups_off {h : Heap} {led fz : Led} {a : Addr} {o : Obj} (hz : Tups fz) (N : News h₀ L h led) (hs : ∀ p ∈ fz, p ∈ led) (e : h.get? a = some o) (ho : ∀ vs n, o ≠ tupO vs n) : ∀ p ∈ fz, p.1 ≠ a := by
  intro p hp q
  obtain ⟨vs, n, e2⟩ := hz.all p hp
  have := (N p (hs p hp)).1
  rw [q, e] at this
  exact ho vs n ((Option.some.inj this).trans e2)

theorem comp_block {σ : Type} {elt iter : Expr} {x : Str} {px : Pos} {ifs : List Expr} {scope : Scope} {cl : List (Str × Addr)} {pos : Pos} {s₂ : Shared} {I : Addr} {fp : List Addr} {n : Nat} {P : Nat → Value → Prop} {St : Nat → Heap → Prop}
    {cs : σ → Led} {fz rest : Led} {Acc : Nat → List Value → Led → σ → Prop} {c₀ : σ} {RR : Value → Addr → Result → Shared → Prop}
    (W : Walks prog w A I fp [I] n P St) (hsz : n ≤ sizeLine) (hIo : ∀ i h, St i h → ∃ o, h.get? I = some o ∧ ∀ vs k, o ≠ tupO vs k)
    (hSt : ∀ i h h' fz' c, St i h → h'.get? I = h.get? I → (∀ b o, h₀.get? b = some o → h'.get? b = some o) → News h₀ L h' (cs c ++ (fz' ++ rest)) → Sub fz fz' → St i h')
    (hadr : ∀ c, (cs c).map (·.1) = (cs c₀).map (·.1))
    (hcell : ∀ y ∈ scope.names, y.2 ≠ .cell) (hkind : scope.kind = .function) (hx : scope.names.lookup x = some .local) (hst : St 0 s₂.heap) (hfp : ∀ b ∈ fp, b < s₂.heap.objs.size)
    (F : Fr h₀ L s₂.heap m) (N : News h₀ L s₂.heap (cs c₀ ++ (fz ++ rest))) (hz : Tups fz) (hIL : L ≠ I) (hI₀ : h₀.get? I = none) (off : ∀ p ∈ cs c₀ ++ (fz ++ rest), p.1 ≠ I) (hacc : Acc 0 [] fz c₀)
    (turn : ∀ i v ys fz₁ c oI C oC D m₂ h tk E', i < n → P i v → NsObj oC m₂ → m₂ x = some v → Fr h₀ L h m → News h₀ L h ((I, oI) :: (C, oC) :: (D, PySem.W.listOf ys.toArray ys.length) :: (cs c ++ (fz₁ ++ rest))) →
      ((@Ne Nat I C) ∧ (@Ne Nat I D) ∧ (@Ne Nat C D)) → (∀ p ∈ cs c ++ rest, p.1 ≠ I ∧ p.1 ≠ C ∧ p.1 ≠ D) → Sub fz fz₁ → Tups fz₁ → Acc i ys fz₁ c → ys.length ≤ i →
      CTests prog w A ifs (compEnvC scope cl C env) (fun ok s₃ => if ok = true then wpAny (model prog w) A (eval elt (compEnvC scope cl C env)) (fun y s₄ => CDone h₀ L m s₂ I oI C oC D (PySem.W.listOf ys.toArray ys.length) cs fz rest Acc (i + 1) (ys ++ [y]) s₄) E' s₃
        else CDone h₀ L m s₂ I oI C oC D (PySem.W.listOf ys.toArray ys.length) cs fz rest Acc (i + 1) ys s₃) E' { s₂ with heap := h, toks := tk })
    (hRR : ∀ D C h tk m' ys fz' c, Fr h₀ L h m → News h₀ L h ((D, PySem.W.listOf ys.toArray ys.length) :: (cs c ++ (fz' ++ rest))) → (∀ p ∈ cs c ++ rest, p.1 ≠ D) → h.Ns C m' → h₀.get? C = none → h₀.get? D = none → C ≠ L → D ≠ L → C ≠ D →
      (∀ p ∈ cs c ++ (fz' ++ rest), p.1 ≠ C) → Sub fz fz' → Tups fz' → Acc n ys fz' c → ys.length ≤ n → RR (.ref D) C (.ok .next) { s₂ with heap := h, toks := tk }) :
    wpAny (model prog w) A (newList []) (fun acc s₃ => wpAny (model prog w) A (newFunctionEnv scope env.globals cl [] env.qual none .none (some env)) (fun cenv s₄ =>
      codeAny (model prog w) A (.compStart (.ListComp elt [⟨.Name x px, iter, ifs, 0⟩] scope pos) 0 (.ref I) acc { cenv with scope := relabel scope env }) (RR acc cenv.locals) s₄) E s₃) E s₂ := by
  refine wpAny_newObj_type (wpAny_newFunctionEnv hcell (by intro y hy; simp at hy) (fun h₁ hns₁ hsb₁ => ?_) hkind)
  dsimp only at hns₁ hsb₁ ⊢
  generalize hH2 : s₂.heap.push { cls := .type "list", dict := none, data := .seq ([] : List Value).toArray } = H2 at hns₁ hsb₁ ⊢
  have hC : H2.objs.size = s₂.heap.objs.size + 1 := by rw [← hH2, Heap.size_push]
  generalize hCe : H2.objs.size = C at hns₁ hsb₁ hC ⊢
  generalize hDe : s₂.heap.objs.size = D at hC ⊢
  have lo : ∀ b o, s₂.heap.get? b = some o → b < D := fun b o e => hDe ▸ Heap.lt_size e
  have ltC : ∀ b : Addr, b < D → b ≠ C := fun b l q => by rw [q, hC] at l; exact Nat.lt_irrefl _ (Nat.lt_of_succ_lt l)
  have ltD : ∀ b : Addr, b < D → b ≠ D := fun b l q => by rw [q] at l; exact Nat.lt_irrefl _ l
  have old2 : ∀ b o, s₂.heap.get? b = some o → H2.get? b = some o := fun b o e => by rw [← hH2]; exact Heap.get?_push_of_some _ e
  have h2D : H2.get? D = some (PySem.W.listOf ([] : List Value).toArray 0) := by rw [← hH2, ← hDe]; exact Heap.get?_push_size _ rfl
  have old : ∀ b o, s₂.heap.get? b = some o → h₁.get? b = some o := fun b o e => hsb₁.extBut b o (ltC b (lo b o e)) (Heap.get?_push_of_some _ (old2 b o e))
  have hDC : D ≠ C := by rw [hC]; exact Nat.ne_of_lt (Nat.lt_succ_self _)
  have hlist : h₁.get? D = some (PySem.W.listOf ([] : List Value).toArray 0) := hsb₁.extBut _ _ hDC (Heap.get?_push_of_some _ h2D)
  have hIf : I ∈ fp := W.sub I (List.mem_singleton.mpr rfl)
  have hIlt : I < D := hDe ▸ hfp I hIf
  have hLlt : L < D := hDe ▸ F.ns.lt
  have fresh₀ : ∀ a, D ≤ a → h₀.get? a = none := fun a ha => by
    cases e : h₀.get? a with
    | none => rfl
    | some o => have := lo a o (F.keep a o e); exact absurd this (Nat.not_lt.mpr ha)
  have hC₀ := fresh₀ C (by rw [hC]; exact Nat.le_succ _)
  have hD₀ := fresh₀ D (Nat.le_refl _)
  have hCL : C ≠ L := Ne.symm (ltC L hLlt)
  have hDL : D ≠ L := Ne.symm (ltD L hLlt)
  have hIC : I ≠ C := ltC I hIlt
  have hID : I ≠ D := ltD I hIlt
  have base : ∀ p ∈ cs c₀ ++ (fz ++ rest), p.1 ≠ I ∧ p.1 ≠ C ∧ p.1 ≠ D := fun p hp => by
    have l := lo p.1 p.2 (N p hp).1
    exact ⟨off p hp, ltC _ l, ltD _ l⟩
  have stay : ∀ c, ∀ p ∈ cs c ++ rest, p.1 ≠ I ∧ p.1 ≠ C ∧ p.1 ≠ D := fun c p hp => by
    rcases List.mem_append.mp hp with hp | hp
    · have : p.1 ∈ (cs c₀).map (·.1) := hadr c ▸ List.mem_map.mpr ⟨p, hp, rfl⟩
      obtain ⟨q, hq, e⟩ := List.mem_map.mp this
      rw [← e]; exact base q (List.mem_append.mpr (.inl hq))
    · exact base p (List.mem_append.mpr (.inr (List.mem_append.mpr (.inr hp))))
  have whole : ∀ c fz' h, News h₀ L h (cs c ++ (fz' ++ rest)) → Tups fz' → (∃ o, h.get? I = some o ∧ ∀ vs k, o ≠ tupO vs k) → (∃ m', h.Ns C m') → (∃ l k, h.get? D = some (PySem.W.listOf l k)) → ∀ p ∈ cs c ++ (fz' ++ rest), p.1 ≠ I ∧ p.1 ≠ C ∧ p.1 ≠ D := by
    intro c fz' h N' hz' hI hC' hD' p hp
    rcases List.mem_append.mp hp with q | q
    · exact stay c p (List.mem_append.mpr (.inl q))
    · rcases List.mem_append.mp q with r | r
      · have sb : ∀ p ∈ fz', p ∈ cs c ++ (fz' ++ rest) := fun p hp => List.mem_append.mpr (.inr (List.mem_append.mpr (.inl hp)))
        obtain ⟨oI, e1, e2⟩ := hI
        obtain ⟨_, oC, es, ep, e3, e4, _⟩ := hC'
        obtain ⟨l, k, e5⟩ := hD'
        exact ⟨tups_off hz' N' sb e1 e2 p r, tups_off hz' N' sb e3 (fun vs k q => by rw [q] at e4; cases e4) p r, tups_off hz' N' sb e5 (fun vs k q => by have := congrArg Obj.cls q; exact absurd (Value.type.inj this) (by decide)) p r⟩
      · exact stay c p (List.mem_append.mpr (.inr r))
  have loop : ∀ s₃ : Shared, s₃ = { s₂ with heap := h₁, toks := s₂.toks + ([] : List (Str × Value)).length } →
      codeAny (model prog w) A (.compLoop (.ListComp elt [⟨.Name x px, iter, ifs, 0⟩] scope pos) 0 (.ref I) (.ref D) (compEnvC scope cl C env)) (RR (.ref D) C) s₃ := by
    rintro s₃ rfl
    refine codeAny_compLoop_tests
      (fun k s' => ∃ h' tk i ys m' fz' c, s' = { s₂ with heap := h', toks := tk } ∧ i ≤ n ∧ k = n + 1 - i ∧ ys.length ≤ i ∧ St i h' ∧ Fr h₀ L h' m ∧ h'.Ns C m' ∧ h'.get? D = some (PySem.W.listOf ys.toArray ys.length) ∧ News h₀ L h' (cs c ++ (fz' ++ rest)) ∧
        Sub fz fz' ∧ Tups fz' ∧ Acc i ys fz' c) ?_ (n + 1)
      ⟨h₁, _, 0, [], _, fz, c₀, rfl, Nat.zero_le _, rfl, Nat.le_refl _, W.frame _ _ _ hst fun b _ o e => old b o e, F.keeps old, hns₁, hlist, fun p hp => ⟨old _ _ (N p hp).1, (N p hp).2⟩, Sub.refl, hz, hacc⟩
    rintro k s' ⟨h', tk, i, ys, m', fz', c, rfl, hi, rfl, hyl, hst', F', hn', hD', N', hs', hz', ha'⟩
    have wh := whole c fz' h' N' hz' (hIo _ _ hst') ⟨_, hn'⟩ ⟨_, _, hD'⟩
    by_cases hlt : i < n
    · refine W.item i _ _ _ hlt hst' fun v h₂ tk₂ hPv hst₂ hk₂ => ?_
      have hk₂' : ∀ b o, b ≠ I → h'.get? b = some o → h₂.get? b = some o := fun b o hb e => hk₂ b o (by simpa using hb) e
      refine wpAny_assign_Name (wpAny_storeName_local (lookup_relabel_local hx) (hn'.at' fun o e => hk₂' _ o (Ne.symm hIC) e) (fun h₃ hn₃ hs₃ => ?_) (by simp [compEnvC, relabel, hkind]))
      have F₃ : Fr h₀ L h₃ m := (fr_but F' hk₂ hIL hI₀).change hs₃ hCL hC₀
      have hst₃ : St (i + 1) h₃ := W.frame _ _ _ hst₂ fun b hb o e => hs₃.extBut b o (ltC b (hDe ▸ hfp b hb)) e
      obtain ⟨oI, heI, hnI⟩ := hIo _ _ hst₃
      obtain ⟨oC, heC, hoC⟩ := ns_obj hn₃
      have hD₃ : h₃.get? D = some (PySem.W.listOf ys.toArray ys.length) := hs₃.extBut _ _ hDC (hk₂' _ _ (Ne.symm hID) hD')
      have N₃ : News h₀ L h₃ ((I, oI) :: (C, oC) :: (D, PySem.W.listOf ys.toArray ys.length) :: (cs c ++ (fz' ++ rest))) := fun p hp => by
        rcases List.mem_cons.mp hp with rfl | hp
        · exact ⟨heI, Ne.symm hIL, hI₀⟩
        · rcases List.mem_cons.mp hp with rfl | hp
          · exact ⟨heC, hCL, hC₀⟩
          · rcases List.mem_cons.mp hp with rfl | hp
            · exact ⟨hD₃, hDL, hD₀⟩
            · exact ⟨hs₃.extBut _ _ (wh p hp).2.1 (hk₂' _ _ (wh p hp).1 (N' p hp).1), (N' p hp).2⟩
      have fin : ∀ ys' s₅, CDone h₀ L m s₂ I oI C oC D (PySem.W.listOf ys.toArray ys.length) cs fz rest Acc (i + 1) ys' s₅ → ∃ fz' c h' tk', s₅ = { s₂ with heap := h', toks := tk' } ∧ Fr h₀ L h' m ∧ h'.get? D = some (PySem.W.listOf ys.toArray ys.length) ∧ (∃ m', h'.Ns C m') ∧ St (i + 1) h' ∧ News h₀ L h' (cs c ++ (fz' ++ rest)) ∧ Sub fz fz' ∧ Tups fz' ∧ Acc (i + 1) ys' fz' c := by
        rintro ys' s₅ ⟨fz₄, c₄, h₄, tk₄, rfl, F₄, N₄, S₄, Z₄, A₄⟩
        have zI := (N₄ (I, oI) List.mem_cons_self).1
        have zC := (N₄ (C, oC) (List.mem_cons_of_mem _ List.mem_cons_self)).1
        have zD := (N₄ (D, PySem.W.listOf ys.toArray ys.length) (List.mem_cons_of_mem _ (List.mem_cons_of_mem _ List.mem_cons_self))).1
        have N₄' : News h₀ L h₄ (cs c₄ ++ (fz₄ ++ rest)) := fun p hp => N₄ p (List.mem_cons_of_mem _ (List.mem_cons_of_mem _ (List.mem_cons_of_mem _ hp)))
        exact ⟨fz₄, c₄, h₄, tk₄, rfl, F₄, zD, ⟨_, hoC.ns zC⟩, hSt _ _ _ _ _ hst₃ (zI.trans heI.symm) F₄.keep N₄' S₄, N₄', S₄, Z₄, A₄⟩
      refine wpAny_mono (turn i v ys fz' c oI C oC D _ h₃ _ _ hlt hPv hoC (by simp) F₃ N₃ ⟨hIC, hID, Ne.symm hDC⟩ (stay c) hs' hz' ha' hyl) (fun ok s₄ h₄ => ?_) fun _ _ e => e
      cases ok with
      | false =>
        simp only [Bool.false_eq_true, if_false] at h₄ ⊢
        obtain ⟨fz₄, c₄, g₄, tk₄, rfl, F₄, zD, ⟨mC, zC⟩, st₄, N₄, S₄, Z₄, A₄⟩ := fin _ _ h₄
        exact ⟨n + 1 - (i + 1), by omega, g₄, tk₄, i + 1, ys, mC, fz₄, c₄, rfl, hlt, rfl, by omega, st₄, F₄, zC, zD, N₄, S₄, Z₄, A₄⟩
      | true =>
        simp only [if_true] at h₄ ⊢
        refine wpAny_mono h₄ (fun y s₅ h₅ => ?_) fun _ _ e => e
        obtain ⟨fz₄, c₄, g₄, tk₄, rfl, F₄, zD, ⟨mC, zC⟩, st₄, N₄, S₄, Z₄, A₄⟩ := fin _ _ h₅
        have wh₄ := whole c₄ fz₄ g₄ N₄ Z₄ (hIo _ _ st₄) ⟨_, zC⟩ ⟨_, _, zD⟩
        refine append_at (hsz := by show ys.toArray.size ≤ sizeLine; rw [List.size_toArray]; omega) zD fun h₅ hs₅ hD₅ => ?_
        refine ⟨n + 1 - (i + 1), by omega, h₅, tk₄, i + 1, ys ++ [y], mC, fz₄, c₄, rfl, hlt, rfl, by simp; omega, ?_, F₄.change hs₅ hDL hD₀, zC.sameBut hs₅ (Ne.symm hDC), ?_, fun p hp => ⟨hs₅.extBut _ _ (wh₄ p hp).2.2 (N₄ p hp).1, (N₄ p hp).2⟩, S₄, Z₄, A₄⟩
        · exact W.frame _ _ _ st₄ fun b hb o e => hs₅.extBut b o (ltD b (hDe ▸ hfp b hb)) e
        · refine hD₅.trans (congrArg some ?_)
          show ({ cls := .type "list", data := .seq (ys.toArray.push y) (ys.length + 1) } : Obj) = { cls := .type "list", data := .seq (ys ++ [y]).toArray (ys ++ [y]).length }
          rw [List.length_append, List.length_singleton, List.push_toArray]
    · obtain rfl : i = n := Nat.le_antisymm hi (Nat.not_lt.mp hlt)
      refine W.done _ _ _ hst' fun h₂ tk₂ hk₂ => ?_
      have hk₂' : ∀ b o, b ≠ I → h'.get? b = some o → h₂.get? b = some o := fun b o hb e => hk₂ b o (by simpa using hb) e
      exact hRR D C h₂ tk₂ _ ys fz' c (fr_but F' hk₂ hIL hI₀) (fun p hp => by
        rcases List.mem_cons.mp hp with rfl | hp
        · exact ⟨hk₂' _ _ (Ne.symm hID) hD', hDL, hD₀⟩
        · exact ⟨hk₂' _ _ (wh p hp).1 (N' p hp).1, (N' p hp).2⟩) (fun p hp => (stay c p hp).2.2) (hn'.at' fun o e => hk₂' _ o (Ne.symm hIC) e) hC₀ hD₀ hCL hDL (Ne.symm hDC) (fun p hp => (wh p hp).2.1) hs' hz' ha' hyl
  exact codeAny_compStart_list (loop _ rfl) (W.self 0 _ _ _ (W.frame _ _ _ hst fun b _ o e => old b o e) (loop _ rfl))
end

/-- what is wanted of the iterable's value ahead of the turns: a tuple of the ledger, or a list that no turn changes -/
noncomputable def SrcOk {σ : Type} (cs : σ → Led) (fz rest : Led) (ax : Addr) (vs : List Value) : Prop :=
  (∃ k, (ax, tupO vs k) ∈ fz) ∨ (∃ k, ∀ c, (ax, PySem.W.listOf vs.toArray k) ∈ cs c) ∨ (∃ k, (ax, PySem.W.listOf vs.toArray k) ∈ rest)
open LCg in
noncomputable def CTurn {σ : Type} (prog : Program) (w : World) (A : Around) (h₀ : Heap) (L : Addr) (m : Str → Option Value) (env : Env) (elt : Expr) (x : Str) (scope : Scope) (cl : List (Str × Addr)) (ifs : List Expr) (s₂ : Shared) (vs : List Value) (cs : σ → Led) (fz rest : Led) (Acc : Nat → List Value → Led → σ → Prop) : Prop :=
  ∀ i v ys fz₁ c oI C oC D m₂ h tk E' I, i < vs.length → vs[i]? = some v → NsObj oC m₂ → m₂ x = some v → Fr h₀ L h m → News h₀ L h ((I, oI) :: (C, oC) :: (D, PySem.W.listOf ys.toArray ys.length) :: (cs c ++ (fz₁ ++ rest))) →
      ((@Ne Nat I C) ∧ (@Ne Nat I D) ∧ (@Ne Nat C D)) → (∀ p ∈ cs c ++ rest, p.1 ≠ I ∧ p.1 ≠ C ∧ p.1 ≠ D) → Sub fz fz₁ → Tups fz₁ → Acc i ys fz₁ c → ys.length ≤ i →
      CTests prog w A ifs (compEnvC scope cl C env) (fun ok s₃ => if ok = true then wpAny (model prog w) A (eval elt (compEnvC scope cl C env)) (fun y s₄ => CDone h₀ L m s₂ I oI C oC D (PySem.W.listOf ys.toArray ys.length) cs fz rest Acc (i + 1) (ys ++ [y]) s₄) E' s₃
        else CDone h₀ L m s₂ I oI C oC D (PySem.W.listOf ys.toArray ys.length) cs fz rest Acc (i + 1) ys s₃) E' { s₂ with heap := h, toks := tk }
noncomputable def CSrc (prog : Program) (w : World) (A : Around) (h₀ : Heap) (L : Addr) (m : Str → Option Value) (env : Env) (elt : Expr) (x : Str) (scope : Scope) (cl : List (Str × Addr)) (ifs : List Expr) (Fin : Shared → Addr → List Value → Led → Prop) (xv : Value) (s₁ : Shared) : Prop :=
  ∃ (σ : Type) (cs : σ → Led) (c₀ : σ) (fz rest : Led) (Acc : Nat → List Value → Led → σ → Prop) (ax : Addr) (vs : List Value), xv = .ref ax ∧ A.handled = none ∧ SrcOk cs fz rest ax vs ∧ (∀ c, (cs c).map (·.1) = (cs c₀).map (·.1)) ∧ Fr h₀ L s₁.heap m ∧ News h₀ L s₁.heap (cs c₀ ++ (fz ++ rest)) ∧ Tups fz ∧
    Acc 0 [] fz c₀ ∧ vs.length ≤ sizeLine ∧ CTurn prog w A h₀ L m env elt x scope cl ifs s₁ vs cs fz rest Acc ∧
    ∀ D ys fz' c h tk, Fr h₀ L h m → News h₀ L h ((D, PySem.W.listOf ys.toArray ys.length) :: (cs c ++ (fz' ++ rest))) → (∀ p ∈ cs c ++ rest, p.1 ≠ D) → D ≠ L → Sub fz fz' → Tups fz' → Acc vs.length ys fz' c → ys.length ≤ vs.length →
      Fin { s₁ with heap := h, toks := tk } D ys ((D, PySem.W.listOf ys.toArray ys.length) :: (cs c ++ (fz' ++ rest)))

section
open LCg
variable {prog : Program} {w : World} {A : Around} {E : Value → Shared → Prop} {s : Shared} {h₀ : Heap} {L : Addr} {m : Str → Option Value} {env : Env}
theorem comp_run {elt iter : Expr} {x : Str} {px : Pos} {ifs : List Expr} {scope : Scope} {cl : List (Str × Addr)} {pos : Pos} {s₁ : Shared} {xv : Value} {Fin : Shared → Addr → List Value → Led → Prop} {RR : Value → Addr → Result → Shared → Prop}
    (hcell : ∀ y ∈ scope.names, y.2 ≠ .cell) (hkind : scope.kind = .function) (hx : scope.names.lookup x = some .local)
    (h₁ : CSrc prog w A h₀ L m env elt x scope cl ifs Fin xv s₁)
    (hRR : ∀ D C h tk m' ys led, Fr h₀ L h m → News h₀ L h led → (D, PySem.W.listOf ys.toArray ys.length) ∈ led → h.Ns C m' → h₀.get? C = none → C ≠ L → (∀ p ∈ led, p.1 ≠ C) →
      (∀ h' tk', Fr h₀ L h' m → News h₀ L h' led → Fin { s₁ with heap := h', toks := tk' } D ys led) → RR (.ref D) C (.ok .next) { s₁ with heap := h, toks := tk }) :
    wpAny (model prog w) A (pyIter xv) (fun it s₂ => wpAny (model prog w) A (newList []) (fun acc s₃ => wpAny (model prog w) A (newFunctionEnv scope env.globals cl [] env.qual none .none (some env)) (fun cenv s₄ =>
      codeAny (model prog w) A (.compStart (.ListComp elt [⟨.Name x px, iter, ifs, 0⟩] scope pos) 0 it acc { cenv with scope := relabel scope env }) (RR acc cenv.locals) s₄) E s₃) E s₂) E s₁ := by
  obtain ⟨σ, cs, c₀, fz, rest, Acc, ax, vs, rfl, hh, S, hadr, F, N, hz, ha, hsz, turn, fin⟩ := h₁
  have last : ∀ D C h tk m' ys fz' c, Fr h₀ L h m → News h₀ L h ((D, PySem.W.listOf ys.toArray ys.length) :: (cs c ++ (fz' ++ rest))) → (∀ p ∈ cs c ++ rest, p.1 ≠ D) → h.Ns C m' → h₀.get? C = none → h₀.get? D = none → C ≠ L → D ≠ L → C ≠ D →
      (∀ p ∈ cs c ++ (fz' ++ rest), p.1 ≠ C) → Sub fz fz' → Tups fz' → Acc vs.length ys fz' c → ys.length ≤ vs.length → RR (.ref D) C (.ok .next) { s₁ with heap := h, toks := tk } := by
    intro D C h tk m' ys fz' c F' N' o1 hn hC₀ _ hCL hDL hCD offC S' Z' A' l'
    refine hRR D C h tk m' ys _ F' N' List.mem_cons_self hn hC₀ hCL (fun p hp => ?_) fun h' tk' F'' N'' => fin D ys fz' c h' tk' F'' N'' o1 hDL S' Z' A' l'
    rcases List.mem_cons.mp hp with rfl | hp
    · exact Ne.symm hCD
    · exact offC p hp
  have inN : ∀ {h : Heap} {c} {fz' : Led} {p : Addr × Obj}, News h₀ L h (cs c ++ (fz' ++ rest)) → (p ∈ cs c ∨ p ∈ fz' ∨ p ∈ rest) → h.get? p.1 = some p.2 := fun N' hp => (N' _ (by
    rcases hp with hp | hp | hp
    · exact List.mem_append.mpr (.inl hp)
    · exact List.mem_append.mpr (.inr (List.mem_append.mpr (.inl hp)))
    · exact List.mem_append.mpr (.inr (List.mem_append.mpr (.inr hp))))).1
  have up : ∀ (o : Obj) b o', s₁.heap.get? b = some o' → (s₁.heap.push o).get? b = some o' := fun o b o' e => Heap.get?_push_of_some _ e
  have offI : ∀ p ∈ cs c₀ ++ (fz ++ rest), p.1 ≠ s₁.heap.objs.size := fun p hp => Nat.ne_of_lt (Heap.lt_size (N p hp).1)
  rcases S with ⟨k, hm⟩ | S
  · have ht : IsTup s₁.heap ax vs.toArray := ⟨_, inN N (.inr (.inl hm)), rfl, k, rfl⟩
    have hlt : ax < s₁.heap.objs.size := ht.lt
    refine wpAny_pyIter_tuple ht ?_
    refine comp_block (s₂ := { s₁ with heap := s₁.heap.push { cls := .type "tuple_iterator", data := .fields #[.ref ax, .int 0 0] } }) (Walks.tuple hh s₁.heap.objs.size ax (Nat.ne_of_lt hlt) vs.toArray) (by simpa using hsz) (fun i h st => ?_) (fun i h h' fz' c st e k' N' S' => ?_) hadr hcell hkind hx ⟨⟨_, Heap.get?_push_size _ rfl, rfl, rfl⟩, ht.push _⟩ (fun b hb => ?_)
      (F.push _) (fun p hp => ⟨up _ _ _ (N p hp).1, (N p hp).2⟩) hz (Nat.ne_of_lt F.ns.lt) (next_is_new F) offI ha ?_ ?_
    · obtain ⟨o, e, c1, _⟩ := st.1
      exact ⟨o, e, fun _ _ q => by rw [q] at c1; exact absurd (Value.type.inj c1) (by decide)⟩
    · obtain ⟨o, e', r⟩ := st.1
      exact ⟨⟨o, e.trans e', r⟩, ⟨_, inN N' (.inr (.inl (S'.sub _ hm))), rfl, k, rfl⟩⟩
    · show b < (s₁.heap.push _).objs.size
      rw [Heap.size_push]
      rcases List.mem_cons.mp hb with rfl | hb
      · exact Nat.lt_succ_self _
      · rw [List.mem_singleton.mp hb]; exact Nat.lt_succ_of_lt hlt
    · intro i v ys fz₁ c oI C oC D m₂ h tk E' hi hv
      exact turn i v ys fz₁ c oI C oC D m₂ h tk E' _ (by simpa using hi) (by simpa using hv)
    · intro D C h tk m' ys fz' c F' N' o1 hn a1 a2 a3 a4 a5 a6 S' Z' A' l'
      exact last D C h tk m' ys fz' c F' N' o1 hn a1 a2 a3 a4 a5 a6 S' Z' (by simpa using A') (by simpa using l')
  · have all : ∃ k, ∀ c (fz' : Led) h, News h₀ L h (cs c ++ (fz' ++ rest)) → h.get? ax = some (PySem.W.listOf vs.toArray k) := by
      rcases S with ⟨k, hm⟩ | ⟨k, hm⟩
      · exact ⟨k, fun c fz' h N' => inN N' (.inl (hm c))⟩
      · exact ⟨k, fun c fz' h N' => inN N' (.inr (.inr hm))⟩
    obtain ⟨k, all⟩ := all
    have ht : s₁.heap.IsList ax vs.toArray := ⟨_, all _ _ _ N, rfl, k, rfl⟩
    have hlt : ax < s₁.heap.objs.size := Heap.lt_size (all _ _ _ N)
    refine wpAny_pyIter_list ht ?_
    refine comp_block (s₂ := { s₁ with heap := s₁.heap.push { cls := .type "list_iterator", data := .fields #[.ref ax, .int 0 0] } }) (Walks.list hh s₁.heap.objs.size ax (Nat.ne_of_lt hlt) vs.toArray) (by simpa using hsz) (fun i h st => ?_) (fun i h h' fz' c st e k' N' S' => ?_) hadr hcell hkind hx ⟨⟨_, Heap.get?_push_size _ rfl, rfl, rfl⟩, ht.push _⟩ (fun b hb => ?_)
      (F.push _) (fun p hp => ⟨up _ _ _ (N p hp).1, (N p hp).2⟩) hz (Nat.ne_of_lt F.ns.lt) (next_is_new F) offI ha ?_ ?_
    · obtain ⟨o, e, c1, _⟩ := st.1
      exact ⟨o, e, fun _ _ q => by rw [q] at c1; exact absurd (Value.type.inj c1) (by decide)⟩
    · obtain ⟨o, e', r⟩ := st.1
      exact ⟨⟨o, e.trans e', r⟩, ⟨_, all _ _ _ N', rfl, k, rfl⟩⟩
    · show b < (s₁.heap.push _).objs.size
      rw [Heap.size_push]
      rcases List.mem_cons.mp hb with rfl | hb
      · exact Nat.lt_succ_self _
      · rw [List.mem_singleton.mp hb]; exact Nat.lt_succ_of_lt hlt
    · intro i v ys fz₁ c oI C oC D m₂ h tk E' hi hv
      exact turn i v ys fz₁ c oI C oC D m₂ h tk E' _ (by simpa using hi) (by simpa using hv)
    · intro D C h tk m' ys fz' c F' N' o1 hn a1 a2 a3 a4 a5 a6 S' Z' A' l'
      exact last D C h tk m' ys fz' c F' N' o1 hn a1 a2 a3 a4 a5 a6 S' Z' (by simpa using A') (by simpa using l')

noncomputable def FinE (h₀ : Heap) (L : Addr) (m : Str → Option Value) (Q : Value → Shared → Prop) (s' : Shared) (D : Addr) (_ : List Value) (led : Led) : Prop := Fr h₀ L s'.heap m → News h₀ L s'.heap led → Q (.ref D) s'
theorem comp_eval {elt iter : Expr} {x : Str} {px : Pos} {ifs : List Expr} {scope : Scope} {cl : List (Str × Addr)} {pos : Pos} {Q : Value → Shared → Prop} (_F₀ : Fr h₀ L s.heap m)
    (hclos : closureFor scope env = pure cl) (hcell : ∀ y ∈ scope.names, y.2 ≠ .cell) (hkind : scope.kind = .function)
    (hnames : ∀ y ∈ scope.names, y.2 = .local → scope.names.lookup y.1 = some .local) (hx : scope.names.lookup x = some .local)
    (h : wpAny (model prog w) A (eval iter env) (CSrc prog w A h₀ L m env elt x scope cl ifs (FinE h₀ L m Q)) E s)
    (hs : ∀ x, foldedSetIterable iter env x = pure x := by intro _; rfl) :
    wpAny (model prog w) A (eval (.ListComp elt [⟨.Name x px, iter, ifs, 0⟩] scope pos) env) Q E s := by
  rw [eval_ListComp]
  refine wpAny_comprehension_free (use := none) rfl hs hclos hkind hnames (wpAny_mono h (fun xv s₁ h₁ => ?_) fun _ _ e => e)
  refine comp_run (RR := fun acc C => compPost (model prog w) A E none Q acc C) hcell hkind hx h₁ ?_
  intro D C h' tk m' ys led F' N' _ hn hC₀ hCL offC fin
  refine ⟨m', hn, fun h'' hs'' => ?_⟩
  have F'' := F'.change hs'' hCL hC₀
  have N'' : News h₀ L h'' led := fun p hp => ⟨hs''.extBut _ _ (offC p hp) (N' p hp).1, (N' p hp).2⟩
  exact fin h'' tk F'' N'' F'' N''
noncomputable def FinA (h₀ : Heap) (L : Addr) (m : Str → Option Value) (y : Str) (Q : Flow → Shared → Prop) (s' : Shared) (D : Addr) (_ : List Value) (led : Led) : Prop :=
  ∀ h tk, Fr h₀ L h (fun z => if z = y then some (.ref D) else m z) → News h₀ L h led → Q .next { s' with heap := h, toks := tk }
theorem comp_assign {elt iter : Expr} {x y : Str} {px py : Pos} {ifs : List Expr} {scope : Scope} {cl : List (Str × Addr)} {pos spos : Pos} {Q : Flow → Shared → Prop} (_F₀ : Fr h₀ L s.heap m) (hLe : env.locals = L)
    (hsw : swapsWith (.ListComp elt [⟨.Name x px, iter, ifs, 0⟩] scope pos) (some (.Name y py)) spos.line env = pure true)
    (hclos : closureFor scope env = pure cl) (hcell : ∀ z ∈ scope.names, z.2 ≠ .cell) (hkind : scope.kind = .function)
    (hnames : ∀ z ∈ scope.names, z.2 = .local → scope.names.lookup z.1 = some .local) (hx : scope.names.lookup x = some .local)
    (hy : env.kindOf y = some .local) (hp : (env.scope.kind == .class || (env.scope.kind == .module && env.locals != env.globals)) = false)
    (h : wpAny (model prog w) A (eval iter env) (CSrc prog w A h₀ L m env elt x scope cl ifs (FinA h₀ L m y Q)) E s)
    (hs : ∀ x, foldedSetIterable iter env x = pure x := by intro _; rfl) :
    wpAny (model prog w) A (exec (.Assign [.Name y py] (.ListComp elt [⟨.Name x px, iter, ifs, 0⟩] scope pos) spos) env) Q E s := by
  subst hLe
  rw [exec_Assign_Name_used _ _ _ _ hsw]
  refine wpAny_bind (wpAny_standAt (wpAny_bind ?_))
  show wpAny _ A (do let _ ← comprehension (.ListComp elt [⟨.Name x px, iter, ifs, 0⟩] scope pos) scope env _ (newList []) false (eval iter env) (some (assign (.Name y py) env))) _ _ s
  refine wpAny_bind (wpAny_mono (wpAny_comprehension_free (use := some (assign (.Name y py) env)) (Q := fun _ s' => Q .next s') rfl hs hclos hkind hnames
    (wpAny_mono h (fun xv s₁ h₁ => ?_) fun _ _ e => e)) (fun _ s' hq => wpAny_pure (wpAny_pure hq)) fun _ _ e => e)
  refine comp_run (RR := fun acc C => compPost (model prog w) A E (some (assign (.Name y py) env)) (fun _ s' => Q .next s') acc C) hcell hkind hx h₁ ?_
  intro D C h' tk m' ys led F' N' _ hn hC₀ hCL offC fin
  show wpAny _ A (assign (.Name y py) env (.ref D)) _ _ _
  refine wpAny_assign_Name (wpAny_storeName_local hy F'.ns (fun h₂ hn₂ hs₂ => ?_) hp)
  have hL₀ : h₀.get? env.locals = none := Heap.get?_none_of_le F'.above
  have F₂ : Fr h₀ env.locals h₂ (fun z => if z = y then some (.ref D) else m z) := ⟨hn₂, fun b o e => hs₂.extBut b o (fun q => by rw [q, hL₀] at e; cases e) (F'.keep b o e), F'.above⟩
  refine ⟨m', hn.sameBut hs₂ hCL, fun h'' hs'' => ?_⟩
  have F₃ := F₂.change hs'' hCL hC₀
  have N₃ : News h₀ env.locals h'' led := fun p hp => ⟨hs''.extBut _ _ (offC p hp) (hs₂.extBut _ _ (N' p hp).2.1 (N' p hp).1), (N' p hp).2⟩
  exact fin h' tk F' N' h'' _ F₃ N₃
end

section
open LCg
variable {prog : Program} {w : World} {A : Around} {E : Value → Shared → Prop} {s₁ : Shared} {h₀ : Heap} {L : Addr} {m : Str → Option Value} {env : Env}
end

end
section
theorem flushLJ : True ∧ True := by (w_top off); (first | (walk1; done) | exact ⟨True.intro, True.intro⟩)
/-! a small logic over the steps: what a text gives back, the frame's map, its own entries, the tuples; heap, tokens and what follows stay inside -/
structure Cx (w : World) (cs : Scope) (cl : List (Str × Addr)) where
  loose : List Str
  mean : ExcName → Option Value
  mg : Str → Option Value
  mb : Str → Option Value
  dp : Nat
  un : Nat
  gd : Option (List Code)
  cn : Str
  L : Addr
  a : Addr
  ccd : Value
  outer : List Env
  A₀ : Around
  base : Heap
  h₀ : Heap
  B : Below A₀ base outer h₀
  X : (hd.heap_1 w.params).In h₀
  TP : Top topProg loose mean mg mb h₀
section
variable {w : World} {cs : Scope} {cl : List (Str × Addr)}
noncomputable abbrev Cx.env (c : Cx w cs cl) : Env := envX c.cn cs c.L c.a c.ccd cl
noncomputable abbrev Cx.A (c : Cx w cs cl) : Around := Ard c.dp c.un c.gd c.cn cs c.L c.a c.ccd cl c.outer
noncomputable abbrev Cx.M (_c : Cx w cs cl) : Model := model PySem.Challenge.rw_ot0007_01.row.prog w
structure At (c : Cx w cs cl) (m : Str → Option Value) (own fz rest : Led) (h : Heap) : Prop where
  F : Fr c.h₀ c.L h m
  N : News c.h₀ c.L h (own ++ (fz ++ rest))
  Z : Tups fz
noncomputable def JG {α : Type} (c : Cx w cs cl) (m : Str → Option Value) (own fz rest : Led) (t : Sem α) (P : α → Led → Led → Prop) : Prop :=
  ∀ (s : Shared) (Q : α → Shared → Prop) (E : Value → Shared → Prop), PassesOwn c.M c.A c.env E → At c m own fz rest s.heap → (∀ v o f h tk, At c m o f rest h → Sub fz f → P v o f → Q v { s with heap := h, toks := tk }) → wpAny c.M c.A t Q E s
noncomputable abbrev JE (c : Cx w cs cl) (m : Str → Option Value) (own fz rest : Led) (e : Expr) (P : Value → Led → Led → Prop) : Prop := JG c m own fz rest (eval e c.env) P
noncomputable abbrev JT (c : Cx w cs cl) (m : Str → Option Value) (own fz rest : Led) (e : Expr) (P : Bool → Led → Led → Prop) : Prop := JG c m own fz rest (isTrue e c.env (eval e c.env)) P
noncomputable abbrev JA (c : Cx w cs cl) (m : Str → Option Value) (own fz rest : Led) (pos : Pos) (es : List Expr) (P : List Value → Led → Led → Prop) : Prop := JG c m own fz rest (spliced (backTo pos (starEach es c.env))) P
noncomputable abbrev JC (c : Cx w cs cl) (m : Str → Option Value) (own fz rest : Led) (f : Value) (vs : List Value) (P : Value → Led → Led → Prop) : Prop := JG c m own fz rest (call f vs) P
noncomputable abbrev upd (m : Str → Option Value) (x : Str) (v : Value) : Str → Option Value := fun y => if y = x then some v else m y
noncomputable def JX (c : Cx w cs cl) (m : Str → Option Value) (own fz rest : Led) (b : List Stmt) (R : Flow → (Str → Option Value) → Led → Led → Prop) : Prop :=
  ∀ (s : Shared) (Q : Flow → Shared → Prop) (E : Value → Shared → Prop), PassesOwn c.M c.A c.env E → At c m own fz rest s.heap → (∀ fl m' o f h tk, At c m' o f rest h → Sub fz f → R fl m' o f → Q fl { s with heap := h, toks := tk }) → wpAny c.M c.A (execs b c.env) Q E s
variable {c : Cx w cs cl} {m : Str → Option Value} {own fz rest : Led} {pos p1 p2 p3 : Pos} {k : Nat}
section
variable {α : Type} {t : Sem α}
theorem JG.use {P P' : α → Led → Led → Prop} (j : JG c m own fz rest t P) (k : ∀ v o f, Sub fz f → P v o f → P' v o f) : JG c m own fz rest t P' := fun s Q E hE a q => j s Q E hE a fun v o f h tk a' S p => q v o f h tk a' S (k v o f S p)
end
variable {P : Value → Led → Led → Prop}
theorem JE.name {x : Str} {v : Value} (hv : m x = some v) (hp : P v own fz) (hk : cs.kind = .function := by rfl) (hx : (∀ cn L a ccd, (envX cn cs L a ccd cl).kindOf x = some .local) := by intros; rfl) (hd : (x == ("__debug__" : Str)) = false := by decide) : JE c m own fz rest (.Name x pos) P :=
  fun s _ _ hE a q => nameX_L a.F hv (q v own fz s.heap s.toks a Sub.refl hp) hk (hx ..) hd
theorem JE.str {x : Str} (hp : ∀ t, P (.str x t) own fz) : JE c m own fz rest (.Constant (.str x) k pos) P := fun s _ _ hE a q => Calls.Constant_str (q _ own fz s.heap _ a Sub.refl (hp _))
theorem JE.int {i : Int} (hp : ∀ t, P (.int i t) own fz) : JE c m own fz rest (.Constant (.int i) k pos) P := fun s _ _ hE a q => wpAny_Constant_int (q _ own fz s.heap _ a Sub.refl (hp _))
theorem JA.nil {P : List Value → Led → Led → Prop} (hp : P [] own fz) : JA c m own fz rest pos [] P := fun s _ _ hE a q => args_nil (q [] own fz s.heap s.toks a Sub.refl hp)
theorem JA.cons {e : Expr} {es : List Expr} {P : List Value → Led → Led → Prop} (j : JE c m own fz rest e (fun v o f => JA c m o f rest pos es (fun vs => P (v :: vs)))) (he : ∀ env, starEach (e :: es) env = (false, eval e env) :: starEach es env := by intro _; rfl) : JA c m own fz rest pos (e :: es) P := fun s Q E hE a q =>
  args_cons (j s _ E hE a fun v o f h tk a' S j' => j' _ _ E hE a' fun vs o' f' h' tk' a2 S' p => q (v :: vs) o' f' h' tk' a2 (S'.step S) p) (he _)
theorem JE.tuple {es : List Expr} (j : JA c m own fz rest pos es (fun vs o f => vs.length ≤ sizeLine ∧ ∀ D, P (.ref D) o ((D, tupO vs 0) :: f))) : JE c m own fz rest (.Tuple es k pos) P := fun s Q E hE a q =>
  Tuple_ (j s _ E hE a fun vs o f h tk a' S ⟨hz, hp⟩ => kup_newTuple a'.F a'.N (fun D h' F' N' _ => q (.ref D) o ((D, tupO vs 0) :: f) h' tk ⟨F', fun p hp => N' p (led_new hp), Tups.cons a'.Z⟩ (Sub.cons S) (hp D)) hz)
theorem JX.ret {e : Expr} {more : List Stmt} {R : Flow → (Str → Option Value) → Led → Led → Prop} (j : JE c m own fz rest e (fun v o f => R (.ret v) m o f)) : JX c m own fz rest (.Return (some e) pos :: more) R := fun s Q E hE a q =>
  wpAny_execs_cons (wpAny_Return_some (j s _ E hE a fun v o f h tk a' S p => q (.ret v) m o f h tk a' S p))
theorem JX.nil {R : Flow → (Str → Option Value) → Led → Led → Prop} (hp : R .next m own fz) : JX c m own fz rest [] R := fun s Q E hE a q => wpAny_execs_nil (q .next m own fz s.heap s.toks a Sub.refl hp)
theorem JX.set {x : Str} {e : Expr} {more : List Stmt} {R : Flow → (Str → Option Value) → Led → Led → Prop} (j : JE c m own fz rest e (fun v o f => JX c (upd m x v) o f rest more R)) (hk : cs.kind = .function := by rfl) (hx : (∀ cn L a ccd, (envX cn cs L a ccd cl).kindOf x = some .local) := by intros; rfl)
    (hs : ∀ env, swapsWith e (some (.Name x p1)) pos.line env = pure false := by intro _; rfl) : JX c m own fz rest (.Assign [.Name x p1] e pos :: more) R := fun s Q E hE a q =>
  wpAny_execs_cons (wpAny_Assign_Name (j s _ E hE a fun v o f h tk a' S j' => storeX_L a'.F a'.N (fun h' F' N' => j' _ _ E hE ⟨F', N', a'.Z⟩ fun fl m' o' f' h2 tk2 a2 S2 r => q fl m' o' f' h2 tk2 a2 (S2.step S) r) hk (hx ..)) (hs _))
theorem JX.ite {test : Expr} {body orelse more : List Stmt} {R : Flow → (Str → Option Value) → Led → Led → Prop}
    (j : JT c m own fz rest test (fun b o f => JX c m o f rest (if b = true then body else orelse) (fun fl m' o' f' => match fl with | .next => JX c m' o' f' rest more R | fl => R fl m' o' f'))) : JX c m own fz rest (.If test body orelse pos :: more) R := fun s Q E hE a q =>
  wpAny_execs_cons (wpAny_If (j s _ E hE a fun b o f h tk a' S j' => by
    have J := j' { s with heap := h, toks := tk } (fun f s' => match f with | .next => wpAny c.M c.A (execs more c.env) Q E s' | f => Q f s') E hE a' fun fl m' o' f' h2 tk2 a2 S2 r => by
      cases fl with
      | next => exact r _ Q E hE a2 fun fl3 m3 o3 f3 h3 tk3 a3 S3 r3 => q fl3 m3 o3 f3 h3 tk3 a3 ((S3.step S2).step S) r3
      | ret v => exact q _ m' o' f' h2 tk2 a2 (S2.step S) r
      | brk => exact q _ m' o' f' h2 tk2 a2 (S2.step S) r
      | cont => exact q _ m' o' f' h2 tk2 a2 (S2.step S) r
    cases b
    · exact J
    · exact J))
theorem JX.ifr {test e : Expr} {more : List Stmt} {R : Flow → (Str → Option Value) → Led → Led → Prop}
    (j : JT c m own fz rest test (fun b o f => (b = true → JE c m o f rest e (fun v o f => R (.ret v) m o f)) ∧ (b = false → JX c m o f rest more R))) : JX c m own fz rest (.If test [.Return (some e) p1] [] pos :: more) R := fun s Q E hE a q =>
  wpAny_execs_cons (wpAny_If (j s _ E hE a fun b o f h tk a' S j' => by
    cases b with
    | true =>
      rw [if_pos rfl]
      exact wpAny_execs_cons (wpAny_Return_some (j'.1 rfl _ _ E hE a' fun v o2 f2 h2 tk2 a2 S2 p => q (.ret v) m o2 f2 h2 tk2 a2 (S2.step S) p))
    | false =>
      rw [if_neg Bool.false_ne_true]
      exact wpAny_execs_nil (j'.2 rfl _ Q E hE a' fun fl m2 o2 f2 h2 tk2 a2 S2 p => q fl m2 o2 f2 h2 tk2 a2 (S2.step S) p)))
theorem JE.ite {test a b : Expr} (j : JT c m own fz rest test (fun t o f => JE c m o f rest (if t = true then a else b) P)) : JE c m own fz rest (.IfExp test a b pos) P := fun s Q E hE at' q =>
  wpAny_IfExp (j s _ E hE at' fun t o f h tk a' S j' => by
    have J := j' { s with heap := h, toks := tk } Q E hE a' fun v o' f' h' tk' a2 S2 p => q v o' f' h' tk' a2 (S2.step S) p
    cases t
    · exact J
    · exact J)
theorem JT.eq {e : Expr} {x : Str} {P : Bool → Led → Led → Prop} (j : JE c m own fz rest e (fun v o f => ∃ y t, v = .str y t ∧ P (y == x) o f)) : JT c m own fz rest (.Compare e [.Eq] [.Constant (.str x) k p1] p2) P := fun s Q E hE a q =>
  wpAny_isTrue_Compare1 (j s _ E hE a fun v o f h tk a' S p => by
    obtain ⟨y, t, rfl, hp⟩ := p
    exact Calls.Constant_str (eq_str_B rfl (wpAny_truthy_bool (q _ o f h _ a' S hp))))
theorem JT.or {e1 e2 : Expr} {P : Bool → Led → Led → Prop} (j : JT c m own fz rest e1 (fun b o f => (b = true → P true o f) ∧ (b = false → JT c m o f rest e2 P))) : JT c m own fz rest (.BoolOp .Or [e1, e2] pos) P := fun s Q E hE a q =>
  wpAny_isTrue_BoolOp (wpAny_allTrue_Or_cons (j s _ E hE a fun b o f h tk a' S p => by
    cases b with
    | true => exact q true o f h tk a' S (p.1 rfl)
    | false =>
      refine wpAny_allTrue_Or_cons (p.2 rfl _ _ E hE a' fun b2 o2 f2 h2 tk2 a2 S2 p2 => ?_)
      cases b2 with
      | true => exact q true o2 f2 h2 tk2 a2 (S2.step S) p2
      | false => exact wpAny_allTrue_Or_nil (q false o2 f2 h2 tk2 a2 (S2.step S) p2)))
/-- entering a def without cells -/
theorem tel_def {f : Addr} {vs : List Value} {d : Nat} {P : Value → Led → Prop} {name qual : Str} {params : Arguments} {body : List Stmt} {scope : Scope} {dV kV doc pm cdv ct oc : Value} {an od : Option Addr} {osl : Array (Option Value)} {binds : List (Str × Value)}
    (ho : (hd.heap_1 w.params).lookup f = some ⟨oc, od, .func (fnOf name qual params body scope dV kV doc pm an cdv ct), osl⟩) (hcd : codeIn (hd.heap_1 w.params) cdv qual = true)
    (hbind : ∀ s, BindsTo s (fnOf name qual params body scope dV kV doc pm an cdv ct) ⟨vs, []⟩ binds) (hloc : ∀ y ∈ binds, scope.names.lookup y.1 = some .local) (hco : scope.isCoroutine = false) (hgen : scope.isGenerator = false) (hkd : scope.kind = .function) (hcell : ∀ x ∈ scope.names, x.2 ≠ .cell) (hz : Tups fz)
    (j : ∀ (c : Cx w scope []) (m : Str → Option Value) (R : Flow → (Str → Option Value) → Led → Led → Prop), c.dp + d < recursionLimit + 1 → c.un + 8 * d < cLine + 8 → (∀ y, m y = binds.reverse.lookup y) → (∀ v m o f, P v f → R (.ret v) m o f) → JX c m [] fz rest body R) (hnn : ∀ m o f, (fun fl _ _ f => P (match fl with | .ret v => v | _ => .none) f : Flow → (Str → Option Value) → Led → Led → Prop) .next m o f → P .none f := by intros; assumption) : Tel w f vs fz rest d P := by
  intro loose mean mg mb dp un gd cn cs a ccd cl outer A₀ base h₀ L m s Q E B F X N T hk hdp hu hret
  refine wpAny_call ?_
  refine code_def B F X N T rfl rfl hk ho hcd ?_ (hbind s) hloc ?_ hco hgen hkd hcell
  · show dp < recursionLimit; omega
  · intro g' L' h' FG' F' N' B' X' T'
    let c : Cx w scope [] := { loose, mean, mg, mb, dp := dp + 1, un := un + 3, gd := ((Ard dp un gd cn cs L a ccd cl outer).deeper (envOf qual scope L' f cdv)).guards, cn := qual, L := L', a := f, ccd := cdv, outer := envX cn cs L a ccd cl :: outer, A₀ := _, base, h₀ := g', B := B', X := X', TP := T' }
    refine j c (fun y => binds.reverse.lookup y) (fun fl _ _ f => P (match fl with | .ret v => v | _ => .none) f) (by show dp + 1 + d < _; omega) (by show un + 3 + 8 * d < _; omega) (fun _ => rfl) (fun _ _ _ _ p => p) _ _ _ ?hE ⟨F', by simpa using N', hz⟩ fun fl m' o f' h2 tk2 a2 S2 r => ?_
    case hE => with_unfolding_all passes_own
    exact leaveK_ a2.F a2.N fun kF kN => hret _ f' h2 tk2 kF (fun p hp => kN p (List.mem_append.mpr (.inr hp))) S2 a2.Z r
end

end
section
theorem flushLJ2 : True ∧ True := by (w_top off); (first | (walk1; done) | exact ⟨True.intro, True.intro⟩)
/-! expressions that leave only tokens behind, and whole statements over them -/
section
variable {w : World} {cs : Scope} {cl : List (Str × Addr)} {c : Cx w cs cl} {m : Str → Option Value} {own fz rest : Led} {pos p1 p2 p3 p4 p5 : Pos} {k k2 : Nat}
noncomputable def EV (c : Cx w cs cl) (m : Str → Option Value) (own fz rest : Led) (e : Expr) (f : Tok → Value) : Prop := ∀ (s : Shared) (Q E : Value → Shared → Prop), PassesOwn c.M c.A c.env E → At c m own fz rest s.heap → (∀ t tk, Q (f t) { s with toks := tk }) → wpAny c.M c.A (eval e c.env) Q E s
theorem EV.name {x : Str} {v : Value} (hv : m x = some v) (hk : cs.kind = .function := by rfl) (hx : (∀ cn L a ccd, (envX cn cs L a ccd cl).kindOf x = some .local) := by intros; rfl) (hd : (x == ("__debug__" : Str)) = false := by decide) : EV c m own fz rest (.Name x pos) (fun _ => v) :=
  fun s _ _ hE a q => nameX_L a.F hv (q 0 s.toks) hk (hx ..) hd
theorem EV.str {x : Str} : EV c m own fz rest (.Constant (.str x) k pos) (fun t => .str x t) := fun _ _ _ _ _ q => Calls.Constant_str (q _ _)
theorem EV.int {i : Int} : EV c m own fz rest (.Constant (.int i) k pos) (fun t => .int i t) := fun _ _ _ _ _ q => wpAny_Constant_int (q _ _)
theorem EV.sub {x : Str} {i : Int} {b : Addr} {vs : List Value} {n : Nat} {v : Value} (hv : m x = some (.ref b)) (hm : (b, tupO vs n) ∈ fz) (hi : vs[i.toNat]? = some v) (h0 : 0 ≤ i := by decide) (hb : i < 2 ^ 63 := by decide)
    (hs : ∀ b u, subscripted (.Constant (.int i) k p2) false (.ref b) (.int i u) = operate [.ref b, .int i u] (getItem (.ref b) (.int i u)) := by intro _ _; with_unfolding_all rfl) (hk : cs.kind = .function := by rfl) (hx : (∀ cn L a ccd, (envX cn cs L a ccd cl).kindOf x = some .local) := by intros; rfl) (hd : (x == ("__debug__" : Str)) = false := by decide) :
    EV c m own fz rest (.Subscript (.Name x p1) (.Constant (.int i) k p2) p3) (fun _ => v) := fun _ _ _ hE a q =>
  Subscript_ (nameX_L a.F hv (wpAny_Constant_int (sub_tup a.N (List.mem_append.mpr (.inr (List.mem_append.mpr (.inl hm)))) h0 hb hi (q 0 _) (hs _ _))) hk (hx ..) hd)
theorem EV.subL {x : Str} {i : Int} {b : Addr} {vs : List Value} {n : Nat} {v : Value} (hv : m x = some (.ref b)) (hm : (b, PySem.W.listOf vs.toArray n) ∈ rest) (hi : vs[i.toNat]? = some v) (h0 : 0 ≤ i := by decide) (hb : i < 2 ^ 63 := by decide)
    (hs : ∀ b u, subscripted (.Constant (.int i) k p2) false (.ref b) (.int i u) = operate [.ref b, .int i u] (getItem (.ref b) (.int i u)) := by intro _ _; with_unfolding_all rfl) (hk : cs.kind = .function := by rfl) (hx : (∀ cn L a ccd, (envX cn cs L a ccd cl).kindOf x = some .local) := by intros; rfl) (hd : (x == ("__debug__" : Str)) = false := by decide) :
    EV c m own fz rest (.Subscript (.Name x p1) (.Constant (.int i) k p2) p3) (fun _ => v) := fun _ _ _ hE a q =>
  Subscript_ (nameX_L a.F hv (wpAny_Constant_int (sub_list a.N (List.mem_append.mpr (.inr (List.mem_append.mpr (.inr hm)))) h0 hb hi (q 0 _) (hs _ _))) hk (hx ..) hd)
variable {P : Value → Led → Led → Prop} {R : Flow → (Str → Option Value) → Led → Led → Prop} {e e1 e2 e3 e4 : Expr} {f f1 f2 f3 f4 : Tok → Value}
theorem JE.V (V : EV c m own fz rest e f) (hp : ∀ t, P (f t) own fz) : JE c m own fz rest e P := fun _ _ _ hE a q => V _ _ _ hE a fun t tk => q _ _ _ _ tk a Sub.refl (hp t)
theorem JX.setV {x : Str} {more : List Stmt} (V : EV c m own fz rest e f) (j : ∀ t, JX c (upd m x (f t)) own fz rest more R) (hk : cs.kind = .function := by rfl) (hx : (∀ cn L a ccd, (envX cn cs L a ccd cl).kindOf x = some .local) := by intros; rfl)
    (hs : ∀ env, swapsWith e (some (.Name x p1)) pos.line env = pure false := by intro _; rfl) : JX c m own fz rest (.Assign [.Name x p1] e pos :: more) R := JX.set (JE.V V j) hk hx hs
theorem JX.retV {more : List Stmt} (V : EV c m own fz rest e f) (hp : ∀ t, R (.ret (f t)) m own fz) : JX c m own fz rest (.Return (some e) pos :: more) R := JX.ret (JE.V V hp)
theorem JT.eqV {x y : Str} {u : Tok} {P : Bool → Led → Led → Prop} (V : EV c m own fz rest e (fun _ => .str y u)) (hp : P (y == x) own fz) : JT c m own fz rest (.Compare e [.Eq] [.Constant (.str x) k p1] p2) P := JT.eq (JE.V V fun _ => ⟨y, u, rfl, hp⟩)
theorem JX.ifrV {x y : Str} {u : Tok} {er : Expr} {more : List Stmt} (V : EV c m own fz rest e (fun _ => .str y u)) (h1 : (y == x) = true → JE c m own fz rest er (fun v => R (.ret v) m)) (h2 : (y == x) = false → JX c m own fz rest more R) :
    JX c m own fz rest (.If (.Compare e [.Eq] [.Constant (.str x) k p1] p2) [.Return (some er) p3] [] pos :: more) R := JX.ifr (JT.eqV V ⟨h1, h2⟩)
theorem JX.ifr2V {x x2 y : Str} {u : Tok} {er : Expr} {more : List Stmt} (V : EV c m own fz rest e (fun _ => .str y u)) (V2 : EV c m own fz rest e2 (fun _ => .str y u)) (h1 : (y == x) = true → JE c m own fz rest er (fun v => R (.ret v) m)) (h3 : (y == x) = false → (y == x2) = true → JE c m own fz rest er (fun v => R (.ret v) m)) (h2 : (y == x) = false → (y == x2) = false → JX c m own fz rest more R) :
    JX c m own fz rest (.If (.BoolOp .Or [.Compare e [.Eq] [.Constant (.str x) k p1] p2, .Compare e2 [.Eq] [.Constant (.str x2) k2 p4] p5] p3) [.Return (some er) p3] [] pos :: more) R :=
  JX.ifr (JT.or (JT.eqV V ⟨fun h => ⟨fun _ => h1 h, nofun⟩, fun h => JT.eqV V2 ⟨h3 h, h2 h⟩⟩))
theorem JE.iteV {x y : Str} {u : Tok} {a b : Expr} (V : EV c m own fz rest e (fun _ => .str y u)) (h1 : (y == x) = true → JE c m own fz rest a P) (h2 : (y == x) = false → JE c m own fz rest b P) : JE c m own fz rest (.IfExp (.Compare e [.Eq] [.Constant (.str x) k p1] p2) a b pos) P :=
  JE.ite (JT.eqV V (by cases h : (y == x) with
    | true => exact h1 h
    | false => exact h2 h))
theorem JE.tup0 (h : ∀ D, P (.ref D) own ((D, tupO [] 0) :: fz)) : JE c m own fz rest (.Tuple [] k pos) P := JE.tuple (JA.nil ⟨Nat.le_of_ble_eq_true rfl, h⟩)
theorem JE.tup1 (V1 : EV c m own fz rest e1 f1) (h : ∀ t1 D, P (.ref D) own ((D, tupO [f1 t1] 0) :: fz)) (h1 : ∀ env, starEach [e1] env = (false, eval e1 env) :: starEach [] env := by intro _; rfl) : JE c m own fz rest (.Tuple [e1] k pos) P :=
  JE.tuple (JA.cons (JE.V V1 fun t1 => JA.nil ⟨Nat.le_of_ble_eq_true rfl, h t1⟩) h1)
theorem JE.tup2 (V1 : EV c m own fz rest e1 f1) (V2 : EV c m own fz rest e2 f2) (h : ∀ t1 t2 D, P (.ref D) own ((D, tupO [f1 t1, f2 t2] 0) :: fz)) (h1 : ∀ env, starEach [e1, e2] env = (false, eval e1 env) :: starEach [e2] env := by intro _; rfl) (h2 : ∀ env, starEach [e2] env = (false, eval e2 env) :: starEach [] env := by intro _; rfl) : JE c m own fz rest (.Tuple [e1, e2] k pos) P :=
  JE.tuple (JA.cons (JE.V V1 fun t1 => JA.cons (JE.V V2 fun t2 => JA.nil ⟨Nat.le_of_ble_eq_true rfl, h t1 t2⟩) h2) h1)
theorem JE.tup3 (V1 : EV c m own fz rest e1 f1) (V2 : EV c m own fz rest e2 f2) (V3 : EV c m own fz rest e3 f3) (h : ∀ t1 t2 t3 D, P (.ref D) own ((D, tupO [f1 t1, f2 t2, f3 t3] 0) :: fz)) (h1 : ∀ env, starEach [e1, e2, e3] env = (false, eval e1 env) :: starEach [e2, e3] env := by intro _; rfl) (h2 : ∀ env, starEach [e2, e3] env = (false, eval e2 env) :: starEach [e3] env := by intro _; rfl) (h3 : ∀ env, starEach [e3] env = (false, eval e3 env) :: starEach [] env := by intro _; rfl) : JE c m own fz rest (.Tuple [e1, e2, e3] k pos) P :=
  JE.tuple (JA.cons (JE.V V1 fun t1 => JA.cons (JE.V V2 fun t2 => JA.cons (JE.V V3 fun t3 => JA.nil ⟨Nat.le_of_ble_eq_true rfl, h t1 t2 t3⟩) h3) h2) h1)
/-- a tuple whose last element is no plain one -/
theorem JE.tup2E (V1 : EV c m own fz rest e1 f1) (j : JE c m own fz rest e2 (fun v o f => ∀ t1 D, P (.ref D) o ((D, tupO [f1 t1, v] 0) :: f))) (h1 : ∀ env, starEach [e1, e2] env = (false, eval e1 env) :: starEach [e2] env := by intro _; rfl) (h2 : ∀ env, starEach [e2] env = (false, eval e2 env) :: starEach [] env := by intro _; rfl) : JE c m own fz rest (.Tuple [e1, e2] k pos) P :=
  JE.tuple (JA.cons (JE.V V1 fun t1 => JA.cons (j.use fun v o f _ h => JA.nil ⟨Nat.le_of_ble_eq_true rfl, h t1⟩) h2) h1)
theorem JE.tup4 (V1 : EV c m own fz rest e1 f1) (V2 : EV c m own fz rest e2 f2) (V3 : EV c m own fz rest e3 f3) (V4 : EV c m own fz rest e4 f4) (h : ∀ t1 t2 t3 t4 D, P (.ref D) own ((D, tupO [f1 t1, f2 t2, f3 t3, f4 t4] 0) :: fz)) (h1 : ∀ env, starEach [e1, e2, e3, e4] env = (false, eval e1 env) :: starEach [e2, e3, e4] env := by intro _; rfl) (h2 : ∀ env, starEach [e2, e3, e4] env = (false, eval e2 env) :: starEach [e3, e4] env := by intro _; rfl) (h3 : ∀ env, starEach [e3, e4] env = (false, eval e3 env) :: starEach [e4] env := by intro _; rfl) (h4 : ∀ env, starEach [e4] env = (false, eval e4 env) :: starEach [] env := by intro _; rfl) : JE c m own fz rest (.Tuple [e1, e2, e3, e4] k pos) P :=
  JE.tuple (JA.cons (JE.V V1 fun t1 => JA.cons (JE.V V2 fun t2 => JA.cons (JE.V V3 fun t3 => JA.cons (JE.V V4 fun t4 => JA.nil ⟨Nat.le_of_ble_eq_true rfl, h t1 t2 t3 t4⟩) h4) h3) h2) h1)
theorem JE.tup4E (V1 : EV c m own fz rest e1 f1) (V2 : EV c m own fz rest e2 f2) (V3 : EV c m own fz rest e3 f3) (j : JE c m own fz rest e4 (fun v o f => ∀ t1 t2 t3 D, P (.ref D) o ((D, tupO [f1 t1, f2 t2, f3 t3, v] 0) :: f))) (h1 : ∀ env, starEach [e1, e2, e3, e4] env = (false, eval e1 env) :: starEach [e2, e3, e4] env := by intro _; rfl) (h2 : ∀ env, starEach [e2, e3, e4] env = (false, eval e2 env) :: starEach [e3, e4] env := by intro _; rfl) (h3 : ∀ env, starEach [e3, e4] env = (false, eval e3 env) :: starEach [e4] env := by intro _; rfl) (h4 : ∀ env, starEach [e4] env = (false, eval e4 env) :: starEach [] env := by intro _; rfl) : JE c m own fz rest (.Tuple [e1, e2, e3, e4] k pos) P :=
  JE.tuple (JA.cons (JE.V V1 fun t1 => JA.cons (JE.V V2 fun t2 => JA.cons (JE.V V3 fun t3 => JA.cons (j.use fun v o f _ h => JA.nil ⟨Nat.le_of_ble_eq_true rfl, h t1 t2 t3⟩) h4) h3) h2) h1)
end

end
section
theorem flushLJ3 : True ∧ True := by (w_top off); (first | (walk1; done) | exact ⟨True.intro, True.intro⟩)
/-! tuple(list), in the small logic -/
section
variable {prog : Program} {w : World} {A : Around} {E : Value → Shared → Prop} {s : Shared} {h₀ : Heap} {L : Addr} {m : Str → Option Value} {led : Led} {Q : Value → Shared → Prop}
theorem tuple_L {a : Addr} {vs : List Value} {i : Nat} (F : Fr h₀ L s.heap m) (N : News h₀ L s.heap led) (ha : (a, PySem.W.listOf vs.toArray i) ∈ led) (hn : vs.length ≤ 16384)
    (h : ∀ D h', Fr h₀ L h' m → News h₀ L h' ((D, tupO vs 0) :: led) → (∀ p ∈ led, p.1 < D) → Q (.ref D) { s with heap := h' }) : wpAny (model prog w) A (call (.type "tuple") [.ref a]) Q E s :=
  kde_tupleOf F N (N.isList ha) (by simpa using hn) (by simp) h
end
section
variable {w : World} {cs : Scope} {cl : List (Str × Addr)} {c : Cx w cs cl} {m : Str → Option Value} {own fz rest : Led} {pos p1 p2 p3 p4 p5 : Pos} {k k2 : Nat} {P : Value → Led → Led → Prop}
theorem JE.tupleOf {x : Str} {b : Addr} {vs : List Value} {n : Nat} (hv : m x = some (.ref b)) (hm : (b, PySem.W.listOf vs.toArray n) ∈ rest) (hn : vs.length ≤ 16384) (h : ∀ D, P (.ref D) own ((D, tupO vs 0) :: fz))
    (hk : cs.kind = .function := by rfl) (hx : (∀ cn L a ccd, (envX cn cs L a ccd cl).kindOf x = some .local) := by intros; rfl) (hd : (x == ("__debug__" : Str)) = false := by decide) (hx2 : (∀ cn L a ccd, (envX cn cs L a ccd cl).kindOf (Str.ofString "tuple") = some .globalImplicit) := by intros; rfl) :
    JE c m own fz rest (.Call (.Name (Str.ofString "tuple") p1) [.Name x p2] [] pos) P := by
  have kf9 : Mine.hd.heap_1 w.params = Mine.hd.heap_1 w.params ∧ PySem.Challenge.rw_ot0007_01 = PySem.Challenge.rw_ot0007_01 := by k_fill; exact ⟨rfl, rfl⟩
  clear kf9
  intro s Q E hE a q
  have F := a.F
  have X := c.X
  have T := c.TP
  refine Call_ (nameX_B F X (topRead_of T) (by k_is) (v := .type "tuple") (by boot_by_name) (by decide) ?_ hk (hx2 ..))
  iterate 1 walk1
  refine args_cons (nameX_L F hv (args_nil ?_) hk (hx ..) hd)
  refine tuple_L F a.N (List.mem_append.mpr (.inr (List.mem_append.mpr (.inr hm)))) hn fun D h' F' N' _ => q (.ref D) own ((D, tupO vs 0) :: fz) h' _ ⟨F', fun p hp => N' p (led_new hp), Tups.cons a.Z⟩ (Sub.cons Sub.refl) (h D)
end

end
section
theorem flushLJK : True ∧ True := by (w_top off); (first | (walk1; done) | exact ⟨True.intro, True.intro⟩)
/-! a type's tuple, kind by kind -/
inductive RefIs (fz : Led) (a : Addr) (r : Reg) (b : Bool) (T : Ty) : Prop
  | mk {n t rv x} : (a, tupO [.str (S "ref") t, rv, .bool b, x] n) ∈ fz → RegV rv r → TyIn fz x T → RefIs fz a r b T
inductive BoxIs (fz : Led) (a : Addr) (T : Ty) : Prop
  | mk {n t x} : (a, tupO [.str (S "box") t, x] n) ∈ fz → TyIn fz x T → BoxIs fz a T
inductive ArrIs (fz : Led) (a : Addr) (T : Ty) : Prop
  | mk {n t u x} : (a, tupO [.str (S "array") t, x, .int 2 u] n) ∈ fz → TyIn fz x T → ArrIs fz a T
inductive TupIs (fz : Led) (a : Addr) (Ts : List Ty) : Prop
  | mk {n t b k vs} : (a, tupO [.str (S "tuple") t, .ref b] n) ∈ fz → (b, tupO vs k) ∈ fz → TyAll fz vs Ts → TupIs fz a Ts
inductive AdtIs (fz : Led) (a : Addr) (r q : Reg) (Ts : List Ty) : Prop
  | mk {n t u b k c j rv qv vs} : (a, tupO [.str (S "adt") t, .str (S "m::A") u, .ref c, .ref b] n) ∈ fz → (c, tupO [rv, qv] j) ∈ fz → (b, tupO vs k) ∈ fz → RegV rv r → RegV qv q → TyAll fz vs Ts → AdtIs fz a r q Ts
/-- what the kind's word tells -/
inductive ByKind (fz : Led) (a : Addr) (T : Ty) : Prop
  | ref {r b U} : T = .ref r b U → kindS T = S "ref" → RefIs fz a r b U → ByKind fz a T
  | box {U} : T = .box U → kindS T = S "box" → BoxIs fz a U → ByKind fz a T
  | arr {U} : T = .array U → kindS T = S "array" → ArrIs fz a U → ByKind fz a T
  | tup : kindS T = S "tuple" → TupIs fz a (kids T) → ByKind fz a T
  | adt {r q U V} : T = .adt r q U V → kindS T = S "adt" → AdtIs fz a r q [U, V] → ByKind fz a T
  | leaf : kids T = [] → (kindS T = S "param" ∨ kindS T = S "int" ∨ kindS T = S "bool" ∨ kindS T = S "never" ∨ kindS T = S "var" ∨ kindS T = S "intvar") → ByKind fz a T
theorem TyIn.by {fz : Led} {a : Addr} {T : Ty} (h : TyIn fz (.ref a) T) : ByKind fz a T := by
  cases h with
  | param _ => exact .leaf rfl (.inl rfl)
  | int _ => exact .leaf rfl (.inr (.inl rfl))
  | bool _ => exact .leaf rfl (.inr (.inr (.inl rfl)))
  | never _ => exact .leaf rfl (.inr (.inr (.inr (.inl rfl))))
  | unit h g => exact .tup rfl (.mk h g .nil)
  | var _ => exact .leaf rfl (.inr (.inr (.inr (.inr (.inl rfl)))))
  | intvar _ => exact .leaf rfl (.inr (.inr (.inr (.inr (.inr rfl)))))
  | ref h r k => exact .ref rfl rfl (.mk h r k)
  | box h k => exact .box rfl rfl (.mk h k)
  | array h k => exact .arr rfl rfl (.mk h k)
  | pair h g k l => exact .tup rfl (.mk h g (.cons k (.cons l .nil)))
  | adt h g k r q t u => exact .adt rfl rfl (.mk h g k r q (.cons t (.cons u .nil)))
inductive IsRef (fz : Led) (a : Addr) : Ty → Prop
  | mk {r b U} : RefIs fz a r b U → IsRef fz a (.ref r b U)
inductive IsBox (fz : Led) (a : Addr) : Ty → Prop
  | mk {U} : BoxIs fz a U → IsBox fz a (.box U)
inductive IsArr (fz : Led) (a : Addr) : Ty → Prop
  | mk {U} : ArrIs fz a U → IsArr fz a (.array U)
inductive IsAdt (fz : Led) (a : Addr) : Ty → Prop
  | mk {r q U V} : AdtIs fz a r q [U, V] → IsAdt fz a (.adt r q U V)
theorem word {x y : Str} {P : Prop} (e : y = x) {z : Str} {b : Bool} (h : (y == z) = b) (hb : (x == z) = !b := by decide +kernel) : P := by subst e; rw [h] at hb; cases b <;> cases hb
section
variable {fz : Led} {a : Addr} {T : Ty}
theorem leafW {z : Str} {P : Prop} (h : kindS T = S "param" ∨ kindS T = S "int" ∨ kindS T = S "bool" ∨ kindS T = S "never" ∨ kindS T = S "var" ∨ kindS T = S "intvar") (hz : (kindS T == z) = true) (n : (S "param" == z) = false ∧ (S "int" == z) = false ∧ (S "bool" == z) = false ∧ (S "never" == z) = false ∧ (S "var" == z) = false ∧ (S "intvar" == z) = false := by decide +kernel) : P := by
  rcases h with h | h | h | h | h | h <;> rw [h] at hz
  · rw [n.1] at hz; cases hz
  · rw [n.2.1] at hz; cases hz
  · rw [n.2.2.1] at hz; cases hz
  · rw [n.2.2.2.1] at hz; cases hz
  · rw [n.2.2.2.2.1] at hz; cases hz
  · rw [n.2.2.2.2.2] at hz; cases hz
theorem kRef (h : ByKind fz a T) (k : (kindS T == Str.ofString "ref") = true) : IsRef fz a T := by
  cases h with
  | ref e _ d => exact e ▸ .mk d
  | box _ e d => exact word e k
  | arr _ e d => exact word e k
  | tup e d => exact word e k
  | adt _ e d => exact word e k
  | leaf e d => exact leafW d k
theorem kBox (h : ByKind fz a T) (k : (kindS T == Str.ofString "box") = true) : IsBox fz a T := by
  cases h with
  | ref _ e d => exact word e k
  | box e _ d => exact e ▸ .mk d
  | arr _ e d => exact word e k
  | tup e d => exact word e k
  | adt _ e d => exact word e k
  | leaf e d => exact leafW d k
theorem kArr (h : ByKind fz a T) (k : (kindS T == Str.ofString "array") = true) : IsArr fz a T := by
  cases h with
  | ref _ e d => exact word e k
  | box _ e d => exact word e k
  | arr e _ d => exact e ▸ .mk d
  | tup e d => exact word e k
  | adt _ e d => exact word e k
  | leaf e d => exact leafW d k
theorem kTup (h : ByKind fz a T) (k : (kindS T == Str.ofString "tuple") = true) : TupIs fz a (kids T) := by
  cases h with
  | ref _ e d => exact word e k
  | box _ e d => exact word e k
  | arr _ e d => exact word e k
  | tup e d => exact d
  | adt _ e d => exact word e k
  | leaf e d => exact leafW d k
theorem kAdt (h : ByKind fz a T) (k : (kindS T == Str.ofString "adt") = true) : IsAdt fz a T := by
  cases h with
  | ref _ e d => exact word e k
  | box _ e d => exact word e k
  | arr _ e d => exact word e k
  | tup e d => exact word e k
  | adt e _ d => exact e ▸ .mk d
  | leaf e d => exact leafW d k
theorem kLeaf (h : ByKind fz a T) (h1 : (kindS T == Str.ofString "ref") = false) (h2 : (kindS T == Str.ofString "box") = false) (h3 : (kindS T == Str.ofString "array") = false) (h4 : (kindS T == Str.ofString "tuple") = false) (h5 : (kindS T == Str.ofString "adt") = false) : kids T = [] := by
  cases h with
  | ref _ e d => exact word e h1
  | box _ e d => exact word e h2
  | arr _ e d => exact word e h3
  | tup e d => exact word e h4
  | adt _ e d => exact word e h5
  | leaf e d => exact e
end
theorem kids_two (T : Ty) : (kids T).length ≤ 2 := by cases T <;> exact Nat.le_of_ble_eq_true rfl
inductive IsParam (fz : Led) (a : Addr) : Ty → Prop
  | mk {n t u x} : (a, tupO [.str (S "param") t, .str (pname x) u] n) ∈ fz → IsParam fz a (.param x)
set_option tactic.hygienic true in
theorem kParam {fz : Led} {a : Addr} {T : Ty} (h : TyIn fz (.ref a) T) (k : (kindS T == Str.ofString "param") = true) : IsParam fz a T := by
  cases h
  case param h => exact .mk h
  all_goals exact absurd k (by show ¬ ((S _ == S _) = true); decide +kernel)

end
section
theorem flushLParts : True ∧ True := by (w_top off); (first | (walk1; done) | exact ⟨True.intro, True.intro⟩)
theorem Tel.postS {w : World} {f : Addr} {vs : List Value} {fz rest : Led} {d : Nat} {P P' : Value → Led → Prop} (h : Tel w f vs fz rest d P) (k : ∀ r fz', Sub fz fz' → P r fz' → P' r fz') : Tel w f vs fz rest d P' :=
  fun loose mean mg mb dp un gd cn cs a ccd cl outer A₀ base h₀ L m s Q E B F X N T hk hd hu hret => h loose mean mg mb dp un gd cn cs a ccd cl outer A₀ base h₀ L m s Q E B F X N T hk hd hu fun r fz' h' tk' F' N' S' Z' p => hret r fz' h' tk' F' N' S' Z' (k _ _ S' p)
inductive KidsSub (fz0 : Led) (Ts : List Ty) (v : Value) (fz : Led) : Prop
  | mk {b vs k} : v = .ref b → (b, tupO vs k) ∈ fz → TyAll fz0 vs Ts → KidsSub fz0 Ts v fz
theorem parts_sub_tel {w : World} {v : Value} {T : Ty} {fz0 fz rest : Led} (h0 : Sub fz0 fz) (hT : TyIn fz0 v T) (hz : Tups fz) : Tel w 21 [v] fz rest 4 (KidsSub fz0 (kids T)) := by
  obtain ⟨a, t, more, n, rfl, hm⟩ := hT.head
  replace hm := h0.sub _ hm
  replace hT := hT.by
  have kf9 : Mine.hd.heap_1 w.params = Mine.hd.heap_1 w.params ∧ PySem.Challenge.rw_ot0007_01 = PySem.Challenge.rw_ot0007_01 := by k_fill; exact ⟨rfl, rfl⟩
  clear kf9
  refine' tel_def ?a0 ?a1 (fun _ => ?a2) ?a3 ?a4 ?a5 ?a6 ?a7 (hz) ?_
  case a0 => k_is
  case a1 => k_is
  case a2 => exact BindsTo.of_eq rfl
  case a3 => exact locs rfl
  case a4 => exact rfl
  case a5 => exact rfl
  case a6 => exact rfl
  case a7 => decide
  intro c m R _ _ hb hR
  have ht : m (Str.ofString "told") = some (.ref a) := hb _
  clear hb
  refine JX.setV (EV.sub ht hm rfl) fun _ => JX.ifrV (EV.name rfl) ?_ fun h1 => JX.ifr2V (EV.name rfl) (EV.name rfl) ?_ ?_ fun h2 h3 => JX.ifrV (EV.name rfl) ?_ fun h4 => JX.ret (JE.iteV (EV.name rfl) ?_ ?_)
  · intro h1
    obtain ⟨⟨h1, h2, h3⟩⟩ := kRef hT h1
    exact JE.tup1 (EV.sub ht (h0.sub _ h1) rfl) fun _ D => hR _ _ _ _ (.mk rfl (List.mem_cons_self ..) (.cons h3 .nil))
  · intro h1
    obtain ⟨⟨h1, h3⟩⟩ := kBox hT h1
    exact JE.tup1 (EV.sub ht (h0.sub _ h1) rfl) fun _ D => hR _ _ _ _ (.mk rfl (List.mem_cons_self ..) (.cons h3 .nil))
  · intro _ h1
    obtain ⟨⟨h1, h3⟩⟩ := kArr hT h1
    exact JE.tup1 (EV.sub ht (h0.sub _ h1) rfl) fun _ D => hR _ _ _ _ (.mk rfl (List.mem_cons_self ..) (.cons h3 .nil))
  · intro h1
    obtain ⟨h1, h2, h3⟩ := kTup hT h1
    exact JE.V (EV.sub ht (h0.sub _ h1) rfl) fun _ => hR _ _ _ _ (.mk rfl (h0.sub _ h2) h3)
  · intro h1
    obtain ⟨⟨h1, h2, h3, h4, h5, h6⟩⟩ := kAdt hT h1
    exact JE.V (EV.sub ht (h0.sub _ h1) rfl) fun _ => hR _ _ _ _ (.mk rfl (h0.sub _ h3) h6)
  · intro h5
    exact JE.tup0 fun D => hR _ _ _ _ (.mk rfl (List.mem_cons_self ..) (by rw [kLeaf hT h1 h2 h3 h4 h5]; exact .nil))
theorem parts_of_tel {w : World} {v : Value} {T : Ty} {fz rest : Led} (hT : TyIn fz v T) (hz : Tups fz) : Tel w 21 [v] fz rest 4 (KidsIn (kids T)) :=
  (parts_sub_tel Sub.refl hT hz).postS fun _ _ s h => by cases h with | mk e m a => exact .mk e m (a.up s)

end
section
theorem flushLReb : True ∧ True := by (w_top off); (first | (walk1; done) | exact ⟨True.intro, True.intro⟩)
theorem with_tuple {fz : Led} {T : Ty} {Ts : List Ty} {vs : List Value} {D b : Addr} {n k : Nat} {t : Tok} (h : (kindS T == Str.ofString "tuple") = true) (hTs : TyAll fz vs Ts) (hl : Ts.length = (kids T).length) (hD : (D, tupO [.str (S "tuple") t, .ref b] n) ∈ fz) (hb : (b, tupO vs k) ∈ fz) : TyIn fz (.ref D) (withKids T Ts) := by
  cases T
  case unit =>
    obtain rfl := List.length_eq_zero_iff.mp hl
    obtain rfl := hTs.zero
    exact .unit hD hb
  case pair =>
    obtain ⟨T1, T2, rfl⟩ := len_two hl
    obtain ⟨v1, v2, rfl, k1, k2⟩ := hTs.two
    exact .pair hD hb k1 k2
  all_goals exact absurd h (by show ¬ ((S _ == S _) = true); decide +kernel)
theorem with_none {T : Ty} (h : kids T = []) : withKids T [] = T := by cases T <;> first | rfl | cases h
theorem rebuilt_tel {w : World} {v : Value} {T : Ty} {fz rest : Led} {p : Addr} {vs : List Value} {Ts : List Ty} {k : Nat} (hT : TyIn fz v T) (hp : (p, listOf vs.toArray k) ∈ rest) (hTs : TyAll fz vs Ts) (hl : Ts.length = (kids T).length) (hz : Tups fz) :
    Tel w 28 [v, .ref p] fz rest 4 (fun r fz' => TyIn fz' r (withKids T Ts)) := by
  obtain ⟨a, t, more, n, rfl, hm⟩ := hT.head
  have hB := hT.by
  have hvs : vs.length ≤ 16384 := by rw [hTs.length, hl]; exact Nat.le_trans (kids_two T) (by decide)
  have kf9 : Mine.hd.heap_1 w.params = Mine.hd.heap_1 w.params ∧ PySem.Challenge.rw_ot0007_01 = PySem.Challenge.rw_ot0007_01 := by k_fill; exact ⟨rfl, rfl⟩
  clear kf9
  refine' tel_def ?a0 ?a1 (fun _ => ?a2) ?a3 ?a4 ?a5 ?a6 ?a7 (hz) ?_
  case a0 => k_is
  case a1 => k_is
  case a2 => exact BindsTo.of_eq rfl
  case a3 => exact locs rfl
  case a4 => exact rfl
  case a5 => exact rfl
  case a6 => exact rfl
  case a7 => decide
  intro c m R _ _ hb hR
  have ht : m (Str.ofString "told") = some (.ref a) := hb _
  have hq : m (Str.ofString "parts") = some (.ref p) := hb _
  clear hb
  refine JX.setV (EV.sub ht hm rfl) fun _ => JX.ifrV (EV.name rfl) ?_ fun h1 => JX.ifrV (EV.name rfl) ?_ fun h2 => JX.ifrV (EV.name rfl) ?_ fun h3 => JX.ifrV (EV.name rfl) ?_ fun h4 => JX.ret (JE.iteV (EV.name rfl) ?_ ?_)
  · intro h
    obtain ⟨⟨h1, h2, h3⟩⟩ := kRef hB h
    obtain ⟨T1, rfl⟩ := List.length_eq_one_iff.mp hl
    obtain ⟨v1, rfl, k1⟩ := hTs.one
    exact JE.tup4 EV.str (EV.sub ht h1 rfl) (EV.sub ht h1 rfl) (EV.subL hq hp rfl) fun _ _ _ _ D => hR _ _ _ _ (.ref (List.mem_cons_self ..) h2 (k1.up (.cons .refl)))
  · intro h
    obtain ⟨⟨h1, h3⟩⟩ := kBox hB h
    obtain ⟨T1, rfl⟩ := List.length_eq_one_iff.mp hl
    obtain ⟨v1, rfl, k1⟩ := hTs.one
    exact JE.tup2 EV.str (EV.subL hq hp rfl) fun _ _ D => hR _ _ _ _ (.box (List.mem_cons_self ..) (k1.up (.cons .refl)))
  · intro h
    obtain ⟨⟨h1, h3⟩⟩ := kArr hB h
    obtain ⟨T1, rfl⟩ := List.length_eq_one_iff.mp hl
    obtain ⟨v1, rfl, k1⟩ := hTs.one
    exact JE.tup3 EV.str (EV.subL hq hp rfl) (EV.sub ht h1 rfl) fun _ _ _ D => hR _ _ _ _ (.array (List.mem_cons_self ..) (k1.up (.cons .refl)))
  · intro h
    exact JE.tup2E EV.str (JE.tupleOf hq hp hvs fun b t1 D => hR _ _ _ _ (with_tuple h (hTs.up (.cons (.cons .refl))) hl (List.mem_cons_self ..) (List.mem_cons_of_mem _ (List.mem_cons_self ..))))
  · intro h
    obtain ⟨⟨h1, h2, h3, h4, h5, h6⟩⟩ := kAdt hB h
    obtain ⟨T1, T2, rfl⟩ := len_two hl
    obtain ⟨v1, v2, rfl, k1, k2⟩ := hTs.two
    exact JE.tup4E EV.str (EV.sub ht h1 rfl) (EV.sub ht h1 rfl) (JE.tupleOf hq hp hvs fun b t1 t2 t3 D => hR _ _ _ _ (.adt (List.mem_cons_self ..) (List.mem_cons_of_mem _ (List.mem_cons_of_mem _ h2)) (List.mem_cons_of_mem _ (List.mem_cons_self ..)) h4 h5 (k1.up (.cons (.cons .refl))) (k2.up (.cons (.cons .refl)))))
  · intro h5
    have hk := kLeaf hB h1 h2 h3 h4 h5
    obtain rfl := List.length_eq_zero_iff.mp (hk ▸ hl)
    exact JE.V (EV.name ht) fun _ => hR _ _ _ _ (by rw [with_none hk]; exact hT)

end
section
theorem flushLTelS : True ∧ True := by (w_top off); (first | (walk1; done) | exact ⟨True.intro, True.intro⟩)
/-! contracts over a part of the ledger that a call changes: R c, c of any type -/
noncomputable def TelS {σ : Type} (w : World) (fv : Value) (vs : List Value) (fz : Led) (R : σ → Led) (c : σ) (d : Nat) (P : Value → Led → σ → Prop) : Prop :=
  ∀ (loose : List Str) (mean : ExcName → Option Value) (mg mb : Str → Option Value) (dp un : Nat) (gd : Option (List Code)) (cn : Str) (cs : Scope) (a : Addr) (ccd : Value) (cl : List (Str × Addr)) (outer : List Env) (A₀ : Around) (base h₀ : Heap) (L : Addr) (m : Str → Option Value) (s : Shared)
    (Q E : Value → Shared → Prop),
    Below A₀ base outer h₀ → Fr h₀ L s.heap m → (hd.heap_1 w.params).In h₀ → News h₀ L s.heap (fz ++ R c) → Top topProg loose mean mg mb h₀ → cs.kind = .function → dp + d < recursionLimit → un + 8 * d < cLine →
    (∀ r fz' c' h' tk', Fr h₀ L h' m → News h₀ L h' (fz' ++ R c') → Sub fz fz' → Tups fz' → P r fz' c' → Q r { s with heap := h', toks := tk' }) →
    wpAny (model PySem.Challenge.rw_ot0007_01.row.prog w) (Ard dp un gd cn cs L a ccd cl outer) (call fv vs) Q E s

/-- a function object here -/
noncomputable def FnHere (h : Heap) (a : Addr) : Prop := ∃ fo fd, h.get? a = some fo ∧ fo.data = .func fd
theorem looks_fnHere {M : Model} {h : Heap} {a : Addr} (X : FnHere h a) : ∃ k, (k = Keeper.frame ∨ k = Keeper.machine ∨ k = Keeper.boundFrame) ∧ Looks M h (keeperOf (.ref a)) k := by
  obtain ⟨fo, fd, e, hd⟩ := X
  obtain ⟨c, dd, dt, sl⟩ := fo
  subst hd
  exact ⟨.frame, .inl rfl, (Looks.ld (part := none) e).andThen .now⟩
section
variable {M : Model} {A : Around} {E : Value → Shared → Prop} {s : Shared} {env : Env} {pos : Pos} {first : List Value} {Q : Value → Shared → Prop}
theorem callWith_fn {a : Addr} {e : Expr} {rest : List Expr} (h : wpAny M A (spliced (backTo pos (starEach (e :: rest) env))) (fun vs s₁ => FnHere s₁.heap a ∧ wpAny M A (call (.ref a) (first ++ vs)) Q E s₁) E s)
    (he : starEach (e :: rest) env = (false, eval e env) :: starEach rest env := by rfl) (hplain : (backTo pos (starEach rest env)).any (·.1) = false := by rfl) :
    wpAny M A (callWith pos (.ref a) first (backTo pos (starEach (e :: rest) env)) []) Q E s := by
  rw [he] at h ⊢
  exact callWith_of (P := fun h => FnHere h a) (by show ((false || (backTo pos (starEach rest env)).any (·.1)) || false) = false; rw [hplain]; rfl) (fun _ X => looks_fnHere X) (Calls.evalArgs_plain h)
end
/-- where a function's object stands: written at the top, or in the part that calls change -/
inductive FnAt {σ : Type} (w : World) (R : σ → Led) (a : Addr) : Prop
  | top {fo fd} : (hd.heap_1 w.params).lookup a = some fo → fo.data = .func fd → FnAt w R a
  | led {fo fd} : (∀ c, (a, fo) ∈ R c) → fo.data = .func fd → FnAt w R a
noncomputable def wrS {σ : Type} (f : Reg → σ → Reg × σ) : Ty → σ → Ty × σ
  | .ref r m t, c => (.ref (f r c).1 m (wrS f t (f r c).2).1, (wrS f t (f r c).2).2)
  | .box t, c => (.box (wrS f t c).1, (wrS f t c).2)
  | .array t, c => (.array (wrS f t c).1, (wrS f t c).2)
  | .pair t u, c => (.pair (wrS f t c).1 (wrS f u (wrS f t c).2).1, (wrS f u (wrS f t c).2).2)
  | .adt r q t u, c => (.adt (f r c).1 (f q (f r c).2).1 (wrS f t (f q (f r c).2).2).1 (wrS f u (wrS f t (f q (f r c).2).2).2).1, (wrS f u (wrS f t (f q (f r c).2).2).2).2)
  | t, c => (t, c)
noncomputable def regsOk {σ : Type} (f : Reg → σ → Reg × σ) (ok : Reg → σ → Prop) : Ty → σ → Prop
  | .ref r _ t, c => ok r c ∧ regsOk f ok t (f r c).2
  | .box t, c | .array t, c => regsOk f ok t c
  | .pair t u, c => regsOk f ok t c ∧ regsOk f ok u (wrS f t c).2
  | .adt r q t u, c => ok r c ∧ ok q (f r c).2 ∧ regsOk f ok t (f q (f r c).2).2 ∧ regsOk f ok u (wrS f t (f q (f r c).2).2).2
  | _, _ => True
structure Apart (cs rs : Led) : Prop where
  off : ∀ p ∈ cs, ∀ q ∈ rs, p.1 ≠ q.1
/-- what a region's change is asked -/
structure ChOk {σ α : Type} (w : World) (a : Addr) (R : σ → Led) (ab : σ → α) (f : Reg → α → Reg × α) (ok : Reg → α → Prop) (d : Nat) : Prop where
  fn : FnAt w R a
  adr : ∀ c c', (R c).map (·.1) = (R c').map (·.1)
  does : ∀ (cs fz : Led) (r : Reg) (rv : Value) (c : σ), ok r (ab c) → RegV rv r → Tups fz → Apart cs (R c) → TelS w (.ref a) [rv] fz (fun c => cs ++ R c) c d (fun v _ c' => RegV v (f r (ab c)).1 ∧ ab c' = (f r (ab c)).2)
theorem Apart.nil {rs : Led} : Apart [] rs := ⟨fun _ h => nomatch h⟩
structure Away {σ : Type} (x : Addr) (R : σ → Led) : Prop where
  away : ∀ c, ∀ q ∈ R c, x ≠ q.1
theorem Away.of {σ : Type} {x : Addr} {R : σ → Led} {c : σ} (adr : ∀ c c', (R c).map (·.1) = (R c').map (·.1)) (h : ∀ q ∈ R c, x ≠ q.1) : Away x R := ⟨fun c' q hq e => by
  have : q.1 ∈ (R c).map (·.1) := adr c' c ▸ List.mem_map.mpr ⟨q, hq, rfl⟩
  obtain ⟨p, hp, e2⟩ := List.mem_map.mp this
  exact h p hp (e.trans e2.symm)⟩
theorem Apart.cons {σ : Type} {x : Addr} {o : Obj} {cs : Led} {R : σ → Led} {c : σ} (h : Away x R) (k : Apart cs (R c)) : Apart ((x, o) :: cs) (R c) := ⟨fun p hp q hq => by
  rcases List.mem_cons.mp hp with rfl | hp
  · exact h.away c q hq
  · exact k.off p hp q hq⟩
section
variable {σ α : Type} {w : World} {a : Addr} {R : σ → Led} {ab : σ → α} {f : Reg → α → Reg × α} {ok : Reg → α → Prop} {d : Nat}
theorem ChOk.use {cs₁ fz : Led} {r : Reg} {rv : Value} {c : σ} (C : ChOk w a R ab f ok d) (hok : ok r (ab c)) (hr : RegV rv r) (hz : Tups fz) (ap : Apart cs₁ (R c)) :
    TelS w (.ref a) [rv] fz (fun c => cs₁ ++ R c) c d (fun v _ c' => RegV v (f r (ab c)).1 ∧ ab c' = (f r (ab c)).2) := C.does cs₁ fz r rv c hok hr hz ap
theorem ChOk.ext {cs₁ : Led} (C : ChOk w a R ab f ok d) (ap : ∀ c, Apart cs₁ (R c)) : ChOk w a (fun c => cs₁ ++ R c) ab f ok d where
  fn := by
    cases C.fn with
    | top e d => exact .top e d
    | led e d => exact .led (fun c => List.mem_append.mpr (.inr (e c))) d
  adr := fun c c' => by rw [List.map_append, List.map_append, C.adr c c']
  does := fun cs fz r rv c hok hr hz ap' => by
    have := C.does (cs ++ cs₁) fz r rv c hok hr hz ⟨fun p hp q hq => by
      rcases List.mem_append.mp hp with hp | hp
      · exact ap'.off p hp q (List.mem_append.mpr (.inr hq))
      · exact (ap c).off p hp q hq⟩
    simpa only [List.append_assoc] using this
end
section
open LCg
variable {prog : Program} {w : World} {A : Around} {E : Value → Shared → Prop} {s₁ : Shared} {h₀ : Heap} {L : Addr} {m : Str → Option Value} {env : Env}
end
noncomputable def wrL {σ : Type} (f : Reg → σ → Reg × σ) : List Ty → σ → List Ty × σ
  | [], c => ([], c)
  | t :: ts, c => ((wrS f t c).1 :: (wrL f ts (wrS f t c).2).1, (wrL f ts (wrS f t c).2).2)
theorem wrL_snoc {σ : Type} (f : Reg → σ → Reg × σ) (t : Ty) : ∀ (l : List Ty) (c : σ), wrL f (l ++ [t]) c = ((wrL f l c).1 ++ [(wrS f t (wrL f l c).2).1], (wrS f t (wrL f l c).2).2)
  | [], _ => rfl
  | x :: l, c => by simp only [List.cons_append, wrL, wrL_snoc f t l]
theorem wrL_length {σ : Type} (f : Reg → σ → Reg × σ) : ∀ (l : List Ty) (c : σ), (wrL f l c).1.length = l.length
  | [], _ => rfl
  | x :: l, c => by simp only [wrL, List.length_cons, wrL_length f l]
noncomputable def regsOkL {σ : Type} (f : Reg → σ → Reg × σ) (ok : Reg → σ → Prop) : List Ty → σ → Prop
  | [], _ => True
  | t :: ts, c => regsOk f ok t c ∧ regsOkL f ok ts (wrS f t c).2
theorem regsOkL_kid {σ : Type} {f : Reg → σ → Reg × σ} {ok : Reg → σ → Prop} : ∀ {l : List Ty} {c : σ} {i : Nat} {T : Ty}, regsOkL f ok l c → l[i]? = some T → regsOk f ok T (wrL f (l.take i) c).2
  | [], _, _, _, _, e => by simp at e
  | t :: ts, c, 0, T, h, e => by simp at e; subst e; exact h.1
  | t :: ts, c, i + 1, T, h, e => by
    have := regsOkL_kid (i := i) h.2 (by simpa using e)
    simpa only [List.take_succ_cons, wrL] using this
noncomputable def rgL {σ : Type} (f : Reg → σ → Reg × σ) : List Reg → σ → List Reg × σ
  | [], c => ([], c)
  | t :: ts, c => ((f t c).1 :: (rgL f ts (f t c).2).1, (rgL f ts (f t c).2).2)
theorem rgL_snoc {σ : Type} (f : Reg → σ → Reg × σ) (t : Reg) : ∀ (l : List Reg) (c : σ), rgL f (l ++ [t]) c = ((rgL f l c).1 ++ [(f t (rgL f l c).2).1], (f t (rgL f l c).2).2)
  | [], _ => rfl
  | x :: l, c => by simp only [List.cons_append, rgL, rgL_snoc f t l]
inductive RegAll : List Value → List Reg → Prop
  | nil : RegAll [] []
  | cons {v vs r rs} : RegV v r → RegAll vs rs → RegAll (v :: vs) (r :: rs)
theorem RegAll.snoc {vs : List Value} {rs : List Reg} {v : Value} {r : Reg} (h : RegAll vs rs) (k : RegV v r) : RegAll (vs ++ [v]) (rs ++ [r]) := by
  induction h with
  | nil => exact .cons k .nil
  | cons a _ ih => exact .cons a ih
theorem RegAll.at {vs : List Value} {rs : List Reg} (h : RegAll vs rs) {i : Nat} {v : Value} (e : vs[i]? = some v) : ∃ r, rs[i]? = some r ∧ RegV v r := by
  induction h generalizing i with
  | nil => simp at e
  | cons a _ ih =>
    cases i with
    | zero => simp at e; subst e; exact ⟨_, rfl, a⟩
    | succ i => simp at e; simpa using ih e
theorem RegAll.two {vs : List Value} {r q : Reg} (h : RegAll vs [r, q]) : ∃ v x, vs = [v, x] ∧ RegV v r ∧ RegV x q := by
  cases h with
  | cons a b => cases b with
    | cons b c => cases c; exact ⟨_, _, rfl, a, b⟩

end
section
theorem flushLJ4 : True ∧ True := by (w_top off); (first | (walk1; done) | exact ⟨True.intro, True.intro⟩)
/-! more of the small logic: tests, calls, defs whose own entries change -/
section
variable {w : World} {cs : Scope} {cl : List (Str × Addr)} {c : Cx w cs cl} {m : Str → Option Value} {own fz rest : Led} {pos p1 p2 p3 p4 p5 : Pos} {k k2 : Nat} {P : Value → Led → Led → Prop} {B : Bool → Led → Led → Prop} {e e1 e2 e3 : Expr} {es : List Expr}
noncomputable abbrev JB (c : Cx w cs cl) (m : Str → Option Value) (own fz rest : Led) (op : BoolOp) (es : List Expr) (P : Bool → Led → Led → Prop) : Prop := JG c m own fz rest (allTrue op es c.env) P
theorem JT.bool {op : BoolOp} (j : JB c m own fz rest op es B) : JT c m own fz rest (.BoolOp op es pos) B := fun s Q E hE a q => wpAny_isTrue_BoolOp (j s Q E hE a q)
theorem JB.orNil (h : B false own fz) : JB c m own fz rest .Or [] B := fun s _ _ hE a q => wpAny_allTrue_Or_nil (q _ _ _ s.heap s.toks a Sub.refl h)
theorem JB.andNil (h : B true own fz) : JB c m own fz rest .And [] B := fun s _ _ hE a q => wpAny_allTrue_And_nil (q _ _ _ s.heap s.toks a Sub.refl h)
theorem JB.orCons (j : JT c m own fz rest e (fun b o f => (b = true → B true o f) ∧ (b = false → JB c m o f rest .Or es B))) : JB c m own fz rest .Or (e :: es) B := fun s Q E hE a q =>
  wpAny_allTrue_Or_cons (j s _ E hE a fun b o f h tk a' S p => by
    cases b with
    | true => exact q true o f h tk a' S (p.1 rfl)
    | false => exact p.2 rfl _ Q E hE a' fun b2 o2 f2 h2 tk2 a2 S2 p2 => q b2 o2 f2 h2 tk2 a2 (S2.step S) p2)
theorem JB.andCons (j : JT c m own fz rest e (fun b o f => (b = true → JB c m o f rest .And es B) ∧ (b = false → B false o f))) : JB c m own fz rest .And (e :: es) B := fun s Q E hE a q =>
  wpAny_allTrue_And_cons (j s _ E hE a fun b o f h tk a' S p => by
    cases b with
    | true => exact p.1 rfl _ Q E hE a' fun b2 o2 f2 h2 tk2 a2 S2 p2 => q b2 o2 f2 h2 tk2 a2 (S2.step S) p2
    | false => exact q false o f h tk a' S (p.2 rfl))
/-- an or whose parts are all false, an and whose head is false -/
theorem JB.orF (j : JT c m own fz rest e (fun b o f => b = false ∧ JB c m o f rest .Or es B)) : JB c m own fz rest .Or (e :: es) B := JB.orCons (j.use fun _ _ _ _ h => ⟨fun t => (by rw [h.1] at t; cases t), fun _ => h.2⟩)
theorem JB.andF (j : JT c m own fz rest e (fun b o f => b = false ∧ B false o f)) : JB c m own fz rest .And (e :: es) B := JB.andCons (j.use fun _ _ _ _ h => ⟨fun t => (by rw [h.1] at t; cases t), fun _ => h.2⟩)
theorem JB.andT (j : JT c m own fz rest e (fun b o f => b = true ∧ JB c m o f rest .And es B)) : JB c m own fz rest .And (e :: es) B := JB.andCons (j.use fun _ _ _ _ h => ⟨fun _ => h.2, fun t => by rw [h.1] at t; cases t⟩)
/-- a comparison of two values -/
theorem JT.cmp {op : CmpOp} (j : JE c m own fz rest e1 (fun x o f => JE c m o f rest e2 (fun y o2 f2 => JG c m o2 f2 rest (compareOp op x y) (fun r o3 f3 => ∃ b, r = .bool b ∧ B b o3 f3)))) (hm : behindInMarks op e2 = false := by with_unfolding_all rfl) : JT c m own fz rest (.Compare e1 [op] [e2] pos) B := fun s Q E hE a q =>
  wpAny_isTrue_Compare1 (j s _ E hE a fun x o f h tk a' S j1 => j1 _ _ E hE a' fun y o2 f2 h2 tk2 a2 S2 j2 => j2 _ _ E hE a2 fun r o3 f3 h3 tk3 a3 S3 ⟨b, e, p⟩ => by
    subst e
    exact wpAny_truthy_bool (q b o3 f3 h3 tk3 a3 ((S3.step S2).step S) p)) hm
theorem JG.neStr {x y : Str} {t u : Tok} (h : P (.bool (x != y)) own fz) : JG c m own fz rest (compareOp .NotEq (.str x t) (.str y u)) P := fun s _ _ hE a q => PyProof.Rows.ne_str (q _ own fz s.heap s.toks a Sub.refl h)
/-- a call of a def -/
theorem JC.tel {f : Addr} {vs : List Value} {d : Nat} {P' : Value → Led → Prop} (C : Tel w f vs fz (own ++ rest) d P') (hd : c.dp + d < recursionLimit) (hu : c.un + 8 * d < cLine) (h : ∀ r f', Sub fz f' → Tups f' → P' r f' → P r own f') (hk : cs.kind = .function := by rfl) : JC c m own fz rest (.ref f) vs P := fun s Q E hE a q =>
  C c.loose c.mean c.mg c.mb c.dp c.un c.gd c.cn cs c.a c.ccd cl c.outer c.A₀ c.base c.h₀ c.L m s Q E c.B a.F c.X (fun p hp => a.N p (led_swap hp)) c.TP hk hd hu fun r f' h' tk' F' N' S' T' p' => q r own f' h' tk' ⟨F', news_back N', T'⟩ S' (h r f' S' T' p')
theorem JE.call {g : Str} {f : Addr} (hg : nsIn (Mine.hd.heap_1 w.params) mainGlobals g = some (some (.ref f))) (hkeep : keepIn (Mine.hd.heap_1 w.params) (.ref f) = true) (j : JA c m own fz rest pos (e :: es) (fun vs o f' => JC c m o f' rest (.ref f) vs P)) (hk : cs.kind = .function := by rfl) (hx : (∀ cn L a ccd, (envX cn cs L a ccd cl).kindOf g = some .globalImplicit) := by intros; rfl) (hb : (g == ("__debug__" : Str)) = false := by decide)
    (he : ∀ env, starEach (e :: es) env = (false, eval e env) :: starEach es env := by intro _; rfl) (hplain : ∀ env, (backTo pos (starEach es env)).any (·.1) = false := by intro _; rfl) : JE c m own fz rest (.Call (.Name g p1) (e :: es) [] pos) P := fun s Q E hE a q =>
  Call_ (nameX_K a.F c.X (topRead_of c.TP) hg (callWith_K c.X hkeep (j s _ E hE a fun vs o f' h tk a' S j' => ⟨c.X.keeps a'.F.keep, j' _ Q E hE a' fun r o2 f2 h2 tk2 a2 S2 p => q r o2 f2 h2 tk2 a2 (S2.step S) p⟩) (he _) (hplain _)) hk (hx ..) hb)
theorem JA.one {f1 : Tok → Value} {P : List Value → Led → Led → Prop} (V1 : EV c m own fz rest e1 f1) (h : ∀ t1, P [f1 t1] own fz) (h1 : ∀ env, starEach [e1] env = (false, eval e1 env) :: starEach [] env := by intro _; rfl) : JA c m own fz rest pos [e1] P := JA.cons (JE.V V1 fun t1 => JA.nil (h t1)) h1
theorem JA.two {f1 f2 : Tok → Value} {P : List Value → Led → Led → Prop} (V1 : EV c m own fz rest e1 f1) (V2 : EV c m own fz rest e2 f2) (h : ∀ t1 t2, P [f1 t1, f2 t2] own fz) (h1 : ∀ env, starEach [e1, e2] env = (false, eval e1 env) :: starEach [e2] env := by intro _; rfl) (h2 : ∀ env, starEach [e2] env = (false, eval e2 env) :: starEach [] env := by intro _; rfl) : JA c m own fz rest pos [e1, e2] P :=
  JA.cons (JE.V V1 fun t1 => JA.cons (JE.V V2 fun t2 => JA.nil (h t1 t2)) h2) h1
/-- one statement -/
noncomputable def JS (c : Cx w cs cl) (m : Str → Option Value) (own fz rest : Led) (st : Stmt) (R : Flow → (Str → Option Value) → Led → Led → Prop) : Prop :=
  ∀ (s : Shared) (Q : Flow → Shared → Prop) (E : Value → Shared → Prop), PassesOwn c.M c.A c.env E → At c m own fz rest s.heap → (∀ fl m' o f h tk, At c m' o f rest h → Sub fz f → R fl m' o f → Q fl { s with heap := h, toks := tk }) → wpAny c.M c.A (exec st c.env) Q E s
theorem JX.cut {st : Stmt} {more : List Stmt} {R : Flow → (Str → Option Value) → Led → Led → Prop} (J : (Str → Option Value) → Led → Led → Prop) (j : JS c m own fz rest st (fun fl m' o f => fl = .next ∧ J m' o f)) (k : ∀ m' o f, Sub fz f → J m' o f → JX c m' o f rest more R) : JX c m own fz rest (st :: more) R := fun s Q E hE a q =>
  wpAny_execs_cons (j s _ E hE a fun fl m' o f h tk a' S ⟨e, p⟩ => by
    subst e
    exact k m' o f S p _ Q E hE a' fun fl2 m2 o2 f2 h2 tk2 a2 S2 r => q fl2 m2 o2 f2 h2 tk2 a2 (S2.step S) r)
theorem JS.ite {test : Expr} {body orelse : List Stmt} {R : Flow → (Str → Option Value) → Led → Led → Prop} (j : JT c m own fz rest test (fun b o f => (b = true → JX c m o f rest body R) ∧ (b = false → JX c m o f rest orelse R))) : JS c m own fz rest (.If test body orelse pos) R := fun s Q E hE a q =>
  wpAny_If (j s _ E hE a fun b o f h tk a' S j' => by
    cases b with
    | true =>
      rw [if_pos rfl]
      exact j'.1 rfl _ Q E hE a' fun fl m' o' f' h2 tk2 a2 S2 r => q fl m' o' f' h2 tk2 a2 (S2.step S) r
    | false =>
      rw [if_neg Bool.false_ne_true]
      exact j'.2 rfl _ Q E hE a' fun fl m' o' f' h2 tk2 a2 S2 r => q fl m' o' f' h2 tk2 a2 (S2.step S) r)
/-- entering a def without cells whose own entries may change -/
theorem telS_def {σ : Type} {Rl : σ → Led} {st : σ} {own : Led} {tl : Led} {f : Addr} {vs : List Value} {d : Nat} {P : Value → Led → σ → Prop} {name qual : Str} {params : Arguments} {body : List Stmt} {scope : Scope} {dV kV doc pm cdv ct oc : Value} {an od : Option Addr} {osl : Array (Option Value)} {binds : List (Str × Value)}
    (ho : (Mine.hd.heap_1 w.params).lookup f = some ⟨oc, od, .func (fnOf name qual params body scope dV kV doc pm an cdv ct), osl⟩) (hcd : codeIn (Mine.hd.heap_1 w.params) cdv qual = true)
    (hbind : ∀ s, BindsTo s (fnOf name qual params body scope dV kV doc pm an cdv ct) ⟨vs, []⟩ binds) (hloc : ∀ y ∈ binds, scope.names.lookup y.1 = some .local) (hco : scope.isCoroutine = false) (hgen : scope.isGenerator = false) (hkd : scope.kind = .function) (hcell : ∀ x ∈ scope.names, x.2 ≠ .cell) (hz : Tups fz)
    (hin : ∀ p ∈ own ++ (fz ++ tl), p ∈ fz ++ Rl st)
    (j : ∀ (c : Cx w scope []) (m : Str → Option Value) (R : Flow → (Str → Option Value) → Led → Led → Prop), c.dp + d < recursionLimit + 1 → c.un + 8 * d < cLine + 8 → (∀ y, m y = binds.reverse.lookup y) → (∀ v m o f st', P v f st' → (∀ p ∈ f ++ Rl st', p ∈ o ++ (f ++ tl)) → R (.ret v) m o f) → JX c m own fz tl body R) : TelS w (.ref f) vs fz Rl st d P := by
  intro loose mean mg mb dp un gd cn cs a ccd cl outer A₀ base h₀ L m s Q E B F X N T hk hdp hu hret
  refine wpAny_call ?_
  refine code_def B F X (fun p hp => N p (hin p hp)) T rfl rfl hk ho hcd ?_ (hbind s) hloc ?_ hco hgen hkd hcell
  · show dp < recursionLimit; omega
  · intro g' L' h' FG' F' N' B' X' T'
    let c : Cx w scope [] := { loose, mean, mg, mb, dp := dp + 1, un := un + 3, gd := ((Ard dp un gd cn cs L a ccd cl outer).deeper (envOf qual scope L' f cdv)).guards, cn := qual, L := L', a := f, ccd := cdv, outer := envX cn cs L a ccd cl :: outer, A₀ := _, base, h₀ := g', B := B', X := X', TP := T' }
    refine j c (fun y => binds.reverse.lookup y) (fun fl _ o f => ∃ st', P (match fl with | .ret v => v | _ => .none) f st' ∧ ∀ p ∈ f ++ Rl st', p ∈ o ++ (f ++ tl)) (by show dp + 1 + d < _; omega) (by show un + 3 + 8 * d < _; omega) (fun _ => rfl) (fun v m o f st' p h => ⟨st', p, h⟩) _ _ _ ?hE ⟨F', N', hz⟩ fun fl m' o f' h2 tk2 a2 S2 ⟨st', r, hh⟩ => ?_
    case hE => with_unfolding_all passes_own
    exact leaveK_ a2.F a2.N fun kF kN => hret _ f' st' h2 tk2 kF (fun p hp => kN p (hh p hp)) S2 a2.Z r
end

end
section
theorem flushLEq : True ∧ True := by (w_top off); (first | (walk1; done) | exact ⟨True.intro, True.intro⟩)
/-! equality of types: the data that they read as -/
noncomputable def regPy : Reg → PyData
  | .none => .none | .a => .str (S "'a") | .b => .str (S "'b") | .st => .str (S "'static") | .n3 => .int 3 | .c => .str (S "'c") | .n7 => .int 7
noncomputable def toPy : Ty → PyData
  | .param x => .tuple [.str (S "param"), .str (pname x)]
  | .int x => .tuple [.str (S "int"), .str (iname x)]
  | .bool => .tuple [.str (S "bool")]
  | .never => .tuple [.str (S "never")]
  | .unit => .tuple [.str (S "tuple"), .tuple []]
  | .var => .tuple [.str (S "var"), .int 4]
  | .intvar => .tuple [.str (S "intvar"), .int 2]
  | .ref r m t => .tuple [.str (S "ref"), regPy r, .bool m, toPy t]
  | .box t => .tuple [.str (S "box"), toPy t]
  | .array t => .tuple [.str (S "array"), toPy t, .int 2]
  | .pair t u => .tuple [.str (S "tuple"), .tuple [toPy t, toPy u]]
  | .adt r q t u => .tuple [.str (S "adt"), .str (S "m::A"), .tuple [regPy r, regPy q], .tuple [toPy t, toPy u]]
section
variable {h : Heap} {fz : Led}
noncomputable def Live (h : Heap) (fz : Led) : Prop := ∀ p ∈ fz, h.get? p.1 = some p.2
theorem rd_reg {v : Value} {r : Reg} (x : RegV v r) : ∃ as, Reads h v (regPy r) as := by cases x <;> exact ⟨_, by constructor⟩
theorem rd_tup {a : Addr} {vs : List Value} {n : Nat} {ds : List PyData} {as : List Addr} (L : Live h fz) (hm : (a, tupO vs n) ∈ fz) (r : ReadsAll h vs ds as) : Reads h (.ref a) (.tuple ds) as := reads_tuple_at (L _ hm) rfl rfl (by simpa using r)
theorem TyIn.reads (L : Live h fz) {v : Value} {T : Ty} (x : TyIn fz v T) : ∃ as, Reads h v (toPy T) as := by
  induction x with
  | param m => exact ⟨_, rd_tup L m (.cons (.str _ _) (.cons (.str _ _) .nil))⟩
  | int m => exact ⟨_, rd_tup L m (.cons (.str _ _) (.cons (.str _ _) .nil))⟩
  | bool m => exact ⟨_, rd_tup L m (.cons (.str _ _) .nil)⟩
  | never m => exact ⟨_, rd_tup L m (.cons (.str _ _) .nil)⟩
  | unit m k => exact ⟨_, rd_tup L m (.cons (.str _ _) (.cons (rd_tup L k .nil) .nil))⟩
  | var m => exact ⟨_, rd_tup L m (.cons (.str _ _) (.cons (.int _ _) .nil))⟩
  | intvar m => exact ⟨_, rd_tup L m (.cons (.str _ _) (.cons (.int _ _) .nil))⟩
  | ref m r _ ih => obtain ⟨_, i⟩ := ih; obtain ⟨_, j⟩ := rd_reg (h := h) r; exact ⟨_, rd_tup L m (.cons (.str _ _) (.cons j (.cons (.bool _) (.cons i .nil))))⟩
  | box m _ ih => obtain ⟨_, i⟩ := ih; exact ⟨_, rd_tup L m (.cons (.str _ _) (.cons i .nil))⟩
  | array m _ ih => obtain ⟨_, i⟩ := ih; exact ⟨_, rd_tup L m (.cons (.str _ _) (.cons i (.cons (.int _ _) .nil)))⟩
  | pair m k _ _ i1 i2 => obtain ⟨_, i⟩ := i1; obtain ⟨_, j⟩ := i2; exact ⟨_, rd_tup L m (.cons (.str _ _) (.cons (rd_tup L k (.cons i (.cons j .nil))) .nil))⟩
  | adt m k l r q _ _ i1 i2 =>
    obtain ⟨_, i⟩ := i1; obtain ⟨_, j⟩ := i2; obtain ⟨_, r'⟩ := rd_reg (h := h) r; obtain ⟨_, q'⟩ := rd_reg (h := h) q
    exact ⟨_, rd_tup L m (.cons (.str _ _) (.cons (.str _ _) (.cons (rd_tup L k (.cons r' (.cons q' .nil))) (.cons (rd_tup L l (.cons i (.cons j .nil))) .nil))))⟩
theorem TyAll.reads (L : Live h fz) {vs : List Value} {Ts : List Ty} (x : TyAll fz vs Ts) : ∃ as, ReadsAll h vs (Ts.map toPy) as := by
  induction x with
  | nil => exact ⟨_, .nil⟩
  | cons a _ ih => obtain ⟨_, i⟩ := ih; obtain ⟨_, j⟩ := a.reads L; exact ⟨_, .cons j i⟩
end
theorem regPy_lay (r : Reg) : (regPy r).canLay0 = true ∧ (regPy r).depth = 0 := by cases r <;> exact ⟨by first | rfl | decide +kernel, rfl⟩
theorem toPy_lay : ∀ T, (toPy T).canLay0 = true
  | .param x => by cases x <;> decide +kernel
  | .int x => by cases x <;> decide +kernel
  | .bool => by decide +kernel
  | .never => by decide +kernel
  | .unit => by decide +kernel
  | .var => by decide +kernel
  | .intvar => by decide +kernel
  | .ref r m t => by
    simp only [toPy, PyData.canLay0, PyData.canLayAll0, toPy_lay t, (regPy_lay r).1, Bool.and_true]; decide +kernel
  | .box t => by simp only [toPy, PyData.canLay0, PyData.canLayAll0, toPy_lay t, Bool.and_true]; decide +kernel
  | .array t => by simp only [toPy, PyData.canLay0, PyData.canLayAll0, toPy_lay t, Bool.and_true]; decide +kernel
  | .pair t u => by simp only [toPy, PyData.canLay0, PyData.canLayAll0, toPy_lay t, toPy_lay u, Bool.and_true]; decide +kernel
  | .adt r q t u => by simp only [toPy, PyData.canLay0, PyData.canLayAll0, toPy_lay t, toPy_lay u, (regPy_lay r).1, (regPy_lay q).1, Bool.and_true]; decide +kernel
theorem dep_nil {n : Nat} : PyData.depthAll [] ≤ n := Nat.zero_le _
theorem dep_cons {a : PyData} {l : List PyData} {n : Nat} (h : a.depth ≤ n) (k : PyData.depthAll l ≤ n) : PyData.depthAll (a :: l) ≤ n := by rw [PyData.depthAll]; exact Nat.max_le.mpr ⟨h, k⟩
theorem dep_tup {l : List PyData} {n : Nat} (h : PyData.depthAll l ≤ n) : (PyData.tuple l).depth ≤ n + 1 := by rw [PyData.depth]; omega
theorem dep_reg {r : Reg} {n : Nat} : (regPy r).depth ≤ n := by rw [(regPy_lay r).2]; exact Nat.zero_le _
theorem dep_kid {a b : Nat} (h : a ≤ b) : 2 * a + 2 ≤ 2 * b + 2 := by omega
theorem toPy_depth : ∀ T, (toPy T).depth ≤ 2 * height T + 2
  | .param _ => dep_tup (dep_cons (Nat.zero_le _) (dep_cons (Nat.zero_le _) dep_nil))
  | .int _ => dep_tup (dep_cons (Nat.zero_le _) (dep_cons (Nat.zero_le _) dep_nil))
  | .bool => dep_tup (dep_cons (Nat.zero_le _) dep_nil)
  | .never => dep_tup (dep_cons (Nat.zero_le _) dep_nil)
  | .unit => dep_tup (dep_cons (Nat.zero_le _) (dep_cons (dep_tup dep_nil) dep_nil))
  | .var => dep_tup (dep_cons (Nat.zero_le _) (dep_cons (Nat.zero_le _) dep_nil))
  | .intvar => dep_tup (dep_cons (Nat.zero_le _) (dep_cons (Nat.zero_le _) dep_nil))
  | .ref _ _ t => Nat.le_succ_of_le (dep_tup (dep_cons (Nat.zero_le _) (dep_cons dep_reg (dep_cons (Nat.zero_le _) (dep_cons (toPy_depth t) dep_nil)))))
  | .box t => Nat.le_succ_of_le (dep_tup (dep_cons (Nat.zero_le _) (dep_cons (toPy_depth t) dep_nil)))
  | .array t => Nat.le_succ_of_le (dep_tup (dep_cons (Nat.zero_le _) (dep_cons (toPy_depth t) (dep_cons (Nat.zero_le _) dep_nil))))
  | .pair t u => dep_tup (dep_cons (Nat.zero_le _) (dep_cons (dep_tup (dep_cons (Nat.le_trans (toPy_depth t) (dep_kid (Nat.le_max_left ..))) (dep_cons (Nat.le_trans (toPy_depth u) (dep_kid (Nat.le_max_right ..))) dep_nil))) dep_nil))
  | .adt _ _ t u => dep_tup (dep_cons (Nat.zero_le _) (dep_cons (Nat.zero_le _) (dep_cons (dep_tup (dep_cons dep_reg (dep_cons dep_reg dep_nil))) (dep_cons (dep_tup (dep_cons (Nat.le_trans (toPy_depth t) (dep_kid (Nat.le_max_left ..))) (dep_cons (Nat.le_trans (toPy_depth u) (dep_kid (Nat.le_max_right ..))) dep_nil))) dep_nil))))
theorem regPy_eqv (r q : Reg) : PyData.eqv (regPy r) (regPy q) = decide (r = q) := by cases r <;> cases q <;> decide +kernel
theorem toPy_head : ∀ T, ∃ ds, toPy T = .tuple (.str (kindS T) :: ds) := by intro T; cases T <;> exact ⟨_, rfl⟩
theorem toPy_other {T U : Ty} (h : kindS T ≠ kindS U) : PyData.eqv (toPy T) (toPy U) = false := by
  obtain ⟨ds, e⟩ := toPy_head T
  obtain ⟨es, e'⟩ := toPy_head U
  rw [e, e']
  simp [PyData.eqv, PyData.eqvAll, h]
theorem eqv_ne {T U : Ty} (h : kindS T ≠ kindS U) : PyData.eqv (toPy T) (toPy U) = decide (T = U) := by
  rw [toPy_other h, eq_comm, decide_eq_false_iff_not]
  exact fun e => h (e ▸ rfl)
set_option tactic.hygienic true in
theorem eqv_ty (T : Ty) : ∀ U, PyData.eqv (toPy T) (toPy U) = decide (T = U) := by
  induction T with
  | param x => intro U; cases U <;> first | exact eqv_ne (by show S _ ≠ S _; decide) | (rename_i y; cases x <;> cases y <;> decide +kernel)
  | int x => intro U; cases U <;> first | exact eqv_ne (by show S _ ≠ S _; decide) | (rename_i y; cases x <;> cases y <;> decide +kernel)
  | ref r m t ih => intro U; cases U <;> first | exact eqv_ne (by show S _ ≠ S _; decide) | (rename_i r' m' t'; simp only [toPy, PyData.eqv, PyData.eqvAll, ih t', regPy_eqv r r', Bool.and_true, Ty.ref.injEq, beq_self_eq_true, Bool.true_and, Bool.decide_and]; rw [show (m == m') = decide (m = m') by cases m <;> cases m' <;> rfl])
  | box t ih => intro U; cases U <;> first | exact eqv_ne (by show S _ ≠ S _; decide) | simp only [toPy, PyData.eqv, PyData.eqvAll, ih, Bool.and_true, Ty.box.injEq, beq_self_eq_true, Bool.true_and]
  | array t ih => intro U; cases U <;> first | exact eqv_ne (by show S _ ≠ S _; decide) | simp only [toPy, PyData.eqv, PyData.eqvAll, ih, Bool.and_true, Ty.array.injEq, beq_self_eq_true, Bool.true_and]
  | pair t u i1 i2 => intro U; cases U <;> first | exact eqv_ne (by show S _ ≠ S _; decide) | (simp [toPy, PyData.eqv, PyData.eqvAll]; done) | simp only [toPy, PyData.eqv, PyData.eqvAll, i1, i2, Bool.and_true, Ty.pair.injEq, beq_self_eq_true, Bool.true_and, Bool.decide_and]
  | adt r q t u i1 i2 => intro U; cases U <;> first | exact eqv_ne (by show S _ ≠ S _; decide) | simp only [toPy, PyData.eqv, PyData.eqvAll, regPy_eqv, i1, i2, Bool.and_true, Ty.adt.injEq, beq_self_eq_true, Bool.true_and, Bool.decide_and, Bool.and_assoc]
  | unit => intro U; cases U <;> first | exact eqv_ne (by show S _ ≠ S _; decide) | decide +kernel | simp [toPy, PyData.eqv, PyData.eqvAll]
  | _ => intro U; cases U <;> first | exact eqv_ne (by show S _ ≠ S _; decide) | decide +kernel
theorem toPy_shaped {T : Ty} (h : height T ≤ 20) : SeqAt.shaped (toPy T) = true := by
  have := toPy_depth T
  unfold SeqAt.shaped
  rw [toPy_lay T, Bool.true_and]
  exact decide_eq_true (by omega)
theorem list_shaped {Ts : List Ty} (h : ∀ T ∈ Ts, height T ≤ 20) : SeqAt.shaped (.list (Ts.map toPy)) = true := by
  have a : PyData.canLayAll0 (Ts.map toPy) = true ∧ PyData.depthAll (Ts.map toPy) ≤ 42 := by
    induction Ts with
    | nil => exact ⟨rfl, Nat.zero_le _⟩
    | cons T Ts ih =>
      obtain ⟨i, j⟩ := ih fun U hU => h U (List.mem_cons_of_mem _ hU)
      have := toPy_depth T
      have h9 := h T List.mem_cons_self
      simp only [List.map_cons, PyData.canLayAll0, PyData.depthAll, toPy_lay, i, Bool.and_self, true_and]
      omega
  unfold SeqAt.shaped
  simp only [PyData.canLay0, PyData.depth, a.1, Bool.true_and]
  have := a.2
  exact decide_eq_true (by omega)
theorem live_of {h₀ h : Heap} {L : Addr} {led fz cs rest : Led} (N : News h₀ L h led) (Pt : Part led fz cs rest) : Live h fz := fun p hp => (N p (Pt.mem p (.inl hp))).1
section
variable {prog : Program} {w : World} {A : Around} {E : Value → Shared → Prop} {s : Shared} {h₀ : Heap} {L : Addr} {led fz cs rest : Led} {v x : Value} {T U : Ty} {Q : Value → Shared → Prop}
theorem eq_ty (N : News h₀ L s.heap led) (Pt : Part led fz cs rest) (hT : TyIn fz v T) (hU : TyIn fz x U) (t : height T ≤ 20) (u : height U ≤ 20) (hu : A.units + 64 < cLine) (k : Q (.bool (decide (T = U))) s) : wpAny (model prog w) A (compareOp .Eq v x) Q E s := by
  obtain ⟨_, a⟩ := hT.reads (live_of N Pt)
  obtain ⟨_, b⟩ := hU.reads (live_of N Pt)
  exact eq_dataH a b (toPy_shaped t) (toPy_shaped u) hu (by rw [eqv_ty]; exact k)
theorem ne_ty (N : News h₀ L s.heap led) (Pt : Part led fz cs rest) (hT : TyIn fz v T) (hU : TyIn fz x U) (t : height T ≤ 20) (u : height U ≤ 20) (hu : A.units + 64 < cLine) (k : Q (.bool (!decide (T = U))) s) : wpAny (model prog w) A (compareOp .NotEq v x) Q E s := by
  obtain ⟨_, a⟩ := hT.reads (live_of N Pt)
  obtain ⟨_, b⟩ := hU.reads (live_of N Pt)
  exact ne_dataH a b (toPy_shaped t) (toPy_shaped u) hu (by rw [eqv_ty]; exact k)
theorem ne_nil {a b : Addr} {vs : List Value} {i j : Nat} {Ts : List Ty} (N : News h₀ L s.heap led) (Pt : Part led fz cs rest) (ha : (a, PySem.W.listOf vs.toArray i) ∈ led) (hc : (b, PySem.W.listOf ([] : List Value).toArray j) ∈ led) (hT : TyAll fz vs Ts) (t : ∀ T ∈ Ts, height T ≤ 20) (hu : A.units + 64 < cLine)
    {bb : Bool} (hb : (!decide (Ts = [])) = bb) (k : Q (.bool bb) s) : wpAny (model prog w) A (compareOp .NotEq (.ref a) (.ref b)) Q E s := by
  obtain ⟨_, r⟩ := hT.reads (live_of N Pt)
  refine ne_dataH (reads_list_at (N _ ha).1 rfl rfl (by simpa using r)) (reads_list_at (xs := []) (N _ hc).1 rfl rfl .nil) (list_shaped t) (by decide +kernel) hu ?_
  rw [show PyData.eqv (.list (Ts.map toPy)) (.list []) = decide (Ts = []) by cases Ts <;> simp [PyData.eqv, PyData.eqvAll], hb]
  exact k
end
theorem nn_nil : (!decide (([] : List Ty) = [])) = false := by simp
theorem nn_app {Us : List Ty} {U : Ty} : (!decide (Us ++ [U] = [])) = true := by simp

end
section
theorem flushLList : True ∧ True := by (w_top off); (first | (walk1; done) | exact ⟨True.intro, True.intro⟩)
/-! lists of the frame's own that change: the written part of the ledger turns, tuples and tail stand -/
section
variable {prog : Program} {w : World} {A : Around} {E : Value → Shared → Prop} {s : Shared} {h₀ : Heap} {L D : Addr} {m : Str → Option Value} {led fz cs cs' rest : Led} {vs ws us : List Value} {n : Nat} {y : Value} {Q : Value → Shared → Prop}
theorem upd_part {h : Heap} {o o' : Obj} (Pt : Part led fz cs rest) (N : News h₀ L h led) (hz : Tups fz) (ho : ∀ vs k, o ≠ tupO vs k) (U : Upd D o o' cs cs') (hr : Off rest D) : Upd D o o' (cs ++ (fz ++ rest)) (cs' ++ (fz ++ rest)) := by
  have hD : h.get? D = some o := by
    obtain ⟨pre, post, e, _⟩ := U.split
    exact (N (D, o) (Pt.mem _ (.inr (.inl (by rw [e]; simp))))).1
  have hf := tups_off hz N (fun p hp => Pt.mem p (.inl hp)) hD ho
  have hl : ∀ p ∈ fz ++ rest, p.1 ≠ D := fun p hp => by
    rcases List.mem_append.mp hp with hp | hp
    · exact hf p hp
    · exact hr.off p hp
  clear N hz Pt
  induction U with
  | head h => exact .head fun p hp => (List.mem_append.mp hp).elim (h p) (hl p)
  | tail h _ ih => exact .tail h ih
theorem list_no_tup {l : Array Value} {k : Nat} : ∀ vs j, PySem.W.listOf l k ≠ tupO vs j := fun _ _ q => absurd (Value.type.inj (congrArg Obj.cls q)) (by decide)
theorem pop_P (F : Fr h₀ L s.heap m) (N : News h₀ L s.heap led) (Pt : Part led fz cs rest) (hz : Tups fz) (U : Upd D (PySem.W.listOf (ws ++ [y]).toArray n) (PySem.W.listOf ws.toArray (n + 1)) cs cs') (hr : Off rest D) (hsz : (ws ++ [y]).length ≤ sizeLine)
    (k : ∀ h', Fr h₀ L h' m → News h₀ L h' (cs' ++ (fz ++ rest)) → Q y { s with heap := h' }) : wpAny (model prog w) A (call (.builtin "list.pop") [.ref D]) Q E s :=
  kl_pop F (news_back (Pt.news N)) (by rw [List.toList_toArray]; exact kpa_last y ws) (upd_part Pt N hz list_no_tup U hr) (by simpa using hsz) k
theorem append_P (F : Fr h₀ L s.heap m) (N : News h₀ L s.heap led) (Pt : Part led fz cs rest) (hz : Tups fz) (U : Upd D (PySem.W.listOf ws.toArray n) (PySem.W.listOf (ws ++ [y]).toArray (n + 1)) cs cs') (hr : Off rest D) (hsz : ws.length ≤ sizeLine)
    (k : ∀ h', Fr h₀ L h' m → News h₀ L h' (cs' ++ (fz ++ rest)) → Q .none { s with heap := h' }) : wpAny (model prog w) A (call (.builtin "list.append") [.ref D, y]) Q E s := by
  obtain ⟨pre, post, e1, e2, a, c⟩ := (upd_part Pt N hz list_no_tup U hr).split
  have N' : News h₀ L s.heap (cs ++ (fz ++ rest)) := news_back (Pt.news N)
  rw [e1] at N'
  rw [e2] at k
  have z := N' (D, PySem.W.listOf ws.toArray n) (List.mem_append.mpr (.inr (.head _)))
  refine append_at (hsz := by rw [List.size_toArray]; exact hsz) z.1 fun h' hs ho => k h' (F.change hs z.2.1 z.2.2) ?_
  have q : ws.toArray.push y = (ws ++ [y]).toArray := by simp
  rw [q] at ho
  exact news_set N' a c hs ho
theorem extend_P {b : Addr} {j : Nat} (F : Fr h₀ L s.heap m) (N : News h₀ L s.heap led) (Pt : Part led fz cs rest) (hz : Tups fz) (hb : (b, tupO us j) ∈ fz) (U : Upd D (PySem.W.listOf ws.toArray n) (PySem.W.listOf (ws ++ us).toArray (if us.length = 0 then n else n + 1)) cs cs') (hr : Off rest D) (hsz : ws.length + us.length ≤ sizeLine)
    (k : ∀ h', Fr h₀ L h' m → News h₀ L h' (cs' ++ (fz ++ rest)) → Q .none { s with heap := h' }) : wpAny (model prog w) A (call (.builtin "list.extend") [.ref D, .ref b]) Q E s := by
  obtain ⟨pre, post, e1, e2, a, c⟩ := (upd_part Pt N hz list_no_tup U hr).split
  have N' : News h₀ L s.heap (cs ++ (fz ++ rest)) := news_back (Pt.news N)
  have hb' : s.heap.get? b = some (tupO us j) := (N _ (Pt.mem _ (.inl hb))).1
  rw [e1] at N'
  rw [e2] at k
  have z := N' (D, PySem.W.listOf ws.toArray n) (List.mem_append.mpr (.inr (.head _)))
  have hlim : ¬(!ws.toArray.isEmpty && Builtin.List.listTooLong (ws.toArray.size + us.toArray.size)) = true := by
    have : Builtin.List.listTooLong (ws.toArray.size + us.toArray.size) = false := by
      unfold Builtin.List.listTooLong
      simp only [List.size_toArray]
      have := sizeLine_eq
      simp only [decide_eq_false_iff_not, gt_iff_lt, Nat.not_lt]
      omega
    rw [this, Bool.and_false]; exact Bool.false_ne_true
  refine call_meets PySem.F.slot_list_extend ⟨_, z.1, rfl⟩ PySem.F.entry_list_extend (PySem.F.args_list_extend_2 _ _) (PySem.AutoSeq1.list_extend_list_tuple_0 D ws.toArray n b us.toArray j hlim (by simp only [List.size_toArray]; omega) (by simp only [List.size_toArray]; omega)) ⟨z.1, hb', k _ (F.change (Heap.SameBut.update ..) z.2.1 z.2.2) ?_⟩
  refine news_set N' a c (Heap.SameBut.update ..) ?_
  have q := PySem.IsL.update z.1 (fun x => x ++ us.toArray)
  refine q.trans ?_
  by_cases h0 : us.length = 0
  · simp [h0]
  · simp [h0]
end

end
section
theorem flushLWhile : True ∧ True := by (w_top off); (first | (walk1; done) | exact ⟨True.intro, True.intro⟩)
/-! a while over a stack of types -/
noncomputable def size : Ty → Nat
  | .ref _ _ t | .box t | .array t => size t + 1
  | .pair t u | .adt _ _ t u => size t + size u + 1
  | _ => 1
noncomputable def szL : List Ty → Nat
  | [] => 0
  | t :: ts => size t + szL ts
theorem szL_append : ∀ a b : List Ty, szL (a ++ b) = szL a + szL b
  | [], b => by simp [szL]
  | t :: a, b => by rw [List.cons_append, szL, szL, szL_append a b, Nat.add_assoc]
theorem size_kids (T : Ty) : szL (kids T) + 1 ≤ size T := by cases T <;> exact Nat.le_refl _
theorem szL_reverse : ∀ a : List Ty, szL a.reverse = szL a
  | [] => rfl
  | t :: a => by rw [List.reverse_cons, szL_append, szL_reverse a]; exact Nat.add_comm ..
theorem TyAll.append {fz : Led} {vs ws : List Value} {Ts Us : List Ty} (h : TyAll fz vs Ts) (k : TyAll fz ws Us) : TyAll fz (vs ++ ws) (Ts ++ Us) := by
  induction h with
  | nil => exact k
  | cons a _ ih => exact .cons a ih
theorem TyAll.last {fz : Led} {vs : List Value} {Ts : List Ty} {T : Ty} (h : TyAll fz vs (Ts ++ [T])) : ∃ ws v, vs = ws ++ [v] ∧ TyAll fz ws Ts ∧ TyIn fz v T := by
  induction Ts generalizing vs with
  | nil => obtain ⟨v, rfl, k⟩ := h.one; exact ⟨[], v, rfl, .nil, k⟩
  | cons U Ts ih =>
    cases h with
    | cons a b => obtain ⟨ws, v, rfl, c, d⟩ := ih b; exact ⟨_ :: ws, v, rfl, .cons a c, d⟩
section
variable {prog : Program} {w : World} {A : Around} {E : Value → Shared → Prop} {s : Shared} {h₀ : Heap} {L : Addr} {m : Str → Option Value} {env : Env} {Q : Flow → Shared → Prop}
noncomputable def LStep {γ : Type} (h₀ : Heap) (L D : Addr) (x : Str) (s : Shared) (cs : γ → Led) (fz rest : Led) (Inv : List Ty → γ → Prop) (u₀ : Str → Option Value) (keep : List Str) (Q : Flow → Shared → Prop) (n : Nat) (f : Flow) (s₃ : Shared) : Prop :=
  match f with
  | .next | .cont => ∃ h' tk u vs Ts fz' k g, s₃ = { s with heap := h', toks := tk } ∧ Fr h₀ L h' u ∧ u x = some (.ref D) ∧ (∀ y ∈ keep, u y = u₀ y) ∧ News h₀ L h' ((D, PySem.W.listOf vs.toArray k) :: (cs g ++ (fz' ++ rest))) ∧ Sub fz fz' ∧ Tups fz' ∧ TyAll fz' vs Ts ∧ Inv Ts g ∧ szL Ts < n
  | .brk => Q .next s₃
  | .ret v => Q (.ret v) s₃
theorem while_stack {γ : Type} {test : Expr} {body : List Stmt} {pos : Pos} {D : Addr} {x : Str} {v : Value} {T : Ty} {k : Nat} {led fz rest : Led} (cs : γ → Led) (Inv : List Ty → γ → Prop) (g₀ : γ) (keep : List Str)
    (F : Fr h₀ L s.heap m) (N : News h₀ L s.heap led) (hx : m x = some (.ref D)) (hs : ∀ p ∈ (D, PySem.W.listOf [v].toArray k) :: (cs g₀ ++ (fz ++ rest)), p ∈ led) (hz : Tups fz) (hT : TyIn fz v T) (h0 : Inv [T] g₀)
    (turn : ∀ vs Ts fz₁ k g u h₁ tk₁, Fr h₀ L h₁ u → u x = some (.ref D) → (∀ y ∈ keep, u y = m y) → News h₀ L h₁ ((D, PySem.W.listOf vs.toArray k) :: (cs g ++ (fz₁ ++ rest))) → Sub fz fz₁ → Tups fz₁ → TyAll fz₁ vs Ts → Inv Ts g → vs.length ≤ szL Ts →
      wpAny (model prog w) A (isTrue test env (eval test env)) (fun b s₂ => if b = true then wpAny (model prog w) A (execs body env) (LStep h₀ L D x s cs fz rest Inv m keep Q (szL Ts)) E s₂ else Q .next s₂) E { s with heap := h₁, toks := tk₁ })
    (hE : PassesOwn (model prog w) A env E) :
    wpAny (model prog w) A (exec (.While test body [] pos) env) Q E s := by
  refine While_inv2 (fun n u l => ∃ vs Ts fz' k g, l = (D, PySem.W.listOf vs.toArray k) :: (cs g ++ (fz' ++ rest)) ∧ n = szL Ts ∧ u x = some (.ref D) ∧ (∀ y ∈ keep, u y = m y) ∧ Sub fz fz' ∧ Tups fz' ∧ TyAll fz' vs Ts ∧ Inv Ts g) F (fun p hp => N p (hs p hp))
    ⟨[v], [T], fz, k, g₀, rfl, rfl, hx, fun _ _ => rfl, Sub.refl, hz, .cons hT .nil, h0⟩ ?_ hE
  rintro n u l h₁ tk₁ F₁ N₁ ⟨vs, Ts, fz', k, g, rfl, rfl, hu, hk, S', Z', A', I'⟩
  have hlen : vs.length ≤ szL Ts := by
    rw [A'.length]
    clear A' I' N₁
    induction Ts with
    | nil => exact Nat.le_refl _
    | cons t ts ih => exact Nat.le_trans (Nat.add_le_add ih (Nat.le_trans (Nat.le_add_left ..) (size_kids t))) (Nat.le_of_eq (Nat.add_comm ..))
  refine wpAny_mono (turn vs Ts fz' k g u h₁ tk₁ F₁ hu hk N₁ S' Z' A' I' hlen) (fun b s₂ hb => ?_) fun _ _ e => e
  cases b with
  | false => simpa using hb
  | true =>
    simp only [if_true] at hb ⊢
    refine wpAny_mono hb (fun f s₃ h₃ => ?_) fun _ _ e => e
    cases f with
    | ret v => exact h₃
    | brk => exact h₃
    | next => obtain ⟨h', tk, u', vs', Ts', fz₂, k', g', rfl, F₂, hu', hk', N₂, S₂, Z₂, A₂, I₂, lt⟩ := h₃; exact ⟨h', tk, u', _, _, rfl, F₂, N₂, lt, vs', Ts', fz₂, k', g', rfl, rfl, hu', hk', S₂, Z₂, A₂, I₂⟩
    | cont => obtain ⟨h', tk, u', vs', Ts', fz₂, k', g', rfl, F₂, hu', hk', N₂, S₂, Z₂, A₂, I₂, lt⟩ := h₃; exact ⟨h', tk, u', _, _, rfl, F₂, N₂, lt, vs', Ts', fz₂, k', g', rfl, rfl, hu', hk', S₂, Z₂, A₂, I₂⟩
end
section
variable {prog : Program} {w : World} {A : Around} {E : Value → Shared → Prop} {s : Shared} {h₀ : Heap} {L : Addr} {led fz cs rest : Led} {Q : Value → Shared → Prop}
theorem in_two {a : Addr} {x p q : Str} {t t1 t2 : Tok} {n : Nat} {b : Bool} (N : News h₀ L s.heap led) (hm : (a, tupO [.str p t1, .str q t2] n) ∈ led) (hp : PyData.strOk p = true) (hq : PyData.strOk q = true) (hx : PyData.strOk x = true) (hu : A.units + 64 < cLine) (hb : (p == x || q == x) = b) (k : Q (.bool b) s) :
    wpAny (model prog w) A (compareOp .In (.str x t) (.ref a)) Q E s := by
  refine SeqAt.in_tuple_reads (xs := [.str p, .str q]) (reads_tuple_at (N _ hm).1 rfl rfl (.cons (.str _ _) (.cons (.str _ _) .nil))) (.str x t) (by simp [PyData.canLayAll0, PyData.canLay0, hp, hq]) hx (by simp only [PyData.depthAll, PyData.depth]; omega) ?_
  simp only [List.any_cons, List.any_nil, PyData.eqv, Bool.or_false]
  rw [hb]; exact k
end
theorem kindS_ok (T : Ty) : PyData.strOk (kindS T) = true := by cases T <;> (show PyData.strOk (S _) = true; decide +kernel)
theorem ext_room {fz : Led} {ws vs : List Value} {U : Ty} (h : ws.length + 2 ≤ sizeLine) (a : TyAll fz vs (kids U)) : ws.length + vs.length ≤ sizeLine := by
  rw [a.length]; exact Nat.le_trans (Nat.add_le_add_left (kids_two U) _) h
theorem size_le1 {a n h : Nat} (ih : a + 1 ≤ 2 ^ (h + 1)) (w : n ≤ a + 1) : n + 1 ≤ 2 ^ (h + 1 + 1) :=
  Nat.pow_succ 2 (h + 1) ▸ Nat.mul_two _ ▸ Nat.add_le_add (Nat.le_trans w ih) Nat.one_le_two_pow
theorem size_up {a h k : Nat} (ih : a + 1 ≤ 2 ^ (h + 1)) (w : h ≤ k) : a + 1 ≤ 2 ^ (k + 1) := Nat.le_trans ih (Nat.pow_le_pow_right Nat.two_pos (Nat.succ_le_succ w))
theorem size_le2 {a b h g : Nat} (ih : a + 1 ≤ 2 ^ (h + 1)) (ig : b + 1 ≤ 2 ^ (g + 1)) : a + b + 1 + 1 ≤ 2 ^ (max h g + 1 + 1) :=
  Nat.pow_succ 2 (max h g + 1) ▸ Nat.mul_two _ ▸ Nat.le_trans (Nat.le_of_eq (Nat.add_add_add_comm a b 1 1)) (Nat.add_le_add (size_up ih (Nat.le_max_left ..)) (size_up ig (Nat.le_max_right ..)))
theorem size_le (T : Ty) : size T + 1 ≤ 2 ^ (height T + 1) := by
  induction T with
  | ref _ _ t ih | box t ih | array t ih => exact size_le1 ih (Nat.le_refl _)
  | pair t u i1 i2 | adt _ _ t u i1 i2 => exact size_le2 i1 i2
  | _ => exact Nat.le_refl 2
theorem size_room {T : Ty} (h : height T ≤ 20) : size T ≤ 2097152 :=
  Nat.le_of_succ_le (size_up (size_le T) h)
theorem stack_room {ws : List Value} {v : Value} {n : Nat} (h : (ws ++ [v]).length ≤ n) (k : n ≤ 2097152) : (ws ++ [v]).length ≤ sizeLine ∧ ws.length + 2 ≤ sizeLine := by
  have e : 2097152 + 1 ≤ sizeLine := by rw [sizeLine_eq]; decide
  have h := Nat.le_trans h k
  rw [List.length_append] at h ⊢
  exact ⟨Nat.le_trans h (Nat.le_of_succ_le e), Nat.le_trans (Nat.succ_le_succ h) e⟩
noncomputable def isUnk : Ty → Bool
  | .var | .intvar => true
  | _ => false
theorem unk_kind (T : Ty) : (S "var" == kindS T || S "intvar" == kindS T) = isUnk T := by cases T <;> first | (show (S _ == S _ || S _ == S _) = true; decide) | (show (S _ == S _ || S _ == S _) = false; decide)
end
section
theorem flushLSlice : True ∧ True := by (w_top off); (first | (walk1; done) | exact ⟨True.intro, True.intro⟩)
/-! slices of tuples -/
noncomputable def slRes (lo hi st : Option Int) (n : Nat) : Int × Int × Nat :=
  ((Builtin.Slice.sliceAdjust lo hi (st.getD 1) n).1, st.getD 1, Builtin.Slice.slicePlaces (Builtin.Slice.sliceAdjust lo hi (st.getD 1) n).1 (Builtin.Slice.sliceAdjust lo hi (st.getD 1) n).2 (st.getD 1))
noncomputable def slPick (vs : List Value) (r : Int × Int × Nat) : List Value := (List.range r.2.2).filterMap fun (k : Nat) => vs[(r.1 + (k : Int) * r.2.1).toNat]?
section
variable {prog : Program} {w : World} {A : Around} {E : Value → Shared → Prop} {s : Shared} {h₀ : Heap} {L : Addr} {m : Str → Option Value} {led : Led}
theorem slicePart_of {v : Value} {o : Option Int} {Q : Option Int → Shared → Prop} (p : IsPart v o) (h : Q o s) : wpAny (model prog w) A (Builtin.Slice.slicePartIndex v) Q E s := by
  cases p with
  | none => exact slicePart_none h
  | int i t => exact slicePart_int h
theorem sliceApplied_all {sl : Addr} {n : Nat} {vl vu vk : Value} {lo hi st : Option Int} {Q : Int × Int × Nat → Shared → Prop} (hs : s.heap.IsSliceOf sl vl vu vk) (pl : IsPart vl lo) (pu : IsPart vu hi) (pk : IsPart vk st) (h0 : st ≠ some 0) (h : Q (slRes lo hi st n) s) :
    wpAny (model prog w) A (Builtin.Slice.sliceApplied (.ref sl) (pure (n : Int))) Q E s := by
  obtain ⟨os, hos, hcs, hds⟩ := id hs
  unfold Builtin.Slice.sliceApplied Builtin.Slice.sliceFields
  refine wpAny_bind (wpAny_bind (wpAny_field hos hds (x := vl) rfl (wpAny_bind (wpAny_field hos hds (x := vu) rfl (wpAny_bind (wpAny_field hos hds (x := vk) rfl (wpAny_pure ?_)))))))
  refine wpAny_bind (slicePart_of pk ?_)
  have hst : ¬ ((st.getD 1 == 0) = true) := by
    cases st with
    | none => decide
    | some i => simp only [Option.getD]; intro q; exact h0 (congrArg some (eq_of_beq q))
  show wpAny _ _ (if ((st.getD 1 : Int) == 0) = true then _ else _) _ _ s
  rw [if_neg hst]
  refine wpAny_bind (slicePart_of pl (wpAny_bind (slicePart_of pu (wpAny_bind (wpAny_pure ?_)))))
  exact wpAny_pure h
theorem getItem_tup_sl {t sl : Addr} {vs : List Value} {vl vu vk : Value} {lo hi st : Option Int} {Q : Value → Shared → Prop} (ht : IsTup s.heap t vs.toArray) (hs : s.heap.IsSliceOf sl vl vu vk) (pl : IsPart vl lo) (pu : IsPart vu hi) (pk : IsPart vk st) (h0 : st ≠ some 0)
    (hno : ((slRes lo hi st vs.length).1 == 0 && (slRes lo hi st vs.length).2.1 == 1 && (slRes lo hi st vs.length).2.2 == vs.length) = false) (hsz : (slPick vs (slRes lo hi st vs.length)).length ≤ sizeLine)
    (h : Q (.ref s.heap.objs.size) { s with heap := s.heap.push { cls := .type "tuple", data := .seq (slPick vs (slRes lo hi st vs.length)).toArray } }) :
    wpAny (model prog w) A (getItem (.ref t) (.ref sl)) Q E s := by
  obtain ⟨os, hos, hcs, hds⟩ := id hs
  have hTs : s.TypeIs (.ref sl) "slice" := ⟨os, hos, hcs⟩
  unfold getItem
  try with_reducible refine wpAny_holding ?_
  first | refine wpAny_bind (wpAny_pure ?_) | skip
  refine wpAny_bind (wpAny_sequenceKey ht.typeIs (by decide) ?_)
  refine wpAny_bind (wpAny_callSpecial?_slot (name := Str.ofString "__getitem__") ht.typeIs slot_tuple_getitem
    (wpAny_call_entry slot_tuple_getitem ht.typeIs entry_tuple_getitem ?_ (args_tuple_getitem _ _)))
  show wpAny _ _ (Builtin.Tuple.tupleItemsOf (.ref t) >>= _) _ _ s
  refine wpAny_bind (tupleItemsOf_ ht ?_)
  refine wpAny_bind (wpAny_typeOf hTs ?_)
  rw [if_pos (by decide)]
  have e : vs.toArray.size = vs.length := List.size_toArray ..
  rw [e]
  refine wpAny_bind (sliceApplied_all (n := vs.length) hs pl pu pk h0 ?_)
  show wpAny _ _ (if ((slRes lo hi st vs.length).1 == 0 && (slRes lo hi st vs.length).2.1 == 1 && (slRes lo hi st vs.length).2.2 == vs.length) = true then _ else _) _ _ s
  rw [if_neg (by rw [hno]; exact Bool.false_ne_true)]
  have hq : (List.filterMap (fun (k : Nat) => vs.toArray[((Builtin.Slice.sliceAdjust lo hi (st.getD 1) (vs.length : Int)).fst + (k : Int) * st.getD 1).toNat]?) (List.range (Builtin.Slice.slicePlaces (Builtin.Slice.sliceAdjust lo hi (st.getD 1) (vs.length : Int)).fst (Builtin.Slice.sliceAdjust lo hi (st.getD 1) (vs.length : Int)).snd (st.getD 1)))).toArray = (slPick vs (slRes lo hi st vs.length)).toArray := by
    unfold slPick slRes
    simp only [List.getElem?_toArray]
  rw [hq]
  have hdrop : sizeOk (.seq (slPick vs (slRes lo hi st vs.length)).toArray) := by
    show (slPick vs (slRes lo hi st vs.length)).toArray.size ≤ sizeLine
    rw [List.size_toArray]; exact hsz
  first
    | exact wpAny_bind (m := Builtin.Tuple.tupleExact _) (wpAny_newObj_type (wpAny_pure ⟨_, rfl, wpAny_pure h⟩) hdrop)
    | exact wpAny_bind (m := Builtin.Tuple.tupleExact _) (wpAny_newObj_type (wpAny_bind (wpAny_pure (wpAny_pure ⟨_, rfl, wpAny_pure h⟩))) hdrop)
    | exact wpAny_bind (wpAny_bind (m := Builtin.Tuple.tupleExact _) (wpAny_newObj_type (wpAny_pure (wpAny_pure ⟨_, rfl, wpAny_pure h⟩)) hdrop))
    | exact wpAny_bind (wpAny_bind (m := Builtin.Tuple.tupleExact _) (wpAny_newObj_type (wpAny_pure ⟨_, rfl, wpAny_pure h⟩) hdrop))
theorem getItem_tup_whole {t sl : Addr} {vs : List Value} {vl vu vk : Value} {lo hi st : Option Int} {Q : Value → Shared → Prop} (ht : IsTup s.heap t vs.toArray) (hs : s.heap.IsSliceOf sl vl vu vk) (pl : IsPart vl lo) (pu : IsPart vu hi) (pk : IsPart vk st) (h0 : st ≠ some 0)
    (hno : ((slRes lo hi st vs.length).1 == 0 && (slRes lo hi st vs.length).2.1 == 1 && (slRes lo hi st vs.length).2.2 == vs.length) = true) (h : Q (.ref t) s) :
    wpAny (model prog w) A (getItem (.ref t) (.ref sl)) Q E s := by
  obtain ⟨os, hos, hcs, hds⟩ := id hs
  have hTs : s.TypeIs (.ref sl) "slice" := ⟨os, hos, hcs⟩
  unfold getItem
  try with_reducible refine wpAny_holding ?_
  first | refine wpAny_bind (wpAny_pure ?_) | skip
  refine wpAny_bind (wpAny_sequenceKey ht.typeIs (by decide) ?_)
  refine wpAny_bind (wpAny_callSpecial?_slot (name := Str.ofString "__getitem__") ht.typeIs slot_tuple_getitem
    (wpAny_call_entry slot_tuple_getitem ht.typeIs entry_tuple_getitem ?_ (args_tuple_getitem _ _)))
  show wpAny _ _ (Builtin.Tuple.tupleItemsOf (.ref t) >>= _) _ _ s
  refine wpAny_bind (tupleItemsOf_ ht ?_)
  refine wpAny_bind (wpAny_typeOf hTs ?_)
  rw [if_pos (by decide)]
  have e : vs.toArray.size = vs.length := List.size_toArray ..
  rw [e]
  refine wpAny_bind (sliceApplied_all (n := vs.length) hs pl pu pk h0 ?_)
  show wpAny _ _ (if ((slRes lo hi st vs.length).1 == 0 && (slRes lo hi st vs.length).2.1 == 1 && (slRes lo hi st vs.length).2.2 == vs.length) = true then _ else _) _ _ s
  rw [if_pos hno]
  refine wpAny_bind (m := Builtin.Tuple.tupleIsExact (.ref t)) ?_
  unfold Builtin.Tuple.tupleIsExact
  refine wpAny_bind (wpAny_typeOf ht.typeIs (wpAny_pure ?_))
  rw [if_pos (by decide)]
  exact wpAny_bind (wpAny_rule (wpAny_bind (wpAny_pure (wpAny_pure ⟨_, rfl, wpAny_pure h⟩))))
theorem slice_tup {value slice : Expr} {t : Addr} {vs ws : List Value} {k : Nat} {vl vu vk : Value} {lo hi st : Option Int} {ops : List Value} {Q : Value → Shared → Prop} (F : Fr h₀ L s.heap m) (N : News h₀ L s.heap led) (hm : (t, tupO vs k) ∈ led) (pl : IsPart vl lo) (pu : IsPart vu hi) (pk : IsPart vk st) (h0 : st ≠ some 0)
    (hno : ((slRes lo hi st vs.length).1 == 0 && (slRes lo hi st vs.length).2.1 == 1 && (slRes lo hi st vs.length).2.2 == vs.length) = false) (e : slPick vs (slRes lo hi st vs.length) = ws) (hsz : ws.length ≤ sizeLine)
    (h : ∀ D h', Fr h₀ L h' m → News h₀ L h' ((D, tupO ws 0) :: led) → (∀ p ∈ led, p.1 < D) → Q (.ref D) { s with heap := h' })
    (hs : subscripted slice false (.ref t) (.ref s.heap.objs.size) = operate ops (getItem (.ref t) (.ref s.heap.objs.size))) :
    wpAny (model prog w) A (subscriptTail value slice (.ref t) (.ref s.heap.objs.size)) Q E { s with heap := s.heap.push { cls := .type "slice", data := .fields #[vl, vu, vk] } } := by
  have ht : IsTup s.heap t vs.toArray := N.isTup hm
  have ht' : IsTup (s.heap.push { cls := .type "slice", data := .fields #[vl, vu, vk] }) t vs.toArray := ht.keeps fun _ _ e => Heap.get?_push_of_some _ e
  subst e
  refine tail_any (s := { s with heap := s.heap.push { cls := .type "slice", data := .fields #[vl, vu, vk] } }) ht'.typeIs slot_tuple_getitem.lookup
    (getItem_tup_sl ht' (Heap.IsSliceOf.new ..) pl pu pk h0 hno hsz ?_) hs
  have N1 := News.push (F.push { cls := .type "slice", data := .fields #[vl, vu, vk] }) (N.grown fun _ _ e => Heap.get?_push_of_some _ e) { cls := .type "tuple", data := .seq (slPick vs (slRes lo hi st vs.length)).toArray }
  rw [Heap.size_push] at N1
  show Q (.ref (s.heap.push _).objs.size) _
  rw [Heap.size_push]
  exact h _ _ ((F.push _).push _) N1 fun p hp => Nat.lt_succ_of_lt (Heap.lt_size (N p hp).1)
theorem slice_whole {value slice : Expr} {t : Addr} {vs : List Value} {k : Nat} {vl vu vk : Value} {lo hi st : Option Int} {ops : List Value} {Q : Value → Shared → Prop} (F : Fr h₀ L s.heap m) (N : News h₀ L s.heap led) (hm : (t, tupO vs k) ∈ led) (pl : IsPart vl lo) (pu : IsPart vu hi) (pk : IsPart vk st) (h0 : st ≠ some 0)
    (hno : ((slRes lo hi st vs.length).1 == 0 && (slRes lo hi st vs.length).2.1 == 1 && (slRes lo hi st vs.length).2.2 == vs.length) = true)
    (h : ∀ h', Fr h₀ L h' m → News h₀ L h' led → Q (.ref t) { s with heap := h' })
    (hs : subscripted slice false (.ref t) (.ref s.heap.objs.size) = operate ops (getItem (.ref t) (.ref s.heap.objs.size))) :
    wpAny (model prog w) A (subscriptTail value slice (.ref t) (.ref s.heap.objs.size)) Q E { s with heap := s.heap.push { cls := .type "slice", data := .fields #[vl, vu, vk] } } := by
  have ht : IsTup s.heap t vs.toArray := N.isTup hm
  have ht' : IsTup (s.heap.push { cls := .type "slice", data := .fields #[vl, vu, vk] }) t vs.toArray := ht.keeps fun _ _ e => Heap.get?_push_of_some _ e
  exact tail_any (s := { s with heap := s.heap.push { cls := .type "slice", data := .fields #[vl, vu, vk] } }) ht'.typeIs slot_tuple_getitem.lookup
    (getItem_tup_whole ht' (Heap.IsSliceOf.new ..) pl pu pk h0 hno (h _ (F.push _) (N.grown fun _ _ e => Heap.get?_push_of_some _ e))) hs
end
section
variable {prog : Program} {w : World} {A : Around} {E : Value → Shared → Prop} {h₀ : Heap} {L : Addr} {m : Str → Option Value} {led : Led}
theorem slice_tupS {hp : Heap} {gs : Array GenState} {dr : Drawn} {tk : Nat} {os : OsState} {value slice : Expr} {t : Addr} {vs ws : List Value} {k : Nat} {vl vu vk : Value} {lo hi st : Option Int} {Q : Value → Shared → Prop} (F : Fr h₀ L hp m) (N : News h₀ L hp led) (hm : (t, tupO vs k) ∈ led) (pl : IsPart vl lo) (pu : IsPart vu hi) (pk : IsPart vk st) (h0 : st ≠ some 0)
    (hno : ((slRes lo hi st vs.length).1 == 0 && (slRes lo hi st vs.length).2.1 == 1 && (slRes lo hi st vs.length).2.2 == vs.length) = false) (e : slPick vs (slRes lo hi st vs.length) = ws) (hsz : ws.length ≤ sizeLine)
    (h : ∀ D h', Fr h₀ L h' m → News h₀ L h' ((D, tupO ws 0) :: led) → (∀ p ∈ led, p.1 < D) → Q (.ref D) ⟨h', gs, dr, tk, os⟩)
    (hs : subscripted slice false (.ref t) (.ref hp.objs.size) = operate [.ref hp.objs.size, .ref t] (getItem (.ref t) (.ref hp.objs.size))) :
    wpAny (model prog w) A (subscriptTail value slice (.ref t) (.ref hp.objs.size)) Q E ⟨hp.push { cls := .type "slice", data := .fields #[vl, vu, vk] }, gs, dr, tk, os⟩ :=
  slice_tup (s := ⟨hp, gs, dr, tk, os⟩) F N hm pl pu pk h0 hno e hsz h hs
theorem slice_tupR {hp : Heap} {gs : Array GenState} {dr : Drawn} {tk : Nat} {os : OsState} {value slice : Expr} {t : Addr} {vs ws : List Value} {k : Nat} {vl vu vk : Value} {lo hi st : Option Int} {Q : Value → Shared → Prop} (F : Fr h₀ L hp m) (N : News h₀ L hp led) (hm : (t, tupO vs k) ∈ led) (pl : IsPart vl lo) (pu : IsPart vu hi) (pk : IsPart vk st) (h0 : st ≠ some 0)
    (hno : ((slRes lo hi st vs.length).1 == 0 && (slRes lo hi st vs.length).2.1 == 1 && (slRes lo hi st vs.length).2.2 == vs.length) = false) (e : slPick vs (slRes lo hi st vs.length) = ws) (hsz : ws.length ≤ sizeLine)
    (h : ∀ D h', Fr h₀ L h' m → News h₀ L h' ((D, tupO ws 0) :: led) → (∀ p ∈ led, p.1 < D) → Q (.ref D) ⟨h', gs, dr, tk, os⟩)
    (hs : subscripted slice false (.ref t) (.ref hp.objs.size) = operate [.ref t, .ref hp.objs.size] (getItem (.ref t) (.ref hp.objs.size))) :
    wpAny (model prog w) A (subscriptTail value slice (.ref t) (.ref hp.objs.size)) Q E ⟨hp.push { cls := .type "slice", data := .fields #[vl, vu, vk] }, gs, dr, tk, os⟩ :=
  slice_tup (s := ⟨hp, gs, dr, tk, os⟩) F N hm pl pu pk h0 hno e hsz h hs
theorem slice_wholeS {hp : Heap} {gs : Array GenState} {dr : Drawn} {tk : Nat} {os : OsState} {value slice : Expr} {t : Addr} {vs : List Value} {k : Nat} {vl vu vk : Value} {lo hi st : Option Int} {Q : Value → Shared → Prop} (F : Fr h₀ L hp m) (N : News h₀ L hp led) (hm : (t, tupO vs k) ∈ led) (pl : IsPart vl lo) (pu : IsPart vu hi) (pk : IsPart vk st) (h0 : st ≠ some 0)
    (hno : ((slRes lo hi st vs.length).1 == 0 && (slRes lo hi st vs.length).2.1 == 1 && (slRes lo hi st vs.length).2.2 == vs.length) = true)
    (h : ∀ h', Fr h₀ L h' m → News h₀ L h' led → Q (.ref t) ⟨h', gs, dr, tk, os⟩)
    (hs : subscripted slice false (.ref t) (.ref hp.objs.size) = operate [.ref hp.objs.size, .ref t] (getItem (.ref t) (.ref hp.objs.size))) :
    wpAny (model prog w) A (subscriptTail value slice (.ref t) (.ref hp.objs.size)) Q E ⟨hp.push { cls := .type "slice", data := .fields #[vl, vu, vk] }, gs, dr, tk, os⟩ :=
  slice_whole (s := ⟨hp, gs, dr, tk, os⟩) F N hm pl pu pk h0 hno h hs
end
theorem sl_rev_res (n : Nat) : slRes none none (some (-1)) n = ((n : Int) - 1, -1, n) := by
  have e : Builtin.Slice.sliceAdjust none none (-1) n = ((n : Int) - 1, -1) := by
    unfold Builtin.Slice.sliceAdjust
    rfl
  have g : Builtin.Slice.slicePlaces ((n : Int) - 1) (-1) (-1) = n := by
    unfold Builtin.Slice.slicePlaces
    rw [if_neg (by decide), show (- -1 : Int) = 1 from rfl, Int.ediv_one, Int.sub_neg, Int.sub_add_cancel, Int.sub_add_cancel]
    cases n with
    | zero => rfl
    | succ n => exact congrArg Int.toNat (if_pos (c := -1 < (n : Int) + 1 - 1) ((Int.add_sub_cancel (n : Int) 1).symm ▸ Int.lt_of_lt_of_le (show (-1 : Int) < 0 by decide) (Int.natCast_nonneg n)))
  unfold slRes
  simp only [Option.getD, e, g]
theorem sl_rev_pick (vs : List Value) : slPick vs (slRes none none (some (-1)) vs.length) = vs.reverse := by
  rw [sl_rev_res]
  unfold slPick
  simp only
  have h1 : (List.range vs.length).filterMap (fun (k : Nat) => vs[((vs.length : Int) - 1 + (k : Int) * -1).toNat]?) = (List.range vs.length).filterMap (fun (k : Nat) => vs[vs.length - 1 - k]?) := by
    congr 1
    funext k
    rw [Int.mul_neg, Int.mul_one, ← Int.sub_eq_add_neg, Int.sub_sub]
    exact congrArg (vs[·]?) ((Int.toNat_sub _ (1 + k)).trans (Nat.sub_sub ..).symm)
  rw [h1]
  have h2 : (fun (k : Nat) => vs[vs.length - 1 - k]?) = (fun k => vs[k]?) ∘ fun k => vs.length - 1 - k := rfl
  rw [h2, ← List.filterMap_map, krv_range, List.filterMap_reverse]
  have h3 := krv_all vs.toArray
  simp only [List.size_toArray, List.getElem?_toArray, List.toList_toArray] at h3
  rw [h3]
theorem sl_rev_no (n : Nat) : ((slRes none none (some (-1)) n).1 == 0 && (slRes none none (some (-1)) n).2.1 == 1 && (slRes none none (some (-1)) n).2.2 == n) = false := by
  rw [sl_rev_res]
  have : ((-1 : Int) == 1) = false := by decide
  simp only [this, Bool.and_false, Bool.false_and]
theorem TyAll.reverse {fz : Led} {vs : List Value} {Ts : List Ty} (h : TyAll fz vs Ts) : TyAll fz vs.reverse Ts.reverse := by
  induction h with
  | nil => exact .nil
  | cons a _ ih => rw [List.reverse_cons, List.reverse_cons]; exact ih.snoc a
end
section
theorem flushLSl : True ∧ True := by (w_top off); (first | (walk1; done) | exact ⟨True.intro, True.intro⟩)
/-! slices that go forward: vs[:k], vs[k:], vs[a:b] -/
theorem pick_fwd (vs : List Value) (a n : Nat) (h : a + n ≤ vs.length) : slPick vs ((a : Int), 1, n) = (vs.drop a).take n := by
  unfold slPick
  simp only
  induction n with
  | zero => rw [List.take_zero]; rfl
  | succ n ih =>
    rw [List.range_succ, List.filterMap_append, ih (Nat.le_of_succ_le h)]
    have e : ((a : Int) + (n : Int) * 1).toNat = a + n := by rw [Int.mul_one]; rfl
    have hl : a + n < vs.length := h
    simp only [List.filterMap_cons, List.filterMap_nil, e, List.getElem?_eq_getElem hl]
    have hd : n < (vs.drop a).length := by rw [List.length_drop]; exact Nat.lt_sub_iff_add_lt'.mpr h
    rw [List.take_add_one, List.getElem?_eq_getElem hd, List.getElem_drop]
    rfl
set_option tactic.hygienic true in
theorem pl_num (a b : Nat) : Builtin.Slice.slicePlaces (a : Int) (b : Int) 1 = b - a := by
  unfold Builtin.Slice.slicePlaces
  rw [if_pos (by decide), Int.ediv_one, Int.sub_add_cancel]
  split
  · exact Int.toNat_sub ..
  · rename_i h; exact (Nat.sub_eq_zero_of_le (Int.ofNat_le.mp (Int.not_lt.mp h))).symm
theorem nn (k : Nat) : ¬ ((k : Int) < 0) := Int.not_lt.mpr (Int.natCast_nonneg k)
theorem pn : ¬ ((1 : Int) < 0) := by decide
theorem cmin (a b : Nat) : min (a : Int) (b : Int) = ((min a b : Nat) : Int) :=
  (Nat.le_total a b).elim (fun h => by rw [Nat.min_eq_left h, Int.min_eq_left (Int.ofNat_le.mpr h)]) fun h => by rw [Nat.min_eq_right h, Int.min_eq_right (Int.ofNat_le.mpr h)]
theorem sl_head_res (k n : Nat) : slRes none (some (k : Int)) none n = (((0 : Nat) : Int), (1 : Int), min k n) := by
  have e : Builtin.Slice.sliceAdjust none (some (k : Int)) 1 n = (((0 : Nat) : Int), ((min k n : Nat) : Int)) := by
    unfold Builtin.Slice.sliceAdjust
    simp only [nn, pn, if_false, cmin]
    rfl
  unfold slRes
  simp only [Option.getD, e, pl_num]
  rfl
theorem sl_tail_res (k n : Nat) : slRes (some (k : Int)) none none n = (((min k n : Nat) : Int), (1 : Int), n - min k n) := by
  have e : Builtin.Slice.sliceAdjust (some (k : Int)) none 1 n = (((min k n : Nat) : Int), (n : Int)) := by
    unfold Builtin.Slice.sliceAdjust
    simp only [nn, pn, if_false, cmin]
  unfold slRes
  simp only [Option.getD, e, pl_num]
theorem sl_mid_res (a b n : Nat) : slRes (some (a : Int)) (some (b : Int)) none n = (((min a n : Nat) : Int), (1 : Int), min b n - min a n) := by
  have e : Builtin.Slice.sliceAdjust (some (a : Int)) (some (b : Int)) 1 n = (((min a n : Nat) : Int), ((min b n : Nat) : Int)) := by
    unfold Builtin.Slice.sliceAdjust
    simp only [nn, pn, if_false, cmin]
  unfold slRes
  simp only [Option.getD, e, pl_num]
theorem sl_fit {p q r : Nat} (hp : p ≤ r) (hq : q ≤ r) : p + (q - p) ≤ r :=
  (Nat.le_total p q).elim (fun h => (Nat.add_sub_cancel' h).symm ▸ hq) fun h => (Nat.sub_eq_zero_of_le h).symm ▸ hp
theorem sl_ne {p q n : Nat} (hp : 0 < p) (hq : q ≤ n) (hn : 0 < n) : (q - p == n) = false :=
  beq_eq_false_iff_ne.mpr (Nat.ne_of_lt (Nat.lt_of_le_of_lt (Nat.sub_le_sub_right hq p) (Nat.sub_lt hn hp)))
theorem sl_head_pick (k : Nat) (vs : List Value) : slPick vs (slRes none (some (k : Int)) none vs.length) = vs.take k := by
  rw [sl_head_res, pick_fwd _ _ _ ((Nat.zero_add _).symm ▸ Nat.min_le_right ..), List.drop_zero]
  exact List.take_eq_take_min.symm
theorem sl_tail_pick (k : Nat) (vs : List Value) : slPick vs (slRes (some (k : Int)) none none vs.length) = vs.drop k := by
  rw [sl_tail_res, pick_fwd _ _ _ (sl_fit (Nat.min_le_right ..) (Nat.le_refl _)), List.take_of_length_le (Nat.le_of_eq (List.length_drop ..))]
  rcases Nat.le_total k vs.length with h | h
  · rw [Nat.min_eq_left h]
  · rw [Nat.min_eq_right h, List.drop_of_length_le h, List.drop_of_length_le (Nat.le_refl _)]
theorem sl_mid_pick (a b : Nat) (vs : List Value) : slPick vs (slRes (some (a : Int)) (some (b : Int)) none vs.length) = (vs.drop a).take (b - a) := by
  rw [sl_mid_res, pick_fwd _ _ _ (sl_fit (Nat.min_le_right ..) (Nat.min_le_right ..))]
  rcases Nat.le_total a vs.length with h | h
  · rw [Nat.min_eq_left h]
    rcases Nat.le_total b vs.length with h' | h'
    · rw [Nat.min_eq_left h']
    · rw [Nat.min_eq_right h', List.take_of_length_le (Nat.le_of_eq (List.length_drop ..)), List.take_of_length_le (Nat.le_trans (Nat.le_of_eq (List.length_drop ..)) (Nat.sub_le_sub_right h' a))]
  · rw [Nat.min_eq_right h, List.drop_of_length_le h, List.drop_of_length_le (Nat.le_refl _), List.take_nil, List.take_nil]
theorem sl_head_no (k n : Nat) (h : Nat.blt k n = true) : ((slRes none (some (k : Int)) none n).1 == 0 && (slRes none (some (k : Int)) none n).2.1 == 1 && (slRes none (some (k : Int)) none n).2.2 == n) = false := by
  rw [sl_head_res]
  have : (min k n == n) = false := beq_eq_false_iff_ne.mpr (Nat.ne_of_lt (Nat.lt_of_le_of_lt (Nat.min_le_left ..) (Nat.le_of_ble_eq_true h)))
  simp only [this, Bool.and_false]
theorem sl_head_whole (k n : Nat) (h : Nat.ble n k = true) : ((slRes none (some (k : Int)) none n).1 == 0 && (slRes none (some (k : Int)) none n).2.1 == 1 && (slRes none (some (k : Int)) none n).2.2 == n) = true := by
  rw [sl_head_res, Nat.min_eq_right (Nat.le_of_ble_eq_true h)]
  exact beq_self_eq_true n
theorem sl_tail_no (k n : Nat) (h : Nat.ble 1 n = true) (h0 : Nat.ble 1 k = true) : ((slRes (some (k : Int)) none none n).1 == 0 && (slRes (some (k : Int)) none none n).2.1 == 1 && (slRes (some (k : Int)) none none n).2.2 == n) = false := by
  rw [sl_tail_res]
  simp only [sl_ne (Nat.lt_min.mpr ⟨Nat.le_of_ble_eq_true h0, Nat.le_of_ble_eq_true h⟩) (Nat.le_refl n) (Nat.le_of_ble_eq_true h), Bool.and_false]
theorem sl_mid_no (a b n : Nat) (h : Nat.ble 1 n = true) (h0 : Nat.ble 1 a = true) : ((slRes (some (a : Int)) (some (b : Int)) none n).1 == 0 && (slRes (some (a : Int)) (some (b : Int)) none n).2.1 == 1 && (slRes (some (a : Int)) (some (b : Int)) none n).2.2 == n) = false := by
  rw [sl_mid_res]
  simp only [sl_ne (Nat.lt_min.mpr ⟨Nat.le_of_ble_eq_true h0, Nat.le_of_ble_eq_true h⟩) (Nat.min_le_right b n) (Nat.le_of_ble_eq_true h), Bool.and_false]
section
variable {prog : Program} {w : World} {A : Around} {E : Value → Shared → Prop} {s : Shared} {h₀ : Heap} {L : Addr} {m : Str → Option Value} {led : Led} {vs ws : List Value} {a b : Addr} {i j : Nat} {Q : Value → Shared → Prop}
theorem add_T (F : Fr h₀ L s.heap m) (N : News h₀ L s.heap led) (ha : (a, tupO vs i) ∈ led) (hb : (b, tupO ws j) ∈ led) (hv : vs ≠ []) (hw : ws ≠ []) (hs : vs.length + ws.length ≤ 16384)
    (h : ∀ D h', Fr h₀ L h' m → News h₀ L h' ((D, tupO (vs ++ ws) 0) :: led) → (∀ p ∈ led, p.1 < D) → Q (.ref D) { s with heap := h' }) : wpAny (model prog w) A (binaryOp .Add (.ref a) (.ref b)) Q E s :=
  kde_addT F N (N.isTup ha) (N.isTup hb) (by simpa using hv) (by simpa using hw) (by simpa using hs) rfl (fun D h' F' N' l => h D h' F' (by simpa using N') (by simpa using l))
theorem add_T1 (F : Fr h₀ L s.heap m) (N : News h₀ L s.heap led) (ha : (a, tupO vs i) ∈ led) (hb : (b, tupO [] j) ∈ led) (hv : vs ≠ []) (hs : vs.length ≤ 16384)
    (h : Q (.ref a) s) : wpAny (model prog w) A (binaryOp .Add (.ref a) (.ref b)) Q E s :=
  kde_addT1 F N (N.isTup ha) (N.isTup hb) (by simpa using hv) rfl (by simpa using hs) h
end

end
section
theorem flushLMeth : True ∧ True := by (w_top off); (first | (walk1; done) | exact ⟨True.intro, True.intro⟩)
/-! methods of lists in a ledger -/
section
variable {prog : Program} {w : World} {A : Around} {E : Value → Shared → Prop} {s : Shared} {h₀ : Heap} {L a : Addr} {led : Led} {vs : List Value} {n : Nat} {pl : Sem Bool} {Q : Value × List Value → Shared → Prop}
theorem gm_append (N : News h₀ L s.heap led) (hm : (a, PySem.W.listOf vs.toArray n) ∈ led) (h : Q (.builtin "list.append", [.ref a]) s) : wpAny (model prog w) A (getMethod (.ref a) "append" pl) Q E s :=
  getMethod_builtin ⟨_, (N _ hm).1, rfl⟩ PySem.F.plainAttrs_list PySem.F.slot_list_append PySem.F.type_list_append (fun a e => by cases e; exact ⟨_, (N _ hm).1, rfl⟩) h
theorem gm_extend (N : News h₀ L s.heap led) (hm : (a, PySem.W.listOf vs.toArray n) ∈ led) (h : Q (.builtin "list.extend", [.ref a]) s) : wpAny (model prog w) A (getMethod (.ref a) "extend" pl) Q E s :=
  getMethod_builtin ⟨_, (N _ hm).1, rfl⟩ PySem.F.plainAttrs_list PySem.F.slot_list_extend (by show builtinType _ = _; rw [PySem.builtinType_eq_fast]; kernel_rfl) (fun a e => by cases e; exact ⟨_, (N _ hm).1, rfl⟩) h
end

end
section
theorem flushLJ5 : True ∧ True := by (w_top off); (first | (walk1; done) | exact ⟨True.intro, True.intro⟩)
/-! the small logic: statements that write to a list, tests in a pair, the last statement of a block -/
theorem Part.ownL {fz rest : Led} : ∀ {own : Led}, Part (own ++ (fz ++ rest)) fz own rest
  | [] => (Part.tail : Part (fz ++ rest) fz [] rest)
  | _ :: _ => .oth Part.ownL
section
variable {w : World} {cs : Scope} {cl : List (Str × Addr)} {c : Cx w cs cl} {m : Str → Option Value} {own own' fz rest : Led} {pos p1 p2 p3 p4 p5 p6 : Pos} {k k2 : Nat} {P : Value → Led → Led → Prop} {e e0 e1 e2 : Expr} {R : Flow → (Str → Option Value) → Led → Led → Prop}
theorem JX.last {st : Stmt} (j : JS c m own fz rest st R) : JX c m own fz rest [st] R := fun s Q E hE a q =>
  wpAny_execs_cons (j s _ E hE a fun fl m' o f h tk a' S r => by
    cases fl with
    | next => exact wpAny_execs_nil (q _ m' o f h tk a' S r)
    | ret v => exact q _ m' o f h tk a' S r
    | brk => exact q _ m' o f h tk a' S r
    | cont => exact q _ m' o f h tk a' S r)
/-- a test on a word, with its two arms -/
theorem JS.iteV {x y : Str} {u : Tok} {body orelse : List Stmt} (V : EV c m own fz rest e (fun _ => .str y u)) (h1 : (y == x) = true → JX c m own fz rest body R) (h2 : (y == x) = false → JX c m own fz rest orelse R) : JS c m own fz rest (.If (.Compare e [.Eq] [.Constant (.str x) k p1] p2) body orelse pos) R :=
  JS.ite (JT.eqV V ⟨h1, h2⟩)
theorem JT.inTwo {x p q : Str} {u : Tok} {B : Bool → Led → Led → Prop} (V : EV c m own fz rest e (fun _ => .str x u)) (hx : PyData.strOk x = true) (hu : c.un + 64 < cLine) (h : ∀ D t1 t2, B (p == x || q == x) own ((D, tupO [.str p t1, .str q t2] 0) :: fz)) (hp : PyData.strOk p = true := by decide +kernel) (hq : PyData.strOk q = true := by decide +kernel) :
    JT c m own fz rest (.Compare e [.In] [.Tuple [.Constant (.str p) k p1, .Constant (.str q) k2 p2] k p3] pos) B :=
  JT.cmp (JE.V V fun _ => JE.tup2 EV.str EV.str (fun t1 t2 D s _ _ _ a q' => in_two a.N (List.mem_append.mpr (.inr (List.mem_append.mpr (.inl (.head _))))) hp hq hx hu rfl (q' _ own _ s.heap s.toks a Sub.refl ⟨_, rfl, h D t1 t2⟩)))
theorem JX.app {D : Addr} {ws : List Value} {n : Nat} {y : Value} (V0 : EV c m own fz rest e0 (fun _ => .ref D)) (V1 : EV c m own fz rest e1 (fun _ => y)) (hD : (D, PySem.W.listOf ws.toArray n) ∈ own) (U : Upd D (PySem.W.listOf ws.toArray n) (PySem.W.listOf (ws ++ [y]).toArray (n + 1)) own own') (hr : Off rest D) (hsz : ws.length ≤ sizeLine)
    (h : R .next m own' fz) (hi : ∀ cn L a ccd, interactive (envX cn cs L a ccd cl) = false := by intros; rfl) (hs : ∀ env, swapsWith (.Call (.Attribute e0 (Str.ofString "append") p1) [e1] [] p2) none p3.line env = pure false := by intro _; rfl) {pl : Env → Sem Bool} (hm : ∀ env, eval (.Call (.Attribute e0 (Str.ofString "append") p1) [e1] [] p2) env = (do
      let ov ← eval e0 env
      standAt p1.atName
      let (f, first) ← holding [ov] (getMethod ov (Str.ofString "append") (pl env))
      callWith p2 f first (backTo p2 (starEach [e1] env)) (backToKw p2 (keywordEach [] env))) := by intro _; rfl) (he : ∀ env, starEach [e1] env = (false, eval e1 env) :: starEach [] env := by intro _; rfl) : JX c m own fz rest [.Expr (.Call (.Attribute e0 (Str.ofString "append") p1) [e1] [] p2) p3] R := fun s Q E hE a q =>
  wpAny_execs_cons (wpAny_Expr (methodCall_KW (pl := pl c.env) (V0 s _ E hE a fun t tk => gm_append a.N (List.mem_append.mpr (.inl hD)) (callWith_method1 (args_cons (V1 _ _ E hE a fun t2 tk2 => args_nil (append_P a.F a.N Part.ownL a.Z U hr hsz fun h' F' N' => wpAny_execs_nil (q .next m own' fz h' tk2 ⟨F', N', a.Z⟩ Sub.refl h))) (he _)) (he _) rfl)) (hm _)) (hi ..) (hs _))
theorem JX.ext {D b : Addr} {ws us : List Value} {n j : Nat} (V0 : EV c m own fz rest e0 (fun _ => .ref D)) (V1 : EV c m own fz rest e1 (fun _ => .ref b)) (hb : (b, tupO us j) ∈ fz) (hD : (D, PySem.W.listOf ws.toArray n) ∈ own) (U : Upd D (PySem.W.listOf ws.toArray n) (PySem.W.listOf (ws ++ us).toArray (if us.length = 0 then n else n + 1)) own own') (hr : Off rest D) (hsz : ws.length + us.length ≤ sizeLine)
    (h : R .next m own' fz) (hi : ∀ cn L a ccd, interactive (envX cn cs L a ccd cl) = false := by intros; rfl) (hs : ∀ env, swapsWith (.Call (.Attribute e0 (Str.ofString "extend") p1) [e1] [] p2) none p3.line env = pure false := by intro _; rfl) {pl : Env → Sem Bool} (hm : ∀ env, eval (.Call (.Attribute e0 (Str.ofString "extend") p1) [e1] [] p2) env = (do
      let ov ← eval e0 env
      standAt p1.atName
      let (f, first) ← holding [ov] (getMethod ov (Str.ofString "extend") (pl env))
      callWith p2 f first (backTo p2 (starEach [e1] env)) (backToKw p2 (keywordEach [] env))) := by intro _; rfl) (he : ∀ env, starEach [e1] env = (false, eval e1 env) :: starEach [] env := by intro _; rfl) : JX c m own fz rest [.Expr (.Call (.Attribute e0 (Str.ofString "extend") p1) [e1] [] p2) p3] R := fun s Q E hE a q =>
  wpAny_execs_cons (wpAny_Expr (methodCall_KW (pl := pl c.env) (V0 s _ E hE a fun t tk => gm_extend a.N (List.mem_append.mpr (.inl hD)) (callWith_method1 (args_cons (V1 _ _ E hE a fun t2 tk2 => args_nil (extend_P a.F a.N Part.ownL a.Z hb U hr hsz fun h' F' N' => wpAny_execs_nil (q .next m own' fz h' tk2 ⟨F', N', a.Z⟩ Sub.refl h))) (he _)) (he _) rfl)) (hm _)) (hi ..) (hs _))
theorem JX.expr {more : List Stmt} (j : JE c m own fz rest e (fun _ o f => JX c m o f rest more R)) (hi : ∀ cn L a ccd, interactive (envX cn cs L a ccd cl) = false := by intros; rfl) (hs : ∀ env, swapsWith e none pos.line env = pure false := by intro _; rfl) : JX c m own fz rest (.Expr e pos :: more) R := fun s Q E hE a q =>
  wpAny_execs_cons (wpAny_Expr_any (j s _ E hE a fun _ o f h tk a' S k => k _ Q E hE a' fun fl m2 o2 f2 h2 tk2 a2 S2 r => q fl m2 o2 f2 h2 tk2 a2 (S2.step S) r) (hi ..) (hs _))
/-- a call of a def that changes own entries -/
theorem JC.telS {σ : Type} {Rl : σ → Led} {st : σ} {f : Addr} {vs : List Value} {d : Nat} {P' : Value → Led → σ → Prop} (C : Tups fz → TelS w (.ref f) vs fz Rl st d P') (hd : c.dp + d < recursionLimit) (hu : c.un + 8 * d < cLine) (hin : ∀ p ∈ fz ++ Rl st, p ∈ own ++ (fz ++ rest))
    (h : ∀ r f' st', Sub fz f' → Tups f' → P' r f' st' → ∃ o', (∀ p ∈ o' ++ (f' ++ rest), p ∈ f' ++ Rl st') ∧ P r o' f') (hk : cs.kind = .function := by rfl) : JC c m own fz rest (.ref f) vs P := fun s Q E hE a q =>
  C a.Z c.loose c.mean c.mg c.mb c.dp c.un c.gd c.cn cs c.a c.ccd cl c.outer c.A₀ c.base c.h₀ c.L m s Q E c.B a.F c.X (fun p hp => a.N p (hin p hp)) c.TP hk hd hu fun r f' st' h' tk' F' N' S' T' p' => by
    obtain ⟨o', k1, k2⟩ := h r f' st' S' T' p'
    exact q r o' f' h' tk' ⟨F', fun p hp => N' p (k1 p hp), T'⟩ S' k2
theorem JS.set {x : Str} (j : JE c m own fz rest e (fun v o f => R .next (upd m x v) o f)) (hk : cs.kind = .function := by rfl) (hx : (∀ cn L a ccd, (envX cn cs L a ccd cl).kindOf x = some .local) := by intros; rfl)
    (hs : ∀ env, swapsWith e (some (.Name x p1)) pos.line env = pure false := by intro _; rfl) : JS c m own fz rest (.Assign [.Name x p1] e pos) R := fun s Q E hE a q =>
  wpAny_Assign_Name (j s _ E hE a fun v o f h tk a' S r => storeX_L a'.F a'.N (fun h' F' N' => q .next (upd m x v) o f h' _ ⟨F', N', a'.Z⟩ S r) hk (hx ..)) (hs _)
/-- own entries that are no more needed -/
theorem JG.drop {α : Type} {t : Sem α} {P : α → Led → Led → Prop} (j : JG c m own fz rest t (fun v o f => ∃ o2, (∀ p ∈ o2, p ∈ o) ∧ P v o2 f)) : JG c m own fz rest t P := fun s Q E hE a q =>
  j s Q E hE a fun v o f h tk a' S ⟨o2, k, p⟩ => q v o2 f h tk ⟨a'.F, fun x hx => a'.N x (by
    rcases List.mem_append.mp hx with hx | hx
    · exact List.mem_append.mpr (.inl (k x hx))
    · exact List.mem_append.mpr (.inr hx)), a'.Z⟩ S p
end

end
section
theorem flushLJ7 : True ∧ True := by (w_top off); (first | (walk1; done) | exact ⟨True.intro, True.intro⟩)
/-! the small logic: displays of dicts, get of a dict, slices -/
section
variable {w : World} {cs : Scope} {cl : List (Str × Addr)} {c : Cx w cs cl} {m : Str → Option Value} {own fz rest : Led} {pos p1 p2 p3 p4 p5 p6 : Pos} {k k2 : Nat} {P : Value → Led → Led → Prop} {e e0 e1 e2 : Expr}
noncomputable abbrev sk (w : World) := PySem.strKind PySem.Challenge.rw_ot0007_01.row.prog w
noncomputable abbrev JD (c : Cx w cs cl) (m : Str → Option Value) (own fz rest : Led) (pos : Pos) (ks : List (Option Expr)) (vs : List Expr) (P : List (Value × Value) → Led → Led → Prop) : Prop := JG c m own fz rest (evalPairs (pairTrees ks vs c.env pos)) P
theorem JD.nil {P : List (Value × Value) → Led → Led → Prop} (h : P [] own fz) : JD c m own fz rest pos [] [] P := fun s _ _ hE a q => pairTrees_nil_walk (q [] own fz s.heap s.toks a Sub.refl h)
theorem JD.cons {ke v : Expr} {ks : List (Option Expr)} {vs : List Expr} {P : List (Value × Value) → Led → Led → Prop} (j : JE c m own fz rest ke (fun kv o f => JE c m o f rest v (fun vv o f => JD c m o f rest pos ks vs (fun r => P ((kv, vv) :: r))))) : JD c m own fz rest pos (some ke :: ks) (v :: vs) P := fun s Q E hE a q =>
  pairTrees_cons_walk (j s _ E hE a fun kv o f h tk a1 S1 j1 => j1 _ _ E hE a1 fun vv o2 f2 h2 tk2 a2 S2 j2 => j2 _ _ E hE a2 fun r o3 f3 h3 tk3 a3 S3 p => q ((kv, vv) :: r) o3 f3 h3 tk3 a3 ((S3.step S2).step S1) p)
theorem dict_no_tup {o : Obj} {kvs : List (Str × Value)} (h : o.IsDictOf (sk w) kvs) : ∀ vs j, o ≠ tupO vs j := fun vs j q => by
  subst q
  obtain ⟨es, ep, _, hd, _⟩ := h
  cases hd
theorem JE.dict {keys : List (Option Expr)} {values : List Expr} (hall : keys.all (·.isSome) = true) (hl : keys.length = values.length) (h0 : keys ≠ []) (hlen : Nat.ble keys.length 15 = true)
    (j : ∀ d o, o.IsDictOf (sk w) [] → (d == sysModules) = false → JD c m ((d, o) :: own) fz rest pos keys values (fun prs o1 f => o1 = (d, o) :: own ∧ allStrKeys prs = true ∧ ((strPairs prs).map (·.1)).Nodup ∧ ∀ o', o'.IsDictOf (sk w) (strPairs prs) → P (.ref d) ((d, o') :: own) f)) : JE c m own fz rest (.Dict keys values pos) P := fun s Q E hE a q =>
  kdn_eval (knd := sk w) a.F a.N (Top.nolimit c.TP) hall hl h0 (Nat.le_of_ble_eq_true hlen) fun d h1 o F1 N1 l1 nm hd => j d o hd nm _ _ E hE ⟨F1, N1, a.Z⟩ fun prs o1 f h2 tk2 a2 S2 ⟨e, hk, hn, hp⟩ => by
    subst e
    have hne : ∀ p ∈ own ++ (f ++ rest), p.1 ≠ d := fun p hp9 => by
      simp only [List.mem_append] at hp9
      rcases hp9 with hp9 | hp9 | hp9
      · exact Nat.ne_of_lt (l1 p (by simp [hp9]))
      · intro e9
        obtain ⟨vs, j, e8⟩ := a2.Z.all p hp9
        have g1 := (a2.N p (by simp [hp9])).1
        have g2 := (a2.N (d, o) (List.mem_cons_self ..)).1
        rw [e9] at g1
        exact dict_no_tup hd vs j ((Option.some.inj (g2.symm.trans g1)).trans e8)
      · exact Nat.ne_of_lt (l1 p (by simp [hp9]))
    exact kdn_made_str (news := (d, o) :: (own ++ (f ++ rest))) a2.F a2.N (UpdF.head hne) hd hk hn fun h3 o3 F3 N3 d3 => q _ ((d, o3) :: own) f h3 _ ⟨F3, N3, a2.Z⟩ S2 (hp o3 d3)
/-- d.get(key, default) -/
theorem JE.get (j : JE c m own fz rest e0 (fun v o f => ∃ d ob kvs, v = .ref d ∧ (d, ob) ∈ o ++ (f ++ rest) ∧ ob.IsDictOf (sk w) kvs ∧ (d == sysModules) = false ∧ JA c m o f rest pos [e1, e2] (fun vs o2 f2 => o2 = o ∧ ∃ x t dv, vs = [.str x t, dv] ∧ P ((valueAt kvs x).getD dv) o2 f2)))
    {pl : Env → Sem Bool} (hm : ∀ env, eval (.Call (.Attribute e0 (Str.ofString "get") p1) [e1, e2] [] pos) env = (do
      let ov ← eval e0 env
      standAt p1.atName
      let (f, first) ← holding [ov] (getMethod ov (Str.ofString "get") (pl env))
      callWith pos f first (backTo pos (starEach [e1, e2] env)) (backToKw pos (keywordEach [] env))) := by intro _; rfl) (he : ∀ env, starEach [e1, e2] env = (false, eval e1 env) :: starEach [e2] env := by intro _; rfl) (he2 : ∀ env, (backTo pos (starEach [e2] env)).any (·.1) = false := by intro _; rfl) : JE c m own fz rest (.Call (.Attribute e0 (Str.ofString "get") p1) [e1, e2] [] pos) P := fun s Q E hE a q =>
  methodCall_KW (pl := pl c.env) (j s _ E hE a fun v o f h tk a1 S1 ⟨d, ob, kvs, e, hd, hi, nm, j1⟩ => by
    subst e
    exact kdg_method (knd := sk w) a1.N hd hi (callWith_method1 (j1 _ _ E hE a1 fun vs o2 f2 h2 tk2 a2 S2 ⟨e2, x, t, dv, e3, hp⟩ => by
      subst e2 e3
      refine kdg_get2 (knd := sk w) a2.N ?_ hi nm (strKind_is _ _ _ _) _ rfl (q _ o2 f2 h2 _ a2 (S2.step S1) hp)
      simp only [List.mem_append] at hd ⊢
      rcases hd with hd | hd | hd
      · exact .inl hd
      · exact .inr (.inl (S2.sub _ hd))
      · exact .inr (.inr hd)) (he _) (he2 _))) (hm _)
/-- x[i:j] of a tuple -/
theorem JE.mid {x : Str} {i j : Nat} {a : Addr} {vs : List Value} {n : Nat} (hv : m x = some (.ref a)) (hm : (a, tupO vs n) ∈ fz) (hi : Nat.ble 1 i = true) (hvs : Nat.ble 1 vs.length = true) (hsz : j - i ≤ sizeLine) (hp : ∀ D, P (.ref D) own ((D, tupO ((vs.drop i).take (j - i)) 0) :: fz))
    (hs : ∀ a b, subscripted (.Slice (some (.Constant (.int i) k p2)) (some (.Constant (.int j) k2 p3)) none p4) false (.ref a) (.ref b) = operate [.ref b, .ref a] (getItem (.ref a) (.ref b)) := by intro _ _; with_unfolding_all rfl) (hk : cs.kind = .function := by rfl) (hx : (∀ cn L a ccd, (envX cn cs L a ccd cl).kindOf x = some .local) := by intros; rfl) (hd : (x == ("__debug__" : Str)) = false := by decide) :
    JE c m own fz rest (.Subscript (.Name x p1) (.Slice (some (.Constant (.int i) k p2)) (some (.Constant (.int j) k2 p3)) none p4) p5) P := fun s Q E hE at9 q =>
  Subscript_ (nameX_L at9.F hv (wpAny_Slice (evalPart_some_step (wpAny_Constant_int (evalPart_some_step (wpAny_Constant_int (evalPart_none_step
    (slice_tupS at9.F at9.N (List.mem_append.mpr (.inr (List.mem_append.mpr (.inl hm)))) (.int _ _) (.int _ _) .none (by decide) (sl_mid_no i j _ hvs hi) (sl_mid_pick i j _) (Nat.le_trans (List.length_take_le ..) hsz) (fun D h' F' N' l => q (.ref D) own ((D, tupO ((vs.drop i).take (j - i)) 0) :: fz) h' _ ⟨F', fun p hp => N' p (led_new hp), Tups.cons at9.Z⟩ (.cons .refl) (hp D)) (hs _ _)))))))) hk (hx ..) hd)
end
theorem at_hit {x y : Str} {v : Value} {r : List (Str × Value)} (h : x = y) : valueAt ((x, v) :: r) y = some v := by subst h; simp [valueAt]
theorem at_miss {x y : Str} {v : Value} {r : List (Str × Value)} (h : x ≠ y) : valueAt ((x, v) :: r) y = valueAt r y := by simp [valueAt, h]

end
section
theorem flushLJ8 : True ∧ True := by (w_top off); (first | (walk1; done) | exact ⟨True.intro, True.intro⟩)
/-! the small logic: comprehensions, defs with a cell -/
section
variable {w : World} {cs : Scope} {cl : List (Str × Addr)} {c : Cx w cs cl} {m : Str → Option Value} {own fz rest : Led} {pos p1 p2 p3 px : Pos} {P : Value → Led → Led → Prop}
/-- as JG, with nothing asked of E -/
noncomputable def JH {α : Type} (c : Cx w cs cl) (m : Str → Option Value) (own fz rest : Led) (t : Sem α) (P : α → Led → Led → Prop) : Prop :=
  ∀ (s : Shared) (Q : α → Shared → Prop) (E : Value → Shared → Prop), At c m own fz rest s.heap → (∀ v o f h tk, At c m o f rest h → Sub fz f → P v o f → Q v { s with heap := h, toks := tk }) → wpAny c.M c.A t Q E s
section
variable {α : Type} {t : Sem α}
theorem JH.G {P : α → Led → Led → Prop} (j : JH c m own fz rest t P) : JG c m own fz rest t P := fun s Q E _ a q => j s Q E a q
end
/-- what a comprehension does with its source -/
theorem JE.src {γ : Type} {elt iter : Expr} {x : Str} {ifs : List Expr} {scope : Scope} {cl' : List (Str × Addr)} (O : γ → Led) (g₀ : γ) (G : List Value → Led → Prop) (Acc : List Value → Nat → List Value → Led → γ → Prop) (hadr : ∀ g, (O g).map (·.1) = (O g₀).map (·.1))
    (j : JE c m own fz rest iter (fun v o f => ∃ ax vs, v = .ref ax ∧ SrcOk O f rest ax vs ∧ o = O g₀ ∧ vs.length ≤ sizeLine ∧ G vs f ∧ Acc vs 0 [] f g₀))
    (turn : ∀ vs f0, Sub fz f0 → G vs f0 → ∀ i v ys f g C oC m₂ I oI D, vs[i]? = some v → Sub f0 f → Acc vs i ys f g → LCg.NsObj oC m₂ → m₂ x = some v → (∀ p ∈ O g ++ rest, p.1 ≠ I ∧ p.1 ≠ C ∧ p.1 ≠ D) →
      JH c m ((I, oI) :: (C, oC) :: (D, PySem.W.listOf ys.toArray ys.length) :: O g) f rest (forIn ifs true fun k r => if r = true then do let ok ← isTrue k (compEnvC scope cl' C c.env) (eval k (compEnvC scope cl' C c.env)); pure (ForInStep.yield ok) else pure (ForInStep.yield r))
        (fun ok o1 f1 => if ok = true then JH c m o1 f1 rest (eval elt (compEnvC scope cl' C c.env)) (fun y o2 f2 => ∃ g', o2 = (I, oI) :: (C, oC) :: (D, PySem.W.listOf ys.toArray ys.length) :: O g' ∧ Acc vs (i + 1) (ys ++ [y]) f2 g') else ∃ g', o1 = (I, oI) :: (C, oC) :: (D, PySem.W.listOf ys.toArray ys.length) :: O g' ∧ Acc vs (i + 1) ys f1 g'))
    {s : Shared} {E : Value → Shared → Prop} {Fin : Shared → Addr → List Value → Led → Prop} (hE : PassesOwn c.M c.A c.env E) (a : At c m own fz rest s.heap)
    (fin : ∀ vs f0, Sub fz f0 → G vs f0 → ∀ D ys f g h tk, Sub f0 f → Acc vs vs.length ys f g → ys.length ≤ vs.length → At c m ((D, PySem.W.listOf ys.toArray ys.length) :: O g) f rest h → Fin { s with heap := h, toks := tk } D ys ((D, PySem.W.listOf ys.toArray ys.length) :: (O g ++ (f ++ rest)))) :
    wpAny c.M c.A (eval iter c.env) (CSrc PySem.Challenge.rw_ot0007_01.row.prog w c.A c.h₀ c.L m c.env elt x scope cl' ifs Fin) E s := j s _ E hE a fun v o f h tk a1 S1 ⟨ax, vs, e, hS, e2, hsz, hG, h0⟩ => by
  subst e e2
  refine ⟨γ, O, g₀, f, rest, Acc vs, ax, vs, rfl, rfl, hS, hadr, a1.F, a1.N, a1.Z, h0, hsz, fun i v ys f1 g oI C oC D m₂ h1 tk1 E' I hi hv hC hx9 F' N' d1 d2 S' Z' A' l' => ?_, fun D ys f1 g h1 tk1 F' N' o1 _ S' Z' A' l' => fin vs f S1 hG D ys f1 g h1 tk1 S' A' l' ⟨F', N', Z'⟩⟩
  refine turn vs f S1 hG i v ys f1 g C oC m₂ I oI D hv S' A' hC hx9 d2 _ _ E' ⟨F', N', Z'⟩ fun ok o1 f2 h2 tk2 a2 S2 r => ?_
  cases ok with
  | true =>
    rw [if_pos rfl] at r ⊢
    exact r _ _ E' a2 fun y o3 f3 h3 tk3 a3 S3 ⟨g', e3, A3⟩ => by
      subst e3
      exact ⟨f3, g', h3, tk3, rfl, a3.F, a3.N, (S3.step S2).step S', a3.Z, A3⟩
  | false =>
    rw [if_neg Bool.false_ne_true] at r ⊢
    obtain ⟨g', e3, A3⟩ := r
    subst e3
    exact ⟨f2, g', h2, tk2, rfl, a2.F, a2.N, S2.step S', a2.Z, A3⟩
/-- a list's comprehension over a tuple or a list; own entries may change -/
theorem JE.comp {γ : Type} {elt iter : Expr} {x : Str} {ifs : List Expr} {scope : Scope} {cl' : List (Str × Addr)} (O : γ → Led) (g₀ : γ) (G : List Value → Led → Prop) (Acc : List Value → Nat → List Value → Led → γ → Prop) (hadr : ∀ g, (O g).map (·.1) = (O g₀).map (·.1))
    (j : JE c m own fz rest iter (fun v o f => ∃ ax vs, v = .ref ax ∧ SrcOk O f rest ax vs ∧ o = O g₀ ∧ vs.length ≤ sizeLine ∧ G vs f ∧ Acc vs 0 [] f g₀))
    (turn : ∀ vs f0, Sub fz f0 → G vs f0 → ∀ i v ys f g C oC m₂ I oI D, vs[i]? = some v → Sub f0 f → Acc vs i ys f g → LCg.NsObj oC m₂ → m₂ x = some v → (∀ p ∈ O g ++ rest, p.1 ≠ I ∧ p.1 ≠ C ∧ p.1 ≠ D) →
      JH c m ((I, oI) :: (C, oC) :: (D, PySem.W.listOf ys.toArray ys.length) :: O g) f rest (forIn ifs true fun k r => if r = true then do let ok ← isTrue k (compEnvC scope cl' C c.env) (eval k (compEnvC scope cl' C c.env)); pure (ForInStep.yield ok) else pure (ForInStep.yield r))
        (fun ok o1 f1 => if ok = true then JH c m o1 f1 rest (eval elt (compEnvC scope cl' C c.env)) (fun y o2 f2 => ∃ g', o2 = (I, oI) :: (C, oC) :: (D, PySem.W.listOf ys.toArray ys.length) :: O g' ∧ Acc vs (i + 1) (ys ++ [y]) f2 g') else ∃ g', o1 = (I, oI) :: (C, oC) :: (D, PySem.W.listOf ys.toArray ys.length) :: O g' ∧ Acc vs (i + 1) ys f1 g'))
    (fin : ∀ vs f0, Sub fz f0 → G vs f0 → ∀ D ys f g, Sub f0 f → Acc vs vs.length ys f g → ys.length ≤ vs.length → P (.ref D) ((D, PySem.W.listOf ys.toArray ys.length) :: O g) f)
    (hclos : ∀ cn L a ccd, closureFor scope (envX cn cs L a ccd cl) = pure cl' := by intros; rfl) (hcell : ∀ y ∈ scope.names, y.2 ≠ .cell := by decide) (hkind : scope.kind = .function := by rfl) (hnames : ∀ y ∈ scope.names, y.2 = .local → scope.names.lookup y.1 = some .local := by decide) (hx : scope.names.lookup x = some .local := by rfl)
    (hs : ∀ env y, foldedSetIterable iter env y = pure y := by intros; rfl) : JE c m own fz rest (.ListComp elt [⟨.Name x px, iter, ifs, 0⟩] scope pos) P := fun s Q E hE a q =>
  comp_eval a.F (hclos ..) hcell hkind hnames hx (JE.src O g₀ G Acc hadr j turn hE a fun vs f0 S0 hG D ys f g h tk S' A' l' a' F2 N2 => q (.ref D) ((D, PySem.W.listOf ys.toArray ys.length) :: O g) f h tk ⟨F2, N2, a'.Z⟩ (S'.step S0) (fin vs f0 S0 hG D ys f g S' A' l')) (hs _)
/-- x = [..] -/
theorem JX.comp {y : Str} {more : List Stmt} {R : Flow → (Str → Option Value) → Led → Led → Prop} {spos : Pos} {γ : Type} {elt iter : Expr} {x : Str} {ifs : List Expr} {scope : Scope} {cl' : List (Str × Addr)} (O : γ → Led) (g₀ : γ) (G : List Value → Led → Prop) (Acc : List Value → Nat → List Value → Led → γ → Prop) (hadr : ∀ g, (O g).map (·.1) = (O g₀).map (·.1))
    (j : JE c m own fz rest iter (fun v o f => ∃ ax vs, v = .ref ax ∧ SrcOk O f rest ax vs ∧ o = O g₀ ∧ vs.length ≤ sizeLine ∧ G vs f ∧ Acc vs 0 [] f g₀))
    (turn : ∀ vs f0, Sub fz f0 → G vs f0 → ∀ i v ys f g C oC m₂ I oI D, vs[i]? = some v → Sub f0 f → Acc vs i ys f g → LCg.NsObj oC m₂ → m₂ x = some v → (∀ p ∈ O g ++ rest, p.1 ≠ I ∧ p.1 ≠ C ∧ p.1 ≠ D) →
      JH c m ((I, oI) :: (C, oC) :: (D, PySem.W.listOf ys.toArray ys.length) :: O g) f rest (forIn ifs true fun k r => if r = true then do let ok ← isTrue k (compEnvC scope cl' C c.env) (eval k (compEnvC scope cl' C c.env)); pure (ForInStep.yield ok) else pure (ForInStep.yield r))
        (fun ok o1 f1 => if ok = true then JH c m o1 f1 rest (eval elt (compEnvC scope cl' C c.env)) (fun y o2 f2 => ∃ g', o2 = (I, oI) :: (C, oC) :: (D, PySem.W.listOf ys.toArray ys.length) :: O g' ∧ Acc vs (i + 1) (ys ++ [y]) f2 g') else ∃ g', o1 = (I, oI) :: (C, oC) :: (D, PySem.W.listOf ys.toArray ys.length) :: O g' ∧ Acc vs (i + 1) ys f1 g'))
    (fin : ∀ vs f0, Sub fz f0 → G vs f0 → ∀ D ys f g, Sub f0 f → Acc vs vs.length ys f g → ys.length ≤ vs.length → JX c (upd m y (.ref D)) ((D, PySem.W.listOf ys.toArray ys.length) :: O g) f rest more R)
    (hclos : ∀ cn L a ccd, closureFor scope (envX cn cs L a ccd cl) = pure cl' := by intros; rfl) (hcell : ∀ y ∈ scope.names, y.2 ≠ .cell := by decide) (hkind : scope.kind = .function := by rfl) (hnames : ∀ y ∈ scope.names, y.2 = .local → scope.names.lookup y.1 = some .local := by decide) (hx : scope.names.lookup x = some .local := by rfl)
    (hs : ∀ env y, foldedSetIterable iter env y = pure y := by intros; rfl) (hy : ∀ cn L a ccd, (envX cn cs L a ccd cl).kindOf y = some .local := by intros; rfl) (hk : cs.kind = .function := by rfl)
    (hsw : ∀ cn L a ccd, swapsWith (.ListComp elt [⟨.Name x px, iter, ifs, 0⟩] scope pos) (some (.Name y p1)) spos.line (envX cn cs L a ccd cl) = pure true := by intros; with_unfolding_all rfl) : JX c m own fz rest (.Assign [.Name y p1] (.ListComp elt [⟨.Name x px, iter, ifs, 0⟩] scope pos) spos :: more) R := fun s Q E hE a q =>
  wpAny_execs_cons (comp_assign a.F rfl (hsw ..) (hclos ..) hcell hkind hnames hx (hy ..) (by show (cs.kind == .class || (cs.kind == .module && _)) = false; rw [hk]; rfl) (JE.src O g₀ G Acc hadr j turn hE a fun vs f0 S0 hG D ys f g h tk S' A' l' a' h2 tk2 F2 N2 => fin vs f0 S0 hG D ys f g S' A' l' _ Q E hE ⟨F2, N2, a'.Z⟩ fun fl m3 o3 f3 h3 tk3 a3 S3 r => q fl m3 o3 f3 h3 tk3 a3 ((S3.step S').step S0) r) (hs _))
theorem JH.noTest {env : Env} {P : Bool → Led → Led → Prop} (h : P true own fz) : JH c m own fz rest (forIn ([] : List Expr) true fun k r => if r = true then do let ok ← isTrue k env (eval k env); pure (ForInStep.yield ok) else pure (ForInStep.yield r)) P := fun s _ _ a q =>
  wpAny_tests_nil (q true own fz s.heap s.toks a Sub.refl h)
theorem JH.oneTest {env : Env} {k : Expr} {P : Bool → Led → Led → Prop} (j : JH c m own fz rest (isTrue k env (eval k env)) P) : JH c m own fz rest (forIn [k] true fun k r => if r = true then do let ok ← isTrue k env (eval k env); pure (ForInStep.yield ok) else pure (ForInStep.yield r)) P := fun s Q E a q =>
  wpAny_tests_one (j s Q E a q)
/-- plain expressions inside -/
noncomputable def CV (c : Cx w cs cl) (m : Str → Option Value) (own fz rest : Led) (e : Expr) (env : Env) (v : Value) : Prop := ∀ (s : Shared) (Q E : Value → Shared → Prop), At c m own fz rest s.heap → (∀ tk, Q v { s with toks := tk }) → wpAny c.M c.A (eval e env) Q E s
section
variable {scope : Scope} {cl' : List (Str × Addr)} {C : Addr} {x : Str} {v : Value}
theorem CV.var {oC : Obj} {m₂ : Str → Option Value} (hm : (C, oC) ∈ own) (hC : LCg.NsObj oC m₂) (hx : m₂ x = some v) (hk : ∀ cn L a ccd, (compEnvC scope cl' C (envX cn cs L a ccd cl)).scope.kind = .function := by intros; rfl) (hl : ∀ cn L a ccd, (compEnvC scope cl' C (envX cn cs L a ccd cl)).kindOf x = some .local := by intros; rfl) (hd : (x == ("__debug__" : Str)) = false := by decide) :
    CV c m own fz rest (.Name x pos) (compEnvC scope cl' C c.env) v := fun s _ _ a q => LCgL.ld_own a.N (List.mem_append.mpr (.inl hm)) hC hx (q s.toks) (hk ..) (hl ..) hd
theorem CV.cell {ca : Addr} {o : Obj} (hc : cl'.lookup x = some ca) (hm : (ca, o) ∈ own) (ho : o.data = .cell (some v)) (hk : ∀ cn L a ccd, (compEnvC scope cl' C (envX cn cs L a ccd cl)).scope.kind = .function := by intros; rfl) (hl : ∀ cn L a ccd, (compEnvC scope cl' C (envX cn cs L a ccd cl)).kindOf x = some .cell := by intros; rfl) (hd : (x == ("__debug__" : Str)) = false := by decide) :
    CV c m own fz rest (.Name x pos) (compEnvC scope cl' C c.env) v := fun s _ _ a q => lcf_cell a.N hc (List.mem_append.mpr (.inl hm)) ho (q s.toks) (hk ..) (hl ..) hd
end
theorem JH.tel {f : Addr} {vs : List Value} {d : Nat} {P' : Value → Led → Prop} (C : Tups fz → Tel w f vs fz (own ++ rest) d P') (hd : c.dp + d < recursionLimit) (hu : c.un + 8 * d < cLine) (h : ∀ r f', Sub fz f' → P' r f' → P r own f') (hk : cs.kind = .function := by rfl) : JH c m own fz rest (call (.ref f) vs) P := fun s Q E a q =>
  C a.Z c.loose c.mean c.mg c.mb c.dp c.un c.gd c.cn cs c.a c.ccd cl c.outer c.A₀ c.base c.h₀ c.L m s Q E c.B a.F c.X (fun p hp => a.N p (led_swap hp)) c.TP hk hd hu fun r f' h' tk' F' N' S' T' p' => q r own f' h' tk' ⟨F', news_back N', T'⟩ S' (h r f' S' p')
theorem JH.telS {σ : Type} {Rl : σ → Led} {st : σ} {f : Addr} {vs : List Value} {d : Nat} {P' : Value → Led → σ → Prop} (C : Tups fz → TelS w (.ref f) vs fz Rl st d P') (hd : c.dp + d < recursionLimit) (hu : c.un + 8 * d < cLine) (hin : ∀ p ∈ fz ++ Rl st, p ∈ own ++ (fz ++ rest))
    (h : ∀ r f' st', Sub fz f' → P' r f' st' → ∃ o', (∀ p ∈ o' ++ (f' ++ rest), p ∈ f' ++ Rl st') ∧ P r o' f') (hk : cs.kind = .function := by rfl) : JH c m own fz rest (call (.ref f) vs) P := fun s Q E a q =>
  C a.Z c.loose c.mean c.mg c.mb c.dp c.un c.gd c.cn cs c.a c.ccd cl c.outer c.A₀ c.base c.h₀ c.L m s Q E c.B a.F c.X (fun p hp => a.N p (hin p hp)) c.TP hk hd hu fun r f' st' h' tk' F' N' S' T' p' => by
    obtain ⟨o', k1, k2⟩ := h r f' st' S' p'
    exact q r o' f' h' tk' ⟨F', fun p hp => N' p (k1 p hp), T'⟩ S' k2
theorem JX.sub {own2 : Led} {b : List Stmt} {R : Flow → (Str → Option Value) → Led → Led → Prop} (h : ∀ p ∈ own2, p ∈ own) (j : JX c m own2 fz rest b R) : JX c m own fz rest b R := fun s Q E hE a q => j s Q E hE ⟨a.F, fun p hp => a.N p (by
  rcases List.mem_append.mp hp with hp | hp
  · exact List.mem_append.mpr (.inl (h p hp))
  · exact List.mem_append.mpr (.inr hp)), a.Z⟩ q
theorem JH.call1 {scope : Scope} {cl' : List (Str × Addr)} {C : Addr} {g : Str} {f : Addr} {e : Expr} {v : Value} (hg : nsIn (Mine.hd.heap_1 w.params) mainGlobals g = some (some (.ref f))) (hkeep : keepIn (Mine.hd.heap_1 w.params) (.ref f) = true) (V : CV c m own fz rest e (compEnvC scope cl' C c.env) v) (j : JH c m own fz rest (call (.ref f) [v]) P)
    (hk : ∀ cn L a ccd, (compEnvC scope cl' C (envX cn cs L a ccd cl)).scope.kind = .function := by intros; rfl) (hx : ∀ cn L a ccd, (compEnvC scope cl' C (envX cn cs L a ccd cl)).kindOf g = some .globalImplicit := by intros; rfl) (hb : (g == ("__debug__" : Str)) = false := by decide)
    (he : ∀ env, starEach [e] env = (false, eval e env) :: starEach [] env := by intro _; rfl) : JH c m own fz rest (eval (.Call (.Name g p1) [e] [] pos) (compEnvC scope cl' C c.env)) P := fun s Q E a q =>
  Call_ (LCgL.ld_global a.F c.X c.TP hg (callWith_K c.X hkeep (args_cons (V s _ E a fun tk => args_nil ⟨c.X.keeps a.F.keep, j _ Q E a fun r o2 f2 h2 tk2 a2 S2 p => q r o2 f2 h2 tk2 a2 S2 p⟩) (he _)) (he _) rfl) rfl (hk ..) (hx ..) hb)
theorem JH.call2 {scope : Scope} {cl' : List (Str × Addr)} {C : Addr} {g : Str} {f : Addr} {e e2 : Expr} {v v2 : Value} (hg : nsIn (Mine.hd.heap_1 w.params) mainGlobals g = some (some (.ref f))) (hkeep : keepIn (Mine.hd.heap_1 w.params) (.ref f) = true) (V : CV c m own fz rest e (compEnvC scope cl' C c.env) v) (V2 : CV c m own fz rest e2 (compEnvC scope cl' C c.env) v2) (j : JH c m own fz rest (call (.ref f) [v, v2]) P)
    (hk : ∀ cn L a ccd, (compEnvC scope cl' C (envX cn cs L a ccd cl)).scope.kind = .function := by intros; rfl) (hx : ∀ cn L a ccd, (compEnvC scope cl' C (envX cn cs L a ccd cl)).kindOf g = some .globalImplicit := by intros; rfl) (hb : (g == ("__debug__" : Str)) = false := by decide)
    (he : ∀ env, starEach [e, e2] env = (false, eval e env) :: starEach [e2] env := by intro _; rfl) (he2 : ∀ env, starEach [e2] env = (false, eval e2 env) :: starEach [] env := by intro _; rfl) (hp : ∀ env, (backTo pos (starEach [e2] env)).any (·.1) = false := by intro _; rfl) : JH c m own fz rest (eval (.Call (.Name g p1) [e, e2] [] pos) (compEnvC scope cl' C c.env)) P := fun s Q E a q =>
  Call_ (LCgL.ld_global a.F c.X c.TP hg (callWith_K c.X hkeep (args_cons (V s _ E a fun tk => args_cons (V2 _ _ E a fun tk2 => args_nil ⟨c.X.keeps a.F.keep, j _ Q E a fun r o2 f2 h2 tk2 a2 S2 p => q r o2 f2 h2 tk2 a2 S2 p⟩) (he2 _)) (he _)) (he _) (hp _)) rfl (hk ..) (hx ..) hb)
/-- a name that is a cell -/
theorem EV.cell {x : Str} {v : Value} {ca : Addr} {o : Obj} (hc : cl.lookup x = some ca) (hm : (ca, o) ∈ own) (ho : o.data = .cell (some v)) (hk : cs.kind = .function := by rfl) (hx : (∀ cn L a ccd, (envX cn cs L a ccd cl).kindOf x = some .cell) := by intros; rfl) (hd : (x == ("__debug__" : Str)) = false := by decide) : EV c m own fz rest (.Name x pos) (fun _ => v) :=
  fun s _ _ hE a q => nameX_C a.N hc (List.mem_append.mpr (.inl hm)) ho (q 0 s.toks) hk (hx ..) hd
/-- entering a def with one cell -/
theorem tel_defC {f : Addr} {vs : List Value} {d : Nat} {P : Value → Led → Prop} {x : Str} {v : Value} {name qual : Str} {params : Arguments} {body : List Stmt} {scope : Scope} {dV kV doc pm cdv ct oc : Value} {an od : Option Addr} {osl : Array (Option Value)} {binds : List (Str × Value)}
    (ho : (Mine.hd.heap_1 w.params).lookup f = some ⟨oc, od, .func (fnOf name qual params body scope dV kV doc pm an cdv ct), osl⟩) (hcd : codeIn (Mine.hd.heap_1 w.params) cdv qual = true)
    (hbind : ∀ s, BindsTo s (fnOf name qual params body scope dV kV doc pm an cdv ct) ⟨vs, []⟩ binds) (hloc : (binds.all fun y => scope.names.lookup y.1 == some .local || scope.names.lookup y.1 == some .cell) = true) (hnd : ((cellsFrom 0 scope.names []).map (·.1)).Nodup) (hco : scope.isCoroutine = false) (hgen : scope.isGenerator = false) (hkd : scope.kind = .function)
    (hcf : ∀ n, cellsFrom n scope.names [] = [(x, n)]) (hcv : ∀ L', bindC (envOfC qual scope L' f cdv).kindOf binds (fun _ => none) x = some v) (hz : Tups fz)
    (j : ∀ (ca : Addr) (oc : Obj) (c : Cx w scope [(x, ca)]) (m : Str → Option Value) (R : Flow → (Str → Option Value) → Led → Led → Prop), oc.data = .cell (some v) → c.dp + d < recursionLimit + 1 → c.un + 8 * d < cLine + 8 → (∀ y, m y = bindL (envOfC qual scope c.L f cdv).kindOf binds (fun _ => none) y) → (∀ v m o f, P v f → R (.ret v) m o f) → JX c m [(ca, oc)] fz rest body R) : Tel w f vs fz rest d P := by
  intro loose mean mg mb dp un gd cn cs a ccd cl outer A₀ base h₀ L m s Q E B F X N T hk hdp hu hret
  refine wpAny_call ?_
  refine code_defC B F X N T rfl rfl hk ho hcd ?_ (hbind s) hloc hnd ?_ hco hgen hkd
  · show dp < recursionLimit; omega
  · intro g' L' h' tk cells FG' F' N' Y B' X' T' _
    rw [hcf] at Y
    obtain ⟨oc, e, hoc⟩ := Y.one
    subst e
    rw [hcv] at hoc
    have ecl : cellsFrom (L' + 1) scope.names [] = [(x, L' + 1)] := hcf _
    let c : Cx w scope [(x, L' + 1)] := { loose, mean, mg, mb, dp := dp + 1, un := un + 3, gd := ((Ard dp un gd cn cs L a ccd cl outer).deeper (envX qual scope L' f cdv [(x, L' + 1)])).guards, cn := qual, L := L', a := f, ccd := cdv, outer := envX cn cs L a ccd cl :: outer, A₀ := _, base, h₀ := g', B := B', X := X', TP := T' }
    have J := j (L' + 1) oc c (bindL (envOfC qual scope L' f cdv).kindOf binds fun _ => none) (fun fl _ _ f => P (match fl with | .ret v => v | _ => .none) f) hoc (by show dp + 1 + d < _; omega) (by show un + 3 + 8 * d < _; omega) (fun _ => rfl) (fun _ _ _ _ p => p)
    have e1 : envOfC qual scope L' f cdv = c.env := by
      show envOfC qual scope L' f cdv = envX qual scope L' f cdv [(x, L' + 1)]
      rw [← ecl]; rfl
    have e2 : (Ard dp un gd cn cs L a ccd cl outer).deeper c.env = c.A := rfl
    rw [e1, e2]
    refine J _ _ _ ?hE ⟨F', N', hz⟩ fun fl m' o f' h2 tk2 a2 S2 r => ?_
    case hE => with_unfolding_all passes_own
    exact leaveK_ a2.F a2.N fun kF kN => hret _ f' h2 tk2 kF (fun p hp => kN p (List.mem_append.mpr (.inr hp))) S2 a2.Z r
/-- entering a def with one cell, whose own entries may change -/
theorem telS_defC {σ : Type} {Rl : σ → Led} {st : σ} {own tl : Led} {f : Addr} {vs : List Value} {d : Nat} {P : Value → Led → σ → Prop} {x : Str} {v : Value} {name qual : Str} {params : Arguments} {body : List Stmt} {scope : Scope} {dV kV doc pm cdv ct oc : Value} {an od : Option Addr} {osl : Array (Option Value)} {binds : List (Str × Value)}
    (ho : (Mine.hd.heap_1 w.params).lookup f = some ⟨oc, od, .func (fnOf name qual params body scope dV kV doc pm an cdv ct), osl⟩) (hcd : codeIn (Mine.hd.heap_1 w.params) cdv qual = true)
    (hbind : ∀ s, BindsTo s (fnOf name qual params body scope dV kV doc pm an cdv ct) ⟨vs, []⟩ binds) (hloc : (binds.all fun y => scope.names.lookup y.1 == some .local || scope.names.lookup y.1 == some .cell) = true) (hnd : ((cellsFrom 0 scope.names []).map (·.1)).Nodup) (hco : scope.isCoroutine = false) (hgen : scope.isGenerator = false) (hkd : scope.kind = .function)
    (hcf : ∀ n, cellsFrom n scope.names [] = [(x, n)]) (hcv : ∀ L', bindC (envOfC qual scope L' f cdv).kindOf binds (fun _ => none) x = some v) (hz : Tups fz) (hin : ∀ p ∈ own ++ (fz ++ tl), p ∈ fz ++ Rl st)
    (j : ∀ (ca : Addr) (oc : Obj) (c : Cx w scope [(x, ca)]) (m : Str → Option Value) (R : Flow → (Str → Option Value) → Led → Led → Prop), oc.data = .cell (some v) → (∀ p ∈ fz ++ Rl st, @LT.lt Nat _ p.1 ca) → c.dp + d < recursionLimit + 1 → c.un + 8 * d < cLine + 8 → (∀ y, m y = bindL (envOfC qual scope c.L f cdv).kindOf binds (fun _ => none) y) → (∀ v m o f st', P v f st' → (∀ p ∈ f ++ Rl st', p ∈ o ++ (f ++ tl)) → R (.ret v) m o f) → JX c m ((ca, oc) :: own) fz tl body R) : TelS w (.ref f) vs fz Rl st d P := by
  intro loose mean mg mb dp un gd cn cs a ccd cl outer A₀ base h₀ L m s Q E B F X N T hk hdp hu hret
  refine wpAny_call ?_
  refine code_defC B F X N T rfl rfl hk ho hcd ?_ (hbind s) hloc hnd ?_ hco hgen hkd
  · show dp < recursionLimit; omega
  · intro g' L' h' tk cells FG' F' N' Y B' X' T' lt
    rw [hcf] at Y
    obtain ⟨oc, e, hoc⟩ := Y.one
    subst e
    rw [hcv] at hoc
    have ecl : cellsFrom (L' + 1) scope.names [] = [(x, L' + 1)] := hcf _
    let c : Cx w scope [(x, L' + 1)] := { loose, mean, mg, mb, dp := dp + 1, un := un + 3, gd := ((Ard dp un gd cn cs L a ccd cl outer).deeper (envX qual scope L' f cdv [(x, L' + 1)])).guards, cn := qual, L := L', a := f, ccd := cdv, outer := envX cn cs L a ccd cl :: outer, A₀ := _, base, h₀ := g', B := B', X := X', TP := T' }
    have J := j (L' + 1) oc c (bindL (envOfC qual scope L' f cdv).kindOf binds fun _ => none) (fun fl _ o f => ∃ st', P (match fl with | .ret v => v | _ => .none) f st' ∧ ∀ p ∈ f ++ Rl st', p ∈ o ++ (f ++ tl)) hoc (fun p hp => Nat.lt_succ_of_lt (lt p hp)) (by show dp + 1 + d < _; omega) (by show un + 3 + 8 * d < _; omega) (fun _ => rfl) (fun v m o f st' p h => ⟨st', p, h⟩)
    have e1 : envOfC qual scope L' f cdv = c.env := by
      show envOfC qual scope L' f cdv = envX qual scope L' f cdv [(x, L' + 1)]
      rw [← ecl]; rfl
    have e2 : (Ard dp un gd cn cs L a ccd cl outer).deeper c.env = c.A := rfl
    rw [e1, e2]
    refine J _ _ _ ?hE ⟨F', fun p hp => N' p (by
      rcases List.mem_cons.mp hp with rfl | hp
      · exact List.mem_append.mpr (.inl (List.mem_cons_self ..))
      · exact List.mem_append.mpr (.inr (hin p hp))), hz⟩ fun fl m' o f' h2 tk2 a2 S2 ⟨st', r, hh⟩ => ?_
    case hE => with_unfolding_all passes_own
    exact leaveK_ a2.F a2.N fun kF kN => hret _ f' st' h2 tk2 kF (fun p hp => kN p (hh p hp)) S2 a2.Z r
end

end
section
theorem flushLJ9 : True ∧ True := by (w_top off); (first | (walk1; done) | exact ⟨True.intro, True.intro⟩)
/-! the small logic: tuple(..), sums of tuples, slices to an end, items of a dict -/
section
variable {w : World} {cs : Scope} {cl : List (Str × Addr)} {c : Cx w cs cl} {m : Str → Option Value} {own fz rest : Led} {pos p1 p2 p3 p4 p5 : Pos} {k k2 : Nat} {P : Value → Led → Led → Prop} {e e1 e2 : Expr}
theorem JE.tupleE (j : JE c m own fz rest e (fun v o f => ∃ b vs n, v = .ref b ∧ (b, PySem.W.listOf vs.toArray n) ∈ o ++ (f ++ rest) ∧ vs.length ≤ 16384 ∧ ∀ D, P (.ref D) o ((D, tupO vs 0) :: f)))
    (hk : cs.kind = .function := by rfl) (hx2 : (∀ cn L a ccd, (envX cn cs L a ccd cl).kindOf (Str.ofString "tuple") = some .globalImplicit) := by intros; rfl) (he : ∀ env, starEach [e] env = (false, eval e env) :: starEach [] env := by intro _; rfl) :
    JE c m own fz rest (.Call (.Name (Str.ofString "tuple") p1) [e] [] pos) P := by
  have kf9 : Mine.hd.heap_1 w.params = Mine.hd.heap_1 w.params ∧ PySem.Challenge.rw_ot0007_01 = PySem.Challenge.rw_ot0007_01 := by k_fill; exact ⟨rfl, rfl⟩
  clear kf9
  intro s Q E hE a q
  have F := a.F
  have X := c.X
  have T := c.TP
  refine Call_ (nameX_B F X (topRead_of T) (by k_is) (v := .type "tuple") (by boot_by_name) (by decide) ?_ hk (hx2 ..))
  refine PyProof.Rows.callWith_type1 ?_ (he _) rfl
  refine args_cons (j s _ E hE a fun v o f h tk a1 S1 ⟨b, vs, n, e, hm, hn, hp⟩ => ?_) (he _)
  subst e
  refine args_nil (tuple_L a1.F a1.N hm hn fun D h' F' N' _ => q (.ref D) o ((D, tupO vs 0) :: f) h' _ ⟨F', fun p hp => N' p (led_new hp), Tups.cons a1.Z⟩ (Sub.cons S1) (hp D))
theorem JE.addT (j : JE c m own fz rest e1 (fun v o f => ∃ a vs i, v = .ref a ∧ (a, tupO vs i) ∈ f ∧ vs ≠ [] ∧ JE c m o f rest e2 (fun v2 o2 f2 => ∃ b ws j, v2 = .ref b ∧ (b, tupO ws j) ∈ f2 ∧ vs.length + ws.length ≤ 16384 ∧ ((ws = [] ∧ P (.ref a) o2 f2) ∨ (ws ≠ [] ∧ ∀ D, P (.ref D) o2 ((D, tupO (vs ++ ws) 0) :: f2)))))) : JE c m own fz rest (.BinOp e1 .Add e2 pos) P := fun s Q E hE a q =>
  wpAny_BinOp (j s _ E hE a fun v o f h tk a1 S1 ⟨ad, vs, i, e, ha, hv, j2⟩ => by
    subst e
    exact j2 _ _ E hE a1 fun v2 o2 f2 h2 tk2 a2 S2 ⟨b, ws, j, e2, hb, hs, hp⟩ => by
      subst e2
      have ha' := List.mem_append.mpr (.inr (List.mem_append.mpr (.inl (S2.sub _ ha))) : _ ∈ o2 ∨ _ ∈ f2 ++ rest)
      have hb' := List.mem_append.mpr (.inr (List.mem_append.mpr (.inl hb)) : _ ∈ o2 ∨ _ ∈ f2 ++ rest)
      rcases hp with ⟨e3, hp⟩ | ⟨hw, hp⟩
      · subst e3
        exact add_T1 a2.F a2.N ha' hb' hv (Nat.le_trans (Nat.le_add_right ..) hs) (q _ o2 f2 h2 tk2 a2 (S2.step S1) hp)
      · exact add_T a2.F a2.N ha' hb' hv hw hs fun D h' F' N' _ => q (.ref D) o2 ((D, tupO (vs ++ ws) 0) :: f2) h' _ ⟨F', fun p hp => N' p (led_new hp), Tups.cons a2.Z⟩ (Sub.cons (S2.step S1)) (hp D))
section
variable {x : Str} {i : Nat} {a : Addr} {vs : List Value} {n : Nat}
/-- x[:i] -/
theorem JE.headS (hv : m x = some (.ref a)) (hm : (a, tupO vs n) ∈ fz) (hi : Nat.blt i vs.length = true) (hsz : i ≤ sizeLine) (hp : ∀ D, P (.ref D) own ((D, tupO (vs.take i) 0) :: fz))
    (hs : ∀ a b, subscripted (.Slice none (some (.Constant (.int i) k p2)) none p4) false (.ref a) (.ref b) = operate [.ref b, .ref a] (getItem (.ref a) (.ref b)) := by intro _ _; with_unfolding_all rfl) (hk : cs.kind = .function := by rfl) (hx : (∀ cn L a ccd, (envX cn cs L a ccd cl).kindOf x = some .local) := by intros; rfl) (hd : (x == ("__debug__" : Str)) = false := by decide) :
    JE c m own fz rest (.Subscript (.Name x p1) (.Slice none (some (.Constant (.int i) k p2)) none p4) p5) P := fun s Q E hE at9 q =>
  Subscript_ (nameX_L at9.F hv (wpAny_Slice (evalPart_none_step (evalPart_some_step (wpAny_Constant_int (evalPart_none_step
    (slice_tupS at9.F at9.N (List.mem_append.mpr (.inr (List.mem_append.mpr (.inl hm)))) .none (.int _ _) .none (by decide) (sl_head_no i _ hi) (sl_head_pick i _) (Nat.le_trans (List.length_take_le ..) hsz) (fun D h' F' N' l => q (.ref D) own ((D, tupO (vs.take i) 0) :: fz) h' _ ⟨F', fun p hp => N' p (led_new hp), Tups.cons at9.Z⟩ (.cons .refl) (hp D)) (hs _ _))))))) hk (hx ..) hd)
/-- x[i:] -/
theorem JE.tailS (hv : m x = some (.ref a)) (hm : (a, tupO vs n) ∈ fz) (hi : Nat.ble 1 i = true) (hvs : Nat.ble 1 vs.length = true) (hsz : vs.length ≤ sizeLine) (hp : ∀ D, P (.ref D) own ((D, tupO (vs.drop i) 0) :: fz))
    (hs : ∀ a b, subscripted (.Slice (some (.Constant (.int i) k p2)) none none p4) false (.ref a) (.ref b) = operate [.ref b, .ref a] (getItem (.ref a) (.ref b)) := by intro _ _; with_unfolding_all rfl) (hk : cs.kind = .function := by rfl) (hx : (∀ cn L a ccd, (envX cn cs L a ccd cl).kindOf x = some .local) := by intros; rfl) (hd : (x == ("__debug__" : Str)) = false := by decide) :
    JE c m own fz rest (.Subscript (.Name x p1) (.Slice (some (.Constant (.int i) k p2)) none none p4) p5) P := fun s Q E hE at9 q =>
  Subscript_ (nameX_L at9.F hv (wpAny_Slice (evalPart_some_step (wpAny_Constant_int (evalPart_none_step (evalPart_none_step
    (slice_tupS at9.F at9.N (List.mem_append.mpr (.inr (List.mem_append.mpr (.inl hm)))) (.int _ _) .none .none (by decide) (sl_tail_no i _ hvs hi) (sl_tail_pick i _) (Nat.le_trans (by rw [List.length_drop]; exact Nat.sub_le ..) hsz) (fun D h' F' N' l => q (.ref D) own ((D, tupO (vs.drop i) 0) :: fz) h' _ ⟨F', fun p hp => N' p (led_new hp), Tups.cons at9.Z⟩ (.cons .refl) (hp D)) (hs _ _))))))) hk (hx ..) hd)
end
/-- an item by plain expressions, in any frame -/
theorem JH.item {env : Env} {v0 v1 : Value} (V0 : CV c m own fz rest e1 env v0) (V1 : CV c m own fz rest e2 env v1) (j : JH c m own fz rest (subscriptTail e1 e2 v0 v1) P) : JH c m own fz rest (eval (.Subscript e1 e2 pos) env) P := fun s Q E a q =>
  Subscript_ (V0 s _ E a fun tk => V1 _ _ E a fun tk2 => j _ Q E a q)
theorem JE.item {f0 f1 : Tok → Value} (V0 : EV c m own fz rest e1 f0) (V1 : EV c m own fz rest e2 f1) (j : ∀ t t1, JH c m own fz rest (subscriptTail e1 e2 (f0 t) (f1 t1)) P) : JE c m own fz rest (.Subscript e1 e2 pos) P := fun s Q E hE a q =>
  Subscript_ (V0 s _ E hE a fun t tk => V1 _ _ E hE a fun t1 tk2 => j t t1 _ Q E a q)
/-- a block that always leaves, behind a test on a word -/
theorem JX.ifbV {x y : Str} {u : Tok} {body more : List Stmt} {R : Flow → (Str → Option Value) → Led → Led → Prop} (V : EV c m own fz rest e (fun _ => .str y u)) (h1 : (y == x) = true → JX c m own fz rest body (fun fl m' o f => (∃ v, fl = .ret v) ∧ R fl m' o f)) (h2 : (y == x) = false → JX c m own fz rest more R) :
    JX c m own fz rest (.If (.Compare e [.Eq] [.Constant (.str x) k p1] p2) body [] pos :: more) R := JX.ite (JT.eqV V (by
  cases h : (y == x) with
  | true =>
    rw [if_pos rfl]
    intro s Q E hE a q
    exact h1 h s Q E hE a fun fl m' o f h tk a' S ⟨⟨v, e⟩, r⟩ => by
      subst e
      exact q (.ret v) m' o f h tk a' S r
  | false =>
    rw [if_neg Bool.false_ne_true]
    exact JX.nil (h2 h)))
end

end
section
theorem flushLJ11 : True ∧ True := by (w_top off); (first | (walk1; done) | exact ⟨True.intro, True.intro⟩)
/-! the small logic: a while over a stack, methods of a list as statements and expressions -/
section
variable {w : World} {cs : Scope} {cl : List (Str × Addr)} {c : Cx w cs cl} {m : Str → Option Value} {own own' fz rest : Led} {pos p1 p2 p3 p4 p5 : Pos} {k : Nat} {P : Value → Led → Led → Prop} {e e0 e1 : Expr} {R : Flow → (Str → Option Value) → Led → Led → Prop}
theorem JS.app {D : Addr} {ws : List Value} {n : Nat} {y : Value} (V0 : EV c m own fz rest e0 (fun _ => .ref D)) (V1 : EV c m own fz rest e1 (fun _ => y)) (hD : (D, PySem.W.listOf ws.toArray n) ∈ own) (U : Upd D (PySem.W.listOf ws.toArray n) (PySem.W.listOf (ws ++ [y]).toArray (n + 1)) own own') (hr : Off rest D) (hsz : ws.length ≤ sizeLine)
    (h : R .next m own' fz) (hi : ∀ cn L a ccd, interactive (envX cn cs L a ccd cl) = false := by intros; rfl) (hs : ∀ env, swapsWith (.Call (.Attribute e0 (Str.ofString "append") p1) [e1] [] p2) none p3.line env = pure false := by intro _; rfl) {pl : Env → Sem Bool} (hm : ∀ env, eval (.Call (.Attribute e0 (Str.ofString "append") p1) [e1] [] p2) env = (do
      let ov ← eval e0 env
      standAt p1.atName
      let (f, first) ← holding [ov] (getMethod ov (Str.ofString "append") (pl env))
      callWith p2 f first (backTo p2 (starEach [e1] env)) (backToKw p2 (keywordEach [] env))) := by intro _; rfl) (he : ∀ env, starEach [e1] env = (false, eval e1 env) :: starEach [] env := by intro _; rfl) : JS c m own fz rest (.Expr (.Call (.Attribute e0 (Str.ofString "append") p1) [e1] [] p2) p3) R := fun s Q E hE a q =>
  wpAny_Expr (methodCall_KW (pl := pl c.env) (V0 s _ E hE a fun t tk => gm_append a.N (List.mem_append.mpr (.inl hD)) (callWith_method1 (args_cons (V1 _ _ E hE a fun t2 tk2 => args_nil (append_P a.F a.N Part.ownL a.Z U hr hsz fun h' F' N' => q .next m own' fz h' tk2 ⟨F', N', a.Z⟩ Sub.refl h)) (he _)) (he _) rfl)) (hm _)) (hi ..) (hs _)
/-- x.extend(e), where e gives a tuple -/
theorem JS.ext {D : Addr} {ws : List Value} {n : Nat} (V0 : EV c m own fz rest e0 (fun _ => .ref D)) (hD : (D, PySem.W.listOf ws.toArray n) ∈ own) (hr : Off rest D)
    (j : JE c m own fz rest e1 (fun v o f => o = own ∧ ∃ b us j own', v = .ref b ∧ (b, tupO us j) ∈ f ∧ Upd D (PySem.W.listOf ws.toArray n) (PySem.W.listOf (ws ++ us).toArray (if us.length = 0 then n else n + 1)) own own' ∧ ws.length + us.length ≤ sizeLine ∧ R .next m own' f))
    (hi : ∀ cn L a ccd, interactive (envX cn cs L a ccd cl) = false := by intros; rfl) (hs : ∀ env, swapsWith (.Call (.Attribute e0 (Str.ofString "extend") p1) [e1] [] p2) none p3.line env = pure false := by intro _; rfl) {pl : Env → Sem Bool} (hm : ∀ env, eval (.Call (.Attribute e0 (Str.ofString "extend") p1) [e1] [] p2) env = (do
      let ov ← eval e0 env
      standAt p1.atName
      let (f, first) ← holding [ov] (getMethod ov (Str.ofString "extend") (pl env))
      callWith p2 f first (backTo p2 (starEach [e1] env)) (backToKw p2 (keywordEach [] env))) := by intro _; rfl) (he : ∀ env, starEach [e1] env = (false, eval e1 env) :: starEach [] env := by intro _; rfl) : JS c m own fz rest (.Expr (.Call (.Attribute e0 (Str.ofString "extend") p1) [e1] [] p2) p3) R := fun s Q E hE a q =>
  wpAny_Expr (methodCall_KW (pl := pl c.env) (V0 s _ E hE a fun t tk => gm_extend a.N (List.mem_append.mpr (.inl hD)) (callWith_method1 (args_cons (j _ _ E hE a fun v o f h tk a1 S1 ⟨e, b, us, j, own', e2, hb, U, hsz, hR⟩ => by
    subst e e2
    exact args_nil (extend_P a1.F a1.N Part.ownL a1.Z hb U hr hsz fun h' F' N' => q .next m own' f h' tk ⟨F', N', a1.Z⟩ S1 hR)) (he _)) (he _) rfl)) (hm _)) (hi ..) (hs _)
/-- x.pop() -/
theorem JE.pop {D : Addr} {ws : List Value} {n : Nat} {y : Value} (V0 : EV c m own fz rest e0 (fun _ => .ref D)) (hD : (D, PySem.W.listOf (ws ++ [y]).toArray n) ∈ own) (U : Upd D (PySem.W.listOf (ws ++ [y]).toArray n) (PySem.W.listOf ws.toArray (n + 1)) own own') (hr : Off rest D) (hsz : (ws ++ [y]).length ≤ sizeLine) (h : P y own' fz)
    {pl : Env → Sem Bool} (hm : ∀ env, eval (.Call (.Attribute e0 (Str.ofString "pop") p1) [] [] p2) env = (do
      let ov ← eval e0 env
      standAt p1.atName
      let (f, first) ← holding [ov] (getMethod ov (Str.ofString "pop") (pl env))
      callWith p2 f first (backTo p2 (starEach [] env)) (backToKw p2 (keywordEach [] env))) := by intro _; rfl) : JE c m own fz rest (.Call (.Attribute e0 (Str.ofString "pop") p1) [] [] p2) P := fun s Q E hE a q => by
  refine methodCall_KW (pl := pl c.env) (V0 s _ E hE a fun t tk => ?_) (hm _)
  have N := a.N
  have hD' := List.mem_append.mpr (.inl hD : _ ∈ own ∨ _ ∈ fz ++ rest)
  refine getMethod_builtin ⟨_, (N _ hD').1, rfl⟩ PySem.F.plainAttrs_list PySem.F.slot_list_pop (by show builtinType _ = _; rw [PySem.builtinType_eq_fast]; kernel_rfl) (fun a e => by cases e; exact ⟨_, (N _ hD').1, rfl⟩) ?_
  refine callWith_method0 ?_
  exact pop_P a.F a.N Part.ownL a.Z U hr hsz fun h' F' N' => q y own' fz h' _ ⟨F', N', a.Z⟩ .refl h
/-- a while over a stack of types -/
theorem JX.while {γ : Type} {test : Expr} {body more : List Stmt} {D : Addr} {x : Str} {v : Value} {T : Ty} {n : Nat} (O : γ → Led) (Inv : List Ty → γ → Prop) (g₀ : γ) (keep : List Str) (hown : own = (D, PySem.W.listOf [v].toArray n) :: O g₀) (hx : m x = some (.ref D)) (hT : TyIn fz v T) (h0 : Inv [T] g₀)
    (turn : ∀ vs Ts f k g u, u x = some (.ref D) → (∀ y ∈ keep, u y = m y) → Sub fz f → TyAll f vs Ts → Inv Ts g → vs.length ≤ szL Ts →
      JT c u ((D, PySem.W.listOf vs.toArray k) :: O g) f rest test (fun b o2 f2 => (b = true → JX c u o2 f2 rest body (fun fl m' o' f' => (fl = .next ∧ ∃ vs' Ts' k' g', m' x = some (.ref D) ∧ (∀ y ∈ keep, m' y = m y) ∧ o' = (D, PySem.W.listOf vs'.toArray k') :: O g' ∧ TyAll f' vs' Ts' ∧ Inv Ts' g' ∧ szL Ts' < szL Ts) ∨ ((∃ v, fl = .ret v) ∧ R fl m' o' f'))) ∧ (b = false → JX c u o2 f2 rest more R))) : JX c m own fz rest (.While test body [] pos :: more) R := fun s Q E hE a q =>
  wpAny_execs_cons (while_stack O Inv g₀ keep a.F a.N hx (fun p hp => hown ▸ hp) a.Z hT h0 (fun vs Ts f1 k g u h1 tk1 F1 hu hk N1 S1 Z1 A1 I1 hl => turn vs Ts f1 k g u hu hk S1 A1 I1 hl { s with heap := h1, toks := tk1 } _ E hE ⟨F1, N1, Z1⟩ fun b o2 f2 h2 tk2 a2 S2 p => by
    cases b with
    | true =>
      rw [if_pos rfl]
      refine p.1 rfl _ _ E hE a2 fun fl m' o' f' h3 tk3 a3 S3 r => ?_
      rcases r with ⟨e, vs', Ts', k', g', h4, h5, e6, h7, h8, h9⟩ | ⟨⟨v, e⟩, r⟩
      · subst e e6
        exact ⟨h3, tk3, m', vs', Ts', f', k', g', rfl, a3.F, h4, h5, a3.N, (S3.step S2).step S1, a3.Z, h7, h8, h9⟩
      · subst e
        exact q _ m' o' f' h3 tk3 a3 ((S3.step S2).step S1) r
    | false =>
      rw [if_neg Bool.false_ne_true]
      exact p.2 rfl _ Q E hE a2 fun fl m' o' f' h3 tk3 a3 S3 r => q fl m' o' f' h3 tk3 a3 ((S3.step S2).step S1) r) hE)
theorem JE.listN {es : List Expr} (j : JA c m own fz rest pos es (fun vs o f => Nat.ble vs.length 1048576 = true ∧ ∀ D, (∀ p ∈ o ++ (f ++ rest), p.1 < D) → P (.ref D) ((D, PySem.W.listOf vs.toArray 0) :: o) f)) : JE c m own fz rest (.List es pos) P := fun s Q E hE a q =>
  List_ (j s _ E hE a fun vs o f h tk a1 S1 ⟨hz, hp⟩ => newList_K a1.F a1.N (fun D h' F' N' l => q (.ref D) ((D, PySem.W.listOf vs.toArray 0) :: o) f h' tk ⟨F', N', a1.Z⟩ S1 (hp D l)) (by rw [PySem.sizeLine_eq]; have := Nat.le_of_ble_eq_true hz; omega))
theorem JG.neNil {a1 b1 : Addr} {vs : List Value} {Ts : List Ty} {i j : Nat} {bb : Bool} (ha : (a1, PySem.W.listOf vs.toArray i) ∈ own) (hb : (b1, PySem.W.listOf ([] : List Value).toArray j) ∈ own) (hT : TyAll fz vs Ts) (t : ∀ T ∈ Ts, height T ≤ 20) (hu : c.un + 64 < cLine) (hbb : (!decide (Ts = [])) = bb) (h : P (.bool bb) own fz) : JG c m own fz rest (compareOp .NotEq (.ref a1) (.ref b1)) P := fun s _ _ hE a q =>
  ne_nil a.N Part.ownL (List.mem_append.mpr (.inl ha)) (List.mem_append.mpr (.inl hb)) hT t hu hbb (q _ own fz s.heap s.toks a .refl h)
theorem EV.bool {b : Bool} : EV c m own fz rest (.Constant (.bool b) k pos) (fun _ => .bool b) := fun _ _ _ _ _ q => wpAny_Constant_bool (q 0 _)
theorem Off.lt {D : Addr} {l : Led} (h : ∀ p ∈ l, p.1 < D) : Off l D := ⟨fun p hp => Nat.ne_of_lt (h p hp)⟩
end
/-- entering a def without cells that gives back a list of its own -/
theorem telL_def {w : World} {fz rest : Led} {f : Addr} {vs : List Value} {d : Nat} {P : List Value → Led → Prop} {name qual : Str} {params : Arguments} {body : List Stmt} {scope : Scope} {dV kV doc pm cdv ct oc : Value} {an od : Option Addr} {osl : Array (Option Value)} {binds : List (Str × Value)}
    (ho : (Mine.hd.heap_1 w.params).lookup f = some ⟨oc, od, .func (fnOf name qual params body scope dV kV doc pm an cdv ct), osl⟩) (hcd : codeIn (Mine.hd.heap_1 w.params) cdv qual = true)
    (hbind : ∀ s, BindsTo s (fnOf name qual params body scope dV kV doc pm an cdv ct) ⟨vs, []⟩ binds) (hloc : ∀ y ∈ binds, scope.names.lookup y.1 = some .local) (hco : scope.isCoroutine = false) (hgen : scope.isGenerator = false) (hkd : scope.kind = .function) (hcell : ∀ x ∈ scope.names, x.2 ≠ .cell) (hz : Tups fz)
    (j : ∀ (c : Cx w scope []) (m : Str → Option Value) (R : Flow → (Str → Option Value) → Led → Led → Prop), c.dp + d < recursionLimit + 1 → c.un + 8 * d < cLine + 8 → (∀ y, m y = binds.reverse.lookup y) → (∀ D vals k m o f, (D, PySem.W.listOf vals.toArray k) ∈ o → Off rest D → P vals f → R (.ret (.ref D)) m o f) → JX c m [] fz rest body R) : TelL w f vs fz rest d P := by
  intro loose mean mg mb dp un gd cn cs a ccd cl outer A₀ base h₀ L m s Q E B F X N T hk hdp hu hret
  refine wpAny_call ?_
  refine code_def B F X N T rfl rfl hk ho hcd ?_ (hbind s) hloc ?_ hco hgen hkd hcell
  · show dp < recursionLimit; omega
  · intro g' L' h' FG' F' N' B' X' T'
    let c : Cx w scope [] := { loose, mean, mg, mb, dp := dp + 1, un := un + 3, gd := ((Ard dp un gd cn cs L a ccd cl outer).deeper (envOf qual scope L' f cdv)).guards, cn := qual, L := L', a := f, ccd := cdv, outer := envX cn cs L a ccd cl :: outer, A₀ := _, base, h₀ := g', B := B', X := X', TP := T' }
    refine j c (fun y => binds.reverse.lookup y) (fun fl _ o f => ∃ D vals k, fl = .ret (.ref D) ∧ (D, PySem.W.listOf vals.toArray k) ∈ o ∧ Off rest D ∧ P vals f) (by show dp + 1 + d < _; omega) (by show un + 3 + 8 * d < _; omega) (fun _ => rfl) (fun D vals k m o f h1 h2 h3 => ⟨D, vals, k, rfl, h1, h2, h3⟩) _ _ _ ?hE ⟨F', by simpa using N', hz⟩ fun fl m' o f' h2 tk2 a2 S2 ⟨D, vals, k, e, h1, h3, r⟩ => ?_
    case hE => with_unfolding_all passes_own
    subst e
    exact leaveK_ a2.F a2.N fun kF kN => hret D vals k f' h2 tk2 kF (fun p hp => kN p (by
      rcases List.mem_cons.mp hp with rfl | hp
      · exact List.mem_append.mpr (.inl h1)
      · exact List.mem_append.mpr (.inr hp))) h3 S2 a2.Z r

end
section
theorem flushLUnk : True ∧ True := by (w_top off); (first | (walk1; done) | exact ⟨True.intro, True.intro⟩)
noncomputable def unk : Ty → Bool
  | .var | .intvar => true
  | .ref _ _ t | .box t | .array t => unk t
  | .pair t u | .adt _ _ t u => unk t || unk u
  | _ => false
theorem unk_top {U : Ty} (h : isUnk U = true) : unk U = true := by cases U <;> first | rfl | cases h
theorem unk_kids {U : Ty} (h : isUnk U = false) : (kids U).any unk = unk U := by cases U <;> first | (cases h; done) | simp [kids, unk]
theorem kids_height {U V : Ty} {n : Nat} (h : height U ≤ n) (hV : V ∈ kids U) : height V ≤ n := Nat.le_trans (Nat.le_of_succ_le (kid_height hV)) h
theorem unk_step {T U : Ty} {Us : List Ty} (hq : isUnk U = false) (I1 : (Us ++ [U]).any unk = unk T) (I2 : ∀ V ∈ Us ++ [U], height V ≤ 20) (I3 : szL (Us ++ [U]) ≤ 2097152) : ((Us ++ kids U).any unk = unk T ∧ (∀ V ∈ Us ++ kids U, height V ≤ 20) ∧ szL (Us ++ kids U) ≤ 2097152) ∧ szL (Us ++ kids U) < szL (Us ++ [U]) := by
  have h := size_kids U
  refine ⟨⟨by rw [List.any_append, unk_kids hq, ← I1]; simp, fun V hV => ?_, ?_⟩, ?_⟩
  · rcases List.mem_append.mp hV with hV | hV
    · exact I2 V (List.mem_append.mpr (.inl hV))
    · exact kids_height (I2 U (by simp)) hV
  · simp only [szL_append, szL] at I3 ⊢; omega
  · simp only [szL_append, szL]; omega
theorem unknowns_tel {w : World} {v : Value} {T : Ty} {fz rest : Led} (hT : TyIn fz v T) (hz : Tups fz) (hh : height T ≤ 20) : Tel w 73 [v] fz rest 30 (fun r _ => r = .bool (unk T)) := by
  have kf9 : Mine.hd.heap_1 w.params = Mine.hd.heap_1 w.params ∧ PySem.Challenge.rw_ot0007_01 = PySem.Challenge.rw_ot0007_01 := by k_fill; exact ⟨rfl, rfl⟩
  clear kf9
  refine' tel_def ?a0 ?a1 (fun _ => ?a2) ?a3 ?a4 ?a5 ?a6 ?a7 (hz) ?_
  case a0 => k_is
  case a1 => k_is
  case a2 => exact BindsTo.of_eq rfl
  case a3 => exact locs rfl
  case a4 => exact rfl
  case a5 => exact rfl
  case a6 => exact rfl
  case a7 => decide
  intro c m R hdp hun hb hR
  have ht : m (Str.ofString "told") = some v := hb _
  clear hb
  have hwp : nsIn (Mine.hd.heap_1 w.params) mainGlobals (Str.ofString "parts_of") = some (some (.ref 21)) ∧ keepIn (Mine.hd.heap_1 w.params) (.ref 21) = true := ⟨by k_is, by k_is⟩
  have hu64 : c.un + 64 < cLine := by first | exact ulk (Y := 8) hun rfl | exact uld (Y := 8) hun rfl
  have hd4 : c.dp + 4 < recursionLimit := by first | exact dlk hdp rfl | exact dld hdp rfl | exact dln hdp rfl
  have hu4 : c.un + 8 * 4 < cLine := by first | exact ulk hun rfl | exact uld hun rfl | exact uln hun rfl
  refine JX.set (JE.listN (JA.one (EV.name ht) fun _ => ⟨rfl, fun D hlt => ?_⟩))
  have off : Off rest D := .lt fun p hp => hlt p (List.mem_append.mpr (.inr (List.mem_append.mpr (.inr hp))))
  refine JX.while (γ := Unit) (x := Str.ofString "left") (fun _ => []) (fun Ts _ => Ts.any unk = unk T ∧ (∀ U ∈ Ts, height U ≤ 20) ∧ szL Ts ≤ 2097152) () [] rfl rfl hT ⟨by simp, by simpa using hh, by simpa [szL] using size_room hh⟩ ?_
  intro vs Ts f k _ u hu _ S1 A1 ⟨I1, I2, I3⟩ hl
  rcases List.eq_nil_or_concat Ts with rfl | ⟨Us, U, rfl⟩
  · refine JT.cmp (JE.V (EV.name hu) fun _ => JE.listN (JA.nil ⟨rfl, fun D2 _ => JG.neNil (List.mem_cons_of_mem _ (List.mem_cons_self ..)) (List.mem_cons_self ..) A1 I2 hu64 nn_nil ⟨_, rfl, nofun, fun _ => JX.retV EV.bool fun _ => hR _ _ _ _ (by rw [← I1]; rfl)⟩⟩))
  · rw [List.concat_eq_append] at *
    obtain ⟨ws, v', rfl, A2, A3⟩ := A1.last
    obtain ⟨b, t, more, n, rfl, hm⟩ := A3.head
    obtain ⟨hr1, hr2⟩ := stack_room hl I3
    refine JT.cmp (JE.V (EV.name hu) fun _ => JE.listN (JA.nil ⟨rfl, fun D2 _ => JG.neNil (List.mem_cons_of_mem _ (List.mem_cons_self ..)) (List.mem_cons_self ..) A1 I2 hu64 nn_app ⟨_, rfl, fun _ => ?_, nofun⟩⟩))
    refine JX.sub (own2 := [(D, PySem.W.listOf (ws ++ [Value.ref b]).toArray k)]) (fun p hp => List.mem_cons_of_mem _ hp) ?_
    refine JX.set (JE.pop (EV.name hu) (List.mem_cons_self ..) (Upd.head (List.forall_mem_nil _)) off hr1 ?_)
    refine JX.ifr (JT.inTwo (EV.sub rfl hm rfl) (kindS_ok U) hu64 fun D3 t1 t2 => ⟨fun hq => JE.V EV.bool fun _ => .inr ⟨⟨_, rfl⟩, hR _ _ _ _ ?_⟩, fun hq => ?_⟩)
    · rw [unk_kind] at hq
      rw [← I1, List.any_append, List.any_cons, unk_top hq]; simp
    · rw [unk_kind] at hq
      obtain ⟨J, lt⟩ := unk_step hq I1 I2 I3
      refine JX.last (JS.ext (EV.name hu) (List.mem_cons_self ..) off (JE.call hwp.1 hwp.2 (JA.one (EV.name rfl) fun _ => (JH.tel (fun Z => parts_of_tel (A3.up (.cons .refl)) Z) hd4 hu4 fun r4 f4 S4 p4 => ?_).G)))
      obtain ⟨e9, m9, a9⟩ := p4
      exact ⟨rfl, _, _, _, _, e9, m9, Upd.head (List.forall_mem_nil _), ext_room hr2 a9, .inl ⟨rfl, _, _, _, (), hu, (fun _ h => nomatch h), rfl, TyAll.append ((A2.up (.cons .refl)).up S4) a9, J, lt⟩⟩

end
section
theorem flushLSub : True ∧ True := by (w_top off); (first | (walk1; done) | exact ⟨True.intro, True.intro⟩)
noncomputable def SubSpec (w : World) (T : Ty) : Prop := ∀ {v : Value} {fz rest : Led} {d : Addr} {τ : Tab}, TyIn fz v T → Tups fz → TabIn w rest fz d τ → Tel w 33 [v, .ref d] fz rest (10 * height T + 20) (fun r fz' => TyIn fz' r (subst τ T))
structure SubIH (w : World) (T : Ty) : Prop where
  ih : ∀ T', height T' < height T → SubSpec w T'

theorem kids_lt {T T' : Ty} {i : Nat} (h : (kids T)[i]? = some T') : height T' + 1 ≤ height T := kid_height (List.mem_of_getElem? h)
theorem kids_size {fz : Led} {vs : List Value} {T : Ty} (h : TyAll fz vs (kids T)) : vs.length ≤ sizeLine := by
  rw [h.length]
  refine Nat.le_trans (m := 2) ?_ (by decide)
  cases T <;> simp [kids]
theorem withKids_subst {T : Ty} {τ : Tab} (h : isParam T = false) : withKids T ((kids T).map (subst τ)) = subst τ T := by cases T <;> first | (cases h; done) | rfl
theorem SubIH.use {w : World} {T T' : Ty} {v : Value} {fz rest : Led} {d : Addr} {τ : Tab} (ih : SubIH w T) (hlt : height T' + 1 ≤ height T) (hT : TyIn fz v T') (hz : Tups fz) (hτ : TabIn w rest fz d τ) :
    Tel w 33 [v, .ref d] fz rest (10 * height T' + 20) (fun r fz' => TyIn fz' r (subst τ T')) := ih.ih T' (by omega) hT hz hτ
theorem subst_leaf {T : Ty} (h : (kindS T == Str.ofString "param") = false) : isParam T = false := by
  cases T
  case param => exact absurd h (by show ¬ ((S _ == S _) = false); decide +kernel)
  all_goals rfl
theorem TabIn.app {w : World} {own rest fz fz' : Led} {d : Addr} {τ : Tab} (h : TabIn w rest fz d τ) (s : Sub fz fz') : TabIn w (own ++ rest) fz' d τ := by
  cases h with | mk a b c d => exact .mk (List.mem_append.mpr (.inr a)) b c (d.up s)
theorem sub_walk {w : World} {T : Ty} (IH : SubIH w T) : SubSpec w T := by
  intro v fz rest d τ hT hz hτ
  obtain ⟨hd1, hd2, hd3, hd4⟩ := id hτ
  obtain ⟨a, t, more, n, rfl, hm⟩ := hT.head
  have kf9 : Mine.hd.heap_1 w.params = Mine.hd.heap_1 w.params ∧ PySem.Challenge.rw_ot0007_01 = PySem.Challenge.rw_ot0007_01 := by k_fill; exact ⟨rfl, rfl⟩
  clear kf9
  refine' tel_defC ?a0 ?a1 (fun _ => ?a2) ?a3 ?a4 ?a5 ?a6 ?a7 (fun _ => ?a8) (fun _ => ?a9) (hz) ?_
  case a0 => k_is
  case a1 => k_is
  case a2 => exact BindsTo.of_eq rfl
  case a3 => exact rfl
  case a4 => decide +kernel
  case a5 => exact rfl
  case a6 => exact rfl
  case a7 => exact rfl
  case a8 => exact rfl
  case a9 => exact rfl
  intro ca oc c m R hoc hdp hun hb hR
  have ht : m (Str.ofString "told") = some (.ref a) := hb _
  clear hb
  have hw : nsIn (Mine.hd.heap_1 w.params) mainGlobals (Str.ofString "substituted") = some (some (.ref 33)) ∧ keepIn (Mine.hd.heap_1 w.params) (.ref 33) = true := ⟨by k_is, by k_is⟩
  have hwp : nsIn (Mine.hd.heap_1 w.params) mainGlobals (Str.ofString "parts_of") = some (some (.ref 21)) ∧ keepIn (Mine.hd.heap_1 w.params) (.ref 21) = true := ⟨by k_is, by k_is⟩
  have hwr : nsIn (Mine.hd.heap_1 w.params) mainGlobals (Str.ofString "rebuilt") = some (some (.ref 28)) ∧ keepIn (Mine.hd.heap_1 w.params) (.ref 28) = true := ⟨by k_is, by k_is⟩
  refine JX.ifrV (EV.sub ht hm rfl) ?par fun h1 => JX.ret (JE.call hwr.1 hwr.2 (JA.cons (JE.V (EV.name ht) fun _ => JA.cons (JE.comp (γ := Unit) (fun _ => [(ca, oc)]) () (fun vs f => TyAll f vs (kids T)) (fun _ i ys f _ => TyAll f ys (((kids T).map (subst τ)).take i)) (fun _ => rfl) (JE.call hwp.1 hwp.2 (JA.one (EV.name ht) fun _ => (JH.tel (fun Z => parts_of_tel hT Z) (by omega) (by omega) fun r4 f4 S4 p4 => ?parts).G)) (fun vs f0 S0 hv i v ys f _ C oC m₂ I oI D e S1 A hC hx _ => JH.noTest ?turn) (fun vs f0 S0 hv D ys f _ S1 A _ => JA.nil ?fin)))))
  case par =>
    intro h
    obtain @⟨n, t, u, x, hp⟩ := kParam hT h
    have hx := hd4.at x
    generalize e1 : valueAt _ (pname x) = ov at hx
    generalize e2 : lk τ x = ot at hx
    refine JE.get (JE.V (EV.cell rfl (List.mem_cons_self ..) hoc) fun _ => ⟨d, _, _, rfl, List.mem_append.mpr (.inr (List.mem_append.mpr (.inr hd1))), hd2, hd3, JA.cons (JE.V (EV.sub ht hp rfl) fun _ => JA.cons (JE.V (EV.name ht) fun _ => JA.nil ⟨rfl, _, _, _, rfl, hR _ _ _ _ ?_⟩))⟩)
    rw [e1]
    cases hx with
    | none => simp only [subst, e2, Option.getD]; exact hT
    | some hx => simp only [subst, e2, Option.getD]; exact hx
  case parts =>
    obtain ⟨e9, m9, a9⟩ := p4
    exact ⟨_, _, e9, .inl ⟨_, m9⟩, rfl, kids_size a9, a9, .nil⟩
  case turn =>
    rw [if_pos rfl]
    obtain ⟨T', e', k'⟩ := hv.at e
    have hlt := kids_lt e'
    exact JH.call2 hw.1 hw.2 (CV.var (List.mem_cons_of_mem _ (List.mem_cons_self ..)) hC hx) (CV.cell rfl (List.mem_cons_of_mem _ (List.mem_cons_of_mem _ (List.mem_cons_of_mem _ (List.mem_cons_self ..)))) hoc) (JH.tel (fun Z => IH.use hlt (k'.up S1) Z (hτ.app (S1.step S0))) (by omega) (by omega) fun r f' S6 p6 => ⟨(), rfl, by
      rw [List.take_add_one, List.getElem?_map, e']
      exact TyAll.snoc (A.up S6) p6⟩)
  case fin =>
    rw [List.take_of_length_le (by rw [hv.length, List.length_map]; exact Nat.le_refl _)] at A
    exact (JH.tel (fun Z => rebuilt_tel (hT.up (S1.step S0)) (List.mem_append.mpr (.inl (List.mem_cons_self ..))) A (List.length_map ..) Z) (by omega) (by omega) fun r4 f4 S4 p4 => hR _ _ _ _ (withKids_subst (subst_leaf h1) ▸ p4)).G
theorem sub_all (w : World) : ∀ T, SubSpec w T := by
  have all : ∀ n, ∀ T, height T < n → SubSpec w T := by
    intro n
    induction n with
    | zero => intro T h; exact absurd h (Nat.not_lt_zero _)
    | succ n ih =>
      intro T h
      exact sub_walk ⟨fun T' h' => ih T' (by omega)⟩
  exact fun T => all _ T (Nat.lt_succ_self _)
theorem substituted_tel {w : World} {T : Ty} {v : Value} {fz rest : Led} {d : Addr} {τ : Tab} (hT : TyIn fz v T) (hz : Tups fz) (hτ : TabIn w rest fz d τ) : Tel w 33 [v, .ref d] fz rest (10 * height T + 20) (fun r fz' => TyIn fz' r (subst τ T)) := sub_all w T hT hz hτ

end
section
theorem flushLReg : True ∧ True := by (w_top off); (first | (walk1; done) | exact ⟨True.intro, True.intro⟩)
noncomputable def RegSpec {σ α : Type} (w : World) (a : Addr) (ab : σ → α) (f : Reg → α → Reg × α) (ok : Reg → α → Prop) (d : Nat) (T : Ty) : Prop :=
  ∀ ⦃R : σ → Led⦄ ⦃v : Value⦄ ⦃fz : Led⦄ ⦃c : σ⦄, ChOk w a R ab f ok d → TyIn fz v T → Tups fz → regsOk f ok T (ab c) → TelS w (.ref 38) [v, .ref a] fz R c (12 * height T + 20 + d) (fun r fz' c' => TyIn fz' r (wrS f T (ab c)).1 ∧ ab c' = (wrS f T (ab c)).2)
structure RegIH {σ α : Type} (w : World) (a : Addr) (ab : σ → α) (f : Reg → α → Reg × α) (ok : Reg → α → Prop) (d : Nat) (T : Ty) : Prop where
  ih : ∀ T', height T' + 1 ≤ height T → RegSpec w a ab f ok d T'
section
variable {σ α : Type} {w : World} {a : Addr} {R : σ → Led} {ab : σ → α} {f : Reg → α → Reg × α} {ok : Reg → α → Prop} {d : Nat}
theorem RegIH.use {T T' : Ty} {v : Value} {fz cs₁ : Led} {c : σ} (ih : RegIH w a ab f ok d T) (hlt : height T' + 1 ≤ height T) (C : ChOk w a R ab f ok d) (ap : ∀ c, Apart cs₁ (R c)) (hT : TyIn fz v T') (hz : Tups fz) (hr : regsOk f ok T' (ab c)) :
    TelS w (.ref 38) [v, .ref a] fz (fun c => cs₁ ++ R c) c (12 * height T' + 20 + d) (fun r fz' c' => TyIn fz' r (wrS f T' (ab c)).1 ∧ ab c' = (wrS f T' (ab c)).2) := ih.ih T' hlt (C.ext ap) hT hz hr
/-- what the first statement makes of a type -/
noncomputable def topR (f : Reg → α → Reg × α) : Ty → α → Ty × α
  | .ref r m t, x => (.ref (f r x).1 m t, (f r x).2)
  | .adt r q t u, x => (.adt (f r x).1 (f q (f r x).2).1 t u, (f q (f r x).2).2)
  | t, x => (t, x)
theorem topR_kids (f : Reg → α → Reg × α) (T : Ty) (x : α) : kids (topR f T x).1 = kids T := by cases T <;> rfl
theorem topR_wr (f : Reg → α → Reg × α) (T : Ty) (x : α) : withKids (topR f T x).1 (wrL f (kids T) (topR f T x).2).1 = (wrS f T x).1 ∧ (wrL f (kids T) (topR f T x).2).2 = (wrS f T x).2 := by cases T <;> exact ⟨rfl, rfl⟩
theorem topR_ok {T : Ty} {x : α} (h : regsOk f ok T x) : regsOkL f ok (kids T) (topR f T x).2 := by
  cases T with
  | ref => exact ⟨h.2, trivial⟩
  | adt => exact ⟨h.2.2.1, h.2.2.2, trivial⟩
  | pair => exact ⟨h.1, h.2, trivial⟩
  | box => exact ⟨h, trivial⟩
  | array => exact ⟨h, trivial⟩
  | _ => exact trivial
theorem topR_same {T : Ty} {x : α} (h1 : (kindS T == Str.ofString "ref") = false) (h2 : (kindS T == Str.ofString "adt") = false) : topR f T x = (T, x) := by
  cases T
  case ref => exact absurd h1 (by show ¬ ((S _ == S _) = false); decide +kernel)
  case adt => exact absurd h2 (by show ¬ ((S _ == S _) = false); decide +kernel)
  all_goals rfl
section
variable {cs : Scope} {cl : List (Str × Addr)} {c : Cx w cs cl} {m : Str → Option Value} {own fz rest : Led} {pos p1 : Pos} {P : Value → Led → Led → Prop} {e : PySem.Expr} {g : Str} {v : Value}
theorem FnAt.atJ {st : σ} {h : Heap} (X : FnAt w R a) (A : At c m own fz rest h) (hin : ∀ p ∈ R st, p ∈ own) : FnHere h a := by
  cases X with
  | top e d => exact ⟨_, _, A.F.keep _ _ (c.X _ _ e), d⟩
  | led e d => exact ⟨_, _, (A.N _ (List.mem_append.mpr (.inl (hin _ (e st))))).1, d⟩
/-- a call of the change -/
theorem JE.callF {f0 : Tok → Value} (V : EV c m own fz rest (.Name g p1) (fun _ => .ref a)) (V1 : EV c m own fz rest e f0) (here : ∀ h, At c m own fz rest h → FnHere h a) (j : ∀ t, JC c m own fz rest (.ref a) [f0 t] P) (he : ∀ env, starEach [e] env = (false, eval e env) :: starEach [] env := by intro _; rfl) : JE c m own fz rest (.Call (.Name g p1) [e] [] pos) P := fun s Q E hE A q =>
  Call_ (V s _ E hE A fun _ tk => callWith_fn (args_cons (V1 _ _ E hE A fun t tk2 => args_nil ⟨here _ A, j t _ Q E hE A q⟩) (he _)) (he _) rfl)
theorem JH.callF {env : Env} (V : CV c m own fz rest (.Name g p1) env (.ref a)) (V1 : CV c m own fz rest e env v) (here : ∀ h, At c m own fz rest h → FnHere h a) (j : JH c m own fz rest (call (.ref a) [v]) P) (he : ∀ env, starEach [e] env = (false, eval e env) :: starEach [] env := by intro _; rfl) : JH c m own fz rest (eval (.Call (.Name g p1) [e] [] pos) env) P := fun s Q E A q =>
  Call_ (V s _ E A fun tk => callWith_fn (args_cons (V1 _ _ E A fun tk2 => args_nil ⟨here _ A, j _ Q E A q⟩) (he _)) (he _) rfl)
end
/-- after the first statement -/
inductive RM (R : σ → Led) (ab : σ → α) (p : Addr × Obj) (T : Ty) (x : α) (m' : Str → Option Value) (o f : Led) : Prop
  | mk {v' : Value} {c' : σ} : m' (Str.ofString "told") = some v' → (∀ q ∈ p :: R c', q ∈ o) → TyIn f v' T → ab c' = x → RM R ab p T x m' o f
theorem apart1 (C : ChOk w a R ab f ok d) {ca : Addr} {oc : Obj} {c₀ : σ} (h : ∀ p ∈ R c₀, @LT.lt Nat _ p.1 ca) : ∀ c, Apart [(ca, oc)] (R c) := fun _ => .cons (Away.of C.adr fun q hq e => Nat.lt_irrefl ca (by have := h q hq; rw [← e] at this; exact this)) .nil
theorem apart4 {ca I C D : Addr} {oc oI oC oD : Obj} {g : σ} (hadr : ∀ c c', (R c).map (·.1) = (R c').map (·.1)) (h : ∀ p ∈ R g, p.1 ≠ I ∧ p.1 ≠ C ∧ p.1 ≠ D) (k : ∀ c, Apart [(ca, oc)] (R c)) : ∀ c, Apart [(I, oI), (C, oC), (D, oD), (ca, oc)] (R c) := fun c =>
  .cons (Away.of hadr fun q hq => (h q hq).1.symm) (.cons (Away.of hadr fun q hq => (h q hq).2.1.symm) (.cons (Away.of hadr fun q hq => (h q hq).2.2.symm) (k c)))
theorem sw_mem {o fz : Led} {p : Addr × Obj} : p ∈ fz ++ o ↔ p ∈ o ++ (fz ++ []) := by
  rw [List.append_nil, List.mem_append, List.mem_append]
  exact Or.comm
set_option maxHeartbeats 800000 in
theorem reg_walk {T : Ty} (IH : RegIH w a ab f ok d T) : RegSpec w a ab f ok d T := by
  intro R v fz st hC hT hz hok
  obtain ⟨b0, t0, more, n0, rfl, hm⟩ := hT.head
  have hB := hT.by
  have kf9 : Mine.hd.heap_1 w.params = Mine.hd.heap_1 w.params ∧ PySem.Challenge.rw_ot0007_01 = PySem.Challenge.rw_ot0007_01 := by k_fill; exact ⟨rfl, rfl⟩
  clear kf9
  refine' telS_defC (own := R st) (tl := []) ?a0 ?a1 (fun _ => ?a2) ?a3 ?a4 ?a5 ?a6 ?a7 (fun _ => ?a8) (fun _ => ?a9) hz ?ain ?_
  case a0 => k_is
  case a1 => k_is
  case a2 => exact BindsTo.of_eq rfl
  case a3 => exact rfl
  case a4 => decide +kernel
  case a5 => exact rfl
  case a6 => exact rfl
  case a7 => exact rfl
  case a8 => exact rfl
  case a9 => exact rfl
  case ain => exact fun p hp => sw_mem.mpr hp
  intro ca oc c m Rr hoc hlt hdp hun hb hR
  have ht : m (Str.ofString "told") = some (.ref b0) := hb _
  clear hb
  have ap := apart1 (oc := oc) hC fun p hp => hlt p (List.mem_append.mpr (.inr hp))
  have hadr : ∀ (s0 g : σ), ((ca, oc) :: R g).map (·.1) = ((ca, oc) :: R s0).map (·.1) := fun s0 g => by rw [List.map_cons, List.map_cons, hC.adr g s0]
  have hw : nsIn (Mine.hd.heap_1 w.params) mainGlobals (Str.ofString "with_regions") = some (some (.ref 38)) ∧ keepIn (Mine.hd.heap_1 w.params) (.ref 38) = true := ⟨by k_is, by k_is⟩
  have hwp : nsIn (Mine.hd.heap_1 w.params) mainGlobals (Str.ofString "parts_of") = some (some (.ref 21)) ∧ keepIn (Mine.hd.heap_1 w.params) (.ref 21) = true := ⟨by k_is, by k_is⟩
  have hwr : nsIn (Mine.hd.heap_1 w.params) mainGlobals (Str.ofString "rebuilt") = some (some (.ref 28)) ∧ keepIn (Mine.hd.heap_1 w.params) (.ref 28) = true := ⟨by k_is, by k_is⟩
  have hd1 : c.dp + d < recursionLimit := dl hdp (Nat.add_comm .. ▸ Nat.add_le_add_right (lin0 rfl) d)
  have hu1 : c.un + 8 * d < cLine := ul hun (Nat.add_comm .. ▸ Nat.add_le_add_right (lin0 rfl) d)
  have hd4 : c.dp + 4 < recursionLimit := dl hdp (Nat.le_trans (lin0 rfl) (Nat.le_add_right ..))
  have hu4 : c.un + 8 * 4 < cLine := ul hun (Nat.le_trans (lin0 rfl) (Nat.le_add_right ..))
  refine JX.cut (RM R ab (ca, oc) (topR f T (ab st)).1 (topR f T (ab st)).2) (JS.iteV (EV.sub ht hm rfl) ?ref fun h1 => JX.last (JS.iteV (EV.sub ht hm rfl) ?adt fun h2 => JX.nil ⟨rfl, ?same⟩)) ?rest
  case same => rw [topR_same h1 h2]; exact .mk ht (fun _ h => h) hT rfl
  case ref =>
    intro h
    obtain @⟨r, b, U, ⟨k1, k2, k3⟩⟩ := kRef hB h
    refine JX.set (JE.tuple (JA.cons (JE.V EV.str fun _ => ?_)))
    refine JA.cons (JE.callF (EV.cell rfl (List.mem_cons_self ..) hoc) (EV.sub ht k1 rfl) (fun h A => hC.fn.atJ (st := st) A fun p hp => List.mem_cons_of_mem _ hp) fun _ => JH.G (JH.telS (fun Z => hC.use hok.1 k2 Z (ap st)) hd1 hu1 (fun p hp => sw_mem.mp hp) fun r1 f1 st1 S1 p1 => ⟨(ca, oc) :: R st1, fun p hp => sw_mem.mpr hp, ?_⟩))
    obtain ⟨p1a, p1b⟩ := p1
    have k1' := S1.sub _ k1
    exact JA.cons (JE.V (EV.sub ht k1' rfl) fun _ => JA.cons (JE.V (EV.sub ht k1' rfl) fun _ => JA.nil ⟨Nat.le_of_ble_eq_true rfl, fun D => JX.nil ⟨rfl, .mk rfl (fun _ h => h) (.ref (List.mem_cons_self ..) p1a ((k3.up S1).up (.cons .refl))) p1b⟩⟩))
  case adt =>
    intro h
    obtain @⟨r, q, U, V, ⟨k1, k2, k3, k4, k5, k6⟩⟩ := kAdt hB h
    obtain ⟨v1, v2, rfl, k7, k8⟩ := k6.two
    obtain ⟨hok1, hok2, -⟩ := hok
    refine JX.set (JE.tuple (JA.cons (JE.V EV.str fun _ => ?_)))
    refine JA.cons (JE.V (EV.sub ht k1 rfl) fun _ => ?_)
    refine JA.cons (JE.tupleE (JE.comp (γ := σ) (fun g => (ca, oc) :: R g) st (fun vs _ => RegAll vs [r, q]) (fun _ i ys _ g => RegAll ys (rgL f ([r, q].take i) (ab st)).1 ∧ ab g = (rgL f ([r, q].take i) (ab st)).2) (hadr st) (JE.V (EV.sub ht k1 rfl) fun _ => ⟨_, _, rfl, .inl ⟨_, k2⟩, rfl, Nat.le_of_ble_eq_true rfl, .cons k4 (.cons k5 .nil), .nil, rfl⟩) (fun vs f0 S0 hv i v ys f2 g C oC m₂ I oI D e S2 A hCC hx d2 => JH.noTest ?turn) (fun vs f0 S0 hv D ys f2 g S2 A _ => ?fin)))
    case turn =>
      rw [if_pos rfl]
      obtain ⟨r', e', k'⟩ := hv.at e
      have hok' : ok r' (ab g) := by
        rw [A.2]
        rcases i with _ | _ | i <;> simp at e' <;> subst e' <;> first | exact hok1 | exact hok2
      refine JH.callF (CV.cell rfl (List.mem_cons_of_mem _ (List.mem_cons_of_mem _ (List.mem_cons_of_mem _ (List.mem_cons_self ..)))) hoc) (CV.var (List.mem_cons_of_mem _ (List.mem_cons_self ..)) hCC hx) (fun h A9 => hC.fn.atJ (st := g) A9 fun p hp => List.mem_cons_of_mem _ (List.mem_cons_of_mem _ (List.mem_cons_of_mem _ (List.mem_cons_of_mem _ hp)))) (JH.telS (fun Z => hC.use (cs₁ := [(I, oI), (C, oC), (D, _), (ca, oc)]) hok' k' Z (apart4 hC.adr (fun p hp => d2 p (List.mem_append.mpr (.inl (List.mem_cons_of_mem _ hp)))) ap g)) hd1 hu1 (fun p hp => sw_mem.mp hp) fun r1 f1 st1 S1 p1 => ⟨_, fun p hp => sw_mem.mpr hp, st1, rfl, ?_⟩)
      rw [List.take_add_one, e', Option.toList, rgL_snoc]
      rw [A.2] at p1
      exact ⟨RegAll.snoc A.1 p1.1, p1.2⟩
    case fin =>
      obtain ⟨_, _, rfl, _, _⟩ := hv.two
      obtain ⟨A1, A2⟩ := A
      obtain ⟨y1, y2, rfl, hy1, hy2⟩ := RegAll.two (r := (f r (ab st)).1) (q := (f q (f r (ab st)).2).1) A1
      have k1' := S2.sub _ (S0.sub _ k1)
      exact ⟨D, _, _, rfl, List.mem_cons_self .., Nat.le_of_ble_eq_true rfl, fun D2 => JA.cons (JE.V (EV.sub ht (List.mem_cons_of_mem _ k1') rfl) fun _ => JA.nil ⟨Nat.le_of_ble_eq_true rfl, fun D3 => JX.nil ⟨rfl, .mk rfl (fun p hp => List.mem_cons_of_mem _ hp) (.adt (List.mem_cons_self ..) (List.mem_cons_of_mem _ (List.mem_cons_self ..)) (List.mem_cons_of_mem _ (List.mem_cons_of_mem _ (S2.sub _ (S0.sub _ k3)))) hy1 hy2 (((k7.up S0).up S2).up (.cons (.cons .refl))) (((k8.up S0).up S2).up (.cons (.cons .refl)))) A2⟩⟩)⟩
  case rest =>
    rintro m' o f1 S1 @⟨v', st', hv', hin, hT', hab⟩
    have hL := topR_ok hok
    have hW := topR_wr f T (ab st)
    have hK := topR_kids f T (ab st)
    generalize (topR f T (ab st)).2 = x' at hab hL hW
    generalize (topR f T (ab st)).1 = T1 at hT' hW hK
    refine JX.sub hin (JX.ret (JE.call hwr.1 hwr.2 (JA.cons (JE.V (EV.name hv') fun _ => JA.cons (JE.comp (γ := σ) (fun g => (ca, oc) :: R g) st' (fun vs f2 => TyAll f2 vs (kids T)) (fun _ i ys f2 g => TyAll f2 ys (wrL f ((kids T).take i) x').1 ∧ ab g = (wrL f ((kids T).take i) x').2) (hadr st') (JE.call hwp.1 hwp.2 (JA.one (EV.name hv') fun _ => (JH.tel (fun Z => parts_of_tel hT' Z) hd4 hu4 fun r4 f4 S4 p4 => ?parts).G)) (fun vs f0 S0 hv i v ys f2 g C oC m₂ I oI D e S2 A hCC hx d2 => JH.noTest ?turn) (fun vs f0 S0 hv D ys f2 g S2 A _ => JA.nil ?fin))))))
    case parts =>
      obtain ⟨e9, m9, a9⟩ := p4
      rw [hK] at a9
      exact ⟨_, _, e9, .inl ⟨_, m9⟩, rfl, kids_size a9, a9, .nil, hab⟩
    case turn =>
      rw [if_pos rfl]
      obtain ⟨T2, e', k'⟩ := hv.at e
      have hlt2 := kids_lt (T := T) e'
      refine JH.call2 hw.1 hw.2 (CV.var (List.mem_cons_of_mem _ (List.mem_cons_self ..)) hCC hx) (CV.cell rfl (List.mem_cons_of_mem _ (List.mem_cons_of_mem _ (List.mem_cons_of_mem _ (List.mem_cons_self ..)))) hoc) (JH.telS (fun Z => IH.use (cs₁ := [(I, oI), (C, oC), (D, _), (ca, oc)]) hlt2 hC (apart4 hC.adr (fun p hp => d2 p (List.mem_append.mpr (.inl (List.mem_cons_of_mem _ hp)))) ap) (k'.up S2) Z (by rw [A.2]; exact regsOkL_kid hL e')) (by omega) (by omega) (fun p hp => sw_mem.mp hp) fun r1 f3 st1 S3 p1 => ⟨_, fun p hp => sw_mem.mpr hp, st1, rfl, ?_⟩)
      rw [List.take_add_one, e', Option.toList, wrL_snoc]
      rw [A.2] at p1
      exact ⟨TyAll.snoc (A.1.up S3) p1.1, p1.2⟩
    case fin =>
      rw [List.take_of_length_le (by rw [hv.length]; exact Nat.le_refl _)] at A
      exact (JH.tel (fun Z => rebuilt_tel ((hT'.up S0).up S2) (List.mem_append.mpr (.inl (List.mem_cons_self ..))) A.1 (by rw [wrL_length, hK]) Z) hd4 hu4 fun r4 f4 S4 p4 => hR _ _ _ _ g ⟨hW.1 ▸ p4, hW.2 ▸ A.2⟩ fun p hp => (by
        rcases List.mem_append.mp hp with hp | hp
        · exact List.mem_append.mpr (.inr (List.mem_append.mpr (.inl hp)))
        · exact List.mem_append.mpr (.inl (List.mem_cons_of_mem _ (List.mem_cons_of_mem _ hp))))).G
theorem reg_all : ∀ T, RegSpec w a ab f ok d T := by
  have all : ∀ n, ∀ T, height T < n → RegSpec w a ab f ok d T := by
    intro n
    induction n with
    | zero => intro T h; exact absurd h (Nat.not_lt_zero _)
    | succ n ih =>
      intro T h
      have IH : RegIH w a ab f ok d T := ⟨fun T' h' => ih T' (by omega)⟩
      exact reg_walk IH
  exact fun T => all _ T (Nat.lt_succ_self _)
end

end
section
theorem flushLPar : True ∧ True := by (w_top off); (first | (walk1; done) | exact ⟨True.intro, True.intro⟩)
/-! params_in -/
noncomputable def paramsL : Ty → List Bool
  | .param x => [x]
  | .ref _ _ t | .box t | .array t => paramsL t
  | .pair t u | .adt _ _ t u => paramsL t ++ paramsL u
  | _ => []
noncomputable def addNew (l : List Bool) (x : Bool) : List Bool := if x ∈ l then l else l ++ [x]
inductive StrAll : List Value → List Bool → Prop
  | nil : StrAll [] []
  | cons {vs l x t} : StrAll vs l → StrAll (.str (pname x) t :: vs) (x :: l)
theorem StrAll.snoc {vs : List Value} {l : List Bool} {x : Bool} {t : Tok} (h : StrAll vs l) : StrAll (vs ++ [.str (pname x) t]) (l ++ [x]) := by
  induction h with
  | nil => exact .cons .nil
  | cons _ ih => exact .cons ih
theorem StrAll.length {vs : List Value} {l : List Bool} (h : StrAll vs l) : vs.length = l.length := by
  induction h with
  | nil => rfl
  | cons _ ih => simp [ih]
theorem StrAll.reads {h : Heap} {vs : List Value} {l : List Bool} (x : StrAll vs l) : ReadsAll h vs (l.map fun b => .str (pname b)) [] := by
  induction x with
  | nil => exact .nil
  | cons _ ih => exact .cons (.str _ _) ih
theorem pname_ok (x : Bool) : PyData.strOk (pname x) = true := by cases x <;> decide +kernel
theorem names_lay (l : List Bool) : PyData.canLayAll0 (l.map fun b => .str (pname b)) = true ∧ PyData.depthAll (l.map fun b => .str (pname b)) = 0 := by
  induction l with
  | nil => exact ⟨rfl, rfl⟩
  | cons x l ih => simp [PyData.canLayAll0, PyData.canLay0, PyData.depthAll, PyData.depth, pname_ok, ih]
theorem names_any (l : List Bool) (x : Bool) : ((l.map fun b => PyData.str (pname b)).any fun y => PyData.eqv y (.str (pname x))) = decide (x ∈ l) := by
  induction l with
  | nil => simp
  | cons y l ih =>
    rw [List.map_cons, List.any_cons, ih]
    have : PyData.eqv (.str (pname y)) (.str (pname x)) = decide (y = x) := by cases y <;> cases x <;> decide +kernel
    rw [this]
    by_cases h : y = x
    · subst h; simp
    · have h' : ¬ x = y := fun e => h e.symm
      by_cases k : x ∈ l <;> simp [h, h', k]
section
variable {prog : Program} {w : World} {A : Around} {E : Value → Shared → Prop} {s : Shared} {h₀ : Heap} {L : Addr} {led : Led} {Q : Value → Shared → Prop}
theorem notin_names {d : Addr} {vals : List Value} {k : Nat} {l : List Bool} {x : Bool} {t : Tok} {b : Bool} (N : News h₀ L s.heap led) (hm : (d, PySem.W.listOf vals.toArray k) ∈ led) (hs : StrAll vals l) (hu : A.units + 64 < cLine) (hb : (!decide (x ∈ l)) = b) (h : Q (.bool b) s) :
    wpAny (model prog w) A (compareOp .NotIn (.str (pname x) t) (.ref d)) Q E s := by
  refine SeqAt.notIn_list_reads (reads_list_at (N _ hm).1 rfl rfl (by simpa using hs.reads)) (.str _ t) (names_lay l).1 (pname_ok x) (by rw [(names_lay l).2]; simp; omega) ?_
  rw [names_any, hb]; exact h
end
theorem flat_kids (T : Ty) (h : isParam T = false) : paramsL T = (kids T).flatMap paramsL := by cases T <;> first | (cases h; done) | simp [paramsL, kids]
theorem addNew_mem {l : List Bool} {x : Bool} (h : (!decide (x ∈ l)) = false) : addNew l x = l := by simp at h; simp [addNew, h]
theorem addNew_not {l : List Bool} {x : Bool} (h : (!decide (x ∈ l)) = true) : addNew l x = l ++ [x] := by simp at h; simp [addNew, h]
theorem addNew_le (l : List Bool) (x : Bool) (h : l.length ≤ 2 ∧ l.Nodup) : (addNew l x).length ≤ 2 ∧ (addNew l x).Nodup := by
  rcases l with _ | ⟨a, _ | ⟨b, _ | ⟨c, l⟩⟩⟩
  · simp [addNew]
  · cases a <;> cases x <;> simp [addNew]
  · cases a <;> cases b <;> cases x <;> simp_all [addNew]
  · simp at h
noncomputable def ParInv (T : Ty) (Ts : List Ty) (g : List Value × Nat) : Prop :=
  ∃ l, StrAll g.1 l ∧ (Ts.reverse.flatMap paramsL).foldl addNew l = (paramsL T).foldl addNew [] ∧ (∀ U ∈ Ts, height U ≤ 20) ∧ szL Ts ≤ 2097152 ∧ l.length ≤ 2 ∧ l.Nodup
section
variable {prog : Program} {w : World} {A : Around} {E : Value → Shared → Prop} {s : Shared} {h₀ : Heap} {L : Addr} {m : Str → Option Value} {env : Env} {Q : Flow → Shared → Prop}
noncomputable abbrev twoCs (B : Addr) (g : List Value × Nat) : Led := [(B, PySem.W.listOf g.1.toArray g.2)]
end
theorem ext_rev {fz : Led} {ws vs : List Value} {U : Ty} (h : ws.length + 2 ≤ sizeLine) (a : TyAll fz vs (kids U)) : ws.length + vs.reverse.length ≤ sizeLine := by
  rw [List.length_reverse]; exact ext_room h a
theorem par_step {T U : Ty} {Us : List Ty} {vals' : List Value} {j' : Nat} {l l' : List Bool} (I0 : StrAll vals' l') (I1 : ((Us ++ [U]).reverse.flatMap paramsL).foldl addNew l = (paramsL T).foldl addNew [])
    (hk : (paramsL U).foldl addNew l = ((kids U).flatMap paramsL).foldl addNew l') (I2 : ∀ V ∈ Us ++ [U], height V ≤ 20) (I3 : szL (Us ++ [U]) ≤ 2097152) (I4 : l'.length ≤ 2) (I5 : l'.Nodup) : ParInv T (Us ++ (kids U).reverse) (vals', j') := by
  refine ⟨l', I0, ?_, fun V hV => ?_, ?_, I4, I5⟩
  · rw [← I1]
    simp only [List.reverse_append, List.reverse_reverse, List.flatMap_append, List.foldl_append, List.reverse_cons, List.reverse_nil, List.nil_append, List.flatMap_cons, List.flatMap_nil, List.append_nil]
    rw [hk]
  · rcases List.mem_append.mp hV with hV | hV
    · exact I2 V (List.mem_append.mpr (.inl hV))
    · exact kids_height (I2 U (by simp)) (List.mem_reverse.mp hV)
  · have := size_kids U
    simp only [szL_append, szL, szL_reverse] at I3 ⊢
    omega
theorem par_lt {Us : List Ty} {U : Ty} : szL (Us ++ (kids U).reverse) < szL (Us ++ [U]) := by
  have := size_kids U
  simp only [szL_append, szL, szL_reverse]
  omega
section
variable {w : World} {cs : Scope} {cl : List (Str × Addr)} {c : Cx w cs cl} {m : Str → Option Value} {own fz rest : Led} {pos p1 p2 p3 p4 p5 : Pos} {k : Nat} {P : Value → Led → Led → Prop} {e : PySem.Expr}
theorem JG.notIn {d : Addr} {vals : List Value} {k : Nat} {l : List Bool} {x : Bool} {t : Tok} {b : Bool} (hm : (d, PySem.W.listOf vals.toArray k) ∈ own) (hs : StrAll vals l) (hu : c.un + 64 < cLine) (hb : (!decide (x ∈ l)) = b) (h : P (.bool b) own fz) : JG c m own fz rest (compareOp .NotIn (.str (pname x) t) (.ref d)) P := fun s _ _ hE a q =>
  notin_names a.N (List.mem_append.mpr (.inl hm)) hs hu hb (q _ own fz s.heap s.toks a .refl h)
/-- e[::-1] of a tuple -/
theorem JE.rev (j : JE c m own fz rest e (fun v o f => ∃ b us n, v = .ref b ∧ (b, tupO us n) ∈ f ∧ us.length ≤ sizeLine ∧ ∀ D, P (.ref D) o ((D, tupO us.reverse 0) :: f)))
    (hs : ∀ a b, subscripted (.Slice none none (some (.UnaryOp .USub (.Constant (.int 1) k p2) p3)) p4) false (.ref a) (.ref b) = operate [.ref a, .ref b] (getItem (.ref a) (.ref b)) := by intro _ _; with_unfolding_all rfl) : JE c m own fz rest (.Subscript e (.Slice none none (some (.UnaryOp .USub (.Constant (.int 1) k p2) p3)) p4) p5) P := fun s Q E hE a q => by
  refine Subscript_ (j s _ E hE a fun v o f h tk a1 S1 ⟨b, us, n, e1, hb, hz, hp⟩ => ?_)
  subst e1
  refine wpAny_Slice (evalPart_none_step (evalPart_none_step (evalPart_some_step ?_)))
  walk1
  walk1
  walk1
  exact slice_tupR a1.F a1.N (List.mem_append.mpr (.inr (List.mem_append.mpr (.inl hb)))) .none .none (.int _ _) (by decide) (sl_rev_no _) (sl_rev_pick _) (by rw [List.length_reverse]; exact hz) (fun D h' F' N' l => q (.ref D) o ((D, tupO us.reverse 0) :: f) h' _ ⟨F', fun p hp => N' p (led_new hp), Tups.cons a1.Z⟩ (.cons S1) (hp D)) (hs _ _)
end
/-- after the test on the kind -/
inductive PJ (D B : Addr) (o1 : Obj) (U : Ty) (l : List Bool) (u m' : Str → Option Value) (o f : Led) : Prop
  | mk {vals' : List Value} {j' : Nat} {l' : List Bool} : m' = u → o = [(D, o1), (B, PySem.W.listOf vals'.toArray j')] → StrAll vals' l' → (paramsL U).foldl addNew l = ((kids U).flatMap paramsL).foldl addNew l' → l'.length ≤ 2 → l'.Nodup → PJ D B o1 U l u m' o f
theorem params_tel {w : World} {v : Value} {T : Ty} {fz rest : Led} (hT : TyIn fz v T) (hz : Tups fz) (hh : height T ≤ 20) : TelL w 66 [v] fz rest 30 (fun vals _ => StrAll vals ((paramsL T).foldl addNew [])) := by
  have kf9 : Mine.hd.heap_1 w.params = Mine.hd.heap_1 w.params ∧ PySem.Challenge.rw_ot0007_01 = PySem.Challenge.rw_ot0007_01 := by k_fill; exact ⟨rfl, rfl⟩
  clear kf9
  refine' telL_def ?a0 ?a1 (fun _ => ?a2) ?a3 ?a4 ?a5 ?a6 ?a7 (hz) ?_
  case a0 => k_is
  case a1 => k_is
  case a2 => exact BindsTo.of_eq rfl
  case a3 => exact locs rfl
  case a4 => exact rfl
  case a5 => exact rfl
  case a6 => exact rfl
  case a7 => decide
  intro c m R hdp hun hb hR
  have ht : m (Str.ofString "told") = some v := hb _
  clear hb
  have hwp : nsIn (Mine.hd.heap_1 w.params) mainGlobals (Str.ofString "parts_of") = some (some (.ref 21)) ∧ keepIn (Mine.hd.heap_1 w.params) (.ref 21) = true := ⟨by k_is, by k_is⟩
  have hu64 : c.un + 64 < cLine := by first | exact ulk (Y := 8) hun rfl | exact uld (Y := 8) hun rfl
  have hd4 : c.dp + 4 < recursionLimit := by first | exact dlk hdp rfl | exact dld hdp rfl | exact dln hdp rfl
  have hu4 : c.un + 8 * 4 < cLine := by first | exact ulk hun rfl | exact uld hun rfl | exact uln hun rfl
  refine JX.set (JE.listN (JA.nil ⟨rfl, fun B hltB => JX.set (JE.listN (JA.one (EV.name ht) fun _ => ⟨rfl, fun D hltD => ?_⟩))⟩))
  have offB : Off rest B := .lt fun p hp => hltB p (List.mem_append.mpr (.inr (List.mem_append.mpr (.inr hp))))
  have offD : Off rest D := .lt fun p hp => hltD p (List.mem_append.mpr (.inr (List.mem_append.mpr (.inr hp))))
  have hBD : @LT.lt Nat _ B D := hltD (B, _) (List.mem_append.mpr (.inl (List.mem_cons_self ..)))
  refine JX.while (γ := List Value × Nat) (x := Str.ofString "left") (twoCs B) (ParInv T) ([], 0) [Str.ofString "found"] rfl rfl hT ⟨[], .nil, by simp, by simpa using hh, by simpa [szL] using size_room hh, Nat.zero_le _, .nil⟩ ?_
  intro vs Ts f k g u hu hkeep S1 A1 I hl
  obtain ⟨l, I0, I1, I2, I3, I4, I5⟩ := I
  have hf : u (Str.ofString "found") = some (.ref B) := hkeep _ (List.mem_singleton.mpr rfl)
  have hg9 : g.1.length ≤ sizeLine := Nat.le_trans (by rw [I0.length]; exact I4) (show 2 ≤ sizeLine by decide)
  rcases List.eq_nil_or_concat Ts with rfl | ⟨Us, U, rfl⟩
  · exact JT.cmp (JE.V (EV.name hu) fun _ => JE.listN (JA.nil ⟨rfl, fun D2 _ => JG.neNil (List.mem_cons_of_mem _ (List.mem_cons_self ..)) (List.mem_cons_self ..) A1 I2 hu64 nn_nil ⟨_, rfl, nofun, fun _ => JX.retV (EV.name hf) fun _ => hR B g.1 g.2 _ _ _ (List.mem_cons_of_mem _ (List.mem_cons_of_mem _ (List.mem_cons_self ..))) offB (by rw [← I1]; exact I0)⟩⟩))
  · rw [List.concat_eq_append] at *
    obtain ⟨ws, v', rfl, A2, A3⟩ := A1.last
    obtain ⟨b, t, more, n, rfl, hm⟩ := A3.head
    obtain ⟨hr1, hr2⟩ := stack_room hl I3
    refine JT.cmp (JE.V (EV.name hu) fun _ => JE.listN (JA.nil ⟨rfl, fun D2 _ => JG.neNil (List.mem_cons_of_mem _ (List.mem_cons_self ..)) (List.mem_cons_self ..) A1 I2 hu64 nn_app ⟨_, rfl, fun _ => ?_, nofun⟩⟩))
    refine JX.sub (own2 := [(D, PySem.W.listOf (ws ++ [Value.ref b]).toArray k), (B, PySem.W.listOf g.1.toArray g.2)]) (fun p hp => List.mem_cons_of_mem _ hp) ?_
    have ne1 : ∀ {o : Obj}, ∀ p ∈ [(B, o)], p.1 ≠ D := fun p hp => by rw [List.mem_singleton.mp hp]; exact Nat.ne_of_lt hBD
    refine JX.set (JE.pop (EV.name hu) (List.mem_cons_self ..) (Upd.head ne1) offD hr1 ?_)
    refine JX.cut (PJ D B (PySem.W.listOf ws.toArray (k + 1)) U l (upd u (Str.ofString "here") (.ref b))) (JS.ite (JT.bool (JB.andCons (JT.eqV (EV.sub rfl hm rfl) ⟨fun hk => ?par, fun hk => ⟨nofun, fun _ => JX.nil ⟨rfl, .mk rfl rfl I0 (by rw [flat_kids U (subst_leaf hk)]) I4 I5⟩⟩⟩)))) ?rest
    case par =>
      obtain @⟨n2, t2, u2, x, hp⟩ := kParam A3 hk
      cases hx : (!decide (x ∈ l)) with
      | true =>
        obtain ⟨q4, q5⟩ := addNew_le l x ⟨I4, I5⟩
        rw [addNew_not hx] at q4 q5
        exact JB.andCons (JT.cmp (JE.V (EV.sub rfl hp rfl) fun _ => JE.V (EV.name hf) fun _ => JG.notIn (List.mem_cons_of_mem _ (List.mem_cons_self ..)) I0 hu64 hx ⟨_, rfl, ⟨fun _ => JB.andNil ⟨fun _ => JX.last (JS.app (EV.name hf) (EV.sub rfl hp rfl) (List.mem_cons_of_mem _ (List.mem_cons_self ..)) (Upd.tail (Nat.ne_of_gt hBD) (Upd.head (List.forall_mem_nil _))) offB hg9 ⟨rfl, .mk rfl rfl I0.snoc (by simp only [paramsL, kids, List.foldl_cons, List.foldl_nil, List.flatMap_nil]; exact addNew_not hx) q4 q5⟩), nofun⟩, nofun⟩⟩))
      | false =>
        exact JB.andCons (JT.cmp (JE.V (EV.sub rfl hp rfl) fun _ => JE.V (EV.name hf) fun _ => JG.notIn (List.mem_cons_of_mem _ (List.mem_cons_self ..)) I0 hu64 hx ⟨_, rfl, ⟨nofun, fun _ => ⟨nofun, fun _ => JX.nil ⟨rfl, .mk rfl rfl I0 (by simp only [paramsL, kids, List.foldl_cons, List.foldl_nil, List.flatMap_nil]; exact addNew_mem hx) I4 I5⟩⟩⟩⟩))
    case rest =>
      rintro _ _ f2 S2 @⟨vals', j', l', rfl, rfl, J0, J1, J4, J5⟩
      refine JX.last (JS.ext (EV.name hu) (List.mem_cons_self ..) offD (JE.rev (JE.call hwp.1 hwp.2 (JA.one (EV.name rfl) fun _ => (JH.tel (fun Z => parts_of_tel (A3.up S2) Z) hd4 hu4 fun r4 f4 S4 p4 => ?_).G))))
      obtain ⟨e9, m9, a9⟩ := p4
      exact ⟨_, _, _, e9, m9, kids_size a9, fun D4 => ⟨rfl, _, _, _, _, rfl, List.mem_cons_self .., Upd.head ne1, ext_rev hr2 a9, .inl ⟨rfl, _, _, _, (vals', j'), hu, fun y hy => by rw [List.mem_singleton.mp hy]; exact hkeep _ (List.mem_singleton.mpr rfl), rfl, TyAll.append (((A2.up S2).up S4).up (.cons .refl)) (TyAll.reverse (a9.up (.cons .refl))), par_step J0 I1 J1 I2 I3 J4 J5, par_lt⟩⟩⟩

end
section
theorem flushLErase : True ∧ True := by (w_top off); (first | (walk1; done) | exact ⟨True.intro, True.intro⟩)
/-! erased -/
theorem TelS.tel {w : World} {f : Addr} {vs : List Value} {fz rest : Led} {d : Nat} {P : Value → Led → Unit → Prop} {P' : Value → Led → Prop} (h : TelS w (.ref f) vs fz (fun _ : Unit => rest) () d P) (hp : ∀ r fz' c, P r fz' c → P' r fz') : Tel w f vs fz rest d P' := by
  intro loose mean mg mb dp un gd cn cs a ccd cl outer A₀ base h₀ L m s Q E B F X N TP hk hd hu k
  exact h loose mean mg mb dp un gd cn cs a ccd cl outer A₀ base h₀ L m s Q E B F X N TP hk hd hu fun r fz' c' h' tk' F' N' S' T' p' => k r fz' h' tk' F' N' S' T' (hp _ _ _ p')
theorem JE.noneE {w : World} {cs : Scope} {cl : List (Str × Addr)} {c : Cx w cs cl} {m : Str → Option Value} {own fz rest : Led} {pos : Pos} {k : Nat} {P : Value → Led → Led → Prop} (h : P .none own fz) : JE c m own fz rest (.Constant .none k pos) P := fun s _ _ _ a q => wpAny_Constant_none (q .none own fz s.heap _ a Sub.refl h)
theorem EV.glob {w : World} {cs : Scope} {cl : List (Str × Addr)} {c : Cx w cs cl} {m : Str → Option Value} {own fz rest : Led} {pos : Pos} {g : Str} {f : Addr} (hg : nsIn (Mine.hd.heap_1 w.params) mainGlobals g = some (some (.ref f))) (hk : cs.kind = .function := by rfl) (hx : (∀ cn L a ccd, (envX cn cs L a ccd cl).kindOf g = some .globalImplicit) := by intros; rfl) (hb : (g == ("__debug__" : Str)) = false := by decide) : EV c m own fz rest (.Name g pos) (fun _ => .ref f) := fun s _ _ _ a q =>
  nameX_K a.F c.X (topRead_of c.TP) hg (q 0 s.toks) hk (hx ..) hb
noncomputable def eraF : Reg → Unit → Reg × Unit := fun _ _ => (.none, ())
noncomputable def gone (T : Ty) : Ty := (wrS eraF T ()).1
theorem era_does {w : World} {rest cs fz : Led} {rv : Value} {r : Reg} (_hr : RegV rv r) (hz : Tups fz) : TelS w (.ref 45) [rv] fz (fun _ : Unit => cs ++ rest) () 4 (fun v _ c' => RegV v (eraF r ()).1 ∧ c' = (eraF r ()).2) := by
  have kf9 : Mine.hd.heap_1 w.params = Mine.hd.heap_1 w.params ∧ PySem.Challenge.rw_ot0007_01 = PySem.Challenge.rw_ot0007_01 := by k_fill; exact ⟨rfl, rfl⟩
  clear kf9
  refine' telS_def (own := []) (tl := cs ++ rest) ?a0 ?a1 (fun _ => ?a2) ?a3 ?a4 ?a5 ?a6 ?a7 hz ?ain ?_
  case a0 => k_is
  case a1 => k_is
  case a2 => exact BindsTo.of_eq rfl
  case a3 => exact locs rfl
  case a4 => exact rfl
  case a5 => exact rfl
  case a6 => exact rfl
  case a7 => decide
  case ain => exact fun p hp => hp
  intro c m R _ _ _ hR
  exact JX.ret (JE.noneE (hR _ _ _ _ () ⟨.none, rfl⟩ fun p hp => List.mem_append.mpr (.inr hp)))
theorem era_ch {w : World} {rest : Led} : ChOk w 45 (fun _ : Unit => rest) (fun c => c) eraF (fun _ _ => True) 4 where
  fn := .top (fo := _) (fd := _) (by with_unfolding_all rfl) rfl
  adr := fun _ _ => rfl
  does := fun cs fz r rv c _ hr hz _ => era_does hr hz
theorem regsOk_all {σ : Type} {f : Reg → σ → Reg × σ} : ∀ T c, regsOk f (fun _ _ => True) T c := by
  intro T
  induction T <;> intro c <;> simp_all [regsOk]
theorem with_none_tel {w : World} {T : Ty} {v : Value} {fz rest : Led} (hT : TyIn fz v T) (hz : Tups fz) : Tel w 38 [v, .ref 45] fz rest (12 * height T + 24) (fun r fz' => TyIn fz' r (gone T)) :=
  TelS.tel (reg_all T era_ch hT hz (regsOk_all T _)) fun _ _ _ h => h.1
theorem erased_tel {w : World} {T : Ty} {v : Value} {fz rest : Led} (hT : TyIn fz v T) (hz : Tups fz) : Tel w 52 [v] fz rest (12 * height T + 28) (fun r fz' => TyIn fz' r (gone T)) := by
  have kf9 : Mine.hd.heap_1 w.params = Mine.hd.heap_1 w.params ∧ PySem.Challenge.rw_ot0007_01 = PySem.Challenge.rw_ot0007_01 := by k_fill; exact ⟨rfl, rfl⟩
  clear kf9
  refine' tel_def ?a0 ?a1 (fun _ => ?a2) ?a3 ?a4 ?a5 ?a6 ?a7 (hz) ?_
  case a0 => k_is
  case a1 => k_is
  case a2 => exact BindsTo.of_eq rfl
  case a3 => exact locs rfl
  case a4 => exact rfl
  case a5 => exact rfl
  case a6 => exact rfl
  case a7 => decide
  intro c m R hdp hun hb hR
  have ht : m (Str.ofString "told") = some v := hb _
  clear hb
  refine JX.ret (JE.call (f := 38) (by k_is) (by k_is) (JA.two (EV.name ht) (EV.glob (f := 45) (by k_is)) fun _ _ => ?_))
  exact JC.tel (d := 12 * height T + 24) (with_none_tel hT hz) (by omega) (by omega) fun r f' _ _ p => hR _ _ _ _ p

end
section
theorem flushLNest : True ∧ True := by (w_top off); (first | (walk1; done) | exact ⟨True.intro, True.intro⟩)
/-! a def (a lambda) that a called def makes: the code table of its maker, once empty, once filled -/
inductive Made (P : Addr) (qual : Str) (pos : Pos) : Led → Prop
  | new : Made P qual pos [(P, tabObj #[])]
  | old {c' oc vs t} : oc.data = .fields vs → vs[1]? = some (.str qual t) → Made P qual pos [(P, tabObj #[rawInt pos.line, rawInt pos.col, .ref c']), (c', oc)]
theorem Part.inv {l fz cs rest : Led} (h : Part l fz cs rest) : ∀ p, p ∈ l → (p ∈ fz ∨ p ∈ cs ∨ p ∈ rest) := by
  induction h with
  | tail => intro p hp; rcases List.mem_append.mp hp with hp | hp
            · exact .inl hp
            · exact .inr (.inr hp)
  | tup _ ih => intro p hp; rcases List.mem_cons.mp hp with rfl | hp
                · exact .inl (.head _)
                · rcases ih p hp with h | h | h
                  · exact .inl (.tail _ h)
                  · exact .inr (.inl h)
                  · exact .inr (.inr h)
  | oth _ ih => intro p hp; rcases List.mem_cons.mp hp with rfl | hp
                · exact .inr (.inl (.head _))
                · rcases ih p hp with h | h | h
                  · exact .inl h
                  · exact .inr (.inl (.tail _ h))
                  · exact .inr (.inr h)
theorem tab_no_tup {ps : Array Value} : ∀ vs j, tabObj ps ≠ tupO vs j := fun _ _ q => nomatch congrArg Obj.cls q
section
variable {M : Model} {A : Around} {E : Value → Shared → Prop} {s : Shared} {h₀ : Heap} {L a c P : Addr} {m mg mb : Str → Option Value} {cn : Str} {cs : Scope} {ccd : Value} {cl : List (Str × Addr)} {led fz own rest t : Led}
  {p : Program} {loose : List Str} {mean : ExcName → Option Value} {name qual : Str} {params : Arguments} {body : List Stmt} {scope : Scope} {pos : Pos} {firstLine : Nat} {clos : List (Str × Addr)}
set_option tactic.hygienic true in
theorem made_nest {Q : Value → Shared → Prop} (F : Fr h₀ L s.heap m) (N : News h₀ L s.heap led) (Pt : Part led fz own (t ++ rest)) (hz : Tups fz) (Md : Made P qual pos t) (O1 : Off own P) (O2 : Off rest P) (T : Top p loose mean mg mb h₀) (C : CodeHd h₀ c P) (hcd : ccd = .ref c)
    (hcl : closureFor scope (envX cn cs L a ccd cl) = pure clos)
    (h : ∀ f fo c' oc vs tq ctv doc t' h' tk, fo = fnMade name qual params body scope clos doc ((mg "__name__").getD .none) c' ctv → Fr h₀ L h' m → News h₀ L h' ((f, fo) :: (own ++ (fz ++ (t' ++ rest)))) →
      Made P qual pos t' → (c', oc) ∈ t' → oc.data = .fields vs → vs[1]? = some (.str qual tq) → Under led f → (∀ x o, (x, o) ∈ own → Off t x → Off t' x) → Q (.ref f) { s with heap := h', toks := tk }) :
    wpAny M A (makeFunction name qual params (.stmts body) scope (envX cn cs L a ccd cl) [] [] [] pos firstLine) Q E s := by
  have N0 : News h₀ L s.heap (t ++ (own ++ (fz ++ rest))) := fun q hq => N q (Pt.mem q (by
    simp only [List.mem_append] at hq ⊢
    rcases hq with hq | hq | hq | hq
    · exact .inr (.inr (.inl hq))
    · exact .inr (.inl hq)
    · exact .inl hq
    · exact .inr (.inr (.inr hq))))
  have inv : ∀ q ∈ led, q ∈ t ++ (own ++ (fz ++ rest)) := fun q hq => by
    have := Pt.inv q hq
    simp only [List.mem_append] at this ⊢
    rcases this with h | h | h | h <;> simp [h]
  have ofz : ∀ {ps}, (P, tabObj ps) ∈ t → ∀ q ∈ own ++ (fz ++ rest), q.1 ≠ P := fun hm q hq => by
    rcases List.mem_append.mp hq with hq | hq
    · exact O1.off q hq
    · rcases List.mem_append.mp hq with hq | hq
      · exact tups_off hz N0 (fun p hp => by simp [hp]) (N0 _ (List.mem_append_left _ hm)).1 tab_no_tup q hq
      · exact O2.off q hq
  cases Md with
  | new =>
    refine nest_K F N0 T C hcd (.head (ofz (.head _))) trivial rfl hcl fun f c' oc vs tq ctv doc h' tk F' N' hd hv l1 l2 => ?_
    refine h f _ c' oc vs tq ctv doc [(P, tabObj #[rawInt pos.line, rawInt pos.col, .ref c']), (c', oc)] h' tk rfl F' (fun q hq => N' q ?_) (.old hd hv) (.tail _ (.head _)) hd hv ⟨fun q hq => ?_⟩ ?_
    · simp only [List.mem_cons, List.mem_append, List.not_mem_nil, or_false] at hq ⊢
      rcases hq with hq | hq | hq | (hq | hq) | hq <;> simp_all
    · exact Nat.lt_trans (l1 q (inv q hq)) l2
    · refine fun x o hx O => ⟨fun p hp => ?_⟩
      simp only [List.mem_cons, List.not_mem_nil, or_false] at hp
      rcases hp with rfl | rfl
      · exact O.off (P, tabObj #[]) (.head _)
      · exact Nat.ne_of_gt (l1 (x, o) (List.mem_append_right _ (List.mem_append_left _ hx)))
  | old hd hv =>
    rename_i c' oc vs tq
    refine nestHit_K (c' := c') F N0 T C hcd (.head _) (by simp [TriplesOk, rawInt]) (by simp [codeAmong, rawInt]) hcl fun f ctv doc h' tk F' N' l1 => ?_
    refine h f _ c' oc vs tq ctv doc _ h' tk rfl F' (fun q hq => N' q ?_) (.old hd hv) (.tail _ (.head _)) hd hv ⟨fun q hq => ?_⟩ ?_
    · simp only [List.mem_cons, List.mem_append, List.not_mem_nil, or_false] at hq ⊢
      rcases hq with hq | hq | hq | (hq | hq) | hq <;> simp_all
    · exact l1 q (inv q hq)
    · exact fun _ _ _ O => O
end
theorem updF_part {h : Heap} {h₀ : Heap} {L D : Addr} {led fz cs rest : Led} {o : Obj} {g : Obj → Led} (Pt : Part led fz cs rest) (N : News h₀ L h led) (hz : Tups fz) (ho : ∀ vs k, o ≠ tupO vs k) (U : UpdF D o cs g) (hr : Off rest D) : UpdF D o (cs ++ (fz ++ rest)) (fun o' => g o' ++ (fz ++ rest)) := by
  have hD : h.get? D = some o := by
    obtain ⟨pre, post, e, _⟩ := U.split
    exact (N (D, o) (Pt.mem _ (.inr (.inl (by rw [e]; simp))))).1
  have hf := tups_off hz N (fun p hp => Pt.mem p (.inl hp)) hD ho
  have hl : ∀ p ∈ fz ++ rest, p.1 ≠ D := fun p hp => by
    rcases List.mem_append.mp hp with hp | hp
    · exact hf p hp
    · exact hr.off p hp
  clear N hz Pt
  induction U with
  | head h => exact .head fun p hp => (List.mem_append.mp hp).elim (h p) (hl p)
  | tail h _ ih => exact .tail h ih
section
variable {M : Model} {A : Around} {E : Value → Shared → Prop} {s : Shared} {h₀ : Heap} {L a c : Addr} {m : Str → Option Value} {cn : Str} {cs : Scope} {ccd : Value} {cl : List (Str × Addr)} {x : Str} {v : Value} {led fz own rest : Led} {g : Obj → Led} {o : Obj} {v₀ : Option Value}
theorem store_P {Q : Unit → Shared → Prop} (F : Fr h₀ L s.heap m) (N : News h₀ L s.heap led) (Pt : Part led fz own rest) (hz : Tups fz) (hc : cl.lookup x = some c) (U : UpdF c o own g) (hd : o.data = .cell v₀) (hr : Off rest c)
    (h : ∀ h' o', Fr h₀ L h' m → News h₀ L h' (g o' ++ (fz ++ rest)) → o'.data = .cell (some v) → Q () { s with heap := h' })
    (hk : cs.kind = .function := by rfl) (hx : (envX cn cs L a ccd cl).kindOf x = some .cell := by rfl) : wpAny M A (storeName (envX cn cs L a ccd cl) x v) Q E s :=
  storeX_C F (news_back (Pt.news N)) hc (updF_part Pt N hz (fun vs k q => by rw [q] at hd; cases hd) U hr) hd h hk hx
end

theorem Made.mem {P : Addr} {qual : Str} {pos : Pos} {t : Led} (h : Made P qual pos t) : ∃ ps, (P, tabObj ps) ∈ t := by
  cases h <;> exact ⟨_, .head _⟩
theorem Off.nil {P : Addr} : Off [] P := ⟨fun _ h => nomatch h⟩
theorem Off.app {x : Addr} {a b : Led} (h : Off a x) (k : Off b x) : Off (a ++ b) x := ⟨fun p hp => by
  rcases List.mem_append.mp hp with hp | hp
  · exact h.off p hp
  · exact k.off p hp⟩
theorem TelS.use0 {σ : Type} {R : σ → Led} {c : σ} {fv : Value} {vs : List Value} {led fz : Led} {d : Nat} {P : Value → Led → σ → Prop}
    {w : World} {loose : List Str} {mean : ExcName → Option Value} {mg mb : Str → Option Value} {dp un : Nat} {gd : Option (List Code)} {cn : Str} {cs : Scope} {a : Addr} {ccd : Value} {cl : List (Str × Addr)} {outer : List Env} {A₀ : Around} {base h₀ : Heap} {L : Addr} {m : Str → Option Value} {s : Shared}
    {Q E : Value → Shared → Prop} (C : TelS w fv vs fz R c d P) (hs : ∀ p ∈ fz ++ R c, p ∈ led)
    (B : Below A₀ base outer h₀) (F : Fr h₀ L s.heap m) (X : (hd.heap_1 w.params).In h₀) (N : News h₀ L s.heap led) (T : Top topProg loose mean mg mb h₀) (hk : cs.kind = .function) (hd : dp + d < recursionLimit) (hu : un + 8 * d < cLine)
    (k : ∀ r fz' c' h' tk', Fr h₀ L h' m → News h₀ L h' (fz' ++ R c') → Sub fz fz' → Tups fz' → P r fz' c' → Q r { s with heap := h', toks := tk' }) :
    wpAny (model PySem.Challenge.rw_ot0007_01.row.prog w) (Ard dp un gd cn cs L a ccd cl outer) (call fv vs) Q E s :=
  C loose mean mg mb dp un gd cn cs a ccd cl outer A₀ base h₀ L m s Q E B F X (fun p hp => N p (hs p hp)) T hk hd hu k

/-- a call that gives back a list of its own and may fill its maker's code table -/
noncomputable def TelM (w : World) (f : Addr) (vs : List Value) (fz rest : Led) (Md : Led → Prop) (t : Led) (d : Nat) (Pp : List Value → Prop) : Prop :=
  ∀ (loose : List Str) (mean : ExcName → Option Value) (mg mb : Str → Option Value) (dp un : Nat) (gd : Option (List Code)) (cn : Str) (cs : Scope) (a : Addr) (ccd : Value) (cl : List (Str × Addr)) (outer : List Env) (A₀ : Around) (base h₀ : Heap) (L : Addr) (m : Str → Option Value) (s : Shared)
    (Q E : Value → Shared → Prop),
    Below A₀ base outer h₀ → Fr h₀ L s.heap m → (hd.heap_1 w.params).In h₀ → News h₀ L s.heap (fz ++ (t ++ rest)) → Top topProg loose mean mg mb h₀ → cs.kind = .function → dp + d < recursionLimit → un + 8 * d < cLine →
    (∀ D vals k t' fz' h' tk', Fr h₀ L h' m → News h₀ L h' ((D, PySem.W.listOf vals.toArray k) :: (fz' ++ (t' ++ rest))) → Md t' → Off (t ++ rest) D → Sub fz fz' → Tups fz' → Pp vals → Q (.ref D) { s with heap := h', toks := tk' }) →
    wpAny (model PySem.Challenge.rw_ot0007_01.row.prog w) (Ard dp un gd cn cs L a ccd cl outer) (call (.ref f) vs) Q E s
end
section
theorem flushLTxt : True ∧ True := by (w_top off); (first | (walk1; done) | exact ⟨True.intro, True.intro⟩)
/-! region_text, type_text -/
noncomputable def regT : Reg → Str
  | .none => S "" | .a => S "'a" | .b => S "'b" | .st => S "'static" | .n3 => S "'3" | .c => S "'c" | .n7 => S "'7"
inductive StrIs (x : Str) : Value → Prop
  | mk (t) : StrIs x (.str x t)
section
variable {w : World} {cs : Scope} {cl : List (Str × Addr)} {c : Cx w cs cl} {m : Str → Option Value} {own fz rest : Led} {pos p1 p2 p3 p4 p5 p6 p7 p8 p9 p10 : Pos} {k k2 : Nat} {P : Value → Led → Led → Prop} {B : Bool → Led → Led → Prop} {x : Str} {v : Value} {r : Reg}
theorem JT.isNone (hv : m x = some v) (hr : RegV v r) (h : B (decide (r = .none)) own fz) (hk : cs.kind = .function := by rfl) (hx : (∀ cn L a ccd, (envX cn cs L a ccd cl).kindOf x = some .local) := by intros; rfl) (hd : (x == ("__debug__" : Str)) = false := by decide) : JT c m own fz rest (.Compare (.Name x p1) [.Is] [.Constant .none k p2] p3) B := fun s Q E hE a q => by
  refine wpAny_isTrue_Compare1 (nameX_L a.F hv ?_ hk (hx ..) hd)
  cases hr
  case none => exact wpAny_Constant_none (is_none_none (wpAny_truthy_bool (q _ own fz s.heap _ a Sub.refl h)))
  all_goals first
    | exact wpAny_Constant_none (is_str_none (wpAny_truthy_bool (q _ own fz s.heap _ a Sub.refl h)))
    | exact wpAny_Constant_none (is_int_none (wpAny_truthy_bool (q _ own fz s.heap _ a Sub.refl h)))
/-- x if isinstance(x, str) else "'" + str(x), at a region -/
theorem JE.regText (hv : m x = some v) (hr : RegV v r) (hn : decide (r = .none) = false) (h : ∀ y, StrIs (regT r) y → P y own fz)
    (hk : cs.kind = .function := by rfl) (hx : (∀ cn L a ccd, (envX cn cs L a ccd cl).kindOf x = some .local) := by intros; rfl) (hd : (x == ("__debug__" : Str)) = false := by decide) (hx2 : (∀ cn L a ccd, (envX cn cs L a ccd cl).kindOf (Str.ofString "isinstance") = some .globalImplicit) := by intros; rfl) (hx3 : (∀ cn L a ccd, (envX cn cs L a ccd cl).kindOf (Str.ofString "str") = some .globalImplicit) := by intros; rfl) :
    JE c m own fz rest (.IfExp (.Call (.Name (Str.ofString "isinstance") p1) [.Name x p2, .Name (Str.ofString "str") p3] [] p4) (.Name x p5) (.BinOp (.Constant (.str (Str.ofString "'")) k p6) .Add (.Call (.Name (Str.ofString "str") p7) [.Name x p8] [] p9) p10) pos) P := by
  have kf9 : Mine.hd.heap_1 w.params = Mine.hd.heap_1 w.params ∧ PySem.Challenge.rw_ot0007_01 = PySem.Challenge.rw_ot0007_01 := by k_fill; exact ⟨rfl, rfl⟩
  clear kf9
  intro s Q E hE a q
  have F := a.F
  have X := c.X
  have TP := c.TP
  refine wpAny_IfExp (isTrue_plain (Call_ (nameX_B F X (topRead_of TP) (by k_is) (v := .builtin "isinstance") (by boot_by_name) (by decide) ?_ hk (hx2 ..))))
  refine PyProof.Rows.callWith_builtin1 ?_ rfl rfl
  refine args_cons (nameX_L F hv (args_cons (nameX_B F X (topRead_of TP) (by k_is) (v := .type "str") (by boot_by_name) (by decide) (args_nil ?_) hk (hx3 ..))) hk (hx ..) hd)
  dsimp only [Cx.A, Cx.M]
  cases hr
  case none => cases hn
  case n3 =>
    walk1
    refine wpAny_truthy_bool ?_
    refine wpAny_BinOp (Calls.Constant_str (Call_ (nameX_B F X (topRead_of TP) (by k_is) (v := .type "str") (by boot_by_name) (by decide) ?_ hk (hx3 ..))))
    refine PyProof.Rows.callWith_type1 ?_ rfl rfl
    refine args_cons (nameX_L F hv (args_nil ?_) hk (hx ..) hd) rfl
    walk1
    exact PyProof.Rows.add_str (fun t' tk' => q _ own fz s.heap tk' a .refl (h _ (by rw [show Str.ofString "'" ++ Str.ofString (toString (3 : Int)) = regT .n3 by decide +kernel]; exact .mk _))) (by decide +kernel)
  case n7 =>
    walk1
    refine wpAny_truthy_bool ?_
    refine wpAny_BinOp (Calls.Constant_str (Call_ (nameX_B F X (topRead_of TP) (by k_is) (v := .type "str") (by boot_by_name) (by decide) ?_ hk (hx3 ..))))
    refine PyProof.Rows.callWith_type1 ?_ rfl rfl
    refine args_cons (nameX_L F hv (args_nil ?_) hk (hx ..) hd) rfl
    walk1
    exact PyProof.Rows.add_str (fun t' tk' => q _ own fz s.heap tk' a .refl (h _ (by rw [show Str.ofString "'" ++ Str.ofString (toString (7 : Int)) = regT .n7 by decide +kernel]; exact .mk _))) (by decide +kernel)
  all_goals (
    walk1
    exact wpAny_truthy_bool (nameX_L F hv (q _ own fz s.heap _ a .refl (h _ (.mk _))) hk (hx ..) hd))
end
theorem region_text_tel {w : World} {rv : Value} {r : Reg} {fz rest : Led} (hr : RegV rv r) (hz : Tups fz) : Tel w 80 [rv] fz rest 4 (fun v _ => StrIs (regT r) v) := by
  have kf9 : Mine.hd.heap_1 w.params = Mine.hd.heap_1 w.params ∧ PySem.Challenge.rw_ot0007_01 = PySem.Challenge.rw_ot0007_01 := by k_fill; exact ⟨rfl, rfl⟩
  clear kf9
  refine' tel_def ?a0 ?a1 (fun _ => ?a2) ?a3 ?a4 ?a5 ?a6 ?a7 (hz) ?_
  case a0 => k_is
  case a1 => k_is
  case a2 => exact BindsTo.of_eq rfl
  case a3 => exact locs rfl
  case a4 => exact rfl
  case a5 => exact rfl
  case a6 => exact rfl
  case a7 => decide
  intro c m R _ _ hb hR
  have ht : m (Str.ofString "region") = some rv := hb _
  clear hb
  refine JX.ifr (JT.isNone ht hr ⟨fun h => ?_, fun h => ?_⟩)
  · obtain rfl := of_decide_eq_true h
    exact JE.str fun t => hR _ _ _ _ (.mk t)
  · exact JX.ret (JE.regText ht hr h fun y hy => hR _ _ _ _ hy)

end
section
theorem flushLText : True ∧ True := by (w_top off); (first | (walk1; done) | exact ⟨True.intro, True.intro⟩)
/-! type_text -/
noncomputable def textT : Ty → Str
  | .param x => pname x
  | .int x => iname x
  | .bool => S "bool"
  | .never => S "!"
  | .var | .intvar => S "_"
  | .ref r m t => ((S "&" ++ (if regT r = S "" then S "" else regT r ++ S " ")) ++ (if m then S "mut " else S "")) ++ textT t
  | .box t => (S "Box<" ++ textT t) ++ S ">"
  | .array t => (((S "[" ++ textT t) ++ S "; ") ++ S "2") ++ S "]"
  | .unit => S "()"
  | .pair t u => (S "(" ++ Txt.join (S ", ") [textT t, textT u]) ++ S ")"
  | .adt r q t u => S "m::A" ++ ((S "<" ++ Txt.join (S ", ") ((([r, q].filter fun x => decide (x ≠ .none)).map regT) ++ [textT t, textT u])) ++ S ">")
inductive TxtAll : List Value → List Str → Prop
  | nil : TxtAll [] []
  | cons {vs xs x t} : TxtAll vs xs → TxtAll (.str x t :: vs) (x :: xs)
theorem TxtAll.snoc {vs : List Value} {xs : List Str} {v : Value} {x : Str} (h : TxtAll vs xs) (k : StrIs x v) : TxtAll (vs ++ [v]) (xs ++ [x]) := by
  cases k
  induction h with
  | nil => exact .cons .nil
  | cons _ ih => exact .cons ih
theorem TxtAll.app {vs ws : List Value} {xs ys : List Str} (h : TxtAll vs xs) (k : TxtAll ws ys) : TxtAll (vs ++ ws) (xs ++ ys) := by
  induction h with
  | nil => exact k
  | cons _ ih => exact .cons ih
/-- kept from the walk's own arithmetic -/
structure Low (T : Ty) (n : Nat) : Prop where
  le : height T ≤ n
noncomputable def TextSpec (w : World) (T : Ty) : Prop := ∀ {v : Value} {fz rest : Led}, Low T 10 → TyIn fz v T → Tups fz → Tel w 85 [v] fz rest (12 * height T + 20) (fun r _ => StrIs (textT T) r)
noncomputable def isAtom : Ty → Bool
  | .param _ | .int _ | .bool | .never | .var | .intvar => true
  | _ => false
theorem Tel.more {w : World} {f : Addr} {vs : List Value} {fz rest : Led} {d d' : Nat} {P : Value → Led → Prop} (h : Tel w f vs fz rest d P) (hd : d ≤ d') : Tel w f vs fz rest d' P := by
  intro loose mean mg mb dp un gd cn cs a ccd cl outer A₀ base h₀ L m s Q E B F X N TP hk h1 h2
  exact h loose mean mg mb dp un gd cn cs a ccd cl outer A₀ base h₀ L m s Q E B F X N TP hk (by omega) (by omega)

end
section
theorem flushLStr : True ∧ True := by (w_top off); (first | (walk1; done) | exact ⟨True.intro, True.intro⟩)
/-! texts: their sizes, lists of texts -/
theorem TxtAll.nil' {vs : List Value} (h : TxtAll vs []) : vs = [] := by cases h; rfl
theorem TxtAll.one {vs : List Value} {x : Str} (h : TxtAll vs [x]) : ∃ t, vs = [.str x t] := by
  cases h with
  | cons a => cases a; exact ⟨_, rfl⟩
theorem TxtAll.two {vs : List Value} {x y : Str} (h : TxtAll vs [x, y]) : ∃ t u, vs = [.str x t, .str y u] := by
  cases h with
  | cons a => obtain ⟨u, rfl⟩ := a.one; exact ⟨_, _, rfl⟩
theorem TxtAll.strs {vs : List Value} {xs : List Str} (h : TxtAll vs xs) : StrsAre vs xs := by
  induction h with
  | nil => exact .nil
  | cons _ ih => exact .cons _ _ ih
theorem TxtAll.length {vs : List Value} {xs : List Str} (h : TxtAll vs xs) : vs.length = xs.length := by
  induction h with
  | nil => rfl
  | cons _ ih => simp [ih]
theorem TxtAll.reads {h : Heap} {vs : List Value} {xs : List Str} (x : TxtAll vs xs) : ReadsAll h vs (xs.map .str) [] := by
  induction x with
  | nil => exact .nil
  | cons _ ih => exact .cons (.str _ _) ih
theorem strOk_app (x y : Str) : PyData.strOk (x ++ y) = (PyData.strOk x && PyData.strOk y) := by
  unfold PyData.strOk; rw [Str.cps_append, Array.all_append]
theorem regT_le (r : Reg) : (regT r).length ≤ 7 := by cases r <;> decide +kernel
theorem regT_ok (r : Reg) : PyData.strOk (regT r) = true := by cases r <;> decide +kernel
noncomputable abbrev regsT (r q : Reg) : List Str := ([r, q].filter fun x => decide (x ≠ .none)).map regT
theorem regsT_sum (r q : Reg) : ((regsT r q).map (·.length)).sum ≤ 14 ∧ (regsT r q).length ≤ 2 := by cases r <;> cases q <;> decide +kernel
theorem regsT_ok (r q : Reg) : (regsT r q).all PyData.strOk = true := by cases r <;> cases q <;> decide +kernel
theorem txt_join (sep : Str) (xs : List Str) : Txt.join sep xs = Str.join sep xs := StrLaws.glued_eq_join sep xs
theorem join_le (sep : Str) (xs : List Str) : (Txt.join sep xs).length ≤ (xs.map (·.length)).sum + sep.length * xs.length := by
  rw [txt_join, Nat.mul_comm]; exact StrLaws.join_length_le sep xs
theorem join_ok' (sep : Str) (hs : PyData.strOk sep = true) : ∀ xs : List Str, xs.all PyData.strOk = true → PyData.strOk (Str.join sep xs) = true
  | [], _ => by show PyData.strOk Str.empty = true; decide +kernel
  | [x], h => by simpa [Str.join] using h
  | x :: y :: r, h => by
    show PyData.strOk (x ++ sep ++ Str.join sep (y :: r)) = true
    rw [List.all_cons, Bool.and_eq_true] at h
    rw [strOk_app, strOk_app, h.1, hs]
    exact join_ok' sep hs (y :: r) h.2
theorem join_ok (sep : Str) (hs : PyData.strOk sep = true) (xs : List Str) (h : xs.all PyData.strOk = true) : PyData.strOk (Txt.join sep xs) = true := by
  rw [txt_join]; exact join_ok' sep hs xs h
theorem ls1 : (Str.ofString "Box<").length = 4 := by decide +kernel
theorem ls2 : (Str.ofString ">").length = 1 := by decide +kernel
theorem ls3 : (Str.ofString "[").length = 1 := by decide +kernel
theorem ls4 : (Str.ofString "; ").length = 2 := by decide +kernel
theorem ls5 : (Str.ofString "2").length = 1 := by decide +kernel
theorem ls6 : (Str.ofString "]").length = 1 := by decide +kernel
theorem ls7 : (Str.ofString "(").length = 1 := by decide +kernel
theorem ls8 : (Str.ofString ")").length = 1 := by decide +kernel
theorem ls9 : (Str.ofString ", ").length = 2 := by decide +kernel
theorem ls10 : (Str.ofString "m::A").length = 4 := by decide +kernel
theorem ls11 : (Str.ofString "<").length = 1 := by decide +kernel
theorem ls12 : (Str.ofString "&").length = 1 := by decide +kernel
theorem ls13 : (Str.ofString " ").length = 1 := by decide +kernel
theorem ls14 : (Str.ofString "mut ").length = 4 := by decide +kernel
theorem ls15 : (Str.ofString "").length = 0 := by decide +kernel
theorem pw32 (n : Nat) : 32 * 2 ^ (n + 1) = 32 * 2 ^ n + 32 * 2 ^ n := by rw [Nat.pow_succ, ← Nat.mul_assoc, Nat.mul_two]
theorem pw_mono {h k : Nat} (w : h ≤ k) : 32 * 2 ^ (h + 1) ≤ 32 * 2 ^ (k + 1) := Nat.mul_le_mul_left _ (Nat.pow_le_pow_right Nat.two_pos (Nat.succ_le_succ w))
theorem tl1 {a n h : Nat} (ih : a + 32 ≤ 32 * 2 ^ (h + 1)) (hx : n ≤ a + 32) : n + 32 ≤ 32 * 2 ^ (h + 1 + 1) :=
  pw32 (h + 1) ▸ Nat.add_le_add (Nat.le_trans hx ih) (Nat.le_trans (Nat.le_add_left ..) ih)
theorem tl2 {a b n h g : Nat} (ih : a + 32 ≤ 32 * 2 ^ (h + 1)) (ig : b + 32 ≤ 32 * 2 ^ (g + 1)) (hx : n ≤ a + 32 + b) : n + 32 ≤ 32 * 2 ^ (max h g + 1 + 1) :=
  pw32 (max h g + 1) ▸ Nat.le_trans (Nat.le_trans (Nat.add_le_add_right hx 32) (Nat.le_of_eq (Nat.add_assoc ..))) (Nat.add_le_add (Nat.le_trans ih (pw_mono (Nat.le_max_left ..))) (Nat.le_trans ig (pw_mono (Nat.le_max_right ..))))
theorem text_len (T : Ty) : (textT T).length + 32 ≤ 32 * 2 ^ (height T + 1) := by
  induction T with
  | param x => cases x <;> decide +kernel
  | int x => cases x <;> decide +kernel
  | ref r m t ih =>
    refine tl1 ih ?_
    have := regT_le r
    simp only [textT, Str.length_append, S]
    have h1 : (if regT r = Str.ofString "" then Str.ofString "" else regT r ++ Str.ofString " ").length ≤ 8 := by
      split
      · exact Nat.zero_le _
      · rw [Str.length_append, ls13]; exact Nat.succ_le_succ this
    have h2 : (if m = true then Str.ofString "mut " else Str.ofString "").length ≤ 4 := by split <;> decide
    simp only [ls12]
    omega
  | box t ih =>
    refine tl1 ih ?_
    simp only [textT, Str.length_append, S, ls1, ls2]; omega
  | array t ih =>
    refine tl1 ih ?_
    simp only [textT, Str.length_append, S, ls3, ls4, ls5, ls6]; omega
  | pair t u i1 i2 =>
    refine tl2 i1 i2 ?_
    have j := join_le (S ", ") [textT t, textT u]
    simp only [List.map_cons, List.map_nil, List.sum_cons, List.sum_nil, List.length_cons, List.length_nil, S, ls9] at j
    simp only [textT, Str.length_append, S, ls7, ls8]; omega
  | adt r q t u i1 i2 =>
    refine tl2 i1 i2 ?_
    have j := join_le (S ", ") (regsT r q ++ [textT t, textT u])
    have k := regsT_sum r q
    simp only [List.map_append, List.sum_append, List.length_append, List.map_cons, List.map_nil, List.sum_cons, List.sum_nil, List.length_cons, List.length_nil, S, ls9] at j
    rw [show textT (.adt r q t u) = S "m::A" ++ ((S "<" ++ Txt.join (S ", ") (regsT r q ++ [textT t, textT u])) ++ S ">") from rfl]
    simp only [Str.length_append, S, ls10, ls11, ls2]; omega
  | _ => decide +kernel
theorem text_le {T : Ty} (h : height T ≤ 10) : (textT T).length ≤ 70000 :=
  Nat.le_trans (Nat.le_of_add_right_le (text_len T)) (Nat.le_trans (pw_mono h) (by decide))
theorem text_ok (T : Ty) : PyData.strOk (textT T) = true := by
  induction T with
  | param x => cases x <;> decide +kernel
  | int x => cases x <;> decide +kernel
  | ref r m t ih =>
    have h1 : PyData.strOk (if regT r = Str.ofString "" then Str.ofString "" else regT r ++ Str.ofString " ") = true := by
      split
      · decide +kernel
      · rw [strOk_app, regT_ok]; decide +kernel
    have h2 : PyData.strOk (if m = true then Str.ofString "mut " else Str.ofString "") = true := by split <;> decide +kernel
    simp only [textT, S, strOk_app, ih, h1, h2]; decide +kernel
  | box t ih => simp only [textT, strOk_app, ih]; decide +kernel
  | array t ih => simp only [textT, strOk_app, ih]; decide +kernel
  | pair t u i1 i2 => simp only [textT, strOk_app, join_ok (S ", ") (by decide +kernel) [textT t, textT u] (by simp [i1, i2])]; decide +kernel
  | adt r q t u i1 i2 =>
    have h1 : PyData.strOk (Txt.join (S ", ") (regsT r q ++ [textT t, textT u])) = true := join_ok (S ", ") (by decide +kernel) _ (by rw [List.all_append, regsT_ok]; simp [i1, i2])
    rw [show textT (.adt r q t u) = S "m::A" ++ ((S "<" ++ Txt.join (S ", ") (regsT r q ++ [textT t, textT u])) ++ S ">") from rfl]
    simp only [strOk_app, h1]; decide +kernel
  | _ => decide +kernel
section
variable {prog : Program} {w : World} {A : Around} {E : Value → Shared → Prop} {s : Shared} {h₀ : Heap} {L : Addr} {m : Str → Option Value} {led : Led} {vs ws : List Value} {xs : List Str} {Q : Value → Shared → Prop}
theorem join_T {x : Str} {t : Tok} {a : Addr} {i : Nat} (N : News h₀ L s.heap led) (ha : (a, PySem.W.listOf vs.toArray i) ∈ led) (hT : TxtAll vs xs) (hx : x.length ≤ 16) (hw : (xs.map (·.length)).sum + xs.length ≤ 1048576)
    (h : ∀ t' k, Q (.str (Txt.join x xs) t') { s with toks := k }) : wpAny (model prog w) A (call (.builtin "str.join") [.str x t, .ref a]) Q E s :=
  join_listW (N.isList ha) (by simpa using hT.strs) hx hw h
theorem len_L {a : Addr} {i n : Nat} (N : News h₀ L s.heap led) (ha : (a, PySem.W.listOf vs.toArray i) ∈ led) (hn : vs.length = n) (hs : n ≤ sizeLine)
    (h : ∀ t k, Q (.int (n : Int) t) { s with toks := k }) : wpAny (model prog w) A (call (.builtin "len") [.ref a]) Q E s :=
  len_list (N.isList ha) (by rw [List.size_toArray, hn]; exact Int.ofNat_lt.mpr (Nat.lt_of_le_of_lt hs (by rw [sizeLine_eq]; decide))) (by simp only [List.size_toArray, hn]; exact h _ _)
theorem add_L {a b : Addr} {i j : Nat} (F : Fr h₀ L s.heap m) (N : News h₀ L s.heap led) (ha : (a, PySem.W.listOf vs.toArray i) ∈ led) (hb : (b, PySem.W.listOf ws.toArray j) ∈ led) (hs : vs.length + ws.length ≤ sizeLine)
    (h : ∀ D h', Fr h₀ L h' m → News h₀ L h' ((D, PySem.W.listOf (vs ++ ws).toArray 0) :: led) → (∀ p ∈ led, p.1 < D) → Q (.ref D) { s with heap := h' }) : wpAny (model prog w) A (binaryOp .Add (.ref a) (.ref b)) Q E s :=
  add_lists F N (N.isList ha) (N.isList hb) (fun h' F' N' => h _ h' F' N' fun p hp => Heap.lt_size (N p hp).1) hs
theorem ne_strs {a b : Addr} {i j : Nat} {ys : List Str} (N : News h₀ L s.heap led) (ha : (a, PySem.W.listOf vs.toArray i) ∈ led) (hb : (b, PySem.W.listOf ws.toArray j) ∈ led) (hT : TxtAll vs xs) (hU : TxtAll ws ys) (ox : xs.all PyData.strOk = true) (oy : ys.all PyData.strOk = true) (hu : A.units + 64 < cLine)
    {bb : Bool} (hbb : (!PyData.eqvAll (xs.map .str) (ys.map .str)) = bb) (k : Q (.bool bb) s) : wpAny (model prog w) A (compareOp .NotEq (.ref a) (.ref b)) Q E s := by
  have shp : ∀ {l : List Str}, l.all PyData.strOk = true → SeqAt.shaped (.list (l.map .str)) = true := by
    intro l h
    unfold SeqAt.shaped
    simp only [PyData.canLay0, PyData.depth, canLayAll_strs', depthAll_strs', h]
    decide
  exact ne_dataH (reads_list_at (N _ ha).1 rfl rfl (by simpa using hT.reads)) (reads_list_at (N _ hb).1 rfl rfl (by simpa using hU.reads)) (shp ox) (shp oy) hu (by
    rw [show PyData.eqv (.list (xs.map .str)) (.list (ys.map .str)) = PyData.eqvAll (xs.map .str) (ys.map .str) from rfl, hbb]; exact k)
end

end
section
theorem flushLJ10 : True ∧ True := by (w_top off); (first | (walk1; done) | exact ⟨True.intro, True.intro⟩)
/-! the small logic: texts, lists -/
theorem ble_line {n : Nat} (h : Nat.ble n 1048576 = true) : n ≤ sizeLine := by rw [PySem.sizeLine_eq]; have := Nat.le_of_ble_eq_true h; omega
section
variable {w : World} {cs : Scope} {cl : List (Str × Addr)} {c : Cx w cs cl} {m : Str → Option Value} {own fz rest : Led} {pos p1 p2 p3 p4 p5 : Pos} {k k2 : Nat} {P : Value → Led → Led → Prop} {T : Str → Led → Led → Prop} {e e1 e2 : Expr} {n n1 n2 : Nat}
/-- a text of at most n letters -/
noncomputable def JL (c : Cx w cs cl) (m : Str → Option Value) (own fz rest : Led) (e : Expr) (n : Nat) (T : Str → Led → Led → Prop) : Prop := JE c m own fz rest e (fun v o f => ∃ x t, v = .str x t ∧ x.length ≤ n ∧ T x o f)
theorem JL.E (j : JL c m own fz rest e n (fun x o f => ∀ t, P (.str x t) o f)) : JE c m own fz rest e P := JG.use j fun v o f _ ⟨x, t, e, h, p⟩ => e ▸ p t
theorem JL.add (j : JL c m own fz rest e1 n1 (fun x o f => JL c m o f rest e2 n2 (fun y => T (x ++ y)))) (h : Nat.ble (n1 + n2) 1048576 = true) : JL c m own fz rest (.BinOp e1 .Add e2 pos) (n1 + n2) T := fun s Q E hE a q =>
  wpAny_BinOp (j s _ E hE a fun v o f h1 tk a1 S1 ⟨x, t, ev, hx, j2⟩ => by
    subst ev
    exact j2 _ _ E hE a1 fun v2 o2 f2 h2 tk2 a2 S2 ⟨y, u, ew, hy, p⟩ => by
      subst ew
      exact PyProof.Rows.add_str (fun t' tk' => q _ o2 f2 h2 tk' a2 (S2.step S1) ⟨_, t', rfl, by rw [Str.length_append]; exact Nat.add_le_add hx hy, p⟩) (Nat.le_trans (Nat.add_le_add hx hy) (ble_line h)))
theorem JL.str {x : Str} (hx : x.length ≤ n) (h : T x own fz) : JL c m own fz rest (.Constant (.str x) k pos) n T := JE.str fun t => ⟨x, t, rfl, hx, h⟩
theorem JL.V {x : Str} {u : Tok} (V : EV c m own fz rest e (fun _ => .str x u)) (hx : x.length ≤ n) (h : T x own fz) : JL c m own fz rest e n T := JE.V V fun _ => ⟨x, u, rfl, hx, h⟩
/-- a constant text's join -/
theorem JL.join {sep : Str} (j : JE c m own fz rest e (fun v o f => ∃ (b : Addr) (vs : List Value) (i : Nat) (xs : List Str), v = .ref b ∧ (b, PySem.W.listOf vs.toArray i) ∈ o ++ (f ++ rest) ∧ TxtAll vs xs ∧ (xs.map (·.length)).sum + xs.length ≤ 1048576 ∧ (Txt.join sep xs).length ≤ n ∧ T (Txt.join sep xs) o f)) (hsep : sep.length ≤ 16)
    {pl : Env → Sem Bool} (hm : ∀ env, eval (.Call (.Attribute (.Constant (.str sep) k p1) (Str.ofString "join") p2) [e] [] pos) env = (do
      let ov ← eval (.Constant (.str sep) k p1) env
      standAt p2.atName
      let (f, first) ← holding [ov] (getMethod ov (Str.ofString "join") (pl env))
      callWith pos f first (backTo pos (starEach [e] env)) (backToKw pos (keywordEach [] env))) := by intro _; rfl) (he : ∀ env, starEach [e] env = (false, eval e env) :: starEach [] env := by intro _; rfl) : JL c m own fz rest (.Call (.Attribute (.Constant (.str sep) k p1) (Str.ofString "join") p2) [e] [] pos) n T := fun s Q E hE a q =>
  methodCall_KW (pl := pl c.env) (Calls.Constant_str (GM.join (callWith_method1 (args_cons (j _ _ E hE a fun v o f h tk a1 S1 ⟨b, vs, i, xs, ev, hb, hT, hw, hn, hp⟩ => by
    subst ev
    exact args_nil (join_T a1.N hb hT hsep hw fun t' k' => q _ o f h k' a1 S1 ⟨_, t', rfl, hn, hp⟩)) (he _)) (he _) rfl))) (hm _)
theorem JE.list {es : List Expr} (j : JA c m own fz rest pos es (fun vs o f => Nat.ble vs.length 1048576 = true ∧ ∀ D, P (.ref D) ((D, PySem.W.listOf vs.toArray 0) :: o) f)) : JE c m own fz rest (.List es pos) P := fun s Q E hE a q =>
  List_ (j s _ E hE a fun vs o f h tk a1 S1 ⟨hz, hp⟩ => newList_K a1.F a1.N (fun D h' F' N' _ => q (.ref D) ((D, PySem.W.listOf vs.toArray 0) :: o) f h' tk ⟨F', N', a1.Z⟩ S1 (hp D)) (ble_line hz))
theorem JE.addL (j : JE c m own fz rest e1 (fun v o f => ∃ (a : Addr) (vs : List Value) (i : Nat), v = .ref a ∧ JE c m o f rest e2 (fun v2 o2 f2 => ∃ (b : Addr) (ws : List Value) (j : Nat), v2 = .ref b ∧ (a, PySem.W.listOf vs.toArray i) ∈ o2 ++ (f2 ++ rest) ∧ (b, PySem.W.listOf ws.toArray j) ∈ o2 ++ (f2 ++ rest) ∧ vs.length + ws.length ≤ sizeLine ∧ ∀ D, P (.ref D) ((D, PySem.W.listOf (vs ++ ws).toArray 0) :: o2) f2))) : JE c m own fz rest (.BinOp e1 .Add e2 pos) P := fun s Q E hE a q =>
  wpAny_BinOp (j s _ E hE a fun v o f h tk a1 S1 ⟨ad, vs, i, e, j2⟩ => by
    subst e
    exact j2 _ _ E hE a1 fun v2 o2 f2 h2 tk2 a2 S2 ⟨b, ws, j, e2, ha, hb, hs, hp⟩ => by
      subst e2
      exact add_L a2.F a2.N ha hb hs fun D h' F' N' _ => q (.ref D) ((D, PySem.W.listOf (vs ++ ws).toArray 0) :: o2) f2 h' _ ⟨F', N', a2.Z⟩ (S2.step S1) (hp D))
theorem JH.V {env : Env} {v : Value} (V : CV c m own fz rest e env v) (h : P v own fz) : JH c m own fz rest (eval e env) P := fun s _ _ a q => V _ _ _ a fun tk => q v own fz s.heap tk a Sub.refl h
/-- x != 'y', x is not None, inside a block -/
theorem JH.neS {env : Env} {x y : Str} {u : Tok} {B : Bool → Led → Led → Prop} (V : CV c m own fz rest e env (.str x u)) (h : B (x != y) own fz) : JH c m own fz rest (isTrue (.Compare e [.NotEq] [.Constant (.str y) k p1] p2) env (eval (.Compare e [.NotEq] [.Constant (.str y) k p1] p2) env)) B := fun s Q E a q =>
  wpAny_isTrue_Compare1 (V s _ E a fun tk => Calls.Constant_str (PyProof.Rows.ne_str (wpAny_truthy_bool (q _ own fz s.heap _ a Sub.refl h))))
theorem JH.isntNone {env : Env} {r : Reg} {v : Value} {B : Bool → Led → Led → Prop} (hv : RegV v r) (V : CV c m own fz rest e env v) (h : B (decide (r ≠ .none)) own fz) : JH c m own fz rest (isTrue (.Compare e [.IsNot] [.Constant .none k p1] p2) env (eval (.Compare e [.IsNot] [.Constant .none k p1] p2) env)) B := fun s Q E a q => by
  refine wpAny_isTrue_Compare1 (V s _ E a fun tk => ?_)
  cases hv
  case none => exact wpAny_Constant_none (isnot_none_none (wpAny_truthy_bool (q _ own fz s.heap _ a Sub.refl h)))
  all_goals first
    | exact wpAny_Constant_none (isnot_str_none (wpAny_truthy_bool (q _ own fz s.heap _ a Sub.refl h)))
    | exact wpAny_Constant_none (isnot_int_none (wpAny_truthy_bool (q _ own fz s.heap _ a Sub.refl h)))
theorem EV.subO {x : Str} {i : Int} {b : Addr} {vs : List Value} {n : Nat} {v : Value} (hv : m x = some (.ref b)) (hm : (b, PySem.W.listOf vs.toArray n) ∈ own) (hi : vs[i.toNat]? = some v) (h0 : 0 ≤ i := by decide) (hb : i < 2 ^ 63 := by decide)
    (hs : ∀ b u, subscripted (.Constant (.int i) k p2) false (.ref b) (.int i u) = operate [.ref b, .int i u] (getItem (.ref b) (.int i u)) := by intro _ _; with_unfolding_all rfl) (hk : cs.kind = .function := by rfl) (hx : (∀ cn L a ccd, (envX cn cs L a ccd cl).kindOf x = some .local) := by intros; rfl) (hd : (x == ("__debug__" : Str)) = false := by decide) :
    EV c m own fz rest (.Subscript (.Name x p1) (.Constant (.int i) k p2) p3) (fun _ => v) := fun _ _ _ hE a q =>
  Subscript_ (nameX_L a.F hv (wpAny_Constant_int (sub_list a.N (List.mem_append.mpr (.inl hm)) h0 hb hi (q 0 _) (hs _ _))) hk (hx ..) hd)
theorem JL.ite {test : Expr} (j : JT c m own fz rest test (fun b o f => (b = true → JL c m o f rest e1 n T) ∧ (b = false → JL c m o f rest e2 n T))) : JL c m own fz rest (.IfExp test e1 e2 pos) n T := JE.ite (JG.use j fun b o f _ h => by
  cases b with
  | true => rw [if_pos rfl]; exact h.1 rfl
  | false => rw [if_neg Bool.false_ne_true]; exact h.2 rfl)
theorem JT.V {b : Bool} {B : Bool → Led → Led → Prop} (V : EV c m own fz rest e (fun _ => .bool b)) (h : B b own fz) (he : ∀ env t, isTrue e env t = (do let v ← t; standAt e.pos; holding [v] (truthy v)) := by intros; rfl) : JT c m own fz rest e B := fun s Q E hE a q =>
  isTrue_plain (V s _ E hE a fun t tk => wpAny_truthy_bool (q b own fz s.heap tk a Sub.refl h)) (he _ _)
theorem JT.neS {x y : Str} {u : Tok} {B : Bool → Led → Led → Prop} (V : EV c m own fz rest e (fun _ => .str x u)) (h : B (x != y) own fz) (hm : behindInMarks .NotEq (.Constant (.str y) k p1) = false := by with_unfolding_all rfl) : JT c m own fz rest (.Compare e [.NotEq] [.Constant (.str y) k p1] p2) B :=
  JT.cmp (JE.V V fun _ => JE.str fun _ => JG.neStr ⟨_, rfl, h⟩) hm
theorem JE.len {x : Str} {b : Addr} {vs : List Value} {i : Nat} (hv : m x = some (.ref b)) (hm : (b, PySem.W.listOf vs.toArray i) ∈ own) (hn : vs.length ≤ sizeLine) (hp : ∀ t, P (.int (vs.length : Nat) t) own fz)
    (hk : cs.kind = .function := by rfl) (hx : (∀ cn L a ccd, (envX cn cs L a ccd cl).kindOf x = some .local) := by intros; rfl) (hd : (x == ("__debug__" : Str)) = false := by decide) (hx2 : (∀ cn L a ccd, (envX cn cs L a ccd cl).kindOf (Str.ofString "len") = some .globalImplicit) := by intros; rfl) :
    JE c m own fz rest (.Call (.Name (Str.ofString "len") p1) [.Name x p2] [] pos) P := by
  have kf9 : Mine.hd.heap_1 w.params = Mine.hd.heap_1 w.params ∧ PySem.Challenge.rw_ot0007_01 = PySem.Challenge.rw_ot0007_01 := by k_fill; exact ⟨rfl, rfl⟩
  clear kf9
  intro s Q E hE a q
  refine Call_ (nameX_B a.F c.X (topRead_of c.TP) (by k_is) (v := .builtin "len") (by boot_by_name) (by decide) ?_ hk (hx2 ..))
  refine PyProof.Rows.callWith_builtin1 ?_ rfl rfl
  exact args_cons (nameX_L a.F hv (args_nil (len_L a.N (List.mem_append.mpr (.inl hm)) rfl hn fun t tk => q _ own fz s.heap tk a Sub.refl (hp t))) hk (hx ..) hd)
theorem JG.eqI {i j : Int} {t u : Tok} (h : P (.bool (i == j)) own fz) : JG c m own fz rest (compareOp .Eq (.int i t) (.int j u)) P := fun s _ _ hE a q => PyProof.Rows.eq_int (q _ own fz s.heap s.toks a Sub.refl h)
theorem JG.neStrs {a1 b1 : Addr} {vs ws : List Value} {xs ys : List Str} {i j : Nat} {bb : Bool} (ha : (a1, PySem.W.listOf vs.toArray i) ∈ own) (hb : (b1, PySem.W.listOf ws.toArray j) ∈ own) (hT : TxtAll vs xs) (hU : TxtAll ws ys) (ox : xs.all PyData.strOk = true) (oy : ys.all PyData.strOk = true) (hu : c.un + 64 < cLine) (hbb : (!PyData.eqvAll (xs.map .str) (ys.map .str)) = bb) (h : P (.bool bb) own fz) :
    JG c m own fz rest (compareOp .NotEq (.ref a1) (.ref b1)) P := fun s _ _ hE a q => ne_strs a.N (List.mem_append.mpr (.inl ha)) (List.mem_append.mpr (.inl hb)) hT hU ox oy hu hbb (q _ own fz s.heap s.toks a Sub.refl h)
theorem JL.str2 {u : Tok} (V : EV c m own fz rest e (fun _ => .int 2 u)) (h : T (S "2") own fz)
    (hk : cs.kind = .function := by rfl) (hx2 : (∀ cn L a ccd, (envX cn cs L a ccd cl).kindOf (Str.ofString "str") = some .globalImplicit) := by intros; rfl) (he : ∀ env, starEach [e] env = (false, eval e env) :: starEach [] env := by intro _; rfl) :
    JL c m own fz rest (.Call (.Name (Str.ofString "str") p1) [e] [] pos) 1 T := by
  have kf9 : Mine.hd.heap_1 w.params = Mine.hd.heap_1 w.params ∧ PySem.Challenge.rw_ot0007_01 = PySem.Challenge.rw_ot0007_01 := by k_fill; exact ⟨rfl, rfl⟩
  clear kf9
  intro s Q E hE a q
  refine Call_ (nameX_B a.F c.X (topRead_of c.TP) (by k_is) (v := .type "str") (by boot_by_name) (by decide) ?_ hk (hx2 ..))
  refine PyProof.Rows.callWith_type1 ?_ (he _) rfl
  refine args_cons (V s _ E hE a fun t tk => args_nil ?_) (he _)
  walk1
  have e2 : S "2" = Str.ofString (toString (2 : Int)) := by decide +kernel
  exact q _ own fz s.heap _ a Sub.refl ⟨_, _, rfl, by decide +kernel, e2 ▸ h⟩
/-- arms that come together -/
theorem JL.at {Y : Str} (j : JL c m own fz rest e n (fun y o f => y = Y ∧ o = own ∧ f = fz)) (h : T Y own fz) : JL c m own fz rest e n T := JG.use j fun v o f _ ⟨x, t, e, h0, h1, h2, h3⟩ => ⟨x, t, e, h0, by subst h1 h2 h3; exact h⟩
end

end
section
theorem flushLTex2 : True ∧ True := by (w_top off); (first | (walk1; done) | exact ⟨True.intro, True.intro⟩)
theorem ne_some (r q : Reg) (x y : Str) : (!PyData.eqvAll ((regsT r q ++ [x, y]).map .str) (([] : List Str).map .str)) = true := by cases r <;> cases q <;> rfl
structure TextK (w : World) (T : Ty) (d : Nat) : Prop where
  ih : ∀ T' ∈ kids T, ∀ {v : Value} {fz rest : Led}, TyIn fz v T' → Tups fz → Tel w 85 [v] fz rest d (fun r _ => StrIs (textT T') r)
/-- the second element is the text -/
inductive Told1 (fz : Led) (a : Addr) (x : Str) : Prop
  | mk {k u n} : (a, tupO [k, .str x u] n) ∈ fz → Told1 fz a x
set_option tactic.hygienic true in
theorem kTold {fz : Led} {a : Addr} {T : Ty} (h : TyIn fz (.ref a) T) (k : (kindS T == Str.ofString "int") = true ∨ (kindS T == Str.ofString "param") = true) : Told1 fz a (textT T) := by
  cases h
  case param h => exact .mk h
  case int h => exact .mk h
  all_goals exact absurd k (by show ¬ ((S _ == S _) = true ∨ (S _ == S _) = true); decide +kernel)
theorem text_bool {T : Ty} (k : (kindS T == Str.ofString "bool") = true) : textT T = S "bool" := by
  cases T
  case bool => rfl
  all_goals exact absurd k (by show ¬ ((S _ == S _) = true); decide +kernel)
theorem text_never {T : Ty} (k : (kindS T == Str.ofString "never") = true) : textT T = S "!" := by
  cases T
  case never => rfl
  all_goals exact absurd k (by show ¬ ((S _ == S _) = true); decide +kernel)
theorem text_var {T : Ty} (k : (kindS T == Str.ofString "var") = true ∨ (kindS T == Str.ofString "intvar") = true) : textT T = S "_" := by
  cases T
  case var => rfl
  case intvar => rfl
  all_goals exact absurd k (by show ¬ ((S _ == S _) = true ∨ (S _ == S _) = true); decide +kernel)
inductive IsTup2 : Ty → Prop
  | unit : IsTup2 .unit
  | pair {T U} : IsTup2 (.pair T U)
theorem kTup2 {T : Ty} (k : (kindS T == Str.ofString "tuple") = true) : IsTup2 T := by
  cases T
  case unit => exact .unit
  case pair => exact .pair
  all_goals exact absurd k (by show ¬ ((S _ == S _) = true); decide +kernel)
theorem kAdt' {fz : Led} {a : Addr} {T : Ty} (hT : TyIn fz (.ref a) T) (h0 : (kindS T == Str.ofString "int") = false) (h1 : (kindS T == Str.ofString "param") = false) (h2 : (kindS T == Str.ofString "bool") = false) (h3 : (kindS T == Str.ofString "never") = false) (h4 : (kindS T == Str.ofString "var") = false) (h5 : (kindS T == Str.ofString "intvar") = false) (h6 : (kindS T == Str.ofString "ref") = false) (h7 : (kindS T == Str.ofString "box") = false) (h8 : (kindS T == Str.ofString "array") = false) (h9 : (kindS T == Str.ofString "tuple") = false) : IsAdt fz a T := by
  refine kAdt hT.by ?_
  cases T
  case adt => show (S _ == S _) = true; decide +kernel
  case param => exact absurd h1 (by show ¬ ((S _ == S _) = false); decide +kernel)
  case int => exact absurd h0 (by show ¬ ((S _ == S _) = false); decide +kernel)
  case bool => exact absurd h2 (by show ¬ ((S _ == S _) = false); decide +kernel)
  case never => exact absurd h3 (by show ¬ ((S _ == S _) = false); decide +kernel)
  case var => exact absurd h4 (by show ¬ ((S _ == S _) = false); decide +kernel)
  case intvar => exact absurd h5 (by show ¬ ((S _ == S _) = false); decide +kernel)
  case ref => exact absurd h6 (by show ¬ ((S _ == S _) = false); decide +kernel)
  case box => exact absurd h7 (by show ¬ ((S _ == S _) = false); decide +kernel)
  case array => exact absurd h8 (by show ¬ ((S _ == S _) = false); decide +kernel)
  all_goals exact absurd h9 (by show ¬ ((S _ == S _) = false); decide +kernel)
theorem pair_len {x y : Str} (hx : x.length ≤ 70000) (hy : y.length ≤ 70000) : ([x, y].map (·.length)).sum + [x, y].length ≤ 1048576 ∧ (Txt.join (S ", ") [x, y]).length ≤ 200000 := by
  have b3 := join_le (S ", ") [x, y]
  simp only [S, List.map_cons, List.map_nil, List.sum_cons, List.sum_nil, List.length_cons, List.length_nil, ls9] at b3 ⊢
  omega
theorem regs_len (r q : Reg) {x y : Str} (hx : x.length ≤ 70000) (hy : y.length ≤ 70000) : ((regsT r q ++ [x, y]).map (·.length)).sum + (regsT r q ++ [x, y]).length ≤ 1048576 ∧ (Txt.join (S ", ") (regsT r q ++ [x, y])).length ≤ 200000 := by
  have b3 := join_le (S ", ") (regsT r q ++ [x, y])
  have b4 := regsT_sum r q
  simp only [S, List.map_append, List.sum_append, List.length_append, List.map_cons, List.map_nil, List.sum_cons, List.sum_nil, List.length_cons, List.length_nil, ls9] at b3 ⊢
  omega
section
variable {w : World} {cs : Scope} {cl : List (Str × Addr)} {c : Cx w cs cl} {m : Str → Option Value} {own fz rest : Led} {pos p1 p2 p3 p4 p5 px py : Pos} {k : Nat}
/-- [f(region) for region in .. if region is not None] -/
theorem regs_comp {r q : Reg} {iter : PySem.Expr} {scope : Scope} {cl' : List (Str × Addr)} {fn y : Str} {f : Addr} {P : Value → Led → Led → Prop} (hw : nsIn (Mine.hd.heap_1 w.params) mainGlobals fn = some (some (.ref f)) ∧ keepIn (Mine.hd.heap_1 w.params) (.ref f) = true)
    (C : ∀ {rv : Value} {r : Reg} {fz rest : Led}, RegV rv r → Tups fz → Tel w f [rv] fz rest 4 (fun v _ => StrIs (regT r) v)) (hd : c.dp + 4 < recursionLimit) (hu : c.un + 8 * 4 < cLine)
    (j : JE c m own fz rest iter (fun v o f => o = own ∧ ∃ b vs k, v = .ref b ∧ (b, tupO vs k) ∈ f ∧ RegAll vs [r, q] ∧ ∀ D ys f', Sub f f' → TxtAll ys (regsT r q) → P (.ref D) ((D, PySem.W.listOf ys.toArray ys.length) :: own) f'))
    (hclos : ∀ cn L a ccd, closureFor scope (envX cn cs L a ccd cl) = pure cl' := by intros; rfl) (hcell : ∀ y ∈ scope.names, y.2 ≠ .cell := by decide) (hkind : scope.kind = .function := by rfl) (hnames : ∀ y ∈ scope.names, y.2 = .local → scope.names.lookup y.1 = some .local := by decide) (hx : scope.names.lookup y = some .local := by rfl)
    (hs : ∀ env y, foldedSetIterable iter env y = pure y := by intros; rfl) (hk : ∀ cn L a ccd C, (compEnvC scope cl' C (envX cn cs L a ccd cl)).scope.kind = .function := by intros; rfl) (hl : ∀ cn L a ccd C, (compEnvC scope cl' C (envX cn cs L a ccd cl)).kindOf y = some .local := by intros; rfl) (hl3 : ∀ cn L a ccd C, (compEnvC scope cl' C (envX cn cs L a ccd cl)).kindOf fn = some .globalImplicit := by intros; rfl) (hcs : cs.kind = .function := by rfl) (hy : (y == ("__debug__" : Str)) = false := by decide) (hfn : (fn == ("__debug__" : Str)) = false := by decide) :
    JE c m own fz rest (.ListComp (.Call (.Name fn p1) [.Name y p2] [] py) [⟨.Name y px, iter, [.Compare (.Name y p3) [.IsNot] [.Constant .none k p4] p5], 0⟩] scope pos) P :=
  JE.comp (γ := Unit) (fun _ => own) () (fun vs f => RegAll vs [r, q] ∧ ∀ D ys f', Sub f f' → TxtAll ys (regsT r q) → P (.ref D) ((D, PySem.W.listOf ys.toArray ys.length) :: own) f') (fun _ i ys _ _ => TxtAll ys ((([r, q].take i).filter fun x => decide (x ≠ Reg.none)).map regT)) (fun _ => rfl)
    (j.use fun v o f S ⟨e, b, vs, k, e1, hb, hv, hp⟩ => ⟨b, vs, e1, .inl ⟨k, hb⟩, e, by obtain ⟨_, _, rfl, _, _⟩ := hv.two; show 2 ≤ sizeLine; decide, ⟨hv, hp⟩, .nil⟩)
    (fun vs f0 _ ⟨hv, _⟩ i v ys f _ C' oC m₂ I oI D e S A hC hx2 _ => by
      obtain ⟨r', e', k'⟩ := hv.at e
      have ht : ((([r, q].take (i + 1)).filter fun x => decide (x ≠ .none)).map regT) = ((([r, q].take i).filter fun x => decide (x ≠ .none)).map regT) ++ (([r'].filter fun x => decide (x ≠ .none)).map regT) := by rw [List.take_add_one, e', Option.toList, List.filter_append, List.map_append]
      have V : ∀ {fz : Led} {pos : Pos}, CV c m ((I, oI) :: (C', oC) :: (D, PySem.W.listOf ys.toArray ys.length) :: own) fz rest (.Name y pos) (compEnvC scope cl' C' c.env) v := CV.var (List.mem_cons_of_mem _ (List.mem_cons_self ..)) hC hx2 (fun cn L a ccd => hk cn L a ccd C') (fun cn L a ccd => hl cn L a ccd C') hy
      refine JH.oneTest (JH.isntNone k' V ?_)
      by_cases hr : r' = .none
      · rw [if_neg (by rw [hr]; decide)]
        exact ⟨(), rfl, by rw [ht, hr]; simpa using A⟩
      · rw [if_pos (decide_eq_true hr)]
        exact JH.call1 hw.1 hw.2 V (JH.tel (fun Z => C k' Z) hd hu (fun r f' S' p => ⟨(), rfl, by rw [ht, show ([r'].filter fun x => decide (x ≠ .none)) = [r'] by simp [hr]]; exact TxtAll.snoc A p⟩) hcs) (fun cn L a ccd => hk cn L a ccd C') (fun cn L a ccd => hl3 cn L a ccd C') hfn)
    (fun vs f0 _ ⟨hv, hp⟩ D ys f _ S A _ => hp D ys f S (by obtain ⟨_, _, rfl, _, _⟩ := hv.two; exact A)) hclos hcell hkind hnames hx hs
end
set_option maxHeartbeats 2000000 in
theorem text_walk {w : World} {T : Ty} {fz rest : Led} {v : Value} {d : Nat} (hL : Low T 10) (hT : TyIn fz v T) (hz : Tups fz) (IH : TextK w T d) : Tel w 85 [v] fz rest (d + 12) (fun r _ => StrIs (textT T) r) := by
  obtain ⟨a, t, more, n, rfl, hm⟩ := hT.head
  have hle : ∀ T' ∈ kids T, (textT T').length ≤ 70000 := fun T' h' => text_le (Nat.le_trans (Nat.le_of_succ_le (kid_height h')) hL.le)
  have kf9 : Mine.hd.heap_1 w.params = Mine.hd.heap_1 w.params ∧ PySem.Challenge.rw_ot0007_01 = PySem.Challenge.rw_ot0007_01 := by k_fill; exact ⟨rfl, rfl⟩
  clear kf9
  refine' tel_def ?a0 ?a1 (fun _ => ?a2) ?a3 ?a4 ?a5 ?a6 ?a7 (hz) ?_
  case a0 => k_is
  case a1 => k_is
  case a2 => exact BindsTo.of_eq rfl
  case a3 => exact locs rfl
  case a4 => exact rfl
  case a5 => exact rfl
  case a6 => exact rfl
  case a7 => decide
  intro c m R hdp hun hb hR
  have ht : m (Str.ofString "told") = some (.ref a) := hb _
  clear hb
  have hw : nsIn (Mine.hd.heap_1 w.params) mainGlobals (Str.ofString "type_text") = some (some (.ref 85)) ∧ keepIn (Mine.hd.heap_1 w.params) (.ref 85) = true := ⟨by k_is, by k_is⟩
  have hwp : nsIn (Mine.hd.heap_1 w.params) mainGlobals (Str.ofString "parts_of") = some (some (.ref 21)) ∧ keepIn (Mine.hd.heap_1 w.params) (.ref 21) = true := ⟨by k_is, by k_is⟩
  have hwr : nsIn (Mine.hd.heap_1 w.params) mainGlobals (Str.ofString "region_text") = some (some (.ref 80)) ∧ keepIn (Mine.hd.heap_1 w.params) (.ref 80) = true := ⟨by k_is, by k_is⟩
  have hdn : c.dp + d < recursionLimit := by first | exact dlk hdp rfl | exact dld hdp rfl | exact dln hdp rfl
  have hun' : c.un + 8 * d < cLine := by first | exact ulk hun rfl | exact uld hun rfl | exact uln hun rfl
  have hd4 : c.dp + 4 < recursionLimit := by first | exact dlk hdp rfl | exact dld hdp rfl | exact dln hdp rfl
  have hu4 : c.un + 8 * 4 < cLine := by first | exact ulk hun rfl | exact uld hun rfl | exact uln hun rfl
  have told : ∀ {m : Str → Option Value} {pos p1 p2 : Pos} {k : Nat}, m (Str.ofString "told") = some (.ref a) → ((kindS T == Str.ofString "int") = true ∨ (kindS T == Str.ofString "param") = true) → JE c m [] fz rest (.Subscript (.Name (Str.ofString "told") p1) (.Constant (.int 1) k p2) pos) (fun v => R (.ret v) m) := fun ht k => by
    obtain ⟨h⟩ := kTold hT k
    exact JE.V (EV.sub ht h rfl) fun _ => hR _ _ _ _ (.mk _)
  refine JX.setV (EV.sub ht hm rfl) fun _ => JX.ifr2V (EV.name rfl) (EV.name rfl) (fun k => told ht (.inl k)) (fun _ k => told ht (.inr k)) fun h0 h1 => ?_
  refine JX.ifrV (EV.name rfl) (fun k => JE.str fun t => hR _ _ _ _ (text_bool k ▸ .mk t)) fun h2 => JX.ifrV (EV.name rfl) (fun k => JE.str fun t => hR _ _ _ _ (text_never k ▸ .mk t)) fun h3 => ?_
  refine JX.ifr2V (EV.name rfl) (EV.name rfl) (fun k => JE.str fun t => hR _ _ _ _ (text_var (.inl k) ▸ .mk t)) (fun _ k => JE.str fun t => hR _ _ _ _ (text_var (.inr k) ▸ .mk t)) fun h4 h5 => ?_
  refine JX.comp (γ := Unit) (fun _ => []) () (fun vs f => TyAll f vs (kids T)) (fun _ i ys _ _ => TxtAll ys (((kids T).take i).map textT)) (fun _ => rfl) (JE.call hwp.1 hwp.2 (JA.one (EV.name ht) fun _ => (JH.tel (fun Z => parts_of_tel hT Z) hd4 hu4 fun r f S p => ?parts).G)) (fun vs f0 S0 hv i v ys f _ C oC m₂ I oI D e S A hC hx _ => JH.noTest ?turn) (fun vs f0 S0 hv D ys f _ S1 A _ => ?fin)
  case parts =>
    obtain ⟨e9, m9, a9⟩ := p
    exact ⟨_, _, e9, .inl ⟨_, m9⟩, rfl, kids_size a9, a9, .nil⟩
  case turn =>
    rw [if_pos rfl]
    obtain ⟨T', e', k'⟩ := hv.at e
    exact JH.call1 hw.1 hw.2 (CV.var (List.mem_cons_of_mem _ (List.mem_cons_self ..)) hC hx) (JH.tel (fun Z => IH.ih T' (List.mem_of_getElem? e') (k'.up S) Z) hdn hun' fun r f' S' p => ⟨(), rfl, by rw [List.take_add_one, e', Option.toList, List.map_append]; exact TxtAll.snoc A p⟩)
  case fin =>
    rw [List.take_of_length_le (by rw [hv.length]; exact Nat.le_refl _)] at A
    have hT' := hT.up (S1.step S0)
    clear IH hv S0 S1
    have hB := hT'.by
    refine JX.ifbV (EV.name rfl) ?ref fun h6 => JX.ifrV (EV.name rfl) ?box fun h7 => JX.ifrV (EV.name rfl) ?arr fun h8 => JX.ifrV (EV.name rfl) ?tup fun h9 => ?adt
    case ref =>
      intro h
      obtain @⟨r, b, U, ⟨k1, k2, k3⟩⟩ := kRef hB h
      obtain ⟨t1, rfl⟩ := A.one
      refine JX.set (JE.call hwr.1 hwr.2 (JA.cons (JE.V (EV.sub ht k1 rfl) fun _ => JA.nil (JH.G (JH.tel (fun Z => region_text_tel k2 Z) hd4 hu4 fun r4 f4 S4 p4 => ?_)))))
      obtain ⟨t4⟩ := p4
      have k1' := S4.sub _ k1
      refine JX.ret (JL.E (n := 80000) (JL.add (n1 := 10000) (n2 := 70000) (JL.add (n1 := 9000) (n2 := 1000) (JL.add (n1 := 1) (n2 := 8999) (JL.str (by decide +kernel) (JL.at (Y := if regT r = S "" then S "" else regT r ++ S " ") (JL.ite (JT.neS (EV.name rfl) ⟨fun hb => JL.add (n1 := 7) (n2 := 8992) (JL.V (EV.name rfl) (regT_le r) (JL.str (by decide +kernel) ⟨(if_neg (bne_iff_ne.mp hb)).symm, rfl, rfl⟩)) rfl, fun hb => JL.str (by decide +kernel) ⟨(if_pos (bne_eq_false_iff_eq.mp hb)).symm, rfl, rfl⟩⟩)) ?_)) rfl) rfl) rfl))
      refine JL.at (Y := if b then S "mut " else S "") (JL.ite (JT.V (EV.sub ht k1' rfl) ⟨fun hb => JL.str (by decide +kernel) ⟨by rw [hb]; rfl, rfl, rfl⟩, fun hb => JL.str (by decide +kernel) ⟨by rw [hb]; rfl, rfl, rfl⟩⟩)) ?_
      exact JL.V (EV.subO rfl (List.mem_cons_self ..) rfl) (hle _ (.head _)) fun t => ⟨⟨_, rfl⟩, hR _ _ _ _ (show StrIs (textT (.ref r b U)) _ from .mk t)⟩
    case box =>
      intro h
      obtain @⟨U, ⟨k1, k3⟩⟩ := kBox hB h
      obtain ⟨t1, rfl⟩ := A.one
      exact JL.E (JL.add (n1 := 70004) (n2 := 1) (JL.add (n1 := 4) (n2 := 70000) (JL.str (by decide +kernel) (JL.V (EV.subO rfl (List.mem_cons_self ..) rfl) (hle _ (.head _)) (JL.str (by decide +kernel) fun t => hR _ _ _ _ (show StrIs (textT (.box U)) _ from .mk t)))) rfl) rfl)
    case arr =>
      intro h
      obtain @⟨U, ⟨k1, k3⟩⟩ := kArr hB h
      obtain ⟨t1, rfl⟩ := A.one
      exact JL.E (JL.add (n1 := 70004) (n2 := 1) (JL.add (n1 := 70003) (n2 := 1) (JL.add (n1 := 70001) (n2 := 2) (JL.add (n1 := 1) (n2 := 70000) (JL.str (by decide +kernel) (JL.V (EV.subO rfl (List.mem_cons_self ..) rfl) (hle _ (.head _)) (JL.str (by decide +kernel) (JL.str2 (EV.sub ht k1 rfl) (JL.str (by decide +kernel) fun t => hR _ _ _ _ (show StrIs (textT (.array U)) _ from .mk t)))))) rfl) rfl) rfl) rfl)
    case tup =>
      intro h
      cases kTup2 h with
      | unit =>
        obtain rfl := A.nil'
        refine JE.ite (JT.cmp (JE.len rfl (List.mem_cons_self ..) (Nat.zero_le _) fun t => JE.int fun t2 => JG.eqI ⟨_, rfl, ?_⟩))
        exact JL.E (n := 200002) (JL.add (n1 := 200001) (n2 := 1) (JL.add (n1 := 1) (n2 := 200000) (JL.str (by decide +kernel) (JL.join (JE.V (EV.name rfl) fun _ => ⟨_, _, _, [], rfl, List.mem_append.mpr (.inl (List.mem_cons_self ..)), .nil, by decide, by decide +kernel, JL.str (by decide +kernel) fun t => hR _ _ _ _ (show StrIs (textT .unit) _ from .mk t)⟩) (by decide +kernel))) rfl) rfl)
      | @pair U V =>
        obtain ⟨t1, t2, rfl⟩ := A.two
        obtain ⟨l1, l2⟩ := pair_len (hle U (.head _)) (hle V (.tail _ (.head _)))
        refine JE.ite (JT.cmp (JE.len rfl (List.mem_cons_self ..) (by show 2 ≤ sizeLine; decide) fun t => JE.int fun t2 => JG.eqI ⟨_, rfl, ?_⟩))
        exact JL.E (n := 200002) (JL.add (n1 := 200001) (n2 := 1) (JL.add (n1 := 1) (n2 := 200000) (JL.str (by decide +kernel) (JL.join (JE.V (EV.name rfl) fun _ => ⟨_, _, _, [textT U, textT V], rfl, List.mem_append.mpr (.inl (List.mem_cons_self ..)), .cons (.cons .nil), l1, l2, JL.str (by decide +kernel) fun t => hR _ _ _ _ (show StrIs (textT (.pair U V)) _ from .mk t)⟩) (by decide +kernel))) rfl) rfl)
    case adt =>
      obtain @⟨r, q, U, V, ⟨k1, k2, k3, k4, k5, k6⟩⟩ := kAdt' hT' h0 h1 h2 h3 h4 h5 h6 h7 h8 h9
      obtain ⟨t1, t2, rfl⟩ := A.two
      obtain ⟨l1, l2⟩ := regs_len r q (hle U (.head _)) (hle V (.tail _ (.head _)))
      have b4 := regsT_sum r q
      have ok : (regsT r q ++ [textT U, textT V]).all PyData.strOk = true := by rw [List.all_append, regsT_ok]; simp [text_ok]
      refine JX.set (JE.addL (regs_comp hwr region_text_tel hd4 hu4 (JE.V (EV.sub ht k1 rfl) fun _ => ⟨rfl, _, _, _, rfl, k2, .cons k4 (.cons k5 .nil), fun D1 ys f1 S1 A1 => ⟨D1, ys, _, rfl, JE.V (EV.name rfl) fun _ => ⟨D, _, _, rfl, List.mem_append.mpr (.inl (List.mem_cons_self ..)), List.mem_append.mpr (.inl (List.mem_cons_of_mem _ (List.mem_cons_self ..))), by rw [A1.length, PySem.sizeLine_eq]; simp only [List.length_cons, List.length_nil]; omega, fun D2 => ?_⟩⟩⟩)))
      have A2 := A1.app A
      have k1' := S1.sub _ k1
      refine JX.ret (JL.E (JL.add (n1 := 4) (n2 := 200002) (JL.V (EV.sub ht k1' rfl) (by decide +kernel) (JL.ite (JT.cmp (JE.V (EV.name rfl) fun _ => JE.list (JA.nil ⟨rfl, fun D3 => JG.neStrs (List.mem_cons_of_mem _ (List.mem_cons_self ..)) (List.mem_cons_self ..) A2 .nil ok rfl (by omega) (ne_some r q _ _) ⟨_, rfl, ⟨fun _ => ?_, fun k => absurd k (by decide)⟩⟩⟩))))) rfl))
      exact JL.add (n1 := 200001) (n2 := 1) (JL.add (n1 := 1) (n2 := 200000) (JL.str (by decide +kernel) (JL.join (JE.V (EV.name rfl) fun _ => ⟨_, _, _, _, rfl, List.mem_append.mpr (.inl (List.mem_cons_of_mem _ (List.mem_cons_self ..))), A2, l1, l2, JL.str (by decide +kernel) fun t => hR _ _ _ _ (show StrIs (textT (.adt r q U V)) _ from .mk t)⟩) (by decide +kernel))) rfl) rfl

end
section
theorem flushLTexF : True ∧ True := by (w_top off); (first | (walk1; done) | exact ⟨True.intro, True.intro⟩)
theorem text_all (w : World) : ∀ T, TextSpec w T := by
  have all : ∀ n, ∀ T, height T < n → TextSpec w T := by
    intro n
    induction n with
    | zero => intro T h; exact absurd h (Nat.not_lt_zero _)
    | succ n ih =>
      intro T h
      intro v fz rest hL hT hz
      have hh := hL.le
      have kid : ∀ T' ∈ kids T, height T' + 1 ≤ height T := fun T' h' => by
        obtain ⟨i, hi, e⟩ := List.mem_iff_getElem.mp h'
        exact kids_lt (i := i) (by rw [List.getElem?_eq_getElem hi, e])
      by_cases h0 : 1 ≤ height T
      · have K : TextK w T (12 * (height T - 1) + 20) := ⟨fun T' h' v fz rest hT' hz' => (ih T' (by have := kid T' h'; omega) ⟨by have := kid T' h'; omega⟩ hT' hz').more (by have := kid T' h'; omega)⟩
        exact (text_walk hL hT hz K).more (by omega)
      · have K0 : TextK w T 8 := ⟨fun T' h' => absurd (kid T' h') (by omega)⟩
        exact (text_walk hL hT hz K0).more (by omega)
  exact fun T => all _ T (Nat.lt_succ_self _)
theorem type_text_tel {w : World} {T : Ty} {v : Value} {fz rest : Led} (hL : Low T 10) (hT : TyIn fz v T) (hz : Tups fz) : Tel w 85 [v] fz rest (12 * height T + 20) (fun r _ => StrIs (textT T) r) := text_all w T hL hT hz

end
section
theorem flushLJI : True ∧ True := by (w_top off); (first | (walk1; done) | exact ⟨True.intro, True.intro⟩)
/-! the small logic: ints -/
section
variable {w : World} {cs : Scope} {cl : List (Str × Addr)} {c : Cx w cs cl} {m : Str → Option Value} {own fz rest : Led} {pos p1 p2 p3 p4 p5 : Pos} {k k2 : Nat} {P : Value → Led → Led → Prop} {e e0 e1 e2 : Expr} {R : Flow → (Str → Option Value) → Led → Led → Prop} {i j : Int}
theorem JG.ltI {t u : Tok} (h : P (.bool (decide (i < j))) own fz) : JG c m own fz rest (compareOp .Lt (.int i t) (.int j u)) P := fun s _ _ hE a q => PySem.P.lt_int (q _ own fz s.heap s.toks a Sub.refl h)
theorem JG.gtI {t u : Tok} (h : P (.bool (decide (i > j))) own fz) : JG c m own fz rest (compareOp .Gt (.int i t) (.int j u)) P := fun s _ _ hE a q => PySem.P.gt_int (q _ own fz s.heap s.toks a Sub.refl h)
theorem JE.cmp {op : CmpOp} (j : JE c m own fz rest e1 (fun x o f => JE c m o f rest e2 (fun y o2 f2 => JG c m o2 f2 rest (compareOp op x y) P))) (hm : behindInMarks op e2 = false := by with_unfolding_all rfl) : JE c m own fz rest (.Compare e1 [op] [e2] pos) P := fun s Q E hE a q =>
  wpAny_Compare1 (j s _ E hE a fun x o f h tk a' S j1 => j1 _ _ E hE a' fun y o2 f2 h2 tk2 a2 S2 j2 => j2 _ _ E hE a2 fun r o3 f3 h3 tk3 a3 S3 p => q r o3 f3 h3 tk3 a3 ((S3.step S2).step S) p) hm
/-- a block that always leaves, behind any test -/
theorem JX.ifb {test : Expr} {body more : List Stmt}
    (j : JT c m own fz rest test (fun b o f => (b = true → JX c m o f rest body (fun fl m' o' f' => (∃ v, fl = .ret v) ∧ R fl m' o' f')) ∧ (b = false → JX c m o f rest more R))) : JX c m own fz rest (.If test body [] pos :: more) R := JX.ite (JG.use j fun b o f _ h => by
  cases b with
  | true =>
    rw [if_pos rfl]
    intro s Q E hE a q
    exact h.1 rfl s Q E hE a fun fl m' o f h tk a' S ⟨⟨v, e⟩, r⟩ => by
      subst e
      exact q (.ret v) m' o f h tk a' S r
  | false =>
    rw [if_neg Bool.false_ne_true]
    exact JX.nil (h.2 rfl))
end
section
variable {prog : Program} {w : World} {A : Around} {E : Value → Shared → Prop} {s : Shared} {h₀ : Heap} {L D : Addr} {m : Str → Option Value} {led fz cs cs' rest : Led} {vs q : List Value} {n : Nat}
theorem set_P {Q : Unit → Shared → Prop} {k : Int} {t : Tok} {v : Value} (F : Fr h₀ L s.heap m) (N : News h₀ L s.heap led) (Pt : Part led fz cs rest) (hz : Tups fz) (h0 : 0 ≤ k) (hi : k < 2 ^ 63) (e : ki_setL vs k.toNat v = some q) (U : Upd D (PySem.W.listOf vs.toArray n) (PySem.W.listOf q.toArray n) cs cs') (hr : Off rest D)
    (h : ∀ h', Fr h₀ L h' m → News h₀ L h' (cs' ++ (fz ++ rest)) → Q () { s with heap := h' }) : wpAny (model prog w) A (setItem (.ref D) (.int k t) v) Q E s :=
  ki_set F (news_back (Pt.news N)) h0 hi (by simpa using e) (upd_part Pt N hz list_no_tup U hr) h
end
section
variable {w : World} {cs : Scope} {cl : List (Str × Addr)} {c : Cx w cs cl} {m : Str → Option Value} {own fz rest : Led} {pos p1 p2 p3 p4 p5 : Pos} {k k2 : Nat} {P : Value → Led → Led → Prop} {e e0 e1 e2 : Expr} {R : Flow → (Str → Option Value) → Led → Led → Prop} {i j : Int}
/-- an int -/
noncomputable def IV (c : Cx w cs cl) (m : Str → Option Value) (own fz rest : Led) (e : Expr) (i : Int) : Prop := ∀ (s : Shared) (Q E : Value → Shared → Prop), PassesOwn c.M c.A c.env E → At c m own fz rest s.heap → (∀ t h tk, At c m own fz rest h → Q (.int i t) { s with heap := h, toks := tk }) → wpAny c.M c.A (eval e c.env) Q E s
theorem IV.E (V : IV c m own fz rest e i) (h : ∀ t, P (.int i t) own fz) : JE c m own fz rest e P := fun s Q E hE a q => V s Q E hE a fun t h' tk a' => q _ own fz h' tk a' Sub.refl (h t)
theorem IV.of {u : Tok} (V : EV c m own fz rest e (fun _ => .int i u)) : IV c m own fz rest e i := fun s Q E hE a q => V s Q E hE a fun _ tk => q u s.heap tk a
theorem IV.const : IV c m own fz rest (.Constant (.int i) k pos) i := fun s _ _ _ a q => wpAny_Constant_int (q _ s.heap _ a)
theorem IV.add (V1 : IV c m own fz rest e1 i) (V2 : IV c m own fz rest e2 j) : IV c m own fz rest (.BinOp e1 .Add e2 pos) (i + j) := fun s _ E hE a q => wpAny_BinOp (V1 s _ E hE a fun _ _ _ a1 => V2 _ _ E hE a1 fun _ h _ a2 => PySem.P.add_int (q _ h _ a2))
theorem IV.sub (V1 : IV c m own fz rest e1 i) (V2 : IV c m own fz rest e2 j) : IV c m own fz rest (.BinOp e1 .Sub e2 pos) (i - j) := fun s _ E hE a q => wpAny_BinOp (V1 s _ E hE a fun _ _ _ a1 => V2 _ _ E hE a1 fun _ h _ a2 => PySem.P.sub_int (q _ h _ a2))
theorem IV.mul (V1 : IV c m own fz rest e1 i) (V2 : IV c m own fz rest e2 j) (hm : PySem.IntMulOk i j) : IV c m own fz rest (.BinOp e1 .Mult e2 pos) (i * j) := fun s _ E hE a q => wpAny_BinOp (V1 s _ E hE a fun _ _ _ a1 => V2 _ _ E hE a1 fun _ h _ a2 => PySem.P.mul_int (q _ h _ a2) hm)
theorem IV.mod (V1 : IV c m own fz rest e1 i) (V2 : IV c m own fz rest e2 j) (hj : j ≠ 0) : IV c m own fz rest (.BinOp e1 .Mod e2 pos) (i.fmod j) := fun s _ E hE a q => wpAny_BinOp (V1 s _ E hE a fun _ _ _ a1 => V2 _ _ E hE a1 fun _ h _ a2 => PyProof.Rows.mod_int hj (q _ h _ a2))
theorem IV.fdiv (V1 : IV c m own fz rest e1 i) (V2 : IV c m own fz rest e2 j) (hj : j ≠ 0) (hp : Builtin.divisionGoesByPylong i j = false) : IV c m own fz rest (.BinOp e1 .FloorDiv e2 pos) (i.fdiv j) := fun s _ E hE a q => wpAny_BinOp (V1 s _ E hE a fun _ _ _ a1 => V2 _ _ E hE a1 fun _ h _ a2 => PyProof.Rows.floordiv_int hj (q _ h _ a2) (.inl hp))
theorem IV.int (V : IV c m own fz rest e i) (hk : cs.kind = .function := by rfl) (hx2 : (∀ cn L a ccd, (envX cn cs L a ccd cl).kindOf (Str.ofString "int") = some .globalImplicit) := by intros; rfl) (he : ∀ env, starEach [e] env = (false, eval e env) :: starEach [] env := by intro _; rfl) : IV c m own fz rest (.Call (.Name (Str.ofString "int") p1) [e] [] pos) i := by
  have kf9 : Mine.hd.heap_1 w.params = Mine.hd.heap_1 w.params ∧ PySem.Challenge.rw_ot0007_01 = PySem.Challenge.rw_ot0007_01 := by k_fill; exact ⟨rfl, rfl⟩
  clear kf9
  intro s Q E hE a q
  refine Call_ (nameX_B a.F c.X (topRead_of c.TP) (by k_is) (v := .type "int") (by boot_by_name) (by decide) ?_ hk (hx2 ..))
  refine PyProof.Rows.callWith_type1 ?_ (he _) rfl
  exact args_cons (V s _ E hE a fun t h tk a1 => args_nil (PySem.call_int_int (q t h tk a1))) (he _)
/-- D[j] = e, of a list of one's own -/
theorem JX.setS {D : Addr} {vs : List Value} {n : Nat} {q : Tok → List Value} {more : List Stmt} (V2 : IV c m [(D, PySem.W.listOf vs.toArray n)] fz rest e2 i) (V0 : EV c m [(D, PySem.W.listOf vs.toArray n)] fz rest e0 (fun _ => .ref D)) (V1 : EV c m [(D, PySem.W.listOf vs.toArray n)] fz rest e1 (fun t => .int j t)) (h0 : 0 ≤ j) (h1 : j < 2 ^ 63) (hq : ∀ t, ki_setL vs j.toNat (.int i t) = some (q t)) (hr : Off rest D)
    (h : ∀ t, JX c m [(D, PySem.W.listOf (q t).toArray n)] fz rest more R) (hs : ∀ env, swapsWith e2 (some (.Subscript e0 e1 p1)) pos.line env = pure false := by intro _; rfl) : JX c m [(D, PySem.W.listOf vs.toArray n)] fz rest (.Assign [.Subscript e0 e1 p1] e2 pos :: more) R := fun s Q E hE a q' =>
  wpAny_execs_cons (wpAny_Assign_Subscript (V2 s _ E hE a fun t h2 t2 a2 => V0 _ _ E hE a2 fun _ t0 => V1 _ _ E hE a2 fun _ t1 => set_P a2.F a2.N Part.ownL a2.Z h0 h1 (hq t) (.head (List.forall_mem_nil _)) hr fun h' F' N' => h t _ Q E hE ⟨F', N', a2.Z⟩ fun fl m2 o2 f2 h3 tk3 a3 S3 r => q' fl m2 o2 f2 h3 tk3 a3 S3 r) (hs _))
theorem IV.neg : IV c m own fz rest (.UnaryOp .USub (.Constant (.int i) k p1) pos) (-i) := fun s _ _ _ a q => wpAny_UnaryOp (wpAny_Constant_int (PyProof.Rows.neg_int (q _ s.heap _ a)))
theorem IV.pow (V1 : IV c m own fz rest e1 i) (V2 : IV c m own fz rest e2 j) (h0 : 0 ≤ j) (h1 : j ≤ 1000000) (h2 : i.natAbs < 2 ^ 64) : IV c m own fz rest (.BinOp e1 .Pow e2 pos) (i ^ j.toNat) := fun s _ E hE a q => wpAny_BinOp (V1 s _ E hE a fun _ _ _ a1 => V2 _ _ E hE a1 fun _ h _ a2 => PyProof.Rows.pow_int_small h0 h1 h2 (q _ h _ a2))
/-- int(e1 >= e2) -/
theorem IV.ge (V1 : IV c m own fz rest e1 i) (V2 : IV c m own fz rest e2 j) (hk : cs.kind = .function := by rfl) (hx2 : (∀ cn L a ccd, (envX cn cs L a ccd cl).kindOf (Str.ofString "int") = some .globalImplicit) := by intros; rfl) (hm : behindInMarks .GtE e2 = false := by with_unfolding_all rfl) : IV c m own fz rest (.Call (.Name (Str.ofString "int") p1) [.Compare e1 [.GtE] [e2] p2] [] pos) (if decide (j ≤ i) = true then 1 else 0) := by
  have kf9 : Mine.hd.heap_1 w.params = Mine.hd.heap_1 w.params ∧ PySem.Challenge.rw_ot0007_01 = PySem.Challenge.rw_ot0007_01 := by k_fill; exact ⟨rfl, rfl⟩
  clear kf9
  intro s Q E hE a q
  refine Call_ (nameX_B a.F c.X (topRead_of c.TP) (by k_is) (v := .type "int") (by boot_by_name) (by decide) ?_ hk (hx2 ..))
  refine PyProof.Rows.callWith_type1 ?_ rfl rfl
  exact args_cons (wpAny_Compare1 (V1 s _ E hE a fun _ _ _ a1 => V2 _ _ E hE a1 fun _ h tk a2 => PyProof.Rows.ge_int (args_nil (PySem.call_int_bool (q _ h _ a2)))) hm) rfl
theorem IV.max (V1 : IV c m own fz rest e1 i) (V2 : IV c m own fz rest e2 j) (hk : cs.kind = .function := by rfl) (hx2 : (∀ cn L a ccd, (envX cn cs L a ccd cl).kindOf (Str.ofString "max") = some .globalImplicit) := by intros; rfl) (he : ∀ env, starEach [e1, e2] env = (false, eval e1 env) :: starEach [e2] env := by intro _; rfl) (he2 : ∀ env, starEach [e2] env = (false, eval e2 env) :: starEach [] env := by intro _; rfl) (hp : ∀ env, (backTo pos (starEach [e2] env)).any (·.1) = false := by intro _; rfl) : IV c m own fz rest (.Call (.Name (Str.ofString "max") p1) [e1, e2] [] pos) (if j > i then j else i) := by
  have kf9 : Mine.hd.heap_1 w.params = Mine.hd.heap_1 w.params ∧ PySem.Challenge.rw_ot0007_01 = PySem.Challenge.rw_ot0007_01 := by k_fill; exact ⟨rfl, rfl⟩
  clear kf9
  intro s Q E hE a q
  refine Call_ (nameX_B a.F c.X (topRead_of c.TP) (by k_is) (v := .builtin "max") (by boot_by_name) (by decide) ?_ hk (hx2 ..))
  refine PyProof.Rows.callWith_builtin1 ?_ (he _) (hp _)
  exact args_cons (V1 s _ E hE a fun _ _ _ a1 => args_cons (V2 _ _ E hE a1 fun _ h tk a2 => args_nil (max_two_N rfl a2.F a2.N fun h' tk' F' N' => q _ h' tk' ⟨F', N', a2.Z⟩)) (he2 _)) (he _)
end
/-- entering a def without cells, the base heap told -/
theorem wp_def {w : World} {f : Addr} {vs : List Value} {name qual : Str} {params : Arguments} {body : List Stmt} {scope : Scope} {dV kV doc pm cdv ct oc : Value} {an od : Option Addr} {osl : Array (Option Value)} {binds : List (Str × Value)}
    (ho : (Mine.hd.heap_1 w.params).lookup f = some ⟨oc, od, .func (fnOf name qual params body scope dV kV doc pm an cdv ct), osl⟩) (hcd : codeIn (Mine.hd.heap_1 w.params) cdv qual = true)
    (hbind : ∀ s, BindsTo s (fnOf name qual params body scope dV kV doc pm an cdv ct) ⟨vs, []⟩ binds) (hloc : ∀ y ∈ binds, scope.names.lookup y.1 = some .local) (hco : scope.isCoroutine = false) (hgen : scope.isGenerator = false) (hkd : scope.kind = .function) (hcell : ∀ x ∈ scope.names, x.2 ≠ .cell)
    {loose : List Str} {mean : ExcName → Option Value} {mg mb : Str → Option Value} {dp un : Nat} {gd : Option (List Code)} {cn : Str} {cs : Scope} {a : Addr} {ccd : Value} {cl : List (Str × Addr)} {outer : List Env} {A₀ : Around} {base h₀ : Heap} {L : Addr} {m : Str → Option Value} {s : Shared} {led : Led}
    {Q E : Value → Shared → Prop} (B : Below A₀ base outer h₀) (F : Fr h₀ L s.heap m) (X : (hd.heap_1 w.params).In h₀) (N : News h₀ L s.heap led) (T : Top topProg loose mean mg mb h₀) (hk : cs.kind = .function) (hdp : dp < recursionLimit) (P : Value → Led → Prop)
    (j : ∀ (c : Cx w scope []) (m : Str → Option Value) (R : Flow → (Str → Option Value) → Led → Led → Prop), c.base = base → (∀ y, m y = binds.reverse.lookup y) → (∀ v m o f, P v o → R (.ret v) m o f) → JX c m [] [] led body R)
    (k : ∀ v o h' tk', Fr h₀ L h' m → News h₀ L h' (o ++ led) → P v o → Q v { s with heap := h', toks := tk' }) :
    wpAny (model PySem.Challenge.rw_ot0007_01.row.prog w) (Ard dp un gd cn cs L a ccd cl outer) (call (.ref f) vs) Q E s := by
  refine wpAny_call ?_
  refine code_def B F X N T rfl rfl hk ho hcd hdp (hbind s) hloc ?_ hco hgen hkd hcell
  intro g' L' h' FG' F' N' B' X' T'
  let c : Cx w scope [] := { loose, mean, mg, mb, dp := dp + 1, un := un + 3, gd := ((Ard dp un gd cn cs L a ccd cl outer).deeper (envOf qual scope L' f cdv)).guards, cn := qual, L := L', a := f, ccd := cdv, outer := envX cn cs L a ccd cl :: outer, A₀ := _, base, h₀ := g', B := B', X := X', TP := T' }
  refine j c (fun y => binds.reverse.lookup y) (fun fl _ o _ => ∃ v, fl = .ret v ∧ P v o) rfl (fun _ => rfl) (fun v _ _ _ p => ⟨v, rfl, p⟩) _ _ _ ?hE ⟨F', N', Tups.nil⟩ fun fl m' o f' h2 tk2 a2 S2 r => ?_
  case hE => with_unfolding_all passes_own
  obtain ⟨v, e, r⟩ := r
  subst e
  exact leaveK_ a2.F a2.N fun kF kN => k v o h2 tk2 kF (fun p hp => kN p (by
    rcases List.mem_append.mp hp with hp | hp
    · exact List.mem_append.mpr (.inl hp)
    · exact List.mem_append.mpr (.inr (List.mem_append.mpr (.inr hp))))) r

end
section
theorem flushLTake : True ∧ True := by (w_top off); (first | (walk1; done) | exact ⟨True.intro, True.intro⟩)
/-! the pool's draws: a list of two ints that each draw turns -/
structure Src where
  a : Int
  b : Int
  ta : Tok
  tb : Tok
  k : Nat
  ha : 0 ≤ a
  hb : 0 ≤ b
  hb2 : b < 2147483647
noncomputable abbrev srcO (c : Src) : Obj := PySem.W.listOf [.int c.a c.ta, .int c.b c.tb].toArray c.k
noncomputable abbrev srcR (D : Addr) (tl : Led) (c : Src) : Led := (D, srcO c) :: tl
section
variable {prog : Program} {w : World} {A : Around} {E : Value → Shared → Prop} {s : Shared} {h₀ : Heap} {L D : Addr} {m : Str → Option Value} {led fz cs cs' rest : Led} {vs q : List Value} {n : Nat}
end
theorem src_back {D : Addr} {c1 : Src} {O f cs₁ tl : Led} (h : (D, srcO c1) ∈ O) : ∀ p ∈ f ++ (cs₁ ++ srcR D tl c1), p ∈ O ++ (f ++ (cs₁ ++ tl)) := fun p hp => by
  simp only [srcR, List.mem_append, List.mem_cons] at hp ⊢
  rcases hp with hp | hp | hp | hp
  · exact .inr (.inl hp)
  · exact .inr (.inr (.inl hp))
  · exact .inl (hp ▸ h)
  · exact .inr (.inr (.inr hp))
theorem src_in {D : Addr} {c0 : Src} {fz cs₁ tl : Led} : ∀ p ∈ [(D, srcO c0)] ++ (fz ++ (cs₁ ++ tl)), p ∈ fz ++ (cs₁ ++ srcR D tl c0) := fun p hp => by
  simp only [srcR, List.mem_append, List.mem_cons, List.not_mem_nil, or_false] at hp ⊢
  rcases hp with hp | hp | hp | hp <;> simp [hp]
/-- a contract of a def that draws: over any ledger that holds the pool -/
noncomputable def TelR (w : World) (fv : Value) (vs : List Value) (D : Addr) (d : Nat) (P : Value → Led → Prop) : Prop :=
  ∀ (fz cs₁ tl : Led) (c : Src), Off (cs₁ ++ tl) D → Tups fz → TelS w fv vs fz (fun c => cs₁ ++ srcR D tl c) c d (fun r fz' _ => P r fz')
theorem take_tel {w : World} {D : Addr} {top : Int} {u : Tok} (h0 : 0 < top) (h1 : top ≤ 1000) :
    TelR w (.ref 106) [.ref D, .int top u] D 6 (fun r _ => ∃ i t, r = .int i t ∧ 0 ≤ i ∧ i < top) := by
  intro fz cs₁ tl c ho hz
  have kf9 : Mine.hd.heap_1 w.params = Mine.hd.heap_1 w.params ∧ PySem.Challenge.rw_ot0007_01 = PySem.Challenge.rw_ot0007_01 := by k_fill; exact ⟨rfl, rfl⟩
  clear kf9
  refine' telS_def (own := [(D, srcO c)]) (tl := cs₁ ++ tl) ?a0 ?a1 (fun _ => ?a2) ?a3 ?a4 ?a5 ?a6 ?a7 hz ?ain ?_
  case a0 => k_is
  case a1 => k_is
  case a2 => exact BindsTo.of_eq rfl
  case a3 => exact locs rfl
  case a4 => exact rfl
  case a5 => exact rfl
  case a6 => exact rfl
  case a7 => decide
  case ain => exact src_in
  obtain ⟨a, b, ta, tb, k, ha, hb1, hb2⟩ := c
  intro c2 m R hdp hun hb hR
  have hs : m (Str.ofString "source") = some (.ref D) := hb _
  have ht : m (Str.ofString "top") = some (.int top u) := hb _
  clear hb
  have hn : top ≠ 0 := by omega
  have hbb : PySem.IntMulOk b 39373 := .of_right (by decide +kernel)
  refine JX.ifb ?_
  refine JT.cmp ?_
  refine JE.V (EV.subO hs (List.mem_cons_self ..) rfl) fun _ => ?_
  refine JE.V EV.int fun _ => ?_
  refine JG.gtI ⟨_, rfl, fun h => ?_, fun h => ?_⟩
  · refine JX.set (IV.E (IV.mod (IV.int (IV.of (EV.subO hs (List.mem_cons_self ..) rfl))) (IV.of (EV.name ht)) hn) fun t => ?_)
    refine JX.setS (q := fun t1 => [.int (a.fdiv top) t1, .int b tb]) (IV.fdiv (IV.of (EV.subO hs (List.mem_cons_self ..) rfl)) (IV.of (EV.name ht)) hn (PyProof.noPylong_small (by omega))) (EV.name hs) EV.int (by decide) (by decide) (fun _ => rfl) ho fun t1 => ?_
    exact JX.ret (JE.V (EV.name rfl) fun _ => ⟨⟨_, rfl⟩, hR _ _ _ _ ⟨a.fdiv top, b, t1, tb, k, Int.fdiv_nonneg ha (by omega), hb1, hb2⟩ ⟨_, _, rfl, Int.fmod_nonneg_of_pos _ h0, Int.fmod_lt_of_pos _ h0⟩ (src_back (List.mem_cons_self ..))⟩)
  · refine JX.setS (q := fun t1 => [.int a ta, .int ((b * 39373 + 7).fmod 2147483647) t1]) (IV.mod (IV.int (IV.add (IV.mul (IV.of (EV.subO hs (List.mem_cons_self ..) rfl)) IV.const hbb) IV.const)) IV.const (by decide)) (EV.name hs) EV.int (by decide) (by decide) (fun _ => rfl) ho fun t1 => ?_
    have hc0 : 0 ≤ (b * 39373 + 7).fmod 2147483647 := Int.fmod_nonneg_of_pos _ (by decide)
    have hc1 : (b * 39373 + 7).fmod 2147483647 < 2147483647 := Int.fmod_lt_of_pos _ (by decide)
    generalize (b * 39373 + 7).fmod 2147483647 = b' at hc0 hc1
    have hbb : PySem.IntMulOk b' b' := .of_left (PySem.intBits_le_64 (by omega) (by omega))
    have V1 : ∀ {p1 p2 p3 : Pos} {k1 : Nat}, EV c2 m [(D, PySem.W.listOf [.int a ta, .int b' t1].toArray k)] fz (cs₁ ++ tl) (.Subscript (.Name (Str.ofString "source") p1) (.Constant (.int 1) k1 p2) p3) (fun _ => .int b' t1) := EV.subO hs (List.mem_cons_self ..) rfl
    exact JX.ret (IV.E (IV.mod (IV.int (IV.fdiv (IV.mod (IV.int (IV.mul (IV.of V1) (IV.of V1) hbb)) IV.const (by decide)) IV.const (by decide) (PyProof.noPylong_small (by decide)))) (IV.of (EV.name ht)) hn) fun t => hR _ _ _ _ ⟨a, b', ta, t1, k, ha, hc0, hc1⟩ ⟨_, _, rfl, Int.fmod_nonneg_of_pos _ h0, Int.fmod_lt_of_pos _ h0⟩ (src_back (List.mem_cons_self ..)))

end
section
theorem flushLPool : True ∧ True := by (w_top off); (first | (walk1; done) | exact ⟨True.intro, True.intro⟩)
/-! the pool -/
section
variable {prog : Program} {w : World} {A : Around} {E : Value → Shared → Prop} {s : Shared} {h₀ : Heap} {L l : Addr} {m : Str → Option Value} {vs : List Value} {ns : List Int} {Q : Value → Shared → Prop}
theorem len_A (F : Fr h₀ L s.heap m) (hl : h₀.IsList l vs.toArray) (hi : IntsAre vs ns) (hn : ns.length ≤ 63) (h : ∀ t k, Q (.int (ns.length : Int) t) { s with toks := k }) : wpAny (model prog w) A (call (.builtin "len") [.ref l]) Q E s :=
  len_list (F.lst hl) (by simp [hi.length]; omega) (by simp only [List.size_toArray, hi.length]; exact h _ _)
theorem item_A {value slice : Expr} {u : Tok} (F : Fr h₀ L s.heap m) (hl : h₀.IsList l vs.toArray) (hi : IntsAre vs ns) (h0 : 0 < (ns.length : Int)) (h : ∀ n t, Q (.int n t) s)
    (hs : subscripted slice false (.ref l) (.int 0 u) = operate [.ref l, .int 0 u] (getItem (.ref l) (.int 0 u)) := by with_unfolding_all rfl) (hg : ∀ r, letTemporaryGo value (.ref l) r = pure () := by intro _; with_unfolding_all rfl) :
    wpAny (model prog w) A (subscriptTail value slice (.ref l) (.int 0 u)) Q E s := by
  cases hi with
  | nil => simp at h0
  | cons n t hi => exact item_list (F.lst hl) (by decide) (by decide) rfl (h _ _) hs hg
end
section
variable {w : World} {cs : Scope} {cl : List (Str × Addr)} {c : Cx w cs cl} {m : Str → Option Value} {own fz rest : Led} {pos p1 p2 p3 : Pos} {P : Value → Led → Led → Prop} {x y : Str} {l : Addr} {vs : List Value} {ns : List Int} {u : Tok}
theorem JE.lenA (hv : m x = some (.ref l)) (hl : c.base.IsList l vs.toArray) (hi : IntsAre vs ns) (hn : ns.length ≤ 63) (h : ∀ t, P (.int (ns.length : Int) t) own fz)
    (hk : cs.kind = .function := by rfl) (hx : (∀ cn L a ccd, (envX cn cs L a ccd cl).kindOf x = some .local) := by intros; rfl) (hd : (x == ("__debug__" : Str)) = false := by decide) (hx2 : (∀ cn L a ccd, (envX cn cs L a ccd cl).kindOf (Str.ofString "len") = some .globalImplicit) := by intros; rfl) :
    JE c m own fz rest (.Call (.Name (Str.ofString "len") p1) [.Name x p2] [] pos) P := by
  have kf9 : Mine.hd.heap_1 w.params = Mine.hd.heap_1 w.params ∧ PySem.Challenge.rw_ot0007_01 = PySem.Challenge.rw_ot0007_01 := by k_fill; exact ⟨rfl, rfl⟩
  clear kf9
  intro s Q E hE a q
  refine Call_ (nameX_B a.F c.X (topRead_of c.TP) (by k_is) (v := .builtin "len") (by boot_by_name) (by decide) ?_ hk (hx2 ..))
  refine PyProof.Rows.callWith_builtin1 ?_ rfl rfl
  exact args_cons (nameX_L a.F hv (args_nil (len_A a.F (hl.at fun o e => c.B.stays _ _ e) hi hn fun t tk => q _ own fz s.heap tk a Sub.refl (h t))) hk (hx ..) hd)
theorem JE.itemA (hv : m x = some (.ref l)) (hy : m y = some (.int 0 u)) (hl : c.base.IsList l vs.toArray) (hi : IntsAre vs ns) (h0 : 0 < (ns.length : Int)) (h : ∀ n t, P (.int n t) own fz)
    (hk : cs.kind = .function := by rfl) (hx : (∀ cn L a ccd, (envX cn cs L a ccd cl).kindOf x = some .local) := by intros; rfl) (hd : (x == ("__debug__" : Str)) = false := by decide) (hx2 : (∀ cn L a ccd, (envX cn cs L a ccd cl).kindOf y = some .local) := by intros; rfl) (hd2 : (y == ("__debug__" : Str)) = false := by decide) :
    JE c m own fz rest (.Subscript (.Name x p1) (.Name y p2) p3) P := fun s _ _ _ a q =>
  Subscript_ (nameX_L a.F hv (nameX_L a.F hy (item_A a.F (hl.at fun o e => c.B.stays _ _ e) hi h0 (fun n t => q _ own fz s.heap s.toks a Sub.refl (h n t))) hk (hx2 ..) hd2) hk (hx ..) hd)
end
theorem pool_use {w : World} {l : Addr} {vs : List Value} {ns : List Int} {t : Tok} (hi : IntsAre vs ns) (hn : ns.length ≤ 63)
    {loose : List Str} {mean : ExcName → Option Value} {mg mb : Str → Option Value} {dp un : Nat} {gd : Option (List Code)} {cn : Str} {cs : Scope} {a : Addr} {ccd : Value} {cl : List (Str × Addr)} {outer : List Env} {A₀ : Around} {base h₀ : Heap} {L : Addr} {m : Str → Option Value} {s : Shared} {led : Led}
    {Q E : Value → Shared → Prop} (hl : base.IsList l vs.toArray) (B : Below A₀ base outer h₀) (F : Fr h₀ L s.heap m) (X : (hd.heap_1 w.params).In h₀) (N : News h₀ L s.heap led) (TP : Top topProg loose mean mg mb h₀) (hk : cs.kind = .function) (hd : dp + 6 < recursionLimit) (hu : un + 8 * 6 < cLine)
    (hret : ∀ D c h' tk', Fr h₀ L h' m → News h₀ L h' ((D, srcO c) :: led) → (∀ p ∈ led, p.1 < D) → Q (.ref D) { s with heap := h', toks := tk' }) :
    wpAny (model PySem.Challenge.rw_ot0007_01.row.prog w) (Ard dp un gd cn cs L a ccd cl outer) (call (.ref 99) [.ref l, .int 0 t]) Q E s := by
  have kf9 : Mine.hd.heap_1 w.params = Mine.hd.heap_1 w.params ∧ PySem.Challenge.rw_ot0007_01 = PySem.Challenge.rw_ot0007_01 := by k_fill; exact ⟨rfl, rfl⟩
  clear kf9
  refine' wp_def ?a0 ?a1 (fun _ => ?a2) ?a3 ?a4 ?a5 ?a6 ?a7 B F X N TP hk (by omega) (fun v o => ∃ (D : Addr) (g : Src), v = .ref D ∧ (D, srcO g) ∈ o ∧ ∀ p ∈ led, p.1 < D) ?zj ?zk
  case a0 => k_is
  case a1 => k_is
  case a2 => exact BindsTo.of_eq rfl
  case a3 => exact locs rfl
  case a4 => exact rfl
  case a5 => exact rfl
  case a6 => exact rfl
  case a7 => decide
  case zk =>
    rintro _ o h' tk' F' N' ⟨D, g, rfl, hm, hlt⟩
    exact hret D g h' tk' F' (fun p hp => N' p (by
      rcases List.mem_cons.mp hp with rfl | hp
      · exact List.mem_append.mpr (.inl hm)
      · exact List.mem_append.mpr (.inr hp))) hlt
  case zj =>
    intro c m R cb hb hR
    subst cb
    have hs : m (Str.ofString "script") = some (.ref l) := hb _
    have hk0 : m (Str.ofString "k") = some (.int 0 t) := hb _
    clear hb
    refine JX.set (IV.E IV.const fun t0 => ?_)
    refine JX.cut (fun m' o f => o = [] ∧ (∃ n u, m' (Str.ofString "cell") = some (.int n u)) ∧ m' (Str.ofString "k") = some (.int 0 t)) ?cell ?more
    case cell =>
      refine JS.ite ?_
      refine JT.cmp ?_
      refine JE.V (EV.name hk0) fun _ => ?_
      refine JE.lenA hs hl hi hn fun _ => ?_
      refine JG.ltI ⟨_, rfl, fun h => ?_, fun _ => JX.nil ⟨rfl, rfl, ⟨_, _, rfl⟩, hk0⟩⟩
      refine JX.last (JS.set ?_)
      exact JE.itemA hs hk0 hl hi (of_decide_eq_true h) fun n u => ⟨rfl, rfl, ⟨_, _, rfl⟩, hk0⟩
    rintro m' o f _ ⟨rfl, ⟨n, u, hc⟩, hk1⟩
    have mulR : ∀ {a b : Int}, b.natAbs < 2 ^ 32 → PySem.IntMulOk a b := fun h => .of_right (PySem.intBits_le_64 (by omega) (by omega))
    refine JX.set (IV.E (IV.max (IV.int (IV.of (EV.name hc))) (IV.int (IV.sub IV.neg (IV.of (EV.name hc))))) fun t1 => ?_)
    have hbig : 0 ≤ (if -1 - n > n then -1 - n else n) := by split <;> omega
    generalize (if -1 - n > n then -1 - n else n) = big at hbig
    refine JX.set (IV.E (IV.mod (IV.int (IV.mul (IV.add (IV.add (IV.add (IV.mod (IV.int (IV.of (EV.name rfl))) IV.const (by decide)) (IV.mul (IV.mul IV.const (IV.of (EV.name hk1)) (mulR (by decide))) (IV.of (EV.name hk1)) (mulR (by decide)))) (IV.mul IV.const (IV.of (EV.name hk1)) (mulR (by decide)))) IV.const) IV.const (mulR (by decide)))) IV.const (by decide)) fun t2 => ?_)
    refine JX.ret ?_
    refine JE.listN ?_
    refine JA.cons ?_
    refine IV.E (IV.mul (IV.of (EV.name rfl)) (IV.ge (IV.of (EV.name rfl)) (IV.pow IV.const IV.const (by decide) (by decide) (by decide))) (mulR (by split <;> decide))) fun t3 => ?_
    refine JA.cons ?_
    refine JE.V (EV.name rfl) fun _ => ?_
    exact JA.nil ⟨rfl, fun D lD => hR _ _ _ _ ⟨D, ⟨_, _, t3, t2, 0, Int.mul_nonneg hbig (by split <;> decide), Int.fmod_nonneg_of_pos _ (by decide), Int.fmod_lt_of_pos _ (by decide)⟩, rfl, List.mem_cons_self .., fun p hp => lD p (List.mem_append.mpr (.inr (List.mem_append.mpr (.inr hp))))⟩⟩

end
section
theorem flushLJ12 : True ∧ True := by (w_top off); (first | (walk1; done) | exact ⟨True.intro, True.intro⟩)
/-! the small logic: draws from the pool, ints, an assignment to two names -/
section
variable {w : World} {cs : Scope} {cl : List (Str × Addr)} {c : Cx w cs cl} {m : Str → Option Value} {own fz rest : Led} {pos p1 p2 p3 p4 p5 : Pos} {k k2 : Nat} {P : Value → Led → Led → Prop} {e e0 e1 e2 : Expr} {R : Flow → (Str → Option Value) → Led → Led → Prop}
theorem JS.appE {D : Addr} {ws : List Value} {n : Nat} (V0 : EV c m own fz rest e0 (fun _ => .ref D)) (hD : (D, PySem.W.listOf ws.toArray n) ∈ own) (hr : Off rest D) (hsz : ws.length ≤ sizeLine) (j : JE c m own fz rest e1 (fun y o f => o = own ∧ ∃ own', Upd D (PySem.W.listOf ws.toArray n) (PySem.W.listOf (ws ++ [y]).toArray (n + 1)) own own' ∧ R .next m own' f))
    (hi : ∀ cn L a ccd, interactive (envX cn cs L a ccd cl) = false := by intros; rfl) (hs : ∀ env, swapsWith (.Call (.Attribute e0 (Str.ofString "append") p1) [e1] [] p2) none p3.line env = pure false := by intro _; rfl) {pl : Env → Sem Bool} (hm : ∀ env, eval (.Call (.Attribute e0 (Str.ofString "append") p1) [e1] [] p2) env = (do
      let ov ← eval e0 env
      standAt p1.atName
      let (f, first) ← holding [ov] (getMethod ov (Str.ofString "append") (pl env))
      callWith p2 f first (backTo p2 (starEach [e1] env)) (backToKw p2 (keywordEach [] env))) := by intro _; rfl) (he : ∀ env, starEach [e1] env = (false, eval e1 env) :: starEach [] env := by intro _; rfl) : JS c m own fz rest (.Expr (.Call (.Attribute e0 (Str.ofString "append") p1) [e1] [] p2) p3) R := fun s Q E hE a q =>
  wpAny_Expr (methodCall_KW (pl := pl c.env) (V0 s _ E hE a fun t tk => gm_append a.N (List.mem_append.mpr (.inl hD)) (callWith_method1 (args_cons (j _ _ E hE a fun y o f h tk2 a2 S2 ⟨e, own', U, hR⟩ => by
    subst e
    exact args_nil (append_P a2.F a2.N Part.ownL a2.Z U hr hsz fun h' F' N' => q .next m own' f h' tk2 ⟨F', N', a2.Z⟩ S2 hR)) (he _)) (he _) rfl)) (hm _)) (hi ..) (hs _)
theorem JX.stmt {st : Stmt} {more : List Stmt} (j : JS c m own fz rest st (fun fl m' o f => fl = .next ∧ JX c m' o f rest more R)) : JX c m own fz rest (st :: more) R := JX.cut (fun m' o f => JX c m' o f rest more R) j fun _ _ _ _ h => h
/-- a call that draws -/
theorem JH.draw {D : Addr} {c0 : Src} {O : Led} {f : Addr} {vs : List Value} {d : Nat} {P' : Value → Led → Prop} (hO : Off (O ++ rest) D) (C : Off (O ++ rest) D → Tups fz → TelS w (.ref f) vs fz (fun c => O ++ srcR D rest c) c0 d (fun r fz' _ => P' r fz')) (hin : ∀ p ∈ (D, srcO c0) :: O, p ∈ own) (hd : c.dp + d < recursionLimit) (hu : c.un + 8 * d < cLine)
    (h : ∀ r f' c1, Sub fz f' → P' r f' → P r ((D, srcO c1) :: O) f') (hk : cs.kind = .function := by rfl) : JH c m own fz rest (call (.ref f) vs) P :=
  JH.telS (C hO) hd hu (fun p hp => by
    simp only [srcR, List.mem_append, List.mem_cons] at hp
    rcases hp with hp | hp | hp | hp
    · exact List.mem_append.mpr (.inr (List.mem_append.mpr (.inl hp)))
    · exact List.mem_append.mpr (.inl (hin p (List.mem_cons_of_mem _ hp)))
    · exact List.mem_append.mpr (.inl (hin p (hp ▸ List.mem_cons_self ..)))
    · exact List.mem_append.mpr (.inr (List.mem_append.mpr (.inr hp)))) (fun r f' c1 S p => ⟨(D, srcO c1) :: O, fun p hp => by
    exact mvT [[_], O, f', rest] (.a (.a (.s 0) (.s 1)) (.a (.s 2) (.s 3))) (.a (.s 2) (.a (.s 1) (.a (.s 0) (.s 3)))) hp, h r f' c1 S p⟩) hk
/-- x[e] of a list, e no plain one -/
theorem JE.at {b : Addr} {vs : List Value} {n : Nat} (V0 : EV c m own fz rest e1 (fun _ => .ref b)) (j : JE c m own fz rest e2 (fun v o f => ∃ i u, v = .int i u ∧ (b, PySem.W.listOf vs.toArray n) ∈ o ++ (f ++ rest) ∧ 0 ≤ i ∧ i < vs.length ∧ ∀ x ∈ vs, P x o f)) (hn : Nat.ble vs.length 100 = true)
    (hs : ∀ b i u, subscripted e2 false (.ref b) (.int i u) = operate [.ref b, .int i u] (getItem (.ref b) (.int i u)) := by intros; with_unfolding_all rfl) : JE c m own fz rest (.Subscript e1 e2 pos) P := fun s Q E hE a q =>
  Subscript_ (V0 s _ E hE a fun t tk => j _ _ E hE a fun v o f h tk2 a2 S2 ⟨i, u, e, hm, h0, hi, hp⟩ => by
    subst e
    have hl : i.toNat < vs.length := by omega
    have := Nat.le_of_ble_eq_true hn
    exact sub_list a2.N hm h0 (by omega) (List.getElem?_eq_getElem hl) (q _ o f h tk2 a2 S2 (hp _ (List.getElem_mem hl))) (hs ..))
theorem EV.dec {x : Str} {i j : Int} {u : Tok} (hv : m x = some (.int i u)) (hk : cs.kind = .function := by rfl) (hx : (∀ cn L a ccd, (envX cn cs L a ccd cl).kindOf x = some .local) := by intros; rfl) (hd : (x == ("__debug__" : Str)) = false := by decide) : EV c m own fz rest (.BinOp (.Name x p1) .Sub (.Constant (.int j) k p2) pos) (fun t => .int (i - j) t) := fun s Q E hE a q =>
  wpAny_BinOp (nameX_L a.F hv (wpAny_Constant_int (PySem.P.sub_int (q _ _))) hk (hx ..) hd)
theorem EV.none : EV c m own fz rest (.Constant .none k pos) (fun _ => .none) := fun _ _ _ _ _ q => wpAny_Constant_none (q 0 _)
theorem JE.lenR {x : Str} {b : Addr} {vs : List Value} {i : Nat} (hv : m x = some (.ref b)) (hm : (b, PySem.W.listOf vs.toArray i) ∈ rest) (hn : vs.length ≤ sizeLine) (hp : ∀ t, P (.int (vs.length : Nat) t) own fz)
    (hk : cs.kind = .function := by rfl) (hx : (∀ cn L a ccd, (envX cn cs L a ccd cl).kindOf x = some .local) := by intros; rfl) (hd : (x == ("__debug__" : Str)) = false := by decide) (hx2 : (∀ cn L a ccd, (envX cn cs L a ccd cl).kindOf (Str.ofString "len") = some .globalImplicit) := by intros; rfl) :
    JE c m own fz rest (.Call (.Name (Str.ofString "len") p1) [.Name x p2] [] pos) P := by
  have kf9 : Mine.hd.heap_1 w.params = Mine.hd.heap_1 w.params ∧ PySem.Challenge.rw_ot0007_01 = PySem.Challenge.rw_ot0007_01 := by k_fill; exact ⟨rfl, rfl⟩
  clear kf9
  intro s Q E hE a q
  refine Call_ (nameX_B a.F c.X (topRead_of c.TP) (by k_is) (v := .builtin "len") (by boot_by_name) (by decide) ?_ hk (hx2 ..))
  refine PyProof.Rows.callWith_builtin1 ?_ rfl rfl
  exact args_cons (nameX_L a.F hv (args_nil (len_L a.N (List.mem_append.mpr (.inr (List.mem_append.mpr (.inr hm)))) rfl hn fun t tk => q _ own fz s.heap tk a Sub.refl (hp t))) hk (hx ..) hd)
/-- x, y = (..) -/
theorem JX.set2 {x y : Str} {more : List Stmt} (j : JE c m own fz rest e (fun v o f => ∃ b n v1 v2, v = .ref b ∧ (b, tupO [v1, v2] n) ∈ f ∧ JX c (upd (upd m y v2) x v1) o f rest more R)) (hk : cs.kind = .function := by rfl) (hx : (∀ cn L a ccd, (envX cn cs L a ccd cl).kindOf x = some .local) := by intros; rfl) (hy : (∀ cn L a ccd, (envX cn cs L a ccd cl).kindOf y = some .local) := by intros; rfl)
    (hs : ∀ env, swapsWithSole [.Tuple [.Name x p1, .Name y p2] k p3] e pos.line env = pure false := by intro _; rfl) (hw : ∀ cn L a ccd, swappedStores [.Tuple [.Name x p1, .Name y p2] k p3] e (envX cn cs L a ccd cl) = pure (some [x, y]) := by intros; with_unfolding_all rfl) : JX c m own fz rest (.Assign [.Tuple [.Name x p1, .Name y p2] k p3] e pos :: more) R := fun s Q E hE a q =>
  wpAny_execs_cons (Assign_Tuple_swapped (j s _ E hE a fun v o f h tk a' S ⟨b, n, v1, v2, ev, hb, j'⟩ => by
    subst ev
    exact unpackItemsN_ (items := #[v1, v2]) a'.F a'.N (a'.N.isTup (List.mem_append.mpr (.inr (List.mem_append.mpr (.inl hb))))) rfl rfl fun h2 F2 N2 => assignInOrder_cons (wpAny_bindName (storeX_L F2 N2 (fun h3 F3 N3 => assignInOrder_cons (wpAny_bindName (storeX_L F3 N3 (fun h4 F4 N4 => assignInOrder_nil (j' _ Q E hE ⟨F4, N4, a'.Z⟩ fun fl m' o' f' h5 tk5 a5 S5 r => q fl m' o' f' h5 tk5 a5 (S5.step S) r)) hk (hx ..)))) hk (hy ..)))) (hs _) (hw ..))
theorem JE.two {b : Bool} {i1 i2 : Int} (h : ∀ t, P (.int (if b = true then i1 else i2) t) own fz) : JE c m own fz rest (if b = true then .Constant (.int i1) k p1 else .Constant (.int i2) k2 p2) P := by cases b <;> exact JE.int h
theorem JE.letter {z : Str} {i : Int} {u : Tok} {y : Str} (hv : m z = some (.int i u)) (hy : (i = 0 ∧ y = S "X") ∨ (i = 1 ∧ y = S "Y")) (hp : ∀ t, P (.str y t) own fz) (hk : cs.kind = .function := by rfl) (hx : (∀ cn L a ccd, (envX cn cs L a ccd cl).kindOf z = some .local) := by intros; rfl) (hd : (z == ("__debug__" : Str)) = false := by decide) :
    JE c m own fz rest (.Subscript (.Constant (.str (Str.ofString "XY")) k p1) (.Name z p2) p3) P := by
  intro s Q E hE a q
  have F := a.F
  have N := a.N
  have e : Txt.item (Str.ofString "XY") i = y ∧ fitsSsize i = true ∧ -((Str.ofString "XY").length : Int) ≤ i ∧ i < (Str.ofString "XY").length := by rcases hy with ⟨rfl, rfl⟩ | ⟨rfl, rfl⟩ <;> decide +kernel
  exact Subscript_ (Calls.Constant_str (nameX_L a.F hv (PyProof.Rows.item_str e.2.1 e.2.2.1 e.2.2.2 fun _ => q _ own fz _ _ a Sub.refl (e.1 ▸ hp _)) hk (hx ..) hd))
end
theorem TyAll.of_mem {fz : Led} {vs : List Value} {Ts : List Ty} {x : Value} (h : TyAll fz vs Ts) (hx : x ∈ vs) : ∃ T, TyIn fz x T ∧ T ∈ Ts := by
  obtain ⟨i, hi, e⟩ := List.getElem_of_mem hx
  obtain ⟨T, e2, k⟩ := h.at (List.getElem?_eq_some_iff.mpr ⟨hi, e⟩)
  exact ⟨T, k, List.mem_of_getElem? e2⟩

end
section
theorem flushLJN : True ∧ True := by (w_top off); (first | (walk1; done) | exact ⟨True.intro, True.intro⟩)
/-! the small logic: cells, a def inside a def -/
section
variable {w : World} {cs : Scope} {cl : List (Str × Addr)} {c : Cx w cs cl} {m : Str → Option Value} {own fz rest : Led} {pos p1 p2 p3 p4 p5 px : Pos} {k k2 : Nat} {P : Value → Led → Led → Prop} {B : Bool → Led → Led → Prop} {e e0 e1 e2 : Expr} {R : Flow → (Str → Option Value) → Led → Led → Prop} {more : List Stmt}
/-- y = e, where y is a cell -/
theorem JX.setC {y : Str} (j : JE c m own fz rest e (fun v o f => ∃ ca o0 v0 g, cl.lookup y = some ca ∧ UpdF ca o0 o g ∧ o0.data = .cell v0 ∧ Off rest ca ∧ ∀ o', o'.data = .cell (some v) → JX c m (g o') f rest more R)) (hk : cs.kind = .function := by rfl) (hx : (∀ cn L a ccd, (envX cn cs L a ccd cl).kindOf y = some .cell) := by intros; rfl)
    (hs : ∀ env, swapsWith e (some (.Name y p1)) pos.line env = pure false := by intro _; rfl) : JX c m own fz rest (.Assign [.Name y p1] e pos :: more) R := fun s Q E hE a q =>
  wpAny_execs_cons (wpAny_Assign_Name (j s _ E hE a fun v o f h tk a' S ⟨ca, o0, v0, g, hc, U, hd, hr, j'⟩ => store_P a'.F a'.N Part.ownL a'.Z hc U hd hr (fun h' o' F' N' d' => j' o' d' _ Q E hE ⟨F', N', a'.Z⟩ fun fl m' o2 f2 h2 tk2 a2 S2 r => q fl m' o2 f2 h2 tk2 a2 (S2.step S) r) hk (hx ..)) (hs _))
theorem EV.free {x : Str} {v : Value} {ca : Addr} {o : Obj} (hc : cl.lookup x = some ca) (hm : (ca, o) ∈ rest) (ho : o.data = .cell (some v)) (hk : cs.kind = .function := by rfl) (hx : (∀ cn L a ccd, (envX cn cs L a ccd cl).kindOf x = some .free) := by intros; rfl) (hd : (x == ("__debug__" : Str)) = false := by decide) (hn : (x == ("__classdict__" : Str)) = false := by decide) : EV c m own fz rest (.Name x pos) (fun _ => v) :=
  fun s _ _ _ a q => nameX_F a.N hc (List.mem_append.mpr (.inr (List.mem_append.mpr (.inr hm)))) ho (q 0 s.toks) hk (hx ..) hd hn
/-- def name(..): body, inside a def -/
theorem JX.nest {name : Str} {params : Arguments} {body : List Stmt} {scope' : Scope} {clos : List (Str × Addr)} {c0 P0 : Addr} {qual : Str} {t own0 : Led} (hq : qualnameIn c.env name name = qual) (hd0 : params.defaults = []) (hk0 : params.kw_defaults = []) (ha : annTrees params none c.env = []) (Md : Made P0 qual pos t) (O1 : Off own0 P0) (O2 : Off rest P0) (C : CodeHd c.h₀ c0 P0) (hcc : c.ccd = .ref c0) (hin : ∀ p ∈ t ++ own0, p ∈ own) (hcl : closureFor scope' c.env = pure clos)
    (h : ∀ f c' oc vs tq ctv doc pm t', Made P0 qual pos t' → (c', oc) ∈ t' → oc.data = .fields vs → vs[1]? = some (.str qual tq) → (∀ p ∈ own0 ++ (t ++ rest), p.1 < f) → (∀ x o, (x, o) ∈ own0 → Off t x → Off t' x) → JX c (upd m name (.ref f)) ((f, fnMade name qual params body scope' clos doc pm c' ctv) :: (t' ++ own0)) fz rest more R)
    (hk : cs.kind = .function := by rfl) (hx : (∀ cn L a ccd, (envX cn cs L a ccd cl).kindOf name = some .local) := by intros; rfl) : JX c m own fz rest (.FunctionDef name params body [] none [] scope' none name pos :: more) R := fun s Q E hE a q => by
  refine wpAny_execs_cons (nestDef_K hd0 hk0 ha ?_)
  rw [hq]
  refine made_nest (own := own0) (fz := fz) (t := t) (rest := rest) (led := own0 ++ (fz ++ (t ++ rest))) a.F (fun p hp => a.N p ?_) Part.ownL a.Z Md O1 O2 c.TP C hcc hcl fun f fo c' oc vs tq ctv doc t' h' tk e F' N' M' m1 d1 v1 U of9 => ?_
  · simp only [List.mem_append] at hp ⊢
    rcases hp with hp | hp | hp | hp
    · exact .inl (hin p (List.mem_append.mpr (.inr hp)))
    · exact .inr (.inl hp)
    · exact .inl (hin p (List.mem_append.mpr (.inl hp)))
    · exact .inr (.inr hp)
  · subst e
    refine storeX_L F' N' (fun h2 F2 N2 => h f c' oc vs tq ctv doc ((c.mg "__name__").getD .none) t' M' m1 d1 v1 (fun p hp => U.lt p ?_) of9 _ Q E hE ⟨F2, fun p hp => N2 p ?_, a.Z⟩ fun fl m' o2 f2 h3 tk3 a3 S3 r => q fl m' o2 f2 h3 tk3 a3 S3 r) hk (hx ..)
    · exact mvT [own0, fz, t, rest] (.a (.s 0) (.a (.s 2) (.s 3))) (.a (.s 0) (.a (.s 1) (.a (.s 2) (.s 3)))) hp
    · exact mvT [[_], t', own0, fz, rest] (.a (.a (.s 0) (.a (.s 1) (.s 2))) (.a (.s 3) (.s 4))) (.a (.s 0) (.a (.s 2) (.a (.s 3) (.a (.s 1) (.s 4))))) hp
end
/-- entering a def made inside a def, whose own entries may change -/
theorem telS_nest {w : World} {fz : Led} {σ : Type} {Rl : σ → Led} {st : σ} {own tl : Led} {f c' : Addr} {oc : Obj} {args : List Value} {d : Nat} {P : Value → Led → σ → Prop} {name qual : Str} {params : Arguments} {body : List Stmt} {scope : Scope} {cl : List (Str × Addr)} {doc pm ctv : Value} {vs : Array Value} {tq : Tok} {binds : List (Str × Value)} (hf : (f, fnMade name qual params body scope cl doc pm c' ctv) ∈ tl) (hc : (c', oc) ∈ tl) (hd : oc.data = .fields vs) (hv : vs[1]? = some (.str qual tq)) (hz : Tups fz)
    (hbind : ∀ s, BindsTo s (fnX name qual params body scope cl .none .none doc pm none (.ref c') ctv) ⟨args, []⟩ binds) (hloc : ∀ y ∈ binds, scope.names.lookup y.1 = some .local) (hco : scope.isCoroutine = false) (hgen : scope.isGenerator = false) (hkd : scope.kind = .function) (hcell : ∀ x ∈ scope.names, x.2 ≠ .cell) (h0 : 0 < d) (hin : ∀ p ∈ own ++ (fz ++ tl), p ∈ fz ++ Rl st)
    (j : ∀ (c : Cx w scope cl) (m : Str → Option Value) (R : Flow → (Str → Option Value) → Led → Led → Prop), (∀ y, m y = binds.reverse.lookup y) → (∀ v m o f st', P v f st' → (∀ p ∈ f ++ Rl st', p ∈ o ++ (f ++ tl)) → R (.ret v) m o f) → JX c m own fz tl body R) : TelS w (.ref f) args fz Rl st d P := by
  intro loose mean mg mb dp un gd cn cs a ccd cl₀ outer A₀ base h₀ L m s Q E B F X N0 T hk hdp hu hret
  have N := fun p hp => N0 p (hin p hp)
  refine wpAny_call ?_
  refine code_nest B F X N T rfl rfl hk (List.mem_append.mpr (.inr (List.mem_append.mpr (.inr hf)))) (codeRec_news N (List.mem_append.mpr (.inr (List.mem_append.mpr (.inr hc)))) hd hv) ?_ (hbind s) hloc ?_ hco hgen hkd hcell
  · show dp < recursionLimit; omega
  · intro g' L' h' FG' F' N' B' X' T'
    let c : Cx w scope cl := { loose, mean, mg, mb, dp := dp + 1, un := un + 3, gd := ((Ard dp un gd cn cs L a ccd cl₀ outer).deeper (envX qual scope L' f (.ref c') cl)).guards, cn := qual, L := L', a := f, ccd := .ref c', outer := envX cn cs L a ccd cl₀ :: outer, A₀ := _, base, h₀ := g', B := B', X := X', TP := T' }
    refine j c (fun y => binds.reverse.lookup y) (fun fl _ o f => ∃ st', P (match fl with | .ret v => v | _ => .none) f st' ∧ ∀ p ∈ f ++ Rl st', p ∈ o ++ (f ++ tl)) (fun _ => rfl) (fun v m o f st' p h => ⟨st', p, h⟩) _ _ _ ?hE ⟨F', N', hz⟩ fun fl m' o f' h2 tk2 a2 S2 r => ?_
    case hE => with_unfolding_all passes_own
    obtain ⟨st', r, hh⟩ := r
    exact leaveK_ a2.F a2.N fun kF kN => hret _ f' st' h2 tk2 kF (fun p hp => kN p (hh p hp)) S2 a2.Z r
/-- entering a def with one cell, not yet bound, that gives back a list of its own and may fill its code table -/
theorem telM_def {w : World} {fz rest t : Led} {Md : Led → Prop} {f : Addr} {vs : List Value} {d : Nat} {Pp : List Value → Prop} {x : Str} {name qual : Str} {params : Arguments} {body : List Stmt} {scope : Scope} {dV kV doc pm cdv ct oc : Value} {an od : Option Addr} {osl : Array (Option Value)} {binds : List (Str × Value)}
    (ho : (Mine.hd.heap_1 w.params).lookup f = some ⟨oc, od, .func (fnOf name qual params body scope dV kV doc pm an cdv ct), osl⟩) (hcd : codeIn (Mine.hd.heap_1 w.params) cdv qual = true)
    (hbind : ∀ s, BindsTo s (fnOf name qual params body scope dV kV doc pm an cdv ct) ⟨vs, []⟩ binds) (hloc : (binds.all fun y => scope.names.lookup y.1 == some .local || scope.names.lookup y.1 == some .cell) = true) (hnd : ((cellsFrom 0 scope.names []).map (·.1)).Nodup) (hco : scope.isCoroutine = false) (hgen : scope.isGenerator = false) (hkd : scope.kind = .function)
    (hcf : ∀ n, cellsFrom n scope.names [] = [(x, n)]) (hz : Tups fz)
    (j : ∀ (ca : Addr) (oa : Obj) (v0 : Option Value) (c : Cx w scope [(x, ca)]) (m : Str → Option Value) (R : Flow → (Str → Option Value) → Led → Led → Prop), oa.data = .cell v0 → (∀ p ∈ fz ++ (t ++ rest), @LT.lt Nat _ p.1 ca) → c.ccd = cdv → c.cn = qual → c.dp + d < recursionLimit + 1 → c.un + 8 * d < cLine + 8 → (∀ y, m y = bindL (envOfC qual scope c.L f cdv).kindOf binds (fun _ => none) y) →
      (∀ D vals k t' m o f, (∀ p ∈ (D, PySem.W.listOf vals.toArray k) :: t', p ∈ o) → Md t' → Off (t ++ rest) D → Pp vals → R (.ret (.ref D)) m o f) → JX c m ((ca, oa) :: t) fz rest body R) : TelM w f vs fz rest Md t d Pp := by
  intro loose mean mg mb dp un gd cn cs a ccd cl outer A₀ base h₀ L m s Q E B F X N T hk hdp hu hret
  refine wpAny_call ?_
  refine code_defC B F X N T rfl rfl hk ho hcd ?_ (hbind s) hloc hnd ?_ hco hgen hkd
  · show dp < recursionLimit; omega
  · intro g' L' h' tk cells FG' F' N' Y B' X' T' lt
    rw [hcf] at Y
    obtain ⟨oa, e, hoa⟩ := Y.one
    subst e
    have ecl : cellsFrom (L' + 1) scope.names [] = [(x, L' + 1)] := hcf _
    let c : Cx w scope [(x, L' + 1)] := { loose, mean, mg, mb, dp := dp + 1, un := un + 3, gd := ((Ard dp un gd cn cs L a ccd cl outer).deeper (envX qual scope L' f cdv [(x, L' + 1)])).guards, cn := qual, L := L', a := f, ccd := cdv, outer := envX cn cs L a ccd cl :: outer, A₀ := _, base, h₀ := g', B := B', X := X', TP := T' }
    have J := j (L' + 1) oa _ c (bindL (envOfC qual scope L' f cdv).kindOf binds fun _ => none) (fun fl _ o _ => ∃ D vals k t', fl = .ret (.ref D) ∧ (∀ p ∈ (D, PySem.W.listOf vals.toArray k) :: t', p ∈ o) ∧ Md t' ∧ Off (t ++ rest) D ∧ Pp vals) hoa (fun p hp => Nat.lt_succ_of_lt (lt p hp)) rfl rfl (by show dp + 1 + d < _; omega) (by show un + 3 + 8 * d < _; omega) (fun _ => rfl) (fun D vals k t' _ _ _ h1 h2 h3 h4 => ⟨D, vals, k, t', rfl, h1, h2, h3, h4⟩)
    have e1 : envOfC qual scope L' f cdv = c.env := by
      show envOfC qual scope L' f cdv = envX qual scope L' f cdv [(x, L' + 1)]
      rw [← ecl]; rfl
    have e2 : (Ard dp un gd cn cs L a ccd cl outer).deeper c.env = c.A := rfl
    rw [e1, e2]
    refine J _ _ _ ?hE ⟨F', fun p hp => N' p (by
      exact mvT [[_], t, fz, rest] (.a (.a (.s 0) (.s 1)) (.a (.s 2) (.s 3))) (.a (.s 0) (.a (.s 2) (.a (.s 1) (.s 3)))) hp), hz⟩ fun fl m' o f' h2 tk2 a2 S2 r => ?_
    case hE => with_unfolding_all passes_own
    obtain ⟨D, vals, k, t', e, h1, h3, h4, h5⟩ := r
    subst e
    exact leaveK_ a2.F a2.N fun kF kN => hret D vals k t' f' h2 tk2 kF (fun p hp => kN p (by
      rcases List.mem_cons.mp hp with rfl | hp
      · exact List.mem_append.mpr (.inl (h1 _ (List.mem_cons_self ..)))
      · rcases List.mem_append.mp hp with hp | hp
        · exact List.mem_append.mpr (.inr (List.mem_append.mpr (.inl hp)))
        · rcases List.mem_append.mp hp with hp | hp
          · exact List.mem_append.mpr (.inl (h1 _ (List.mem_cons_of_mem _ hp)))
          · exact List.mem_append.mpr (.inr (List.mem_append.mpr (.inr hp))))) h3 h4 S2 a2.Z h5

end
section
theorem flushLRin : True ∧ True := by (w_top off); (first | (walk1; done) | exact ⟨True.intro, True.intro⟩)
theorem gt_ne' {a b : Addr} (h : @LT.lt Nat _ a b) : b ≠ a := fun e => Nat.lt_irrefl a (by rw [e] at h; exact h)
noncomputable def regsL : Ty → List Reg
  | .ref r _ t => r :: regsL t
  | .box t | .array t => regsL t
  | .pair t u => regsL t ++ regsL u
  | .adt r q t u => r :: q :: (regsL t ++ regsL u)
  | _ => []
structure FSt where
  vals : List Value
  k : Nat
  regs : List Reg
  ok : RegAll vals regs
noncomputable def noteF : Reg → List Reg → Reg × List Reg := fun r l => (r, l ++ [r])
noncomputable def noteOk : Reg → List Reg → Prop := fun _ l => l.length < 8000000
theorem note_wr : ∀ (T : Ty) (l : List Reg), wrS noteF T l = (T, l ++ regsL T) := by
  intro T
  induction T <;> intro l <;> simp_all [wrS, noteF, regsL]
theorem note_l {l : List Reg} {r : Reg} {n k : Nat} (h : l.length + (n + 1) < k) : (l ++ [r]).length + n < k := by rw [List.length_append, Nat.add_assoc, Nat.add_comm [r].length]; exact h
theorem note_2 {T U : Ty} {l : List Reg} (i1 : ∀ l : List Reg, l.length + (regsL T).length < 8000000 → regsOk noteF noteOk T l) (i2 : ∀ l : List Reg, l.length + (regsL U).length < 8000000 → regsOk noteF noteOk U l) (h : l.length + (regsL T ++ regsL U).length < 8000000) :
    regsOk noteF noteOk T l ∧ regsOk noteF noteOk U (wrS noteF T l).2 := by
  rw [List.length_append] at h
  refine ⟨i1 _ (Nat.lt_of_le_of_lt (Nat.add_le_add_left (Nat.le_add_right ..) _) h), i2 _ ?_⟩
  rw [note_wr, List.length_append, Nat.add_assoc]
  exact h
theorem note_ok : ∀ (T : Ty) (l : List Reg), l.length + (regsL T).length < 8000000 → regsOk noteF noteOk T l := by
  intro T
  induction T with
  | ref r m t ih => exact fun l h => ⟨Nat.lt_of_le_of_lt (Nat.le_add_right ..) h, ih _ (note_l h)⟩
  | box t ih => exact fun l h => ih _ h
  | array t ih => exact fun l h => ih _ h
  | pair t u i1 i2 => exact fun l h => note_2 i1 i2 h
  | adt r q t u i1 i2 => exact fun l h => ⟨Nat.lt_of_le_of_lt (Nat.le_add_right ..) h, Nat.lt_of_le_of_lt (Nat.le_add_right ..) (note_l (r := r) h), note_2 i1 i2 (note_l (r := q) (note_l (r := r) h))⟩
  | _ => exact fun l h => trivial
theorem sz2 {a b s t : Nat} (ha : a ≤ 2 * s) (hb : b ≤ 2 * t) : a + b + 2 ≤ 2 * (s + t + 1) := Nat.add_le_add_right (Nat.le_trans (Nat.add_le_add ha hb) (Nat.le_of_eq (Nat.mul_add ..).symm)) 2
theorem regsL_size (T : Ty) : (regsL T).length ≤ 2 * size T := by
  induction T with
  | ref r m t ih => exact Nat.le_succ_of_le (Nat.succ_le_succ ih)
  | box t ih | array t ih => exact Nat.le_trans ih (Nat.le_add_right _ 2)
  | pair t u i1 i2 => exact Nat.le_of_add_right_le (Nat.le_trans (Nat.le_of_eq (congrArg (· + 2) (List.length_append (as := regsL t)))) (sz2 i1 i2))
  | adt r q t u i1 i2 => exact Nat.le_trans (Nat.le_of_eq (congrArg (· + 2) (List.length_append (as := regsL t)))) (sz2 i1 i2)
  | _ => exact Nat.le_of_ble_eq_true rfl
theorem note_room {T : Ty} (h : height T ≤ 20) : regsOk noteF noteOk T [] := note_ok T [] (Nat.lt_of_le_of_lt (Nat.le_trans (Nat.le_of_eq (Nat.zero_add _)) (Nat.le_trans (regsL_size T) (Nat.mul_le_mul_left 2 (size_room h)))) (Nat.le_of_ble_eq_true rfl))
theorem RegAll.length {vs : List Value} {rs : List Reg} (h : RegAll vs rs) : vs.length = rs.length := by
  induction h with
  | nil => rfl
  | cons _ _ ih => simp [ih]
theorem note_room2 {c : FSt} {r : Reg} (h : noteOk r c.regs) : c.vals.length ≤ sizeLine := by
  rw [c.ok.length, PySem.sizeLine_eq]; exact Nat.le_of_lt (Nat.lt_trans h (Nat.le_of_ble_eq_true rfl))
noncomputable def noteR (l f C : Addr) (fo oC : Obj) (tl : Led) (c : FSt) : Led := (l, PySem.W.listOf c.vals.toArray c.k) :: (f, fo) :: (C, oC) :: tl
set_option maxHeartbeats 200000 in
theorem note_use {l f C : Addr} {fo oC : Obj} {tl fz : Led} {v : Value} {U : Ty} {j : Nat}
    {w : World} {loose : List Str} {mean : ExcName → Option Value} {mg mb : Str → Option Value} {dp un : Nat} {gd : Option (List Code)} {cn : Str} {cs : Scope} {a : Addr} {ccd : Value} {cl : List (Str × Addr)} {outer : List Env} {A₀ : Around} {base h₀ : Heap} {L : Addr} {m : Str → Option Value} {s : Shared}
    {Q E : Value → Shared → Prop} (N : News h₀ L s.heap ((f, fo) :: (l, PySem.W.listOf ([] : List Value).toArray j) :: (C, oC) :: (fz ++ tl))) (hfd : ∃ fd, fo.data = .func fd) (ho : Off tl l)
    (does : ∀ (cs fz : Led) (r : Reg) (rv : Value) (c : FSt), noteOk r c.regs → RegV rv r → Tups fz → Off (cs ++ tl) l → TelS w (.ref f) [rv] fz (fun c => cs ++ noteR l f C fo oC tl c) c 6 (fun v _ c' => RegV v (noteF r c.regs).1 ∧ c'.regs = (noteF r c.regs).2))
    (hT : TyIn fz v U) (hz : Tups fz) (hh : height U ≤ 20) (B : Below A₀ base outer h₀) (F : Fr h₀ L s.heap m) (X : (hd.heap_1 w.params).In h₀) (T : Top topProg loose mean mg mb h₀) (hk : cs.kind = .function) (hd : dp + (12 * height U + 26) < recursionLimit) (hu : un + 8 * (12 * height U + 26) < cLine)
    (k : ∀ r fz' (c' : FSt) h' tk', Fr h₀ L h' m → News h₀ L h' ((l, PySem.W.listOf c'.vals.toArray c'.k) :: (f, fo) :: (C, oC) :: (fz' ++ tl)) → Sub fz fz' → Tups fz' → c'.regs = regsL U → Q r { s with heap := h', toks := tk' }) :
    wpAny (model PySem.Challenge.rw_ot0007_01.row.prog w) (Ard dp un gd cn cs L a ccd cl outer) (call (.ref 38) [v, .ref f]) Q E s := by
  obtain ⟨fd, hfd⟩ := hfd
  have ch : ChOk w f (noteR l f C fo oC tl) FSt.regs noteF noteOk 6 := ⟨.led (fo := fo) (fun c => .tail _ (.head _)) hfd, fun _ _ => rfl, fun cs fz r rv c ok hr hz ap => does cs fz r rv c ok hr hz (Off.app ⟨fun p hp => ap.off p hp (l, PySem.W.listOf c.vals.toArray c.k) (.head _)⟩ ho)⟩
  refine TelS.use0 (c := (⟨[], j, [], .nil⟩ : FSt)) (reg_all U ch hT hz (note_room hh)) (fun p hp => ?_) B F X N T hk hd hu fun r fz' c' h' tk' F' N' S' Z' p' => k r fz' c' h' tk' F' (fun p hp => N' p ?_) S' Z' (by have := p'.2; rw [note_wr] at this; simpa using this)
  · simp only [noteR, List.mem_append, List.mem_cons] at hp ⊢
    rcases hp with hp | hp | hp | hp | hp <;> simp [hp]
  · simp only [noteR, List.mem_append, List.mem_cons] at hp ⊢
    rcases hp with hp | hp | hp | hp | hp <;> simp [hp]
theorem JH.note {w : World} {cs : Scope} {cl : List (Str × Addr)} {c : Cx w cs cl} {m : Str → Option Value} {own fz rest : Led} {P : Value → Led → Led → Prop} {l f C : Addr} {fo oC : Obj} {own0 : Led} {v : Value} {U : Ty} {j : Nat} (hin : ∀ p ∈ (f, fo) :: (l, PySem.W.listOf ([] : List Value).toArray j) :: (C, oC) :: own0, p ∈ own) (hfd : ∃ fd, fo.data = .func fd) (ho : Off (own0 ++ rest) l)
    (does : ∀ (cs fz : Led) (r : Reg) (rv : Value) (c : FSt), noteOk r c.regs → RegV rv r → Tups fz → Off (cs ++ (own0 ++ rest)) l → TelS w (.ref f) [rv] fz (fun c => cs ++ noteR l f C fo oC (own0 ++ rest) c) c 6 (fun v _ c' => RegV v (noteF r c.regs).1 ∧ c'.regs = (noteF r c.regs).2))
    (hT : TyIn fz v U) (hh : height U ≤ 20) (hd : c.dp + (12 * height U + 26) < recursionLimit) (hu : c.un + 8 * (12 * height U + 26) < cLine) (k : ∀ r f' (g : FSt), g.regs = regsL U → P r ((l, PySem.W.listOf g.vals.toArray g.k) :: (f, fo) :: (C, oC) :: own0) f') (hk : cs.kind = .function := by rfl) : JH c m own fz rest (call (.ref 38) [v, .ref f]) P := fun s Q E a q =>
  note_use (tl := own0 ++ rest) (fun p hp => a.N p (by
    simp only [List.mem_append, List.mem_cons] at hp hin ⊢
    rcases hp with hp | hp | hp | hp | hp | hp
    · exact .inl (hin p (.inl hp))
    · exact .inl (hin p (.inr (.inl hp)))
    · exact .inl (hin p (.inr (.inr (.inl hp))))
    · exact .inr (.inl hp)
    · exact .inl (hin p (.inr (.inr (.inr hp))))
    · exact .inr (.inr hp))) hfd ho does hT a.Z hh c.B a.F c.X c.TP hk hd hu fun r f' g h' tk' F' N' S' Z' e => q r ((l, PySem.W.listOf g.vals.toArray g.k) :: (f, fo) :: (C, oC) :: own0) f' h' tk' ⟨F', fun p hp => N' p (by
    exact mvT [[_], [_], [_], own0, f', rest] (.a (.a (.s 0) (.a (.s 1) (.a (.s 2) (.s 3)))) (.a (.s 4) (.s 5))) (.a (.s 0) (.a (.s 1) (.a (.s 2) (.a (.s 4) (.a (.s 3) (.s 5)))))) hp), Z'⟩ S' (k r f' g e)
theorem regions_tel {w : World} {v : Value} {T : Ty} {fz rest t : Led} (hT : TyIn fz v T) (hz : Tups fz) (hh : height T ≤ 20) (Md : Made 54 (S "regions_in.<locals>.noted") ⟨39, 4, 41, 21⟩ t) (hO : Off rest 54) : TelM w 59 [v] fz rest (Made 54 (S "regions_in.<locals>.noted") ⟨39, 4, 41, 21⟩) t (12 * height T + 60) (fun vals => RegAll vals (regsL T)) := by
  obtain ⟨ps, hps⟩ := Md.mem
  have kf9 : Mine.hd.heap_1 w.params = Mine.hd.heap_1 w.params ∧ PySem.Challenge.rw_ot0007_01 = PySem.Challenge.rw_ot0007_01 := by k_fill; exact ⟨rfl, rfl⟩
  clear kf9
  refine' telM_def ?a0 ?a1 (fun _ => ?a2) ?a3 ?a4 ?a5 ?a6 ?a7 (fun _ => ?a8) (hz) ?_
  case a0 => k_is
  case a1 => k_is
  case a2 => exact BindsTo.of_eq rfl
  case a3 => exact rfl
  case a4 => decide +kernel
  case a5 => exact rfl
  case a6 => exact rfl
  case a7 => exact rfl
  case a8 => exact rfl
  intro ca oa v0 c m R hoa hlt hccd hcn hdp hun hb hR
  have ht : m (Str.ofString "told") = some v := hb _
  clear hb
  have hw : nsIn (Mine.hd.heap_1 w.params) mainGlobals (Str.ofString "with_regions") = some (some (.ref 38)) ∧ keepIn (Mine.hd.heap_1 w.params) (.ref 38) = true := ⟨by k_is, by k_is⟩
  have b5 : @LT.lt Nat _ 54 ca := hlt (54, tabObj ps) (List.mem_append.mpr (.inr (List.mem_append.mpr (.inl hps))))
  refine JX.setC ?_
  refine JE.listN ?_
  refine JA.nil ⟨rfl, fun l hl => ?_⟩
  have lC : @LT.lt Nat _ ca l := hl (ca, oa) (List.mem_append.mpr (.inl (List.mem_cons_self ..)))
  have lT : Off t l := .lt fun p hp => hl p (List.mem_append.mpr (.inl (.tail _ hp)))
  have lR : Off rest l := .lt fun p hp => hl p (List.mem_append.mpr (.inr (List.mem_append.mpr (.inr hp))))
  clear hl
  refine ⟨ca, oa, v0, _, rfl, .tail (gt_ne' lC) (.head fun p hp => Nat.ne_of_lt (hlt p (List.mem_append.mpr (.inr (List.mem_append.mpr (.inl hp)))))), hoa, ⟨fun p hp => Nat.ne_of_lt (hlt p (List.mem_append.mpr (.inr (List.mem_append.mpr (.inr hp)))))⟩, fun oa' hoa' => ?_⟩
  refine JX.nest (c0 := 58) (own0 := [(l, PySem.W.listOf ([] : List Value).toArray 0), (ca, oa')]) ?hq rfl rfl ?ha Md ?O1 hO (codeHd_of_K c.X (by with_unfolding_all rfl)) hccd ?hin rfl fun f c' oc vs tq ctv doc pm t' M' m1 d1 v1 hf of9 => ?_
  case hq => show qualnameIn (envX c.cn _ _ _ _ _) _ _ = _; rw [hcn]; rfl
  case ha => rfl
  case O1 => exact ⟨fun p hp => by
    rcases List.mem_cons.mp hp with rfl | hp
    · exact gt_ne' (Nat.lt_trans b5 lC)
    · exact List.mem_singleton.mp hp ▸ gt_ne' b5⟩
  case hin => intro p hp; exact mvT [t, [_], [_]] (.a (.s 0) (.a (.s 1) (.s 2))) (.a (.s 1) (.a (.s 2) (.s 0))) hp
  have hfl : @LT.lt Nat _ l f := hf (l, _) (List.mem_cons_self ..)
  have hlT' : Off t' l := of9 _ _ (List.mem_cons_self ..) lT
  clear hf of9
  generalize hfo : fnMade _ _ _ _ _ _ doc pm c' ctv = fo
  refine JX.expr ?_
  refine JE.call hw.1 hw.2 (JA.two (EV.name ht) (EV.name rfl) fun _ _ => ?_)
  refine JH.G ?_
  refine JH.note (own0 := t') (l := l) (j := 0) (C := ca) (oC := oa') (fo := fo) ?hin2 ⟨_, by rw [← hfo]⟩ (Off.app hlT' lR) ?does hT hh (by omega) (by omega) fun r9 f9 g hg => ?_
  case hin2 =>
    intro p hp
    rcases List.mem_cons.mp hp with rfl | hp
    · exact List.mem_cons_self ..
    · refine .tail _ (List.mem_append.mpr ?_)
      rcases List.mem_cons.mp hp with rfl | hp
      · exact .inr (List.mem_cons_self ..)
      · rcases List.mem_cons.mp hp with rfl | hp
        · exact .inr (.tail _ (List.mem_cons_self ..))
        · exact .inl hp
  case does =>
    intro cs9 fz9 r9 rv9 c9 ok9 hr9 hz9 off9
    have hoff : Off (cs9 ++ ((f, fo) :: (ca, oa') :: (t' ++ rest))) l := ⟨fun p hp => by
      rcases List.mem_append.mp hp with hp | hp
      · exact off9.off p (List.mem_append.mpr (.inl hp))
      · rcases List.mem_cons.mp hp with rfl | hp
        · exact gt_ne' hfl
        · rcases List.mem_cons.mp hp with rfl | hp
          · exact Nat.ne_of_lt lC
          · exact off9.off p (List.mem_append.mpr (.inr hp))⟩
    have hmf : (f, fo) ∈ cs9 ++ ((f, fo) :: (ca, oa') :: (t' ++ rest)) := List.mem_append.mpr (.inr (List.mem_cons_self ..))
    have hmc : (c', oc) ∈ cs9 ++ ((f, fo) :: (ca, oa') :: (t' ++ rest)) := List.mem_append.mpr (.inr (.tail _ (.tail _ (List.mem_append.mpr (.inl m1)))))
    have hma : (ca, oa') ∈ cs9 ++ ((f, fo) :: (ca, oa') :: (t' ++ rest)) := List.mem_append.mpr (.inr (.tail _ (List.mem_cons_self ..)))
    have hin3 : ∀ p ∈ [(l, PySem.W.listOf c9.vals.toArray c9.k)] ++ (fz9 ++ (cs9 ++ ((f, fo) :: (ca, oa') :: (t' ++ rest)))), p ∈ fz9 ++ (cs9 ++ noteR l f ca fo oa' (t' ++ rest) c9) := by
      intro p hp
      exact mvT [[_], fz9, cs9, [_], [_], t', rest] (.a (.s 0) (.a (.s 1) (.a (.s 2) (.a (.s 3) (.a (.s 4) (.a (.s 5) (.s 6))))))) (.a (.s 1) (.a (.s 2) (.a (.s 0) (.a (.s 3) (.a (.s 4) (.a (.s 5) (.s 6))))))) hp
    have hout : ∀ (c8 : FSt), ∀ p ∈ fz9 ++ (cs9 ++ noteR l f ca fo oa' (t' ++ rest) c8), p ∈ [(l, PySem.W.listOf c8.vals.toArray c8.k)] ++ (fz9 ++ (cs9 ++ ((f, fo) :: (ca, oa') :: (t' ++ rest)))) := by
      intro c8 p hp
      exact mvT [[_], fz9, cs9, [_], [_], t', rest] (.a (.s 1) (.a (.s 2) (.a (.s 0) (.a (.s 3) (.a (.s 4) (.a (.s 5) (.s 6))))))) (.a (.s 0) (.a (.s 1) (.a (.s 2) (.a (.s 3) (.a (.s 4) (.a (.s 5) (.s 6))))))) hp
    subst hfo
    refine telS_nest hmf hmc d1 v1 hz9 (fun _ => BindsTo.of_eq rfl) (locs rfl) rfl rfl rfl (by decide) (by decide) hin3 fun c m R hb hR => ?_
    refine JX.stmt (JS.app (EV.free rfl hma hoa') (EV.name (hb _)) (List.mem_cons_self ..) (Upd.head (List.forall_mem_nil _)) hoff (note_room2 ok9) ⟨rfl, ?_⟩)
    exact JX.ret (JE.V (EV.name (hb _)) fun _ => hR _ _ _ _ ⟨c9.vals ++ [rv9], c9.k + 1, c9.regs ++ [r9], c9.ok.snoc hr9⟩ ⟨hr9, rfl⟩ (hout _))
  refine JX.ret (JE.V (EV.cell rfl (.tail _ (.tail _ (List.mem_cons_self ..))) hoa') fun _ => hR l g.vals g.k t' _ _ _ (fun p hp => ?_) M' (Off.app lT lR) (hg ▸ g.ok))
  rcases List.mem_cons.mp hp with rfl | hp
  · exact List.mem_cons_self ..
  · exact .tail _ (.tail _ (.tail _ hp))

end
section
theorem flushLOne : True ∧ True := by (w_top off); (first | (walk1; done) | exact ⟨True.intro, True.intro⟩)
theorem RegAll.length' {vs : List Value} {rs : List Reg} (h : RegAll vs rs) : vs.length = rs.length := by
  induction h with
  | nil => rfl
  | cons _ _ ih => simp [ih]
/-- _law_one -/
theorem one_tel {w : World} {D T : Addr} {vs : List Value} {k : Nat} (h0 : 0 < vs.length) (h10 : Nat.ble vs.length 100 = true) {fz cs₁ tl : Led} {c : Src} (hT : (T, PySem.W.listOf vs.toArray k) ∈ cs₁ ++ tl) (ho : Off (cs₁ ++ tl) D) (hz : Tups fz) : TelS w (.ref 113) [.ref D, .ref T] fz (fun c => cs₁ ++ srcR D tl c) c 10 (fun r _ _ => r ∈ vs) := by
  have kf9 : Mine.hd.heap_1 w.params = Mine.hd.heap_1 w.params ∧ PySem.Challenge.rw_ot0007_01 = PySem.Challenge.rw_ot0007_01 := by k_fill; exact ⟨rfl, rfl⟩
  clear kf9
  refine' telS_def (own := [(D, srcO c)]) (tl := cs₁ ++ tl) ?a0 ?a1 (fun _ => ?a2) ?a3 ?a4 ?a5 ?a6 ?a7 hz ?ain ?_
  case a0 => k_is
  case a1 => k_is
  case a2 => exact BindsTo.of_eq rfl
  case a3 => exact locs rfl
  case a4 => exact rfl
  case a5 => exact rfl
  case a6 => exact rfl
  case a7 => decide
  case ain => exact src_in
  intro c2 m R hdp hun hb hR
  have hs : m (Str.ofString "source") = some (.ref D) := hb _
  have ht : m (Str.ofString "things") = some (.ref T) := hb _
  clear hb
  have hwt : nsIn (Mine.hd.heap_1 w.params) mainGlobals (Str.ofString "_law_take") = some (some (.ref 106)) ∧ keepIn (Mine.hd.heap_1 w.params) (.ref 106) = true := ⟨by k_is, by k_is⟩
  have hd6 : c2.dp + 6 < recursionLimit := by first | exact dlk hdp rfl | exact dld hdp rfl | exact dln hdp rfl
  have hu6 : c2.un + 8 * 6 < cLine := by first | exact ulk hun rfl | exact uld hun rfl | exact uln hun rfl
  have hn := Nat.le_of_ble_eq_true h10
  have hl : (0 : Int) < (vs.length : Nat) := by omega
  have hl2 : ((vs.length : Nat) : Int) ≤ 1000 := by omega
  refine JX.ret (JE.at (n := k) (EV.name ht) (JE.call hwt.1 hwt.2 (JA.cons (JE.V (EV.name hs) fun _ => JA.cons (JE.lenR ht hT (ble_line (Nat.ble_eq_true_of_le (Nat.le_trans hn (by decide)))) fun t => JA.nil ((JH.draw (O := []) ho (fun h z => take_tel hl hl2 fz [] (cs₁ ++ tl) c h z) (fun p hp => hp) hd6 hu6 fun r f' c1 S p => ?_).G))))) h10)
  obtain ⟨i, t, e, q0, q1⟩ := p
  exact ⟨i, t, e, List.mem_append.mpr (.inr (List.mem_append.mpr (.inr hT))), q0, q1, fun x hx => hR x _ _ _ c1 hx (src_back (List.mem_cons_self ..))⟩
end
section
theorem flushLType : True ∧ True := by (w_top off); (first | (walk1; done) | exact ⟨True.intro, True.intro⟩)
/-! drawn types -/
noncomputable def drawnRegs : List Reg := [.none, .a, .b, .st, .n3]
structure Fit (n : Nat) (T : Ty) : Prop where
  le : height T ≤ n
  regs : ∀ r ∈ regsL T, r ∈ drawnRegs
theorem ty_u8 {fz : Led} {a : Addr} {n : Nat} {t u : Tok} (h : (a, tupO [.str (S "int") t, .str (S "u8") u] n) ∈ fz) : TyIn fz (.ref a) (.int true) := .int h
theorem ty_i64 {fz : Led} {a : Addr} {n : Nat} {t u : Tok} (h : (a, tupO [.str (S "int") t, .str (S "i64") u] n) ∈ fz) : TyIn fz (.ref a) (.int false) := .int h
theorem ty_X {fz : Led} {a : Addr} {n : Nat} {t u : Tok} (h : (a, tupO [.str (S "param") t, .str (S "X") u] n) ∈ fz) : TyIn fz (.ref a) (.param true) := .param h
theorem ty_Y {fz : Led} {a : Addr} {n : Nat} {t u : Tok} (h : (a, tupO [.str (S "param") t, .str (S "Y") u] n) ∈ fz) : TyIn fz (.ref a) (.param false) := .param h
noncomputable abbrev atomsL : List Ty := [.int true, .bool, .never, .unit, .var, .intvar]
theorem atoms_fit {T : Ty} (h : T ∈ atomsL) (n : Nat) : Fit n T := by
  simp only [atomsL, List.mem_cons, List.not_mem_nil, or_false] at h
  rcases h with rfl | rfl | rfl | rfl | rfl | rfl <;> exact ⟨Nat.zero_le _, fun _ h => nomatch h⟩
theorem fit_ref {n : Nat} {r : Reg} {m : Bool} {T : Ty} (hr : r ∈ drawnRegs) (h : Fit n T) : Fit (n + 1) (.ref r m T) := ⟨by have := h.le; simp only [height]; omega, fun q hq => by
  rcases List.mem_cons.mp hq with rfl | hq
  · exact hr
  · exact h.regs q hq⟩
theorem fit_box {n : Nat} {T : Ty} (h : Fit n T) : Fit (n + 1) (.box T) := ⟨by have := h.le; simp only [height]; omega, h.regs⟩
theorem fit_array {n : Nat} {T : Ty} (h : Fit n T) : Fit (n + 1) (.array T) := ⟨by have := h.le; simp only [height]; omega, h.regs⟩
theorem fit_pair {n : Nat} {T U : Ty} (h : Fit n T) (k : Fit n U) : Fit (n + 1) (.pair T U) := ⟨by have := h.le; have := k.le; simp only [height]; omega, fun q hq => (List.mem_append.mp hq).elim (h.regs q) (k.regs q)⟩
theorem fit_adt {n : Nat} {r : Reg} {T U : Ty} (hr : r ∈ drawnRegs) (h : Fit n T) (k : Fit n U) : Fit (n + 1) (.adt r .b T U) := ⟨by have := h.le; have := k.le; simp only [height]; omega, fun q hq => by
  simp only [regsL, List.mem_cons, List.mem_append] at hq
  rcases hq with rfl | rfl | hq | hq
  · exact hr
  · decide
  · exact h.regs q hq
  · exact k.regs q hq⟩
theorem swap2 {a b : Addr × Obj} : ∀ p ∈ b :: [a], p ∈ [a, b] := fun p hp => by
  rcases List.mem_cons.mp hp with rfl | hp
  · exact List.mem_cons_of_mem _ (List.mem_cons_self ..)
  · exact List.mem_singleton.mp hp ▸ List.mem_cons_self ..
theorem reg_of {t1 t2 t3 t4 : Tok} {v : Value} (h : v ∈ [Value.none, .str (S "'a") t1, .str (S "'b") t2, .str (S "'static") t3, .int 3 t4]) : ∃ r, RegV v r ∧ r ∈ drawnRegs := by
  simp only [List.mem_cons, List.not_mem_nil, or_false] at h
  rcases h with rfl | rfl | rfl | rfl | rfl
  · exact ⟨_, .none, by decide⟩
  · exact ⟨_, .a _, by decide⟩
  · exact ⟨_, .b _, by decide⟩
  · exact ⟨_, .st _, by decide⟩
  · exact ⟨_, .n3 _, by decide⟩
theorem type_walk {w : World} {D : Addr} {n N d : Nat} {i : Int} {t : Tok} {b : Bool} (hb0 : decide (i > 0) = b) (IH : b = true → N = n + 1 ∧ ∀ u, TelR w (.ref 120) [.ref D, .int (i - 1) u] D d (fun v f => ∃ T, TyIn f v T ∧ Fit n T)) : TelR w (.ref 120) [.ref D, .int i t] D (d + 30) (fun v f => ∃ T, TyIn f v T ∧ Fit N T) := by
  intro fz cs₁ tl c ho hz
  have kf9 : Mine.hd.heap_1 w.params = Mine.hd.heap_1 w.params ∧ PySem.Challenge.rw_ot0007_01 = PySem.Challenge.rw_ot0007_01 := by k_fill; exact ⟨rfl, rfl⟩
  clear kf9
  refine' telS_def (own := [(D, srcO c)]) (tl := cs₁ ++ tl) ?a0 ?a1 (fun _ => ?a2) ?a3 ?a4 ?a5 ?a6 ?a7 hz ?ain ?_
  case a0 => k_is
  case a1 => k_is
  case a2 => exact BindsTo.of_eq rfl
  case a3 => exact locs rfl
  case a4 => exact rfl
  case a5 => exact rfl
  case a6 => exact rfl
  case a7 => decide
  case ain => exact src_in
  intro c2 m R hdp hun hb hR
  have hs : m (Str.ofString "source") = some (.ref D) := hb _
  have hi : m (Str.ofString "deep") = some (.int i t) := hb _
  clear hb
  have hwt : nsIn (Mine.hd.heap_1 w.params) mainGlobals (Str.ofString "_law_take") = some (some (.ref 106)) ∧ keepIn (Mine.hd.heap_1 w.params) (.ref 106) = true := ⟨by k_is, by k_is⟩
  have hwo : nsIn (Mine.hd.heap_1 w.params) mainGlobals (Str.ofString "_law_one") = some (some (.ref 113)) ∧ keepIn (Mine.hd.heap_1 w.params) (.ref 113) = true := ⟨by k_is, by k_is⟩
  have hwy : nsIn (Mine.hd.heap_1 w.params) mainGlobals (Str.ofString "_law_type") = some (some (.ref 120)) ∧ keepIn (Mine.hd.heap_1 w.params) (.ref 120) = true := ⟨by k_is, by k_is⟩
  have hd6 : c2.dp + 6 < recursionLimit := by first | exact dlk hdp rfl | exact dld hdp rfl | exact dln hdp rfl
  have hu6 : c2.un + 8 * 6 < cLine := by first | exact ulk hun rfl | exact uld hun rfl | exact uln hun rfl
  have hd10 : c2.dp + 10 < recursionLimit := by first | exact dlk hdp rfl | exact dld hdp rfl | exact dln hdp rfl
  have hu10 : c2.un + 8 * 10 < cLine := by first | exact ulk hun rfl | exact uld hun rfl | exact uln hun rfl
  have hdd : c2.dp + d < recursionLimit := by first | exact dlk hdp rfl | exact dld hdp rfl | exact dln hdp rfl
  have hud : c2.un + 8 * d < cLine := by first | exact ulk hun rfl | exact uld hun rfl | exact uln hun rfl
  have fin : ∀ {v m o f c1}, (∃ T, TyIn f v T ∧ Fit N T) → (D, srcO c1) ∈ o → R (.ret v) m o f := fun h k => hR _ _ _ _ _ h (src_back k)
  clear hR hdp hun
  have t0 : (0 : Int) < if b = true then 12 else 6 := by cases b <;> decide
  have t1 : (if b = true then (12 : Int) else 6) ≤ 1000 := by cases b <;> decide
  refine JX.set (JE.call hwt.1 hwt.2 (JA.cons (JE.V (EV.name hs) fun _ => JA.cons (JE.ite (JT.cmp (JE.V (EV.name hi) fun _ => JE.V EV.int fun _ => JG.gtI ⟨_, rfl, ?_⟩))))))
  rw [hb0]
  refine JE.two fun _ => JA.nil ((JH.draw (O := []) ho (fun h z => take_tel t0 t1 fz [] (cs₁ ++ tl) c h z) (fun p hp => hp) hd6 hu6 fun r f1 c1 S1 p => ?_).G)
  obtain ⟨way, tw, rfl, q0, q1⟩ := p
  refine JX.ifr (JT.cmp (JE.V (EV.name rfl) fun _ => JE.V EV.int fun _ => JG.ltI ⟨_, rfl, fun h2 => ?_, fun h2 => ?_⟩))
  · have h2 := of_decide_eq_true h2
    rcases (show way = 0 ∨ way = 1 by omega) with rfl | rfl
    · exact JE.tup2E EV.str (JE.letter rfl (.inl ⟨rfl, rfl⟩) fun _ _ D1 => fin ⟨.param true, ty_X (List.mem_cons_self ..), Nat.zero_le _, fun _ h => nomatch h⟩ (List.mem_cons_self ..))
    · exact JE.tup2E EV.str (JE.letter rfl (.inr ⟨rfl, rfl⟩) fun _ _ D1 => fin ⟨.param false, ty_Y (List.mem_cons_self ..), Nat.zero_le _, fun _ h => nomatch h⟩ (List.mem_cons_self ..))
  refine JX.ifb (JT.cmp (JE.V (EV.name rfl) fun _ => JE.V EV.int fun _ => JG.ltI ⟨_, rfl, fun h3 => ?_, fun h3 => ?_⟩))
  · refine JX.set ?_
    refine JE.listN ?_
    refine JA.cons ?_
    refine JE.tup2 EV.str EV.str fun _ _ D1 => ?_
    refine JA.cons ?_
    refine JE.tup1 EV.str fun _ D2 => ?_
    refine JA.cons ?_
    refine JE.tup1 EV.str fun _ D3 => ?_
    refine JA.cons ?_
    refine JE.tup2E EV.str (JE.tup0 fun D4 _ D5 => ?_)
    refine JA.cons ?_
    refine JE.tup2 EV.str EV.int fun _ _ D6 => ?_
    refine JA.cons ?_
    refine JE.tup2 EV.str EV.int fun _ _ D7 => JA.nil ⟨rfl, fun LA hlt => ?_⟩
    have hDL : @LT.lt Nat _ D LA := hlt (D, _) (List.mem_cons_self ..)
    refine JX.ret (JE.at (n := 0) (vs := [.ref D1, .ref D2, .ref D3, .ref D5, .ref D6, .ref D7]) (EV.name rfl) (JE.call hwt.1 hwt.2 (JA.two (EV.name hs) EV.int fun _ _ => (JH.draw (O := [(LA, _)]) (Off.app ⟨fun p hp => by rw [List.mem_singleton.mp hp]; exact Nat.ne_of_gt hDL⟩ ho) (fun h z => take_tel (by decide) (by decide) _ [(LA, _)] (cs₁ ++ tl) c1 h z) swap2 hd6 hu6 fun r f2 c3 S2 p => ?_).G)) rfl)
    · obtain ⟨j, tj, rfl, r0, r1⟩ := p
      refine ⟨j, tj, rfl, List.mem_cons_of_mem _ (List.mem_cons_self ..), r0, r1, fun x hx => ?_⟩
      obtain ⟨T, k1, k2⟩ := (TyAll.up S2 (.cons (ty_u8 (.tail _ (.tail _ (.tail _ (.tail _ (.tail _ (.tail _ (List.mem_cons_self ..)))))))) (.cons (.bool (.tail _ (.tail _ (.tail _ (.tail _ (.tail _ (List.mem_cons_self ..))))))) (.cons (.never (.tail _ (.tail _ (.tail _ (.tail _ (List.mem_cons_self ..)))))) (.cons (.unit (.tail _ (.tail _ (List.mem_cons_self ..))) (.tail _ (.tail _ (.tail _ (List.mem_cons_self ..))))) (.cons (.var (.tail _ (List.mem_cons_self ..))) (.cons (.intvar (List.mem_cons_self ..)) .nil))))))).of_mem hx
      exact ⟨⟨_, rfl⟩, fin ⟨T, k1, atoms_fit k2 N⟩ (List.mem_cons_self ..)⟩
  have hbt : b = true := by
    cases b with
    | true => rfl
    | false => exact absurd q1 (of_decide_eq_false h3)
  obtain ⟨rfl, ih⟩ := IH hbt
  clear t0 t1 q0 q1 h2 h3 hb0 IH
  refine JX.set2 ?_
  refine JE.tuple (JA.cons ?_)
  refine (JE.call hwy.1 hwy.2 (JA.two (EV.name hs) (EV.dec hi) fun _ _ => (JH.draw (O := []) ho (fun h z => ih _ f1 [] (cs₁ ++ tl) c1 h z) (fun p hp => hp) hdd hud fun r2 f2 c2 S2 p => ?_).G))
  obtain ⟨T1, y1, q1⟩ := p
  refine JA.cons ?_
  refine JE.call hwo.1 hwo.2 (JA.cons (JE.V (EV.name hs) fun _ => ?_))
  refine JA.cons ?_
  refine JE.listN (JA.cons (JE.V EV.none fun _ => JA.cons (JE.V EV.str fun _ => JA.cons (JE.V EV.str fun _ => JA.cons (JE.V EV.str fun _ => JA.cons (JE.V EV.int fun _ => JA.nil ⟨rfl, fun LR hlt => JA.nil ?_⟩))))))
  refine (JH.draw (O := [(LR, _)]) (Off.app ⟨fun p hp => by rw [List.mem_singleton.mp hp]; exact Nat.ne_of_gt (hlt (D, _) (List.mem_cons_self ..))⟩ ho) (fun h z => one_tel (by exact Nat.succ_pos _) (by rfl) (List.mem_cons_self ..) h z) swap2 hd10 hu10 fun r f3 c3 S3 hr => ?_).G
  obtain ⟨g, hg, hgd⟩ := reg_of hr
  have y1 := y1.up S3
  refine JA.nil ⟨Nat.le_of_ble_eq_true rfl, fun DT => ⟨DT, 0, _, _, rfl, List.mem_cons_self .., ?_⟩⟩
  refine JX.ifr (JT.cmp (JE.V (EV.name rfl) fun _ => JE.V EV.int fun _ => JG.ltI ⟨_, rfl, fun _ => ?_, fun _ => ?_⟩))
  · exact JE.tuple (JA.cons (JE.V EV.str fun _ => JA.cons (JE.V (EV.name rfl) fun _ => JA.cons (JE.cmp (JE.V (EV.name rfl) fun _ => JE.V EV.int fun _ => JG.eqI (JA.cons (JE.V (EV.name rfl) fun _ => JA.nil ⟨Nat.le_of_ble_eq_true rfl, fun D1 => fin ⟨_, .ref (List.mem_cons_self ..) hg (y1.up (.cons (.cons .refl))), fit_ref hgd q1⟩ (List.mem_cons_self ..)⟩)))))))
  refine JX.ifr (JT.cmp (JE.V (EV.name rfl) fun _ => JE.V EV.int fun _ => JG.eqI ⟨_, rfl, fun _ => ?_, fun _ => ?_⟩))
  · exact JE.tup2 EV.str (EV.name rfl) fun _ _ D1 => fin ⟨_, .box (List.mem_cons_self ..) (y1.up (.cons (.cons .refl))), fit_box q1⟩ (List.mem_cons_self ..)
  refine JX.ifr (JT.cmp (JE.V (EV.name rfl) fun _ => JE.V EV.int fun _ => JG.eqI ⟨_, rfl, fun _ => ?_, fun _ => ?_⟩))
  · exact JE.tup3 EV.str (EV.name rfl) EV.int fun _ _ _ D1 => fin ⟨_, .array (List.mem_cons_self ..) (y1.up (.cons (.cons .refl))), fit_array q1⟩ (List.mem_cons_self ..)
  refine JX.ifr (JT.cmp (JE.V (EV.name rfl) fun _ => JE.V EV.int fun _ => JG.eqI ⟨_, rfl, fun _ => ?_, fun _ => ?_⟩))
  · refine JE.tup2E EV.str (JE.tup2E (EV.name rfl) (JE.call hwy.1 hwy.2 (JA.two (EV.name hs) (EV.dec hi) fun _ _ => (JH.draw (O := []) ho (fun h z => ih _ _ [] (cs₁ ++ tl) c3 h z) (fun p hp => List.mem_singleton.mp hp ▸ List.mem_cons_self ..) hdd hud fun r4 f4 c4 S4 p => ?_).G)))
    obtain ⟨T2, y2, q2⟩ := p
    exact fun _ D1 _ D2 => fin ⟨_, .pair (List.mem_cons_self ..) (List.mem_cons_of_mem _ (List.mem_cons_self ..)) (((y1.up (.cons .refl)).up S4).up (.cons (.cons .refl))) (y2.up (.cons (.cons .refl))), fit_pair q1 q2⟩ (List.mem_cons_self ..)
  refine JX.ret (JE.tuple (JA.cons (JE.V EV.str fun _ => JA.cons (JE.V EV.str fun _ => JA.cons (JE.tup2 (EV.name rfl) EV.str fun _ _ D1 => JA.cons (JE.tup2E (EV.name rfl) (JE.call hwy.1 hwy.2 (JA.two (EV.name hs) (EV.dec hi) fun _ _ => (JH.draw (O := []) ho (fun h z => ih _ _ [] (cs₁ ++ tl) c3 h z) (fun p hp => List.mem_singleton.mp hp ▸ List.mem_cons_self ..) hdd hud fun r4 f4 c4 S4 p => ?_).G))))))))
  obtain ⟨T2, y2, q2⟩ := p
  exact fun _ D2 => JA.nil ⟨Nat.le_of_ble_eq_true rfl, fun D3 => fin ⟨_, .adt (List.mem_cons_self ..) (List.mem_cons_of_mem _ (List.mem_cons_of_mem _ (S4.sub _ (List.mem_cons_self ..)))) (List.mem_cons_of_mem _ (List.mem_cons_self ..)) hg (.b _) (((y1.up (.cons (.cons .refl))).up S4).up (.cons (.cons .refl))) (y2.up (.cons (.cons .refl))), fit_adt hgd q1 q2⟩ (List.mem_cons_self ..)⟩
theorem type_tel {w : World} {D : Addr} : ∀ (n : Nat) (i : Int) (t : Tok), i = (n : Int) → TelR w (.ref 120) [.ref D, .int i t] D (30 * n + 30) (fun v fz' => ∃ T, TyIn fz' v T ∧ Fit n T)
  | 0, _, _, rfl => type_walk (n := 0) (d := 0) (b := false) rfl (fun h => nomatch h)
  | n + 1, _, _, e => type_walk (d := 30 * n + 30) (b := true) (by rw [e]; exact decide_eq_true (by omega)) fun _ => ⟨rfl, fun u => type_tel n _ u (by rw [e]; omega)⟩

end
section
theorem flushLClosed : True ∧ True := by (w_top off); (first | (walk1; done) | exact ⟨True.intro, True.intro⟩)
/-! types without parameters -/
noncomputable abbrev closedL : List Ty := [.int false, .bool, .ref .a true .bool, .adt .b .none .bool (.int true)]
set_option maxHeartbeats 400000 in
theorem closed_tel {w : World} {D : Addr} : TelR w (.ref 127) [.ref D] D 20 (fun v fz' => ∃ T, TyIn fz' v T ∧ T ∈ closedL) := by
  intro fz cs₁ tl c ho hz
  have kf9 : Mine.hd.heap_1 w.params = Mine.hd.heap_1 w.params ∧ PySem.Challenge.rw_ot0007_01 = PySem.Challenge.rw_ot0007_01 := by k_fill; exact ⟨rfl, rfl⟩
  clear kf9
  refine' telS_def (own := [(D, srcO c)]) (tl := cs₁ ++ tl) ?a0 ?a1 (fun _ => ?a2) ?a3 ?a4 ?a5 ?a6 ?a7 hz ?ain ?_
  case a0 => k_is
  case a1 => k_is
  case a2 => exact BindsTo.of_eq rfl
  case a3 => exact locs rfl
  case a4 => exact rfl
  case a5 => exact rfl
  case a6 => exact rfl
  case a7 => decide
  case ain => exact src_in
  intro c2 m R hdp hun hb hR
  have hs : m (Str.ofString "source") = some (.ref D) := hb _
  clear hb
  have hwt : nsIn (Mine.hd.heap_1 w.params) mainGlobals (Str.ofString "_law_take") = some (some (.ref 106)) ∧ keepIn (Mine.hd.heap_1 w.params) (.ref 106) = true := ⟨by k_is, by k_is⟩
  have hd6 : c2.dp + 6 < recursionLimit := by first | exact dlk hdp rfl | exact dld hdp rfl | exact dln hdp rfl
  have hu6 : c2.un + 8 * 6 < cLine := by first | exact ulk hun rfl | exact uld hun rfl | exact uln hun rfl
  refine JX.set ?_
  refine JE.listN ?_
  refine JA.cons ?_
  refine JE.tup2 EV.str EV.str fun _ _ D1 => ?_
  refine JA.cons ?_
  refine JE.tup1 EV.str fun _ D2 => ?_
  refine JA.cons ?_
  refine JE.tup4E EV.str EV.str EV.bool (JE.tup1 EV.str fun _ D3 _ _ _ D4 => JA.nil ⟨rfl, fun LA hlt => ?_⟩)
  have hDL : @LT.lt Nat _ D LA := hlt (D, _) (List.mem_cons_self ..)
  have hrL : Off (cs₁ ++ tl) LA := .lt fun p hp => hlt p (List.mem_append.mpr (.inr (List.mem_append.mpr (.inr hp))))
  refine JX.stmt (JS.appE (EV.name rfl) (List.mem_cons_self ..) hrL (Nat.le_of_ble_eq_true rfl) ?_)
  refine JE.tuple ?_
  refine JA.cons ?_
  refine JE.V EV.str fun _ => ?_
  refine JA.cons ?_
  refine JE.V EV.str fun _ => ?_
  refine JA.cons ?_
  refine JE.tup2 EV.str EV.none fun _ _ D5 => ?_
  refine JA.cons ?_
  refine JE.tuple ?_
  refine JA.cons ?_
  refine JE.tup1 EV.str fun _ D6 => ?_
  refine JA.cons ?_
  refine JE.tup2 EV.str EV.str fun _ _ D7 => JA.nil ⟨Nat.le_of_ble_eq_true rfl, fun D8 => JA.nil ⟨Nat.le_of_ble_eq_true rfl, fun D9 => ⟨rfl, _, Upd.head (fun p hp => by rw [List.mem_singleton.mp hp]; exact Nat.ne_of_lt hDL), rfl, ?_⟩⟩⟩
  refine JX.ret (JE.at (n := 1) (vs := [.ref D1, .ref D2, .ref D4, .ref D9]) (EV.name rfl) (JE.call hwt.1 hwt.2 (JA.two (EV.name hs) EV.int fun _ _ => (JH.draw (O := [(LA, _)]) (Off.app ⟨fun p hp => by rw [List.mem_singleton.mp hp]; exact Nat.ne_of_gt hDL⟩ ho) (fun h z => take_tel (by decide) (by decide) _ [(LA, _)] (cs₁ ++ tl) c h z) swap2 hd6 hu6 fun r f2 c3 S2 p => ?_).G)) rfl)
  obtain ⟨j, tj, rfl, r0, r1⟩ := p
  refine ⟨j, tj, rfl, List.mem_cons_of_mem _ (List.mem_cons_self ..), r0, r1, fun x hx => hR x _ _ _ c3 ?_ (src_back (List.mem_cons_self ..))⟩
  exact (TyAll.up S2 (.cons (ty_i64 (.tail _ (.tail _ (.tail _ (.tail _ (.tail _ (.tail _ (.tail _ (.tail _ (List.mem_cons_self ..)))))))))) (.cons (.bool (.tail _ (.tail _ (.tail _ (.tail _ (.tail _ (.tail _ (.tail _ (List.mem_cons_self ..))))))))) (.cons (.ref (.tail _ (.tail _ (.tail _ (.tail _ (.tail _ (List.mem_cons_self ..)))))) (.a _) (.bool (.tail _ (.tail _ (.tail _ (.tail _ (.tail _ (.tail _ (List.mem_cons_self ..))))))))) (.cons (.adt (List.mem_cons_self ..) (.tail _ (.tail _ (.tail _ (.tail _ (List.mem_cons_self ..))))) (.tail _ (List.mem_cons_self ..)) (.b _) .none (.bool (.tail _ (.tail _ (.tail _ (List.mem_cons_self ..))))) (ty_u8 (.tail _ (.tail _ (List.mem_cons_self ..))))) .nil))))).of_mem hx

end
section
theorem flushLLtx : True ∧ True := by (w_top off); (first | (walk1; done) | exact ⟨True.intro, True.intro⟩)
/-! the law's own text -/
theorem law_region_tel {w : World} {rv : Value} {r : Reg} {fz rest : Led} (hr : RegV rv r) (hz : Tups fz) : Tel w 151 [rv] fz rest 4 (fun v _ => StrIs (regT r) v) := by
  have kf9 : Mine.hd.heap_1 w.params = Mine.hd.heap_1 w.params ∧ PySem.Challenge.rw_ot0007_01 = PySem.Challenge.rw_ot0007_01 := by k_fill; exact ⟨rfl, rfl⟩
  clear kf9
  refine' tel_def ?a0 ?a1 (fun _ => ?a2) ?a3 ?a4 ?a5 ?a6 ?a7 (hz) ?_
  case a0 => k_is
  case a1 => k_is
  case a2 => exact BindsTo.of_eq rfl
  case a3 => exact locs rfl
  case a4 => exact rfl
  case a5 => exact rfl
  case a6 => exact rfl
  case a7 => decide
  intro c m R _ _ hb hR
  have ht : m (Str.ofString "region") = some rv := hb _
  clear hb
  refine JX.ret (JE.ite (JT.isNone ht hr ?_))
  cases h : decide (r = .none) with
  | true =>
    rw [if_pos rfl]
    obtain rfl := of_decide_eq_true h
    exact JE.str fun t => hR _ _ _ _ (.mk t)
  | false =>
    rw [if_neg Bool.false_ne_true]
    exact JE.regText ht hr h fun y hy => hR _ _ _ _ hy
section
variable {prog : Program} {w : World} {A : Around} {E : Value → Shared → Prop} {s : Shared} {h₀ : Heap} {L : Addr} {led : Led} {Q : Value → Shared → Prop}
theorem in_strs {a : Addr} {x : Str} {t : Tok} {n : Nat} {b : Bool} {vs : List Value} {xs : List Str} (N : News h₀ L s.heap led) (hm : (a, tupO vs n) ∈ led) (hT : TxtAll vs xs) (ho : xs.all PyData.strOk = true) (hx : PyData.strOk x = true) (hu : A.units + 64 < cLine) (hb : xs.contains x = b) (k : Q (.bool b) s) :
    wpAny (model prog w) A (compareOp .In (.str x t) (.ref a)) Q E s := by
  have q : PyData.canLayAll0 (xs.map .str) = true ∧ PyData.depthAll (xs.map .str) = 0 := ⟨by rw [canLayAll_strs', ho], depthAll_strs' xs⟩
  refine SeqAt.in_tuple_reads (xs := xs.map .str) (reads_tuple_at (N _ hm).1 rfl rfl (by simpa using hT.reads)) (.str x t) q.1 hx (by rw [q.2]; simp only [PyData.depth]; omega) ?_
  have e : ((xs.map PyData.str).any fun y => PyData.eqv y (.str x)) = xs.contains x := by
    rw [List.any_map, List.contains_eq_any_beq]
    congr 1
    funext y
    show (y == x) = (x == y)
    rw [Bool.eq_iff_iff, beq_iff_eq, beq_iff_eq, eq_comm]
  rw [e, hb]; exact k
end
structure LTextK (w : World) (T : Ty) (d : Nat) : Prop where
  ih : ∀ T' ∈ kids T, ∀ {v : Value} {fz rest : Led}, TyIn fz v T' → Tups fz → Tel w 156 [v] fz rest d (fun r _ => StrIs (textT T') r)

end
section
theorem flushLLty : True ∧ True := by (w_top off); (first | (walk1; done) | exact ⟨True.intro, True.intro⟩)
theorem filter_sum (p : Str → Bool) : ∀ xs : List Str, ((xs.filter p).map (·.length)).sum + (xs.filter p).length ≤ (xs.map (·.length)).sum + xs.length
  | [] => Nat.le_refl _
  | x :: xs => by
    have := filter_sum p xs
    rw [List.filter_cons]
    split <;> simp only [List.map_cons, List.sum_cons, List.length_cons] <;> omega
theorem str_ne_len {x : Str} (h : x.length ≠ 0) : x ≠ S "" := fun e => h (by rw [e]; decide +kernel)
theorem text_pos : ∀ T, (textT T).length ≠ 0
  | .param x => by cases x <;> decide +kernel
  | .int x => by cases x <;> decide +kernel
  | .bool => by decide +kernel
  | .never => by decide +kernel
  | .unit => by decide +kernel
  | .var => by decide +kernel
  | .intvar => by decide +kernel
  | .ref r m t => by simp only [textT, Str.length_append, S, ls12]; omega
  | .box t => by simp only [textT, Str.length_append, S, ls1]; omega
  | .array t => by simp only [textT, Str.length_append, S, ls3]; omega
  | .pair t u => by simp only [textT, Str.length_append, S, ls7]; omega
  | .adt r q t u => by
    rw [show textT (.adt r q t u) = S "m::A" ++ ((S "<" ++ Txt.join (S ", ") (regsT r q ++ [textT t, textT u])) ++ S ">") from rfl]
    simp only [Str.length_append, S, ls10]; omega
theorem cat_mut : S "mut" ++ S " " = S "mut " := by decide +kernel
theorem cat_none (x : Str) : S "" ++ x = x := Str.empty_append x
theorem ref_text (r : Reg) (m : Bool) (x : Str) (hx : x ≠ S "") : S "&" ++ Txt.join (S " ") ([regT r, if m then S "mut" else S "", x].filter fun y => decide (y ≠ S "")) = ((S "&" ++ (if regT r = S "" then S "" else regT r ++ S " ")) ++ (if m then S "mut " else S "")) ++ x := by
  have hm : S "mut" ≠ S "" := by decide
  rw [txt_join]
  by_cases hr : regT r = S "" <;> cases m
  · simp only [List.filter_cons, List.filter_nil, hr, hx, Str.join, Str.append_assoc, cat_none, ne_eq, not_true_eq_false, decide_false, decide_true, Bool.false_eq_true, if_true, if_false, not_false_eq_true]
  · simp only [List.filter_cons, List.filter_nil, hr, hx, hm, Str.join, Str.append_assoc, cat_none, ne_eq, not_true_eq_false, decide_false, decide_true, Bool.false_eq_true, if_true, if_false, not_false_eq_true]
    rw [← Str.append_assoc (S "mut")]; simp only [cat_mut, cat_none]
  · simp only [List.filter_cons, List.filter_nil, hr, hx, Str.join, Str.append_assoc, cat_none, ne_eq, not_true_eq_false, decide_false, decide_true, Bool.false_eq_true, if_true, if_false, not_false_eq_true]
  · simp only [List.filter_cons, List.filter_nil, hr, hx, hm, Str.join, Str.append_assoc, cat_none, ne_eq, not_true_eq_false, decide_false, decide_true, Bool.false_eq_true, if_true, if_false, not_false_eq_true]
    rw [← Str.append_assoc (S "mut")]; simp only [cat_mut]
theorem TxtAll.at {vs : List Value} {xs : List Str} (h : TxtAll vs xs) {i : Nat} {v : Value} (e : vs[i]? = some v) : ∃ x t, xs[i]? = some x ∧ v = .str x t := by
  induction h generalizing i with
  | nil => simp at e
  | cons a ih =>
    cases i with
    | zero => simp at e; subst e; exact ⟨_, _, rfl, rfl⟩
    | succ i => simp at e; simpa using ih e

end
section
theorem flushLLtz : True ∧ True := by (w_top off); (first | (walk1; done) | exact ⟨True.intro, True.intro⟩)
theorem adt_text (r q : Reg) (T U : Ty) : ((S "m::A" ++ S "<") ++ Txt.join (S ", ") (regsT r q ++ [textT T, textT U])) ++ S ">" = textT (.adt r q T U) := by
  rw [show textT (.adt r q T U) = S "m::A" ++ ((S "<" ++ Txt.join (S ", ") (regsT r q ++ [textT T, textT U])) ++ S ">") from rfl]
  simp only [Str.append_assoc]
theorem StrIs.of {x y : Str} {v : Value} (h : x = y) (k : StrIs x v) : StrIs y v := h ▸ k
theorem seq_last (n : Nat) : seqIndex? (-1) (n + 1) = some n := by
  unfold seqIndex?
  simp; omega
section
variable {w : World} {cs : Scope} {cl : List (Str × Addr)} {c : Cx w cs cl} {m : Str → Option Value} {own fz rest : Led} {pos p1 p2 p3 p4 p5 px py : Pos} {k : Nat} {P : Value → Led → Led → Prop}
theorem EV.last {x : Str} {b : Addr} {v : Value} {vs : List Value} {n : Nat} (hv : m x = some (.ref b)) (hm : (b, tupO (v :: vs) n) ∈ fz)
    (hs : ∀ b u, subscripted (.UnaryOp .USub (.Constant (.int 1) k p2) p3) false (.ref b) (.int (-1) u) = operate [.ref b, .int (-1) u] (getItem (.ref b) (.int (-1) u)) := by intro _ _; with_unfolding_all rfl) (hk : cs.kind = .function := by rfl) (hx : (∀ cn L a ccd, (envX cn cs L a ccd cl).kindOf x = some .local) := by intros; rfl) (hd : (x == ("__debug__" : Str)) = false := by decide) :
    EV c m own fz rest (.Subscript (.Name x p1) (.UnaryOp .USub (.Constant (.int 1) k p2) p3) p4) (fun _ => (v :: vs).getLast (List.cons_ne_nil _ _)) := fun s Q E hE a q => by
  refine Subscript_ (nameX_L a.F hv ?_ hk (hx ..) hd)
  walk1
  walk1
  walk1
  exact item_tupleT (j := vs.length) (a.N.isTup (List.mem_append.mpr (.inr (List.mem_append.mpr (.inl hm))))) (by decide) (by decide) (seq_last _) (by rw [List.getLast_eq_getElem]; exact List.getElem?_eq_getElem (Nat.lt_succ_self _)) (q 0 _) (hs _ _)
theorem JG.inStrs {D : Addr} {x : Str} {t : Tok} {n : Nat} {b : Bool} {vs : List Value} {xs : List Str} (hm : (D, tupO vs n) ∈ fz) (hT : TxtAll vs xs) (ho : xs.all PyData.strOk = true) (hx : PyData.strOk x = true) (hu : c.un + 64 < cLine) (hb : xs.contains x = b) (h : P (.bool b) own fz) : JG c m own fz rest (compareOp .In (.str x t) (.ref D)) P := fun s _ _ hE a q' =>
  in_strs a.N (List.mem_append.mpr (.inr (List.mem_append.mpr (.inl hm)))) hT ho hx hu hb (q' _ own fz s.heap s.toks a Sub.refl h)
end
theorem atom_in (T : Ty) : [S "int", S "param", S "bool", S "never", S "var", S "intvar"].contains (kindS T) = isAtom T := by
  cases T <;> first | (show [S "int", S "param", S "bool", S "never", S "var", S "intvar"].contains (S _) = true; decide +kernel) | (show [S "int", S "param", S "bool", S "never", S "var", S "intvar"].contains (S _) = false; decide +kernel)
/-- an atom's text, by the law's own table -/
inductive AtomT (fz : Led) (a : Addr) (T : Ty) : Prop
  | mk {t more n} : (a, tupO (.str (kindS T) t :: more) n) ∈ fz → (∀ t1 t2 t3 t4, StrIs (textT T) ((valueAt [(S "bool", .str (S "bool") t1), (S "never", .str (S "!") t2), (S "var", .str (S "_") t3), (S "intvar", .str (S "_") t4)] (kindS T)).getD ((Value.str (kindS T) t :: more).getLast (List.cons_ne_nil _ _)))) → AtomT fz a T
theorem atom_text {fz : Led} {a : Addr} {T : Ty} (hA : isAtom T = true) (hT : TyIn fz (.ref a) T) : AtomT fz a T := by
  cases hT with
  | param h => exact .mk h fun t1 t2 t3 t4 => by rw [at_miss (by show S _ ≠ S _; decide), at_miss (by show S _ ≠ S _; decide), at_miss (by show S _ ≠ S _; decide), at_miss (by show S _ ≠ S _; decide)]; exact .mk _
  | int h => exact .mk h fun t1 t2 t3 t4 => by rw [at_miss (by show S _ ≠ S _; decide), at_miss (by show S _ ≠ S _; decide), at_miss (by show S _ ≠ S _; decide), at_miss (by show S _ ≠ S _; decide)]; exact .mk _
  | bool h => exact .mk h fun t1 t2 t3 t4 => by rw [at_hit (x := S "bool") (y := kindS _) rfl]; exact .mk _
  | never h => exact .mk h fun t1 t2 t3 t4 => by rw [at_miss (by show S _ ≠ S _; decide), at_hit (x := S "never") (y := kindS _) rfl]; exact .mk _
  | var h => exact .mk h fun t1 t2 t3 t4 => by rw [at_miss (by show S _ ≠ S _; decide), at_miss (by show S _ ≠ S _; decide), at_hit (x := S "var") (y := kindS _) rfl]; exact .mk _
  | intvar h => exact .mk h fun t1 t2 t3 t4 => by rw [at_miss (by show S _ ≠ S _; decide), at_miss (by show S _ ≠ S _; decide), at_miss (by show S _ ≠ S _; decide), at_hit (x := S "intvar") (y := kindS _) rfl]; exact .mk _
  | _ => cases hA
theorem kAdtN {fz : Led} {a : Addr} {T : Ty} (hT : TyIn fz (.ref a) T) (h0 : isAtom T = false) (h6 : (kindS T == Str.ofString "ref") = false) (h7 : (kindS T == Str.ofString "box") = false) (h8 : (kindS T == Str.ofString "array") = false) (h9 : (kindS T == Str.ofString "tuple") = false) : IsAdt fz a T := by
  refine kAdt hT.by ?_
  cases T
  case adt => show (S _ == S _) = true; decide +kernel
  case ref => exact absurd h6 (by show ¬ ((S _ == S _) = false); decide +kernel)
  case box => exact absurd h7 (by show ¬ ((S _ == S _) = false); decide +kernel)
  case array => exact absurd h8 (by show ¬ ((S _ == S _) = false); decide +kernel)
  case unit => exact absurd h9 (by show ¬ ((S _ == S _) = false); decide +kernel)
  case pair => exact absurd h9 (by show ¬ ((S _ == S _) = false); decide +kernel)
  all_goals cases h0
theorem tup_text {T : Ty} (h : (kindS T == Str.ofString "tuple") = true) (hle : ∀ T' ∈ kids T, (textT T').length ≤ 70000) : (((kids T).map textT).map (·.length)).sum + ((kids T).map textT).length ≤ 1048576 ∧ (Txt.join (S ", ") ((kids T).map textT)).length ≤ 200000 ∧ (S "(" ++ Txt.join (S ", ") ((kids T).map textT)) ++ S ")" = textT T := by
  cases kTup2 h with
  | unit => exact ⟨by decide, by decide +kernel, by decide +kernel⟩
  | pair =>
    obtain ⟨a, b⟩ := pair_len (hle _ (.head _)) (hle _ (.tail _ (.head _)))
    exact ⟨a, b, rfl⟩
noncomputable abbrev wordsF (xs : List Str) : List Str := xs.filter fun y => decide (y ≠ S "")
theorem words_len (r : Reg) (b : Bool) {x : Str} (hx : x.length ≤ 70000) : ((wordsF [regT r, if b then S "mut" else S "", x]).map (·.length)).sum + (wordsF [regT r, if b then S "mut" else S "", x]).length ≤ 1048576 ∧ (Txt.join (S " ") (wordsF [regT r, if b then S "mut" else S "", x])).length ≤ 100000 := by
  have b2 := regT_le r
  have b8 : (if b then S "mut" else S "").length ≤ 3 := by cases b <;> decide +kernel
  generalize (if b then S "mut" else S "") = mx at b8
  have b3 := join_le (S " ") (wordsF [regT r, mx, x])
  have b4 := filter_sum (fun y => decide (y ≠ S "")) [regT r, mx, x]
  simp only [wordsF, S, List.map_cons, List.map_nil, List.sum_cons, List.sum_nil, List.length_cons, List.length_nil, ls13] at b3 b4 ⊢
  omega
section
variable {w : World} {cs : Scope} {cl : List (Str × Addr)} {c : Cx w cs cl} {m : Str → Option Value} {own fz rest : Led} {pos p1 p2 p3 px py : Pos}
/-- [_law_text(one) for one in ..] -/
theorem ltext_kids {T : Ty} {n : Nat} {iter : PySem.Expr} {scope : Scope} {cl' : List (Str × Addr)} {P : Value → Led → Led → Prop} (hw : nsIn (Mine.hd.heap_1 w.params) mainGlobals (Str.ofString "_law_text") = some (some (.ref 156)) ∧ keepIn (Mine.hd.heap_1 w.params) (.ref 156) = true)
    (IH : LTextK w T n) (hd : c.dp + n < recursionLimit) (hu : c.un + 8 * n < cLine)
    (j : JE c m own fz rest iter (fun v o f => o = own ∧ ∃ b vs k, v = .ref b ∧ (b, tupO vs k) ∈ f ∧ TyAll f vs (kids T) ∧ ∀ D ys f', Sub f f' → TxtAll ys ((kids T).map textT) → P (.ref D) ((D, PySem.W.listOf ys.toArray ys.length) :: own) f'))
    (hclos : ∀ cn L a ccd, closureFor scope (envX cn cs L a ccd cl) = pure cl' := by intros; rfl) (hcell : ∀ y ∈ scope.names, y.2 ≠ .cell := by decide) (hkind : scope.kind = .function := by rfl) (hnames : ∀ y ∈ scope.names, y.2 = .local → scope.names.lookup y.1 = some .local := by decide) (hx : scope.names.lookup (Str.ofString "one") = some .local := by rfl)
    (hs : ∀ env y, foldedSetIterable iter env y = pure y := by intros; rfl) (hk : ∀ cn L a ccd C, (compEnvC scope cl' C (envX cn cs L a ccd cl)).scope.kind = .function := by intros; rfl) (hl : ∀ cn L a ccd C, (compEnvC scope cl' C (envX cn cs L a ccd cl)).kindOf (Str.ofString "one") = some .local := by intros; rfl) (hl3 : ∀ cn L a ccd C, (compEnvC scope cl' C (envX cn cs L a ccd cl)).kindOf (Str.ofString "_law_text") = some .globalImplicit := by intros; rfl) (hcs : cs.kind = .function := by rfl) :
    JE c m own fz rest (.ListComp (.Call (.Name (Str.ofString "_law_text") p1) [.Name (Str.ofString "one") p2] [] py) [⟨.Name (Str.ofString "one") px, iter, [], 0⟩] scope pos) P :=
  JE.comp (γ := Unit) (fun _ => own) () (fun vs f => TyAll f vs (kids T) ∧ ∀ D ys f', Sub f f' → TxtAll ys ((kids T).map textT) → P (.ref D) ((D, PySem.W.listOf ys.toArray ys.length) :: own) f') (fun _ i ys _ _ => TxtAll ys (((kids T).take i).map textT)) (fun _ => rfl)
    (j.use fun v o f S ⟨e, b, vs, k, e1, hb, hv, hp⟩ => ⟨b, vs, e1, .inl ⟨k, hb⟩, e, kids_size hv, ⟨hv, hp⟩, .nil⟩)
    (fun vs f0 _ ⟨hv, _⟩ i v ys f _ C oC m₂ I oI D e S A hC hx2 _ => JH.noTest (by
      rw [if_pos rfl]
      obtain ⟨T', e', k'⟩ := hv.at e
      exact JH.call1 hw.1 hw.2 (CV.var (List.mem_cons_of_mem _ (List.mem_cons_self ..)) hC hx2 (fun cn L a ccd => hk cn L a ccd C) (fun cn L a ccd => hl cn L a ccd C)) (JH.tel (fun Z => IH.ih T' (List.mem_of_getElem? e') (k'.up S) Z) hd hu (fun r f' S' p => ⟨(), rfl, by rw [List.take_add_one, e', Option.toList, List.map_append]; exact TxtAll.snoc A p⟩) hcs) (fun cn L a ccd => hk cn L a ccd C) (fun cn L a ccd => hl3 cn L a ccd C)))
    (fun vs f0 _ ⟨hv, hp⟩ D ys f _ S A _ => hp D ys f S (by rw [List.take_of_length_le (by rw [hv.length]; exact Nat.le_refl _)] at A; exact A)) hclos hcell hkind hnames hx hs
end
set_option maxHeartbeats 800000 in
theorem ltext_walk {w : World} {T : Ty} {fz rest : Led} {v : Value} {d : Nat} (hL : Low T 10) (hT : TyIn fz v T) (hz : Tups fz) (IH : LTextK w T d) : Tel w 156 [v] fz rest (d + 12) (fun r _ => StrIs (textT T) r) := by
  obtain ⟨a, t, more, n, rfl, hm⟩ := hT.head
  have hB := hT.by
  have hle : ∀ T' ∈ kids T, (textT T').length ≤ 70000 := fun T' h' => text_le (by
    have := hL.le
    obtain ⟨i, hi, e⟩ := List.mem_iff_getElem.mp h'
    have := kids_lt (T := T) (i := i) (by rw [List.getElem?_eq_getElem hi, e])
    omega)
  have kf9 : Mine.hd.heap_1 w.params = Mine.hd.heap_1 w.params ∧ PySem.Challenge.rw_ot0007_01 = PySem.Challenge.rw_ot0007_01 := by k_fill; exact ⟨rfl, rfl⟩
  clear kf9
  refine' tel_def ?a0 ?a1 (fun _ => ?a2) ?a3 ?a4 ?a5 ?a6 ?a7 (hz) ?_
  case a0 => k_is
  case a1 => k_is
  case a2 => exact BindsTo.of_eq rfl
  case a3 => exact locs rfl
  case a4 => exact rfl
  case a5 => exact rfl
  case a6 => exact rfl
  case a7 => decide
  intro c m R hdp hun hb hR
  have ht : m (Str.ofString "thing") = some (.ref a) := hb _
  clear hb
  have hw : nsIn (Mine.hd.heap_1 w.params) mainGlobals (Str.ofString "_law_text") = some (some (.ref 156)) ∧ keepIn (Mine.hd.heap_1 w.params) (.ref 156) = true := ⟨by k_is, by k_is⟩
  have hwr : nsIn (Mine.hd.heap_1 w.params) mainGlobals (Str.ofString "_law_region") = some (some (.ref 151)) ∧ keepIn (Mine.hd.heap_1 w.params) (.ref 151) = true := ⟨by k_is, by k_is⟩
  have hdn : c.dp + d < recursionLimit := by first | exact dlk hdp rfl | exact dld hdp rfl | exact dln hdp rfl
  have hun' : c.un + 8 * d < cLine := by first | exact ulk hun rfl | exact uld hun rfl | exact uln hun rfl
  have hd4 : c.dp + 4 < recursionLimit := by first | exact dlk hdp rfl | exact dld hdp rfl | exact dln hdp rfl
  have hu4 : c.un + 8 * 4 < cLine := by first | exact ulk hun rfl | exact uld hun rfl | exact uln hun rfl
  have hu64 : c.un + 64 < cLine := by first | exact ulk (Y := 8) hun rfl | exact uld (Y := 8) hun rfl
  refine JX.setV (EV.sub ht hm rfl) fun _ => JX.ifr (JT.cmp (JE.V (EV.name rfl) fun _ => JE.tuple (JA.cons (JE.str fun t1 => ?_))))
  refine JA.cons (JE.str fun t2 => ?_)
  refine JA.cons (JE.str fun t3 => ?_)
  refine JA.cons (JE.str fun t4 => ?_)
  refine JA.cons (JE.str fun t5 => ?_)
  refine JA.cons (JE.str fun t6 => JA.nil ⟨Nat.le_of_ble_eq_true rfl, fun D => ?_⟩)
  refine JG.inStrs (xs := [S "int", S "param", S "bool", S "never", S "var", S "intvar"]) (List.mem_cons_self ..) (.cons (.cons (.cons (.cons (.cons (.cons .nil)))))) (by decide +kernel) (kindS_ok T) hu64 (atom_in T) ⟨_, rfl, ?atom, fun hA => ?more⟩
  case atom =>
    intro hA
    obtain ⟨k1, k2⟩ := atom_text hA hT
    refine JE.get (JE.dict rfl rfl (List.cons_ne_nil _ _) rfl fun d1 o hd nm => ?_)
    refine JD.cons (JE.str fun q1 => JE.str fun u1 => ?_)
    refine JD.cons (JE.str fun q2 => JE.str fun u2 => ?_)
    refine JD.cons (JE.str fun q3 => JE.str fun u3 => ?_)
    refine JD.cons (JE.str fun q4 => JE.str fun u4 => JD.nil ⟨rfl, rfl, ?nd, fun o' hd' => ⟨d1, o', _, rfl, List.mem_append.mpr (.inl (List.mem_cons_self ..)), hd', nm, ?_⟩⟩)
    case' nd => skip
    rotate_left
    exact JA.cons (JE.V (EV.name rfl) fun _ => JA.cons (JE.V (EV.last ht (List.mem_cons_of_mem _ k1)) fun _ => JA.nil ⟨rfl, _, _, _, rfl, hR _ _ _ _ (k2 u1 u2 u3 u4)⟩))
    show [Str.ofString "bool", Str.ofString "never", Str.ofString "var", Str.ofString "intvar"].Nodup
    decide +kernel
  case more =>
    generalize hf : (D, _) :: fz = f0
    have S0 : Sub fz f0 := hf ▸ .cons .refl
    clear hf
    have call : ∀ {U : Ty} {x : Value} {m : Str → Option Value} {own f : Led} {P : Value → Led → Led → Prop}, U ∈ kids T → TyIn fz x U → Sub fz f → (∀ r f', Sub f f' → StrIs (textT U) r → P r own f') → JC c m own f rest (.ref 156) [x] P := fun hk hx S hp =>
      JH.G (JH.tel (fun Z => IH.ih _ hk (hx.up S) Z) hdn hun' hp)
    refine JX.ifbV (EV.name rfl) ?ref fun h6 => JX.ifrV (EV.name rfl) ?box fun h7 => JX.ifrV (EV.name rfl) ?arr fun h8 => JX.ifrV (EV.name rfl) ?tup fun h9 => ?adt
    case ref =>
      intro h
      obtain @⟨r, b, U, ⟨k1, k2, k3⟩⟩ := kRef hB h
      obtain ⟨l1, l2⟩ := words_len r b (hle U (.head _))
      have k1' := S0.sub _ k1
      refine JX.set (JE.list (JA.cons (JE.call hwr.1 hwr.2 (JA.cons (JE.V (EV.sub ht k1' rfl) fun _ => JA.nil (JH.G (JH.tel (fun Z => law_region_tel k2 Z) hd4 hu4 fun r4 f4 S4 p4 => ?_)))))))
      obtain ⟨u1⟩ := p4
      have k1'' := S4.sub _ k1'
      refine JA.cons (JL.E (n := 3) (JL.at (Y := if b then S "mut" else S "") (JL.ite (JT.V (EV.sub ht k1'' rfl) ⟨fun hb => JL.str (by decide +kernel) ⟨by rw [hb]; rfl, rfl, rfl⟩, fun hb => JL.str (by decide +kernel) ⟨by rw [hb]; rfl, rfl, rfl⟩⟩)) fun u2 => ?_))
      refine JA.cons (JE.call hw.1 hw.2 (JA.cons (JE.V (EV.sub ht k1'' rfl) fun _ => JA.nil (call (.head _) k3 (S4.step S0) fun r5 f5 S5 p5 => ?_))))
      obtain ⟨u3⟩ := p5
      refine JA.nil ⟨rfl, fun D1 => JX.ret (JL.E (JL.add (n1 := 1) (n2 := 100000) (JL.str (by decide +kernel) (JL.join (JE.comp (γ := Unit) (fun _ => [(D1, PySem.W.listOf [Value.str (regT r) u1, .str (if b then S "mut" else S "") u2, .str (textT U) u3].toArray 0)]) () (fun vs _ => TxtAll vs [regT r, if b then S "mut" else S "", textT U]) (fun _ i ys _ _ => TxtAll ys (wordsF ([regT r, if b then S "mut" else S "", textT U].take i))) (fun _ => rfl) (JE.V (EV.name rfl) fun _ => ⟨_, _, rfl, .inr (.inl ⟨_, fun _ => List.mem_cons_self ..⟩), rfl, by show 3 ≤ sizeLine; decide, .cons (.cons (.cons .nil)), .nil⟩) (fun vs f0 _ hv i v ys f _ C oC m₂ I oI D e _ A hC hx _ => ?turn) (fun vs f0 _ hv D ys f _ _ A _ => ?fin)) (by decide +kernel))) rfl))⟩
      case turn =>
        obtain ⟨x', t', e', rfl⟩ := hv.at e
        have ht : wordsF ([regT r, if b then S "mut" else S "", textT U].take (i + 1)) = wordsF ([regT r, if b then S "mut" else S "", textT U].take i) ++ wordsF [x'] := by rw [List.take_add_one, e', Option.toList]; exact List.filter_append ..
        refine JH.oneTest (JH.neS (CV.var (List.mem_cons_of_mem _ (List.mem_cons_self ..)) hC hx) ?_)
        by_cases hx' : x' = S ""
        · rw [if_neg (by rw [hx']; decide)]
          exact ⟨(), rfl, by rw [ht, hx', show wordsF [S ""] = [] from by decide +kernel, List.append_nil]; exact A⟩
        · rw [if_pos (bne_iff_ne.mpr hx')]
          exact JH.V (CV.var (List.mem_cons_of_mem _ (List.mem_cons_self ..)) hC hx) ⟨(), rfl, by rw [ht, show wordsF [x'] = [x'] from by simp [wordsF, hx']]; exact TxtAll.snoc A (.mk _)⟩
      case fin =>
        rw [List.take_of_length_le (by rw [hv.length]; exact Nat.le_refl _)] at A
        exact ⟨D, ys, _, _, rfl, List.mem_append.mpr (.inl (List.mem_cons_self ..)), A, l1, l2, fun t => ⟨⟨_, rfl⟩, hR _ _ _ _ (StrIs.of (ref_text r b (textT U) (str_ne_len (text_pos U))) (.mk t))⟩⟩
    case box =>
      intro h
      obtain @⟨U, ⟨k1, k3⟩⟩ := kBox hB h
      refine JL.E (JL.add (n1 := 70004) (n2 := 1) (JL.add (n1 := 4) (n2 := 70000) (JL.str (by decide +kernel) (JE.call hw.1 hw.2 (JA.cons (JE.V (EV.sub ht (S0.sub _ k1) rfl) fun _ => JA.nil (call (.head _) k3 S0 fun r f' S' p => ?_))))) rfl) rfl)
      obtain ⟨t⟩ := p
      exact ⟨_, t, rfl, hle _ (.head _), JL.str (by decide +kernel) fun t => hR _ _ _ _ (show StrIs (textT (.box U)) _ from .mk t)⟩
    case arr =>
      intro h
      obtain @⟨U, ⟨k1, k3⟩⟩ := kArr hB h
      refine JL.E (JL.add (n1 := 70004) (n2 := 1) (JL.add (n1 := 70003) (n2 := 1) (JL.add (n1 := 70001) (n2 := 2) (JL.add (n1 := 1) (n2 := 70000) (JL.str (by decide +kernel) (JE.call hw.1 hw.2 (JA.cons (JE.V (EV.sub ht (S0.sub _ k1) rfl) fun _ => JA.nil (call (.head _) k3 S0 fun r f' S' p => ?_))))) rfl) rfl) rfl) rfl)
      obtain ⟨t⟩ := p
      have k1' := S'.sub _ (S0.sub _ k1)
      exact ⟨_, t, rfl, hle _ (.head _), JL.str (by decide +kernel) (JL.str2 (EV.sub ht k1' rfl) (JL.str (by decide +kernel) fun t => hR _ _ _ _ (show StrIs (textT (.array U)) _ from .mk t)))⟩
    case tup =>
      intro h
      obtain ⟨k1, k2, k3⟩ := kTup hB h
      obtain ⟨l1, l2, l3⟩ := tup_text h hle
      exact JL.E (JL.add (n1 := 200001) (n2 := 1) (JL.add (n1 := 1) (n2 := 200000) (JL.str (by decide +kernel) (JL.join (ltext_kids hw IH hdn hun' (JE.V (EV.sub ht (S0.sub _ k1) rfl) fun _ => ⟨rfl, _, _, _, rfl, S0.sub _ k2, k3.up S0, fun D1 ys f' S' A => ⟨D1, ys, _, _, rfl, List.mem_append.mpr (.inl (List.mem_cons_self ..)), A, l1, l2, JL.str (by decide +kernel) fun t => hR _ _ _ _ (StrIs.of l3 (.mk t))⟩⟩)) (by decide +kernel))) rfl) rfl)
    case adt =>
      obtain @⟨r, q, U, V, ⟨k1, k2, k3, k4, k5, k6⟩⟩ := kAdtN hT hA h6 h7 h8 h9
      obtain ⟨l1, l2⟩ := regs_len r q (hle U (.head _)) (hle V (.tail _ (.head _)))
      have b4 := regsT_sum r q
      have k1' := S0.sub _ k1
      refine JX.set (JE.addL (regs_comp hwr law_region_tel hd4 hu4 (JE.V (EV.sub ht k1' rfl) fun _ => ⟨rfl, _, _, _, rfl, S0.sub _ k2, .cons k4 (.cons k5 .nil), fun D1 ys f1 S1 A1 => ?_⟩)))
      have k1'' := S1.sub _ k1'
      refine ⟨D1, ys, _, rfl, ltext_kids hw IH hdn hun' (JE.V (EV.sub ht k1'' rfl) fun _ => ⟨rfl, _, _, _, rfl, S1.sub _ (S0.sub _ k3), (k6.up S0).up S1, fun D2 zs f2 S2 A2 => ⟨D2, zs, _, rfl, List.mem_append.mpr (.inl (List.mem_cons_of_mem _ (List.mem_cons_self ..))), List.mem_append.mpr (.inl (List.mem_cons_self ..)), by rw [A1.length, A2.length, PySem.sizeLine_eq]; simp only [kids, List.map_cons, List.map_nil, List.length_cons, List.length_nil]; omega, fun D3 => ?_⟩⟩)⟩
      have A3 := A1.app A2
      have k1t := S2.sub _ k1''
      exact JX.ret (JL.E (JL.add (n1 := 200005) (n2 := 1) (JL.add (n1 := 5) (n2 := 200000) (JL.add (n1 := 4) (n2 := 1) (JL.V (EV.sub ht k1t rfl) (by decide +kernel) (JL.str (by decide +kernel) (JL.join (JE.V (EV.name rfl) fun _ => ⟨_, _, _, _, rfl, List.mem_append.mpr (.inl (List.mem_cons_self ..)), A3, l1, l2, JL.str (by decide +kernel) fun t => hR _ _ _ _ (StrIs.of (adt_text r q U V) (.mk t))⟩) (by decide +kernel)))) rfl) rfl) rfl))
theorem ltext_all (w : World) : ∀ T, ∀ {v : Value} {fz rest : Led}, Low T 10 → TyIn fz v T → Tups fz → Tel w 156 [v] fz rest (12 * height T + 20) (fun r _ => StrIs (textT T) r) := by
  have all : ∀ n, ∀ T, height T < n → ∀ {v : Value} {fz rest : Led}, Low T 10 → TyIn fz v T → Tups fz → Tel w 156 [v] fz rest (12 * height T + 20) (fun r _ => StrIs (textT T) r) := by
    intro n
    induction n with
    | zero => intro T h; exact absurd h (Nat.not_lt_zero _)
    | succ n ih =>
      intro T h v fz rest hL hT hz
      have hh := hL.le
      have kid : ∀ T' ∈ kids T, height T' + 1 ≤ height T := fun T' h' => by
        obtain ⟨i, hi, e⟩ := List.mem_iff_getElem.mp h'
        exact kids_lt (i := i) (by rw [List.getElem?_eq_getElem hi, e])
      by_cases h0 : 1 ≤ height T
      · have K : LTextK w T (12 * (height T - 1) + 20) := ⟨fun T' h' v fz rest hT' hz' => (ih T' (by have := kid T' h'; omega) ⟨by have := kid T' h'; omega⟩ hT' hz').more (by have := kid T' h'; omega)⟩
        exact (ltext_walk hL hT hz K).more (by omega)
      · have K0 : LTextK w T 8 := ⟨fun T' h' => absurd (kid T' h') (by omega)⟩
        exact (ltext_walk hL hT hz K0).more (by omega)
  exact fun T => all _ T (Nat.lt_succ_self _)
theorem law_text_tel {w : World} {T : Ty} {v : Value} {fz rest : Led} (hL : Low T 10) (hT : TyIn fz v T) (hz : Tups fz) : Tel w 156 [v] fz rest (12 * height T + 20) (fun r _ => StrIs (textT T) r) := ltext_all w T hL hT hz

end
section
theorem flushLTurn : True ∧ True := by (w_top off); (first | (walk1; done) | exact ⟨True.intro, True.intro⟩)
/-! dicts with regions as keys; the law's turned -/
noncomputable def isReg (r : Reg) (v : Value) : Bool :=
  match r, v with
  | .none, .none => true
  | .a, .str x _ => x == S "'a"
  | .b, .str x _ => x == S "'b"
  | .st, .str x _ => x == S "'static"
  | .c, .str x _ => x == S "'c"
  | .n3, .int i _ => i == 3
  | .n7, .int i _ => i == 7
  | _, _ => false
theorem isReg_iff {r : Reg} {v : Value} : isReg r v = true ↔ RegV v r := by
  constructor
  · intro h
    cases r <;> cases v <;> simp [isReg] at h
    all_goals (first | (subst h; constructor) | constructor)
  · intro h
    cases h <;> simp [isReg]
noncomputable def regHash (w : World) : Reg → Int
  | .none => W.hashW w.params .none
  | .a => hashStr w (S "'a") | .b => hashStr w (S "'b") | .st => hashStr w (S "'static") | .c => hashStr w (S "'c")
  | .n3 => hashInt 3 | .n7 => hashInt 7
noncomputable def sR : Reg → Option Str
  | .a => some (S "'a") | .b => some (S "'b") | .st => some (S "'static") | .c => some (S "'c") | _ => none
noncomputable def iR : Reg → Option Int
  | .n3 => some 3 | .n7 => some 7 | _ => none
inductive RKind : Value → Reg → Prop
  | none : RKind .none .none
  | str {x t r} : sR r = some x → RKind (.str x t) r
  | int {i t r} : iR r = some i → RKind (.int i t) r
theorem reg_kind {v : Value} {r : Reg} (h : RegV v r) : RKind v r := by
  cases h
  · exact .none
  all_goals first | exact .str rfl | exact .int rfl
theorem sR_inj {r q : Reg} {x y : Str} (h : sR r = some x) (k : sR q = some y) : decide (x = y) = decide (r = q) := by
  cases r <;> simp only [sR, Option.some.injEq, reduceCtorEq] at h <;> cases q <;> simp only [sR, Option.some.injEq, reduceCtorEq] at k <;> subst h <;> subst k <;> decide +kernel
theorem iR_inj {r q : Reg} {x y : Int} (h : iR r = some x) (k : iR q = some y) : (x == y) = decide (r = q) := by
  cases r <;> simp only [iR, Option.some.injEq, reduceCtorEq] at h <;> cases q <;> simp only [iR, Option.some.injEq, reduceCtorEq] at k <;> subst h <;> subst k <;> decide +kernel
theorem sR_none {r : Reg} {x : Str} (h : sR r = some x) : decide (r = .none) = false ∧ decide (Reg.none = r) = false := by cases r <;> first | (cases h; done) | exact ⟨rfl, rfl⟩
theorem iR_none {r : Reg} {x : Int} (h : iR r = some x) : decide (r = .none) = false ∧ decide (Reg.none = r) = false := by cases r <;> first | (cases h; done) | exact ⟨rfl, rfl⟩
theorem sR_iR {r q : Reg} {x : Str} {y : Int} (h : sR r = some x) (k : iR q = some y) : decide (r = q) = false ∧ decide (q = r) = false := by
  cases r <;> first | (cases h; done) | (cases q <;> first | (cases k; done) | exact ⟨rfl, rfl⟩)
section
variable {prog : Program} {w : World} {A : Around} {E : Value → Shared → Prop} {s : Shared}
theorem eqBool_none {Q : Bool → Shared → Prop} (h : Q true s) : wpAny (model prog w) A (eqBool .none .none) Q E s := by
  unfold eqBool
  refine wpAny_holding ?_
  rw [if_pos (beq_self_eq_true _)]
  exact wpAny_bind (wpAny_rule (wpAny_pure h))
theorem eqBool_reg {a b : Reg} {u v : Value} {Q : Bool → Shared → Prop} (ha : RegV u a) (hb : RegV v b) (h : Q (decide (a = b)) s) : wpAny (model prog w) A (eqBool u v) Q E s := by
  have ka := reg_kind ha
  have kb := reg_kind hb
  clear ha hb
  cases ka with
  | none =>
    cases kb with
    | none => exact eqBool_none h
    | str k => rw [(sR_none k).2] at h; exact SeqAt.EqAt.none_str _ _ _ _ _ _ h
    | int k => rw [(iR_none k).2] at h; exact SeqAt.EqAt.none_int _ _ _ _ _ _ h
  | str j =>
    cases kb with
    | none => rw [(sR_none j).1] at h; exact SeqAt.EqAt.str_none _ _ _ _ _ _ h
    | str k => rw [← sR_inj j k] at h; exact wpAny_eqBool_str h
    | int k => rw [(sR_iR j k).1] at h; exact SeqAt.EqAt.str_int _ _ _ _ _ _ _ _ h
  | int j =>
    cases kb with
    | none => rw [(iR_none j).1] at h; exact SeqAt.EqAt.int_none _ _ _ _ _ _ h
    | str k => rw [(sR_iR k j).2] at h; exact SeqAt.EqAt.int_str _ _ _ _ _ _ _ _ h
    | int k => rw [← iR_inj j k] at h; exact wpAny_eqBool_int h
theorem pyHash_reg {r : Reg} {v : Value} {Q : Int → Shared → Prop} (hv : RegV v r) (h : Q (regHash w r) { s with toks := s.toks + 1 }) : wpAny (model prog w) A (pyHash v) Q E s := by
  cases hv <;> simp only [regHash] at h
  case none =>
    exact pyHash_slot (T := "NoneType") rfl PySem.F.slot_NoneType_hash PySem.F.entry_NoneType_hash (PySem.F.args_NoneType_hash_1 _) (beq_builtin_none _) (.inl rfl) (wpAny_bind (wpAny_pure (wpAny_bind (wpAny_mkInt (wpAny_pure ⟨_, _, rfl, h⟩)))))
  all_goals first
    | (with_reducible refine wpAny_pyHash_int ?_; exact h)
    | (with_reducible refine wpAny_pyHash_str ?_; exact h)
end
theorem reg_inj {v : Value} {a b : Reg} (ha : RegV v a) (hb : RegV v b) : a = b := by
  cases ha <;> cases hb <;> rfl
noncomputable def regKind (prog : Program) (w : World) : KeyKind prog w Reg where
  is := isReg
  hash := regHash w
  inj := fun _ _ _ ha hb => reg_inj (isReg_iff.mp ha) (isReg_iff.mp hb)
  byValue := fun _ _ h => by cases isReg_iff.mp h <;> rfl
  pyHash := fun hv h => pyHash_reg (isReg_iff.mp hv) h
  eqBool := fun hu hv h => eqBool_reg (isReg_iff.mp hu) (isReg_iff.mp hv) h
  «strs» := fun k x t v h => by
    have k' := isReg_iff.mp h
    cases k' <;> cases v <;> rfl

end
section
theorem flushLTurn2 : True ∧ True := by (w_top off); (first | (walk1; done) | exact ⟨True.intro, True.intro⟩)
noncomputable def chF (g : Reg → Reg) : Reg → Unit → Reg × Unit := fun r c => (g r, c)
noncomputable abbrev turnT (g : Reg → Reg) (T : Ty) : Ty := (wrS (chF g) T ()).1
structure RMap (w : World) (kvs : List (Reg × Value)) (g : Reg → Reg) : Prop where
  get : ∀ r ∈ drawnRegs, ∃ v, valueAt kvs r = some v ∧ RegV v (g r)
inductive RTab (w : World) (led : Led) (d : Addr) (g : Reg → Reg) : Prop
  | mk {o kvs} : (d, o) ∈ led → o.IsDictOf (regKind PySem.Challenge.rw_ot0007_01.row.prog w) kvs → (d == sysModules) = false → RMap w kvs g → RTab w led d g
section
variable {w : World} {A : Around} {E : Value → Shared → Prop} {s : Shared} {h₀ : Heap} {L : Addr} {led : Led} {Q : Value → Shared → Prop}
theorem item_reg {value slice : PySem.Expr} {d : Addr} {o : Obj} {kvs : List (Reg × Value)} {g : Reg → Reg} {r : Reg} {rv : Value} (N : News h₀ L s.heap led) (hm : (d, o) ∈ led) (hd : o.IsDictOf (regKind PySem.Challenge.rw_ot0007_01.row.prog w) kvs) (hl : RMap w kvs g) (hr : RegV rv r) (hk : r ∈ drawnRegs)
    (h : ∀ v t, RegV v (g r) → Q v { s with toks := t })
    (hs : subscripted slice false (.ref d) rv = operate [.ref d, rv] (getItem (.ref d) rv) := by with_unfolding_all rfl) (hg : ∀ r, letTemporaryGo value (.ref d) r = pure () := by intro _; with_unfolding_all rfl) :
    wpAny (model PySem.Challenge.rw_ot0007_01.row.prog w) A (subscriptTail value slice (.ref d) rv) Q E s := by
  obtain ⟨v, e, q⟩ := hl.get r hk
  exact kda_item (knd := regKind PySem.Challenge.rw_ot0007_01.row.prog w) N hm hd (isReg_iff.mpr hr) e (h v _ q) hs hg
end
structure TurnK (w : World) (g : Reg → Reg) (T : Ty) (n : Nat) : Prop where
  ih : ∀ T' ∈ kids T, ∀ {v : Value} {fz rest : Led} {d : Addr}, TyIn fz v T' → Tups fz → RTab w rest d g → Tel w 144 [v, .ref d] fz rest n (fun r fz' => TyIn fz' r (turnT g T'))
structure Drawn' (T : Ty) : Prop where
  regs : ∀ r ∈ regsL T, r ∈ drawnRegs

end
section
theorem flushLTurn3 : True ∧ True := by (w_top off); (first | (walk1; done) | exact ⟨True.intro, True.intro⟩)
/-! _law_turned, in the small logic -/
theorem JH.itemReg {w : World} {cs : Scope} {cl : List (Str × Addr)} {c : Cx w cs cl} {m : Str → Option Value} {own fz rest : Led} {P : Value → Led → Led → Prop} {value slice : PySem.Expr} {d : Addr} {o : Obj} {kvs : List (Reg × Value)} {g : Reg → Reg} {r : Reg} {rv : Value} (hm : (d, o) ∈ rest) (hd : o.IsDictOf (regKind PySem.Challenge.rw_ot0007_01.row.prog w) kvs) (hl : RMap w kvs g) (hr : RegV rv r) (hk : r ∈ drawnRegs) (h : ∀ v, RegV v (g r) → P v own fz)
    (hs : subscripted slice false (.ref d) rv = operate [.ref d, rv] (getItem (.ref d) rv) := by with_unfolding_all rfl) (hg : ∀ r, letTemporaryGo value (.ref d) r = pure () := by intro _; with_unfolding_all rfl) : JH c m own fz rest (subscriptTail value slice (.ref d) rv) P := fun s _ _ a q =>
  item_reg a.N (List.mem_append.mpr (.inr (List.mem_append.mpr (.inr hm)))) hd hl hr hk (fun v t hv => q v own fz s.heap t a Sub.refl (h v hv)) hs hg
theorem RTab.app {w : World} {own rest : Led} {d : Addr} {g : Reg → Reg} (h : RTab w rest d g) : RTab w (own ++ rest) d g := by
  cases h with | mk a b c d => exact .mk (List.mem_append.mpr (.inr a)) b c d
theorem turn_tuple {T : Ty} (g : Reg → Reg) (h : (kindS T == Str.ofString "tuple") = true) : withKids T ((kids T).map (turnT g)) = turnT g T := by
  cases T
  case unit => rfl
  case pair => rfl
  all_goals exact absurd h (by show ¬ ((S _ == S _) = true); decide +kernel)
theorem turn_leaf {T : Ty} (g : Reg → Reg) (h1 : (kindS T == Str.ofString "ref") = false) (h2 : (kindS T == Str.ofString "adt") = false) (h3 : (kindS T == Str.ofString "tuple") = false) (h4 : (S "box" == kindS T || S "array" == kindS T) = false) : turnT g T = T := by
  cases T
  case ref => exact absurd h1 (by show ¬ ((S _ == S _) = false); decide +kernel)
  case adt => exact absurd h2 (by show ¬ ((S _ == S _) = false); decide +kernel)
  case unit => rfl
  case pair => exact absurd h3 (by show ¬ ((S _ == S _) = false); decide +kernel)
  case box => exact absurd h4 (by show ¬ ((S _ == S _ || S _ == S _) = false); decide +kernel)
  case array => exact absurd h4 (by show ¬ ((S _ == S _ || S _ == S _) = false); decide +kernel)
  all_goals rfl
inductive BoxArr (fz : Led) (a : Addr) : Ty → Prop
  | box {U n t x} : (a, tupO [.str (S "box") t, x] n) ∈ fz → TyIn fz x U → BoxArr fz a (.box U)
  | arr {U n t u x} : (a, tupO [.str (S "array") t, x, .int 2 u] n) ∈ fz → TyIn fz x U → BoxArr fz a (.array U)
set_option tactic.hygienic true in
theorem kBoxArr {fz : Led} {a : Addr} {T : Ty} (h : TyIn fz (.ref a) T) (k : (S "box" == kindS T || S "array" == kindS T) = true) : BoxArr fz a T := by
  cases h
  case box j h => exact .box h j
  case array j h => exact .arr h j
  all_goals exact absurd k (by show ¬ ((S _ == S _ || S _ == S _) = true); decide +kernel)
theorem Drawn'.two {r q : Reg} {T U : Ty} (h : Drawn' (.adt r q T U)) {i : Nat} {x : Reg} (e : ([r, q] : List Reg)[i]? = some x) : x ∈ drawnRegs := h.regs x (by
  have := List.mem_of_getElem? e
  simp only [regsL, List.cons_append, List.mem_cons, List.mem_append, List.not_mem_nil, or_false] at this ⊢
  rcases this with this | this <;> simp [this])
section
variable {w : World} {cs : Scope} {cl : List (Str × Addr)} {c : Cx w cs cl} {m : Str → Option Value} {own fz rest : Led} {pos p1 p2 p3 px py : Pos}
/-- [_law_turned(one, table) for one in ..] -/
theorem turn_kids {g : Reg → Reg} {T : Ty} {n : Nat} {iter : PySem.Expr} {scope : Scope} {ca : Addr} {oc : Obj} {d : Addr} {P : Value → Led → Led → Prop} (hw : nsIn (Mine.hd.heap_1 w.params) mainGlobals (Str.ofString "_law_turned") = some (some (.ref 144)) ∧ keepIn (Mine.hd.heap_1 w.params) (.ref 144) = true)
    (IH : TurnK w g T n) (ht : RTab w rest d g) (hc : (ca, oc) ∈ own) (ho : oc.data = .cell (some (.ref d))) (hd : c.dp + n < recursionLimit) (hu : c.un + 8 * n < cLine)
    (j : JE c m own fz rest iter (fun v o f => o = own ∧ ∃ b vs k, v = .ref b ∧ (b, tupO vs k) ∈ f ∧ TyAll f vs (kids T) ∧ ∀ D ys f', Sub f f' → TyAll f' ys ((kids T).map (turnT g)) → P (.ref D) ((D, PySem.W.listOf ys.toArray ys.length) :: own) f'))
    (hclos : ∀ cn L a ccd, closureFor scope (envX cn cs L a ccd cl) = pure [(Str.ofString "table", ca)] := by intros; rfl) (hcell : ∀ y ∈ scope.names, y.2 ≠ .cell := by decide) (hkind : scope.kind = .function := by rfl) (hnames : ∀ y ∈ scope.names, y.2 = .local → scope.names.lookup y.1 = some .local := by decide) (hx : scope.names.lookup (Str.ofString "one") = some .local := by rfl)
    (hs : ∀ env y, foldedSetIterable iter env y = pure y := by intros; rfl) (hk : ∀ cn L a ccd C, (compEnvC scope [(Str.ofString "table", ca)] C (envX cn cs L a ccd cl)).scope.kind = .function := by intros; rfl) (hl : ∀ cn L a ccd C, (compEnvC scope [(Str.ofString "table", ca)] C (envX cn cs L a ccd cl)).kindOf (Str.ofString "one") = some .local := by intros; rfl) (hl2 : ∀ cn L a ccd C, (compEnvC scope [(Str.ofString "table", ca)] C (envX cn cs L a ccd cl)).kindOf (Str.ofString "table") = some .cell := by intros; rfl) (hl3 : ∀ cn L a ccd C, (compEnvC scope [(Str.ofString "table", ca)] C (envX cn cs L a ccd cl)).kindOf (Str.ofString "_law_turned") = some .globalImplicit := by intros; rfl) (hcs : cs.kind = .function := by rfl) :
    JE c m own fz rest (.ListComp (.Call (.Name (Str.ofString "_law_turned") p1) [.Name (Str.ofString "one") p2, .Name (Str.ofString "table") p3] [] py) [⟨.Name (Str.ofString "one") px, iter, [], 0⟩] scope pos) P :=
  JE.comp (γ := Unit) (fun _ => own) () (fun vs f => TyAll f vs (kids T) ∧ ∀ D ys f', Sub f f' → TyAll f' ys ((kids T).map (turnT g)) → P (.ref D) ((D, PySem.W.listOf ys.toArray ys.length) :: own) f') (fun _ i ys f _ => TyAll f ys (((kids T).take i).map (turnT g))) (fun _ => rfl)
    (j.use fun v o f S ⟨e, b, vs, k, e1, hb, hv, hp⟩ => ⟨b, vs, e1, .inl ⟨k, hb⟩, e, kids_size hv, ⟨hv, hp⟩, .nil⟩)
    (fun vs f0 _ ⟨hv, _⟩ i v ys f _ C oC m₂ I oI D e S A hC hx2 _ => JH.noTest (by
      rw [if_pos rfl]
      obtain ⟨T', e', k'⟩ := hv.at e
      exact JH.call2 hw.1 hw.2 (CV.var (List.mem_cons_of_mem _ (List.mem_cons_self ..)) hC hx2 (fun cn L a ccd => hk cn L a ccd C) (fun cn L a ccd => hl cn L a ccd C)) (CV.cell rfl (List.mem_cons_of_mem _ (List.mem_cons_of_mem _ (List.mem_cons_of_mem _ hc))) ho (fun cn L a ccd => hk cn L a ccd C) (fun cn L a ccd => hl2 cn L a ccd C)) (JH.tel (fun Z => IH.ih T' (List.mem_of_getElem? e') (k'.up S) Z ht.app) hd hu (fun r f' S' p => ⟨(), rfl, by rw [List.take_add_one, e', Option.toList, List.map_append]; exact TyAll.snoc (A.up S') p⟩) hcs) (fun cn L a ccd => hk cn L a ccd C) (fun cn L a ccd => hl3 cn L a ccd C)))
    (fun vs f0 _ ⟨hv, hp⟩ D ys f _ S A _ => hp D ys f S (by rw [List.take_of_length_le (by rw [hv.length]; exact Nat.le_refl _)] at A; exact A)) hclos hcell hkind hnames hx hs
end
set_option maxHeartbeats 400000 in
theorem turn_walk {w : World} {g : Reg → Reg} {T : Ty} {v : Value} {fz rest : Led} {d : Addr} {n : Nat} (hD : Drawn' T) (hT : TyIn fz v T) (hz : Tups fz) (ht : RTab w rest d g) (IH : TurnK w g T n) : Tel w 144 [v, .ref d] fz rest (n + 12) (fun r fz' => TyIn fz' r (turnT g T)) := by
  obtain ⟨a, t, more, n9, rfl, hm⟩ := hT.head
  have hB := hT.by
  obtain ⟨hd1, hd2, hd3, hd4⟩ := id ht
  have kf9 : Mine.hd.heap_1 w.params = Mine.hd.heap_1 w.params ∧ PySem.Challenge.rw_ot0007_01 = PySem.Challenge.rw_ot0007_01 := by k_fill; exact ⟨rfl, rfl⟩
  clear kf9
  refine' tel_defC ?a0 ?a1 (fun _ => ?a2) ?a3 ?a4 ?a5 ?a6 ?a7 (fun _ => ?a8) (fun _ => ?a9) (hz) ?_
  case a0 => k_is
  case a1 => k_is
  case a2 => exact BindsTo.of_eq rfl
  case a3 => exact rfl
  case a4 => decide +kernel
  case a5 => exact rfl
  case a6 => exact rfl
  case a7 => exact rfl
  case a8 => exact rfl
  case a9 => exact rfl
  intro ca oc c m R hoc hdp hun hb hR
  have htg : m (Str.ofString "thing") = some (.ref a) := hb _
  clear hb
  have hw : nsIn (Mine.hd.heap_1 w.params) mainGlobals (Str.ofString "_law_turned") = some (some (.ref 144)) ∧ keepIn (Mine.hd.heap_1 w.params) (.ref 144) = true := ⟨by k_is, by k_is⟩
  have hdn : c.dp + n < recursionLimit := by first | exact dlk hdp rfl | exact dld hdp rfl | exact dln hdp rfl
  have hun' : c.un + 8 * n < cLine := by first | exact ulk hun rfl | exact uld hun rfl | exact uln hun rfl
  refine JX.ifrV (EV.sub htg hm rfl) ?ref fun h1 => JX.ifbV (EV.sub htg hm rfl) ?adt fun h2 => JX.ifrV (EV.sub htg hm rfl) ?tup fun h3 => JX.ret (JE.ite (JT.inTwo (EV.sub htg hm rfl) (kindS_ok T) (by omega) fun E1 t1 t2 => ?_))
  case ref =>
    intro h
    obtain ⟨⟨k1, k2, k3⟩⟩ := kRef hB h
    refine JE.tuple (JA.cons (JE.V EV.str fun t1 => ?_))
    refine JA.cons (JE.item (EV.cell rfl (List.mem_cons_self ..) hoc) (EV.sub htg k1 rfl) fun _ _ => JH.itemReg hd1 hd2 hd4 k2 (hD.regs _ (.head _)) fun v' hv' => ?_)
    refine JA.cons (JE.V (EV.sub htg k1 rfl) fun _ => ?_)
    refine JA.cons (JE.call hw.1 hw.2 (JA.cons (JE.V (EV.sub htg k1 rfl) fun _ => JA.cons (JE.V (EV.cell rfl (List.mem_cons_self ..) hoc) fun _ => JA.nil ?_))))
    exact JH.G (JH.tel (fun Z => IH.ih _ (.head _) k3 Z ht.app) hdn hun' fun r f' S p => JA.nil ⟨Nat.le_of_ble_eq_true rfl, fun D => hR _ _ _ _ (.ref (List.mem_cons_self ..) hv' (p.up (.cons .refl)))⟩)
  case adt =>
    intro h
    obtain @⟨r1, r2, U, V, ⟨k1, k2, k3, k4, k5, k6⟩⟩ := kAdt hB h
    refine JX.set (JE.tupleE (JE.comp (γ := Unit) (fun _ => [(ca, oc)]) () (fun vs _ => RegAll vs [r1, r2]) (fun _ i ys _ _ => RegAll ys (([r1, r2].take i).map g)) (fun _ => rfl) (JE.V (EV.sub htg k1 rfl) fun _ => ⟨_, _, rfl, .inl ⟨_, k2⟩, rfl, Nat.le_of_ble_eq_true rfl, .cons k4 (.cons k5 .nil), .nil⟩)
      (fun vs f0 S0 hv i v ys f _ C oC m₂ I oI D e S A hC hx _ => JH.noTest ?turn) (fun vs f0 S0 hv D ys f _ S1 A _ => ?fin)))
    case turn =>
      rw [if_pos rfl]
      obtain ⟨r', e', k'⟩ := hv.at e
      exact JH.item (CV.cell rfl (List.mem_cons_of_mem _ (List.mem_cons_of_mem _ (List.mem_cons_of_mem _ (List.mem_cons_self ..)))) hoc) (CV.var (List.mem_cons_of_mem _ (List.mem_cons_self ..)) hC hx) (JH.itemReg hd1 hd2 hd4 k' (hD.two e') fun v' hv' => ⟨(), rfl, by rw [List.take_add_one, e', Option.toList, List.map_append]; exact RegAll.snoc A hv'⟩)
    case fin =>
      rw [List.take_of_length_le (by rw [hv.length']; exact Nat.le_refl _)] at A
      obtain ⟨y1, y2, rfl, hy1, hy2⟩ := A.two
      have S := S1.step S0
      have k1' := S.sub _ k1
      have k3' := S.sub _ k3
      refine ⟨D, _, _, rfl, List.mem_cons_self .., Nat.le_of_ble_eq_true rfl, fun D2 => JX.ret (JE.tuple (JA.cons (JE.V EV.str fun _ => ?_)))⟩
      refine JA.cons (JE.V (EV.sub htg (List.mem_cons_of_mem _ k1') rfl) fun _ => ?_)
      refine JA.cons (JE.V (EV.name rfl) fun _ => ?_)
      refine JA.cons (JE.tupleE (turn_kids hw IH ht (List.mem_cons_of_mem _ (List.mem_cons_self ..)) hoc hdn hun' (JE.V (EV.sub htg (List.mem_cons_of_mem _ k1') rfl) fun _ => ⟨rfl, _, _, _, rfl, List.mem_cons_of_mem _ k3', (k6.up S).up (.cons .refl), fun D3 zs f' S' A' => ?_⟩)))
      obtain ⟨z1, z2, rfl, hz1, hz2⟩ := A'.two
      exact ⟨D3, _, _, rfl, List.mem_cons_self .., Nat.le_of_ble_eq_true rfl, fun D4 => JA.nil ⟨Nat.le_of_ble_eq_true rfl, fun D5 => ⟨⟨_, rfl⟩, hR _ _ _ _ (.adt (List.mem_cons_self ..) (List.mem_cons_of_mem _ (List.mem_cons_of_mem _ (S'.sub _ (List.mem_cons_self ..)))) (List.mem_cons_of_mem _ (List.mem_cons_self ..)) hy1 hy2 (hz1.up (.cons (.cons .refl))) (hz2.up (.cons (.cons .refl))))⟩⟩⟩
  case tup =>
    intro h
    obtain ⟨k1, k2, k3⟩ := kTup hB h
    exact JE.tup2E EV.str (JE.tupleE (turn_kids hw IH ht (List.mem_cons_self ..) hoc hdn hun' (JE.V (EV.sub htg k1 rfl) fun _ => ⟨rfl, _, _, _, rfl, k2, k3, fun D3 zs f' S' A' => ⟨D3, zs, _, rfl, List.mem_cons_self .., by rw [A'.length, List.length_map]; exact Nat.le_trans (kids_two T) (by decide), fun D4 t1 D5 => hR _ _ _ _ (turn_tuple g h ▸ with_tuple h (A'.up (.cons (.cons .refl))) (List.length_map ..) (List.mem_cons_self ..) (List.mem_cons_of_mem _ (List.mem_cons_self ..)))⟩⟩)))
  cases hq : (S "box" == kindS T || S "array" == kindS T) with
  | true =>
    rw [if_pos rfl]
    have call : ∀ {U : Ty} {x : Value} {own f : Led} {P : Value → Led → Led → Prop}, kids T = [U] → TyIn fz x U → Sub fz f → (∀ r f', Sub f f' → TyIn f' r (turnT g U) → P r own f') → JC c m own f rest (.ref 144) [x, .ref d] P := fun hk hx S hp =>
      JH.G (JH.tel (fun Z => IH.ih _ (by rw [hk]; exact .head _) (hx.up S) Z ht.app) hdn hun' hp)
    cases kBoxArr hT hq with
    | box k1 k2 =>
      refine JE.addT (JE.addT (JE.headS (i := 1) htg (List.mem_cons_of_mem _ k1) rfl (Nat.le_of_ble_eq_true rfl) fun D1 => ⟨_, _, _, rfl, List.mem_cons_self .., List.cons_ne_nil _ _, ?_⟩))
      refine JE.tuple (JA.cons (JE.call hw.1 hw.2 (JA.cons (JE.V (EV.sub htg (List.mem_cons_of_mem _ (List.mem_cons_of_mem _ k1)) rfl) fun _ => ?_))))
      refine JA.cons (JE.V (EV.cell rfl (List.mem_cons_self ..) hoc) fun _ => JA.nil (call rfl k2 (.cons (.cons .refl)) fun r f' S' p => JA.nil ⟨Nat.le_of_ble_eq_true rfl, fun D2 => ?_⟩))
      refine ⟨_, _, _, rfl, List.mem_cons_self .., Nat.le_of_ble_eq_true rfl, .inr ⟨List.cons_ne_nil _ _, fun D3 => ?_⟩⟩
      have k1' := S'.sub _ (List.mem_cons_of_mem _ (List.mem_cons_of_mem _ k1))
      refine ⟨_, _, _, rfl, List.mem_cons_self .., List.cons_ne_nil _ _, ?_⟩
      refine JE.tailS (i := 2) htg (List.mem_cons_of_mem _ (List.mem_cons_of_mem _ k1')) rfl rfl (Nat.le_of_ble_eq_true rfl) fun D4 => ⟨_, _, _, rfl, List.mem_cons_self .., Nat.le_of_ble_eq_true rfl, .inl ⟨rfl, hR _ _ _ _ (TyIn.box (List.mem_cons_of_mem _ (List.mem_cons_self ..)) (p.up (.cons (.cons (.cons .refl)))))⟩⟩
    | arr k1 k2 =>
      refine JE.addT (JE.addT (JE.headS (i := 1) htg (List.mem_cons_of_mem _ k1) rfl (Nat.le_of_ble_eq_true rfl) fun D1 => ⟨_, _, _, rfl, List.mem_cons_self .., List.cons_ne_nil _ _, ?_⟩))
      refine JE.tuple (JA.cons (JE.call hw.1 hw.2 (JA.cons (JE.V (EV.sub htg (List.mem_cons_of_mem _ (List.mem_cons_of_mem _ k1)) rfl) fun _ => ?_))))
      refine JA.cons (JE.V (EV.cell rfl (List.mem_cons_self ..) hoc) fun _ => JA.nil (call rfl k2 (.cons (.cons .refl)) fun r f' S' p => JA.nil ⟨Nat.le_of_ble_eq_true rfl, fun D2 => ?_⟩))
      refine ⟨_, _, _, rfl, List.mem_cons_self .., Nat.le_of_ble_eq_true rfl, .inr ⟨List.cons_ne_nil _ _, fun D3 => ?_⟩⟩
      have k1' := S'.sub _ (List.mem_cons_of_mem _ (List.mem_cons_of_mem _ k1))
      refine ⟨_, _, _, rfl, List.mem_cons_self .., List.cons_ne_nil _ _, ?_⟩
      refine JE.tailS (i := 2) htg (List.mem_cons_of_mem _ (List.mem_cons_of_mem _ k1')) rfl rfl (Nat.le_of_ble_eq_true rfl) fun D4 => ⟨_, _, _, rfl, List.mem_cons_self .., Nat.le_of_ble_eq_true rfl, .inr ⟨List.cons_ne_nil _ _, fun D5 => hR _ _ _ _ (TyIn.array (List.mem_cons_self ..) (p.up (.cons (.cons (.cons (.cons .refl))))))⟩⟩
  | false =>
    rw [if_neg Bool.false_ne_true]
    exact JE.V (EV.name htg) fun _ => hR _ _ _ _ (by rw [turn_leaf g h1 h2 h3 hq]; exact hT.up (.cons .refl))

end
section
theorem flushLTurnF : True ∧ True := by (w_top off); (first | (walk1; done) | exact ⟨True.intro, True.intro⟩)
theorem kid_regs {T T' : Ty} (h : T' ∈ kids T) : ∀ r ∈ regsL T', r ∈ regsL T := by
  intro r hr
  cases T <;> simp only [kids, List.mem_cons, List.not_mem_nil, or_false] at h
  all_goals (try (rcases h with rfl | rfl))
  all_goals (try subst h)
  all_goals simp only [regsL, List.mem_cons, List.mem_append, hr, true_or, or_true]
theorem turned_all (w : World) (g : Reg → Reg) : ∀ T, Drawn' T → ∀ {v : Value} {fz rest : Led} {d : Addr}, TyIn fz v T → Tups fz → RTab w rest d g → Tel w 144 [v, .ref d] fz rest (12 * height T + 20) (fun r fz' => TyIn fz' r (turnT g T)) := by
  have all : ∀ n, ∀ T, height T < n → Drawn' T → ∀ {v : Value} {fz rest : Led} {d : Addr}, TyIn fz v T → Tups fz → RTab w rest d g → Tel w 144 [v, .ref d] fz rest (12 * height T + 20) (fun r fz' => TyIn fz' r (turnT g T)) := by
    intro n
    induction n with
    | zero => intro T h; exact absurd h (Nat.not_lt_zero _)
    | succ n ih =>
      intro T h hD v fz rest d hT hz ht
      by_cases h0 : 1 ≤ height T
      · have K : TurnK w g T (12 * (height T - 1) + 20) := ⟨fun T' h' v fz rest d hT' hz' ht' => (ih T' (by have := kid_height h'; omega) ⟨fun r hr => hD.regs r (kid_regs h' r hr)⟩ hT' hz' ht').more (by have := kid_height h'; omega)⟩
        exact (turn_walk hD hT hz ht K).more (by omega)
      · have K0 : TurnK w g T 8 := ⟨fun T' h' => absurd (kid_height h') (by omega)⟩
        exact (turn_walk hD hT hz ht K0).more (by omega)
  exact fun T => all _ T (Nat.lt_succ_self _)
theorem law_turned_tel {w : World} {g : Reg → Reg} {T : Ty} {v : Value} {fz rest : Led} {d : Addr} (hD : Drawn' T) (hT : TyIn fz v T) (hz : Tups fz) (ht : RTab w rest d g) : Tel w 144 [v, .ref d] fz rest (12 * height T + 20) (fun r fz' => TyIn fz' r (turnT g T)) := turned_all w g T hD hT hz ht

end
section
theorem flushLPut : True ∧ True := by (w_top off); (first | (walk1; done) | exact ⟨True.intro, True.intro⟩)
/-! _law_put -/
inductive Pv where
  | leaf | ty (T : Ty) | tys (T U : Ty) | no | regs (r q : Reg)
inductive PvIn (fz : Led) : Value → Pv → Prop
  | str {x t} : PvIn fz (.str x t) .leaf
  | int {i t} : PvIn fz (.int i t) .leaf
  | bool {b} : PvIn fz (.bool b) .leaf
  | none : PvIn fz .none .leaf
  | ty {v T} : TyIn fz v T → PvIn fz v (.ty T)
  | tys {b k v x T U} : (b, tupO [v, x] k) ∈ fz → TyIn fz v T → TyIn fz x U → PvIn fz (.ref b) (.tys T U)
  | no {b k} : (b, tupO [] k) ∈ fz → PvIn fz (.ref b) .no
  | regs {b k v x r q} : (b, tupO [v, x] k) ∈ fz → RegV v r → RegV x q → PvIn fz (.ref b) (.regs r q)
inductive PvOut (τ : Tab) (fz : Led) : Value → Value → Pv → Prop
  | leaf {v} : PvOut τ fz v v .leaf
  | ty {u v T} : TyIn fz v (subst τ T) → PvOut τ fz u v (.ty T)
  | tys {u b k v x T U} : (b, tupO [v, x] k) ∈ fz → TyIn fz v (subst τ T) → TyIn fz x (subst τ U) → PvOut τ fz u (.ref b) (.tys T U)
  | no {u b k} : (b, tupO [] k) ∈ fz → PvOut τ fz u (.ref b) .no
  | regs {u b k v x r q} : (b, tupO [v, x] k) ∈ fz → RegV v r → RegV x q → PvOut τ fz u (.ref b) (.regs r q)
theorem PvIn.up {fz fz' : Led} {v : Value} {p : Pv} (s : Sub fz fz') (h : PvIn fz v p) : PvIn fz' v p := by
  cases h with
  | str => exact .str
  | int => exact .int
  | bool => exact .bool
  | none => exact .none
  | ty h => exact .ty (h.up s)
  | tys m h k => exact .tys (s.sub _ m) (h.up s) (k.up s)
  | no m => exact .no (s.sub _ m)
  | regs m h k => exact .regs (s.sub _ m) h k
theorem PvOut.up {τ : Tab} {fz fz' : Led} {u v : Value} {p : Pv} (s : Sub fz fz') (h : PvOut τ fz u v p) : PvOut τ fz' u v p := by
  cases h with
  | leaf => exact .leaf
  | ty h => exact .ty (h.up s)
  | tys m h k => exact .tys (s.sub _ m) (h.up s) (k.up s)
  | no m => exact .no (s.sub _ m)
  | regs m h k => exact .regs (s.sub _ m) h k
inductive PvAll (fz : Led) : List Value → List Pv → Prop
  | nil : PvAll fz [] []
  | cons {v p vs ps} : PvIn fz v p → PvAll fz vs ps → PvAll fz (v :: vs) (p :: ps)
inductive PvOuts (τ : Tab) (fz : Led) : List Value → List Value → List Pv → Prop
  | nil : PvOuts τ fz [] [] []
  | cons {u v p us vs ps} : PvOut τ fz u v p → PvOuts τ fz us vs ps → PvOuts τ fz (u :: us) (v :: vs) (p :: ps)
theorem PvOuts.up {τ : Tab} {fz fz' : Led} {us vs : List Value} {ps : List Pv} (s : Sub fz fz') (h : PvOuts τ fz us vs ps) : PvOuts τ fz' us vs ps := by
  induction h with
  | nil => exact .nil
  | cons h _ ih => exact .cons (h.up s) ih
theorem PvOuts.snoc {τ : Tab} {fz : Led} {us vs : List Value} {ps : List Pv} {u v : Value} {p : Pv} (h : PvOuts τ fz us vs ps) (k : PvOut τ fz u v p) : PvOuts τ fz (us ++ [u]) (vs ++ [v]) (ps ++ [p]) := by
  induction h with
  | nil => exact .cons k .nil
  | cons a _ ih => exact .cons a ih
theorem PvAll.at {fz : Led} {vs : List Value} {ps : List Pv} (h : PvAll fz vs ps) {i : Nat} {v : Value} (e : vs[i]? = some v) : ∃ p, ps[i]? = some p ∧ PvIn fz v p := by
  induction h generalizing i with
  | nil => simp at e
  | cons a _ ih =>
    cases i with
    | zero => simp at e; subst e; exact ⟨_, rfl, a⟩
    | succ i => simp at e; simpa using ih e
theorem PvAll.length {fz : Led} {vs : List Value} {ps : List Pv} (h : PvAll fz vs ps) : vs.length = ps.length := by
  induction h with
  | nil => rfl
  | cons a _ ih => simp [ih]
inductive NotP (fz : Led) : Value → Prop
  | str {x t} : x ≠ S "param" → PyData.strOk x = true → NotP fz (.str x t)
  | reg {v r} : RegV v r → NotP fz v
  | ty {v T} : TyIn fz v T → height T ≤ 20 → NotP fz v
theorem NotP.up {fz fz' : Led} {v : Value} (s : Sub fz fz') (h : NotP fz v) : NotP fz' v := by
  cases h with
  | str h k => exact .str h k
  | reg h => exact .reg h
  | ty h k => exact .ty (h.up s) k
set_option tactic.hygienic true in
theorem NotP.reads {h : Heap} {fz : Led} {v : Value} (L : Live h fz) (k : NotP fz v) : ∃ d as, Reads h v d as ∧ SeqAt.shaped (.tuple [d]) = true ∧ PyData.eqv d (.str (S "param")) = false := by
  cases k with
  | str hx ho => exact ⟨_, _, .str _ _, by simp [SeqAt.shaped, PyData.canLay0, PyData.canLayAll0, ho, PyData.depth, PyData.depthAll], by simp only [PyData.eqv, beq_eq_false_iff_ne]; exact hx⟩
  | reg hr =>
    rename_i r
    obtain ⟨as, k⟩ := rd_reg (h := h) hr
    exact ⟨_, as, k, by cases r <;> decide +kernel, by cases r <;> decide +kernel⟩
  | ty hT hh =>
    rename_i T
    obtain ⟨as, k⟩ := hT.reads L
    refine ⟨_, as, k, ?_, ?_⟩
    · have := toPy_depth T
      unfold SeqAt.shaped
      simp only [PyData.canLay0, PyData.canLayAll0, toPy_lay T, Bool.true_and, PyData.depth, PyData.depthAll]
      exact decide_eq_true (by omega)
    · obtain ⟨ds, e⟩ := toPy_head T
      rw [e]; rfl
section
variable {prog : Program} {w : World} {A : Around} {E : Value → Shared → Prop} {s : Shared} {h₀ : Heap} {L : Addr} {m : Str → Option Value} {led fz cs rest : Led} {Q : Value → Shared → Prop}
theorem eq_head {a b : Addr} {x : Value} {t : Tok} {i j : Nat} (N : News h₀ L s.heap led) (Pt : Part led fz cs rest) (ha : (a, tupO [x] i) ∈ led) (hb : (b, tupO [.str (S "param") t] j) ∈ led) (hx : NotP fz x) (hu : A.units + 64 < cLine) (k : Q (.bool false) s) : wpAny (model prog w) A (compareOp .Eq (.ref a) (.ref b)) Q E s := by
  obtain ⟨d, as, r, h1, h2⟩ := hx.reads (live_of N Pt)
  exact eq_dataH (reads_tuple_at (N _ ha).1 rfl rfl (by simpa using .cons r .nil)) (reads_tuple_at (N _ hb).1 rfl rfl (by simpa using .cons (.str _ t) .nil)) h1 (by decide +kernel) hu (by simp only [PyData.eqv, PyData.eqvAll, h2, Bool.false_and]; exact k)
theorem eq_head0 {a b : Addr} {t : Tok} {i j : Nat} (N : News h₀ L s.heap led) (ha : (a, tupO [] i) ∈ led) (hb : (b, tupO [.str (S "param") t] j) ∈ led) (hu : A.units + 64 < cLine) (k : Q (.bool false) s) : wpAny (model prog w) A (compareOp .Eq (.ref a) (.ref b)) Q E s :=
  eq_dataH (reads_tuple_at (N _ ha).1 rfl rfl .nil) (reads_tuple_at (N _ hb).1 rfl rfl (by simpa using .cons (.str _ t) .nil)) (by decide +kernel) (by decide +kernel) hu (by rw [show PyData.eqv (.tuple []) (.tuple [.str (S "param")]) = false by decide +kernel]; exact k)
theorem eq_headP {a b : Addr} {t u : Tok} {i j : Nat} (N : News h₀ L s.heap led) (ha : (a, tupO [.str (S "param") u] i) ∈ led) (hb : (b, tupO [.str (S "param") t] j) ∈ led) (hu : A.units + 64 < cLine) (k : Q (.bool true) s) : wpAny (model prog w) A (compareOp .Eq (.ref a) (.ref b)) Q E s :=
  eq_dataH (reads_tuple_at (N _ ha).1 rfl rfl (by simpa using .cons (.str _ u) .nil)) (reads_tuple_at (N _ hb).1 rfl rfl (by simpa using .cons (.str _ t) .nil)) (by decide +kernel) (by decide +kernel) hu (by rw [show PyData.eqv (.tuple [.str (S "param")]) (.tuple [.str (S "param")]) = true by decide +kernel]; exact k)
end
structure PutK (w : World) (τ : Tab) (ps : List Pv) (n : Nat) : Prop where
  ih : ∀ p ∈ ps, ∀ {v : Value} {fz rest : Led} {d : Addr}, PvIn fz v p → Tups fz → TabIn w rest fz d τ → Tel w 132 [v, .ref d] fz rest n (fun r fz' => PvOut τ fz' v r p)
inductive NodeIs (τ : Tab) (vs : List Value) (ps : List Pv) : Value → Led → Prop
  | mk {b ys k fz} : (b, tupO ys k) ∈ fz → PvOuts τ fz vs ys ps → NodeIs τ vs ps (.ref b) fz
section
variable {w : World} {cs : Scope} {cl : List (Str × Addr)} {c : Cx w cs cl} {m : Str → Option Value} {own fz rest : Led} {pos p1 p2 p3 p4 p5 : Pos} {k k2 : Nat} {P : Value → Led → Led → Prop} {B : Bool → Led → Led → Prop}
/-- x[:1] -/
theorem JE.take1 {x : Str} {a : Addr} {vs : List Value} {n : Nat} (hv : m x = some (.ref a)) (hm : (a, tupO vs n) ∈ fz) (h : ∀ D n f', Sub fz f' → (D, tupO (vs.take 1) n) ∈ f' → P (.ref D) own f')
    (hs : ∀ a b, subscripted (.Slice none (some (.Constant (.int 1) k p2)) none p4) false (.ref a) (.ref b) = operate [.ref b, .ref a] (getItem (.ref a) (.ref b)) := by intro _ _; with_unfolding_all rfl) (hk : cs.kind = .function := by rfl) (hx : (∀ cn L a ccd, (envX cn cs L a ccd cl).kindOf x = some .local) := by intros; rfl) (hd : (x == ("__debug__" : Str)) = false := by decide) :
    JE c m own fz rest (.Subscript (.Name x p1) (.Slice none (some (.Constant (.int 1) k p2)) none p4) p5) P := by
  have whole : Nat.ble vs.length 1 = true → JE c m own fz rest (.Subscript (.Name x p1) (.Slice none (some (.Constant (.int 1) k p2)) none p4) p5) P := fun hl s Q E hE a9 q =>
    Subscript_ (nameX_L a9.F hv (wpAny_Slice (evalPart_none_step (evalPart_some_step (wpAny_Constant_int (evalPart_none_step
      (slice_wholeS a9.F a9.N (List.mem_append.mpr (.inr (List.mem_append.mpr (.inl hm)))) .none (.int _ _) .none (by decide) (sl_head_whole 1 _ hl) (fun h' F' N' => q _ own fz h' _ ⟨F', N', a9.Z⟩ .refl (h a n fz .refl (by rw [List.take_of_length_le (Nat.le_of_ble_eq_true hl)]; exact hm))) (hs _ _))))))) hk (hx ..) hd)
  rcases vs with _ | ⟨y, _ | ⟨z, zs⟩⟩
  · exact whole rfl
  · exact whole rfl
  · exact JE.headS (i := 1) hv hm rfl (Nat.le_of_ble_eq_true rfl) (fun D => h D 0 _ (.cons .refl) (List.mem_cons_self ..)) hs hk hx hd
theorem JG.eqTake {a1 b1 : Addr} {vs : List Value} {t : Tok} {i j : Nat} (ha : (a1, tupO (vs.take 1) i) ∈ fz) (hb : (b1, tupO [.str (S "param") t] j) ∈ fz) (hh : ∀ x more, vs = x :: more → NotP fz x) (hu : c.un + 64 < cLine) (h : P (.bool false) own fz) : JG c m own fz rest (compareOp .Eq (.ref a1) (.ref b1)) P := fun s _ _ hE a q => by
  have ha' := List.mem_append.mpr (.inr (List.mem_append.mpr (.inl ha)) : _ ∈ own ∨ _ ∈ fz ++ rest)
  have hb' := List.mem_append.mpr (.inr (List.mem_append.mpr (.inl hb)) : _ ∈ own ∨ _ ∈ fz ++ rest)
  rcases vs with _ | ⟨y, zs⟩
  · exact eq_head0 a.N ha' hb' hu (q _ own fz s.heap s.toks a .refl h)
  · exact eq_head (a.N) Part.ownL ha' hb' (hh y zs rfl) hu (q _ own fz s.heap s.toks a .refl h)
theorem JG.eqParam {a1 b1 : Addr} {t u : Tok} {i j : Nat} (ha : (a1, tupO [.str (S "param") u] i) ∈ fz) (hb : (b1, tupO [.str (S "param") t] j) ∈ fz) (hu : c.un + 64 < cLine) (h : P (.bool true) own fz) : JG c m own fz rest (compareOp .Eq (.ref a1) (.ref b1)) P := fun s _ _ hE a q =>
  eq_headP a.N (List.mem_append.mpr (.inr (List.mem_append.mpr (.inl ha)))) (List.mem_append.mpr (.inr (List.mem_append.mpr (.inl hb)))) hu (q _ own fz s.heap s.toks a .refl h)
/-- not isinstance(x, tuple) -/
theorem JT.notTup {x : Str} {v : Value} {b : Bool} (hv : m x = some v) (hb : b = false ∧ (∃ a vs n, v = .ref a ∧ (a, tupO vs n) ∈ fz) ∨ b = true ∧ PvIn fz v .leaf) (h : B b own fz) (hk : cs.kind = .function := by rfl) (hx : (∀ cn L a ccd, (envX cn cs L a ccd cl).kindOf x = some .local) := by intros; rfl) (hd : (x == ("__debug__" : Str)) = false := by decide) (hx2 : (∀ cn L a ccd, (envX cn cs L a ccd cl).kindOf (Str.ofString "isinstance") = some .globalImplicit) := by intros; rfl) (hx3 : (∀ cn L a ccd, (envX cn cs L a ccd cl).kindOf (Str.ofString "tuple") = some .globalImplicit) := by intros; rfl) :
    JT c m own fz rest (.UnaryOp .Not (.Call (.Name (Str.ofString "isinstance") p1) [.Name x p2, .Name (Str.ofString "tuple") p3] [] p4) p5) B := by
  have kf9 : Mine.hd.heap_1 w.params = Mine.hd.heap_1 w.params ∧ PySem.Challenge.rw_ot0007_01 = PySem.Challenge.rw_ot0007_01 := by k_fill; exact ⟨rfl, rfl⟩
  clear kf9
  intro s Q E hE a q
  have F := a.F
  have N := a.N
  have X := c.X
  have TP := c.TP
  refine isTrue_not (isTrue_plain (Call_ (nameX_B F X (topRead_of TP) (by k_is) (v := .builtin "isinstance") (by boot_by_name) (by decide) ?_ hk (hx2 ..))))
  refine PyProof.Rows.callWith_builtin1 ?_ rfl rfl
  refine args_cons (nameX_L F hv (args_cons (nameX_B F X (topRead_of TP) (by k_is) (v := .type "tuple") (by boot_by_name) (by decide) (args_nil ?_) hk (hx3 ..))) hk (hx ..) hd)
  dsimp only [Cx.A, Cx.M]
  rcases hb with ⟨rfl, a1, vs1, n1, rfl, hm⟩ | ⟨rfl, hl⟩
  · have hT : IsTup s.heap a1 vs1.toArray := N.isTup (List.mem_append.mpr (.inr (List.mem_append.mpr (.inl hm))))
    walk1
    intros
    exact wpAny_truthy_bool (q _ own fz s.heap _ a .refl h)
  · cases hl
    all_goals (
      walk1
      exact wpAny_truthy_bool (q _ own fz s.heap _ a .refl h))
end
theorem put_leaf {w : World} {τ : Tab} {v : Value} {fz rest : Led} {d : Addr} (hv : PvIn fz v .leaf) (hz : Tups fz) : Tel w 132 [v, .ref d] fz rest 20 (fun r fz' => PvOut τ fz' v r .leaf) := by
  have kf9 : Mine.hd.heap_1 w.params = Mine.hd.heap_1 w.params ∧ PySem.Challenge.rw_ot0007_01 = PySem.Challenge.rw_ot0007_01 := by k_fill; exact ⟨rfl, rfl⟩
  clear kf9
  refine' tel_defC ?a0 ?a1 (fun _ => ?a2) ?a3 ?a4 ?a5 ?a6 ?a7 (fun _ => ?a8) (fun _ => ?a9) (hz) ?_
  case a0 => k_is
  case a1 => k_is
  case a2 => exact BindsTo.of_eq rfl
  case a3 => exact rfl
  case a4 => decide +kernel
  case a5 => exact rfl
  case a6 => exact rfl
  case a7 => exact rfl
  case a8 => exact rfl
  case a9 => exact rfl
  intro ca oc c m R hoc hdp hun hb hR
  have ht : m (Str.ofString "thing") = some v := hb _
  exact JX.ifr (JT.notTup ht (.inr ⟨rfl, hv⟩) ⟨fun _ => JE.V (EV.name ht) fun _ => hR _ _ _ _ .leaf, nofun⟩)
theorem put_param {w : World} {τ : Tab} {x : Bool} {v : Value} {fz rest : Led} {d : Addr} (hT : TyIn fz v (.param x)) (hz : Tups fz) (hτ : TabIn w rest fz d τ) : Tel w 132 [v, .ref d] fz rest 20 (fun r fz' => TyIn fz' r (subst τ (.param x))) := by
  obtain ⟨hd1, hd2, hd3, hd4⟩ := hτ
  have hx := hd4.at x
  generalize e1 : valueAt _ (pname x) = ov at hx
  generalize e2 : lk τ x = ot at hx
  obtain @⟨a, n, t, u, _, hm⟩ := hT
  have kf9 : Mine.hd.heap_1 w.params = Mine.hd.heap_1 w.params ∧ PySem.Challenge.rw_ot0007_01 = PySem.Challenge.rw_ot0007_01 := by k_fill; exact ⟨rfl, rfl⟩
  clear kf9
  refine' tel_defC ?a0 ?a1 (fun _ => ?a2) ?a3 ?a4 ?a5 ?a6 ?a7 (fun _ => ?a8) (fun _ => ?a9) (hz) ?_
  case a0 => k_is
  case a1 => k_is
  case a2 => exact BindsTo.of_eq rfl
  case a3 => exact rfl
  case a4 => decide +kernel
  case a5 => exact rfl
  case a6 => exact rfl
  case a7 => exact rfl
  case a8 => exact rfl
  case a9 => exact rfl
  intro ca oc c m R hoc hdp hun hb hR
  have ht : m (Str.ofString "thing") = some (.ref a) := hb _
  clear hb
  refine JX.ifr (JT.notTup ht (.inl ⟨rfl, _, _, _, rfl, hm⟩) ⟨nofun, fun _ => JX.ifr (JT.cmp (JE.take1 ht hm fun D1 n1 f1 S1 k1 => JE.tup1 EV.str fun t1 D2 => JG.eqParam (List.mem_cons_of_mem _ k1) (List.mem_cons_self ..) (by omega) ⟨_, rfl, fun _ => ?_, nofun⟩))⟩)
  have hm1 := S1.sub _ hm
  refine JE.get (JE.V (EV.cell rfl (List.mem_cons_self ..) hoc) fun _ => ⟨d, _, _, rfl, List.mem_append.mpr (.inr (List.mem_append.mpr (.inr hd1))), hd2, hd3, JA.cons (JE.V (EV.sub ht (List.mem_cons_of_mem _ hm1) rfl) fun _ => JA.cons (JE.V (EV.name ht) fun _ => JA.nil ⟨rfl, _, _, _, rfl, hR _ _ _ _ ?_⟩))⟩)
  rw [e1]
  cases hx with
  | none => simp only [subst, e2, Option.getD]; exact .param (List.mem_cons_of_mem _ hm1)
  | some hx => simp only [subst, e2, Option.getD]; exact (hx.up S1).up (.cons .refl)
theorem node_more {w : World} {τ : Tab} {vs : List Value} {ps : List Pv} {b : Addr} {k n : Nat} {fz rest : Led} {d : Addr} (hm : (b, tupO vs k) ∈ fz) (ha : PvAll fz vs ps) (hl : vs.length ≤ 4) (hh : ∀ x more, vs = x :: more → NotP fz x) (hz : Tups fz) (hτ : TabIn w rest fz d τ) (IH : PutK w τ ps n) :
    Tel w 132 [.ref b, .ref d] fz rest (n + 12) (fun r fz' => NodeIs τ vs ps r fz') := by
  have kf9 : Mine.hd.heap_1 w.params = Mine.hd.heap_1 w.params ∧ PySem.Challenge.rw_ot0007_01 = PySem.Challenge.rw_ot0007_01 := by k_fill; exact ⟨rfl, rfl⟩
  clear kf9
  refine' tel_defC ?a0 ?a1 (fun _ => ?a2) ?a3 ?a4 ?a5 ?a6 ?a7 (fun _ => ?a8) (fun _ => ?a9) (hz) ?_
  case a0 => k_is
  case a1 => k_is
  case a2 => exact BindsTo.of_eq rfl
  case a3 => exact rfl
  case a4 => decide +kernel
  case a5 => exact rfl
  case a6 => exact rfl
  case a7 => exact rfl
  case a8 => exact rfl
  case a9 => exact rfl
  intro ca oc c m R hoc hdp hun hb hR
  have ht : m (Str.ofString "thing") = some (.ref b) := hb _
  clear hb
  have hw : nsIn (Mine.hd.heap_1 w.params) mainGlobals (Str.ofString "_law_put") = some (some (.ref 132)) ∧ keepIn (Mine.hd.heap_1 w.params) (.ref 132) = true := ⟨by k_is, by k_is⟩
  refine JX.ifr (JT.notTup ht (.inl ⟨rfl, _, _, _, rfl, hm⟩) ⟨nofun, fun _ => JX.ifr (JT.cmp (JE.take1 ht hm fun D1 n1 f1 S1 k1 => JE.tup1 EV.str fun t1 D2 => JG.eqTake (List.mem_cons_of_mem _ k1) (List.mem_cons_self ..) (fun x more e => ((hh x more e).up S1).up (.cons .refl)) (by omega) ⟨_, rfl, nofun, fun _ => ?_⟩))⟩)
  have S0 : Sub fz ((D2, tupO [Value.str (S "param") t1] 0) :: f1) := S1.cons
  refine JX.ret (JE.tupleE (JE.comp (γ := Unit) (fun _ => [(ca, oc)]) () (fun vs' _ => vs' = vs) (fun _ i ys f _ => PvOuts τ f (vs.take i) ys (ps.take i)) (fun _ => rfl) (JE.V (EV.name ht) fun _ => ⟨_, _, rfl, .inl ⟨_, S0.sub _ hm⟩, rfl, Nat.le_trans hl (by decide), rfl, .nil⟩) (fun vs' f0 S2 hv i v ys f _ C oC m₂ I oI D e S3 A hC hx _ => JH.noTest ?turn) (fun vs' f0 S2 hv D ys f _ S3 A hl' => ?fin)))
  case turn =>
    rw [if_pos rfl]
    subst hv
    obtain ⟨p, e', k'⟩ := ha.at e
    have S5 := S3.step (S2.step S0)
    exact JH.call2 hw.1 hw.2 (CV.var (List.mem_cons_of_mem _ (List.mem_cons_self ..)) hC hx) (CV.cell rfl (List.mem_cons_of_mem _ (List.mem_cons_of_mem _ (List.mem_cons_of_mem _ (List.mem_cons_self ..)))) hoc) (JH.tel (fun Z => IH.ih p (List.mem_of_getElem? e') (k'.up S5) Z (hτ.app S5)) (by omega) (by omega) fun r f' S6 p6 => ⟨(), rfl, by
      rw [List.take_add_one, List.take_add_one, e', e, Option.toList, Option.toList]
      exact PvOuts.snoc (A.up S6) p6⟩)
  case fin =>
    subst hv
    rw [List.take_of_length_le (Nat.le_refl _), List.take_of_length_le (by rw [ha.length]; exact Nat.le_refl _)] at A
    exact ⟨D, ys, _, rfl, List.mem_cons_self .., Nat.le_trans hl' (Nat.le_trans hl (by decide)), fun D3 => hR _ _ _ _ (.mk (List.mem_cons_self ..) (A.up (.cons .refl)))⟩

end
section
theorem flushLPutF : True ∧ True := by (w_top off); (first | (walk1; done) | exact ⟨True.intro, True.intro⟩)
theorem Tel.post {w : World} {f : Addr} {vs : List Value} {fz rest : Led} {d : Nat} {P P' : Value → Led → Prop} (h : Tel w f vs fz rest d P) (k : ∀ r fz', P r fz' → P' r fz') : Tel w f vs fz rest d P' :=
  fun loose mean mg mb dp un gd cn cs a ccd cl outer A₀ base h₀ L m s Q E B F X N T hk hd hu hret => h loose mean mg mb dp un gd cn cs a ccd cl outer A₀ base h₀ L m s Q E B F X N T hk hd hu fun r fz' h' tk' F' N' S' Z' p => hret r fz' h' tk' F' N' S' Z' (k _ _ p)
noncomputable def pd : Pv → Nat
  | .leaf => 0 | .no => 1 | .regs _ _ => 1
  | .ty T => 2 * height T + 2
  | .tys T U => 2 * max (height T) (height U) + 3
structure PvH (p : Pv) : Prop where
  ok : match p with
    | .ty T => height T ≤ 20
    | .tys T U => height T ≤ 20 ∧ height U ≤ 20
    | _ => True
theorem reg_leaf {fz : Led} {v : Value} {r : Reg} (h : RegV v r) : PvIn fz v .leaf := by cases h <;> constructor
noncomputable def PutSpec (w : World) (τ : Tab) (p : Pv) : Prop := ∀ {v : Value} {fz rest : Led} {d : Addr}, PvIn fz v p → Tups fz → TabIn w rest fz d τ → Tel w 132 [v, .ref d] fz rest (12 * pd p + 20) (fun r fz' => PvOut τ fz' v r p)
theorem node_use {w : World} {τ : Tab} {vs : List Value} {ps : List Pv} {b : Addr} {k n : Nat} {fz rest : Led} {d : Addr} {P : Value → Led → Prop} (hm : (b, tupO vs k) ∈ fz) (ha : PvAll fz vs ps) (hl : vs.length ≤ 4) (hh : ∀ x more, vs = x :: more → NotP fz x) (hz : Tups fz) (hτ : TabIn w rest fz d τ)
    (ih : ∀ p ∈ ps, pd p < n ∧ PutSpec w τ p) (post : ∀ b ys k fz', (b, tupO ys k) ∈ fz' → PvOuts τ fz' vs ys ps → P (.ref b) fz') : Tel w 132 [.ref b, .ref d] fz rest (12 * n + 20) P := by
  cases n with
  | zero =>
    have : ps = [] := by rcases ps with _ | ⟨p, ps⟩; · rfl
                         · exact absurd (ih p (.head _)).1 (Nat.not_lt_zero _)
    exact ((node_more hm ha hl hh hz hτ (n := 8) ⟨fun p hp => absurd (ih p hp).1 (Nat.not_lt_zero _)⟩).more (by omega)).post fun r fz' h => by cases h with | mk a b => exact post _ _ _ _ a b
  | succ n =>
    exact ((node_more hm ha hl hh hz hτ (n := 12 * n + 20) ⟨fun p hp v fz rest d a b c => ((ih p hp).2 a b c).more (by have := (ih p hp).1; omega)⟩).more (by omega)).post fun r fz' h => by cases h with | mk a b => exact post _ _ _ _ a b
theorem head_str {fz : Led} {y : Str} {t : Tok} {zs : List Value} (h : y ≠ S "param") (k : PyData.strOk y = true) : ∀ x more, Value.str y t :: zs = x :: more → NotP fz x := by
  intro x more e
  obtain ⟨rfl, _⟩ := List.cons.inj e
  exact .str h k
theorem head_reg {fz : Led} {v : Value} {r : Reg} {zs : List Value} (h : RegV v r) : ∀ x more, v :: zs = x :: more → NotP fz x := by
  intro x more e
  obtain ⟨rfl, _⟩ := List.cons.inj e
  exact .reg h
theorem head_ty {fz : Led} {v : Value} {T : Ty} {zs : List Value} (h : TyIn fz v T) (k : height T ≤ 20) : ∀ x more, v :: zs = x :: more → NotP fz x := by
  intro x more e
  obtain ⟨rfl, _⟩ := List.cons.inj e
  exact .ty h k
theorem head_nil {fz : Led} : ∀ x more, ([] : List Value) = x :: more → NotP fz x := fun _ _ e => nomatch e
theorem PvOut.same {τ : Tab} {fz : Led} {u v : Value} (h : PvOut τ fz u v .leaf) : v = u := by cases h; rfl
theorem PvOut.tyIn {τ : Tab} {fz : Led} {u v : Value} {T : Ty} (h : PvOut τ fz u v (.ty T)) : TyIn fz v (subst τ T) := by cases h with | ty h => exact h
theorem PvOuts.nil' {τ : Tab} {fz : Led} {ys : List Value} (h : PvOuts τ fz [] ys []) : ys = [] := by cases h; rfl
theorem PvOuts.cons' {τ : Tab} {fz : Led} {u : Value} {us ys : List Value} {p : Pv} {ps : List Pv} (h : PvOuts τ fz (u :: us) ys (p :: ps)) : ∃ v vs, ys = v :: vs ∧ PvOut τ fz u v p ∧ PvOuts τ fz us vs ps := by cases h with | cons a b => exact ⟨_, _, rfl, a, b⟩
section
variable {τ : Tab} {fz : Led} {u1 u2 u3 u4 : Value} {ys : List Value} {p1 p2 p3 p4 : Pv}
theorem PvOuts.one (h : PvOuts τ fz [u1] ys [p1]) : ∃ v1, ys = [v1] ∧ PvOut τ fz u1 v1 p1 := by
  obtain ⟨v1, vs, rfl, a, b⟩ := h.cons'
  obtain rfl := b.nil'
  exact ⟨v1, rfl, a⟩
theorem PvOuts.two (h : PvOuts τ fz [u1, u2] ys [p1, p2]) : ∃ v1 v2, ys = [v1, v2] ∧ PvOut τ fz u1 v1 p1 ∧ PvOut τ fz u2 v2 p2 := by
  obtain ⟨v1, vs, rfl, a, b⟩ := h.cons'
  obtain ⟨v2, rfl, c⟩ := b.one
  exact ⟨v1, v2, rfl, a, c⟩
theorem PvOuts.three (h : PvOuts τ fz [u1, u2, u3] ys [p1, p2, p3]) : ∃ v1 v2 v3, ys = [v1, v2, v3] ∧ PvOut τ fz u1 v1 p1 ∧ PvOut τ fz u2 v2 p2 ∧ PvOut τ fz u3 v3 p3 := by
  obtain ⟨v1, vs, rfl, a, b⟩ := h.cons'
  obtain ⟨v2, v3, rfl, c⟩ := b.two
  exact ⟨v1, v2, v3, rfl, a, c⟩
theorem PvOuts.four (h : PvOuts τ fz [u1, u2, u3, u4] ys [p1, p2, p3, p4]) : ∃ v1 v2 v3 v4, ys = [v1, v2, v3, v4] ∧ PvOut τ fz u1 v1 p1 ∧ PvOut τ fz u2 v2 p2 ∧ PvOut τ fz u3 v3 p3 ∧ PvOut τ fz u4 v4 p4 := by
  obtain ⟨v1, vs, rfl, a, b⟩ := h.cons'
  obtain ⟨v2, v3, v4, rfl, c⟩ := b.three
  exact ⟨v1, v2, v3, v4, rfl, a, c⟩
end
theorem all1 {α : Type} {P : α → Prop} {a : α} (h : P a) : ∀ x ∈ [a], P x := List.forall_mem_cons.mpr ⟨h, List.forall_mem_nil _⟩
theorem all2 {α : Type} {P : α → Prop} {a b : α} (h : P a) (k : P b) : ∀ x ∈ [a, b], P x := List.forall_mem_cons.mpr ⟨h, all1 k⟩
theorem all3 {α : Type} {P : α → Prop} {a b c : α} (h : P a) (k : P b) (l : P c) : ∀ x ∈ [a, b, c], P x := List.forall_mem_cons.mpr ⟨h, all2 k l⟩
theorem all4 {α : Type} {P : α → Prop} {a b c d : α} (h : P a) (k : P b) (l : P c) (m : P d) : ∀ x ∈ [a, b, c, d], P x := List.forall_mem_cons.mpr ⟨h, all3 k l m⟩
theorem le19 {h n : Nat} (k : h + 1 ≤ n) : h ≤ n := by omega
theorem le19l {h g n : Nat} (k : max h g + 1 ≤ n) : h ≤ n ∧ g ≤ n := by omega
structure PutKid (w : World) (τ : Tab) (p : Pv) : Prop where
  kid : ∀ q, pd q < pd p → PvH q → pd q < pd p ∧ PutSpec w τ q
theorem put_node {w : World} {τ : Tab} {vs : List Value} {ps : List Pv} {p : Pv} {b : Addr} {k : Nat} {fz rest : Led} {d : Addr} (K : PutKid w τ p) (hz : Tups fz) (hτ : TabIn w rest fz d τ) (hm : (b, tupO vs k) ∈ fz) (ha : PvAll fz vs ps) (hl : Nat.ble vs.length 4 = true) (hh : ∀ x more, vs = x :: more → NotP fz x)
    (ih : ∀ q ∈ ps, pd q < pd p ∧ PvH q) (post : ∀ b ys k fz', (b, tupO ys k) ∈ fz' → PvOuts τ fz' vs ys ps → PvOut τ fz' (.ref b) (.ref b) p) (u : Value) (hu : ∀ fz' b, PvOut τ fz' (.ref b) (.ref b) p → PvOut τ fz' u (.ref b) p) : Tel w 132 [.ref b, .ref d] fz rest (12 * pd p + 20) (fun r fz' => PvOut τ fz' u r p) :=
  node_use hm ha (Nat.le_of_ble_eq_true hl) hh hz hτ (fun q hq => K.kid q (ih q hq).1 (ih q hq).2) fun b ys k fz' m' o => hu _ _ (post b ys k fz' m' o)
theorem tyU {τ : Tab} {T : Ty} {u : Value} : ∀ fz' (b : Addr), PvOut τ fz' (.ref b) (.ref b) (.ty T) → PvOut τ fz' u (.ref b) (.ty T) := fun _ _ h => .ty h.tyIn
theorem leafK {p : Pv} (h : 0 < pd p) : pd .leaf < pd p ∧ PvH .leaf := ⟨h, ⟨trivial⟩⟩
theorem put_ty {w : World} {τ : Tab} {T : Ty} {v : Value} {fz rest : Led} {d : Addr} (K : PutKid w τ (.ty T)) (hh : height T ≤ 20) (hT : TyIn fz v T) (hz : Tups fz) (hτ : TabIn w rest fz d τ) : Tel w 132 [v, .ref d] fz rest (12 * pd (.ty T) + 20) (fun r fz' => PvOut τ fz' v r (.ty T)) := by
  have l2 : pd .leaf < pd (.ty T) ∧ PvH .leaf := leafK (Nat.succ_pos _)
  cases hT with
  | param m => exact ((put_param (.param m) hz hτ).more (by simp only [pd, height]; omega)).post fun r fz' h => .ty h
  | int m => exact put_node K hz hτ m (.cons .str (.cons .str .nil)) rfl (head_str (by decide) (by decide +kernel)) (all2 l2 l2) (fun b ys k fz' m' o => by
      obtain ⟨v1, v2, rfl, o1, o2⟩ := o.two
      obtain rfl := o1.same
      obtain rfl := o2.same
      exact .ty (.int m')) _ tyU
  | bool m => exact put_node K hz hτ m (.cons .str .nil) rfl (head_str (by decide) (by decide +kernel)) (all1 l2) (fun b ys k fz' m' o => by
      obtain ⟨v1, rfl, o1⟩ := o.one
      obtain rfl := o1.same
      exact .ty (.bool m')) _ tyU
  | never m => exact put_node K hz hτ m (.cons .str .nil) rfl (head_str (by decide) (by decide +kernel)) (all1 l2) (fun b ys k fz' m' o => by
      obtain ⟨v1, rfl, o1⟩ := o.one
      obtain rfl := o1.same
      exact .ty (.never m')) _ tyU
  | unit m m2 => exact put_node K hz hτ m (.cons .str (.cons (.no m2) .nil)) rfl (head_str (by decide) (by decide +kernel)) (all2 l2 ⟨Nat.lt_succ_self 1, ⟨trivial⟩⟩) (fun b ys k fz' m' o => by
      obtain ⟨v1, v2, rfl, o1, o2⟩ := o.two
      obtain rfl := o1.same
      cases o2 with | no o2 => exact .ty (.unit m' o2)) _ tyU
  | var m => exact put_node K hz hτ m (.cons .str (.cons .int .nil)) rfl (head_str (by decide) (by decide +kernel)) (all2 l2 l2) (fun b ys k fz' m' o => by
      obtain ⟨v1, v2, rfl, o1, o2⟩ := o.two
      obtain rfl := o1.same
      obtain rfl := o2.same
      exact .ty (.var m')) _ tyU
  | intvar m => exact put_node K hz hτ m (.cons .str (.cons .int .nil)) rfl (head_str (by decide) (by decide +kernel)) (all2 l2 l2) (fun b ys k fz' m' o => by
      obtain ⟨v1, v2, rfl, o1, o2⟩ := o.two
      obtain rfl := o1.same
      obtain rfl := o2.same
      exact .ty (.intvar m')) _ tyU
  | ref m hr hT1 => exact put_node K hz hτ m (.cons .str (.cons (reg_leaf hr) (.cons .bool (.cons (.ty hT1) .nil)))) rfl (head_str (by decide) (by decide +kernel)) (all4 l2 l2 l2 ⟨by simp only [pd, height]; omega, ⟨le19 hh⟩⟩) (fun b ys k fz' m' o => by
      obtain ⟨v1, v2, v3, v4, rfl, o1, o2, o3, o4⟩ := o.four
      obtain rfl := o1.same
      obtain rfl := o2.same
      obtain rfl := o3.same
      exact .ty (.ref m' hr o4.tyIn)) _ tyU
  | box m hT1 => exact put_node K hz hτ m (.cons .str (.cons (.ty hT1) .nil)) rfl (head_str (by decide) (by decide +kernel)) (all2 l2 ⟨by simp only [pd, height]; omega, ⟨le19 hh⟩⟩) (fun b ys k fz' m' o => by
      obtain ⟨v1, v2, rfl, o1, o2⟩ := o.two
      obtain rfl := o1.same
      exact .ty (.box m' o2.tyIn)) _ tyU
  | array m hT1 => exact put_node K hz hτ m (.cons .str (.cons (.ty hT1) (.cons .int .nil))) rfl (head_str (by decide) (by decide +kernel)) (all3 l2 ⟨by simp only [pd, height]; omega, ⟨le19 hh⟩⟩ l2) (fun b ys k fz' m' o => by
      obtain ⟨v1, v2, v3, rfl, o1, o2, o3⟩ := o.three
      obtain rfl := o1.same
      obtain rfl := o3.same
      exact .ty (.array m' o2.tyIn)) _ tyU
  | pair m m2 hT1 hT2 => exact put_node K hz hτ m (.cons .str (.cons (.tys m2 hT1 hT2) .nil)) rfl (head_str (by decide) (by decide +kernel)) (all2 l2 ⟨by simp only [pd, height]; omega, ⟨le19l hh⟩⟩) (fun b ys k fz' m' o => by
      obtain ⟨v1, v2, rfl, o1, o2⟩ := o.two
      obtain rfl := o1.same
      cases o2 with | tys o2 a b => exact .ty (.pair m' o2 a b)) _ tyU
  | adt m m2 m3 hr1 hr2 hT1 hT2 => exact put_node K hz hτ m (.cons .str (.cons .str (.cons (.regs m2 hr1 hr2) (.cons (.tys m3 hT1 hT2) .nil)))) rfl (head_str (by decide) (by decide +kernel)) (all4 l2 l2 ⟨by simp only [pd, height]; omega, ⟨trivial⟩⟩ ⟨by simp only [pd, height]; omega, ⟨le19l hh⟩⟩) (fun b ys k fz' m' o => by
      obtain ⟨v1, v2, v3, v4, rfl, o1, o2, o3, o4⟩ := o.four
      obtain rfl := o1.same
      obtain rfl := o2.same
      cases o3 with | regs o3 a b => cases o4 with | tys o4 c d => exact .ty (.adt m' o3 o4 a b c d)) _ tyU
theorem put_all (w : World) (τ : Tab) : ∀ n p, pd p < n → PvH p → PutSpec w τ p := by
  intro n
  induction n with
  | zero => intro p h; exact absurd h (Nat.not_lt_zero _)
  | succ n ih =>
    intro p hn hH v fz rest d hp hz hτ
    have K : PutKid w τ p := ⟨fun q h k => ⟨h, ih q (by omega) k⟩⟩
    cases hp with
    | str => exact (put_leaf .str hz).more (Nat.le_add_left ..)
    | int => exact (put_leaf .int hz).more (Nat.le_add_left ..)
    | bool => exact (put_leaf .bool hz).more (Nat.le_add_left ..)
    | none => exact (put_leaf .none hz).more (Nat.le_add_left ..)
    | no m => exact put_node K hz hτ m .nil rfl head_nil (List.forall_mem_nil _) (fun b ys k fz' m' o => by obtain rfl := o.nil'; exact .no m') _ fun _ _ h => by cases h with | no a => exact .no a
    | regs m h1 h2 => exact put_node K hz hτ m (.cons (reg_leaf h1) (.cons (reg_leaf h2) .nil)) rfl (head_reg h1) (all2 (leafK (Nat.succ_pos _)) (leafK (Nat.succ_pos _))) (fun b ys k fz' m' o => by
        obtain ⟨v1, v2, rfl, o1, o2⟩ := o.two
        obtain rfl := o1.same
        obtain rfl := o2.same
        exact .regs m' h1 h2) _ fun _ _ h => by cases h with | regs a b c => exact .regs a b c
    | tys m h1 h2 =>
      obtain ⟨k1, k2⟩ := hH.ok
      exact put_node K hz hτ m (.cons (.ty h1) (.cons (.ty h2) .nil)) rfl (head_ty h1 k1) (all2 ⟨by simp only [pd]; omega, ⟨k1⟩⟩ ⟨by simp only [pd]; omega, ⟨k2⟩⟩) (fun b ys k fz' m' o => by
        obtain ⟨v1, v2, rfl, o1, o2⟩ := o.two
        exact .tys m' o1.tyIn o2.tyIn) _ fun _ _ h => by cases h with | tys a b c => exact .tys a b c
    | ty hT => exact put_ty K hH.ok hT hz hτ
theorem law_put_tel {w : World} {τ : Tab} {T : Ty} {v : Value} {fz rest : Led} {d : Addr} (hh : height T ≤ 10) (hT : TyIn fz v T) (hz : Tups fz) (hτ : TabIn w rest fz d τ) : Tel w 132 [v, .ref d] fz rest (24 * height T + 44) (fun r fz' => TyIn fz' r (subst τ T)) :=
  ((put_all w τ _ (.ty T) (Nat.lt_succ_self _) ⟨by show height T ≤ 20; omega⟩ (.ty hT) hz hτ).more (by simp only [pd]; omega)).post fun r fz' h => by cases h with | ty h => exact h

end
section
theorem flushLFor : True ∧ True := by (w_top off); (first | (walk1; done) | exact ⟨True.intro, True.intro⟩)
/-! a for over a tuple or a list of the ledger -/
section
variable {prog : Program} {w : World} {A : Around} {E : Value → Shared → Prop} {s : Shared} {h₀ : Heap} {m : Str → Option Value} {env : Env} {target : Expr} {body : List Stmt} {Q : Flow → Shared → Prop}
noncomputable def FDone {γ : Type} (h₀ : Heap) (L : Addr) (s : Shared) (I : Addr) (oI : Obj) (cs : γ → Led) (fz rest : Led) (Inv : Led → γ → (Str → Option Value) → Prop) (Q : Flow → Shared → Prop) (f : Flow) (s₃ : Shared) : Prop :=
  match f with
  | .next | .cont => ∃ h' tk u fz' g, s₃ = { s with heap := h', toks := tk } ∧ Fr h₀ L h' u ∧ News h₀ L h' ((I, oI) :: (cs g ++ (fz' ++ rest))) ∧ Sub fz fz' ∧ Tups fz' ∧ Inv fz' g u
  | .brk => Q .next s₃
  | .ret v => Q (.ret v) s₃
theorem fdone_next {γ : Type} {L I : Addr} {oI : Obj} {cs : γ → Led} {fz rest led fz' cs' : Led} {Inv : Led → γ → (Str → Option Value) → Prop} {u : Str → Option Value} {g : γ} {h' : Heap} {tk : Nat}
    (F : Fr h₀ L h' u) (N : News h₀ L h' led) (Pt : Part led fz' cs' rest) (hs : ∀ p ∈ (I, oI) :: cs g, p ∈ cs') (S' : Sub fz fz') (Z' : Tups fz') (i' : Inv fz' g u) : FDone h₀ L s I oI cs fz rest Inv Q .next { s with heap := h', toks := tk } :=
  ⟨h', tk, u, fz', g, rfl, F, fun p hp => N p (Pt.mem p (by
    rw [← List.cons_append] at hp
    rcases List.mem_append.mp hp with hp | hp
    · exact .inr (.inl (hs p hp))
    · rcases List.mem_append.mp hp with hp | hp
      · exact .inl hp
      · exact .inr (.inr hp))), S', Z', i'⟩
theorem for_items {γ : Type} {ax : Addr} {vs : List Value} {led fz rest : Led} (cs : γ → Led) (g₀ : γ) (Inv : Nat → Led → γ → (Str → Option Value) → Prop)
    (hh : A.handled = none) (F : Fr h₀ env.locals s.heap m) (N : News h₀ env.locals s.heap led) (hs : ∀ p ∈ cs g₀ ++ (fz ++ rest), p ∈ led) (hadr : ∀ g, (cs g).map (·.1) = (cs g₀).map (·.1)) (S : SrcOk cs fz rest ax vs) (hz : Tups fz) (h0 : Inv 0 fz g₀ m)
    (turn : ∀ i v fz₁ g u h₁ tk₁ I oI, i < vs.length → vs[i]? = some v → Fr h₀ env.locals h₁ u → News h₀ env.locals h₁ ((I, oI) :: (cs g ++ (fz₁ ++ rest))) → Sub fz fz₁ → Tups fz₁ → Inv i fz₁ g u → (∀ p ∈ cs g ++ rest, p.1 < I) →
      wpAny (model prog w) A (assign target env v) (fun _ s₂ => wpAny (model prog w) A (execs body env) (FDone h₀ env.locals { s with heap := h₁, toks := tk₁ } I oI cs fz rest (Inv (i + 1)) Q) E s₂) E { s with heap := h₁, toks := tk₁ })
    (fin : ∀ fz' g u h' tk, Fr h₀ env.locals h' u → News h₀ env.locals h' (cs g ++ (fz' ++ rest)) → Sub fz fz' → Tups fz' → Inv vs.length fz' g u → Q .next { s with heap := h', toks := tk }) :
    wpAny (model prog w) A (pyIter (.ref ax)) (fun it s₂ => TurnsAt prog w A h₀ env target body Q E it s₂) E s := by
  have N' : News h₀ env.locals s.heap (cs g₀ ++ (fz ++ rest)) := fun p hp => N p (hs p hp)
  have all : ∀ (I : Addr) (nm : String) (lo : Obj), nm ≠ "tuple" → (∀ p ∈ cs g₀ ++ (fz ++ rest), p.1 < I) → (∀ g fz', Sub fz fz' → (ax, lo) ∈ cs g ++ (fz' ++ rest)) → ∀ n i, i + n = vs.length → ∀ fz₁ g u, Sub fz fz₁ → Tups fz₁ → Inv i fz₁ g u →
      ItemsRest prog w A E h₀ env target body Q s [(I, nm)] [(ax, lo)] ((vs.drop i).map .val) u (cs g ++ (fz₁ ++ rest)) := by
    intro I nm lo hnm hI hk n
    have csI : ∀ g, ∀ p ∈ cs g, p.1 < I := fun g p hp => by
      have h1 : p.1 ∈ (cs g₀).map (·.1) := hadr g ▸ List.mem_map.mpr ⟨p, hp, rfl⟩
      obtain ⟨q, hq, e⟩ := List.mem_map.mp h1
      rw [← e]; exact hI q (List.mem_append.mpr (.inl hq))
    have rsI : ∀ p ∈ rest, p.1 < I := fun p hp => hI p (List.mem_append.mpr (.inr (List.mem_append.mpr (.inr hp))))
    induction n with
    | zero =>
      intro i hi fz₁ g u S1 Z1 I1
      have e : i = vs.length := by omega
      subst e
      rw [List.drop_length]
      exact ItemsRest.zero fun h tk F' N' => fin fz₁ g u h tk F' N' S1 Z1 I1
    | succ n ih =>
      intro i hi fz₁ g u S1 Z1 I1
      have hlt : i < vs.length := by omega
      rw [List.drop_eq_getElem_cons hlt, List.map_cons]
      refine ItemsRest.val fun h tk F' => AllObj.cons fun o ho => AllObj.nil fun N₁ => ?_
      refine wpAny_mono (turn i vs[i] fz₁ g u h tk I o hlt (List.getElem?_eq_getElem hlt) F' N₁ S1 Z1 I1 fun p hp => ?_) (fun _ s₂ h₂ => wpAny_mono h₂ (fun f s₃ h₃ => ?_) fun _ _ e => e) fun _ _ e => e
      · rcases List.mem_append.mp hp with hp | hp
        · exact csI g p hp
        · exact rsI p hp
      · have fin2 : (∃ h' tk' u fz' g, s₃ = { { s with heap := h, toks := tk } with heap := h', toks := tk' } ∧ Fr h₀ env.locals h' u ∧ News h₀ env.locals h' ((I, o) :: (cs g ++ (fz' ++ rest))) ∧ Sub fz fz' ∧ Tups fz' ∧ Inv (i + 1) fz' g u) →
            UnrEndW h₀ env.locals { s with heap := h, toks := tk } [(I, o)] (fun m' n' => SubL [(ax, lo)] n' ∧ ItemsRest prog w A E h₀ env target body Q s [(I, nm)] [(ax, lo)] ((vs.drop (i + 1)).map .val) m' n') s₃ := by
          rintro ⟨h', tk', u', fz', g', rfl, F₃, N₃, S₃, Z₃, I₃⟩
          refine ⟨h', tk', u', cs g' ++ (fz' ++ rest), rfl, F₃, N₃, fun p hp q hq e => ?_, ⟨hk _ _ S₃, trivial⟩, ih (i + 1) (by omega) fz' g' u' S₃ Z₃ I₃⟩
          have hq' : q = (I, o) := List.mem_singleton.mp hq
          subst hq'
          have e' : p.1 = I := e
          rcases List.mem_append.mp hp with hp1 | hp1
          · exact Nat.lt_irrefl _ (e' ▸ csI g' p hp1)
          · rcases List.mem_append.mp hp1 with hp2 | hp2
            · obtain ⟨vs', n', e2⟩ := Z₃.all p hp2
              have g1 := (N₃ p (List.mem_cons_of_mem _ hp)).1
              have g2 := (N₃ _ (List.mem_cons_self ..)).1
              rw [e', e2] at g1
              have g3 : o = tupO vs' n' := Option.some.inj (g2.symm.trans g1)
              have g4 : Value.type nm = Value.type "tuple" := ho.symm.trans (congrArg Obj.cls g3)
              exact hnm (Value.type.inj g4)
            · exact Nat.lt_irrefl _ (e' ▸ rsI p hp2)
        cases f with
        | ret v => exact h₃
        | brk => exact h₃
        | next => exact fin2 h₃
        | cont => exact fin2 h₃
  rcases S with ⟨k, hm⟩ | ⟨k, hm⟩ | ⟨k, hm⟩
  · refine iter_tupTurns hh F N' (lo := tupO vs k) (List.mem_append.mpr (.inr (List.mem_append.mpr (.inl hm)))) rfl rfl fun I hI => ?_
    have := all I "tuple_iterator" (tupO vs k) (by decide) hI (fun g fz' S' => List.mem_append.mpr (.inr (List.mem_append.mpr (.inl (S'.sub _ hm))))) vs.length 0 (Nat.zero_add _) fz g₀ m Sub.refl hz h0
    rw [List.drop_zero] at this
    exact this
  · refine iter_listTurns hh F N' (lo := PySem.W.listOf vs.toArray k) (List.mem_append.mpr (.inl (hm g₀))) rfl rfl fun I hI => ?_
    have := all I "list_iterator" (PySem.W.listOf vs.toArray k) (by decide) hI (fun g fz' _ => List.mem_append.mpr (.inl (hm g))) vs.length 0 (Nat.zero_add _) fz g₀ m Sub.refl hz h0
    rw [List.drop_zero] at this
    exact this
  · refine iter_listTurns hh F N' (lo := PySem.W.listOf vs.toArray k) (List.mem_append.mpr (.inr (List.mem_append.mpr (.inr hm)))) rfl rfl fun I hI => ?_
    have := all I "list_iterator" (PySem.W.listOf vs.toArray k) (by decide) hI (fun g fz' _ => List.mem_append.mpr (.inr (List.mem_append.mpr (.inr hm)))) vs.length 0 (Nat.zero_add _) fz g₀ m Sub.refl hz h0
    rw [List.drop_zero] at this
    exact this
end

end
section
theorem flushLJ6 : True ∧ True := by (w_top off); (first | (walk1; done) | exact ⟨True.intro, True.intro⟩)
/-! the small logic: a for over a tuple, with own entries that may change -/
section
variable {w : World} {cs : Scope} {cl : List (Str × Addr)} {c : Cx w cs cl} {m : Str → Option Value} {own fz rest : Led} {pos p1 : Pos} {R : Flow → (Str → Option Value) → Led → Led → Prop}
theorem JX.for {γ : Type} {x : Str} {it : Expr} {body more : List Stmt} (O : γ → Led) (g₀ : γ) (G : List Value → Led → Prop) (Inv : Nat → Led → γ → (Str → Option Value) → Prop) (hadr : ∀ g, (O g).map (·.1) = (O g₀).map (·.1))
    (j : JE c m own fz rest it (fun v o f => ∃ b vs, v = .ref b ∧ SrcOk O f rest b vs ∧ o = O g₀ ∧ G vs f ∧ Inv 0 f g₀ m))
    (turn : ∀ vs f0, G vs f0 → ∀ i v f g u I oI, vs[i]? = some v → Sub f0 f → Inv i f g u → (∀ p ∈ O g ++ rest, p.1 < I) → JX c (upd u x v) ((I, oI) :: O g) f rest body (fun fl m2 o2 f2 => fl = .next ∧ ∃ g', o2 = (I, oI) :: O g' ∧ Inv (i + 1) f2 g' m2))
    (fin : ∀ vs f0, G vs f0 → ∀ f g u, Sub f0 f → Inv vs.length f g u → JX c u (O g) f rest more R)
    (hk : cs.kind = .function := by rfl) (hx : (∀ cn L a ccd, (envX cn cs L a ccd cl).kindOf x = some .local) := by intros; rfl) (hs : ∀ env y, foldedSetIterable it env y = pure y := by intros; rfl) : JX c m own fz rest (.For (.Name x p1) it body [] pos :: more) R := fun s Q E hE a q =>
  wpAny_execs_cons (For_turns a.F (j s _ E hE a fun v o f h tk a' S ⟨b, vs, e1, hb, e2, hG, h0⟩ => by
    subst e1 e2
    refine for_items (env := c.env) O g₀ Inv rfl a'.F a'.N (fun p hp => hp) hadr hb a'.Z h0 (fun i v f1 g u h1 tk1 I oI hi hv F1 N1 S1 Z1 I1 hlt => ?_) (fun f1 g u h2 tk2 F1 N1 S1 Z1 I1 => ?_)
    · refine wpAny_assign_Name (storeX_L F1 N1 (fun h3 F3 N3 => ?_) hk (hx ..))
      refine turn vs f hG i v f1 g u I oI hv S1 I1 hlt _ _ E hE ⟨F3, N3, Z1⟩ fun fl m2 o2 f2 h4 tk4 a4 S4 ⟨e, g', e', i'⟩ => ?_
      subst e e'
      exact fdone_next a4.F a4.N (Part.ownL (own := (I, oI) :: O g')) (fun p hp => hp) (S4.step S1) a4.Z i'
    · exact fin vs f hG f1 g u S1 I1 _ Q E hE ⟨F1, N1, Z1⟩ fun fl m2 o2 f2 h4 tk4 a4 S4 r => q fl m2 o2 f2 h4 tk4 a4 ((S4.step S1).step S) r) (hs _) hE)
end

end
section
theorem flushLUnl : True ∧ True := by (w_top off); (first | (walk1; done) | exact ⟨True.intro, True.intro⟩)
/-! _law_unlike -/
theorem StrAll.at {vs : List Value} {l : List Bool} (h : StrAll vs l) {i : Nat} {v : Value} (e : vs[i]? = some v) : ∃ x t, l[i]? = some x ∧ v = .str (pname x) t := by
  induction h generalizing i with
  | nil => simp at e
  | cons a ih =>
    cases i with
    | zero => simp at e; subst e; exact ⟨_, _, rfl, rfl⟩
    | succ i => simp at e; simpa using ih e
theorem unlike_telL {w : World} {a : Addr} {vs : List Value} {k : Nat} {l : List Bool} {fz rest : Led} (hm : (a, PySem.W.listOf vs.toArray k) ∈ rest) (hs : StrAll vs l) (hz : Tups fz) : TelL w 163 [.ref a] fz rest 20 (fun vals _ => StrAll vals (l.foldl addNew [])) := by
  have kf9 : Mine.hd.heap_1 w.params = Mine.hd.heap_1 w.params ∧ PySem.Challenge.rw_ot0007_01 = PySem.Challenge.rw_ot0007_01 := by k_fill; exact ⟨rfl, rfl⟩
  clear kf9
  refine' telL_def ?a0 ?a1 (fun _ => ?a2) ?a3 ?a4 ?a5 ?a6 ?a7 (hz) ?_
  case a0 => k_is
  case a1 => k_is
  case a2 => exact BindsTo.of_eq rfl
  case a3 => exact locs rfl
  case a4 => exact rfl
  case a5 => exact rfl
  case a6 => exact rfl
  case a7 => decide
  intro c m R hdp hun hb hR
  have hn : m (Str.ofString "names") = some (.ref a) := hb _
  clear hb
  have hu64 : c.un + 64 < cLine := by first | exact ulk (Y := 8) hun rfl | exact uld (Y := 8) hun rfl
  refine JX.set (JE.listN (JA.nil ⟨rfl, fun B hB => ?_⟩))
  have offB : Off rest B := .lt fun p hp => hB p (List.mem_append.mpr (.inr (List.mem_append.mpr (.inr hp))))
  refine JX.for (γ := List Value × Nat) (fun g => [(B, PySem.W.listOf g.1.toArray g.2)]) ([], 0) (fun ws _ => ws = vs) (fun i _ g u => (StrAll g.1 ((l.take i).foldl addNew []) ∧ ((l.take i).foldl addNew []).length ≤ 2 ∧ ((l.take i).foldl addNew []).Nodup) ∧ u (Str.ofString "found") = some (.ref B)) (fun _ => rfl) ?src ?turn ?fin
  case src => exact JE.V (EV.name hn) fun _ => ⟨_, _, rfl, .inr (.inr ⟨k, hm⟩), rfl, rfl, ⟨.nil, Nat.zero_le _, .nil⟩, rfl⟩
  case fin =>
    rintro _ f0 rfl f g u S ⟨⟨I1, I2, I3⟩, hf⟩
    rw [List.take_of_length_le (by rw [hs.length]; exact Nat.le_refl _)] at I1
    exact JX.ret (JE.V (EV.name hf) fun _ => hR _ _ _ _ _ _ (List.mem_cons_self ..) offB I1)
  case turn =>
    rintro _ f0 rfl i v f g u I oI hv S ⟨⟨I1, I2, I3⟩, hf⟩ hlt
    obtain ⟨x, t', e, rfl⟩ := hs.at hv
    have hg9 : g.1.length ≤ sizeLine := Nat.le_trans (by rw [I1.length]; exact I2) (show 2 ≤ sizeLine by decide)
    have el : (l.take (i + 1)).foldl addNew [] = addNew ((l.take i).foldl addNew []) x := by rw [List.take_add_one, e, Option.toList, List.foldl_append]; rfl
    have hBI : @LT.lt Nat _ B I := hlt (B, _) (List.mem_cons_self ..)
    generalize (l.take i).foldl addNew [] = l' at I1 I2 I3 el
    refine JX.last (JS.ite (JT.cmp (JE.V (EV.name rfl) fun _ => JE.V (EV.name hf) fun _ => JG.notIn (List.mem_cons_of_mem _ (List.mem_cons_self ..)) I1 hu64 rfl ⟨_, rfl, fun hx => ?_, fun hx => ?_⟩)))
    · refine JX.last (JS.app (EV.name hf) (EV.name rfl) (List.mem_cons_of_mem _ (List.mem_cons_self ..)) (Upd.tail (Nat.ne_of_gt hBI) (Upd.head (List.forall_mem_nil _))) offB hg9 ⟨rfl, (g.1 ++ [.str (pname x) t'], g.2 + 1), rfl, ?_, hf⟩)
      rw [el]
      obtain ⟨q4, q5⟩ := addNew_le l' x ⟨I2, I3⟩
      refine ⟨?_, q4, q5⟩
      rw [addNew_not hx]
      exact I1.snoc
    · refine JX.nil ⟨rfl, g, rfl, ?_, hf⟩
      rw [el, addNew_mem hx]
      exact ⟨I1, I2, I3⟩

end
section
theorem flushLMk : True ∧ True := by (w_top off); (first | (walk1; done) | exact ⟨True.intro, True.intro⟩)
/-! _law_marks: the state of its three lists -/
noncomputable abbrev MSt := (List Value × Nat) × (List Value × Nat) × (List Value × Nat)
noncomputable abbrev lO (g : List Value × Nat) : Obj := PySem.W.listOf g.1.toArray g.2
noncomputable abbrev mkR (D0 D1 D2 : Addr) (tl : Led) (c : MSt) : Led := (D0, lO c.1) :: (D1, lO c.2.1) :: (D2, lO c.2.2) :: tl
structure MarkAt (Fd D0 D1 D2 : Addr) (tl : Led) : Prop where
  at' : ∃ k, (Fd, PySem.W.listOf [Value.ref D0, .ref D1, .ref D2].toArray k) ∈ tl
  o0 : Off tl D0
  o1 : Off tl D1
  o2 : Off tl D2
  n01 : @Ne Nat D0 D1
  n02 : @Ne Nat D0 D2
  n12 : @Ne Nat D1 D2
structure Marks (l0 : List Bool) (l1 : List Reg) (l2 : List Ty) (fz : Led) (c : MSt) : Prop where
  names : StrAll c.1.1 l0
  regs : RegAll c.2.1.1 l1
  unk : TyAll fz c.2.2.1 l2
noncomputable def unkL : Ty → List Ty
  | .var => [.var]
  | .intvar => [.intvar]
  | .ref _ _ t | .box t | .array t => unkL t
  | .pair t u | .adt _ _ t u => unkL t ++ unkL u
  | _ => []
theorem add3 (a a' b b' c c' : Nat) : (a + a') + (b + b') + (c + c') = (a + b + c) + (a' + b' + c') := by rw [Nat.add_add_add_comm a, Nat.add_add_add_comm]
theorem cntA {α β γ : Type} (a a' : List α) (b b' : List β) (c c' : List γ) : (a ++ a').length + (b ++ b').length + (c ++ c').length = (a.length + b.length + c.length) + (a'.length + b'.length + c'.length) := by rw [List.length_append, List.length_append, List.length_append, add3]
theorem cntL (T : Ty) : (paramsL T).length + (regsL T).length + (unkL T).length ≤ 2 * size T := by
  induction T with
  | ref r m t ih => exact Nat.le_trans (Nat.le_of_eq (Nat.add_right_comm _ 1 _)) (Nat.le_succ_of_le (Nat.succ_le_succ ih))
  | box t ih => exact Nat.le_trans ih (Nat.le_add_right _ 2)
  | array t ih => exact Nat.le_trans ih (Nat.le_add_right _ 2)
  | pair t u i1 i2 => exact Nat.le_of_add_right_le (Nat.le_trans (Nat.le_of_eq (congrArg (· + 2) (cntA (paramsL t) (paramsL u) (regsL t) (regsL u) (unkL t) (unkL u)))) (sz2 i1 i2))
  | adt r q t u i1 i2 => exact Nat.le_trans (Nat.le_of_eq ((Nat.add_right_comm _ 2 _).trans (congrArg (· + 2) (cntA (paramsL t) (paramsL u) (regsL t) (regsL u) (unkL t) (unkL u))))) (sz2 i1 i2)
  | _ => exact Nat.le_of_ble_eq_true rfl
theorem cntsL (Ts : List Ty) : (Ts.flatMap paramsL).length + (Ts.flatMap regsL).length + (Ts.flatMap unkL).length ≤ 2 * szL Ts := by
  induction Ts with
  | nil => exact Nat.le_refl _
  | cons T Ts ih => rw [List.flatMap_cons, List.flatMap_cons, List.flatMap_cons, cntA]; exact Nat.le_trans (Nat.add_le_add (cntL T) ih) (Nat.le_of_eq (Nat.mul_add ..).symm)
theorem szL_take {Ts : List Ty} {i : Nat} {T : Ty} (h : Ts[i]? = some T) : szL (Ts.take i) + size T ≤ szL Ts := by
  induction Ts generalizing i with
  | nil => cases h
  | cons U Ts ih =>
    cases i with
    | zero => cases h; exact Nat.le_trans (Nat.le_of_eq (Nat.zero_add _)) (Nat.le_add_right ..)
    | succ i => exact Nat.le_trans (Nat.le_of_eq (Nat.add_assoc ..)) (Nat.add_le_add_left (ih h) _)
theorem Marks.up {l0 l1 l2} {fz fz' : Led} {c : MSt} (s : Sub fz fz') (h : Marks l0 l1 l2 fz c) : Marks l0 l1 l2 fz' c := ⟨h.names, h.regs, h.unk.up s⟩
noncomputable def MarkSpec (w : World) (T : Ty) (n : Nat) : Prop := ∀ {v : Value} {fz tl : Led} {c : MSt} {Fd D0 D1 D2 : Addr} {l0 l1 l2}, TyIn fz v T → Tups fz → MarkAt Fd D0 D1 D2 tl → Marks l0 l1 l2 fz c → l0.length + l1.length + l2.length + 2 * size T ≤ 100000 →
  TelS w (.ref 139) [v, .ref Fd] fz (mkR D0 D1 D2 tl) c n (fun r fz' c' => r = .ref Fd ∧ Marks (l0 ++ paramsL T) (l1 ++ regsL T) (l2 ++ unkL T) fz' c')
structure MarkK (w : World) (T : Ty) (n : Nat) : Prop where
  ih : ∀ T' ∈ kids T, MarkSpec w T' n
theorem MarkAt.ext {Fd D0 D1 D2 : Addr} {cs tl : Led} (h : MarkAt Fd D0 D1 D2 tl) (k : ∀ p ∈ cs, p.1 ≠ D0 ∧ p.1 ≠ D1 ∧ p.1 ≠ D2) : MarkAt Fd D0 D1 D2 (cs ++ tl) where
  at' := by obtain ⟨k, hk⟩ := h.at'; exact ⟨k, List.mem_append.mpr (.inr hk)⟩
  o0 := ⟨fun p hp => by
    rcases List.mem_append.mp hp with hp | hp
    · exact (k p hp).1
    · exact h.o0.off p hp⟩
  o1 := ⟨fun p hp => by
    rcases List.mem_append.mp hp with hp | hp
    · exact (k p hp).2.1
    · exact h.o1.off p hp⟩
  o2 := ⟨fun p hp => by
    rcases List.mem_append.mp hp with hp | hp
    · exact (k p hp).2.2
    · exact h.o2.off p hp⟩
  n01 := h.n01
  n02 := h.n02
  n12 := h.n12
section
variable {prog : Program} {w : World} {A : Around} {E : Value → Shared → Prop} {s : Shared} {h₀ : Heap} {L : Addr} {m : Str → Option Value} {fz tl : Led} {Fd D0 D1 D2 : Addr} {c : MSt} {Q : Value → Shared → Prop} {y : Value}
end
section
variable {prog : Program} {w : World} {A : Around} {E : Value → Shared → Prop} {s : Shared} {h₀ : Heap} {m : Str → Option Value} {env : Env} {target : Expr} {body : List Stmt} {Q : Flow → Shared → Prop}
end
noncomputable def pre0 : Ty → List Bool
  | .param x => [x]
  | _ => []
noncomputable def pre1 : Ty → List Reg
  | .ref r _ _ => [r]
  | .adt r q _ _ => [r, q]
  | _ => []
noncomputable def pre2 : Ty → List Ty
  | .var => [.var]
  | .intvar => [.intvar]
  | _ => []
theorem pre_kids (T : Ty) : (pre0 T ++ (kids T).flatMap paramsL = paramsL T ∧ pre1 T ++ (kids T).flatMap regsL = regsL T ∧ pre2 T ++ (kids T).flatMap unkL = unkL T) ∧ (pre0 T).length + (pre1 T).length + (pre2 T).length ≤ 2 := by
  cases T <;> simp [pre0, pre1, pre2, kids, paramsL, regsL, unkL]
structure MarkKs (w : World) (Ts : List Ty) (n : Nat) : Prop where
  ih : ∀ T' ∈ Ts, MarkSpec w T' n
theorem mark_one {Fd D0 D1 D2 I : Addr} {oI : Obj} {tl : Led} {c : MSt} (M : MarkAt Fd D0 D1 D2 tl) (h : ∀ p ∈ mkR D0 D1 D2 tl c, p.1 < I) : MarkAt Fd D0 D1 D2 ([(I, oI)] ++ tl) := M.ext fun p hp => by
  rw [List.mem_singleton.mp hp]
  exact ⟨(Nat.ne_of_lt (h _ (.head _))).symm, (Nat.ne_of_lt (h _ (.tail _ (.head _)))).symm, (Nat.ne_of_lt (h _ (.tail _ (.tail _ (.head _))))).symm⟩
theorem mark_room {l0 p0 : List Bool} {l1 p1 : List Reg} {l2 p2 Ts : List Ty} {i : Nat} {T : Ty} (e : Ts[i]? = some T) (h : (l0 ++ p0).length + (l1 ++ p1).length + (l2 ++ p2).length + 2 * szL Ts ≤ 100000) :
    ((l0 ++ p0) ++ (Ts.take i).flatMap paramsL).length + ((l1 ++ p1) ++ (Ts.take i).flatMap regsL).length + ((l2 ++ p2) ++ (Ts.take i).flatMap unkL).length + 2 * size T ≤ 100000 := by
  rw [cntA, Nat.add_assoc]
  exact Nat.le_trans (Nat.add_le_add_left (Nat.le_trans (Nat.add_le_add_right (cntsL (Ts.take i)) _) (Nat.le_trans (Nat.le_of_eq (Nat.mul_add ..).symm) (Nat.mul_le_mul_left 2 (szL_take e)))) _) h
theorem mark_step {l0 : List Bool} {l1 : List Reg} {l2 Ts : List Ty} {i : Nat} {T : Ty} {fz : Led} {c : MSt} (e : Ts[i]? = some T) (h : Marks ((l0 ++ (Ts.take i).flatMap paramsL) ++ paramsL T) ((l1 ++ (Ts.take i).flatMap regsL) ++ regsL T) ((l2 ++ (Ts.take i).flatMap unkL) ++ unkL T) fz c) :
    Marks (l0 ++ (Ts.take (i + 1)).flatMap paramsL) (l1 ++ (Ts.take (i + 1)).flatMap regsL) (l2 ++ (Ts.take (i + 1)).flatMap unkL) fz c := by
  rw [List.take_add_one, e, Option.toList, List.flatMap_append, List.flatMap_append, List.flatMap_append]
  simpa only [List.flatMap_cons, List.flatMap_nil, List.append_nil, List.append_assoc] using h
theorem mark_end {l0 p0 q0 : List Bool} {l1 p1 q1 : List Reg} {l2 p2 q2 Ts : List Ty} {n : Nat} {fz : Led} {c : MSt} (hn : n = Ts.length) (e0 : p0 ++ Ts.flatMap paramsL = q0) (e1 : p1 ++ Ts.flatMap regsL = q1) (e2 : p2 ++ Ts.flatMap unkL = q2)
    (h : Marks ((l0 ++ p0) ++ (Ts.take n).flatMap paramsL) ((l1 ++ p1) ++ (Ts.take n).flatMap regsL) ((l2 ++ p2) ++ (Ts.take n).flatMap unkL) fz c) : Marks (l0 ++ q0) (l1 ++ q1) (l2 ++ q2) fz c := by
  subst hn e0 e1 e2
  rw [List.take_of_length_le (Nat.le_refl _)] at h
  simpa only [List.append_assoc] using h
theorem mark_cnt {T : Ty} {l0 : List Bool} {l1 : List Reg} {l2 : List Ty} (h : l0.length + l1.length + l2.length + 2 * size T ≤ 100000) : (l0 ++ pre0 T).length + (l1 ++ pre1 T).length + (l2 ++ pre2 T).length + 2 * szL (kids T) ≤ 100000 := by
  rw [cntA, Nat.add_assoc]
  exact Nat.le_trans (Nat.add_le_add_left (Nat.le_trans (Nat.add_le_add_right (pre_kids T).2 _) (Nat.le_trans (Nat.le_of_eq (Nat.add_comm ..)) (Nat.mul_le_mul_left 2 (size_kids T)))) _) h
theorem MarkKs.use {w : World} {Ts : List Ty} {n : Nat} {T : Ty} {v : Value} {fz tl : Led} {c : MSt} {Fd D0 D1 D2 : Addr} {l0 l1 l2} (K : MarkKs w Ts n) (h : T ∈ Ts) (hT : TyIn fz v T) (hz : Tups fz) (M : MarkAt Fd D0 D1 D2 tl) (m : Marks l0 l1 l2 fz c) (r : l0.length + l1.length + l2.length + 2 * size T ≤ 100000) :
    TelS w (.ref 139) [v, .ref Fd] fz (mkR D0 D1 D2 tl) c n (fun r fz' c' => r = .ref Fd ∧ Marks (l0 ++ paramsL T) (l1 ++ regsL T) (l2 ++ unkL T) fz' c') := K.ih T h hT hz M m r
theorem RegAll.append {vs ws : List Value} {rs qs : List Reg} (h : RegAll vs rs) (k : RegAll ws qs) : RegAll (vs ++ ws) (rs ++ qs) := by
  induction h with
  | nil => exact k
  | cons a _ ih => exact .cons a ih

end
section
theorem flushLMarks : True ∧ True := by (w_top off); (first | (walk1; done) | exact ⟨True.intro, True.intro⟩)
/-! _law_marks: the walk, in the small logic -/
noncomputable abbrev o3 (D0 D1 D2 : Addr) (g : MSt) : Led := [(D0, lO g.1), (D1, lO g.2.1), (D2, lO g.2.2)]
theorem pre_unk {T : Ty} (h : (S "var" == kindS T || S "intvar" == kindS T) = true) : pre0 T = [] ∧ pre1 T = [] ∧ pre2 T = [T] := by
  cases T
  case var => exact ⟨rfl, rfl, rfl⟩
  case intvar => exact ⟨rfl, rfl, rfl⟩
  all_goals exact absurd h (by show ¬ ((S _ == S _ || S _ == S _) = true); decide +kernel)
theorem pre_none {T : Ty} (h1 : (kindS T == Str.ofString "param") = false) (h2 : (S "var" == kindS T || S "intvar" == kindS T) = false) (h3 : (kindS T == Str.ofString "ref") = false) (h4 : (kindS T == Str.ofString "adt") = false) : pre0 T = [] ∧ pre1 T = [] ∧ pre2 T = [] := by
  cases T
  case param => exact absurd h1 (by show ¬ ((S _ == S _) = false); decide +kernel)
  case ref => exact absurd h3 (by show ¬ ((S _ == S _) = false); decide +kernel)
  case adt => exact absurd h4 (by show ¬ ((S _ == S _) = false); decide +kernel)
  case var => exact absurd h2 (by show ¬ ((S _ == S _ || S _ == S _) = false); decide +kernel)
  case intvar => exact absurd h2 (by show ¬ ((S _ == S _ || S _ == S _) = false); decide +kernel)
  all_goals exact ⟨rfl, rfl, rfl⟩
/-- what stands behind the kind's word where it is looked at -/
inductive InnerOk (fz : Led) : Ty → List Value → Prop
  | ref {r b U rv v} : TyIn fz v U → InnerOk fz (.ref r b U) [rv, .bool b, v]
  | box {U v} : TyIn fz v U → InnerOk fz (.box U) [v]
  | arr {U v u} : TyIn fz v U → InnerOk fz (.array U) [v, u]
  | oth {T more} : S "ref" ≠ kindS T → S "box" ≠ kindS T → S "array" ≠ kindS T → ((kindS T == Str.ofString "tuple") = false → (kindS T == Str.ofString "adt") = false → kids T = []) → InnerOk fz T more
theorem TyIn.inner {fz : Led} {v : Value} {T : Ty} (h : TyIn fz v T) : ∃ a t more n, v = .ref a ∧ (a, tupO (.str (kindS T) t :: more) n) ∈ fz ∧ InnerOk fz T more := by
  cases h with
  | ref h r k => exact ⟨_, _, _, _, rfl, h, .ref k⟩
  | box h k => exact ⟨_, _, _, _, rfl, h, .box k⟩
  | array h k => exact ⟨_, _, _, _, rfl, h, .arr k⟩
  | pair h => exact ⟨_, _, _, _, rfl, h, .oth (by show S _ ≠ S _; decide) (by show S _ ≠ S _; decide) (by show S _ ≠ S _; decide) fun k => absurd k (by show ¬ ((S _ == S _) = false); decide +kernel)⟩
  | adt h => exact ⟨_, _, _, _, rfl, h, .oth (by show S _ ≠ S _; decide) (by show S _ ≠ S _; decide) (by show S _ ≠ S _; decide) fun _ k => absurd k (by show ¬ ((S _ == S _) = false); decide +kernel)⟩
  | param h | int h | bool h | never h | unit h | var h | intvar h => exact ⟨_, _, _, _, rfl, h, .oth (by show S _ ≠ S _; decide) (by show S _ ≠ S _; decide) (by show S _ ≠ S _; decide) fun _ _ => rfl⟩
theorem InnerOk.up {fz fz' : Led} {T : Ty} {more : List Value} (s : Sub fz fz') (h : InnerOk fz T more) : InnerOk fz' T more := by
  cases h with
  | ref k => exact .ref (k.up s)
  | box k => exact .box (k.up s)
  | arr k => exact .arr (k.up s)
  | oth a b c d => exact .oth a b c d
/-- after the second statement: «inner» is a tuple of the kids where the kind is no tuple and no adt -/
inductive MI (T : Ty) (o0 : Led) (m m' : Str → Option Value) (o f : Led) : Prop
  | mk {b us k} : m' = upd m (Str.ofString "inner") (.ref b) → o = o0 → (b, tupO us k) ∈ f → ((kindS T == Str.ofString "tuple") = false → (kindS T == Str.ofString "adt") = false → TyAll f us (kids T)) → MI T o0 m m' o f
theorem inner_is {T : Ty} {f : Led} {E0 E1 E2 E3 : Addr} {t : Tok} {more : List Value} {m : Str → Option Value} {o : Led} (h : InnerOk f T more) {v : Value} (e : (valueAt [(S "ref", Value.ref E1), (S "box", Value.ref E2), (S "array", Value.ref E3)] (kindS T)).getD (.ref E0) = v) :
    MI T o m (upd m (Str.ofString "inner") v) o ((E0, tupO [] 0) :: (E3, tupO (List.take 1 (List.drop 1 (.str (kindS T) t :: more))) 0) :: (E2, tupO (List.take 1 (List.drop 1 (.str (kindS T) t :: more))) 0) :: (E1, tupO (List.take 1 (List.drop 3 (.str (kindS T) t :: more))) 0) :: f) := by
  have up : Sub f ((E0, tupO [] 0) :: (E3, tupO (List.take 1 (List.drop 1 (.str (kindS T) t :: more))) 0) :: (E2, tupO (List.take 1 (List.drop 1 (.str (kindS T) t :: more))) 0) :: (E1, tupO (List.take 1 (List.drop 3 (.str (kindS T) t :: more))) 0) :: f) := .cons (.cons (.cons (.cons .refl)))
  cases h with
  | ref k =>
    rw [at_hit (x := S "ref") (y := kindS _) rfl] at e
    subst e
    exact .mk rfl rfl (List.mem_cons_of_mem _ (List.mem_cons_of_mem _ (List.mem_cons_of_mem _ (List.mem_cons_self ..)))) fun _ _ => .cons (k.up up) .nil
  | box k =>
    rw [at_miss (by show S _ ≠ S _; decide), at_hit (x := S "box") (y := kindS _) rfl] at e
    subst e
    exact .mk rfl rfl (List.mem_cons_of_mem _ (List.mem_cons_of_mem _ (List.mem_cons_self ..))) fun _ _ => .cons (k.up up) .nil
  | arr k =>
    rw [at_miss (by show S _ ≠ S _; decide), at_miss (by show S _ ≠ S _; decide), at_hit (x := S "array") (y := kindS _) rfl] at e
    subst e
    exact .mk rfl rfl (List.mem_cons_of_mem _ (List.mem_cons_self ..)) fun _ _ => .cons (k.up up) .nil
  | oth a b c d =>
    rw [at_miss a, at_miss b, at_miss c] at e
    have e' : Value.ref E0 = v := e
    subst e'
    exact .mk rfl rfl (List.mem_cons_self ..) fun x y => by rw [d x y]; exact .nil
/-- after the first statement -/
inductive MJ (D0 D1 D2 : Addr) (p0 : List Bool) (p1 : List Reg) (p2 : List Ty) (m m' : Str → Option Value) (o f : Led) : Prop
  | mk {g : MSt} : m' = m → o = o3 D0 D1 D2 g → Marks p0 p1 p2 f g → MJ D0 D1 D2 p0 p1 p2 m m' o f
theorem MJ.same {D0 D1 D2 : Addr} {l0 : List Bool} {l1 : List Reg} {l2 : List Ty} {q0 : List Bool} {q1 : List Reg} {q2 : List Ty} {m : Str → Option Value} {f : Led} {g : MSt} (M : Marks l0 l1 l2 f g) (h : q0 = [] ∧ q1 = [] ∧ q2 = []) : MJ D0 D1 D2 (l0 ++ q0) (l1 ++ q1) (l2 ++ q2) m m (o3 D0 D1 D2 g) f := by
  obtain ⟨rfl, rfl, rfl⟩ := h
  exact .mk rfl rfl (by simpa only [List.append_nil] using M)
theorem o3_in {D0 D1 D2 : Addr} {fz cs tl : Led} {g : MSt} {p : Addr × Obj} : p ∈ cs ++ o3 D0 D1 D2 g ++ (fz ++ tl) ↔ p ∈ fz ++ mkR D0 D1 D2 (cs ++ tl) g := by
  simp only [mkR, List.mem_append, List.mem_cons, List.not_mem_nil, or_false]
  constructor
  · rintro ((h | h | h | h) | h | h) <;> simp [h]
  · rintro (h | h | h | h | h | h) <;> simp [h]
section
variable {Fd D0 D1 D2 : Addr} {tl : Led} {g : MSt} {o' : Obj}
theorem MarkAt.up0 (M : MarkAt Fd D0 D1 D2 tl) : Upd D0 (lO g.1) o' (o3 D0 D1 D2 g) ((D0, o') :: [(D1, lO g.2.1), (D2, lO g.2.2)]) := by
  have h1 := M.n01
  have h2 := M.n02
  refine Upd.head ?_
  k_all
theorem MarkAt.up1 (M : MarkAt Fd D0 D1 D2 tl) : Upd D1 (lO g.2.1) o' (o3 D0 D1 D2 g) ((D0, lO g.1) :: (D1, o') :: [(D2, lO g.2.2)]) := by
  have h1 := M.n01
  have h3 := M.n12
  refine Upd.tail ?_ (Upd.head ?_)
  · k_ne
  · k_all
theorem MarkAt.up2 (M : MarkAt Fd D0 D1 D2 tl) : Upd D2 (lO g.2.2) o' (o3 D0 D1 D2 g) ((D0, lO g.1) :: (D1, lO g.2.1) :: [(D2, o')]) := by
  have h2 := M.n02
  have h3 := M.n12
  refine Upd.tail ?_ (Upd.tail ?_ (Upd.head ?_))
  · k_ne
  · k_ne
  · k_all
end
set_option maxHeartbeats 400000 in
theorem marks_walk {w : World} {T : Ty} {n : Nat} (K : MarkK w T n) : MarkSpec w T (n + 12) := by
  intro v fz tl g Fd D0 D1 D2 l0 l1 l2 hT hz M hm hroom
  obtain ⟨⟨k9, hF⟩, -, -, -, -, -, -⟩ := id M
  obtain ⟨hm0, hm1, hm2⟩ := id hm
  have s0 : g.1.1.length ≤ sizeLine := by rw [hm0.length, PySem.sizeLine_eq]; omega
  have s1 : g.2.1.1.length ≤ sizeLine := by rw [hm1.length', PySem.sizeLine_eq]; omega
  have s1' : g.2.1.1.length + 2 ≤ sizeLine := by rw [hm1.length', PySem.sizeLine_eq]; omega
  have s2 : g.2.2.1.length ≤ sizeLine := by rw [hm2.length, PySem.sizeLine_eq]; omega
  have Ks : MarkKs w (kids T) n := ⟨K.ih⟩
  have hcnt := mark_cnt (T := T) hroom
  obtain ⟨⟨e0, e1, e2⟩, -⟩ := pre_kids T
  obtain ⟨a, t, more, n9, rfl, hmm, hin⟩ := hT.inner
  have hB := hT.by
  clear K hroom
  have kf9 : Mine.hd.heap_1 w.params = Mine.hd.heap_1 w.params ∧ PySem.Challenge.rw_ot0007_01 = PySem.Challenge.rw_ot0007_01 := by k_fill; exact ⟨rfl, rfl⟩
  clear kf9
  refine' telS_def (own := o3 D0 D1 D2 g) (tl := tl) ?a0 ?a1 (fun _ => ?a2) ?a3 ?a4 ?a5 ?a6 ?a7 hz ?ain ?_
  case a0 => k_is
  case a1 => k_is
  case a2 => exact BindsTo.of_eq rfl
  case a3 => exact locs rfl
  case a4 => exact rfl
  case a5 => exact rfl
  case a6 => exact rfl
  case a7 => decide
  case ain => exact fun p hp => (o3_in (cs := [])).mp hp
  intro c m R hdp hun hb hR
  have ht : m (Str.ofString "thing") = some (.ref a) := hb _
  have hf : m (Str.ofString "found") = some (.ref Fd) := hb _
  clear hb
  have hu64 : c.un + 64 < cLine := by first | exact ulk (Y := 8) hun rfl | exact uld (Y := 8) hun rfl
  have k1 : nsIn (Mine.hd.heap_1 w.params) mainGlobals (Str.ofString "_law_marks") = some (some (.ref 139)) := by k_is
  have k2 : keepIn (Mine.hd.heap_1 w.params) (.ref 139) = true := by k_is
  refine JX.cut (MJ D0 D1 D2 (l0 ++ pre0 T) (l1 ++ pre1 T) (l2 ++ pre2 T) m) (JS.iteV (EV.sub ht hmm rfl) ?par fun h1 => JX.last (JS.ite (JT.inTwo (EV.sub ht hmm rfl) (kindS_ok T) hu64 fun D t1 t2 => ⟨?unk, fun h2 => JX.last (JS.iteV (EV.sub ht (List.mem_cons_of_mem _ hmm) rfl) ?ref fun h3 => JX.last (JS.iteV (EV.sub ht (List.mem_cons_of_mem _ hmm) rfl) ?adt fun h4 => JX.nil ⟨rfl, MJ.same (hm.up (.cons .refl)) (pre_none h1 h2 h3 h4)⟩))⟩))) ?rest
  case par =>
    intro h
    obtain ⟨hp⟩ := kParam hT h
    exact JX.app (EV.subL hf hF rfl) (EV.sub ht hp rfl) (List.mem_cons_self ..) M.up0 M.o0 s0 ⟨rfl, .mk (g := ((_, _), g.2.1, g.2.2)) rfl rfl ⟨hm0.snoc, by simpa only [pre1, List.append_nil] using hm1, by simpa only [pre2, List.append_nil] using hm2⟩⟩
  case unk =>
    intro h
    obtain ⟨q0, q1, q2⟩ := pre_unk h
    exact JX.app (EV.subL hf hF rfl) (EV.name ht) (List.mem_cons_of_mem _ (List.mem_cons_of_mem _ (List.mem_cons_self ..))) M.up2 M.o2 s2 ⟨rfl, .mk (g := (g.1, g.2.1, (_, _))) rfl rfl ⟨by simpa only [q0, List.append_nil] using hm0, by simpa only [q1, List.append_nil] using hm1, by simpa only [q2] using TyAll.snoc (hm2.up (.cons .refl)) (hT.up (.cons .refl))⟩⟩
  case ref =>
    intro h
    obtain ⟨⟨h1, h2, h3⟩⟩ := kRef hB h
    exact JX.app (EV.subL hf hF rfl) (EV.sub ht (List.mem_cons_of_mem _ h1) rfl) (List.mem_cons_of_mem _ (List.mem_cons_self ..)) M.up1 M.o1 s1 ⟨rfl, .mk (g := (g.1, (_, _), g.2.2)) rfl rfl ⟨by simpa only [pre0, List.append_nil] using hm0, hm1.snoc h2, by simpa only [pre2, List.append_nil] using hm2.up (.cons .refl)⟩⟩
  case adt =>
    intro h
    obtain ⟨⟨h1, h2, h3, h4, h5, h6⟩⟩ := kAdt hB h
    exact JX.ext (EV.subL hf hF rfl) (EV.sub ht (List.mem_cons_of_mem _ h1) rfl) (List.mem_cons_of_mem _ h2) (List.mem_cons_of_mem _ (List.mem_cons_self ..)) M.up1 M.o1 s1' ⟨rfl, .mk (g := (g.1, (_, _), g.2.2)) rfl rfl ⟨by simpa only [pre0, List.append_nil] using hm0, RegAll.append hm1 (.cons h4 (.cons h5 .nil)), by simpa only [pre2, List.append_nil] using hm2.up (.cons .refl)⟩⟩
  case rest =>
    intro m' o f S1 hJ
    obtain @⟨g', rfl, rfl, hm'⟩ := hJ
    have hmm' := S1.sub _ hmm
    have hB' := (hT.up S1).by
    refine JX.cut (MI T (o3 D0 D1 D2 g') m') ?inner ?loop
    case inner =>
      refine JS.set (JG.drop (JE.get (JE.dict rfl rfl (List.cons_ne_nil _ _) rfl fun d o hd nm => JD.cons (JE.str fun t1 => JE.mid (i := 3) (j := 4) ht hmm' rfl rfl (Nat.le_of_ble_eq_true rfl) fun E1 => JD.cons (JE.str fun t2 => JE.mid (i := 1) (j := 2) ht (List.mem_cons_of_mem _ hmm') rfl rfl (Nat.le_of_ble_eq_true rfl) fun E2 => JD.cons (JE.str fun t3 => JE.mid (i := 1) (j := 2) ht (List.mem_cons_of_mem _ (List.mem_cons_of_mem _ hmm')) rfl rfl (Nat.le_of_ble_eq_true rfl) fun E3 => JD.nil ⟨rfl, rfl, ?nd, fun o' hd' => ⟨d, o', _, rfl, List.mem_append.mpr (.inl (List.mem_cons_self ..)), hd', nm, JA.cons (JE.V (EV.sub ht (List.mem_cons_of_mem _ (List.mem_cons_of_mem _ (List.mem_cons_of_mem _ hmm'))) rfl) fun _ => JA.cons (JE.tup0 fun E0 => JA.nil ⟨rfl, _, _, _, rfl, _, fun _ hp => List.mem_cons_of_mem _ hp, ?fin⟩))⟩⟩))))))
      case nd => show [Str.ofString "ref", Str.ofString "box", Str.ofString "array"].Nodup; decide +kernel
      case fin => exact ⟨rfl, inner_is (hin.up S1) rfl⟩
    case loop =>
      rintro _ _ f2 S2 @⟨b, us, k, rfl, rfl, hb, hus⟩
      have hmm2 := S2.sub _ hmm'
      have hB2 := (hT.up (S2.step S1)).by
      refine JX.for (o3 D0 D1 D2) g' (fun vs f => TyAll f vs (kids T)) (fun i f g u => Marks ((l0 ++ pre0 T) ++ ((kids T).take i).flatMap paramsL) ((l1 ++ pre1 T) ++ ((kids T).take i).flatMap regsL) ((l2 ++ pre2 T) ++ ((kids T).take i).flatMap unkL) f g ∧ u (Str.ofString "found") = some (.ref Fd)) (fun _ => rfl) (JE.iteV (EV.sub ht hmm2 rfl) ?tup fun h1 => JE.iteV (EV.sub ht hmm2 rfl) ?adt fun h2 => JE.V (EV.name rfl) fun _ => ⟨_, _, rfl, .inl ⟨_, hb⟩, rfl, hus h1 h2, ?h0⟩) ?turn ?fin
      case h0 => exact ⟨by simpa only [List.take_zero, List.flatMap_nil, List.append_nil] using hm'.up S2, hf⟩
      case tup =>
        intro h
        obtain ⟨k1, k2, k3⟩ := kTup hB2 h
        exact JE.V (EV.sub ht k1 rfl) fun _ => ⟨_, _, rfl, .inl ⟨_, k2⟩, rfl, k3, by simpa only [List.take_zero, List.flatMap_nil, List.append_nil] using hm'.up S2, hf⟩
      case adt =>
        intro h
        obtain ⟨⟨k1, k2, k3, k4, k5, k6⟩⟩ := kAdt hB2 h
        exact JE.V (EV.sub ht k1 rfl) fun _ => ⟨_, _, rfl, .inl ⟨_, k3⟩, rfl, k6, by simpa only [List.take_zero, List.flatMap_nil, List.append_nil] using hm'.up S2, hf⟩
      case turn =>
        intro vs f0 hvs i v f3 g3 u I oI hv S3 hI hlt
        obtain ⟨T', e', k'⟩ := hvs.at hv
        exact JX.expr (JE.call k1 k2 (JA.two (EV.name rfl) (EV.name hI.2) fun _ _ => JC.telS (fun Z => Ks.use (List.mem_of_getElem? e') (k'.up S3) Z (mark_one (oI := oI) M hlt) hI.1 (mark_room e' hcnt)) (by omega) (by omega) (fun p hp => (o3_in (cs := [(I, oI)])).mpr hp) fun r f4 st4 S4 _ h4 => ⟨(I, oI) :: o3 D0 D1 D2 st4, fun p hp => (o3_in (cs := [(I, oI)])).mp hp, JX.nil ⟨rfl, st4, rfl, mark_step e' h4.2, hI.2⟩⟩))
      case fin =>
        intro vs f0 hvs f3 g3 u S3 hI
        exact JX.retV (EV.name hI.2) fun _ => hR _ _ _ _ g3 ⟨rfl, mark_end hvs.length e0 e1 e2 hI.1⟩ fun p hp => (o3_in (cs := [])).mpr hp

end
section
theorem flushLMarkF : True ∧ True := by (w_top off); (first | (walk1; done) | exact ⟨True.intro, True.intro⟩)
theorem MarkSpec.more {w : World} {T : Ty} {a b : Nat} (h : MarkSpec w T a) (k : a ≤ b) : MarkSpec w T b :=
  fun x1 x2 x3 x4 x5 loose mean mg mb dp un gd cn cs a ccd cl outer A₀ base h₀ L m s Q E B F X N T hk hd hu kk => h x1 x2 x3 x4 x5 loose mean mg mb dp un gd cn cs a ccd cl outer A₀ base h₀ L m s Q E B F X N T hk (by omega) (by omega) kk
theorem marks_all (w : World) : ∀ n T, height T < n → MarkSpec w T (12 * height T + 20) := by
  intro n
  induction n with
  | zero => intro T h; exact absurd h (Nat.not_lt_zero _)
  | succ n ih =>
    intro T h
    have K : ∃ m, m + 12 ≤ 12 * height T + 20 ∧ MarkK w T m := by
      rcases Nat.lt_or_ge 0 (height T) with h0 | h0
      · exact ⟨12 * (height T - 1) + 20, by omega, ⟨fun T' h' => @MarkSpec.more w T' _ _ (ih T' (by have := kid_height h'; omega)) (by have := kid_height h'; omega)⟩⟩
      · exact ⟨8, by omega, ⟨fun T' h' => absurd (kid_height h') (by omega)⟩⟩
    obtain ⟨m, hm, K⟩ := K
    exact @MarkSpec.more w T _ _ (@marks_walk w T m K) hm
theorem law_marks_tel (w : World) (T : Ty) : MarkSpec w T (12 * height T + 20) := marks_all w _ T (Nat.lt_succ_self _)

end
section
theorem flushLZip : True ∧ True := by (w_top off); (first | (walk1; done) | exact ⟨True.intro, True.intro⟩)
/-! zip over two tuples of one length -/
section
variable {prog : Program} {w : World} {A : Around} {E : Value → Shared → Prop} {s : Shared}
theorem next_tup {it t : Addr} {i : Nat} {items : Array Value} {x : Value} {Q : Value → Shared → Prop} (hit : s.heap.IsTupleIter it t i) (ht : s.heap.IsTuple t items) (hx : items[i]? = some x)
    (k : ∀ h', h'.IsTupleIter it t (i + 1) → Heap.SameBut it s.heap h' → Q x { s with heap := h' }) : wpAny (model prog w) A (Builtin.SmallTypes.nextOf (.ref it)) Q E s := by
  obtain ⟨oi, hoi, hci, hdi⟩ := id hit
  obtain ⟨ot, hot, _, nt, hdt⟩ := ht
  unfold Builtin.SmallTypes.nextOf
  refine wpAny_bind (wpAny_callSpecial?_slot (name := Str.ofString "__next__") hit.typeIs PySem.F.slot_tuple_iterator_next (wpAny_call_entry PySem.F.slot_tuple_iterator_next hit.typeIs PySem.F.entry_tuple_iterator_next ?_ (PySem.F.args_tuple_iterator_next_1 _)))
  show wpAny _ _ (field (.ref it) 0 >>= _) _ _ s
  refine wpAny_bind (wpAny_field hoi hdi (x := .ref t) rfl ?_)
  show wpAny _ _ (if (Value.ref t == Value.none) = true then _ else _) _ _ s
  rw [if_neg (by exact Bool.false_ne_true)]
  refine wpAny_bind (wpAny_field hoi hdi (x := .int i 0) rfl ?_)
  refine wpAny_bind (wpAny_seqItems hot hdt ?_)
  simp only [Int.toNat_natCast, hx]
  refine wpAny_bind (wpAny_setField hoi hdi (by simp) (wpAny_pure ⟨x, rfl, wpAny_pure (k _ ⟨_, Heap.get?_update_self _ hoi (Obj.isFreed_of_fields (Obj.data_mapFields hdi _)), (Obj.cls_mapFields ..).trans hci, ?_⟩ (Heap.SameBut.update ..))⟩))
  rw [Obj.data_mapFields hdi]
  simp [rawInt]
theorem stop_tup {it t : Addr} {i : Nat} {items : Array Value} {Q : Value → Shared → Prop} (hh : A.handled = none) (hit : s.heap.IsTupleIter it t i) (ht : s.heap.IsTuple t items) (hx : items[i]? = none)
    (k : ∀ h' e, Heap.ExtBut it s.heap h' → (∃ o, h'.get? e = some o ∧ o.cls = .type "StopIteration") → E (.ref e) { s with heap := h' }) : wpAny (model prog w) A (Builtin.SmallTypes.nextOf (.ref it)) Q E s := by
  obtain ⟨oi, hoi, hci, hdi⟩ := id hit
  obtain ⟨ot, hot, _, nt, hdt⟩ := ht
  unfold Builtin.SmallTypes.nextOf
  refine wpAny_bind (wpAny_callSpecial?_slot (name := Str.ofString "__next__") hit.typeIs PySem.F.slot_tuple_iterator_next (wpAny_call_entry PySem.F.slot_tuple_iterator_next hit.typeIs PySem.F.entry_tuple_iterator_next ?_ (PySem.F.args_tuple_iterator_next_1 _)))
  show wpAny _ _ (field (.ref it) 0 >>= _) _ _ s
  refine wpAny_bind (wpAny_field hoi hdi (x := .ref t) rfl ?_)
  show wpAny _ _ (if (Value.ref t == Value.none) = true then _ else _) _ _ s
  rw [if_neg (by exact Bool.false_ne_true)]
  refine wpAny_bind (wpAny_field hoi hdi (x := .int i 0) rfl ?_)
  refine wpAny_bind (wpAny_seqItems hot hdt ?_)
  simp only [Int.toNat_natCast, hx]
  refine wpAny_bind (wpAny_rule (wpAny_bind (wpAny_setField hoi hdi (by simp) ?_)))
  show wpAny _ _ (newExc (.type "StopIteration") [] >>= _) _ _ _
  simp only [newExc, newTuple]
  refine wpAny_bind (wpAny_bind (wpAny_newObj_type ?_ (by size_fits)))
  refine wpAny_bind (m := firstArgMember _ _) (wpAny_of_eq (a := Value.none) (by first | rfl | (simp only [firstArgMember]; rfl)) ?_)
  refine wpAny_newObj_type ?_ (by size_fits)
  simp only [raiseNew]
  refine wpAny_bind (wpAny_handled ?_)
  first | rw [show A.in1.handled = none from hh] | rw [hh]
  exact wpAny_bind (wpAny_pure (wpAny_throw (k _ _ (((Heap.SameBut.update ..).extBut.push _).push _) ⟨_, Heap.get?_push_size _ rfl, rfl⟩)))
end
theorem tupIter_at {h h' : Heap} {a t : Addr} {i : Nat} (x : h.IsTupleIter a t i) (k : ∀ o, h.get? a = some o → h'.get? a = some o) : h'.IsTupleIter a t i :=
  let ⟨o, ho, r⟩ := x; ⟨o, k o ho, r⟩
structure ZS (z TI TO i1 i2 t1 t2 : Addr) (xs ys : Array Value) (i : Nat) (f : Value) (h : Heap) : Prop where
  z : IsZip h z TI TO f
  ti : IsPair h TI (.ref i1) (.ref i2)
  to : ∃ a b, IsPair h TO a b
  j1 : h.IsTupleIter i1 t1 i
  j2 : h.IsTupleIter i2 t2 i
  l1 : h.IsTuple t1 xs
  l2 : h.IsTuple t2 ys
section
variable {prog : Program} {w : World} {A : Around} {E : Value → Shared → Prop} {s : Shared} {z TI TO i1 i2 t1 t2 : Addr} {xs ys : Array Value} {i : Nat}
noncomputable def Outside (z TO i1 i2 : Addr) (h h' : Heap) : Prop := ∀ c o, c ≠ z → c ≠ TO → c ≠ i1 → c ≠ i2 → h.get? c = some o → h'.get? c = some o
theorem zip_item {x y : Value} {Q : Option Value → Shared → Prop} (D : ZipApart z TI TO i1 i2 t1 t2) (S : ZS z TI TO i1 i2 t1 t2 xs ys i .none s.heap) (hx : xs[i]? = some x) (hy : ys[i]? = some y)
    (k : ∀ h', ZS z TI TO i1 i2 t1 t2 xs ys (i + 1) (rawInt s.heap.objs.size) h' → IsPair h' s.heap.objs.size x y → Outside z TO i1 i2 s.heap h' → Q (some (.ref s.heap.objs.size)) { s with heap := h' }) : wpAny (model prog w) A (pyNext (.ref z)) Q E s := by
  obtain ⟨hz, hTI, ⟨a, b, hTO⟩, h1, h2, hl1, hl2⟩ := S
  have hT : s.TypeIs (.ref z) "zip" := ⟨_, hz, rfl⟩
  unfold pyNext
  refine wpAny_bind (wpAny_attempt (wpAny_callSpecial?_slot (name := Str.ofString "__next__") hT PySem.F.slot_zip_next (wpAny_call_entry PySem.F.slot_zip_next hT PySem.F.entry_zip_next ?_ (PySem.F.args_zip_next_1 _))))
  show wpAny _ _ (field (.ref z) 2 >>= _) _ _ _
  refine wpAny_bind (wpAny_field hz rfl (x := .bool false) rfl (wpAny_bind (wpAny_field hz rfl (x := .ref TI) rfl (wpAny_bind (wpAny_seqItems hTI rfl ?_)))))
  show wpAny _ _ (Builtin.SmallTypes.ownedTupleIsFree (.ref z) >>= _) _ _ _
  unfold Builtin.SmallTypes.ownedTupleIsFree
  refine wpAny_bind (wpAny_bind (wpAny_field hz rfl (x := .none) rfl (wpAny_pure ?_)))
  simp only [if_true]
  refine wpAny_bind (wpAny_rule (wpAny_bind (wpAny_field hz rfl (x := .ref TO) rfl (wpAny_bind (wpAny_setField_rec hz (by simp) fun ha za sa => ?_)))))
  have za : IsZip ha z TI TO .ellipsis := za
  simp only [List.zipIdx_cons, List.zipIdx_nil, List.forIn_cons, List.forIn_nil]
  refine wpAny_bind (wpAny_bind (wpAny_bind (wpAny_onRaise ?_)))
  show wpAny _ _ (Builtin.SmallTypes.nextOf (.ref i1) >>= _) _ _ _
  refine wpAny_bind (next_tup (h1.extBut sa.extBut D.i1z) (hl1.extBut sa.extBut D.l1z) hx fun hb jb sb => wpAny_pure ?_)
  have tb : IsPair hb TO a b := sb.extBut _ _ D.TOi1 (sa.extBut _ _ D.TOz hTO)
  refine wpAny_bind (wpAny_seqItems tb rfl (wpAny_bind (wpAny_updateSeq_pair tb fun hc tc sc => ?_)))
  have tc : IsPair hc TO x b := tc
  refine wpAny_bind (wpAny_letGo (wpAny_pure ?_))
  refine wpAny_bind (wpAny_bind (wpAny_onRaise ?_))
  show wpAny _ _ (Builtin.SmallTypes.nextOf (.ref i2) >>= _) _ _ _
  refine wpAny_bind (next_tup (((h2.extBut sa.extBut D.i2z).extBut sb.extBut D.i12.symm).extBut sc.extBut D.TOi2.symm) (((hl2.extBut sa.extBut D.l2z).extBut sb.extBut D.l2i1).extBut sc.extBut D.l2TO) hy fun hd jd sd => wpAny_pure ?_)
  have td : IsPair hd TO x b := sd.extBut _ _ D.TOi2 tc
  refine wpAny_bind (wpAny_seqItems td rfl (wpAny_bind (wpAny_updateSeq_pair td fun he te se => ?_)))
  have te : IsPair he TO x y := te
  refine wpAny_bind (wpAny_letGo (wpAny_pure (wpAny_pure ?_)))
  refine wpAny_bind (wpAny_seqItems te rfl (wpAny_bind (wpAny_newTuple ?_)))
  have sz : he.objs.size = s.heap.objs.size := by rw [se.1, sd.1, sc.1, sb.1, sa.1]
  have all : ∀ c o, c ≠ TO → c ≠ i1 → c ≠ i2 → ha.get? c = some o → he.get? c = some o := fun c o c2 c3 c4 e => se.extBut _ _ c2 (sd.extBut _ _ c4 (sc.extBut _ _ c2 (sb.extBut _ _ c3 e)))
  have ze : IsZip he z TI TO .ellipsis := all _ _ D.TOz.symm D.i1z.symm D.i2z.symm za
  show wpAny _ _ (Builtin.SmallTypes.ownedTupleHandOut (.ref z) (.ref he.objs.size) >>= _) _ _ _
  unfold Builtin.SmallTypes.ownedTupleHandOut
  have zf : IsZip (he.push { cls := .type "tuple", data := .seq #[x, y] }) z TI TO .ellipsis := Heap.get?_push_of_some _ ze
  refine wpAny_bind (wpAny_bind (wpAny_setField_rec zf (by simp) fun hg zg sg => ?_))
  have zg : IsZip hg z TI TO (rawInt he.objs.size) := zg
  refine wpAny_setField_rec zg (by simp) fun hk zk sk => ?_
  have zk : IsZip hk z TI TO (rawInt he.objs.size) := zk
  have up : ∀ c o, c ≠ z → he.get? c = some o → hk.get? c = some o := fun c o c1 e => sk.extBut _ _ c1 (sg.extBut _ _ c1 (Heap.get?_push_of_some _ e))
  have nz : he.objs.size ≠ z := fun e => Nat.lt_irrefl _ (e ▸ Heap.lt_size ze)
  have pk : IsPair hk he.objs.size x y := sk.extBut _ _ nz (sg.extBut _ _ nz (Heap.get?_push_size _ rfl))
  refine wpAny_pure ⟨_, rfl, ?_⟩
  refine wpAny_pure ?_
  rw [sz] at zk pk
  show Q (some (.ref he.objs.size)) _
  rw [sz]
  refine k hk ⟨zk, ?_, ⟨x, y, up _ _ D.TOz te⟩, ?_, ?_, ?_, ?_⟩ pk fun c o c1 c2 c3 c4 e => up c o c1 (all c o c2 c3 c4 (sa.extBut _ _ c1 e))
  · exact up _ _ D.TIz (all _ _ D.TITO D.TIi1 D.TIi2 (sa.extBut _ _ D.TIz hTI))
  · exact tupIter_at (((jb.extBut sc.extBut D.TOi1.symm).extBut sd.extBut D.i12).extBut se.extBut D.TOi1.symm) fun o e => up _ o D.i1z e
  · exact tupIter_at (jd.extBut se.extBut D.TOi2.symm) fun o e => up _ o D.i2z e
  · obtain ⟨o, ho, r⟩ := hl1; exact ⟨o, up _ _ D.l1z (all _ _ D.l1TO D.l1i1 D.l1i2 (sa.extBut _ _ D.l1z ho)), r⟩
  · obtain ⟨o, ho, r⟩ := hl2; exact ⟨o, up _ _ D.l2z (all _ _ D.l2TO D.l2i1 D.l2i2 (sa.extBut _ _ D.l2z ho)), r⟩
theorem zip_stop {Q : Option Value → Shared → Prop} (hh : A.handled = none) (D : ZipApart z TI TO i1 i2 t1 t2) (S : ZS z TI TO i1 i2 t1 t2 xs ys i .none s.heap) (hx : xs[i]? = none)
    (k : ∀ h', Outside z TO i1 i2 s.heap h' → Q none { s with heap := h' }) : wpAny (model prog w) A (pyNext (.ref z)) Q E s := by
  obtain ⟨hz, hTI, ⟨a, b, hTO⟩, h1, h2, hl1, hl2⟩ := S
  have hT : s.TypeIs (.ref z) "zip" := ⟨_, hz, rfl⟩
  unfold pyNext
  refine wpAny_bind (wpAny_attempt (wpAny_callSpecial?_slot (name := Str.ofString "__next__") hT PySem.F.slot_zip_next (wpAny_call_entry PySem.F.slot_zip_next hT PySem.F.entry_zip_next ?_ (PySem.F.args_zip_next_1 _))))
  show wpAny _ _ (field (.ref z) 2 >>= _) _ _ _
  refine wpAny_bind (wpAny_field hz rfl (x := .bool false) rfl (wpAny_bind (wpAny_field hz rfl (x := .ref TI) rfl (wpAny_bind (wpAny_seqItems hTI rfl ?_)))))
  show wpAny _ _ (Builtin.SmallTypes.ownedTupleIsFree (.ref z) >>= _) _ _ _
  unfold Builtin.SmallTypes.ownedTupleIsFree
  refine wpAny_bind (wpAny_bind (wpAny_field hz rfl (x := .none) rfl (wpAny_pure ?_)))
  simp only [if_true]
  refine wpAny_bind (wpAny_rule (wpAny_bind (wpAny_field hz rfl (x := .ref TO) rfl (wpAny_bind (wpAny_setField_rec hz (by simp) fun ha za sa => ?_)))))
  have za : IsZip ha z TI TO .ellipsis := za
  simp only [List.zipIdx_cons, List.zipIdx_nil, List.forIn_cons, List.forIn_nil]
  refine wpAny_bind (wpAny_bind (wpAny_bind (wpAny_onRaise ?_)))
  show wpAny _ _ (Builtin.SmallTypes.nextOf (.ref i1) >>= _) _ _ _
  refine wpAny_bind (stop_tup hh (h1.extBut sa.extBut D.i1z) (hl1.extBut sa.extBut D.l1z) hx fun hb e sb he => ?_)
  obtain ⟨oe, hoe, hce⟩ := he
  have zb : IsZip hb z TI TO .ellipsis := sb _ _ D.i1z.symm za
  have hez : e ≠ z := fun q => by subst q; rw [zb] at hoe; cases hoe; simp at hce
  refine wpAny_setField_rec zb (by simp) fun hc _ sc => ?_
  refine wpAny_bind (wpAny_isInstance (T := "StopIteration") (b := true) ⟨oe, sc.extBut _ _ hez hoe, hce⟩ isSubtype_stop ?_)
  exact wpAny_pure (k _ fun c o c1 _ c3 _ q => sc.extBut _ _ c1 (sb _ _ c3 (sa.extBut _ _ c1 q)))
theorem zip_turns (hh : A.handled = none) {elts : List Expr} {kx : Nat} {pos : Pos} (D : ZipApart z TI TO i1 i2 t1 t2) (hl : ys.size = xs.size) :
    KTurns prog w A (.Tuple elts kx pos) z [z, TI, TO, i1, i2, t1, t2] [z, TO, i1, i2] xs.size (fun i v h => ∃ T x y, v = .ref T ∧ xs[i]? = some x ∧ ys[i]? = some y ∧ h.IsTuple T #[x, y])
      (fun i v h => ∃ T x y, v = .ref T ∧ xs[i]? = some x ∧ ys[i]? = some y ∧ IsPair h T x y ∧ ZS z TI TO i1 i2 t1 t2 xs ys (i + 1) (rawInt T) h ∧ T ≠ z) (fun i h => ZS z TI TO i1 i2 t1 t2 xs ys i .none h) where
  sub := fun c hc => by simp at hc ⊢; rcases hc with rfl | rfl | rfl | rfl <;> simp
  frame := fun i h h' S k => by
    obtain ⟨hz, hTI, ⟨a, b, hTO⟩, h1, h2, hl1, hl2⟩ := S
    refine ⟨k z (by simp) _ hz, k TI (by simp) _ hTI, ⟨a, b, k TO (by simp) _ hTO⟩, tupIter_at h1 fun o e => k i1 (by simp) o e, tupIter_at h2 fun o e => k i2 (by simp) o e, ?_, ?_⟩
    · obtain ⟨o, ho, r⟩ := hl1; exact ⟨o, k t1 (by simp) o ho, r⟩
    · obtain ⟨o, ho, r⟩ := hl2; exact ⟨o, k t2 (by simp) o ho, r⟩
  item := fun i s Q E hi S hQ => by
    have hy : i < ys.size := hl ▸ hi
    have nz : s.heap.objs.size ≠ z := fun e => Nat.lt_irrefl _ (e ▸ Heap.lt_size S.z)
    exact zip_item D S (Array.getElem?_eq_getElem hi) (Array.getElem?_eq_getElem hy) fun h' S' P' O' => hQ _ h' s.toks ⟨_, _, _, rfl, Array.getElem?_eq_getElem hi, Array.getElem?_eq_getElem hy, P', S', nz⟩
      fun c o hc e => O' c o (fun q => hc (by simp [q])) (fun q => hc (by simp [q])) (fun q => hc (by simp [q])) (fun q => hc (by simp [q])) e
  go := fun i v s Q E hm hQ => by
    obtain ⟨T, x, y, rfl, hx, hy, P, ⟨hz, hTI, ⟨a, b, hTO⟩, h1, h2, hl1, hl2⟩, nz⟩ := hm
    refine wpAny_letOwnedTupleGo_zip hz fun h' hz' hs' => hQ h' ⟨T, x, y, rfl, hx, hy, ⟨_, hs'.extBut _ _ nz P, rfl, _, rfl⟩⟩ ⟨hz', hs'.extBut _ _ D.TIz hTI, ⟨a, b, hs'.extBut _ _ D.TOz hTO⟩, h1.extBut hs'.extBut D.i1z, h2.extBut hs'.extBut D.i2z, hl1.extBut hs'.extBut D.l1z, hl2.extBut hs'.extBut D.l2z⟩
      fun c o hc e => hs'.extBut _ _ (fun q => hc (by simp [q])) e
  done := fun s Q E S hQ => zip_stop hh D S (Array.getElem?_eq_none (Nat.le_refl _)) fun h' O' => hQ h' s.toks fun c o hc e => O' c o (fun q => hc (by simp [q])) (fun q => hc (by simp [q])) (fun q => hc (by simp [q])) (fun q => hc (by simp [q])) e
noncomputable abbrev zA (h : Heap) (t1 : Addr) : Heap := h.push { cls := .type "tuple_iterator", data := .fields #[.ref t1, .int 0 0] }
noncomputable abbrev zB (h : Heap) (t1 t2 : Addr) : Heap := (zA h t1).push { cls := .type "tuple_iterator", data := .fields #[.ref t2, .int 0 0] }
noncomputable abbrev zC (h : Heap) (t1 t2 : Addr) : Heap := (zB h t1 t2).push { cls := .type "tuple", data := .seq #[.ref h.objs.size, .ref (zA h t1).objs.size] }
noncomputable abbrev zD (h : Heap) (t1 t2 : Addr) : Heap := (zC h t1 t2).push { cls := .type "tuple", data := .seq #[.none, .none] }
noncomputable abbrev zE (h : Heap) (t1 t2 : Addr) : Heap := (zD h t1 t2).push { cls := .type "zip", data := .fields #[.none, .bool false, .bool false, .ref (zB h t1 t2).objs.size, .ref (zC h t1 t2).objs.size] }
theorem zip_made (t1 t2 : Addr) (xs ys : Array Value) : Meets (Builtin.«zip.__new__» ⟨[.type "zip", .ref t1, .ref t2], []⟩) (fun _ R s => s.heap.IsTuple t1 xs ∧ s.heap.IsTuple t2 ys ∧ R (.ok (.ret (.ref (zD s.heap t1 t2).objs.size))) { s with heap := zE s.heap t1 t2 }) :=
  .of_wp fun prog w A R s h => by
    obtain ⟨hp, g, d, tk, os⟩ := s
    obtain ⟨hl1, hl2, h⟩ := h
    have hsub := sub_zip
    have hL1 : Heap.IsTuple (Shared.heap ⟨hp, g, d, tk, os⟩) t1 xs := hl1
    have hL2 : Heap.IsTuple (Shared.heap ⟨hp.push { cls := .type "tuple_iterator", data := .fields #[.ref t1, .int 0 0] }, g, d, tk, os⟩) t2 ys := Heap.IsTuple.push hl2 _
    wp_walk using wpAny_pyIter_tuple hL1, wpAny_pyIter_tuple hL2
    exact ⟨_, rfl, h⟩
theorem call_zipT {Q : Value → Shared → Prop} (hl1 : s.heap.IsTuple t1 xs) (hl2 : s.heap.IsTuple t2 ys)
    (k : ∀ h', ZS (s.heap.objs.size + 4) (s.heap.objs.size + 2) (s.heap.objs.size + 3) s.heap.objs.size (s.heap.objs.size + 1) t1 t2 xs ys 0 .none h' → (∀ c o, s.heap.get? c = some o → h'.get? c = some o) → Q (.ref (s.heap.objs.size + 4)) { s with heap := h' }) :
    wpAny (model prog w) A (call (.type "zip") [.ref t1, .ref t2]) Q E s := by
  refine callType_new PySem.F.called_zip (by decide) (PySem.F.typeCall_zip_2 _ _) (PySem.F.newCall_zip_2 _ _) (fun obj => PySem.F.args_object_init_3 obj _ _) PySem.F.entry_zip_new (zip_made t1 t2 xs ys) ⟨hl1, hl2, ?_⟩
  have e1 : (zA s.heap t1).objs.size = s.heap.objs.size + 1 := Heap.size_push ..
  have e2 : (zB s.heap t1 t2).objs.size = s.heap.objs.size + 2 := by rw [Heap.size_push, e1]
  have e3 : (zC s.heap t1 t2).objs.size = s.heap.objs.size + 3 := by rw [Heap.size_push, e2]
  have e4 : (zD s.heap t1 t2).objs.size = s.heap.objs.size + 4 := by rw [Heap.size_push, e3]
  have up1 : ∀ {c o}, (zA s.heap t1).get? c = some o → (zE s.heap t1 t2).get? c = some o := fun q => Heap.get?_push_of_some _ (Heap.get?_push_of_some _ (Heap.get?_push_of_some _ (Heap.get?_push_of_some _ q)))
  have g5 : (zE s.heap t1 t2).get? (zD s.heap t1 t2).objs.size = some _ := Heap.get?_push_size _ rfl
  have g4 : (zE s.heap t1 t2).get? (zC s.heap t1 t2).objs.size = some _ := Heap.get?_push_of_some _ (Heap.get?_push_size _ rfl)
  have g3 : (zE s.heap t1 t2).get? (zB s.heap t1 t2).objs.size = some _ := Heap.get?_push_of_some _ (Heap.get?_push_of_some _ (Heap.get?_push_size _ rfl))
  have g2 : (zE s.heap t1 t2).get? (zA s.heap t1).objs.size = some _ := Heap.get?_push_of_some _ (Heap.get?_push_of_some _ (Heap.get?_push_of_some _ (Heap.get?_push_size _ rfl)))
  have g1 : (zE s.heap t1 t2).get? s.heap.objs.size = some _ := up1 (Heap.get?_push_size _ rfl)
  have keep : ∀ c o, s.heap.get? c = some o → (zE s.heap t1 t2).get? c = some o := fun c o q => up1 (Heap.get?_push_of_some _ q)
  show _ ∧ _
  rw [e2, e3, e4] at g5
  rw [e1, e2] at g3
  rw [e3] at g4
  rw [e1] at g2
  rw [e4]
  refine ⟨⟨_, g5, rfl⟩, k _ ⟨g5, g3, ⟨_, _, g4⟩, ⟨_, g1, rfl, rfl⟩, ⟨_, g2, rfl, rfl⟩, ?_, ?_⟩ keep⟩
  · obtain ⟨o, ho, r⟩ := hl1; exact ⟨o, keep _ _ ho, r⟩
  · obtain ⟨o, ho, r⟩ := hl2; exact ⟨o, keep _ _ ho, r⟩
end

end
section
theorem flushLFz : True ∧ True := by (w_top off); (first | (walk1; done) | exact ⟨True.intro, True.intro⟩)
/-! a for over zip of two tuples: the tuples of the ledger stand still, a state changes -/
theorem zip_apart (I l1 l2 : Nat) (h1 : l1 < I) (h2 : l2 < I) : ZipApart (I + 4) (I + 2) (I + 3) I (I + 1) l1 l2 := by
  constructor <;> (refine neN ?_; omega)
section
variable {prog : Program} {w : World} {A : Around} {E : Value → Shared → Prop} {s : Shared} {h₀ : Heap} {m : Str → Option Value} {env : Env} {elts : List Expr} {kx : Nat} {tpos : Pos} {body : List Stmt} {Q : Flow → Shared → Prop}
noncomputable abbrev own5 (I : Addr) (q1 q2 q3 q4 q5 : Obj) : Led := [(I + 4, q1), (I + 2, q2), (I + 3, q3), (I, q4), (I + 1, q5)]
noncomputable def ZDone {γ : Type} (h₀ : Heap) (L : Addr) (s : Shared) (its : Led) (fz : Led) (R : γ → Led) (Inv : γ → (Str → Option Value) → Prop) (Q : Flow → Shared → Prop) (f : Flow) (s₃ : Shared) : Prop :=
  match f with
  | .next | .cont => ∃ h' tk u g, s₃ = { s with heap := h', toks := tk } ∧ Fr h₀ L h' u ∧ News h₀ L h' (its ++ (fz ++ R g)) ∧ Inv g u
  | .brk => Q .next s₃
  | .ret v => Q (.ret v) s₃
theorem for_zip {γ : Type} {R : γ → Led} {c₀ : γ} {t1 t2 : Addr} {vs ws : List Value} {led fz cs₀ : Led} {y : Value} (x : Str) (Inv : Nat → γ → Prop)
    (hh : A.handled = none) (F : Fr h₀ env.locals s.heap m) (N : News h₀ env.locals s.heap led) (hx : m x = some y) (Pt : Part led fz cs₀ (R c₀)) (hadr : ∀ g, (R g).map (·.1) = (R c₀).map (·.1)) (S1 : ∃ k, (t1, tupO vs k) ∈ fz) (S2 : ∃ k, (t2, tupO ws k) ∈ fz) (hl : ws.length = vs.length) (h0 : Inv 0 c₀)
    (turn : ∀ i v v' g u h₁ tk₁ T I q1 q2 q3 q4 q5, i < vs.length → vs[i]? = some v → ws[i]? = some v' → Fr h₀ env.locals h₁ u → News h₀ env.locals h₁ (own5 I q1 q2 q3 q4 q5 ++ (fz ++ R g)) → IsTup h₁ T #[v, v'] → Inv i g → Has u x y → (∀ p ∈ R g, p.1 < I) →
      wpAny (model prog w) A (assign (.Tuple elts kx tpos) env (.ref T)) (fun _ s₂ => wpAny (model prog w) A (execs body env) (ZDone h₀ env.locals { s with heap := h₁, toks := tk₁ } (own5 I q1 q2 q3 q4 q5) fz R (fun g u => Inv (i + 1) g ∧ Has u x y) Q) E s₂) E { s with heap := h₁, toks := tk₁ })
    (fin : ∀ g u h' tk, Fr h₀ env.locals h' u → News h₀ env.locals h' (fz ++ R g) → Inv vs.length g → Has u x y → Q .next { s with heap := h', toks := tk }) :
    wpAny (model prog w) A (call (.type "zip") [.ref t1, .ref t2]) (fun xv s₁ => wpAny (model prog w) A (pyIter xv) (fun it s₂ => TurnsAt prog w A h₀ env (.Tuple elts kx tpos) body Q E it s₂) E s₁) E s := by
  obtain ⟨k1, m1⟩ := S1
  obtain ⟨k2, m2⟩ := S2
  have N' : News h₀ env.locals s.heap (fz ++ R c₀) := Pt.newsT N
  have a1 := N' _ (List.mem_append.mpr (.inl m1))
  have a2 := N' _ (List.mem_append.mpr (.inl m2))
  have l1 : s.heap.IsTuple t1 vs.toArray := ⟨_, a1.1, rfl, k1, rfl⟩
  have l2 : s.heap.IsTuple t2 ws.toArray := ⟨_, a2.1, rfl, k2, rfl⟩
  have b1 : t1 < s.heap.objs.size := Heap.lt_size a1.1
  have b2 : t2 < s.heap.objs.size := Heap.lt_size a2.1
  have bL : env.locals < s.heap.objs.size := F.ns.lt
  have D := zip_apart s.heap.objs.size t1 t2 b1 b2
  have hI : ∀ p ∈ fz ++ R c₀, p.1 < s.heap.objs.size := fun p hp => Heap.lt_size (N' p hp).1
  generalize hIe : s.heap.objs.size = I at D hI b1 b2 bL
  have rI : ∀ g, ∀ p ∈ R g, p.1 < I := fun g p hp => by
    have h1 : p.1 ∈ (R c₀).map (·.1) := hadr g ▸ List.mem_map.mpr ⟨p, hp, rfl⟩
    obtain ⟨q, hq, e⟩ := List.mem_map.mp h1
    rw [← e]; exact hI q (List.mem_append.mpr (.inr hq))
  have fI : ∀ p ∈ fz, p.1 < I := fun p hp => hI p (List.mem_append.mpr (.inl hp))
  have off5 : ∀ a : Nat, a < I → a ≠ I + 4 ∧ a ≠ I + 2 ∧ a ≠ I + 3 ∧ a ≠ I ∧ a ≠ I + 1 := fun a h => by omega
  have all : ∀ n i, i + n = vs.length → ∀ g u, Inv i g → Has u x y →
      ItemsRest prog w A E h₀ env (.Tuple elts kx tpos) body Q s [(I + 4, "zip"), (I + 2, "tuple"), (I + 3, "tuple"), (I, "tuple_iterator"), (I + 1, "tuple_iterator")] [(t1, tupO vs k1), (t2, tupO ws k2)] (zipItems (vs.drop i) (ws.drop i)) u (fz ++ R g) := by
    intro n
    induction n with
    | zero =>
      intro i hi g u I1 H1
      have e : i = vs.length := by omega
      subst e
      rw [List.drop_length]
      exact ItemsRest.zero fun h tk F' N' => fin g u h tk F' N' I1 H1
    | succ n ih =>
      intro i hi g u I1 H1
      have hlt : i < vs.length := by omega
      have hlt2 : i < ws.length := by omega
      rw [List.drop_eq_getElem_cons hlt, List.drop_eq_getElem_cons hlt2]
      refine ItemsRest.pair fun T t h tk hT F' => AllObj.cons fun q1 _ => AllObj.cons fun q2 _ => AllObj.cons fun q3 _ => AllObj.cons fun q4 _ => AllObj.cons fun q5 _ => AllObj.nil fun N₁ => ?_
      refine wpAny_mono (turn i vs[i] ws[i] g u h tk T I q1 q2 q3 q4 q5 hlt (List.getElem?_eq_getElem hlt) (List.getElem?_eq_getElem hlt2) F' N₁ hT I1 H1 (rI g)) (fun _ s₂ h₂ => wpAny_mono h₂ (fun f s₃ h₃ => ?_) fun _ _ e => e) fun _ _ e => e
      have fin2 : (∃ h' tk' u g, s₃ = { { s with heap := h, toks := tk } with heap := h', toks := tk' } ∧ Fr h₀ env.locals h' u ∧ News h₀ env.locals h' (own5 I q1 q2 q3 q4 q5 ++ (fz ++ R g)) ∧ Inv (i + 1) g ∧ Has u x y) →
          UnrEndW h₀ env.locals { s with heap := h, toks := tk } (own5 I q1 q2 q3 q4 q5) (fun m' n' => SubL [(t1, tupO vs k1), (t2, tupO ws k2)] n' ∧ ItemsRest prog w A E h₀ env (.Tuple elts kx tpos) body Q s [(I + 4, "zip"), (I + 2, "tuple"), (I + 3, "tuple"), (I, "tuple_iterator"), (I + 1, "tuple_iterator")] [(t1, tupO vs k1), (t2, tupO ws k2)] (zipItems (vs.drop (i + 1)) (ws.drop (i + 1))) m' n') s₃ := by
        rintro ⟨h', tk', u', g', rfl, F₃, N₃, I₃, H₃⟩
        refine ⟨h', tk', u', fz ++ R g', rfl, F₃, N₃, fun p hp q hq e => ?_, ⟨List.mem_append.mpr (.inl m1), List.mem_append.mpr (.inl m2), trivial⟩, ih (i + 1) (by omega) g' u' I₃ H₃⟩
        have hp' : p.1 < I := by
          rcases List.mem_append.mp hp with hp | hp
          · exact fI p hp
          · exact rI g' p hp
        obtain ⟨o1, o2, o3, o4, o5⟩ := off5 p.1 hp'
        simp only [own5, List.mem_cons, List.not_mem_nil, or_false] at hq
        rcases hq with rfl | rfl | rfl | rfl | rfl
        · exact o1 e
        · exact o2 e
        · exact o3 e
        · exact o4 e
        · exact o5 e
      cases f with
      | ret v => exact h₃
      | brk => exact h₃
      | next => exact fin2 h₃
      | cont => exact fin2 h₃
  refine call_zipT l1 l2 fun h' S hk => ?_
  refine wpAny_pyIter_zip S.z ?_
  rw [hIe] at S ⊢
  have hIs : I = s.heap.objs.size := hIe.symm
  have N2 : News h₀ env.locals h' (fz ++ R c₀) := N'.grown hk
  have rest₀ := all vs.length 0 (Nat.zero_add _) c₀ m h0 ⟨hx⟩
  rw [List.drop_zero, List.drop_zero] at rest₀
  have new : ∀ b, I ≤ b → h₀.get? b = none := fun b hb => ktu_new F (hIs ▸ hb)
  refine ktu_core (tk0 := s.toks) (keep := [(t1, tupO vs k1), (t2, tupO ws k2)]) (zip_turns hh D (by simpa using hl)) (by rw [zipItems_length, hl, Nat.min_self, List.size_toArray]) ?_ ?_ ?_ ?_ ?_ ?_ ?_ S (F.keeps hk) N2 ⟨List.mem_append.mpr (.inl m1), List.mem_append.mpr (.inl m2), trivial⟩ rest₀
  · rintro i v h ⟨T, a, b, rfl, ha, hb, hT⟩
    exact ⟨_, zipItems_get vs ws i (x := a) (y := b) (by simpa using ha) (by simpa using hb), T, 0, rfl, hT⟩
  · intro i h S
    obtain ⟨o1, e1, c1, _⟩ := S.j1
    obtain ⟨o2, e2, c2, _⟩ := S.j2
    obtain ⟨ta, tb, eT⟩ := S.to
    have z1 : ∃ o : Obj, h.get? (I + 4) = some o ∧ o.cls = .type "zip" := ⟨_, S.z, rfl⟩
    have z2 : ∃ o : Obj, h.get? (I + 2) = some o ∧ o.cls = .type "tuple" := ⟨_, S.ti, rfl⟩
    have z3 : ∃ o : Obj, h.get? (I + 3) = some o ∧ o.cls = .type "tuple" := ⟨_, eT, rfl⟩
    obtain ⟨p1, g1, r1⟩ := z1
    obtain ⟨p2, g2, r2⟩ := z2
    obtain ⟨p3, g3, r3⟩ := z3
    refine ⟨own5 I p1 p2 p3 o1 o2, ⟨⟨rfl, r1⟩, ⟨rfl, r2⟩, ⟨rfl, r3⟩, ⟨rfl, c1⟩, ⟨rfl, c2⟩, trivial⟩, fun p hp => ?_⟩
    simp only [own5, List.mem_cons, List.not_mem_nil, or_false] at hp
    rcases hp with rfl | rfl | rfl | rfl | rfl <;> assumption
  · intro b hb
    simp only [List.map_cons, List.map_nil, List.mem_cons, List.not_mem_nil, or_false] at hb
    rcases hb with rfl | rfl | rfl | rfl | rfl
    · exact ⟨by simp, new _ (Nat.le_add_right _ _)⟩
    · exact ⟨by simp, new _ (Nat.le_add_right _ _)⟩
    · exact ⟨by simp, new _ (Nat.le_add_right _ _)⟩
    · exact ⟨by simp, new _ (Nat.le_refl _)⟩
    · exact ⟨by simp, new _ (Nat.le_add_right _ _)⟩
  · intro b hb
    simp only [List.mem_cons, List.not_mem_nil, or_false] at hb
    rcases hb with rfl | rfl | rfl | rfl <;> simp
  · intro b hb
    simp only [List.mem_cons, List.not_mem_nil, or_false] at hb
    rcases hb with rfl | rfl | rfl | rfl | rfl | rfl | rfl
    · exact .inl (by simp)
    · exact .inl (by simp)
    · exact .inl (by simp)
    · exact .inl (by simp)
    · exact .inl (by simp)
    · exact .inr ⟨_, List.mem_cons_self⟩
    · exact .inr ⟨_, List.mem_cons_of_mem _ List.mem_cons_self⟩
  · intro hb
    simp only [List.mem_cons, List.not_mem_nil, or_false] at hb
    have o := off5 env.locals bL
    rcases hb with e | e | e | e | e | e | e
    · exact o.1 e
    · exact o.2.1 e
    · exact o.2.2.1 e
    · exact o.2.2.2.1 e
    · exact o.2.2.2.2 e
    · exact a1.2.1 e.symm
    · exact a2.2.1 e.symm
  · intro p hp hb
    have hp' : p.1 < I := hI p hp
    obtain ⟨o1, o2, o3, o4, o5⟩ := off5 p.1 hp'
    simp only [List.mem_cons, List.not_mem_nil, or_false] at hb
    rcases hb with e | e | e | e
    · exact o1 e
    · exact o3 e
    · exact o4 e
    · exact o5 e
end

end
section
theorem flushLMt : True ∧ True := by (w_top off); (first | (walk1; done) | exact ⟨True.intro, True.intro⟩)
/-! matched: what it computes, and its dict -/
noncomputable def kindN : Ty → Nat
  | .param _ => 0 | .int _ => 1 | .bool => 2 | .never => 3 | .unit => 4 | .var => 5 | .intvar => 6 | .ref _ _ _ => 7 | .box _ => 8 | .array _ => 9 | .pair _ _ => 4 | .adt _ _ _ _ => 10
theorem kindN_ne {P T : Ty} (h : kindS P ≠ kindS T) : kindN P ≠ kindN T := by
  have e : ∀ U, kindS U = [S "param", S "int", S "bool", S "never", S "tuple", S "var", S "intvar", S "ref", S "box", S "array", S "adt"].getD (kindN U) (S "") := fun U => by cases U <;> rfl
  intro k
  exact h (by rw [e P, e T, k])
noncomputable def seqM : List (Ty → Tab → Bool × Tab) → List Ty → Tab → Bool × Tab
  | [], _, τ => (true, τ)
  | f :: fs, Ts, τ => if (f (Ts.headD .bool) τ).1 = true then seqM fs Ts.tail (f (Ts.headD .bool) τ).2 else f (Ts.headD .bool) τ
noncomputable def nodeM (b : Bool) (fs : List (Ty → Tab → Bool × Tab)) (Ts : List Ty) (τ : Tab) : Bool × Tab := if b = true then seqM fs Ts τ else (false, τ)
noncomputable def matchF : Ty → Ty → Tab → Bool × Tab
  | .param x, T, τ => (lk τ x).elim (true, τ ++ [(x, T)]) fun U => (decide (U = T), τ)
  | .int a, T, τ => (decide (T = .int a), τ)
  | .bool, T, τ => (decide (T = .bool), τ)
  | .never, T, τ => (decide (T = .never), τ)
  | .unit, T, τ => (decide (T = .unit), τ)
  | .var, _, τ => (false, τ)
  | .intvar, _, τ => (false, τ)
  | .ref _ _ t, T, τ => nodeM (kindN T == 7) [matchF t] (kids T) τ
  | .box t, T, τ => nodeM (kindN T == 8) [matchF t] (kids T) τ
  | .array t, T, τ => nodeM (kindN T == 9) [matchF t] (kids T) τ
  | .pair t u, T, τ => nodeM (kindN T == 4) [matchF t, matchF u] (kids T) τ
  | .adt _ _ t u, T, τ => nodeM (kindN T == 10) [matchF t, matchF u] (kids T) τ
/-- pairs of which «matched» says no more than its first test, or runs on -/
inductive Fair : Ty → Ty → Prop
  | param {x T} : Fair (.param x) T
  | diff {P T} : kindS P ≠ kindS T → Fair P T
  | int {a} : Fair (.int a) (.int a)
  | bool : Fair .bool .bool
  | never : Fair .never .never
  | unit : Fair .unit .unit
  | ref {r r' m t t'} : Fair t t' → Fair (.ref r m t) (.ref r' m t')
  | box {t t'} : Fair t t' → Fair (.box t) (.box t')
  | array {t t'} : Fair t t' → Fair (.array t) (.array t')
  | pair {t t' u u'} : Fair t t' → Fair u u' → Fair (.pair t u) (.pair t' u')
  | adt {r q r' q' t t' u u'} : Fair t t' → Fair u u' → Fair (.adt r q t u) (.adt r' q' t' u')
noncomputable abbrev matchL (Ps Ts : List Ty) (τ : Tab) : Bool × Tab := seqM (Ps.map matchF) Ts τ
structure Same (P T : Ty) : Prop where
  kind : kindS P = kindS T
  nop : isParam P = false
  fair : Fair P T
theorem match_kids {P T : Ty} (h : Same P T) (τ : Tab) : matchF P T τ = matchL (kids P) (kids T) τ := by
  obtain ⟨hk, hp, hf⟩ := h
  cases hf with
  | param => cases hp
  | diff h => exact absurd hk h
  | int => exact congrArg (·, τ) (decide_eq_true rfl)
  | _ => rfl
theorem same_kids {P T : Ty} (h : Same P T) : (kids P).length = (kids T).length ∧ ∀ (i : Nat) (P' T' : Ty), (kids P)[i]? = some P' → (kids T)[i]? = some T' → Fair P' T' := by
  obtain ⟨hk, hp, hf⟩ := h
  have one : ∀ {t t' : Ty}, Fair t t' → ∀ (i : Nat) (P' T' : Ty), [t][i]? = some P' → [t'][i]? = some T' → Fair P' T' := fun f i P' T' h1 h2 => by
    match i, h1, h2 with
    | 0, rfl, rfl => exact f
  have two : ∀ {t t' u u' : Ty}, Fair t t' → Fair u u' → ∀ (i : Nat) (P' T' : Ty), [t, u][i]? = some P' → [t', u'][i]? = some T' → Fair P' T' := fun f g i P' T' h1 h2 => by
    match i, h1, h2 with
    | 0, rfl, rfl => exact f
    | 1, rfl, rfl => exact g
  cases hf with
  | param => cases hp
  | diff h => exact absurd hk h
  | ref f => exact ⟨rfl, one f⟩
  | box f => exact ⟨rfl, one f⟩
  | array f => exact ⟨rfl, one f⟩
  | pair f g => exact ⟨rfl, two f g⟩
  | adt f g => exact ⟨rfl, two f g⟩
  | _ => exact ⟨rfl, fun i P' T' h1 => nomatch h1⟩
noncomputable abbrev dR (d : Addr) (tl : Led) (o : Obj) : Led := (d, o) :: tl
structure DictAt (d : Addr) (tl : Led) : Prop where
  off : Off tl d
  nm : (d == sysModules) = false
structure DictIs (w : World) (fz0 : Led) (o : Obj) (τ : Tab) : Prop where
  is : ∃ kvs, o.IsDictOf (PySem.strKind PySem.Challenge.rw_ot0007_01.row.prog w) kvs ∧ KV fz0 kvs τ
  nd : (τ.map (·.1)).Nodup
  low : ∀ p ∈ τ, height p.2 ≤ 20
theorem lk_mem {τ : Tab} {x : Bool} {U : Ty} (h : lk τ x = some U) : (x, U) ∈ τ := by
  simp only [lk, Option.map_eq_some_iff] at h
  obtain ⟨p, hp, e⟩ := h
  have h1 := List.find?_some hp
  have h2 := List.mem_of_find?_eq_some hp
  simp only [decide_eq_true_eq] at h1
  obtain ⟨a, b⟩ := p
  simp only at h1 e
  subst h1 e
  exact h2
theorem KV.snoc {fz : Led} {kvs : List (Str × Value)} {τ : Tab} {x : Bool} {v : Value} {T : Ty} (h : KV fz kvs τ) (k : TyIn fz v T) : KV fz (kvs ++ [(pname x, v)]) (τ ++ [(x, T)]) := by
  induction h with
  | nil => exact .cons k .nil
  | cons a _ ih => exact .cons a ih
theorem KV.len {fz : Led} {kvs : List (Str × Value)} {τ : Tab} (h : KV fz kvs τ) : kvs.length = τ.length := by
  induction h with
  | nil => rfl
  | cons a _ ih => simp [ih]
theorem bools_two : ∀ {l : List Bool}, l.Nodup → l.length ≤ 2
  | [], _ => Nat.zero_le _
  | [_], _ => by simp
  | [_, _], _ => by simp
  | a :: b :: c :: l, h => by cases a <;> cases b <;> cases c <;> simp at h
theorem lk_none {τ : Tab} {x : Bool} (h : lk τ x = none) : x ∉ τ.map (·.1) := by
  intro hx
  obtain ⟨p, hp, e⟩ := List.mem_map.mp hx
  simp only [lk, Option.map_eq_none_iff, List.find?_eq_none] at h
  exact h p hp (by simp [e])
theorem KV.any {fz : Led} {kvs : List (Str × Value)} {τ : Tab} {x : Bool} (h : KV fz kvs τ) (k : lk τ x = none) : kvs.any (fun kv => kv.1 = pname x) = false := by
  have hx := lk_none k
  clear k
  induction h with
  | nil => rfl
  | cons a _ ih =>
    simp only [List.map_cons, List.mem_cons, not_or] at hx
    rw [List.any_cons, ih hx.2, Bool.or_false]
    exact decide_eq_false fun e => hx.1 (pname_inj.mp e).symm
theorem DictIs.add {w : World} {fz0 : Led} {o' : Obj} {kvs : List (Str × Value)} {τ : Tab} {x : Bool} {v : Value} {T : Ty} (nd : (τ.map (·.1)).Nodup) (hl : ∀ p ∈ τ, height p.2 ≤ 20) (hh : height T ≤ 20) (h : KV fz0 kvs τ) (hn : lk τ x = none) (hT : TyIn fz0 v T)
    (ho : o'.IsDictOf (PySem.strKind PySem.Challenge.rw_ot0007_01.row.prog w) (stored kvs (pname x) v)) : DictIs w fz0 o' (τ ++ [(x, T)]) := by
  have e : stored kvs (pname x) v = kvs ++ [(pname x, v)] := by simp only [stored, h.any hn, Bool.false_eq_true, if_false]
  rw [e] at ho
  refine ⟨⟨_, ho, h.snoc hT⟩, ?_, fun p hp => by
    rcases List.mem_append.mp hp with hp | hp
    · exact hl p hp
    · rw [List.mem_singleton.mp hp]; exact hh⟩
  rw [List.map_append, List.map_cons, List.map_nil, List.nodup_append]
  refine ⟨nd, by simp, fun a ha b hb e => ?_⟩
  have e2 : a = x := e.trans (List.mem_singleton.mp hb)
  exact lk_none hn (e2 ▸ ha)
section
variable {w : World} {A : Around} {E : Value → Shared → Prop} {s : Shared} {h₀ : Heap} {L : Addr} {m : Str → Option Value} {led fz cs tl : Led} {d : Addr} {o : Obj} {kvs : List (Str × Value)}
theorem dict_turn {h : Heap} : News h₀ L h (fz ++ dR d tl o) ↔ News h₀ L h ((d, o) :: (fz ++ tl)) := by
  constructor
  · intro N p hp
    refine N p ?_
    simp only [dR, List.mem_append, List.mem_cons] at hp ⊢
    rcases hp with h | h | h <;> simp [h]
  · intro N p hp
    refine N p ?_
    simp only [dR, List.mem_append, List.mem_cons] at hp ⊢
    rcases hp with h | h | h <;> simp [h]
theorem dict_set {Q : Unit → Shared → Prop} {x : Str} {t : Tok} {v : Value} (F : Fr h₀ L s.heap m) (N : News h₀ L s.heap led) (Pt : Part led fz [] (dR d tl o)) (hz : Tups fz) (D : DictAt d tl) (hd : o.IsDictOf (PySem.strKind PySem.Challenge.rw_ot0007_01.row.prog w) kvs) (sz : kvs.length ≤ sizeLine)
    (k : ∀ h' o', Fr h₀ L h' m → News h₀ L h' (fz ++ dR d tl o') → o'.IsDictOf (PySem.strKind PySem.Challenge.rw_ot0007_01.row.prog w) (stored kvs x v) → Q () { s with heap := h', toks := s.toks + 1 }) : wpAny (model PySem.Challenge.rw_ot0007_01.row.prog w) A (setItem (.ref d) (.str x t) v) Q E s := by
  have N1 := dict_turn.mp (Pt.newsT N)
  have nt : ∀ vs k, o ≠ tupO vs k := fun vs k e => by
    obtain ⟨es, ep, _, e2, _⟩ := hd
    rw [e] at e2
    exact nomatch e2
  exact kda_set F N1 (updF_part (cs := [(d, o)]) (g := fun o' => [(d, o')]) (.oth .tail) N1 hz nt (.head fun _ h => nomatch h) D.off) hd (strKind_is _ _ _ _) sz fun h' o' F' N' hd' => k h' o' F' (dict_turn.mpr N') hd'
end
theorem dict_five {d I : Addr} {q1 q2 q3 q4 q5 : Obj} {tl : Led} (D : DictAt d tl) (h : d < I) : DictAt d ([(I + 4, q1), (I + 2, q2), (I + 3, q3), (I, q4), (I + 1, q5)] ++ tl) where
  nm := D.nm
  off := ⟨fun p hp => by
    have h' : @LT.lt Nat _ d I := h
    rcases List.mem_append.mp hp with hp | hp
    · simp only [List.mem_cons, List.not_mem_nil, or_false] at hp
      rcases hp with rfl | rfl | rfl | rfl | rfl <;> (refine neN ?_; (try dsimp only); omega)
    · exact D.off.off p hp⟩
theorem match_step {Ps Ts : List Ty} {i : Nat} {P T : Ty} {τ τ' : Tab} {b : Bool} (e1 : Ps[i]? = some P) (e2 : Ts[i]? = some T) (h : matchF P T τ = (b, τ')) : matchL (Ps.drop i) (Ts.drop i) τ = if b = true then matchL (Ps.drop (i + 1)) (Ts.drop (i + 1)) τ' else (false, τ') := by
  obtain ⟨l1, g1⟩ := List.getElem?_eq_some_iff.mp e1
  obtain ⟨l2, g2⟩ := List.getElem?_eq_some_iff.mp e2
  rw [List.drop_eq_getElem_cons l1, List.drop_eq_getElem_cons l2, g1, g2]
  show (if (matchF P T τ).1 = true then seqM _ _ (matchF P T τ).2 else matchF P T τ) = _
  rw [h]
  cases b <;> rfl
theorem match_out {w : World} {fz0 : Led} {o : Obj} {q : Bool × Tab} {Ps Ts : List Ty} {τ τ' : Tab} {b : Bool} {r : Bool × Tab} (hm : q = matchL Ps Ts τ) (e1 : matchL Ps Ts τ = r) (e2 : r = (b, τ')) (h : DictIs w fz0 o τ') : Value.bool b = .bool q.1 ∧ DictIs w fz0 o q.2 := by
  subst e2
  rw [hm, e1]
  exact ⟨rfl, h⟩

end
section
theorem flushLMatch : True ∧ True := by (w_top off); (first | (walk1; done) | exact ⟨True.intro, True.intro⟩)
/-! matched, in the small logic -/
noncomputable def MatchSpec (w : World) (P T : Ty) (n : Nat) : Prop := ∀ {v u : Value} {fz0 fz tl : Led} {o : Obj} {d : Addr} {τ : Tab}, Sub fz0 fz → TyIn fz0 v P → TyIn fz0 u T → Tups fz → DictAt d tl → DictIs w fz0 o τ →
  TelS w (.ref 92) [v, u, .ref d] fz (dR d tl) o n (fun r fz' o' => r = .bool (matchF P T τ).1 ∧ DictIs w fz0 o' (matchF P T τ).2)
section
variable {w : World} {A : Around} {E : Value → Shared → Prop} {s : Shared} {h₀ : Heap} {L : Addr} {led : Led} {d : Addr} {o : Obj} {kvs : List (Str × Value)}
theorem in_tab {Q : Value → Shared → Prop} {x : Str} {t : Tok} {b : Bool} (N : News h₀ L s.heap led) (hm : (d, o) ∈ led) (hd : o.IsDictOf (PySem.strKind PySem.Challenge.rw_ot0007_01.row.prog w) kvs) (lo : (d == sysModules) = false) (hb : (valueAt kvs x).isSome = b) (h : Q (.bool b) { s with toks := s.toks + 1 }) :
    wpAny (model PySem.Challenge.rw_ot0007_01.row.prog w) A (compareOp .In (.str x t) (.ref d)) Q E s := kda_in N hm hd lo (strKind_is _ _ _ _) b hb h
theorem item_tab {Q : Value → Shared → Prop} {value slice : PySem.Expr} {x : Str} {t : Tok} {v : Value} (N : News h₀ L s.heap led) (hm : (d, o) ∈ led) (hd : o.IsDictOf (PySem.strKind PySem.Challenge.rw_ot0007_01.row.prog w) kvs) (hl : valueAt kvs x = some v) (h : Q v { s with toks := s.toks + 1 })
    (hs : subscripted slice false (.ref d) (.str x t) = operate [.ref d, .str x t] (getItem (.ref d) (.str x t)) := by with_unfolding_all rfl) (hg : ∀ r, letTemporaryGo value (.ref d) r = pure () := by intro _; with_unfolding_all rfl) :
    wpAny (model PySem.Challenge.rw_ot0007_01.row.prog w) A (subscriptTail value slice (.ref d) (.str x t)) Q E s := kda_item N hm hd (strKind_is _ _ _ _) hl h hs hg
theorem len_T {prog : Program} {a : Addr} {vs : List Value} {k n : Nat} {Q : Value → Shared → Prop} (N : News h₀ L s.heap led) (ha : (a, tupO vs k) ∈ led) (hn : vs.length = n) (hs : n ≤ 2) (h : Q (.int n (s.toks + 1)) { s with toks := s.toks + 1 + 1 }) : wpAny (model prog w) A (call (.builtin "len") [.ref a]) Q E s :=
  PyProof.Rows.len_tuple (N.isTup ha) (by simp; omega) (by simpa [hn] using h)
theorem ne_ty_same {prog : Program} {fz cs rest : Led} {v x : Value} {T : Ty} {Q : Value → Shared → Prop} (N : News h₀ L s.heap led) (Pt : Part led fz cs rest) (hT : TyIn fz v T) (hU : TyIn fz x T) (t : height T ≤ 20) (hu : A.units + 64 < cLine) (k : Q (.bool false) s) : wpAny (model prog w) A (compareOp .NotEq v x) Q E s :=
  ne_ty N Pt hT hU t t hu (by simpa using k)
theorem ne_bool_same {prog : Program} {a : Bool} {Q : Value → Shared → Prop} (h : Q (.bool false) s) : wpAny (model prog w) A (compareOp .NotEq (.bool a) (.bool a)) Q E s :=
  PyProof.Rows.ne_bool (by rw [bne_self_eq_false]; exact h)
theorem ne_same {prog : Program} {a : Int} {t u : Tok} {Q : Value → Shared → Prop} (h : Q (.bool false) s) : wpAny (model prog w) A (compareOp .NotEq (.int a t) (.int a u)) Q E s :=
  PyProof.Rows.ne_int (by rw [bne_self_eq_false]; exact h)
end
section
variable {w : World} {cs : Scope} {cl : List (Str × Addr)} {c : Cx w cs cl} {m : Str → Option Value} {own fz rest : Led} {pos p1 p2 p3 p4 p5 : Pos} {k k2 : Nat} {P : Value → Led → Led → Prop}
theorem JX.ifF {test : Expr} {body more : List Stmt} {R : Flow → (Str → Option Value) → Led → Led → Prop} (j : JT c m own fz rest test (fun b o f => b = false ∧ JX c m o f rest more R)) : JX c m own fz rest (.If test body [] pos :: more) R := fun s Q E hE a q =>
  wpAny_execs_cons (wpAny_If (j s _ E hE a fun b o f h tk a' S ⟨e, j'⟩ => by
    subst e
    rw [if_neg Bool.false_ne_true]
    exact wpAny_execs_nil (j' _ Q E hE a' fun fl m2 o2 f2 h2 tk2 a2 S2 p => q fl m2 o2 f2 h2 tk2 a2 (S2.step S) p)))
theorem JG.neTy {v x : Value} {T : Ty} (hT : TyIn fz v T) (hU : TyIn fz x T) (t : height T ≤ 20) (hu : c.un + 64 < cLine) (h : P (.bool false) own fz) : JG c m own fz rest (compareOp .NotEq v x) P := fun s _ _ hE a q =>
  ne_ty_same (N := fun p hp => a.N p (List.mem_append.mpr (.inr hp))) Part.tail hT hU t hu (q _ own fz s.heap s.toks a Sub.refl h)
theorem JG.neB {b : Bool} (h : P (.bool false) own fz) : JG c m own fz rest (compareOp .NotEq (.bool b) (.bool b)) P := fun s _ _ hE a q => ne_bool_same (q _ own fz s.heap s.toks a Sub.refl h)
theorem JG.neI {i : Int} {t u : Tok} (h : P (.bool false) own fz) : JG c m own fz rest (compareOp .NotEq (.int i t) (.int i u)) P := fun s _ _ hE a q => ne_same (q _ own fz s.heap s.toks a Sub.refl h)
theorem JG.inTwo {D : Addr} {x p q : Str} {t t1 t2 : Tok} {n : Nat} {b : Bool} (hm : (D, tupO [.str p t1, .str q t2] n) ∈ fz) (hp : PyData.strOk p = true) (hq : PyData.strOk q = true) (hx : PyData.strOk x = true) (hu : c.un + 64 < cLine) (hb : (p == x || q == x) = b) (h : P (.bool b) own fz) : JG c m own fz rest (compareOp .In (.str x t) (.ref D)) P := fun s _ _ hE a q' =>
  in_two a.N (List.mem_append.mpr (.inr (List.mem_append.mpr (.inl hm)))) hp hq hx hu hb (q' _ own fz s.heap s.toks a Sub.refl h)
end
section
variable {w : World} {cs : Scope} {cl : List (Str × Addr)} {c : Cx w cs cl} {m : Str → Option Value} {own fz rest : Led} {pos p1 p2 : Pos} {k : Nat} {B : Bool → Led → Led → Prop} {e e2 : Expr}
/-- «kind == 'x' and test», where the test is false at that kind -/
theorem JT.andKind {x y : Str} {u : Tok} (V : EV c m own fz rest e (fun _ => .str y u)) (h : (y == x) = true → JT c m own fz rest e2 (fun b o f => b = false ∧ o = own ∧ f = fz)) (hp : B false own fz) : JT c m own fz rest (.BoolOp .And [.Compare e [.Eq] [.Constant (.str x) k p1] p2, e2] pos) B :=
  JT.bool (JB.andCons (JT.eqV V ⟨fun hb => JB.andF ((h hb).use fun _ _ _ _ q => ⟨q.1, q.2.1 ▸ q.2.2 ▸ hp⟩), fun _ => hp⟩))
end
section
variable {w : World} {cs : Scope} {cl : List (Str × Addr)} {c : Cx w cs cl} {m : Str → Option Value} {own fz rest tl : Led} {pos p1 p2 p3 p4 p5 p6 p7 p8 : Pos} {kx : Nat} {P : Value → Led → Led → Prop} {B : Bool → Led → Led → Prop} {e e0 e1 e2 : Expr} {more body : List Stmt} {R : Flow → (Str → Option Value) → Led → Led → Prop} {d : Addr} {o : Obj} {kvs : List (Str × Value)}
theorem JH.itemTab {value slice : Expr} {x : Str} {t : Tok} {v : Value} (hm : (d, o) ∈ own ++ (fz ++ rest)) (hd : o.IsDictOf (sk w) kvs) (hl : valueAt kvs x = some v) (h : P v own fz)
    (hs : subscripted slice false (.ref d) (.str x t) = operate [.ref d, .str x t] (getItem (.ref d) (.str x t)) := by with_unfolding_all rfl) (hg : ∀ r, letTemporaryGo value (.ref d) r = pure () := by intro _; with_unfolding_all rfl) : JH c m own fz rest (subscriptTail value slice (.ref d) (.str x t)) P := fun s _ _ a q =>
  item_tab a.N hm hd hl (q v own fz s.heap _ a Sub.refl h) hs hg
theorem JT.E (j : JE c m own fz rest e (fun v o f => ∃ b, v = .bool b ∧ B b o f)) (he : ∀ env t, isTrue e env t = (do let v ← t; standAt e.pos; holding [v] (truthy v)) := by intros; rfl) : JT c m own fz rest e B := fun s Q E hE a q =>
  isTrue_plain (j s _ E hE a fun v o f h tk a' S ⟨b, e, p⟩ => by
    subst e
    exact wpAny_truthy_bool (q b o f h tk a' S p)) (he _ _)
theorem JT.not (j : JT c m own fz rest e (fun b o f => B (!b) o f)) : JT c m own fz rest (.UnaryOp .Not e pos) B := fun s Q E hE a q => wpAny_isTrue_Not (j s _ E hE a fun b o f h tk a' S p => q (!b) o f h tk a' S p)
theorem JG.eqTy {v x : Value} {T U : Ty} (hT : TyIn fz v T) (hU : TyIn fz x U) (t : height T ≤ 20) (u : height U ≤ 20) (hu : c.un + 64 < cLine) (h : P (.bool (decide (T = U))) own fz) : JG c m own fz rest (compareOp .Eq v x) P := fun s _ _ _ a q =>
  eq_ty a.N Part.ownL hT hU t u hu (q _ own fz s.heap s.toks a Sub.refl h)
theorem JG.inTab {x : Str} {t : Tok} {b : Bool} (hm : (d, o) ∈ own) (hd : o.IsDictOf (sk w) kvs) (lo : (d == sysModules) = false) (hb : (valueAt kvs x).isSome = b) (h : P (.bool b) own fz) : JG c m own fz rest (compareOp .In (.str x t) (.ref d)) P := fun s _ _ _ a q =>
  in_tab a.N (List.mem_append.mpr (.inl hm)) hd lo hb (q _ own fz s.heap _ a Sub.refl h)
/-- table[x] = y -/
theorem JX.setTab {x : Str} {t : Tok} {v : Value} (V2 : EV c m [(d, o)] fz tl e2 (fun _ => v)) (V0 : EV c m [(d, o)] fz tl e0 (fun _ => .ref d)) (V1 : EV c m [(d, o)] fz tl e1 (fun _ => .str x t)) (D : DictAt d tl) (hd : o.IsDictOf (sk w) kvs) (sz : kvs.length ≤ sizeLine) (h : ∀ o', o'.IsDictOf (sk w) (stored kvs x v) → JX c m [(d, o')] fz tl more R)
    (hs : ∀ env, swapsWith e2 (some (.Subscript e0 e1 p1)) pos.line env = pure false := by intro _; rfl) : JX c m [(d, o)] fz tl (.Assign [.Subscript e0 e1 p1] e2 pos :: more) R := fun s Q E hE a q =>
  wpAny_execs_cons (wpAny_Assign_Subscript (V2 s _ E hE a fun _ t2 => V0 _ _ E hE a fun _ t0 => V1 _ _ E hE a fun _ t1 => dict_set a.F ((dict_turn (fz := fz) (tl := tl)).mpr a.N) Part.tail a.Z D hd sz fun h' o' F' N' d' => h o' d' _ Q E hE ⟨F', (dict_turn (fz := fz) (tl := tl)).mp N', a.Z⟩ fun fl m2 o2 f2 h2 tk2 a2 S2 r => q fl m2 o2 f2 h2 tk2 a2 S2 r) (hs _))
/-- len of a tuple -/
theorem JE.lenT {x : Str} {b : Addr} {vs : List Value} {i n : Nat} (hv : m x = some (.ref b)) (hm : (b, tupO vs i) ∈ fz) (hn : vs.length = n) (hs : n ≤ 2) (hp : ∀ t, P (.int (n : Nat) t) own fz)
    (hk : cs.kind = .function := by rfl) (hx : (∀ cn L a ccd, (envX cn cs L a ccd cl).kindOf x = some .local) := by intros; rfl) (hd : (x == ("__debug__" : Str)) = false := by decide) (hx2 : (∀ cn L a ccd, (envX cn cs L a ccd cl).kindOf (Str.ofString "len") = some .globalImplicit) := by intros; rfl) :
    JE c m own fz rest (.Call (.Name (Str.ofString "len") p1) [.Name x p2] [] pos) P := by
  have kf9 : Mine.hd.heap_1 w.params = Mine.hd.heap_1 w.params ∧ PySem.Challenge.rw_ot0007_01 = PySem.Challenge.rw_ot0007_01 := by k_fill; exact ⟨rfl, rfl⟩
  clear kf9
  intro s Q E hE a q
  refine Call_ (nameX_B a.F c.X (topRead_of c.TP) (by k_is) (v := .builtin "len") (by boot_by_name) (by decide) ?_ hk (hx2 ..))
  refine PyProof.Rows.callWith_builtin1 ?_ rfl rfl
  exact args_cons (nameX_L a.F hv (args_nil (len_T a.N (List.mem_append.mpr (.inr (List.mem_append.mpr (.inl hm)))) hn hs (q _ own fz s.heap _ a Sub.refl (hp _)))) hk (hx ..) hd)
/-- for x, y in zip(a, b), beside a dict that changes -/
theorem JX.forZip {a b x1 x2 tb : Str} {t1 t2 : Addr} {vs ws : List Value} {y : Value} (Inv : Nat → Obj → Prop) (hv1 : m a = some (.ref t1)) (hv2 : m b = some (.ref t2)) (S1 : ∃ k, (t1, tupO vs k) ∈ fz) (S2 : ∃ k, (t2, tupO ws k) ∈ fz) (hl : ws.length = vs.length) (htb : m tb = some y) (h0 : Inv 0 o)
    (turn : ∀ i v v' o' u I q1 q2 q3 q4 q5, vs[i]? = some v → ws[i]? = some v' → Inv i o' → u tb = some y → @LT.lt Nat _ d I → JX c (upd (upd u x1 v) x2 v') (own5 I q1 q2 q3 q4 q5 ++ [(d, o')]) fz tl body (fun fl m2 o2 f2 => (fl = .next ∧ ∃ o'', (∀ p ∈ own5 I q1 q2 q3 q4 q5 ++ [(d, o'')], p ∈ o2) ∧ Inv (i + 1) o'' ∧ m2 tb = some y) ∨ ∃ v9, fl = .ret v9 ∧ R (.ret v9) m2 o2 f2))
    (fin : ∀ o' u, Inv vs.length o' → u tb = some y → JX c u [(d, o')] fz tl more R)
    (hk : cs.kind = .function := by rfl) (hx : (∀ cn L a ccd, (envX cn cs L a ccd cl).kindOf (Str.ofString "zip") = some .globalImplicit) := by intros; rfl) (ha : (∀ cn L a' ccd, (envX cn cs L a' ccd cl).kindOf a = some .local) := by intros; rfl) (hb : (∀ cn L a ccd, (envX cn cs L a ccd cl).kindOf b = some .local) := by intros; rfl) (h1 : (∀ cn L a ccd, (envX cn cs L a ccd cl).kindOf x1 = some .local) := by intros; rfl) (h2 : (∀ cn L a ccd, (envX cn cs L a ccd cl).kindOf x2 = some .local) := by intros; rfl)
    (hda : (a == ("__debug__" : Str)) = false := by decide) (hdb : (b == ("__debug__" : Str)) = false := by decide) : JX c m [(d, o)] fz tl (.For (.Tuple [.Name x1 p1, .Name x2 p2] kx p3) (.Call (.Name (Str.ofString "zip") p4) [.Name a p5, .Name b p6] [] p7) body [] p8 :: more) R := by
  have kf9 : Mine.hd.heap_1 w.params = Mine.hd.heap_1 w.params ∧ PySem.Challenge.rw_ot0007_01 = PySem.Challenge.rw_ot0007_01 := by k_fill; exact ⟨rfl, rfl⟩
  clear kf9
  intro s Q E hE at9 q
  refine wpAny_execs_cons (For_turns at9.F ?_ (fun _ => rfl) hE)
  refine Call_ (nameX_B at9.F c.X (topRead_of c.TP) (by k_is) (v := .type "zip") (by boot_by_name) (by decide) ?_ hk (hx ..))
  refine PyProof.Rows.callWith_type1 ?_ rfl rfl
  refine args_cons (nameX_L at9.F hv1 (args_cons (nameX_L at9.F hv2 (args_nil ?_) hk (hb ..) hdb) rfl) hk (ha ..) hda) rfl
  refine for_zip (R := dR d tl) (env := c.env) tb Inv rfl at9.F ((dict_turn (fz := fz) (tl := tl)).mpr at9.N) htb Part.tail (fun _ => rfl) S1 S2 hl h0 (fun i v v' g u h₁ tk₁ T I q1 q2 q3 q4 q5 hi hv hw F₁ N₁ hT9 I₁ Hf bI => ?_) (fun g u h' tk F₁ N₁ I₁ Hf => ?_)
  · refine unpackN_ F₁ N₁ hT9 rfl rfl rfl fun h3 F2 N2 => assignInOrder_cons (wpAny_assign_Name (storeX_L F2 N2 (fun h4 F3 N3 => assignInOrder_cons (wpAny_assign_Name (storeX_L F3 N3 (fun h5 F4 N4 => assignInOrder_nil ?_) hk (h2 ..)))) hk (h1 ..)))
    refine turn i v v' g u I q1 q2 q3 q4 q5 hv hw I₁ Hf.eq (bI _ (.head _)) _ _ E hE ⟨F4, fun p hp => N4 p ?_, at9.Z⟩ fun fl m2 o2 f2 h6 tk5 a5 S5 r => ?_
    · simp only [List.mem_append, List.mem_cons, List.not_mem_nil, or_false, dR] at hp ⊢
      rcases hp with (hp | hp) | hp | hp <;> simp [hp]
    · rcases r with ⟨e, o'', hin, i', ht⟩ | ⟨v9, e, r⟩
      · subst e
        refine ⟨h6, tk5, m2, o'', rfl, a5.F, fun p hp => a5.N p ?_, i', ⟨ht⟩⟩
        rcases List.mem_append.mp hp with hp | hp
        · exact List.mem_append.mpr (.inl (hin p (List.mem_append.mpr (.inl hp))))
        · rcases List.mem_append.mp hp with hp | hp
          · exact List.mem_append.mpr (.inr (List.mem_append.mpr (.inl (S5.sub p hp))))
          · rcases List.mem_cons.mp hp with rfl | hp
            · exact List.mem_append.mpr (.inl (hin _ (List.mem_append.mpr (.inr (.head _)))))
            · exact List.mem_append.mpr (.inr (List.mem_append.mpr (.inr hp)))
      · subst e
        exact q (.ret v9) m2 o2 f2 h6 tk5 a5 S5 r
  · exact fin g u I₁ Hf.eq _ Q E hE ⟨F₁, (dict_turn (fz := fz) (tl := tl)).mp N₁, at9.Z⟩ fun fl m2 o2 f2 h2 tk2 a2 S2 r => q fl m2 o2 f2 h2 tk2 a2 S2 r
theorem dR_in {f : Led} : ∀ p ∈ [(d, o)] ++ (f ++ tl), p ∈ f ++ dR d tl o := fun p hp => by
  simp only [List.mem_append, List.mem_cons, List.not_mem_nil, or_false, dR] at hp ⊢
  rcases hp with hp | hp | hp <;> simp [hp]
theorem five_in {f five : Led} : ∀ p ∈ f ++ dR d (five ++ tl) o, p ∈ (five ++ [(d, o)]) ++ (f ++ tl) := fun p hp => by
  rcases List.mem_append.mp hp with hp | hp
  · exact List.mem_append.mpr (.inr (List.mem_append.mpr (.inl hp)))
  · rcases List.mem_cons.mp hp with rfl | hp
    · exact List.mem_append.mpr (.inl (List.mem_append.mpr (.inr (.head _))))
    · rcases List.mem_append.mp hp with hp | hp
      · exact List.mem_append.mpr (.inl (List.mem_append.mpr (.inl hp)))
      · exact List.mem_append.mpr (.inr (List.mem_append.mpr (.inr hp)))
theorem five_out {f five : Led} : ∀ p ∈ ((d, o) :: five) ++ (f ++ tl), p ∈ f ++ dR d (five ++ tl) o := fun p hp => by
  rcases List.mem_cons.mp hp with rfl | hp
  · exact List.mem_append.mpr (.inr (.head _))
  · rcases List.mem_append.mp hp with hp | hp
    · exact List.mem_append.mpr (.inr (.tail _ (List.mem_append.mpr (.inl hp))))
    · rcases List.mem_append.mp hp with hp | hp
      · exact List.mem_append.mpr (.inl hp)
      · exact List.mem_append.mpr (.inr (.tail _ (List.mem_append.mpr (.inr hp))))
theorem dR_out {f O : Led} (h : (d, o) ∈ O) : ∀ p ∈ f ++ dR d tl o, p ∈ O ++ (f ++ tl) := fun p hp => by
  simp only [List.mem_append, List.mem_cons, dR] at hp ⊢
  rcases hp with hp | hp | hp
  · exact .inr (.inl hp)
  · exact .inl (hp ▸ h)
  · exact .inr (.inr hp)
end
theorem match_new {w : World} {fz0 : Led} {o' : Obj} {x : Bool} {T : Ty} {τ : Tab} (e : lk τ x = none) (h : DictIs w fz0 o' (τ ++ [(x, T)])) : Value.bool true = .bool (matchF (.param x) T τ).1 ∧ DictIs w fz0 o' (matchF (.param x) T τ).2 := by
  have k : matchF (.param x) T τ = (true, τ ++ [(x, T)]) := by show (lk τ x).elim _ _ = _; rw [e]; rfl
  rw [k]; exact ⟨rfl, h⟩
theorem match_old {w : World} {fz0 : Led} {o' : Obj} {x : Bool} {T U : Ty} {τ : Tab} (e : lk τ x = some U) (h : DictIs w fz0 o' τ) : Value.bool (decide (U = T)) = .bool (matchF (.param x) T τ).1 ∧ DictIs w fz0 o' (matchF (.param x) T τ).2 := by
  have k : matchF (.param x) T τ = (decide (U = T), τ) := by show (lk τ x).elim _ _ = _; rw [e]; rfl
  rw [k]; exact ⟨rfl, h⟩
theorem match_kind {P T : Ty} {τ : Tab} (hp : isParam P = false) (hk : kindS P ≠ kindS T) : matchF P T τ = (false, τ) := by
  have hn := kindN_ne hk
  have no : ∀ {k fs}, k ≠ kindN T → nodeM (kindN T == k) fs (kids T) τ = (false, τ) := fun {k fs} h => by
    rw [nodeM, if_neg (by simp only [beq_iff_eq]; exact fun e => h e.symm)]
  have nl : T ≠ P → ((decide (T = P), τ) : Bool × Tab) = (false, τ) := fun h => congrArg (·, τ) (decide_eq_false h)
  have hP : T ≠ P := fun e => hk (e ▸ rfl)
  cases P with
  | param => cases hp
  | var => rfl
  | intvar => rfl
  | ref => exact no hn
  | box => exact no hn
  | array => exact no hn
  | pair => exact no hn
  | adt => exact no hn
  | _ => exact nl hP
set_option tactic.hygienic true in
theorem match_param {w : World} {x : Bool} {T : Ty} (hh : height T ≤ 20) : MatchSpec w (.param x) T 20 := by
  intro v u fz0 fz tl o d τ h0 hP hT hz hD hI
  obtain ⟨⟨kvs, hd1, hd2⟩, hnd, hlow⟩ := hI
  have hsz : kvs.length ≤ sizeLine := by
    rw [hd2.len]
    have := bools_two hnd
    rw [List.length_map] at this
    exact Nat.le_trans this (by decide)
  have hx := hd2.at x
  cases hP
  rename_i a n t1 t2 hm1
  have kf9 : Mine.hd.heap_1 w.params = Mine.hd.heap_1 w.params ∧ PySem.Challenge.rw_ot0007_01 = PySem.Challenge.rw_ot0007_01 := by k_fill; exact ⟨rfl, rfl⟩
  clear kf9
  refine' telS_def (own := [(d, o)]) (tl := tl) ?a0 ?a1 (fun _ => ?a2) ?a3 ?a4 ?a5 ?a6 ?a7 hz ?ain ?_
  case a0 => k_is
  case a1 => k_is
  case a2 => exact BindsTo.of_eq rfl
  case a3 => exact locs rfl
  case a4 => exact rfl
  case a5 => exact rfl
  case a6 => exact rfl
  case a7 => decide
  case ain => exact dR_in
  intro c m R hdp hun hb hR
  have hpt : m (Str.ofString "pattern") = some (.ref a) := hb _
  have htt : m (Str.ofString "told") = some u := hb _
  have htb : m (Str.ofString "table") = some (.ref d) := hb _
  clear hb
  have hu64 : c.un + 64 < cLine := by first | exact ulk (Y := 8) hun rfl | exact uld (Y := 8) hun rfl
  have hm := h0.sub _ hm1
  generalize e1 : valueAt kvs (pname x) = ov at hx
  generalize e2 : lk τ x = ot at hx
  refine JX.ifbV (EV.sub hpt hm rfl) (fun _ => ?_) fun h => absurd h (by show ¬ ((S _ == S _) = false); decide +kernel)
  refine JX.ifr ?_
  refine JT.cmp ?_
  refine JE.V (EV.sub hpt hm rfl) fun _ => ?_
  refine JE.V (EV.name htb) fun _ => ?_
  refine JG.inTab (List.mem_cons_self ..) hd1 hD.nm rfl ⟨_, rfl, fun hb => ?old, fun hb => ?new⟩
  case old =>
    rw [e1] at hb
    cases hx with
    | none => cases hb
    | some hx =>
      refine JE.cmp ?_
      refine JE.item (EV.name htb) (EV.sub hpt hm rfl) fun _ _ => ?_
      refine JH.itemTab (List.mem_append.mpr (.inl (List.mem_cons_self ..))) hd1 e1 ?_
      refine JE.V (EV.name htt) fun _ => ?_
      exact JG.eqTy (hx.up h0) (hT.up h0) (hlow _ (lk_mem e2)) hh hu64 ⟨⟨_, rfl⟩, hR _ _ _ _ o (match_old e2 ⟨⟨kvs, hd1, hd2⟩, hnd, hlow⟩) (dR_out (List.mem_cons_self ..))⟩
  case new =>
    rw [e1] at hb
    cases hx with
    | some hx => cases hb
    | none =>
      refine JX.setTab (EV.name htt) (EV.name htb) (EV.sub hpt hm rfl) hD hd1 hsz fun o' ho' => ?_
      refine JX.ret ?_
      exact JE.V EV.bool fun _ => ⟨⟨_, rfl⟩, hR _ _ _ _ o' (match_new e2 (DictIs.add hnd hlow hh hd2 e2 hT ho')) (dR_out (List.mem_cons_self ..))⟩
structure MatchKs (w : World) (Ps Ts : List Ty) (n : Nat) : Prop where
  ih : ∀ (i : Nat) (P T : Ty), Ps[i]? = some P → Ts[i]? = some T → MatchSpec w P T n
theorem MatchKs.use {w : World} {Ps Ts : List Ty} {n i : Nat} {P T : Ty} {b : Bool} {τ τ' : Tab} {v u : Value} {fz0 fz tl : Led} {o : Obj} {d : Addr} (K : MatchKs w Ps Ts n) (hb : matchF P T τ = (b, τ')) (h1 : Ps[i]? = some P) (h2 : Ts[i]? = some T) (h0 : Sub fz0 fz) (hP : TyIn fz0 v P) (hT : TyIn fz0 u T) (hz : Tups fz) (D : DictAt d tl) (I : DictIs w fz0 o τ) :
    TelS w (.ref 92) [v, u, .ref d] fz (dR d tl) o n (fun r fz' o' => r = .bool b ∧ DictIs w fz0 o' τ') := by
  have := K.ih i P T h1 h2 h0 hP hT hz D I
  rw [hb] at this
  exact this
theorem match_diff {w : World} {P T : Ty} (hp : isParam P = false) (hk : kindS P ≠ kindS T) : MatchSpec w P T 20 := by
  intro v u fz0 fz tl o d τ h0 hP hT hz hD hI
  obtain ⟨a1, t1, more1, n1, rfl, hm1⟩ := hP.head
  obtain ⟨a2, t2, more2, n2, rfl, hm2⟩ := hT.head
  have hq := kindS_param hp
  have hend := match_kind (τ := τ) hp hk
  have kf9 : Mine.hd.heap_1 w.params = Mine.hd.heap_1 w.params ∧ PySem.Challenge.rw_ot0007_01 = PySem.Challenge.rw_ot0007_01 := by k_fill; exact ⟨rfl, rfl⟩
  clear kf9
  refine' telS_def (own := [(d, o)]) (tl := tl) ?a0 ?a1 (fun _ => ?a2) ?a3 ?a4 ?a5 ?a6 ?a7 hz ?ain ?_
  case a0 => k_is
  case a1 => k_is
  case a2 => exact BindsTo.of_eq rfl
  case a3 => exact locs rfl
  case a4 => exact rfl
  case a5 => exact rfl
  case a6 => exact rfl
  case a7 => decide
  case ain => exact dR_in
  intro c m R hdp hun hb hR
  have hpt : m (Str.ofString "pattern") = some (.ref a1) := hb _
  have htt : m (Str.ofString "told") = some (.ref a2) := hb _
  clear hb
  refine JX.ifF (JT.eqV (EV.sub hpt (h0.sub _ hm1) rfl) ⟨beq_eq_false_iff_ne.mpr hq, ?_⟩)
  refine JX.ifr ?_
  refine JT.bool (JB.orCons (JT.cmp (JE.V (EV.sub hpt (h0.sub _ hm1) rfl) fun _ => JE.V (EV.sub htt (h0.sub _ hm2) rfl) fun _ => JG.neStr ⟨_, rfl, fun _ => ⟨fun _ => ?_, fun h => nomatch h⟩, fun h => absurd (bne_iff_ne.mpr hk) (by rw [h]; exact Bool.false_ne_true)⟩)))
  exact JE.V EV.bool fun _ => hR _ _ _ _ o ⟨by rw [hend], by rw [hend]; exact hI⟩ (dR_out (List.mem_cons_self ..))
set_option tactic.hygienic true in
theorem kInt {fz : Led} {v : Value} {T : Ty} (_h : TyIn fz v T) (k : (kindS T == Str.ofString "int") = true) : ∃ b, T = .int b := by
  cases T
  case int b => exact ⟨b, rfl⟩
  all_goals exact absurd k (by show ¬ ((S _ == S _) = true); decide +kernel)
theorem same_int {P T : Ty} (h : Same P T) {b : Bool} (e : P = .int b) : T = P := by
  subst e
  obtain ⟨hk, _, hf⟩ := h
  cases hf with
  | int => rfl
  | diff h => exact absurd hk h
theorem same_unk {P T : Ty} (h : Same P T) : (S "var" == kindS P || S "intvar" == kindS P) = false := by
  obtain ⟨hk, hp, hf⟩ := h
  cases hf with
  | param => cases hp
  | diff h => exact absurd hk h
  | _ => (show (S _ == S _ || S _ == S _) = false; decide +kernel)
theorem same_mut {r r' : Reg} {m m' : Bool} {t t' : Ty} (h : Same (.ref r m t) (.ref r' m' t')) : m = m' := by
  obtain ⟨hk, _, hf⟩ := h
  cases hf with
  | diff h => exact absurd hk h
  | ref => rfl
set_option maxHeartbeats 400000 in
theorem match_same {w : World} {P T : Ty} {n : Nat} (h : Same P T) (h1 : height P ≤ 20) (K : MatchKs w (kids P) (kids T) n) : MatchSpec w P T (n + 12) := by
  intro v u fz0 fz tl o d τ h0 hP hT hz hD hI
  obtain ⟨a1, t1, more1, n1, rfl, hm1⟩ := hP.head
  obtain ⟨a2, t2, more2, n2, rfl, hm2⟩ := hT.head
  have hq := kindS_param h.nop
  have kf9 : Mine.hd.heap_1 w.params = Mine.hd.heap_1 w.params ∧ PySem.Challenge.rw_ot0007_01 = PySem.Challenge.rw_ot0007_01 := by k_fill; exact ⟨rfl, rfl⟩
  clear kf9
  refine' telS_def (own := [(d, o)]) (tl := tl) ?a0 ?a1 (fun _ => ?a2) ?a3 ?a4 ?a5 ?a6 ?a7 hz ?ain ?_
  case a0 => k_is
  case a1 => k_is
  case a2 => exact BindsTo.of_eq rfl
  case a3 => exact locs rfl
  case a4 => exact rfl
  case a5 => exact rfl
  case a6 => exact rfl
  case a7 => decide
  case ain => exact dR_in
  intro c m R hdp hun hb hR
  have hpt : m (Str.ofString "pattern") = some (.ref a1) := hb _
  have htt : m (Str.ofString "told") = some (.ref a2) := hb _
  have htb : m (Str.ofString "table") = some (.ref d) := hb _
  clear hb
  have hu64 : c.un + 64 < cLine := by first | exact ulk (Y := 8) hun rfl | exact uld (Y := 8) hun rfl
  refine JX.ifF (JT.eqV (EV.sub hpt (h0.sub _ hm1) rfl) ⟨beq_eq_false_iff_ne.mpr hq, ?_⟩)
  refine JX.ifF (JT.bool (JB.orF (JT.cmp (JE.V (EV.sub hpt (h0.sub _ hm1) rfl) fun _ => JE.V (EV.sub htt (h0.sub _ hm2) rfl) fun _ => JG.neStr ⟨_, rfl, by rw [h.kind]; exact bne_self_eq_false' .., ?_⟩))))
  refine JB.orF (JT.andKind (EV.sub hpt (h0.sub _ hm1) rfl) (fun hi => ?_) ⟨rfl, ?_⟩)
  · obtain ⟨b, hb⟩ := kInt hP hi
    have e := same_int h hb
    exact JT.cmp (JE.name hpt (JE.name htt (JG.neTy (T := P) (hP.up h0) (e ▸ hT.up h0) h1 hu64 ⟨_, rfl, rfl, rfl, rfl⟩)))
  refine JB.orF (JT.cmp (JE.V (EV.sub hpt (h0.sub _ hm1) rfl) fun _ => JE.tup2 EV.str EV.str fun x1 x2 D => JG.inTwo (List.mem_cons_self ..) (by decide +kernel) (by decide +kernel) (kindS_ok _) hu64 (same_unk h) ⟨_, rfl, rfl, JB.orNil ⟨rfl, ?_⟩⟩))
  have S1 : Sub fz0 ((D, tupO [.str (S "var") x1, .str (S "intvar") x2] 0) :: fz) := .cons h0
  have Z1 : Tups ((D, tupO [.str (S "var") x1, .str (S "intvar") x2] 0) :: fz) := hz.cons
  generalize ((D, tupO [.str (S "var") x1, .str (S "intvar") x2] 0) :: fz) = f1 at S1 Z1
  have hm1' := S1.sub _ hm1
  refine JX.ifF (JT.bool (JB.orF (JT.andKind (EV.sub hpt hm1' rfl) (fun hi => ?_) ⟨rfl, JB.orF (JT.andKind (EV.sub hpt hm1' rfl) (fun hi => ?_) ⟨rfl, JB.orNil ⟨rfl, JX.ifF (JT.andKind (EV.sub hpt hm1' rfl) (fun hi => ?_) ⟨rfl, ?_⟩)⟩⟩)⟩)))
  · have hi2 : (kindS T == Str.ofString "ref") = true := h.kind ▸ hi
    obtain ⟨p1, p2, p3⟩ := kRef hP.by hi
    obtain ⟨q1, q2, q3⟩ := kRef hT.by hi2
    obtain rfl := same_mut h
    exact JT.cmp (JE.V (EV.sub hpt (S1.sub _ p1) rfl) fun _ => JE.V (EV.sub htt (S1.sub _ q1) rfl) fun _ => JG.neB ⟨_, rfl, rfl, rfl, rfl⟩)
  · have hi2 : (kindS T == Str.ofString "array") = true := h.kind ▸ hi
    obtain ⟨p1, p2⟩ := kArr hP.by hi
    obtain ⟨q1, q2⟩ := kArr hT.by hi2
    exact JT.cmp (JE.V (EV.sub hpt (S1.sub _ p1) rfl) fun _ => JE.V (EV.sub htt (S1.sub _ q1) rfl) fun _ => JG.neI ⟨_, rfl, rfl, rfl, rfl⟩)
  · have hi2 : (kindS T == Str.ofString "adt") = true := h.kind ▸ hi
    obtain ⟨p1, p2⟩ := kAdt hP.by hi
    obtain ⟨q1, q2⟩ := kAdt hT.by hi2
    exact JT.cmp (JE.V (EV.sub hpt (S1.sub _ p1) rfl) fun _ => JE.V (EV.sub htt (S1.sub _ q1) rfl) fun _ => JG.neStr ⟨_, rfl, bne_self_eq_false' .., rfl, rfl⟩)
  have hlen := (same_kids h).1
  have hm := match_kids h τ
  clear hm1' hq h h1
  generalize hkP : kids P = Ps at K hm hlen
  generalize hkT : kids T = Ts at K hm hlen
  have hwp : nsIn (Mine.hd.heap_1 w.params) mainGlobals (Str.ofString "parts_of") = some (some (.ref 21)) ∧ keepIn (Mine.hd.heap_1 w.params) (.ref 21) = true := ⟨by k_is, by k_is⟩
  have hwm : nsIn (Mine.hd.heap_1 w.params) mainGlobals (Str.ofString "matched") = some (some (.ref 92)) ∧ keepIn (Mine.hd.heap_1 w.params) (.ref 92) = true := ⟨by k_is, by k_is⟩
  have two : ∀ {U : Ty}, (kids U).length ≤ 2 := fun {U} => by cases U <;> exact Nat.le_of_ble_eq_true rfl
  have hl1 := two (U := P)
  have hl2 := two (U := T)
  refine JX.set2 ?_
  refine JE.tuple ?_
  refine JA.cons ?_
  refine JE.call hwp.1 hwp.2 (JA.one (EV.name hpt) fun _ => ?_)
  refine JC.tel (d := 4) (P' := KidsSub fz0 (kids P)) (parts_sub_tel S1 hP Z1) (by omega) (by omega) ?_
  rintro _ f2 S2 Z2 @⟨b1, vs1, j1, rfl, m2, k2⟩
  refine JA.cons ?_
  refine JE.call hwp.1 hwp.2 (JA.one (EV.name htt) fun _ => ?_)
  refine JC.tel (d := 4) (P' := KidsSub fz0 (kids T)) (parts_sub_tel (S2.step S1) hT Z2) (by omega) (by omega) ?_
  rintro _ f3 S3 Z3 @⟨b2, vs2, j2, rfl, m3, k3⟩
  refine JA.nil ⟨Nat.le_of_ble_eq_true rfl, fun DT => ⟨DT, 0, _, _, rfl, List.mem_cons_self .., ?_⟩⟩
  have S4 : Sub fz0 ((DT, tupO [.ref b1, .ref b2] 0) :: f3) := .cons ((S3.step S2).step S1)
  have m2' : (b1, tupO vs1 j1) ∈ (DT, tupO [.ref b1, .ref b2] 0) :: f3 := .tail _ (S3.sub _ m2)
  have m3' : (b2, tupO vs2 j2) ∈ (DT, tupO [.ref b1, .ref b2] 0) :: f3 := .tail _ m3
  generalize (DT, tupO [.ref b1, .ref b2] 0) :: f3 = f4 at S4 m2' m3'
  clear m2 m3 S1 S2 S3 Z1 Z2 Z3
  rw [hkP] at k2 hl1
  rw [hkT] at k3 hl2
  refine JX.ifF ?_
  refine JT.cmp ?_
  refine JE.lenT rfl m2' k2.length hl1 fun _ => ?_
  refine JE.lenT rfl m3' k3.length hl2 fun _ => ?_
  rw [hlen]
  refine JG.neI ⟨_, rfl, rfl, ?_⟩
  refine JX.forZip (tb := S "table") (y := .ref d) (fun i o => ∃ τi, DictIs w fz0 o τi ∧ matchL Ps Ts τ = matchL (Ps.drop i) (Ts.drop i) τi) rfl rfl ⟨_, m2'⟩ ⟨_, m3'⟩ (by rw [k2.length, k3.length, hlen]) htb ⟨τ, hI, rfl⟩ ?turn ?fin
  case fin =>
    rintro o' u ⟨τi, D1, eL⟩ _
    rw [k2.length, List.drop_length] at eL
    refine JX.ret ?_
    exact JE.V EV.bool fun _ => hR _ _ _ _ o' (match_out hm eL rfl D1) (dR_out (List.mem_cons_self ..))
  case turn =>
    rintro i v9 v8 o' u I q1 q2 q3 q4 q5 hv hw ⟨τi, D1, eL⟩ hu9 hI9
    obtain ⟨P', eP, kP⟩ := k2.at hv
    obtain ⟨T', eT, kT⟩ := k3.at hw
    have hD2 : DictAt d (own5 I q1 q2 q3 q4 q5 ++ tl) := dict_five hD hI9
    rcases hb : matchF P' T' τi with ⟨b, τ'⟩
    have hstep := match_step eP eT hb
    have call : ∀ {m' : Str → Option Value} {X : Value → Led → Led → Prop}, (∀ f' o'', Sub f4 f' → DictIs w fz0 o'' τ' → X (.bool b) ((d, o'') :: own5 I q1 q2 q3 q4 q5) f') → JH c m' (own5 I q1 q2 q3 q4 q5 ++ [(d, o')]) f4 tl (call (.ref 92) [v9, v8, .ref d]) X := fun hX =>
      JH.telS (st := o') (Rl := dR d (own5 I q1 q2 q3 q4 q5 ++ tl)) (fun Z => MatchKs.use K hb eP eT S4 kP kT Z hD2 D1) (by omega) (by omega) five_in fun r f' o'' S p => ⟨(d, o'') :: own5 I q1 q2 q3 q4 q5, five_out, p.1 ▸ hX f' o'' S p.2⟩
    cases b with
    | false =>
      refine JX.last ?_
      refine JS.ite ?_
      refine JT.not ?_
      refine JT.E ?_
      refine JE.call hwm.1 hwm.2 (JA.cons ?_)
      refine JE.V (EV.name rfl) fun _ => ?_
      refine JA.two (EV.name rfl) (EV.name hu9) fun _ _ => ?_
      refine JH.G (call fun f' o'' S9 D9 => ⟨_, rfl, fun _ => ?_, fun h => nomatch h⟩)
      refine JX.ret ?_
      exact JE.V EV.bool fun _ => .inr ⟨_, rfl, hR _ _ _ _ o'' (match_out hm eL hstep D9) (dR_out (List.mem_cons_self ..))⟩
    | true =>
      refine JX.last ?_
      refine JS.ite ?_
      refine JT.not ?_
      refine JT.E ?_
      refine JE.call hwm.1 hwm.2 (JA.cons ?_)
      refine JE.V (EV.name rfl) fun _ => ?_
      refine JA.two (EV.name rfl) (EV.name hu9) fun _ _ => ?_
      refine JH.G (call fun f' o'' S9 D9 => ⟨_, rfl, fun h => absurd h Bool.false_ne_true, fun _ => JX.nil (.inl ⟨rfl, o'', ?_, ⟨τ', D9, eL.trans hstep⟩, hu9⟩)⟩)
      intro p hp
      rcases List.mem_append.mp hp with hp | hp
      · exact .tail _ hp
      · exact List.mem_singleton.mp hp ▸ .head _

end
section
theorem flushLMatchF : True ∧ True := by (w_top off); (first | (walk1; done) | exact ⟨True.intro, True.intro⟩)
theorem MatchSpec.more {w : World} {P T : Ty} {a b : Nat} (h : MatchSpec w P T a) (k : a ≤ b) : MatchSpec w P T b :=
  fun x1 x2 x3 x4 x5 x6 loose mean mg mb dp un gd cn cs a ccd cl outer A₀ base h₀ L m s Q E B F X N T hk hd hu kk => h x1 x2 x3 x4 x5 x6 loose mean mg mb dp un gd cn cs a ccd cl outer A₀ base h₀ L m s Q E B F X N T hk (by omega) (by omega) kk
theorem match_all (w : World) : ∀ n P, height P < n → height P ≤ 20 → ∀ T, height T ≤ 20 → Fair P T → MatchSpec w P T (12 * height P + 20) := by
  intro n
  induction n with
  | zero => intro P h; exact absurd h (Nat.not_lt_zero _)
  | succ n ih =>
    intro P hP hP2 T hT hf
    cases hp : isParam P with
    | true => cases P <;> first | (cases hp; done) | exact @MatchSpec.more w _ T _ _ (@match_param w _ T hT) (by omega)
    | false =>
      rcases Decidable.em (kindS P = kindS T) with hk | hk
      · have hs : Same P T := ⟨hk, hp, hf⟩
        have hkid : ∀ P' ∈ kids P, height P' + 1 ≤ height P := fun P' h' => kid_height h'
        have K0 : ∃ m, m + 12 ≤ 12 * height P + 20 ∧ MatchKs w (kids P) (kids T) m := by
          rcases Nat.lt_or_ge 0 (height P) with h0 | h0
          · refine ⟨12 * (height P - 1) + 20, by omega, ⟨fun i P' T' h1 h2 => ?_⟩⟩
            have a1 := kid_height (List.mem_of_getElem? h1)
            have a2 := kid_height (List.mem_of_getElem? h2)
            exact @MatchSpec.more w P' T' _ _ (ih P' (by omega) (by omega) T' (by omega) ((same_kids hs).2 i P' T' h1 h2)) (by omega)
          · refine ⟨8, by omega, ⟨fun i P' T' h1 h2 => absurd (kid_height (List.mem_of_getElem? h1)) (by omega)⟩⟩
        obtain ⟨m, hm, K⟩ := K0
        exact @MatchSpec.more w P T _ _ (@match_same w P T m hs (by omega) K) hm
      · exact @MatchSpec.more w P T _ _ (@match_diff w P T hp hk) (by omega)
theorem matched_tel {w : World} {P T : Ty} (h1 : height P ≤ 20) (h2 : height T ≤ 20) (h3 : Fair P T) : MatchSpec w P T (12 * height P + 20) := match_all w _ P (Nat.lt_succ_self _) h1 T h2 h3

end
section
theorem flushLDp : True ∧ True := by (w_top off); (first | (walk1; done) | exact ⟨True.intro, True.intro⟩)
/-! dict(list of pairs) -/
theorem keys_miss : typeLookup (.type "list") "keys" = pure none := by rw [typeLookup_type, builtinLookup_eq_fast]; kernel_rfl
theorem list_ga_none : typeLookup (.type "list") "__getattr__" = pure none := by rw [typeLookup_type, builtinLookup_eq_fast]; kernel_rfl
section
variable {prog : Program} {w : World} {A : Around} {E : Value → Shared → Prop} {s : Shared}
set_option maxHeartbeats 400000 in
theorem list_miss_raises {l : Addr} {vs : Array Value} {n : Nat} {u : Tok} (hA : A.handled = none) {hp : Heap} {g : Array GenState} {d : Drawn} {tk : Nat} {os : OsState} {Q : Fin → Shared → Prop} (hx : hp.get? l = some (PySem.W.listOf vs n))
    (h : ∀ h' tk' e, Heap.NewAttrErr hp h' e (.ref l) "keys" → E (.ref e) ⟨h', g, d, tk', os⟩) :
    wpAny (model prog w) A (Builtin.«object.__getattribute__» ⟨[.ref l, .str "keys" u], []⟩) Q E ⟨hp, g, d, tk, os⟩ := by
  have hT : (⟨hp, g, d, tk, os⟩ : Shared).TypeIs (.ref l) "list" := ⟨_, hx, rfl⟩
  have f4 := keys_miss
  unfold Builtin.«object.__getattribute__»
  repeat (any_goals (first | assumption | wp_step))
  exact wpAny_raiseAttrError hA h (attrMsg_fits (by decide +kernel) (by decide +kernel))
set_option maxHeartbeats 400000 in
theorem list_no_keys {l : Addr} {vs : Array Value} {n : Nat} (hA : A.handled = none) {hp : Heap} {g : Array GenState} {d : Drawn} {tk : Nat} {os : OsState} {Q : Option Value → Shared → Prop} (hx : hp.get? l = some (PySem.W.listOf vs n))
    (h : ∀ h' tk', (∀ b o, hp.get? b = some o → h'.get? b = some o) → Q none ⟨h', g, d, tk', os⟩) : wpAny (model prog w) A (getAttr? (.ref l) "keys") Q E ⟨hp, g, d, tk, os⟩ := by
  have hT : ∀ tk, (⟨hp, g, d, tk, os⟩ : Shared).TypeIs (.ref l) "list" := fun _ => ⟨_, hx, rfl⟩
  have f1 := sub_AttributeError
  have f2 := PySem.F.slot_list_getattribute.lookup
  have f3 := PySem.F.slot_list_getattribute.bind (.ref l)
  have f5 := list_ga_none
  have hT0 := hT tk
  have hT1 := hT (tk + 1)
  unfold getAttr? getAttrBy?
  unfold getAttrBy
  repeat (any_goals (first | assumption | wp_step))
  refine codeAny_call_builtin PySem.F.slot_list_getattribute.plain PySem.F.entry_list_ga (PySem.F.slot_list_getattribute.check _ _ _ _ _ _ _ _ hT1 (PySem.F.args_list_getattribute_2 _ _) (list_miss_raises (A := A.in1) (show A.in1.handled = none from hA) hx fun h' tk' e he => ?_))
  obtain ⟨t', u', he'⟩ := he.there
  have hX : ∀ tk, (⟨h', g, d, tk, os⟩ : Shared).TypeIs (.ref e) "AttributeError" := fun _ => ⟨_, he', rfl⟩
  have hX1 := hX tk'
  show wpAny _ _ (getattributeRaised _ _ _ _ _ _ _) _ _ _
  unfold getattributeRaised
  repeat (any_goals (first | assumption | wp_step))
  all_goals exact h _ _ he.keeps
end
theorem upd_entry : entryFor table "dict.update.loop" = some Builtin.«dict.update.loop» := entryFor_of_tree (by kernel_rfl)
theorem upd_plain : plainId "dict.update.loop" = true := by decide +kernel
section
variable {prog : Program} {w : World} {K : Type} [DecidableEq K] {knd : KeyKind prog w K} {A : Around} {E : Value → Shared → Prop} {s : Shared}
structure PairAt (knd : KeyKind prog w K) (h : Heap) (avoid : List Addr) (v : Value) (p : K × Value) : Prop where
  at' : ∃ T key, v = .ref T ∧ h.IsTuple T #[key, p.2] ∧ knd.is p.1 key = true ∧ T ∉ avoid
noncomputable def Kept (avoid : List Addr) (h h' : Heap) : Prop := ∀ b o, b ∉ avoid → h.get? b = some o → h'.get? b = some o
theorem PairAt.kept {h h' : Heap} {avoid : List Addr} {v : Value} {p : K × Value} (x : PairAt knd h avoid v p) (k : Kept avoid h h') : PairAt knd h' avoid v p := by
  obtain ⟨T, key, e, ⟨o, ho, r⟩, hk, hn⟩ := x
  exact ⟨T, key, e, ⟨o, k _ _ hn ho, r⟩, hk, hn⟩
theorem pairs_loop {R : Result → Shared → Prop} {l it d : Addr} {items : List Value} {ps : List (K × Value)} (hh : A.handled = none) (hl : l ∉ [it, d]) (hid : it ≠ d) (hlen : items.length = ps.length) (hsz : ps.length ≤ 1000)
    (hp : ∀ (j : Nat) v p, items[j]? = some v → ps[j]? = some p → PairAt knd s.heap [it, d] v p) (hL : s.heap.IsList l items.toArray)
    (hR : ∀ h' tk', h'.DictOf knd d (merged [] ps) → Kept [it, d] s.heap h' → R (.ok (.ret .none)) { s with heap := h', toks := tk' }) :
    ∀ (n i : Nat) (h : Heap) (tk : Nat) (t : Tok), i + n = items.length → h.IsListIter it l i → h.DictOf knd d (merged [] (ps.take i)) → Kept [it, d] s.heap h →
      codeAny (model prog w) A (.builtin "dict.update.loop" ⟨[.ref d, .ref it, .int i t, .none], []⟩) R { s with heap := h, toks := tk } := by
  have W := Walks.list (prog := prog) (w := w) (A := A.in1) hh it l (fun e => hl (by simp [e])) items.toArray
  have hms : ∀ i, (merged [] (ps.take i)).length ≤ sizeLine := fun i => by
    have : (merged [] (ps.take i)).length ≤ (ps.take i).length := by
      have g : ∀ (q : List (K × Value)) (acc : List (K × Value)), (merged acc q).length ≤ acc.length + q.length := by
        intro q
        induction q with
        | nil => intro acc; exact Nat.le_refl _
        | cons x q ih =>
          intro acc
          have h1 := ih (stored acc x.1 x.2)
          have h2 : (stored acc x.1 x.2).length ≤ acc.length + 1 := by
            unfold stored
            split <;> simp
          show (merged (stored acc x.1 x.2) q).length ≤ _
          simp only [List.length_cons]
          omega
      simpa using g (ps.take i) []
    have h2 : (ps.take i).length ≤ ps.length := by rw [List.length_take]; omega
    rw [PySem.sizeLine_eq]; omega
  intro n
  induction n with
  | zero =>
    intro i h tk t hi hit hd hk
    have e : i = items.length := by omega
    have hLh : h.IsList l items.toArray := by obtain ⟨o, ho, r⟩ := hL; exact ⟨o, hk _ _ hl ho, r⟩
    refine codeAny_builtin upd_entry ?_
    rw [Around.under_plainId upd_plain _]
    show wpAny _ A.in1 (pyNext (.ref it) >>= _) _ _ _
    refine wpAny_bind (W.done _ _ _ ⟨by rw [List.size_toArray, ← e]; exact hit, hLh⟩ fun h' tk' hk' => ?_)
    show wpAny _ A.in1 (Builtin.Dict.addKeywords d [] >>= _) _ _ _
    refine wpAny_bind (wpAny_pure (wpAny_pure ?_))
    rw [List.take_of_length_le (by omega)] at hd
    refine hR h' tk' ?_ fun b o hb q => hk' b o (fun x => hb (by simp only [List.mem_singleton] at x; simp [x])) (hk b o hb q)
    obtain ⟨o, es, ep, ho, r⟩ := hd
    exact ⟨o, es, ep, hk' _ _ (by simpa using hid.symm) ho, r⟩
  | succ n ih =>
    intro i h tk t hi hit hd hk
    have hlt : i < items.length := by omega
    have hlt2 : i < ps.length := by omega
    have hLh : h.IsList l items.toArray := by obtain ⟨o, ho, r⟩ := hL; exact ⟨o, hk _ _ hl ho, r⟩
    refine codeAny_builtin upd_entry ?_
    rw [Around.under_plainId upd_plain _]
    show wpAny _ A.in1 (pyNext (.ref it) >>= _) _ _ _
    refine wpAny_bind (W.item i _ _ _ (by simpa using hlt) ⟨hit, hLh⟩ fun v h1 tk1 hv st1 hk1 => ?_)
    have hv' : items[i]? = some v := by simpa using hv
    have hk1' : Kept [it, d] h h1 := fun b o hb q => hk1 b o (fun x => hb (by simp only [List.mem_singleton] at x; simp [x])) q
    have hks : Kept [it, d] s.heap h1 := fun b o hb q => hk1' b o hb (hk b o hb q)
    obtain ⟨T, key, rfl, hT, hkey, hTn⟩ := ((hp i v ps[i] hv' (List.getElem?_eq_getElem hlt2)).kept hks).at'
    obtain ⟨oT, hoT, hcT, nT, hdT⟩ := id hT
    have hd1 : h1.DictOf knd d (merged [] (ps.take i)) := by
      obtain ⟨o, es, ep, ho, r⟩ := hd
      exact ⟨o, es, ep, hk1 _ _ (by simpa using hid.symm) ho, r⟩
    show wpAny _ A.in1 (holding _ _ >>= _) _ _ _
    refine wpAny_bind (wpAny_holding ?_)
    refine wpAny_bind (wpAny_tryCatch ?_)
    unfold Builtin.Dict.pairItems
    refine wpAny_bind (wpAny_typeOf (T := "tuple") ⟨oT, hoT, hcT⟩ ?_)
    rw [if_pos (by decide)]
    refine wpAny_bind (wpAny_seqItems hoT hdT (wpAny_pure ?_))
    show wpAny _ A.in1 (holding [key, ps[i].2] (dictSet d key ps[i].2)) _ _ _
    refine wpAny_holding (wpAny_dictSet_pairs (hsz := hms i) hkey hd1 fun h2 hd2 hs2 => ?_)
    refine wpAny_pure ⟨Code.quiet_builtin _ (by decide +kernel), ?_⟩
    refine ih (i + 1) h2 _ _ (by omega) ?_ ?_ ?_
    · obtain ⟨o, ho, r⟩ := st1.1
      exact ⟨o, hs2.extBut _ _ hid ho, r⟩
    · have e : ps.take (i + 1) = ps.take i ++ [ps[i]] := by rw [List.take_add_one, List.getElem?_eq_getElem hlt2]; rfl
      rw [e, merged, List.foldl_append]
      exact hd2
    · exact fun b o hb q => hs2.extBut b o (fun x => hb (by simp [x])) (hks b o hb q)
theorem call_dictP {l : Addr} {k : Nat} {items : List Value} {ps : List (K × Value)} {Q : Value → Shared → Prop} (hA : A.handled = none) (hx : s.heap.get? l = some (PySem.W.listOf items.toArray k)) (hlen : items.length = ps.length) (hsz : ps.length ≤ 1000) (hn : (ps.map (·.1)).Nodup)
    (hp : ∀ (j : Nat) v p, items[j]? = some v → ps[j]? = some p → PairAt knd s.heap [] v p)
    (h : ∀ h' tk', h'.DictOf knd s.heap.objs.size ps → (∀ b o, s.heap.get? b = some o → h'.get? b = some o) → Q (.ref s.heap.objs.size) { s with heap := h', toks := tk' }) :
    wpAny (model prog w) A (call (.type "dict") [.ref l]) Q E s := by
  refine callType_codes (Q₁ := fun obj s₁ => obj = .ref s.heap.objs.size ∧ s₁ = { s with heap := s.heap.push { cls := .type "dict", data := .dict #[] } }) PySem.F.kt_called_dict (PySem.F.kt_typeCall_dict_1 _) PySem.F.entry_dict_init (kt_code_dict_new _ ⟨rfl, rfl⟩) ?_
  rintro obj s₁ ⟨rfl, rfl⟩
  have hnew : (s.heap.push { cls := .type "dict", data := .dict #[] }).DictOf knd s.heap.objs.size [] := Heap.DictOf.new s.heap
  have hx' : (s.heap.push { cls := .type "dict", data := .dict #[] }).get? l = some (PySem.W.listOf items.toArray k) := Heap.get?_push_of_some _ hx
  refine ⟨hnew.typeIs, PySem.F.args_dict_init_2 _ _, ?_⟩
  unfold Builtin.«dict.__init__»
  refine wpAny_bind ?_
  unfold Builtin.Dict.selfAndRest
  refine wpAny_bind (wpAny_notOrdered_dict hnew.typeIs (wpAny_pure ?_))
  show wpAny _ _ (Builtin.Dict.updateFrom "dict.__init__" s.heap.objs.size (.ref l) [] .none) _ _ _
  unfold Builtin.Dict.updateFrom
  refine wpAny_bind (wpAny_typeOf (T := "list") ⟨_, hx', rfl⟩ ?_)
  rw [if_pos (by decide)]
  refine wpAny_bind (list_no_keys (A := A.in1.in1) (show A.in1.in1.handled = none from hA) hx' fun h1 tk1 k1 => ?_)
  simp only [Option.isNone_none, if_true]
  have hl1 : h1.IsList l items.toArray := ⟨_, k1 _ _ hx', rfl, k, rfl⟩
  refine wpAny_bind (wpAny_rule (wpAny_bind (wpAny_pyIter_list hl1 ?_)))
  have k2 : ∀ b o, s.heap.get? b = some o → h1.get? b = some o := fun b o q => k1 _ _ (Heap.get?_push_of_some _ q)
  have hd1 : h1.DictOf knd s.heap.objs.size [] := by
    obtain ⟨o, es, ep, ho, r⟩ := hnew
    exact ⟨o, es, ep, k1 _ _ ho, r⟩
  have hD1 : s.heap.objs.size < h1.objs.size := by
    obtain ⟨o, es, ep, ho, r⟩ := hd1
    exact Heap.lt_size ho
  have hll : l < s.heap.objs.size := Heap.lt_size hx
  have up : ∀ b o, h1.get? b = some o → (h1.push { cls := .type "list_iterator", data := .fields #[.ref l, .int 0 0] }).get? b = some o := fun b o q => Heap.get?_push_of_some _ q
  refine wpAny_pure ⟨Code.quiet_builtin _ (by decide +kernel), ?_⟩
  have av : ∀ b, b < s.heap.objs.size → b ∉ [h1.objs.size, s.heap.objs.size] := fun b hb x => by
    simp only [List.mem_cons, List.not_mem_nil, or_false] at x
    rcases x with x | x
    · exact Nat.lt_irrefl _ (x ▸ Nat.lt_trans hb hD1)
    · exact Nat.lt_irrefl _ (x ▸ hb)
  refine pairs_loop (R := wants (fun r s₂ => r = .none ∧ Q (.ref s.heap.objs.size) s₂) E) (s := { s with heap := h1.push { cls := .type "list_iterator", data := .fields #[.ref l, .int 0 0] }, toks := tk1 }) (A := A.in1) (knd := knd) (it := h1.objs.size) (d := s.heap.objs.size) (show A.in1.handled = none from hA) (av l hll) (Nat.ne_of_gt hD1) hlen hsz
    (fun j v p a b => by
      obtain ⟨T, key, e, ⟨o, ho, r⟩, hk, _⟩ := (hp j v p a b).at'
      exact ⟨T, key, e, ⟨o, up _ _ (k2 _ _ ho), r⟩, hk, av T (Heap.lt_size ho)⟩)
    (hl1.push _) (fun h' tk' hd' kk => by
      rw [merged_nil_of_nodup ps hn] at hd'
      exact ⟨rfl, h h' tk' hd' fun b o q => kk b o (av b (Heap.lt_size q)) (up _ _ (k2 _ _ q))⟩)
    items.length 0 _ tk1 0 (Nat.zero_add _) ⟨_, Heap.get?_push_size _ rfl, rfl, rfl⟩ (hd1.push _) (fun _ _ _ q => q)
end
section
variable {prog : Program} {w : World} {K : Type} [DecidableEq K] {knd : KeyKind prog w K} {A : Around} {E : Value → Shared → Prop} {s : Shared} {h₀ : Heap} {L : Addr} {m : Str → Option Value} {led : Led}
theorem dict_P {l : Addr} {k : Nat} {items : List Value} {ps : List (K × Value)} {Q : Value → Shared → Prop} (hA : A.handled = none) (F : Fr h₀ L s.heap m) (N : News h₀ L s.heap led) (hbig : h₀.NoLimit) (hm : (l, PySem.W.listOf items.toArray k) ∈ led) (hlen : items.length = ps.length) (hsz : ps.length ≤ 1000) (hn : (ps.map (·.1)).Nodup)
    (hp : ∀ (j : Nat) v p, items[j]? = some v → ps[j]? = some p → ∃ T key n, v = .ref T ∧ (T, tupO [key, p.2] n) ∈ led ∧ knd.is p.1 key = true)
    (h : ∀ D h' tk' o, Fr h₀ L h' m → News h₀ L h' ((D, o) :: led) → (∀ p ∈ led, p.1 < D) → (D == sysModules) = false → o.IsDictOf knd ps → Q (.ref D) { s with heap := h', toks := tk' }) :
    wpAny (model prog w) A (call (.type "dict") [.ref l]) Q E s := by
  refine call_dictP (knd := knd) hA (N _ hm).1 hlen hsz hn (fun j v p a b => ?_) fun h' tk' hd hk => ?_
  · obtain ⟨T, key, n, e, hT, hkey⟩ := hp j v p a b
    exact ⟨T, key, e, ⟨_, (N _ hT).1, rfl, n, rfl⟩, hkey, by simp⟩
  · obtain ⟨o, ho, hd'⟩ := Heap.dictOf_iff.mp hd
    have F' := F.keeps hk
    refine h _ h' tk' o F' (fun p hp => ?_) (fun p hp => Heap.lt_size (N p hp).1) (F.notModules (modules_low hbig)) hd'
    rcases List.mem_cons.mp hp with rfl | hp
    · exact ⟨ho, fun e => Nat.lt_irrefl _ (e ▸ F.ns.lt), next_is_new F⟩
    · exact ⟨hk _ _ (N p hp).1, (N p hp).2⟩
end

end
section
theorem flushLCd : True ∧ True := by (w_top off); (first | (walk1; done) | exact ⟨True.intro, True.intro⟩)
/-! a comprehension over the keys of a dict of the ledger -/
open LCg in
noncomputable def CSrcD (prog : Program) (w : World) (A : Around) (h₀ : Heap) (L : Addr) (m : Str → Option Value) (env : Env) (elt : Expr) (x : Str) (scope : Scope) (cl : List (Str × Addr)) (Fin : Shared → Addr → List Value → Led → Prop) (xv : Value) (s₁ : Shared) : Prop :=
  ∃ (cs fz rest : Led) (Acc : Nat → List Value → Led → Prop) (d : Addr) (o : Obj) (kvs : List (Str × Value)), xv = .ref d ∧ A.handled = none ∧ (d, o) ∈ rest ∧ o.IsDictOf (PySem.strKind prog w) kvs ∧ (d == sysModules) = false ∧ Fr h₀ L s₁.heap m ∧ News h₀ L s₁.heap (cs ++ (fz ++ rest)) ∧ Tups fz ∧
    Acc 0 [] fz ∧ kvs.length ≤ sizeLine ∧
    (∀ i y u t ys fz₁ oI C oC D m₂ h tk E' I, kvs[i]? = some (y, u) → NsObj oC m₂ → m₂ x = some (.str y t) → Fr h₀ L h m → News h₀ L h ((I, oI) :: (C, oC) :: (D, PySem.W.listOf ys.toArray ys.length) :: (cs ++ (fz₁ ++ rest))) → Sub fz fz₁ → Tups fz₁ → Acc i ys fz₁ → ys.length ≤ i →
      wpAny (model prog w) A (eval elt (compEnvC scope cl C env)) (fun y s₄ => CDone h₀ L m s₁ I oI C oC D (PySem.W.listOf ys.toArray ys.length) (fun _ : Unit => cs) fz rest (fun i ys fz _ => Acc i ys fz) (i + 1) (ys ++ [y]) s₄) E' { s₁ with heap := h, toks := tk }) ∧
    ∀ D ys fz' h tk, Fr h₀ L h m → News h₀ L h ((D, PySem.W.listOf ys.toArray ys.length) :: (cs ++ (fz' ++ rest))) → Off rest D → Sub fz fz' → Tups fz' → Acc kvs.length ys fz' → ys.length ≤ kvs.length →
      Fin { s₁ with heap := h, toks := tk } D ys ((D, PySem.W.listOf ys.toArray ys.length) :: (cs ++ (fz' ++ rest)))
section
open LCg
variable {prog : Program} {w : World} {A : Around} {E : Value → Shared → Prop} {s : Shared} {h₀ : Heap} {L : Addr} {m : Str → Option Value} {env : Env}
theorem comp_evalD {elt iter : Expr} {x : Str} {px : Pos} {scope : Scope} {cl : List (Str × Addr)} {pos : Pos} {Q : Value → Shared → Prop} (_F₀ : Fr h₀ L s.heap m)
    (hclos : closureFor scope env = pure cl) (hcell : ∀ y ∈ scope.names, y.2 ≠ .cell) (hkind : scope.kind = .function)
    (hnames : ∀ y ∈ scope.names, y.2 = .local → scope.names.lookup y.1 = some .local) (hx : scope.names.lookup x = some .local)
    (h : wpAny (model prog w) A (eval iter env) (CSrcD prog w A h₀ L m env elt x scope cl (FinE h₀ L m Q)) E s)
    (hs : ∀ x, foldedSetIterable iter env x = pure x := by intro _; rfl) :
    wpAny (model prog w) A (eval (.ListComp elt [⟨.Name x px, iter, [], 0⟩] scope pos) env) Q E s := by
  rw [eval_ListComp]
  refine wpAny_comprehension_free (use := none) rfl hs hclos hkind hnames (wpAny_mono h (fun xv s₁ h₁ => ?_) fun _ _ e => e)
  obtain ⟨cs, fz, rest, Acc, d, o, kvs, rfl, hh, hm, hd, hnm, F, N, hz, ha, hsz, turn, fin⟩ := h₁
  obtain ⟨es, ep, hr⟩ := hd
  have inR : ∀ {h : Heap} {fz' : Led}, News h₀ L h (cs ++ (fz' ++ rest)) → h.get? d = some o := fun N' => (N' _ (List.mem_append.mpr (.inr (List.mem_append.mpr (.inr hm))))).1
  have hD : s₁.heap.DictAt (PySem.strKind prog w) d kvs ep := ⟨o, es, inR N, hr⟩
  have hlt : d < s₁.heap.objs.size := Heap.lt_size (inR N)
  have up : ∀ (o : Obj) b o', s₁.heap.get? b = some o' → (s₁.heap.push o).get? b = some o' := fun o b o' e => Heap.get?_push_of_some _ e
  refine wpAny_pyIter_dict hnm hD ?_
  refine comp_block (σ := Unit) (c₀ := ()) (RR := fun acc C => compPost (model prog w) A E none Q acc C) (s₂ := { s₁ with heap := s₁.heap.push { cls := .type "dict_keyiterator", data := .fields #[.ref d, .int 0 0, .int kvs.length 0, .int ep 0] } }) (cs := fun _ => cs) (Acc := fun i ys fz _ => Acc i ys fz)
    (Walks.dictKeys (knd := PySem.strKind prog w) hh s₁.heap.objs.size d (Nat.ne_of_lt hlt) kvs ep) hsz (fun i h st => ?_) (fun i h h' fz' c st e k' N' S' => ?_) (fun _ => rfl) hcell hkind hx ⟨⟨_, Heap.get?_push_size _ rfl, rfl, rfl⟩, ⟨o, es, up _ _ _ (inR N), hr⟩⟩ (fun b hb => ?_)
    (F.push _) (fun p hp => ⟨up _ _ _ (N p hp).1, (N p hp).2⟩) hz (Nat.ne_of_lt F.ns.lt) (next_is_new F) (fun p hp => Nat.ne_of_lt (Heap.lt_size (N p hp).1)) ha ?_ ?_
  · obtain ⟨oi, e, c1, _⟩ := st.1
    exact ⟨oi, e, fun _ _ q => by rw [q] at c1; exact absurd (Value.type.inj c1) (by decide)⟩
  · obtain ⟨oi, e', r⟩ := st.1
    exact ⟨⟨oi, e.trans e', r⟩, ⟨o, es, inR N', hr⟩⟩
  · show b < (s₁.heap.push _).objs.size
    rw [Heap.size_push]
    rcases List.mem_cons.mp hb with rfl | hb
    · exact Nat.lt_succ_self _
    · rw [List.mem_singleton.mp hb]; exact Nat.lt_succ_of_lt hlt
  · intro i v ys fz₁ c oI C oC D m₂ h tk E' hi hP hC hx' F' N' _ off S' Z' A' l'
    obtain ⟨y, u, hk, hv⟩ := hP
    obtain ⟨t, rfl⟩ : ∃ t, v = .str y t := by
      exact PySem.Value.isStrOf_shape hv
    refine wpAny_tests_nil ?_
    simp only [if_true]
    exact turn i y u t ys fz₁ oI C oC D m₂ h tk E' _ hk hC hx' F' N' S' Z' A' l'
  · intro D C h tk m' ys fz' c F' N' o1 hn hC₀ _ hCL hDL hCD offC S' Z' A' l'
    refine ⟨m', hn, fun h'' hs'' => ?_⟩
    have F'' := F'.change hs'' hCL hC₀
    have N'' : News h₀ L h'' ((D, PySem.W.listOf ys.toArray ys.length) :: (cs ++ (fz' ++ rest))) := fun p hp => ⟨hs''.extBut _ _ (by
      rcases List.mem_cons.mp hp with rfl | hp
      · exact Ne.symm hCD
      · exact offC p hp) (N' p hp).1, (N' p hp).2⟩
    exact fin D ys fz' h'' tk F'' N'' ⟨fun p hp => o1 p (List.mem_append.mpr (.inr hp))⟩ S' Z' A' l' F'' N''
end

end
section
theorem flushLMrA : True ∧ True := by (w_top off); (first | (walk1; done) | exact ⟨True.intro, True.intro⟩)
/-! what _law_marks_right wants -/
/-- the code tables of regions_in and of _law_marks_right -/
structure CT where
  t5 : Led
  t6 : Led
  m5 : Made 54 (S "regions_in.<locals>.noted") ⟨39, 4, 41, 21⟩ t5
  m6 : Made 165 (S "_law_marks_right.<locals>.<lambda>") ⟨203, 27, 203, 51⟩ t6
noncomputable abbrev ctR (tl : Led) (c : CT) : Led := c.t5 ++ (c.t6 ++ tl)
section
variable {prog : Program} {w : World} {A : Around} {E : Value → Shared → Prop} {s : Shared} {h₀ : Heap} {L : Addr} {led : Led} {Q : Value → Shared → Prop}
theorem eqv_self_names : ∀ l : List Bool, PyData.eqvAll (l.map fun b => .str (pname b)) (l.map fun b => .str (pname b)) = true
  | [] => rfl
  | x :: l => by simp only [List.map_cons, PyData.eqvAll, PyData.eqv, beq_self_eq_true, Bool.true_and, eqv_self_names l]
theorem ne_names {a b : Addr} {vs ws : List Value} {i j : Nat} {l : List Bool} (N : News h₀ L s.heap led) (ha : (a, PySem.W.listOf vs.toArray i) ∈ led) (hb : (b, PySem.W.listOf ws.toArray j) ∈ led) (h1 : StrAll vs l) (h2 : StrAll ws l) (hu : A.units + 64 < cLine) (k : Q (.bool false) s) : wpAny (model prog w) A (compareOp .NotEq (.ref a) (.ref b)) Q E s := by
  have sh : SeqAt.shaped (.list (l.map fun b => .str (pname b))) = true := by
    unfold SeqAt.shaped
    simp only [PyData.canLay0, PyData.depth, (names_lay l).1, (names_lay l).2, Bool.true_and]
    decide
  refine ne_dataH (reads_list_at (N _ ha).1 rfl rfl (by simpa using h1.reads)) (reads_list_at (N _ hb).1 rfl rfl (by simpa using h2.reads)) sh sh hu ?_
  rw [show PyData.eqv (.list (l.map fun b => .str (pname b))) (.list (l.map fun b => .str (pname b))) = true from eqv_self_names l]
  exact k
theorem RegAll.reads {h : Heap} {vs : List Value} {rs : List Reg} (x : RegAll vs rs) : ∃ as, ReadsAll h vs (rs.map regPy) as := by
  induction x with
  | nil => exact ⟨_, .nil⟩
  | cons a _ ih => obtain ⟨_, i⟩ := ih; obtain ⟨_, j⟩ := rd_reg (h := h) a; exact ⟨_, .cons j i⟩
theorem regs_lay (l : List Reg) : PyData.canLayAll0 (l.map regPy) = true ∧ PyData.depthAll (l.map regPy) = 0 := by
  induction l with
  | nil => exact ⟨rfl, rfl⟩
  | cons x l ih => simp only [List.map_cons, PyData.canLayAll0, PyData.depthAll, (regPy_lay x).1, (regPy_lay x).2, ih.1, ih.2]; exact ⟨rfl, rfl⟩
theorem eqv_self_regs : ∀ l : List Reg, PyData.eqvAll (l.map regPy) (l.map regPy) = true
  | [] => rfl
  | x :: l => by
    have e : PyData.eqv (regPy x) (regPy x) = true := by rw [regPy_eqv]; exact decide_eq_true rfl
    simp only [List.map_cons, PyData.eqvAll, e, Bool.true_and, eqv_self_regs l]
theorem ne_regs {a b : Addr} {vs ws : List Value} {i j : Nat} {l : List Reg} (N : News h₀ L s.heap led) (ha : (a, PySem.W.listOf vs.toArray i) ∈ led) (hb : (b, PySem.W.listOf ws.toArray j) ∈ led) (h1 : RegAll vs l) (h2 : RegAll ws l) (hu : A.units + 64 < cLine) (k : Q (.bool false) s) : wpAny (model prog w) A (compareOp .NotEq (.ref a) (.ref b)) Q E s := by
  have sh : SeqAt.shaped (.list (l.map regPy)) = true := by
    unfold SeqAt.shaped
    simp only [PyData.canLay0, PyData.depth, (regs_lay l).1, (regs_lay l).2, Bool.true_and]
    decide
  obtain ⟨_, r1⟩ := h1.reads (h := s.heap)
  obtain ⟨_, r2⟩ := h2.reads (h := s.heap)
  refine ne_dataH (reads_list_at (N _ ha).1 rfl rfl (by simpa using r1)) (reads_list_at (N _ hb).1 rfl rfl (by simpa using r2)) sh sh hu ?_
  rw [show PyData.eqv (.list (l.map regPy)) (.list (l.map regPy)) = true from eqv_self_regs l]
  exact k
end
theorem unk_unkL : ∀ T, unk T = !decide (unkL T = [])
  | .ref _ _ t => by simp only [unk, unkL]; exact unk_unkL t
  | .box t => by simp only [unk, unkL]; exact unk_unkL t
  | .array t => by simp only [unk, unkL]; exact unk_unkL t
  | .pair t u => by
    simp only [unk, unkL, unk_unkL t, unk_unkL u]
    by_cases h1 : unkL t = [] <;> by_cases h2 : unkL u = [] <;> simp [h1, h2]
  | .adt _ _ t u => by
    simp only [unk, unkL, unk_unkL t, unk_unkL u]
    by_cases h1 : unkL t = [] <;> by_cases h2 : unkL u = [] <;> simp [h1, h2]
  | .param _ => rfl
  | .int _ => rfl
  | .bool => rfl
  | .never => rfl
  | .unit => rfl
  | .var => rfl
  | .intvar => rfl
theorem unkL_low (T : Ty) : ∀ U ∈ unkL T, height U ≤ 20 := by
  induction T with
  | ref r m t ih => exact ih
  | box t ih => exact ih
  | array t ih => exact ih
  | pair t u i1 i2 => intro U h; rcases List.mem_append.mp h with h | h; exact i1 U h; exact i2 U h
  | adt r q t u i1 i2 => intro U h; rcases List.mem_append.mp h with h | h; exact i1 U h; exact i2 U h
  | var => intro U h; rw [List.mem_singleton.mp h]; exact Nat.zero_le _
  | intvar => intro U h; rw [List.mem_singleton.mp h]; exact Nat.zero_le _
  | _ => intro U h; exact absurd h (by simp [unkL])
/-- the call of marks with three new lists -/
theorem marks_call {w : World} {T : Ty} {v : Value} {D0 D1 D2 Fd : Addr} {k0 k1 k2 kf : Nat} {more fz own rest : Led}
    {loose : List Str} {mean : ExcName → Option Value} {mg mb : Str → Option Value} {dp un : Nat} {gd : Option (List Code)} {cn : Str} {cs : Scope} {a : Addr} {ccd : Value} {cl : List (Str × Addr)} {outer : List Env} {A₀ : Around} {base h₀ : Heap} {L : Addr} {m : Str → Option Value} {s : Shared}
    {Q E : Value → Shared → Prop} (Pt : Part more fz own rest) (hT : TyIn fz v T) (hz : Tups fz) (hs : 2 * size T ≤ 100000)
    (N : News h₀ L s.heap ((Fd, PySem.W.listOf [Value.ref D0, .ref D1, .ref D2].toArray kf) :: (D2, PySem.W.listOf ([] : List Value).toArray k2) :: (D1, PySem.W.listOf ([] : List Value).toArray k1) :: (D0, PySem.W.listOf ([] : List Value).toArray k0) :: more))
    (o0 : ∀ p ∈ more, @LT.lt Nat _ p.1 D0) (o1 : @LT.lt Nat _ D0 D1) (o2 : @LT.lt Nat _ D1 D2) (o3 : @LT.lt Nat _ D2 Fd)
    (B : Below A₀ base outer h₀) (F : Fr h₀ L s.heap m) (X : (hd.heap_1 w.params).In h₀) (Tp : Top topProg loose mean mg mb h₀) (hk : cs.kind = .function) (hd : dp + (12 * height T + 20) < recursionLimit) (hu : un + 8 * (12 * height T + 20) < cLine)
    (k : ∀ fz' (c : MSt) h' tk', Fr h₀ L h' m → News h₀ L h' ((Fd, PySem.W.listOf [Value.ref D0, .ref D1, .ref D2].toArray kf) :: (D2, PySem.W.listOf c.2.2.1.toArray c.2.2.2) :: (D1, PySem.W.listOf c.2.1.1.toArray c.2.1.2) :: (D0, PySem.W.listOf c.1.1.toArray c.1.2) :: (own ++ (fz' ++ rest))) → Sub fz fz' → Tups fz' →
      StrAll c.1.1 (paramsL T) → RegAll c.2.1.1 (regsL T) → TyAll fz' c.2.2.1 (unkL T) → Q (.ref Fd) { s with heap := h', toks := tk' }) :
    wpAny (model PySem.Challenge.rw_ot0007_01.row.prog w) (Ard dp un gd cn cs L a ccd cl outer) (call (.ref 139) [v, .ref Fd]) Q E s := by
  have ho : ∀ (D : Addr), @LE.le Nat _ D0 D → D ≠ Fd → Off ((Fd, PySem.W.listOf [Value.ref D0, .ref D1, .ref D2].toArray kf) :: (own ++ rest)) D := fun D h1 h2 => ⟨fun p hp => by
    rcases List.mem_cons.mp hp with rfl | hp
    · exact Ne.symm h2
    · have hm : p ∈ more := Pt.mem p (by
        rcases List.mem_append.mp hp with hp | hp
        · exact .inr (.inl hp)
        · exact .inr (.inr hp))
      have := o0 p hm
      exact neN (by omega)⟩
  have M : MarkAt Fd D0 D1 D2 ((Fd, PySem.W.listOf [Value.ref D0, .ref D1, .ref D2].toArray kf) :: (own ++ rest)) :=
    ⟨⟨kf, .head _⟩, ho D0 (Nat.le_refl _) (neN (by omega)), ho D1 (by omega) (neN (by omega)), ho D2 (by omega) (neN (by omega)), neN (by omega), neN (by omega), neN (by omega)⟩
  have C := law_marks_tel w T (c := (([], k0), ([], k1), ([], k2))) (l0 := []) (l1 := []) (l2 := []) hT hz M ⟨.nil, .nil, .nil⟩ (by simpa using hs)
  refine C loose mean mg mb dp un gd cn cs a ccd cl outer A₀ base h₀ L m s Q E B F X (fun p hp => N p ?_) Tp hk hd hu fun r fz' c' h' tk' F' N' S' Z' p' => ?_
  · simp only [mkR, List.mem_append, List.mem_cons] at hp ⊢
    rcases hp with hp | hp | hp | hp | hp | hp | hp
    · exact .inr (.inr (.inr (.inr (Pt.mem p (.inl hp)))))
    · simp [hp, lO]
    · simp [hp, lO]
    · simp [hp, lO]
    · simp [hp]
    · exact .inr (.inr (.inr (.inr (Pt.mem p (.inr (.inl hp))))))
    · exact .inr (.inr (.inr (.inr (Pt.mem p (.inr (.inr hp))))))
  · obtain ⟨rfl, hm⟩ := p'
    simp only [List.nil_append] at hm
    refine k fz' c' h' tk' F' (fun p hp => N' p ?_) S' Z' hm.names hm.regs hm.unk
    simp only [mkR, List.mem_append, List.mem_cons] at hp ⊢
    rcases hp with hp | hp | hp | hp | hp | hp | hp <;> simp [hp, lO]
section
variable {prog : Program} {w : World} {K : Type} [DecidableEq K] {knd : KeyKind prog w K} {A : Around} {E : Value → Shared → Prop} {s : Shared} {h₀ : Heap} {L d : Addr} {m : Str → Option Value} {led : Led} {o : Obj} {Q : Value → Shared → Prop} {vs : List (Value × Value)} {kvs : List (K × Value)}
theorem made_any (F : Fr h₀ L s.heap m) (N : News h₀ L s.heap ((d, o) :: led)) (l1 : ∀ p ∈ led, p.1 ≠ d) (hd : o.IsDictOf knd []) (hc : Carries knd vs kvs) (hn : (kvs.map (·.1)).Nodup)
    (h : ∀ h' o', Fr h₀ L h' m → News h₀ L h' ((d, o') :: led) → o'.IsDictOf knd kvs → Q (.ref d) { s with heap := h', toks := s.toks + vs.length }) : KdnMade prog w knd d Q vs s := by
  have hm := N (d, o) (.head _)
  refine ⟨kvs, hc, Heap.dictOf_iff.mpr ⟨o, hm.1, hd⟩, fun h' hmm hs => ?_⟩
  rw [merged_nil_of_nodup kvs hn] at hmm
  obtain ⟨o', ho', hd'⟩ := Heap.dictOf_iff.mp hmm
  refine h h' o' (F.change hs hm.2.1 hm.2.2) (fun p hp => ?_) hd'
  rcases List.mem_cons.mp hp with rfl | hp
  · exact ⟨ho', hm.2⟩
  · exact ⟨hs.extBut _ _ (l1 p hp) (N p (.tail _ hp)).1, (N p (.tail _ hp)).2⟩
end
noncomputable def gC : Reg → Reg
  | .none => .c | .a => .none | .b => .n7 | .st => .st | .n3 => .a | r => r
noncomputable def gN : Reg → Reg := fun _ => .none
theorem rmapC {w : World} {t1 t2 t3 t4 : Tok} : RMap w [(Reg.none, .str (S "'c") t1), (.a, .none), (.b, .int 7 t2), (.st, .str (S "'static") t3), (.n3, .str (S "'a") t4)] gC where
  get := fun r hr => by
    simp only [drawnRegs, List.mem_cons, List.not_mem_nil, or_false] at hr
    rcases hr with rfl | rfl | rfl | rfl | rfl <;> exact ⟨_, rfl, by constructor⟩
theorem rmapN {w : World} : RMap w [(Reg.none, .none), (.a, .none), (.b, .none), (.st, .none), (.n3, .none)] gN where
  get := fun r hr => by
    simp only [drawnRegs, List.mem_cons, List.not_mem_nil, or_false] at hr
    rcases hr with rfl | rfl | rfl | rfl | rfl <;> exact ⟨_, rfl, .none⟩
theorem carry5 {prog : Program} {w : World} {t1 t2 t3 t4 : Tok} {x1 x2 x3 x4 x5 : Value} :
    Carries (regKind prog w) [(.none, x1), (.str (S "'a") t1, x2), (.str (S "'b") t2, x3), (.str (S "'static") t3, x4), (.int 3 t4, x5)] [(Reg.none, x1), (.a, x2), (.b, x3), (.st, x4), (.n3, x5)] :=
  ⟨isReg_iff.mpr .none, rfl, isReg_iff.mpr (.a t1), rfl, isReg_iff.mpr (.b t2), rfl, isReg_iff.mpr (.st t3), rfl, isReg_iff.mpr (.n3 t4), rfl, trivial⟩
theorem regsOk_drawn {g : Reg → Reg} : ∀ {T : Ty}, (∀ r ∈ regsL T, r ∈ drawnRegs) → regsOk (chF g) (fun r _ => r ∈ drawnRegs) T () := by
  intro T
  induction T with
  | ref r m t ih => intro h; exact ⟨h r (.head _), ih fun q hq => h q (.tail _ hq)⟩
  | box t ih => intro h; exact ih h
  | array t ih => intro h; exact ih h
  | pair t u i1 i2 => intro h; exact ⟨i1 fun q hq => h q (List.mem_append.mpr (.inl hq)), i2 fun q hq => h q (List.mem_append.mpr (.inr hq))⟩
  | adt r q t u i1 i2 => intro h; exact ⟨h r (.head _), h q (.tail _ (.head _)), i1 fun x hx => h x (.tail _ (.tail _ (List.mem_append.mpr (.inl hx)))), i2 fun x hx => h x (.tail _ (.tail _ (List.mem_append.mpr (.inr hx))))⟩
  | _ => intro h; exact trivial
section
variable {M : Model} {A : Around} {E : Value → Shared → Prop} {s : Shared} {h₀ : Heap} {L a c P : Addr} {m mg mb : Str → Option Value} {cn : Str} {cs : Scope} {ccd : Value} {cl : List (Str × Addr)} {led fz own rest t : Led}
  {p : Program} {loose : List Str} {mean : ExcName → Option Value} {name qual : Str} {params : Arguments} {body : Expr} {scope : Scope} {pos : Pos} {firstLine : Nat} {clos : List (Str × Addr)}
set_option tactic.hygienic true in
theorem made_lam {Q : Value → Shared → Prop} (F : Fr h₀ L s.heap m) (N : News h₀ L s.heap (own ++ (fz ++ (t ++ rest)))) (hz : Tups fz) (Md : Made P qual pos t) (O1 : Off own P) (O2 : Off rest P) (T : Top p loose mean mg mb h₀) (C : CodeHd h₀ c P) (hcd : ccd = .ref c)
    (hcl : closureFor scope (envX cn cs L a ccd cl) = pure clos)
    (h : ∀ f fo c' oc vs tq ctv t' h' tk, fo = kla_obj name qual params body scope clos ((mg "__name__").getD .none) c' ctv → Fr h₀ L h' m → News h₀ L h' ((f, fo) :: (own ++ (fz ++ (t' ++ rest)))) →
      Made P qual pos t' → (c', oc) ∈ t' → oc.data = .fields vs → vs[1]? = some (.str qual tq) → Under (own ++ (fz ++ (t ++ rest))) f → Q (.ref f) { s with heap := h', toks := tk }) :
    wpAny M A (makeFunction name qual params (.expr body) scope (envX cn cs L a ccd cl) [] [] [] pos firstLine) Q E s := by
  have N0 : News h₀ L s.heap (t ++ (own ++ (fz ++ rest))) := fun q hq => N q (by
    simp only [List.mem_append] at hq ⊢
    rcases hq with hq | hq | hq | hq <;> simp [hq])
  have inv : ∀ q ∈ own ++ (fz ++ (t ++ rest)), q ∈ t ++ (own ++ (fz ++ rest)) := fun q hq => by
    simp only [List.mem_append] at hq ⊢
    rcases hq with h | h | h | h <;> simp [h]
  have ofz : ∀ {ps}, (P, tabObj ps) ∈ t → ∀ q ∈ own ++ (fz ++ rest), q.1 ≠ P := fun hm q hq => by
    rcases List.mem_append.mp hq with hq | hq
    · exact O1.off q hq
    · rcases List.mem_append.mp hq with hq | hq
      · exact tups_off hz N0 (fun p hp => by simp [hp]) (N0 _ (List.mem_append_left _ hm)).1 tab_no_tup q hq
      · exact O2.off q hq
  cases Md with
  | new =>
    refine kla_nest F N0 T C hcd (.head (ofz (.head _))) trivial rfl hcl fun f c' oc vs tq ctv h' tk F' N' hd hv l1 l2 => ?_
    refine h f _ c' oc vs tq ctv [(P, tabObj #[rawInt pos.line, rawInt pos.col, .ref c']), (c', oc)] h' tk rfl F' (fun q hq => N' q ?_) (.old hd hv) (.tail _ (.head _)) hd hv ⟨fun q hq => ?_⟩
    · simp only [List.mem_cons, List.mem_append, List.not_mem_nil, or_false] at hq ⊢
      rcases hq with hq | hq | hq | (hq | hq) | hq <;> simp_all
    · exact Nat.lt_trans (l1 q (inv q hq)) l2
  | old hd hv =>
    rename_i c' oc vs tq
    refine kla_hit (c' := c') F N0 T C hcd (.head _) (by simp [TriplesOk, rawInt]) (by simp [codeAmong, rawInt]) hcl fun f ctv h' tk F' N' l1 => ?_
    refine h f _ c' oc vs tq ctv _ h' tk rfl F' (fun q hq => N' q ?_) (.old hd hv) (.tail _ (.head _)) hd hv ⟨fun q hq => ?_⟩
    · simp only [List.mem_cons, List.mem_append, List.not_mem_nil, or_false] at hq ⊢
      rcases hq with hq | hq | hq | (hq | hq) | hq <;> simp_all
    · exact l1 q (inv q hq)
end
noncomputable abbrev mapT (τ : Tab) : Tab := τ.map fun p => (p.1, gone p.2)
inductive PairsT (fz : Led) : List Value → Tab → Prop
  | nil : PairsT fz [] []
  | cons {a x t u n U vs τ} : (a, tupO [.str (pname x) t, u] n) ∈ fz → TyIn fz u U → PairsT fz vs τ → PairsT fz (.ref a :: vs) ((x, U) :: τ)
theorem PairsT.up {fz fz' : Led} {vs : List Value} {τ : Tab} (s : Sub fz fz') (h : PairsT fz vs τ) : PairsT fz' vs τ := by
  induction h with
  | nil => exact .nil
  | cons m k _ ih => exact .cons (s.sub _ m) (k.up s) ih
theorem PairsT.snoc {fz : Led} {vs : List Value} {τ : Tab} {a : Addr} {x : Bool} {t : Tok} {u : Value} {n : Nat} {U : Ty} (h : PairsT fz vs τ) (m : (a, tupO [.str (pname x) t, u] n) ∈ fz) (k : TyIn fz u U) : PairsT fz (vs ++ [.ref a]) (τ ++ [(x, U)]) := by
  induction h with
  | nil => exact .cons m k .nil
  | cons m' k' _ ih => exact .cons m' k' ih
set_option tactic.hygienic true in
theorem PairsT.out {prog : Program} {w : World} {fz : Led} {vs : List Value} {τ : Tab} (h : PairsT fz vs τ) : ∃ ps : List (Str × Value), KV fz ps τ ∧ vs.length = ps.length ∧
    ∀ (j : Nat) (v : Value) (p : Str × Value), vs[j]? = some v → ps[j]? = some p → ∃ T key n, v = .ref T ∧ (T, tupO [key, p.2] n) ∈ fz ∧ (PySem.strKind prog w).is p.1 key = true := by
  induction h with
  | nil => exact ⟨[], .nil, rfl, fun j v p h => by simp at h⟩
  | cons m k _ ih =>
    rename_i a x t u n U vs τ _
    obtain ⟨ps, h1, h2, h3⟩ := ih
    refine ⟨(pname x, u) :: ps, .cons k h1, by simp [h2], fun j v p e1 e2 => ?_⟩
    cases j with
    | zero =>
      simp at e1 e2
      subst e1 e2
      exact ⟨a, _, n, rfl, m, strKind_is _ _ _ _⟩
    | succ j => simp at e1 e2; exact h3 j v p e1 e2
theorem KV.keys {fz : Led} {kvs : List (Str × Value)} {τ : Tab} (h : KV fz kvs τ) : kvs.map (·.1) = τ.map fun p => pname p.1 := by
  induction h with
  | nil => rfl
  | cons a _ ih => simp [ih]
theorem KV.get {fz : Led} {kvs : List (Str × Value)} {τ : Tab} (h : KV fz kvs τ) {i : Nat} {y : Str} {u : Value} (e : kvs[i]? = some (y, u)) : ∃ x T, τ[i]? = some (x, T) ∧ y = pname x ∧ TyIn fz u T := by
  induction h generalizing i with
  | nil => simp at e
  | cons a _ ih =>
    cases i with
    | zero => simp at e; obtain ⟨rfl, rfl⟩ := e; exact ⟨_, _, rfl, rfl, a⟩
    | succ i => simp at e; simpa using ih e
theorem names_nodup {τ : Tab} (h : (τ.map (·.1)).Nodup) : (τ.map fun p => pname p.1).Nodup := by
  have e : (τ.map fun p => pname p.1) = (τ.map (·.1)).map pname := by rw [List.map_map]; rfl
  rw [e]
  rw [List.Nodup, List.pairwise_map]
  exact List.Pairwise.imp (fun hne q => hne (pname_inj.mp q)) h
theorem value_get {kvs : List (Str × Value)} (hn : (kvs.map (·.1)).Nodup) {i : Nat} {y : Str} {u : Value} (e : kvs[i]? = some (y, u)) : valueAt kvs y = some u := by
  induction kvs generalizing i with
  | nil => simp at e
  | cons p kvs ih =>
    simp only [List.map_cons, List.nodup_cons] at hn
    cases i with
    | zero => simp at e; subst e; simp [valueAt]
    | succ i =>
      simp at e
      have hm : (y, u) ∈ kvs := List.mem_of_getElem? e
      have hne : p.1 ≠ y := fun q => hn.1 (List.mem_map.mpr ⟨_, hm, q.symm⟩)
      have := ih hn.2 e
      simp only [valueAt, List.find?_cons, decide_eq_false hne] at this ⊢
      exact this
theorem lk_map (τ : Tab) (x : Bool) : lk (mapT τ) x = (lk τ x).map gone := by
  induction τ with
  | nil => rfl
  | cons p τ ih =>
    simp only [lk, mapT, List.map_cons, List.find?_cons] at ih ⊢
    by_cases h : p.1 = x
    · simp [h]
    · simp only [h, decide_false]; exact ih
theorem gone_subst (τ : Tab) : ∀ T, gone (subst τ T) = subst (mapT τ) (gone T)
  | .param x => by
    show gone ((lk τ x).getD (.param x)) = (lk (mapT τ) x).getD (.param x)
    rw [lk_map]
    cases lk τ x <;> rfl
  | .ref r m t => by show Ty.ref .none m (gone (subst τ t)) = Ty.ref .none m (subst (mapT τ) (gone t)); rw [gone_subst τ t]
  | .box t => by show Ty.box (gone (subst τ t)) = Ty.box (subst (mapT τ) (gone t)); rw [gone_subst τ t]
  | .array t => by show Ty.array (gone (subst τ t)) = Ty.array (subst (mapT τ) (gone t)); rw [gone_subst τ t]
  | .pair t u => by show Ty.pair (gone (subst τ t)) (gone (subst τ u)) = Ty.pair (subst (mapT τ) (gone t)) (subst (mapT τ) (gone u)); rw [gone_subst τ t, gone_subst τ u]
  | .adt r q t u => by show Ty.adt .none .none (gone (subst τ t)) (gone (subst τ u)) = Ty.adt .none .none (subst (mapT τ) (gone t)) (subst (mapT τ) (gone u)); rw [gone_subst τ t, gone_subst τ u]
  | .int _ => rfl
  | .bool => rfl
  | .never => rfl
  | .unit => rfl
  | .var => rfl
  | .intvar => rfl
theorem subst_height {τ : Tab} {n : Nat} (h : ∀ p ∈ τ, height p.2 ≤ n) : ∀ T, height (subst τ T) ≤ height T + n
  | .param x => by
    show height ((lk τ x).getD (.param x)) ≤ _
    cases e : lk τ x with
    | none => simp [height]
    | some U => have := h _ (lk_mem e); simp only [Option.getD, height] at this ⊢; omega
  | .ref r m t => by have := subst_height h t; simp only [subst, height]; omega
  | .box t => by have := subst_height h t; simp only [subst, height]; omega
  | .array t => by have := subst_height h t; simp only [subst, height]; omega
  | .pair t u => by have := subst_height h t; have := subst_height h u; simp only [subst, height]; omega
  | .adt r q t u => by have := subst_height h t; have := subst_height h u; simp only [subst, height]; omega
  | .int _ => by simp [subst, height]
  | .bool => by simp [subst, height]
  | .never => by simp [subst, height]
  | .unit => by simp [subst, height]
  | .var => by simp [subst, height]
  | .intvar => by simp [subst, height]
section
open LCg
variable {prog : Program} {w : World} {A : Around} {s₁ : Shared} {h₀ : Heap} {L : Addr} {m : Str → Option Value} {env : Env}
end

end
section
theorem flushLJ13 : True ∧ True := by (w_top off); (first | (walk1; done) | exact ⟨True.intro, True.intro⟩)
/-! the small logic: what the law itself wants -/
section
variable {w : World} {cs : Scope} {cl : List (Str × Addr)} {c : Cx w cs cl} {m : Str → Option Value} {own fz rest : Led} {pos p1 p2 p3 p4 p5 px : Pos} {k k2 : Nat} {P : Value → Led → Led → Prop} {B : Bool → Led → Led → Prop} {e e0 e1 e2 : Expr} {R : Flow → (Str → Option Value) → Led → Led → Prop}
/-- a call that gives back a list of its own -/
theorem JH.telL {f : Addr} {vs : List Value} {d : Nat} {P' : List Value → Led → Prop} (C : Tups fz → TelL w f vs fz (own ++ rest) d P') (hd : c.dp + d < recursionLimit) (hu : c.un + 8 * d < cLine) (h : ∀ D vals k f', Off (own ++ rest) D → Sub fz f' → P' vals f' → P (.ref D) ((D, PySem.W.listOf vals.toArray k) :: own) f') (hk : cs.kind = .function := by rfl) : JH c m own fz rest (call (.ref f) vs) P := fun s Q E a q =>
  C a.Z c.loose c.mean c.mg c.mb c.dp c.un c.gd c.cn cs c.a c.ccd cl c.outer c.A₀ c.base c.h₀ c.L m s Q E c.B a.F c.X (fun p hp => a.N p (led_swap hp)) c.TP hk hd hu fun D vals k f' h' tk' F' N' O' S' T' p' => q (.ref D) ((D, PySem.W.listOf vals.toArray k) :: own) f' h' tk' ⟨F', news_backL N', T'⟩ S' (h D vals k f' O' S' p')
theorem JE.dict0 (h : ∀ d o, (∀ p ∈ own ++ (fz ++ rest), p.1 < d) → (d == sysModules) = false → o.IsDictOf (sk w) [] → P (.ref d) ((d, o) :: own) fz) : JE c m own fz rest (.Dict [] [] pos) P := fun s Q E _ a q =>
  newDict_K a.F a.N (Top.nolimit c.TP) fun d h' o F' N' l lo hd _ _ _ => q (.ref d) ((d, o) :: own) fz h' s.toks ⟨F', N', a.Z⟩ Sub.refl (h d o l lo hd)
/-- dict(list of pairs) -/
theorem JE.dictOf (j : JE c m own fz rest e (fun v o f => ∃ (b : Addr) (vs : List Value) (n : Nat) (ps : List (Str × Value)), v = .ref b ∧ (b, PySem.W.listOf vs.toArray n) ∈ o ++ (f ++ rest) ∧ vs.length = ps.length ∧ ps.length ≤ 1000 ∧ (ps.map (·.1)).Nodup ∧
      (∀ (j : Nat) v (p : Str × Value), vs[j]? = some v → ps[j]? = some p → ∃ T key n, v = .ref T ∧ (T, tupO [key, p.2] n) ∈ f ∧ (sk w).is p.1 key = true) ∧ ∀ d ob, (d == sysModules) = false → ob.IsDictOf (sk w) ps → P (.ref d) ((d, ob) :: o) f))
    (hk : cs.kind = .function := by rfl) (hx2 : (∀ cn L a ccd, (envX cn cs L a ccd cl).kindOf (Str.ofString "dict") = some .globalImplicit) := by intros; rfl) (he : ∀ env, starEach [e] env = (false, eval e env) :: starEach [] env := by intro _; rfl) :
    JE c m own fz rest (.Call (.Name (Str.ofString "dict") p1) [e] [] pos) P := by
  have kf9 : Mine.hd.heap_1 w.params = Mine.hd.heap_1 w.params ∧ PySem.Challenge.rw_ot0007_01 = PySem.Challenge.rw_ot0007_01 := by k_fill; exact ⟨rfl, rfl⟩
  clear kf9
  intro s Q E hE a q
  have F := a.F
  have X := c.X
  have T := c.TP
  refine Call_ (nameX_B F X (topRead_of T) (by k_is) (v := .type "dict") (by boot_by_name) (by decide) ?_ hk (hx2 ..))
  refine PyProof.Rows.callWith_type1 ?_ (he _) rfl
  refine args_cons (j s _ E hE a fun v o f h tk a1 S1 ⟨b, vs, n, ps, e, hm, hl, hz, hn, hp, hq⟩ => ?_) (he _)
  subst e
  refine args_nil (dict_P (knd := sk w) rfl a1.F a1.N (Top.nolimit c.TP) hm hl hz hn (fun j v p e1 e2 => ?_) fun D h' tk' o9 F' N' _ lo hd => q (.ref D) ((D, o9) :: o) f h' tk' ⟨F', N', a1.Z⟩ S1 (hq D o9 lo hd))
  obtain ⟨T, key, n, e, hT, hkey⟩ := hp j v p e1 e2
  exact ⟨T, key, n, e, List.mem_append.mpr (.inr (List.mem_append.mpr (.inl hT))), hkey⟩
/-- a comprehension over the keys of a dict -/
theorem JE.compD {d : Addr} {ob : Obj} {kvs : List (Str × Value)} {elt iter : Expr} {x : Str} {scope : Scope} {cl' : List (Str × Addr)} (Acc : Nat → List Value → Led → Prop) (V : EV c m own fz rest iter (fun _ => .ref d)) (hm : (d, ob) ∈ rest) (hd : ob.IsDictOf (sk w) kvs) (hnm : (d == sysModules) = false) (hsz : kvs.length ≤ sizeLine) (h0 : Acc 0 [] fz)
    (turn : ∀ i y u t ys f C oC m₂ I oI D, kvs[i]? = some (y, u) → Sub fz f → Acc i ys f → LCg.NsObj oC m₂ → m₂ x = some (.str y t) →
      JH c m ((I, oI) :: (C, oC) :: (D, PySem.W.listOf ys.toArray ys.length) :: own) f rest (eval elt (compEnvC scope cl' C c.env)) (fun y o2 f2 => o2 = (I, oI) :: (C, oC) :: (D, PySem.W.listOf ys.toArray ys.length) :: own ∧ Acc (i + 1) (ys ++ [y]) f2))
    (fin : ∀ D ys f, Sub fz f → Acc kvs.length ys f → ys.length ≤ kvs.length → P (.ref D) ((D, PySem.W.listOf ys.toArray ys.length) :: own) f)
    (hclos : ∀ cn L a ccd, closureFor scope (envX cn cs L a ccd cl) = pure cl' := by intros; rfl) (hcell : ∀ y ∈ scope.names, y.2 ≠ .cell := by decide) (hkind : scope.kind = .function := by rfl) (hnames : ∀ y ∈ scope.names, y.2 = .local → scope.names.lookup y.1 = some .local := by decide) (hx : scope.names.lookup x = some .local := by rfl)
    (hs : ∀ env y, foldedSetIterable iter env y = pure y := by intros; rfl) : JE c m own fz rest (.ListComp elt [⟨.Name x px, iter, [], 0⟩] scope pos) P := fun s Q E hE a q =>
  comp_evalD a.F (hclos ..) hcell hkind hnames hx (V s _ E hE a fun _ tk => ⟨own, fz, rest, Acc, d, ob, kvs, rfl, rfl, hm, hd, hnm, a.F, a.N, a.Z, h0, hsz, fun i y u t ys f1 oI C oC D m₂ h1 tk1 E' I hk9 hC hx9 F' N' S' Z' A' _ =>
      turn i y u t ys f1 C oC m₂ I oI D hk9 S' A' hC hx9 _ _ E' ⟨F', N', Z'⟩ fun y o2 f2 h2 tk2 a2 S2 ⟨e, A2⟩ => by
        subst e
        exact ⟨f2, (), h2, tk2, rfl, a2.F, a2.N, S2.step S', a2.Z, A2⟩,
    fun D ys f1 h1 tk1 F' N' _ S' Z' A' l' F2 N2 => q (.ref D) ((D, PySem.W.listOf ys.toArray ys.length) :: own) f1 h1 tk1 ⟨F2, N2, Z'⟩ S' (fin D ys f1 S' A' l')⟩) (hs _)
/-- a comprehension over a tuple or a list, told after its source -/
theorem JE.compU {elt iter : Expr} {x : Str} {scope : Scope} {cl' : List (Str × Addr)} (G : List Value → Led → Led → Prop) (Acc : List Value → Nat → List Value → Led → Prop)
    (j : JE c m own fz rest iter (fun v o f => ∃ ax vs, v = .ref ax ∧ SrcOk (fun _ : Unit => o) f rest ax vs ∧ vs.length ≤ sizeLine ∧ G vs o f ∧ Acc vs 0 [] f))
    (turn : ∀ vs o0 f0, Sub fz f0 → G vs o0 f0 → ∀ i v ys f C oC m₂ I oI D, vs[i]? = some v → Sub f0 f → Acc vs i ys f → LCg.NsObj oC m₂ → m₂ x = some v → (∀ p ∈ o0 ++ rest, p.1 ≠ I ∧ p.1 ≠ C ∧ p.1 ≠ D) →
      JH c m ((I, oI) :: (C, oC) :: (D, PySem.W.listOf ys.toArray ys.length) :: o0) f rest (eval elt (compEnvC scope cl' C c.env)) (fun y o2 f2 => o2 = (I, oI) :: (C, oC) :: (D, PySem.W.listOf ys.toArray ys.length) :: o0 ∧ Acc vs (i + 1) (ys ++ [y]) f2))
    (fin : ∀ vs o0 f0, Sub fz f0 → G vs o0 f0 → ∀ D ys f, Sub f0 f → Acc vs vs.length ys f → ys.length ≤ vs.length → P (.ref D) ((D, PySem.W.listOf ys.toArray ys.length) :: o0) f)
    (hclos : ∀ cn L a ccd, closureFor scope (envX cn cs L a ccd cl) = pure cl' := by intros; rfl) (hcell : ∀ y ∈ scope.names, y.2 ≠ .cell := by decide) (hkind : scope.kind = .function := by rfl) (hnames : ∀ y ∈ scope.names, y.2 = .local → scope.names.lookup y.1 = some .local := by decide) (hx : scope.names.lookup x = some .local := by rfl)
    (hs : ∀ env y, foldedSetIterable iter env y = pure y := by intros; rfl) : JE c m own fz rest (.ListComp elt [⟨.Name x px, iter, [], 0⟩] scope pos) P := fun s Q E hE a q =>
  comp_eval a.F (hclos ..) hcell hkind hnames hx (j s _ E hE a fun v o f h tk a1 S1 ⟨ax, vs, e, hS, hsz, hG, h0⟩ => by
    subst e
    refine ⟨Unit, fun _ => o, (), f, rest, fun i ys f _ => Acc vs i ys f, ax, vs, rfl, rfl, hS, fun _ => rfl, a1.F, a1.N, a1.Z, h0, hsz, fun i v ys f1 g oI C oC D m₂ h1 tk1 E' I hi hv hC hx9 F' N' d1 d2 S' Z' A' l' => ?_, fun D ys f1 g h1 tk1 F' N' o1 _ S' Z' A' l' F2 N2 => q (.ref D) ((D, PySem.W.listOf ys.toArray ys.length) :: o) f1 h1 tk1 ⟨F2, N2, Z'⟩ (S'.step S1) (fin vs o f S1 hG D ys f1 S' A' l')⟩
    refine wpAny_tests_nil ?_
    rw [if_pos rfl]
    exact turn vs o f S1 hG i v ys f1 C oC m₂ I oI D hv S' A' hC hx9 d2 _ _ E' ⟨F', N', Z'⟩ fun y o2 f2 h2 tk2 a2 S2 ⟨e, A2⟩ => by
      subst e
      exact ⟨f2, (), h2, tk2, rfl, a2.F, a2.N, S2.step S', a2.Z, A2⟩) (hs _)
theorem CV.itemTab {env : Env} {d : Addr} {o : Obj} {kvs : List (Str × Value)} {x : Str} {t : Tok} {v : Value} (V0 : CV c m own fz rest e1 env (.ref d)) (V1 : CV c m own fz rest e2 env (.str x t)) (hm : (d, o) ∈ own ++ (fz ++ rest)) (hd : o.IsDictOf (sk w) kvs) (hl : valueAt kvs x = some v)
    (hs : subscripted e2 false (.ref d) (.str x t) = operate [.ref d, .str x t] (getItem (.ref d) (.str x t)) := by with_unfolding_all rfl) (hg : ∀ r, letTemporaryGo e1 (.ref d) r = pure () := by intro _; with_unfolding_all rfl) : CV c m own fz rest (.Subscript e1 e2 pos) env v := fun s Q E a q =>
  Subscript_ (V0 s _ E a fun tk => V1 _ _ E a fun tk2 => item_tab a.N hm hd hl (q _) hs hg)
/-- a pair in any frame -/
theorem JH.pair {env : Env} {v1 : Value} (V1 : CV c m own fz rest e1 env v1) (j : JH c m own fz rest (eval e2 env) (fun v o f => ∀ D, P (.ref D) o ((D, tupO [v1, v] 0) :: f))) (h1 : starEach [e1, e2] env = (false, eval e1 env) :: starEach [e2] env := by rfl) (h2 : starEach [e2] env = (false, eval e2 env) :: starEach [] env := by rfl) : JH c m own fz rest (eval (.Tuple [e1, e2] k pos) env) P := fun s Q E a q =>
  Tuple_ (args_cons (V1 s _ E a fun tk => args_cons (j _ _ E a fun v o f h tk2 a2 S p => args_nil (kup_newTuple a2.F a2.N (fun D h' F' N' _ => q (.ref D) o ((D, tupO [v1, v] 0) :: f) h' tk2 ⟨F', fun x hx => N' x (led_new hx), Tups.cons a2.Z⟩ (Sub.cons S) (p D)) (Nat.le_of_ble_eq_true rfl))) h2) h1)
theorem JG.neNames {a b : Addr} {vs ws : List Value} {i j : Nat} {l : List Bool} (ha : (a, PySem.W.listOf vs.toArray i) ∈ own) (hb : (b, PySem.W.listOf ws.toArray j) ∈ own) (h1 : StrAll vs l) (h2 : StrAll ws l) (hu : c.un + 64 < cLine) (h : P (.bool false) own fz) : JG c m own fz rest (compareOp .NotEq (.ref a) (.ref b)) P := fun s _ _ _ a q =>
  ne_names a.N (List.mem_append.mpr (.inl ha)) (List.mem_append.mpr (.inl hb)) h1 h2 hu (q _ own fz s.heap s.toks a Sub.refl h)
/-- matched -/
theorem JH.match {A T : Ty} {v u : Value} {d : Addr} {o : Obj} {own0 : Led} {τ τ' : Tab} {b : Bool} (hP : TyIn fz v A) (hT : TyIn fz u T) (h1 : height A ≤ 20) (h2 : height T ≤ 20) (h3 : Fair A T) (ho : Off (own0 ++ rest) d) (nm : (d == sysModules) = false) (D : DictIs w fz o τ) (hb : matchF A T τ = (b, τ')) (hin : ∀ p ∈ (d, o) :: own0, p ∈ own)
    (hd : c.dp + (12 * height A + 20) < recursionLimit) (hu : c.un + 8 * (12 * height A + 20) < cLine) (h : ∀ f' o', Sub fz f' → DictIs w f' o' τ' → P (.bool b) ((d, o') :: own0) f') (hk : cs.kind = .function := by rfl) : JH c m own fz rest (call (.ref 92) [v, u, .ref d]) P :=
  JH.telS (st := o) (Rl := dR d (own0 ++ rest)) (fun Z => matched_tel (w := w) h1 h2 h3 Sub.refl hP hT Z ⟨ho, nm⟩ D) hd hu (fun p hp => by
    simp only [dR, List.mem_append, List.mem_cons] at hp ⊢
    rcases hp with hp | hp | hp | hp
    · exact .inr (.inl hp)
    · exact .inl (hin p (hp ▸ List.mem_cons_self ..))
    · exact .inl (hin p (List.mem_cons_of_mem _ hp))
    · exact .inr (.inr hp)) (fun r f' o' S p => ⟨(d, o') :: own0, fun p hp => by
    exact mvT [[_], own0, f', rest] (.a (.a (.s 0) (.s 1)) (.a (.s 2) (.s 3))) (.a (.s 2) (.a (.s 0) (.a (.s 1) (.s 3)))) hp, by
      obtain ⟨e, q⟩ := p
      rw [hb] at e q
      obtain ⟨⟨kvs, i1, i2⟩, q2, q3⟩ := q
      exact e ▸ h f' o' S ⟨⟨kvs, i1, i2.up S⟩, q2, q3⟩⟩) hk
end

end
section
theorem flushLMrB : True ∧ True := by (w_top off); (first | (walk1; done) | exact ⟨True.intro, True.intro⟩)
/-! _law_marks_right: plain laws -/
theorem Made.tab {P : Addr} {q : Str} {pos : Pos} {t : Led} (M : Made P q pos t) : ∃ ps, (P, tabObj ps) ∈ t ∧ ∀ (y : Str) (u : Tok), ps[1]? ≠ some (.str y u) := by
  cases M with
  | new => exact ⟨_, .head _, fun y u => by simp⟩
  | old h4 h5 => exact ⟨_, .head _, fun y u => by simp [rawInt]⟩
theorem made_off {h₀ h : Heap} {L x P : Addr} {q q' : Str} {pos pos' : Pos} {led t t' : Led} (N : News h₀ L h led) (M : Made P q pos t) (M' : Made x q' pos' t') (ht : ∀ p ∈ t, p ∈ led) (ht' : ∀ p ∈ t', p ∈ led) (hP : x ≠ P) : Off t x := ⟨fun p hp e => by
  obtain ⟨ps, hc, hn⟩ := M'.tab
  have h1 := (N _ (ht p hp)).1
  have h2 := (N _ (ht' _ hc)).1
  rw [e, h2] at h1
  have h3 : tabObj ps = p.2 := Option.some.inj h1
  cases M with
  | new => exact hP (by rw [← e, List.mem_singleton.mp hp])
  | old h4 h5 =>
    rcases List.mem_cons.mp hp with rfl | hp
    · exact hP e.symm
    · rw [List.mem_singleton.mp hp] at h3
      dsimp only at h3
      rw [← h3] at h4
      cases h4
      exact hn _ _ h5⟩
theorem wr_height {σ : Type} {f : Reg → σ → Reg × σ} : ∀ {T : Ty} {c : σ}, height (wrS f T c).1 = height T := by
  intro T
  induction T with
  | ref r m t ih => intro c; simp only [wrS, height, ih]
  | box t ih => intro c; simp only [wrS, height, ih]
  | array t ih => intro c; simp only [wrS, height, ih]
  | pair t u i1 i2 => intro c; simp only [wrS, height, i1, i2]
  | adt r q t u i1 i2 => intro c; simp only [wrS, height, i1, i2]
  | _ => intro c; rfl
theorem gone_height {T : Ty} : height (gone T) = height T := wr_height
end
section
theorem flushLJ14 : True ∧ True := by (w_top off); (first | (walk1; done) | exact ⟨True.intro, True.intro⟩)
/-! the small logic: two cells, a lambda, a dict with mixed keys, a list unpacked -/
section
variable {w : World} {cs : Scope} {cl : List (Str × Addr)} {c : Cx w cs cl} {m : Str → Option Value} {own fz rest : Led} {pos p1 p2 p3 p4 p5 px : Pos} {k k2 : Nat} {P : Value → Led → Led → Prop} {B : Bool → Led → Led → Prop} {e e0 e1 e2 : Expr} {R : Flow → (Str → Option Value) → Led → Led → Prop} {more : List Stmt}
/-- x, y, z = e, where e gives a list of three -/
theorem JX.list3 {x y z : Str} (j : JE c m own fz rest e (fun v o f => ∃ b n v1 v2 v3, v = .ref b ∧ (b, PySem.W.listOf [v1, v2, v3].toArray n) ∈ o ∧ JX c (upd (upd (upd m x v1) y v2) z v3) o f rest more R)) (hk : cs.kind = .function := by rfl) (hx : (∀ cn L a ccd, (envX cn cs L a ccd cl).kindOf x = some .local) := by intros; rfl) (hy : (∀ cn L a ccd, (envX cn cs L a ccd cl).kindOf y = some .local) := by intros; rfl) (hz : (∀ cn L a ccd, (envX cn cs L a ccd cl).kindOf z = some .local) := by intros; rfl)
    (hs : ∀ env, swapsWithSole [.Tuple [.Name x p1, .Name y p2, .Name z p3] k p4] e pos.line env = pure false := by intro _; rfl) (hw : ∀ cn L a ccd, swappedStores [.Tuple [.Name x p1, .Name y p2, .Name z p3] k p4] e (envX cn cs L a ccd cl) = pure none := by intros; with_unfolding_all rfl) : JX c m own fz rest (.Assign [.Tuple [.Name x p1, .Name y p2, .Name z p3] k p4] e pos :: more) R := fun s Q E hE a q =>
  wpAny_execs_cons (Assign_Tuple (j s _ E hE a fun v o f h tk a' S ⟨b, n, v1, v2, v3, ev, hb, j'⟩ => by
    subst ev
    exact kun_list (items := #[v1, v2, v3]) a'.F a'.N (a'.N.isList (List.mem_append.mpr (.inl hb))) rfl rfl rfl fun h2 F2 N2 => assignInOrder_cons (wpAny_assign_Name (storeX_L F2 N2 (fun h3 F3 N3 => assignInOrder_cons (wpAny_assign_Name (storeX_L F3 N3 (fun h4 F4 N4 => assignInOrder_cons (wpAny_assign_Name (storeX_L F4 N4 (fun h5 F5 N5 => assignInOrder_nil (j' _ Q E hE ⟨F5, N5, a'.Z⟩ fun fl m' o' f' h6 tk6 a6 S6 r => q fl m' o' f' h6 tk6 a6 (S6.step S) r)) hk (hz ..)))) hk (hy ..)))) hk (hx ..)))) (hs _) (hw ..))
/-- a dict's display, keys of any kind -/
theorem JE.dictK {K : Type} [DecidableEq K] (knd : KeyKind PySem.Challenge.rw_ot0007_01.row.prog w K) {keys : List (Option Expr)} {values : List Expr} (hall : keys.all (·.isSome) = true) (hl : keys.length = values.length) (h0 : keys ≠ []) (hlen : Nat.ble keys.length 15 = true)
    (j : ∀ d o, (∀ p ∈ own ++ (fz ++ rest), p.1 < d) → (d == sysModules) = false → JD c m ((d, o) :: own) fz rest pos keys values (fun prs o1 f => o1 = (d, o) :: own ∧ f = fz ∧ ∃ kvs : List (K × Value), Carries knd prs kvs ∧ (kvs.map (·.1)).Nodup ∧ ∀ o', o'.IsDictOf knd kvs → P (.ref d) ((d, o') :: own) f)) : JE c m own fz rest (.Dict keys values pos) P := fun s Q E hE a q =>
  kdn_eval (knd := knd) a.F a.N (Top.nolimit c.TP) hall hl h0 (Nat.le_of_ble_eq_true hlen) fun d h1 o F1 N1 l1 nm hd => j d o l1 nm _ _ E hE ⟨F1, N1, a.Z⟩ fun prs o1 f h2 tk2 a2 S2 ⟨e, e', kvs, hk, hn, hp⟩ => by
    subst e e'
    exact made_any (led := own ++ (f ++ rest)) a2.F a2.N (fun p hp => Nat.ne_of_lt (l1 p hp)) hd hk hn fun h3 o3 F3 N3 d3 => q _ ((d, o3) :: own) f h3 _ ⟨F3, N3, a2.Z⟩ S2 (hp o3 d3)
/-- a lambda -/
theorem JE.lam {params : Arguments} {body : Expr} {scope' : Scope} {clos : List (Str × Addr)} {c0 P0 : Addr} {qual : Str} {t own0 : Led} (hq : c.env.qual ++ "<lambda>" = qual) (hdef : ∀ env, defaultsOf params env = ([], [])) (Md : Made P0 qual pos t) (O1 : Off own0 P0) (O2 : Off rest P0) (C : CodeHd c.h₀ c0 P0) (hcc : c.ccd = .ref c0) (hin : ∀ p ∈ t ++ own0, p ∈ own) (hcl : closureFor scope' c.env = pure clos)
    (h : ∀ f c' oc vs tq ctv pm t', Made P0 qual pos t' → (c', oc) ∈ t' → oc.data = .fields vs → vs[1]? = some (.str qual tq) → (∀ p ∈ own0 ++ (t ++ rest), p.1 < f) → P (.ref f) ((f, kla_obj "<lambda>" qual params body scope' clos pm c' ctv) :: (t' ++ own0)) fz) : JE c m own fz rest (.Lambda params body scope' pos) P := fun s Q E _ a q => by
  refine kla_eval (hdef _) ?_
  rw [hq]
  refine made_lam (own := own0) (fz := fz) (t := t) (rest := rest) a.F (fun p hp => a.N p ?_) a.Z Md O1 O2 c.TP C hcc hcl fun f fo c' oc vs tq ctv t' h' tk e F' N' M' m1 d1 v1 U => ?_
  · simp only [List.mem_append] at hp ⊢
    rcases hp with hp | hp | hp | hp
    · exact .inl (hin p (List.mem_append.mpr (.inr hp)))
    · exact .inr (.inl hp)
    · exact .inl (hin p (List.mem_append.mpr (.inl hp)))
    · exact .inr (.inr hp)
  · subst e
    refine q (.ref f) ((f, kla_obj "<lambda>" qual params body scope' clos ((c.mg "__name__").getD .none) c' ctv) :: (t' ++ own0)) fz h' tk ⟨F', fun p hp => N' p ?_, a.Z⟩ Sub.refl (h f c' oc vs tq ctv _ t' M' m1 d1 v1 fun p hp => U.lt p ?_)
    · exact mvT [[_], t', own0, fz, rest] (.a (.a (.s 0) (.a (.s 1) (.s 2))) (.a (.s 3) (.s 4))) (.a (.s 0) (.a (.s 2) (.a (.s 3) (.a (.s 1) (.s 4))))) hp
    · exact mvT [own0, fz, t, rest] (.a (.s 0) (.a (.s 2) (.s 3))) (.a (.s 0) (.a (.s 1) (.a (.s 2) (.s 3)))) hp
/-- a call that gives back a list of its own and fills its maker's code table -/
theorem JH.telM {f : Addr} {vs : List Value} {Md : Led → Prop} {t own0 : Led} {d : Nat} {Pp : List Value → Prop} (C : Tups fz → TelM w f vs fz (own0 ++ rest) Md t d Pp) (hin : ∀ p ∈ t ++ own0, p ∈ own) (hd : c.dp + d < recursionLimit) (hu : c.un + 8 * d < cLine)
    (h : ∀ D vals k t' f', Md t' → Off (t ++ (own0 ++ rest)) D → Sub fz f' → Pp vals → P (.ref D) ((D, PySem.W.listOf vals.toArray k) :: (t' ++ own0)) f') (hk : cs.kind = .function := by rfl) : JH c m own fz rest (call (.ref f) vs) P := fun s Q E a q =>
  C a.Z c.loose c.mean c.mg c.mb c.dp c.un c.gd c.cn cs c.a c.ccd cl c.outer c.A₀ c.base c.h₀ c.L m s Q E c.B a.F c.X (fun p hp => a.N p (by
    simp only [List.mem_append] at hp ⊢
    rcases hp with hp | hp | hp | hp
    · exact .inr (.inl hp)
    · exact .inl (hin p (List.mem_append.mpr (.inl hp)))
    · exact .inl (hin p (List.mem_append.mpr (.inr hp)))
    · exact .inr (.inr hp))) c.TP hk hd hu fun D vals k t' f' h' tk' F' N' M' O' S' T' p' => q (.ref D) ((D, PySem.W.listOf vals.toArray k) :: (t' ++ own0)) f' h' tk' ⟨F', fun p hp => N' p (by
    exact mvT [[_], t', own0, f', rest] (.a (.a (.s 0) (.a (.s 1) (.s 2))) (.a (.s 3) (.s 4))) (.a (.s 0) (.a (.s 3) (.a (.s 1) (.a (.s 2) (.s 4))))) hp), T'⟩ S' (h D vals k t' f' M' O' S' p')
theorem JG.neRegs {a b : Addr} {vs ws : List Value} {i j : Nat} {l : List Reg} (ha : (a, PySem.W.listOf vs.toArray i) ∈ own) (hb : (b, PySem.W.listOf ws.toArray j) ∈ own) (h1 : RegAll vs l) (h2 : RegAll ws l) (hu : c.un + 64 < cLine) (h : P (.bool false) own fz) : JG c m own fz rest (compareOp .NotEq (.ref a) (.ref b)) P := fun s _ _ _ at9 q =>
  ne_regs at9.N (List.mem_append.mpr (.inl ha)) (List.mem_append.mpr (.inl hb)) h1 h2 hu (q _ own fz s.heap s.toks at9 Sub.refl h)
/-- _law_marks with three new lists -/
theorem JH.marks {T : Ty} {v : Value} {D0 D1 D2 Fd : Addr} {k0 k1 k2 kf : Nat} (hT : TyIn fz v T) (hs : 2 * size T ≤ 100000) (o0 : ∀ p ∈ own ++ (fz ++ rest), @LT.lt Nat _ p.1 D0) (o1 : @LT.lt Nat _ D0 D1) (o2 : @LT.lt Nat _ D1 D2) (o3 : @LT.lt Nat _ D2 Fd) (hd : c.dp + (12 * height T + 20) < recursionLimit) (hu : c.un + 8 * (12 * height T + 20) < cLine)
    (h : ∀ f' (g : MSt), Sub fz f' → StrAll g.1.1 (paramsL T) → RegAll g.2.1.1 (regsL T) → TyAll f' g.2.2.1 (unkL T) → P (.ref Fd) ((Fd, PySem.W.listOf [Value.ref D0, .ref D1, .ref D2].toArray kf) :: (D2, PySem.W.listOf g.2.2.1.toArray g.2.2.2) :: (D1, PySem.W.listOf g.2.1.1.toArray g.2.1.2) :: (D0, PySem.W.listOf g.1.1.toArray g.1.2) :: own) f') (hk : cs.kind = .function := by rfl) :
    JH c m ((Fd, PySem.W.listOf [Value.ref D0, .ref D1, .ref D2].toArray kf) :: (D2, PySem.W.listOf ([] : List Value).toArray k2) :: (D1, PySem.W.listOf ([] : List Value).toArray k1) :: (D0, PySem.W.listOf ([] : List Value).toArray k0) :: own) fz rest (call (.ref 139) [v, .ref Fd]) P := fun s Q E a q =>
  marks_call (more := own ++ (fz ++ rest)) Part.ownL hT a.Z hs a.N o0 o1 o2 o3 c.B a.F c.X c.TP hk hd hu fun f' g h' tk' F' N' S' Z' q1 q2 q3 => q (.ref Fd) _ f' h' tk' ⟨F', N', Z'⟩ S' (h f' g S' q1 q2 q3)
end
/-- entering a lambda of the ledger -/
theorem tel_lam {w : World} {fz rest : Led} {f c' : Addr} {oc : Obj} {args : List Value} {d : Nat} {P : Value → Led → Prop} {name qual : Str} {params : Arguments} {body : Expr} {scope : Scope} {cl : List (Str × Addr)} {pm ctv : Value} {vs : Array Value} {tq : Tok} {binds : List (Str × Value)} (hf : (f, kla_obj name qual params body scope cl pm c' ctv) ∈ rest) (hc : (c', oc) ∈ rest) (hd : oc.data = .fields vs) (hv : vs[1]? = some (.str qual tq)) (hz : Tups fz)
    (hbind : bindArgs (kla_fn name qual params body scope cl pm (.ref c') ctv) ⟨args, []⟩ = pure binds) (hloc : ∀ y ∈ binds, scope.names.lookup y.1 = some .local) (hco : scope.isCoroutine = false) (hgen : scope.isGenerator = false) (hkd : scope.kind = .function) (hcell : ∀ x ∈ scope.names, x.2 ≠ .cell) (h0 : 0 < d)
    (j : ∀ (c : Cx w scope cl) (m : Str → Option Value), c.dp + d < recursionLimit + 1 → c.un + 8 * d < cLine + 8 → (∀ y, m y = binds.reverse.lookup y) → JE c m [] fz rest body (fun v _ f' => P v f')) : Tel w f args fz rest d P := by
  intro loose mean mg mb dp un gd cn cs a ccd cl₀ outer A₀ base h₀ L m s Q E B F X N T hk hdp hu hret
  refine wpAny_call ?_
  refine kla_code B F X N T rfl rfl hk (List.mem_append.mpr (.inr hf)) (codeRec_news N (List.mem_append.mpr (.inr hc)) hd hv) ?_ hbind hloc ?_ hco hgen hkd hcell
  · show dp < recursionLimit; omega
  · intro g' L' h' FG' F' N' B' X' T'
    let c : Cx w scope cl := { loose, mean, mg, mb, dp := dp + 1, un := un + 3, gd := ((Ard dp un gd cn cs L a ccd cl₀ outer).deeper (envX qual scope L' f (.ref c') cl)).guards, cn := qual, L := L', a := f, ccd := .ref c', outer := envX cn cs L a ccd cl₀ :: outer, A₀ := _, base, h₀ := g', B := B', X := X', TP := T' }
    refine j c (fun y => binds.reverse.lookup y) (by show dp + 1 + d < _; omega) (by show un + 3 + 8 * d < _; omega) (fun _ => rfl) _ _ _ ?hE ⟨F', by simpa using N', hz⟩ fun v o f' h2 tk2 a2 S2 r => ?_
    case hE => with_unfolding_all passes_own
    exact leaveK_ a2.F a2.N fun kF kN => hret _ f' h2 tk2 kF (fun p hp => kN p (List.mem_append.mpr (.inr hp))) S2 a2.Z r
/-- entering a def with two cells, the second one not yet bound, whose own entries may change -/
theorem telS_defC2 {w : World} {fz : Led} {σ : Type} {Rl : σ → Led} {st : σ} {own tl : Led} {f : Addr} {vs : List Value} {d : Nat} {P : Value → Led → σ → Prop} {x y : Str} {v : Value} {name qual : Str} {params : Arguments} {body : List Stmt} {scope : Scope} {dV kV doc pm cdv ct oc : Value} {an od : Option Addr} {osl : Array (Option Value)} {binds : List (Str × Value)}
    (ho : (Mine.hd.heap_1 w.params).lookup f = some ⟨oc, od, .func (fnOf name qual params body scope dV kV doc pm an cdv ct), osl⟩) (hcd : codeIn (Mine.hd.heap_1 w.params) cdv qual = true)
    (hbind : ∀ s, BindsTo s (fnOf name qual params body scope dV kV doc pm an cdv ct) ⟨vs, []⟩ binds) (hloc : (binds.all fun y => scope.names.lookup y.1 == some .local || scope.names.lookup y.1 == some .cell) = true) (hnd : ((cellsFrom 0 scope.names []).map (·.1)).Nodup) (hco : scope.isCoroutine = false) (hgen : scope.isGenerator = false) (hkd : scope.kind = .function)
    (hcf : ∀ n, cellsFrom n scope.names [] = [(y, n + 1), (x, n)]) (hcv : ∀ L', bindC (envOfC qual scope L' f cdv).kindOf binds (fun _ => none) x = some v) (hz : Tups fz) (hin : ∀ p ∈ own ++ (fz ++ tl), p ∈ fz ++ Rl st)
    (j : ∀ (ca : Addr) (oa ob : Obj) (v0 : Option Value) (c : Cx w scope [(y, ca + 1), (x, ca)]) (m : Str → Option Value) (R : Flow → (Str → Option Value) → Led → Led → Prop), oa.data = .cell (some v) → ob.data = .cell v0 → (∀ p ∈ fz ++ Rl st, @LT.lt Nat _ p.1 ca) → c.ccd = cdv → c.cn = qual → c.dp + d < recursionLimit + 1 → c.un + 8 * d < cLine + 8 → (∀ y, m y = bindL (envOfC qual scope c.L f cdv).kindOf binds (fun _ => none) y) → (∀ v m o f st', P v f st' → (∀ p ∈ f ++ Rl st', p ∈ o ++ (f ++ tl)) → R (.ret v) m o f) → JX c m ((ca, oa) :: (ca + 1, ob) :: own) fz tl body R) : TelS w (.ref f) vs fz Rl st d P := by
  intro loose mean mg mb dp un gd cn cs a ccd cl outer A₀ base h₀ L m s Q E B F X N T hk hdp hu hret
  refine wpAny_call ?_
  refine code_defC B F X N T rfl rfl hk ho hcd ?_ (hbind s) hloc hnd ?_ hco hgen hkd
  · show dp < recursionLimit; omega
  · intro g' L' h' tk cells FG' F' N' Y B' X' T' lt
    rw [hcf] at Y
    obtain ⟨ob, oa, e, hob, hoa⟩ := Y.two
    subst e
    rw [hcv] at hoa
    have ecl : cellsFrom (L' + 1) scope.names [] = [(y, L' + 1 + 1), (x, L' + 1)] := hcf _
    let c : Cx w scope [(y, L' + 1 + 1), (x, L' + 1)] := { loose, mean, mg, mb, dp := dp + 1, un := un + 3, gd := ((Ard dp un gd cn cs L a ccd cl outer).deeper (envX qual scope L' f cdv [(y, L' + 1 + 1), (x, L' + 1)])).guards, cn := qual, L := L', a := f, ccd := cdv, outer := envX cn cs L a ccd cl :: outer, A₀ := _, base, h₀ := g', B := B', X := X', TP := T' }
    have J := j (L' + 1) oa ob _ c (bindL (envOfC qual scope L' f cdv).kindOf binds fun _ => none) (fun fl _ o f => ∃ st', P (match fl with | .ret v => v | _ => .none) f st' ∧ ∀ p ∈ f ++ Rl st', p ∈ o ++ (f ++ tl)) hoa hob (fun p hp => Nat.lt_succ_of_lt (lt p hp)) rfl rfl (by show dp + 1 + d < _; omega) (by show un + 3 + 8 * d < _; omega) (fun _ => rfl) (fun v m o f st' p h => ⟨st', p, h⟩)
    have e1 : envOfC qual scope L' f cdv = c.env := by
      show envOfC qual scope L' f cdv = envX qual scope L' f cdv [(y, L' + 1 + 1), (x, L' + 1)]
      rw [← ecl]; rfl
    have e2 : (Ard dp un gd cn cs L a ccd cl outer).deeper c.env = c.A := rfl
    rw [e1, e2]
    refine J _ _ _ ?hE ⟨F', fun p hp => N' p (by
      rcases List.mem_cons.mp hp with rfl | hp
      · exact List.mem_append.mpr (.inl (List.mem_cons_of_mem _ (List.mem_cons_self ..)))
      · rcases List.mem_cons.mp hp with rfl | hp
        · exact List.mem_append.mpr (.inl (List.mem_cons_self ..))
        · exact List.mem_append.mpr (.inr (hin p hp))), hz⟩ fun fl m' o f' h2 tk2 a2 S2 ⟨st', r, hh⟩ => ?_
    case hE => with_unfolding_all passes_own
    exact leaveK_ a2.F a2.N fun kF kN => hret _ f' st' h2 tk2 kF (fun p hp => kN p (hh p hp)) S2 a2.Z r

end
section
theorem flushLPrA : True ∧ True := by (w_top off); (first | (walk1; done) | exact ⟨True.intro, True.intro⟩)
/-! what _law_put_right wants -/
noncomputable def valT (τ : Tab) (x : Bool) : Ty := (lk τ x).getD (.param x)
noncomputable def tabOf (τ : Tab) (l : List Bool) : Tab := l.map fun x => (x, gone (valT τ x))
theorem lk_tabOf (τ : Tab) (l : List Bool) (x : Bool) : lk (tabOf τ l) x = if x ∈ l then some (gone (valT τ x)) else none := by
  induction l with
  | nil => rfl
  | cons y l ih =>
    simp only [lk, tabOf, List.map_cons, List.find?_cons] at ih ⊢
    by_cases h : y = x
    · subst h; simp
    · have h' : ¬ x = y := fun e => h e.symm
      simp only [h, decide_false, List.mem_cons, h', false_or]
      exact ih
theorem one_gone {t t' : Ty} {τ τ' : Tab} (h : matchF t t' τ = (true, τ')) : seqM [matchF t] [t'] τ = (true, τ') := by
  show (if (matchF t t' τ).1 = true then (true, (matchF t t' τ).2) else matchF t t' τ) = _
  rw [h]; rfl
theorem two_gone {t t' u u' : Ty} {τ τ' τ2 : Tab} (h : matchF t t' τ = (true, τ')) (k : matchF u u' τ' = (true, τ2)) : seqM [matchF t, matchF u] [t', u'] τ = (true, τ2) := by
  show (if (matchF t t' τ).1 = true then seqM [matchF u] [u'] (matchF t t' τ).2 else matchF t t' τ) = _
  rw [h]; exact one_gone k
theorem match_gone (τ : Tab) : ∀ T l, unk T = false → matchF (gone T) (gone (subst τ T)) (tabOf τ l) = (true, tabOf τ ((paramsL T).foldl addNew l))
  | .param x, l, _ => by
    show matchF (.param x) (gone (valT τ x)) (tabOf τ l) = (true, tabOf τ (addNew l x))
    show (lk (tabOf τ l) x).elim _ _ = _
    rw [lk_tabOf]
    by_cases h : x ∈ l
    · simp [h, addNew]
    · simp [h, addNew, tabOf]
  | .ref r m t, l, h => one_gone (match_gone τ t l h)
  | .box t, l, h => one_gone (match_gone τ t l h)
  | .array t, l, h => one_gone (match_gone τ t l h)
  | .pair t u, l, h => by
    simp only [unk, Bool.or_eq_false_iff] at h
    rw [show paramsL (.pair t u) = paramsL t ++ paramsL u from rfl, List.foldl_append]
    exact two_gone (match_gone τ t l h.1) (match_gone τ u _ h.2)
  | .adt r q t u, l, h => by
    simp only [unk, Bool.or_eq_false_iff] at h
    rw [show paramsL (.adt r q t u) = paramsL t ++ paramsL u from rfl, List.foldl_append]
    exact two_gone (match_gone τ t l h.1) (match_gone τ u _ h.2)
  | .int a, l, _ => congrArg (·, tabOf τ l) (decide_eq_true rfl)
  | .bool, l, _ => rfl
  | .never, l, _ => rfl
  | .unit, l, _ => rfl
  | .var, _, h => by cases h
  | .intvar, _, h => by cases h
theorem fair_gone (τ : Tab) : ∀ T, unk T = false → Fair (gone T) (gone (subst τ T))
  | .param _, _ => .param
  | .ref _ _ t, h => .ref (fair_gone τ t h)
  | .box t, h => .box (fair_gone τ t h)
  | .array t, h => .array (fair_gone τ t h)
  | .pair t u, h => .pair (fair_gone τ t (Bool.or_eq_false_iff.mp h).1) (fair_gone τ u (Bool.or_eq_false_iff.mp h).2)
  | .adt _ _ t u, h => .adt (fair_gone τ t (Bool.or_eq_false_iff.mp h).1) (fair_gone τ u (Bool.or_eq_false_iff.mp h).2)
  | .int _, _ => .int
  | .bool, _ => .bool
  | .never, _ => .never
  | .unit, _ => .unit
  | .var, h => nomatch h
  | .intvar, h => nomatch h
theorem subst_nil : ∀ T, subst [] T = T
  | .param x => rfl
  | .ref r m t => by simp only [subst, subst_nil t]
  | .box t => by simp only [subst, subst_nil t]
  | .array t => by simp only [subst, subst_nil t]
  | .pair t u => by simp only [subst, subst_nil t, subst_nil u]
  | .adt r q t u => by simp only [subst, subst_nil t, subst_nil u]
  | .int _ => rfl
  | .bool => rfl
  | .never => rfl
  | .unit => rfl
  | .var => rfl
  | .intvar => rfl
theorem subst_closed (τ : Tab) : ∀ T, paramsL T = [] → subst τ T = T
  | .param x, h => by simp [paramsL] at h
  | .ref r m t, h => by simp only [subst, subst_closed τ t h]
  | .box t, h => by simp only [subst, subst_closed τ t h]
  | .array t, h => by simp only [subst, subst_closed τ t h]
  | .pair t u, h => by simp only [paramsL, List.append_eq_nil_iff] at h; simp only [subst, subst_closed τ t h.1, subst_closed τ u h.2]
  | .adt r q t u, h => by simp only [paramsL, List.append_eq_nil_iff] at h; simp only [subst, subst_closed τ t h.1, subst_closed τ u h.2]
  | .int _, _ => rfl
  | .bool, _ => rfl
  | .never, _ => rfl
  | .unit, _ => rfl
  | .var, _ => rfl
  | .intvar, _ => rfl
theorem subst_two {A B : Ty} (hA : paramsL A = []) : ∀ T, subst [(false, B)] (subst [(true, A)] T) = subst [(true, A), (false, B)] T
  | .param true => subst_closed _ A hA
  | .param false => rfl
  | .ref r m t => by simp only [subst, subst_two hA t]
  | .box t => by simp only [subst, subst_two hA t]
  | .array t => by simp only [subst, subst_two hA t]
  | .pair t u => by simp only [subst, subst_two hA t, subst_two hA u]
  | .adt r q t u => by simp only [subst, subst_two hA t, subst_two hA u]
  | .int _ => rfl
  | .bool => rfl
  | .never => rfl
  | .unit => rfl
  | .var => rfl
  | .intvar => rfl
theorem params_whole {A B : Ty} (hA : paramsL A = []) (hB : paramsL B = []) : ∀ T, paramsL (subst [(true, A), (false, B)] T) = []
  | .param true => hA
  | .param false => hB
  | .ref r m t => params_whole hA hB t
  | .box t => params_whole hA hB t
  | .array t => params_whole hA hB t
  | .pair t u => by simp only [subst, paramsL, params_whole hA hB t, params_whole hA hB u, List.append_nil]
  | .adt r q t u => by simp only [subst, paramsL, params_whole hA hB t, params_whole hA hB u, List.append_nil]
  | .int _ => rfl
  | .bool => rfl
  | .never => rfl
  | .unit => rfl
  | .var => rfl
  | .intvar => rfl
section
variable {A : Around} {s : Shared} {fz : Led}
theorem eqAt_ty (L : Live s.heap fz) {v x : Value} {T : Ty} (hT : TyIn fz v T) (hU : TyIn fz x T) (t : height T ≤ 20) (hu : A.units + 64 < cLine) : SeqAt.EqAt A s v x true := by
  obtain ⟨_, a⟩ := hT.reads L
  obtain ⟨_, b⟩ := hU.reads L
  obtain ⟨l, _, _, _, rfl, _⟩ := hT.head
  obtain ⟨r, _, _, _, rfl, _⟩ := hU.head
  by_cases e : l = r
  · subst e; exact SeqAt.EqAt.same _
  · refine SeqAt.EqAt.of_refs e fun prog w E Q hq => ?_
    have h := eq_dataH (prog := prog) (w := w) (E := E) (Q := Q) a b (toPy_shaped t) (toPy_shaped t) hu (by rw [eqv_ty, decide_eq_true rfl]; exact hq)
    exact h
set_option tactic.hygienic true in
theorem keq_all (L : Live s.heap fz) (hu : A.units + 64 < cLine) {kb : List (Str × Value)} {τ : Tab} (KB : KV fz kb τ) (nd : (τ.map (·.1)).Nodup) (low : ∀ p ∈ τ, height p.2 ≤ 20) : ∀ {ka : List (Str × Value)} {σ : Tab}, KV fz ka σ → (∀ p ∈ σ, p ∈ τ) → KeqHits A s kb ka true := by
  intro ka σ KA
  induction KA with
  | nil => intro _; exact .nil
  | cons a _ ih =>
    rename_i x v T kvs σ' _
    intro hs
    have hm := hs _ (List.mem_cons_self ..)
    have hv := KB.at x
    have hlk : lk τ x = some T := by
      clear ih hv KB low hs
      induction τ with
      | nil => cases hm
      | cons p τ ih2 =>
        simp only [List.map_cons, List.nodup_cons] at nd
        simp only [lk, List.find?_cons]
        rcases List.mem_cons.mp hm with rfl | hm
        · simp
        · have hne : ¬ p.1 = x := fun q => nd.1 (List.mem_map.mpr ⟨_, hm, q.symm⟩)
          simp only [hne, decide_false]
          exact ih2 nd.2 hm
    rw [hlk] at hv
    generalize e : valueAt kb (pname x) = ov at hv
    cases hv with
    | some hy =>
      exact KeqHits.hit (e := true) (b := true) e (eqAt_ty L a hy (low _ hm) hu) (ih fun p hp => hs p (List.mem_cons_of_mem _ hp))
end
section
variable {w : World} {A : Around} {E : Value → Shared → Prop} {s : Shared} {h₀ : Heap} {L a b : Addr} {oa ob : Obj} {led fz cs rest : Led} {Q : Value → Shared → Prop} {ka kb : List (Str × Value)} {τ : Tab}
theorem eq_tabs (N : News h₀ L s.heap led) (Pt : Part led fz cs rest) (pa : (a, oa) ∈ led) (pb : (b, ob) ∈ led) (da : oa.IsDictOf (PySem.strKind PySem.Challenge.rw_ot0007_01.row.prog w) ka) (db : ob.IsDictOf (PySem.strKind PySem.Challenge.rw_ot0007_01.row.prog w) kb) (la : (a == sysModules) = false) (lb : (b == sysModules) = false)
    (KA : KV fz ka τ) (KB : KV fz kb τ) (nd : (τ.map (·.1)).Nodup) (low : ∀ p ∈ τ, height p.2 ≤ 20) (hu : A.units + 100 < cLine) (k : Q (.bool true) s) : wpAny (model PySem.Challenge.rw_ot0007_01.row.prog w) A (compareOp .Eq (.ref a) (.ref b)) Q E s :=
  keq_pairs N pa pb da db la lb (by rw [KA.len, KB.len]) (by omega) (keq_all (live_of N Pt) (by show A.in1.units + 64 < cLine; simp only [Around.in1]; omega) KB nd low KA fun p hp => hp) k
end

end
section
theorem flushLPr : True ∧ True := by (w_top off); (first | (walk1; done) | exact ⟨True.intro, True.intro⟩)
/-! _law_put_right, in the small logic -/
theorem JG.eqTabs {w : World} {cs : Scope} {cl : List (Str × Addr)} {c : Cx w cs cl} {m : Str → Option Value} {own fz rest : Led} {P : Value → Led → Led → Prop} {a b : Addr} {oa ob : Obj} {ka kb : List (Str × Value)} {τ : Tab} (pa : (a, oa) ∈ own) (pb : (b, ob) ∈ own) (da : oa.IsDictOf (sk w) ka) (db : ob.IsDictOf (sk w) kb) (la : (a == sysModules) = false) (lb : (b == sysModules) = false)
    (KA : KV fz ka τ) (KB : KV fz kb τ) (nd : (τ.map (·.1)).Nodup) (low : ∀ p ∈ τ, height p.2 ≤ 20) (hu : c.un + 100 < cLine) (h : P (.bool true) own fz) : JG c m own fz rest (compareOp .Eq (.ref a) (.ref b)) P := fun s _ _ _ at9 q =>
  eq_tabs at9.N Part.ownL (List.mem_append.mpr (.inl pa)) (List.mem_append.mpr (.inl pb)) da db la lb KA KB nd low hu (q _ own fz s.heap s.toks at9 Sub.refl h)
theorem new_nodup : ∀ (q l : List Bool), l.Nodup → (q.foldl addNew l).Nodup
  | [], _, h => h
  | x :: q, l, h => new_nodup q (addNew l x) (addNew_le l x ⟨bools_two h, h⟩).2
theorem nd_one {x : Str} {v : Value} {t : Tok} : ((strPairs [(Value.str x t, v)]).map (·.1)).Nodup := by
  show [x].Nodup
  exact List.nodup_cons.mpr ⟨List.not_mem_nil, List.nodup_nil⟩
theorem put_right_walk {w : World} {T A B : Ty} {v vA vB : Value} {fz rest : Led} {d : Addr} {o : Obj} (hT : TyIn fz v T) (hz : Tups fz) (hh : height T ≤ 9) (hm : (d, o) ∈ rest) (hd2 : o.IsDictOf (sk w) [(S "X", vA), (S "Y", vB)]) (hd3 : (d == sysModules) = false)
    (hA : TyIn fz vA A) (hB : TyIn fz vB B) (lA : height A ≤ 2) (lB : height B ≤ 2) (pA : paramsL A = []) (pB : paramsL B = []) : Tel w 173 [v, .ref d] fz rest (24 * height T + 400) (fun r _ => r = .bool true) := by
  have hd4 : KV fz [(S "X", vA), (S "Y", vB)] [(true, A), (false, B)] := .cons (x := true) hA (.cons (x := false) hB .nil)
  have hτ : TabIn w rest fz d [(true, A), (false, B)] := .mk hm hd2 hd3 hd4
  have hlow : ∀ p ∈ [(true, A), (false, B)], height p.2 ≤ 2 := fun p hp => by
    rcases List.mem_cons.mp hp with rfl | hp
    · exact lA
    · exact List.mem_singleton.mp hp ▸ lB
  have hh10 : height T ≤ 10 := Nat.le_succ_of_le hh
  have hh20 : height T ≤ 20 := Nat.le_trans hh (by decide)
  have hsh := subst_height hlow T
  have hw20 : height (subst [(true, A), (false, B)] T) ≤ 20 := by omega
  have hs1 := subst_height (τ := [(true, A)]) (n := 2) (fun p hp => by rw [List.mem_singleton.mp hp]; exact lA) T
  have hpw := params_whole pA pB T
  have he2 := subst_two (B := B) pA T
  have hX : valueAt [(S "X", vA), (S "Y", vB)] (Str.ofString "X") = some vA := rfl
  have hY : valueAt [(S "X", vA), (S "Y", vB)] (Str.ofString "Y") = some vB := rfl
  generalize hq : [(true, A), (false, B)] = τ at *
  have kf9 : Mine.hd.heap_1 w.params = Mine.hd.heap_1 w.params ∧ PySem.Challenge.rw_ot0007_01 = PySem.Challenge.rw_ot0007_01 := by k_fill; exact ⟨rfl, rfl⟩
  clear kf9
  refine' tel_defC ?a0 ?a1 (fun _ => ?a2) ?a3 ?a4 ?a5 ?a6 ?a7 (fun _ => ?a8) (fun _ => ?a9) (hz) ?_
  case a0 => k_is
  case a1 => k_is
  case a2 => exact BindsTo.of_eq rfl
  case a3 => exact rfl
  case a4 => decide +kernel
  case a5 => exact rfl
  case a6 => exact rfl
  case a7 => exact rfl
  case a8 => exact rfl
  case a9 => exact rfl
  intro ca oc c m R hoc hdp hun hb hR
  have htg : m (Str.ofString "thing") = some v := hb _
  clear hb
  have hws : nsIn (Mine.hd.heap_1 w.params) mainGlobals (Str.ofString "substituted") = some (some (.ref 33)) ∧ keepIn (Mine.hd.heap_1 w.params) (.ref 33) = true := ⟨by k_is, by k_is⟩
  have hwl : nsIn (Mine.hd.heap_1 w.params) mainGlobals (Str.ofString "_law_put") = some (some (.ref 132)) ∧ keepIn (Mine.hd.heap_1 w.params) (.ref 132) = true := ⟨by k_is, by k_is⟩
  have hwp : nsIn (Mine.hd.heap_1 w.params) mainGlobals (Str.ofString "params_in") = some (some (.ref 66)) ∧ keepIn (Mine.hd.heap_1 w.params) (.ref 66) = true := ⟨by k_is, by k_is⟩
  have hwe : nsIn (Mine.hd.heap_1 w.params) mainGlobals (Str.ofString "erased") = some (some (.ref 52)) ∧ keepIn (Mine.hd.heap_1 w.params) (.ref 52) = true := ⟨by k_is, by k_is⟩
  have hwu : nsIn (Mine.hd.heap_1 w.params) mainGlobals (Str.ofString "has_unknowns") = some (some (.ref 73)) ∧ keepIn (Mine.hd.heap_1 w.params) (.ref 73) = true := ⟨by k_is, by k_is⟩
  have hwm : nsIn (Mine.hd.heap_1 w.params) mainGlobals (Str.ofString "matched") = some (some (.ref 92)) ∧ keepIn (Mine.hd.heap_1 w.params) (.ref 92) = true := ⟨by k_is, by k_is⟩
  have room : ∀ {n : Nat}, n ≤ 24 * height T + 390 → c.dp + n < recursionLimit ∧ c.un + 8 * n < cLine := fun h => ⟨dl hdp (Nat.le_trans (Nat.succ_le_succ h) (Nat.add_le_add_left (Nat.le_of_ble_eq_true rfl : 391 ≤ 400) _)), ul hun (Nat.le_trans (Nat.succ_le_succ h) (Nat.add_le_add_left (Nat.le_of_ble_eq_true rfl : 391 ≤ 400) _))⟩
  have hu64 : c.un + 64 < cLine := by first | exact ulk (Y := 8) hun rfl | exact uld (Y := 8) hun rfl
  have hu100 : c.un + 100 < cLine := Nat.lt_of_le_of_lt (Nat.add_le_add_left (Nat.le_of_ble_eq_true rfl) _) (uld (Y := 13) hun rfl)
  clear hdp hun
  have hC : (ca, oc) ∈ [(ca, oc)] := List.mem_cons_self ..
  -- whole
  refine JX.set (JE.call hws.1 hws.2 (JA.two (EV.name htg) (EV.cell rfl hC hoc) fun _ _ => (JH.tel (fun Z => substituted_tel hT Z (hτ.app .refl)) (room (by first | exact lin rfl rfl | exact lin0 rfl | omega)).1 (room (by first | exact lin rfl rfl | exact lin0 rfl | omega)).2 fun r1 f1 S1 p1 => ?_).G))
  have hT1 := hT.up S1
  refine JX.ifF (JT.bool (JB.orF ?_))
  refine JT.cmp (JE.V (EV.name rfl) fun _ => ?_)
  refine JE.call hwl.1 hwl.2 (JA.two (EV.name htg) (EV.cell rfl hC hoc) fun _ _ => (JH.tel (fun Z => law_put_tel hh10 hT1 Z (hτ.app S1)) (room (by first | exact lin rfl rfl | exact lin0 rfl | omega)).1 (room (by first | exact lin rfl rfl | exact lin0 rfl | omega)).2 fun r2 f2 S2 p2 => ?_).G)
  refine JG.neTy (p1.up S2) p2 hw20 hu64 ⟨_, rfl, rfl, ?_⟩
  refine JB.orF (JT.cmp ?_)
  refine JE.call hwp.1 hwp.2 (JA.one (EV.name rfl) fun _ => (JH.telL (fun Z => params_tel (p1.up S2) Z hw20) (room (by first | exact lin rfl rfl | exact lin0 rfl | omega)).1 (room (by first | exact lin rfl rfl | exact lin0 rfl | omega)).2 fun D1 vals1 k1 f3 _ S3 q3 => ?_).G)
  rw [hpw] at q3
  refine JE.listN (JA.nil ⟨rfl, fun D2 _ => JG.neNames (List.mem_cons_of_mem _ (List.mem_cons_self ..)) (List.mem_cons_self ..) q3 .nil hu64 ⟨_, rfl, rfl, JB.orNil ⟨rfl, ?_⟩⟩⟩)
  have W := (p1.up S2).up S3
  have S13 := (S3.step S2).step S1
  clear q3 p2 S2 S3 hwl hT1 S1
  refine JX.sub (own2 := [(ca, oc)]) (fun p hp => List.mem_cons_of_mem _ (List.mem_cons_of_mem _ hp)) ?_
  -- one
  have hmR : ∀ {own f : Led}, (d, o) ∈ own ++ (f ++ rest) := List.mem_append.mpr (.inr (List.mem_append.mpr (.inr hm)))
  refine JX.set (JE.call hws.1 hws.2 (JA.cons (JE.V (EV.name htg) fun _ => JA.cons ?_)))
  refine JE.dict rfl rfl (List.cons_ne_nil _ _) rfl fun d1 o1 hd1 nm1 => ?_
  refine JD.cons (JE.V EV.str fun t1 => JE.item (EV.cell rfl (List.mem_cons_of_mem _ hC) hoc) EV.str fun _ _ => JH.itemTab hmR hd2 hX (JD.nil ⟨rfl, rfl, nd_one, fun o' h' => JA.nil ?_⟩))
  have hTn := hT.up S13
  have hAn := hA.up S13
  refine (JH.tel (fun Z => substituted_tel hTn Z (.mk (List.mem_append.mpr (.inl (List.mem_cons_self ..))) h' nm1 (.cons (x := true) hAn .nil))) (room (by first | exact lin rfl rfl | exact lin0 rfl | omega)).1 (room (by first | exact lin rfl rfl | exact lin0 rfl | omega)).2 fun r4 f4 S4 p4 => ?_).G
  refine JX.sub (own2 := [(ca, oc)]) (fun p hp => List.mem_cons_of_mem _ hp) ?_
  have S14 := S4.step S13
  clear hTn hAn h'
  -- the second test
  refine JX.ifF (JT.bool (JB.orF (JT.cmp ?_)))
  refine JE.call hws.1 hws.2 (JA.cons (JE.V (EV.name rfl) fun _ => JA.cons ?_))
  refine JE.dict rfl rfl (List.cons_ne_nil _ _) rfl fun d2 o2 hd5 nm2 => ?_
  refine JD.cons (JE.V EV.str fun t1 => JE.item (EV.cell rfl (List.mem_cons_of_mem _ hC) hoc) EV.str fun _ _ => JH.itemTab hmR hd2 hY (JD.nil ⟨rfl, rfl, nd_one, fun o' h' => JA.nil ?_⟩))
  have hBn := hB.up S14
  refine (JH.tel (fun Z => substituted_tel p4 Z (.mk (List.mem_append.mpr (.inl (List.mem_cons_self ..))) h' nm2 (.cons (x := false) hBn .nil))) (room (by first | exact lin rfl rfl | exact lin0 rfl | omega)).1 (room (by first | exact lin rfl rfl | exact lin0 rfl | omega)).2 fun r5 f5 S5 p5 => ?_).G
  rw [he2] at p5
  refine JE.V (EV.name rfl) fun _ => JG.neTy p5 ((W.up S4).up S5) (hq ▸ hw20) hu64 ⟨_, rfl, rfl, ?_⟩
  have S15 := S5.step S14
  refine JB.orF (JT.cmp ?_)
  refine JE.call hws.1 hws.2 (JA.cons (JE.V (EV.name htg) fun _ => JA.cons ?_))
  refine JE.dict0 fun d3 o3 _ nm3 h3 => JA.nil ?_
  have hTn := hT.up S15
  refine (JH.tel (fun Z => substituted_tel hTn Z (.mk (List.mem_append.mpr (.inl (List.mem_cons_self ..))) h3 nm3 .nil)) (room (by first | exact lin rfl rfl | exact lin0 rfl | omega)).1 (room (by first | exact lin rfl rfl | exact lin0 rfl | omega)).2 fun r6 f6 S6 p6 => ?_).G
  rw [subst_nil] at p6
  refine JE.V (EV.name htg) fun _ => JG.neTy p6 (hTn.up S6) hh20 hu64 ⟨_, rfl, rfl, JB.orNil ⟨rfl, ?_⟩⟩
  refine JX.sub (own2 := [(ca, oc)]) (fun p hp => List.mem_cons_of_mem _ (List.mem_cons_of_mem _ hp)) ?_
  have S16 := S6.step S15
  have W := ((W.up S4).up S5).up S6
  clear hTn p6 h' h3 p5 p4 hBn S13 S14 S15 S4 S5 S6
  -- pattern, found
  refine JX.set2 (JE.tuple (JA.cons (JE.call hwe.1 hwe.2 (JA.one (EV.name htg) fun _ => (JH.tel (fun Z => erased_tel (hT.up S16) Z) (room (by first | exact lin rfl rfl | exact lin0 rfl | omega)).1 (room (by first | exact lin rfl rfl | exact lin0 rfl | omega)).2 fun r7 f7 S7 p7 => ?_).G))))
  refine JA.cons (JE.dict0 fun dF oF lt nmF hF => JA.nil ⟨Nat.le_of_ble_eq_true rfl, fun DT => ⟨DT, 0, _, _, rfl, List.mem_cons_self .., ?_⟩⟩)
  have hoff : Off ([(ca, oc)] ++ rest) dF := .lt fun p hp => lt p (by
    simp only [List.mem_append] at hp ⊢
    rcases hp with hp | hp <;> simp [hp])
  clear lt
  have S17 : Sub fz ((DT, tupO [r7, .ref dF] 0) :: f7) := .cons (S7.step S16)
  have p7 := p7.up (Sub.cons (p := (DT, tupO [r7, .ref dF] 0)) .refl)
  have W := (W.up S7).up (Sub.cons (p := (DT, tupO [r7, .ref dF] 0)) .refl)
  clear S7 S16
  generalize ((DT, tupO [r7, .ref dF] 0) :: f7) = f8 at *
  refine JX.ifr (JT.E (JE.call hwu.1 hwu.2 (JA.one (EV.name htg) fun _ => (JH.tel (fun Z => unknowns_tel (hT.up S17) Z hh20) (room (by first | exact lin rfl rfl | exact lin0 rfl | omega)).1 (room (by first | exact lin rfl rfl | exact lin0 rfl | omega)).2 fun r8 f9 S9 p8 => ⟨_, p8, fun _ => JE.V EV.bool fun _ => hR _ _ _ _ rfl, fun hun => ?_⟩).G)))
  refine JX.ifF (JT.not (JT.E ?_))
  refine JE.call hwm.1 hwm.2 (JA.cons (JE.V (EV.name rfl) fun _ => JA.cons ?_))
  refine JE.call hwe.1 hwe.2 (JA.one (EV.name rfl) fun _ => (JH.tel (fun Z => erased_tel (W.up S9) Z) (room (by first | exact lin rfl rfl | exact lin0 rfl | omega)).1 (room (by first | exact lin rfl rfl | exact lin0 rfl | omega)).2 fun r10 f10 S10 p10 => ?_).G)
  refine JA.cons (JE.V (EV.name rfl) fun _ => JA.nil ?_)
  have S19 := (S10.step S9).step S17
  refine (JH.match (own0 := [(ca, oc)]) ((p7.up S9).up S10) p10 (by rw [gone_height]; exact hh20) (by rw [gone_height]; exact hw20) (fair_gone τ T hun) hoff nmF ⟨⟨[], hF, .nil⟩, List.nodup_nil, fun p hp => nomatch hp⟩ (match_gone τ T [] hun) (fun p hp => hp) (room (by rw [gone_height]; omega)).1 (room (by rw [gone_height]; omega)).2 fun f11 oM S11 DM => ⟨true, rfl, rfl, ?_⟩).G
  obtain ⟨⟨kvM, iM, qM⟩, nM, lM⟩ := DM
  have S20 := S11.step S19
  clear p7 p10 W S9 S10 S11 S17 S19 hF
  refine JX.ret (JE.cmp (JE.V (EV.name rfl) fun _ => JE.dictOf (JE.compU (fun vs o0 f => StrAll vs ((paramsL T).foldl addNew []) ∧ ∃ D k, o0 = (D, PySem.W.listOf vs.toArray k) :: [(dF, oM), (ca, oc)]) (fun vs i ys f => PairsT f ys (tabOf τ (((paramsL T).foldl addNew []).take i))) ?src ?turn ?fin)))
  case src =>
    refine JE.call hwp.1 hwp.2 (JA.one (EV.name htg) fun _ => (JH.telL (fun Z => params_tel (hT.up S20) Z hh20) (room (by first | exact lin rfl rfl | exact lin0 rfl | omega)).1 (room (by first | exact lin rfl rfl | exact lin0 rfl | omega)).2 fun D9 vals k9 f12 _ _ q9 => ⟨_, _, rfl, .inr (.inl ⟨k9, fun _ => List.mem_cons_self ..⟩), ?_, ⟨q9, D9, k9, rfl⟩, .nil⟩).G)
    rw [q9.length]
    exact Nat.le_trans (bools_two (new_nodup (paramsL T) [] List.nodup_nil)) (by decide)
  case turn =>
    rintro vs o0 f0 S0 ⟨hv, D9, k9, rfl⟩ i v' ys f C oC m₂ I oI D e S8 A' hC' hx _
    obtain ⟨x8, t8, e8, rfl⟩ := hv.at e
    have hval : ∃ u, valueAt [(S "X", vA), (S "Y", vB)] (pname x8) = some u ∧ TyIn fz u (valT τ x8) ∧ height (valT τ x8) ≤ 2 := by
      subst hq
      cases x8 with
      | true => exact ⟨vA, hX, hA, lA⟩
      | false => exact ⟨vB, hY, hB, lB⟩
    obtain ⟨u8, hl8, hu8, hh8⟩ := hval
    refine JH.pair (CV.var (List.mem_cons_of_mem _ (List.mem_cons_self ..)) hC' hx) (JH.call1 hwe.1 hwe.2 (CV.itemTab (CV.cell rfl (by simp) hoc) (CV.var (List.mem_cons_of_mem _ (List.mem_cons_self ..)) hC' hx) hmR hd2 hl8) (JH.tel (fun Z => erased_tel ((hu8.up S20).up (S8.step S0)) Z) (room (by first | exact lin rfl rfl | exact lin0 rfl | omega)).1 (room (by first | exact lin rfl rfl | exact lin0 rfl | omega)).2 fun r f' S6 p6 D6 => ⟨rfl, ?_⟩))
    rw [List.take_add_one, e8, Option.toList, tabOf, List.map_append]
    exact PairsT.snoc ((A'.up S6).up (.cons .refl)) (List.mem_cons_self ..) (p6.up (.cons .refl))
  case fin =>
    rintro vs o0 f0 S0 ⟨hv, D9, k9, rfl⟩ D ys f S A' _
    rw [List.take_of_length_le (by rw [hv.length]; exact Nat.le_refl _)] at A'
    obtain ⟨ps, hp1, hp2, hp3⟩ := A'.out (prog := PySem.Challenge.rw_ot0007_01.row.prog) (w := w)
    refine ⟨D, ys, _, ps, rfl, List.mem_cons_self .., hp2, ?_, ?_, hp3, fun dd ob nm h => JG.eqTabs (List.mem_cons_of_mem _ (List.mem_cons_of_mem _ (List.mem_cons_of_mem _ (List.mem_cons_self ..)))) (List.mem_cons_self ..) iM h nmF nm (qM.up (S.step S0)) hp1 nM lM hu100 (hR _ _ _ _ rfl)⟩
    · rw [hp1.len, tabOf, List.length_map]
      exact Nat.le_trans (bools_two (new_nodup (paramsL T) [] List.nodup_nil)) (by decide)
    · rw [hp1.keys]
      exact names_nodup nM

end
section
theorem flushLMr : True ∧ True := by (w_top off); (first | (walk1; done) | exact ⟨True.intro, True.intro⟩)
/-! _law_marks_right, in the small logic -/
theorem nd5 {x1 x2 x3 x4 x5 : Value} : ([(Reg.none, x1), (.a, x2), (.b, x3), (.st, x4), (.n3, x5)].map (·.1)).Nodup := by
  show [Reg.none, .a, .b, .st, .n3].Nodup
  decide
theorem lam_tel {w : World} {g : Reg → Reg} {f : Addr} {fo : Obj} {Rl fz : Led} {v : Value} {T : Ty} (hmem : (f, fo) ∈ Rl) (hfd : ∃ fd, fo.data = .func fd)
    (does : ∀ (cs fz : Led) (r : Reg) (rv : Value), r ∈ drawnRegs → RegV rv r → Tups fz → Tel w f [rv] fz (cs ++ Rl) 8 (fun v _ => RegV v (g r))) (hT : TyIn fz v T) (hz : Tups fz) (hD : Drawn' T) : Tel w 38 [v, .ref f] fz Rl (12 * height T + 28) (fun r fz' => TyIn fz' r (turnT g T)) := by
  obtain ⟨fd, hfd⟩ := hfd
  have ch : ChOk w f (fun _ : Unit => Rl) (fun c => c) (chF g) (fun r _ => r ∈ drawnRegs) 8 := ⟨.led (fo := fo) (fun _ => hmem) hfd, fun _ _ => rfl, fun cs fz r rv c ok hr hz _ =>
    fun loose mean mg mb dp un gd cn cs' a ccd cl outer A₀ base h₀ L m s Q E B F X N T hk hd hu k => does cs fz r rv ok hr hz loose mean mg mb dp un gd cn cs' a ccd cl outer A₀ base h₀ L m s Q E B F X N T hk hd hu fun r' fz' h' tk' F' N' S' T' p' => k r' fz' () h' tk' F' N' S' T' ⟨p', rfl⟩⟩
  exact TelS.tel (reg_all T ch hT hz (regsOk_drawn hD.regs)) fun _ _ _ h => h.1
structure TwoT (w : World) (led fz : Led) (d : Addr) (o : Obj) (kvs : List (Str × Value)) (τ : Tab) : Prop where
  mem : (d, o) ∈ led
  is : o.IsDictOf (PySem.strKind PySem.Challenge.rw_ot0007_01.row.prog w) kvs
  nm : (d == sysModules) = false
  kv : KV fz kvs τ
theorem made_cell {h₀ h : Heap} {L x P : Addr} {q : Str} {pos : Pos} {led t : Led} {o : Obj} {v : Option Value} (N : News h₀ L h led) (M : Made P q pos t) (ht : ∀ p ∈ t, p ∈ led) (hc : (x, o) ∈ led) (hd : o.data = .cell v) (hP : x ≠ P) : Off t x := ⟨fun p hp e => by
  have h1 := (N _ (ht p hp)).1
  have h2 := (N _ hc).1
  rw [e, h2] at h1
  have h3 : o = p.2 := Option.some.inj h1
  cases M with
  | new => exact hP (by rw [← e, List.mem_singleton.mp hp])
  | old h4 h5 =>
    rcases List.mem_cons.mp hp with rfl | hp
    · exact hP e.symm
    · rw [List.mem_singleton.mp hp] at h3
      rw [h3] at hd
      rw [hd] at h4
      cases h4⟩
theorem JX.obs {w : World} {cs : Scope} {cl : List (Str × Addr)} {c : Cx w cs cl} {m : Str → Option Value} {own fz rest : Led} {b : List Stmt} {R : Flow → (Str → Option Value) → Led → Led → Prop} {t5 t6 : Led} {x : Addr} {o : Obj} {v : Option Value} (m5 : Made 54 (S "regions_in.<locals>.noted") ⟨39, 4, 41, 21⟩ t5) (m6 : Made 165 (S "_law_marks_right.<locals>.<lambda>") ⟨203, 27, 203, 51⟩ t6) (i5 : ∀ p ∈ t5, p ∈ own) (i6 : ∀ p ∈ t6, p ∈ own) (hc : (x, o) ∈ own) (hd : o.data = .cell v) (hx : x ≠ 54)
    (j : Off t5 x ∧ Off t5 165 → JX c m own fz rest b R) : JX c m own fz rest b R := fun s Q E hE a q => j ⟨made_cell a.N m5 (fun p hp => List.mem_append.mpr (.inl (i5 p hp))) (List.mem_append.mpr (.inl hc)) hd hx, made_off a.N m5 m6 (fun p hp => List.mem_append.mpr (.inl (i5 p hp))) (fun p hp => List.mem_append.mpr (.inl (i6 p hp))) (by decide)⟩ s Q E hE a q
theorem JE.dictR {w : World} {cs : Scope} {cl : List (Str × Addr)} {c : Cx w cs cl} {m : Str → Option Value} {own fz rest : Led} {pos : Pos} {P : Value → Led → Led → Prop} {keys : List (Option Expr)} {values : List Expr}
    (j : ∀ d o, (∀ p ∈ own ++ (fz ++ rest), p.1 < d) → (d == sysModules) = false → JD c m ((d, o) :: own) fz rest pos keys values (fun prs o1 f => o1 = (d, o) :: own ∧ f = fz ∧ ∃ kvs : List (Reg × Value), Carries (regKind PySem.Challenge.rw_ot0007_01.row.prog w) prs kvs ∧ (kvs.map (·.1)).Nodup ∧ ∀ o', o'.IsDictOf (regKind PySem.Challenge.rw_ot0007_01.row.prog w) kvs → P (.ref d) ((d, o') :: own) f))
    (hall : keys.all (·.isSome) = true := by rfl) (hl : keys.length = values.length := by rfl) (h0 : keys ≠ [] := by exact List.cons_ne_nil _ _) (hlen : Nat.ble keys.length 15 = true := by rfl) : JE c m own fz rest (.Dict keys values pos) P := JE.dictK (regKind _ _) hall hl h0 hlen j
theorem Off.two {x a b : Addr} {oa ob : Obj} {l : Led} (ha : a ≠ x) (hb : b ≠ x) (h : Off l x) : Off ((a, oa) :: (b, ob) :: l) x := ⟨fun p hp => by
  rcases List.mem_cons.mp hp with rfl | hp
  · exact ha
  · rcases List.mem_cons.mp hp with rfl | hp
    · exact hb
    · exact h.off p hp⟩
theorem gt_ne {a b : Addr} (h : @LT.lt Nat _ a b) : b ≠ a := fun e => Nat.lt_irrefl a (by rw [e] at h; exact h)
set_option maxHeartbeats 1000000 in
theorem marks_right_walk {w : World} {T : Ty} {v : Value} {fz tl : Led} {c : CT} {d : Addr} {o : Obj} {kvs : List (Str × Value)} {τ : Tab} (hT : TyIn fz v T) (hz : Tups fz) (hD : Drawn' T) (hh : height T ≤ 9) (hτ : TwoT w tl fz d o kvs τ) (hnd : (τ.map (·.1)).Nodup) (hlow : ∀ p ∈ τ, height p.2 ≤ 2) (o5 : Off tl 54) (o6 : Off tl 165) (x5 : Off c.t6 54) (x6 : Off c.t5 165) :
    TelS w (.ref 168) [v, .ref d] fz (ctR tl) c (12 * height T + 300) (fun r _ _ => r = .bool true) := by
  obtain ⟨hd1, hd2, hd3, hd4⟩ := hτ
  obtain ⟨t5, t6, m5, m6⟩ := c
  obtain ⟨ps5, hps5⟩ := m5.mem
  obtain ⟨ps6, hps6⟩ := m6.mem
  dsimp only at x5 x6
  have hh20 : height T ≤ 20 := by omega
  have hLow : Low T 10 := ⟨by omega⟩
  have hkn : (kvs.map (·.1)).Nodup := by rw [hd4.keys]; exact names_nodup hnd
  have hl2 : τ.length ≤ 2 := by have := bools_two hnd; rw [List.length_map] at this; exact this
  have hk2 : kvs.length ≤ 2 := by rw [hd4.len]; exact hl2
  have hgh : height (gone T) = height T := gone_height
  have hsh := subst_height hlow T
  have hsz : 2 * size T ≤ 100000 := by
    have h1 := size_le T
    have h2 : 2 ^ (height T + 1) ≤ 2 ^ 10 := Nat.pow_le_pow_right (by decide) (by omega)
    have h3 : (2 : Nat) ^ 10 = 1024 := by decide
    omega
  have kf9 : Mine.hd.heap_1 w.params = Mine.hd.heap_1 w.params ∧ PySem.Challenge.rw_ot0007_01 = PySem.Challenge.rw_ot0007_01 := by k_fill; exact ⟨rfl, rfl⟩
  clear kf9
  refine' telS_defC2 (x := S "table") (y := S "changed") (own := (t5 ++ t6)) (tl := tl) ?a0 ?a1 (fun _ => ?a2) ?a3 ?a4 ?a5 ?a6 ?a7 (fun _ => ?a8) (fun _ => ?a9) hz ?ain ?_
  case a0 => k_is
  case a1 => k_is
  case a2 => exact BindsTo.of_eq rfl
  case a3 => exact rfl
  case a4 => decide +kernel
  case a5 => exact rfl
  case a6 => exact rfl
  case a7 => exact rfl
  case a8 => exact rfl
  case a9 => exact rfl
  case ain => exact fun p hp => mvT [t5, t6, fz, tl] (.a (.a (.s 0) (.s 1)) (.a (.s 2) (.s 3))) (.a (.s 2) (.a (.s 0) (.a (.s 1) (.s 3)))) hp
  intro ca oa ob v0 c m R hoa hob hlt hccd hcn hdp hun hb hR
  have htg : m (Str.ofString "thing") = some v := hb _
  clear hb
  have glob : ∀ {g : Str} {f : Addr}, nsIn (Mine.hd.heap_1 w.params) mainGlobals g = some (some (.ref f)) → keepIn (Mine.hd.heap_1 w.params) (.ref f) = true → nsIn (Mine.hd.heap_1 w.params) mainGlobals g = some (some (.ref f)) ∧ keepIn (Mine.hd.heap_1 w.params) (.ref f) = true := fun a b => ⟨a, b⟩
  have hwk := glob (g := S "_law_marks") (f := 139) (by k_is) (by k_is)
  have hwp := glob (g := S "params_in") (f := 66) (by k_is) (by k_is)
  have hwn := glob (g := S "_law_unlike") (f := 163) (by k_is) (by k_is)
  have hwr := glob (g := S "regions_in") (f := 59) (by k_is) (by k_is)
  have hwu := glob (g := S "has_unknowns") (f := 73) (by k_is) (by k_is)
  have hww := glob (g := S "with_regions") (f := 38) (by k_is) (by k_is)
  have hwt := glob (g := S "_law_turned") (f := 144) (by k_is) (by k_is)
  have hwe := glob (g := S "erased") (f := 52) (by k_is) (by k_is)
  have hwx := glob (g := S "type_text") (f := 85) (by k_is) (by k_is)
  have hwy := glob (g := S "_law_text") (f := 156) (by k_is) (by k_is)
  have hws := glob (g := S "substituted") (f := 33) (by k_is) (by k_is)
  clear glob
  have room : ∀ {n : Nat}, n ≤ 12 * height T + 290 → c.dp + n < recursionLimit ∧ c.un + 8 * n < cLine := fun h => ⟨dl hdp (Nat.le_trans (Nat.succ_le_succ h) (Nat.add_le_add_left (Nat.le_of_ble_eq_true rfl : 291 ≤ 300) _)), ul hun (Nat.le_trans (Nat.succ_le_succ h) (Nat.add_le_add_left (Nat.le_of_ble_eq_true rfl : 291 ≤ 300) _))⟩
  have hu64 : c.un + 64 < cLine := by first | exact ulk (Y := 8) hun rfl | exact uld (Y := 8) hun rfl
  clear hdp hun
  have b5 : @LT.lt Nat _ 54 ca := hlt (54, tabObj ps5) (List.mem_append.mpr (.inr (List.mem_append.mpr (.inl hps5))))
  have b6 : @LT.lt Nat _ 165 ca := hlt (165, tabObj ps6) (List.mem_append.mpr (.inr (List.mem_append.mpr (.inr (List.mem_append.mpr (.inl hps6))))))
  have c6 : Off t6 (ca + 1) := ⟨fun p hp => neN (Nat.ne_of_lt (Nat.lt_succ_of_lt (hlt p (by simp [ctR, hp]))))⟩
  have cT : Off tl (ca + 1) := ⟨fun p hp => neN (Nat.ne_of_lt (Nat.lt_succ_of_lt (hlt p (by simp [ctR, hp]))))⟩
  have a54 : Off ((ca, oa) :: (ca + 1, ob) :: t6) 54 := Off.two (gt_ne b5) (gt_ne (Nat.lt_succ_of_lt b5)) x5
  clear hlt
  -- marks
  refine JX.list3 (JE.call hwk.1 hwk.2 (JA.cons (JE.V (EV.name htg) fun _ => JA.cons ?_)))
  refine JE.listN (JA.cons (JE.listN (JA.nil ⟨rfl, fun D0 l0 => JA.cons (JE.listN (JA.nil ⟨rfl, fun D1 l1 => JA.cons (JE.listN (JA.nil ⟨rfl, fun D2 l2 => JA.nil ⟨rfl, fun Fd l3 => JA.nil ?_⟩⟩))⟩))⟩)))
  have m54 : (54, tabObj ps5) ∈ (ca, oa) :: (ca + 1, ob) :: (t5 ++ t6) := by simp [hps5]
  have e1 : @LT.lt Nat _ 54 D1 := l1 (54, tabObj ps5) (List.mem_append.mpr (.inl (List.mem_cons_of_mem _ m54)))
  have e2 : @LT.lt Nat _ 54 D2 := l2 (54, tabObj ps5) (List.mem_append.mpr (.inl (List.mem_cons_of_mem _ (List.mem_cons_of_mem _ m54))))
  refine (JH.marks hT hsz l0 (l1 (D0, _) (List.mem_cons_self ..)) (l2 (D1, _) (List.mem_cons_self ..)) (l3 (D2, _) (List.mem_cons_self ..)) (room (by first | exact lin rfl rfl | exact lin0 rfl | omega)).1 (room (by first | exact lin rfl rfl | exact lin0 rfl | omega)).2 fun f1 g S1 q1 q2 q3 => ⟨Fd, _, _, _, _, rfl, List.mem_cons_self .., ?_⟩).G
  clear l0 l1 l2 l3 m54 hwk
  refine JX.sub (own2 := (D2, PySem.W.listOf g.2.2.1.toArray g.2.2.2) :: (D1, PySem.W.listOf g.2.1.1.toArray g.2.1.2) :: (D0, PySem.W.listOf g.1.1.toArray g.1.2) :: (ca, oa) :: (ca + 1, ob) :: (t5 ++ t6)) (fun p hp => List.mem_cons_of_mem _ hp) ?_
  refine JX.ifF (JT.bool (JB.orF (JT.cmp ?_)))
  refine JE.call hwp.1 hwp.2 (JA.one (EV.name htg) fun _ => (JH.telL (fun Z => params_tel (hT.up S1) Z hh20) (room (by first | exact lin rfl rfl | exact lin0 rfl | omega)).1 (room (by first | exact lin rfl rfl | exact lin0 rfl | omega)).2 fun D3 v3 k3 f2 _ S2 q4 => ?_).G)
  refine JE.call hwn.1 hwn.2 (JA.one (EV.name rfl) fun _ => (JH.telL (fun Z => unlike_telL (a := D0) (vs := g.1.1) (k := g.1.2) (by simp) q1 Z) (room (by first | exact lin rfl rfl | exact lin0 rfl | omega)).1 (room (by first | exact lin rfl rfl | exact lin0 rfl | omega)).2 fun D4 v4 k4 f3 _ S3 q5 => ?_).G)
  refine JG.neNames (List.mem_cons_of_mem _ (List.mem_cons_self ..)) (List.mem_cons_self ..) q4 q5 hu64 ⟨_, rfl, rfl, ?_⟩
  have S13 := (S3.step S2).step S1
  refine JB.orF (JT.cmp ?_)
  refine JE.call hwr.1 hwr.2 (JA.one (EV.name htg) fun _ => (JH.telM (own0 := (D2, PySem.W.listOf g.2.2.1.toArray g.2.2.2) :: (D1, PySem.W.listOf g.2.1.1.toArray g.2.1.2) :: (ca, oa) :: (ca + 1, ob) :: t6) (fun Z => regions_tel (hT.up S13) Z hh20 m5 (Off.app (Off.two (gt_ne e2) (gt_ne e1) a54) o5)) ?h1 (room (by first | exact lin rfl rfl | exact lin0 rfl | omega)).1 (room (by first | exact lin rfl rfl | exact lin0 rfl | omega)).2 fun D5 v5 k5 t5' f4 m5' _ S4 q6 => ?_).G)
  case h1 => exact fun p hp => mvT [[_], [_], [_], [_], [_], [_], [_], t5, t6] (.a (.s 7) (.a (.s 2) (.a (.s 3) (.a (.s 5) (.a (.s 6) (.s 8)))))) (.a (.s 0) (.a (.s 1) (.a (.s 2) (.a (.s 3) (.a (.s 4) (.a (.s 5) (.a (.s 6) (.a (.s 7) (.s 8))))))))) hp
  refine JE.V (EV.name rfl) fun _ => JG.neRegs (List.mem_cons_self ..) (List.mem_cons_of_mem _ (List.mem_append.mpr (.inr (List.mem_cons_of_mem _ (List.mem_cons_self ..))))) q6 q2 hu64 ⟨_, rfl, rfl, JB.orNil ⟨rfl, ?_⟩⟩
  have q3 := ((q3.up S2).up S3).up S4
  have S14 := S4.step S13
  clear q1 q2 q4 q5 q6 e1 e2 a54 S1 S2 S3 S4 S13 hwp hwn hwr
  refine JX.sub (own2 := (D2, PySem.W.listOf g.2.2.1.toArray g.2.2.2) :: (ca, oa) :: (ca + 1, ob) :: (t5' ++ t6)) ?h8 ?_
  case h8 => exact fun p hp => mvT [[_], t5', [_], [_], [_], [_], t6] (.a (.s 2) (.a (.s 4) (.a (.s 5) (.a (.s 1) (.s 6))))) (.a (.s 0) (.a (.s 1) (.a (.s 2) (.a (.s 3) (.a (.s 4) (.a (.s 5) (.s 6))))))) hp
  -- unknowns
  refine JX.ifF (JT.cmp (JE.call hwu.1 hwu.2 (JA.one (EV.name htg) fun _ => (JH.tel (fun Z => unknowns_tel (hT.up S14) Z hh20) (room (by first | exact lin rfl rfl | exact lin0 rfl | omega)).1 (room (by first | exact lin rfl rfl | exact lin0 rfl | omega)).2 fun r f5 S5 p => ?_).G)))
  subst p
  refine JE.cmp ?_
  refine JE.V (EV.name rfl) fun _ => ?_
  refine JE.listN (JA.nil ⟨rfl, fun DN _ => ?_⟩)
  refine JG.neNil (List.mem_cons_of_mem _ (List.mem_cons_self ..)) (List.mem_cons_self ..) (q3.up S5) (unkL_low T) hu64 (unk_unkL _).symm ?_
  refine JG.neB ?_
  refine ⟨_, rfl, ?_⟩
  refine ⟨rfl, ?_⟩
  have S15 := S5.step S14
  clear q3 S5 S14 hwu
  refine JX.sub (own2 := (ca, oa) :: (ca + 1, ob) :: (t5' ++ t6)) ?h9 ?_
  case h9 => exact fun p hp => .tail _ (.tail _ hp)
  have mB : (ca + 1, ob) ∈ (ca, oa) :: (ca + 1, ob) :: (t5' ++ t6) := .tail _ (.head _)
  have n54 : @Ne Nat (ca + 1) 54 := gt_ne (Nat.lt_succ_of_lt b5)
  have i5 : ∀ p ∈ t5', p ∈ (ca, oa) :: (ca + 1, ob) :: (t5' ++ t6) := fun p hp => .tail _ (.tail _ (List.mem_append.mpr (.inl hp)))
  have i6 : ∀ p ∈ t6, p ∈ (ca, oa) :: (ca + 1, ob) :: (t5' ++ t6) := fun p hp => .tail _ (.tail _ (List.mem_append.mpr (.inr hp)))
  refine (JX.obs m5' m6 i5 i6 mB hob n54 ?j9 :)
  rintro ⟨n5, n6⟩
  -- changed
  refine JX.setC ?_
  refine JE.dictR ?_
  intro d1 o1 lt1 nm1
  refine JD.cons ?_
  refine JE.V EV.none fun _ => ?_
  refine JE.V EV.str fun _ => ?_
  refine JD.cons ?_
  refine JE.V EV.str fun _ => ?_
  refine JE.V EV.none fun _ => ?_
  refine JD.cons ?_
  refine JE.V EV.str fun _ => ?_
  refine JE.V EV.int fun _ => ?_
  refine JD.cons ?_
  refine JE.V EV.str fun _ => ?_
  refine JE.V EV.str fun _ => ?_
  refine JD.cons ?_
  refine JE.V EV.int fun _ => ?_
  refine JE.V EV.str fun _ => ?_
  refine JD.nil ?_
  refine ⟨rfl, rfl, ?_⟩
  refine ⟨_, carry5, nd5, fun o1' hd1' => ?_⟩
  refine ⟨ca + 1, ob, _, _, rfl, .tail (gt_ne (lt1 (ca + 1, ob) (List.mem_append.mpr (.inl mB)))) (.tail (neN (Nat.ne_of_lt (Nat.lt_succ_self _))) (.head fun p hp => (List.mem_append.mp hp).elim (n5.off p) (c6.off p))), hob, cT, ?_⟩
  intro ob' hob'
  have g6 : @LT.lt Nat _ 165 d1 := lt1 (165, tabObj ps6) (by simp [hps6])
  clear lt1 n5 c6 cT hob
  -- gone
  refine JX.set ?_
  refine JE.dictR ?_
  intro d2 o2 lt2 nm2
  refine JD.cons ?_
  refine JE.V EV.none fun _ => ?_
  refine JE.V EV.none fun _ => ?_
  refine JD.cons ?_
  refine JE.V EV.str fun _ => ?_
  refine JE.V EV.none fun _ => ?_
  refine JD.cons ?_
  refine JE.V EV.str fun _ => ?_
  refine JE.V EV.none fun _ => ?_
  refine JD.cons ?_
  refine JE.V EV.str fun _ => ?_
  refine JE.V EV.none fun _ => ?_
  refine JD.cons ?_
  refine JE.V EV.int fun _ => ?_
  refine JE.V EV.none fun _ => ?_
  refine JD.nil ?_
  refine ⟨rfl, rfl, ?_⟩
  refine ⟨_, carry5, nd5, fun o2' hd2' => ?_⟩
  have g7 : @LT.lt Nat _ 165 d2 := lt2 (165, tabObj ps6) (by simp [hps6])
  clear lt2
  -- with_regions, the lambda
  refine JX.ifF (JT.cmp (JE.call hww.1 hww.2 (JA.cons (JE.V (EV.name htg) fun _ => JA.cons ?_))))
  refine JE.lam (c0 := 167) (own0 := (d2, o2') :: (d1, o1') :: (ca, oa) :: (ca + 1, ob') :: t5') (by show (c.cn ++ _) ++ _ = _; rw [hcn]; rfl) (fun _ => rfl) m6 (Off.two (gt_ne g7) (gt_ne g6) (Off.two (gt_ne b6) (gt_ne (Nat.lt_succ_of_lt b6)) n6)) o6 (codeHd_of_K c.X (by with_unfolding_all rfl)) hccd ?h1 rfl fun f c' oc vs tq ctv pm t6' m6' hc1 hc2 hc3 _ => JA.nil ?_
  case h1 => exact fun p hp => mvT [[_], [_], [_], [_], t5', t6] (.a (.s 5) (.a (.s 0) (.a (.s 1) (.a (.s 2) (.a (.s 3) (.s 4)))))) (.a (.s 0) (.a (.s 1) (.a (.s 2) (.a (.s 3) (.a (.s 4) (.s 5)))))) hp
  have mC : ∀ {x : Addr × Obj} {l : Led}, (ca + 1, ob') ∈ x :: (t6' ++ ((d2, o2') :: (d1, o1') :: (ca, oa) :: (ca + 1, ob') :: l)) := fun {x l} => .tail _ (List.mem_append.mpr (.inr (.tail _ (.tail _ (.tail _ (.head _))))))
  have mD : ∀ {x : Addr × Obj} {l : Led}, (d1, o1') ∈ x :: (t6' ++ ((d2, o2') :: (d1, o1') :: (ca, oa) :: (ca + 1, ob') :: l)) := fun {x l} => .tail _ (List.mem_append.mpr (.inr (.tail _ (.head _))))
  refine JH.G ?_
  refine JH.tel (d := 12 * height T + 28) (P' := fun r f' => TyIn f' r (turnT gC T)) ?C1 (room (by first | exact lin rfl rfl | exact lin0 rfl | omega)).1 (room (by first | exact lin rfl rfl | exact lin0 rfl | omega)).2 ?_
  case C1 =>
    intro Z
    refine lam_tel (g := gC) (List.mem_append.mpr (.inl (List.mem_cons_self ..))) ⟨_, rfl⟩ ?_ (hT.up S15) Z hD
    intro cs9 fz9 r9 rv9 ok9 hr9 hz9
    refine tel_lam (List.mem_append.mpr (.inr (List.mem_append.mpr (.inl (List.mem_cons_self ..))))) (List.mem_append.mpr (.inr (List.mem_append.mpr (.inl (.tail _ (List.mem_append.mpr (.inl hc1))))))) hc2 hc3 hz9 rfl (locs rfl) rfl rfl rfl (by decide) (by decide) fun c9 m9 _ _ hb9 => ?_
    refine JE.item (EV.free rfl (List.mem_append.mpr (.inr (List.mem_append.mpr (.inl mC)))) hob') (EV.name (hb9 _)) fun _ _ => ?_
    exact JH.itemReg (List.mem_append.mpr (.inr (List.mem_append.mpr (.inl mD)))) hd1' rmapC hr9 ok9 fun v hv => hv
  intro r6 f6 S6 p6
  refine JE.call hwt.1 hwt.2 (JA.two (EV.name htg) (EV.cell rfl mC hob') fun _ _ => ?_)
  refine JH.G ?_
  refine JH.tel (d := 12 * height T + 20) (P' := fun r f' => TyIn f' r (turnT gC T)) (fun Z => law_turned_tel hD ((hT.up S15).up S6) Z (.mk (List.mem_append.mpr (.inl mD)) hd1' nm1 rmapC)) (room (by first | exact lin rfl rfl | exact lin0 rfl | omega)).1 (room (by first | exact lin rfl rfl | exact lin0 rfl | omega)).2 ?_
  intro r7 f7 S7 p7
  refine JG.neTy (p6.up S7) p7 (by rw [turnT, wr_height]; exact hh20) hu64 ⟨_, rfl, rfl, ?_⟩
  have S17 := (S7.step S6).step S15
  clear p6 p7 S6 S7 S15 mC mD hww
  refine JX.sub (own2 := (d2, o2') :: (ca, oa) :: (t5' ++ t6')) ?h9 ?_
  case h9 => exact fun p hp => mvT [[_], t6', [_], [_], [_], [_], t5'] (.a (.s 2) (.a (.s 4) (.a (.s 6) (.s 1)))) (.a (.s 0) (.a (.s 1) (.a (.s 2) (.a (.s 3) (.a (.s 4) (.a (.s 5) (.s 6))))))) hp
  -- erased, texts
  refine JX.ifF ?_
  refine JT.bool ?_
  refine JB.orF ?_
  refine JT.cmp ?_
  refine JE.call hwe.1 hwe.2 (JA.one (EV.name htg) fun _ => ?_)
  refine JH.G ?_
  refine JH.tel (d := 12 * height T + 28) (P' := fun r f' => TyIn f' r (gone T)) (fun Z => erased_tel (hT.up S17) Z) (room (by first | exact lin rfl rfl | exact lin0 rfl | omega)).1 (room (by first | exact lin rfl rfl | exact lin0 rfl | omega)).2 ?_
  intro r8 f8 S8 p8
  refine JE.call hwt.1 hwt.2 (JA.two (EV.name htg) (EV.name rfl) fun _ _ => ?_)
  refine JH.G ?_
  refine JH.tel (d := 12 * height T + 20) (P' := fun r f' => TyIn f' r (turnT gN T)) (fun Z => law_turned_tel hD ((hT.up S17).up S8) Z (.mk (List.mem_append.mpr (.inl (.head _))) hd2' nm2 rmapN)) (room (by first | exact lin rfl rfl | exact lin0 rfl | omega)).1 (room (by first | exact lin rfl rfl | exact lin0 rfl | omega)).2 ?_
  intro r9 f9 S9 p9
  refine JG.neTy (T := gone T) (p8.up S9) p9 (by rw [gone_height]; exact hh20) hu64 ⟨_, rfl, rfl, ?_⟩
  have S18 := (S9.step S8).step S17
  refine JB.orF ?_
  refine JT.cmp ?_
  refine JE.call hwx.1 hwx.2 (JA.one (EV.name htg) fun _ => ?_)
  refine JH.G ?_
  refine JH.tel (d := 12 * height T + 20) (P' := fun r _ => StrIs (textT T) r) (fun Z => type_text_tel hLow (hT.up S18) Z) (room (by first | exact lin rfl rfl | exact lin0 rfl | omega)).1 (room (by first | exact lin rfl rfl | exact lin0 rfl | omega)).2 ?_
  intro r10 f10 S10 p10
  obtain ⟨t10⟩ := p10
  refine JE.call hwy.1 hwy.2 (JA.one (EV.name htg) fun _ => ?_)
  refine JH.G ?_
  refine JH.tel (d := 12 * height T + 20) (P' := fun r _ => StrIs (textT T) r) (fun Z => law_text_tel hLow ((hT.up S18).up S10) Z) (room (by first | exact lin rfl rfl | exact lin0 rfl | omega)).1 (room (by first | exact lin rfl rfl | exact lin0 rfl | omega)).2 ?_
  intro r11 f11 S11 p11
  obtain ⟨t11⟩ := p11
  refine JG.neStr ⟨_, rfl, bne_self_eq_false' .., JB.orNil ⟨rfl, ?_⟩⟩
  have S19 := (S11.step S10).step S18
  clear p8 p9 S8 S9 S10 S11 S17 S18 hwx hwy hwt
  -- short
  refine JX.set ?_
  refine JE.dictOf ?_
  refine JE.compD (fun i ys f => PairsT f ys (mapT (τ.take i))) (EV.cell rfl (.tail _ (.head _)) hoa) hd1 hd2 hd3 (Nat.le_trans hk2 (by decide)) .nil ?turn ?fin
  case turn =>
    intro i y u t8 ys f C oC m₂ I oI D hk8 S8 A' hC hx
    obtain ⟨x8, T8, e8, rfl, hu8⟩ := hd4.get hk8
    have hl8 := value_get hkn hk8
    have hh8 := hlow _ (List.mem_of_getElem? e8)
    refine JH.pair (CV.var (.tail _ (.head _)) hC hx) (JH.call1 hwe.1 hwe.2 (CV.itemTab (CV.cell rfl (.tail _ (.tail _ (.tail _ (.tail _ (.head _))))) hoa) (CV.var (.tail _ (.head _)) hC hx) (List.mem_append.mpr (.inr (List.mem_append.mpr (.inr hd1)))) hd2 hl8) (JH.tel (fun Z => erased_tel ((hu8.up S19).up S8) Z) (room (by dsimp only at hh8 ⊢; omega)).1 (room (by dsimp only at hh8 ⊢; omega)).2 fun r f' S6 p6 D6 => ⟨rfl, ?_⟩))
    rw [List.take_add_one, e8, Option.toList, show mapT (τ.take i ++ [(x8, T8)]) = mapT (τ.take i) ++ [(x8, gone T8)] from List.map_append ..]
    exact PairsT.snoc ((A'.up S6).up (.cons .refl)) (List.mem_cons_self ..) (p6.up (.cons .refl))
  case fin =>
    intro D ys f S A' _
    rw [List.take_of_length_le (by rw [hd4.len]; exact Nat.le_refl _)] at A'
    obtain ⟨ps, hp1, hp2, hp3⟩ := A'.out (prog := PySem.Challenge.rw_ot0007_01.row.prog) (w := w)
    refine ⟨D, ys, _, ps, rfl, List.mem_cons_self .., hp2, ?_, ?_, hp3, fun dd od nmd hdd => ?_⟩
    · rw [hp1.len, List.length_map]; exact Nat.le_trans hl2 (by decide)
    · rw [hp1.keys]
      refine names_nodup ?_
      rw [List.map_map]
      exact hnd
    have S20 := S.step S19
    refine JX.ret ?_
    refine JE.cmp ?_
    refine JE.call hwe.1 hwe.2 (JA.cons ?_)
    refine JE.call hws.1 hws.2 (JA.two (EV.name htg) (EV.cell rfl (.tail _ (.tail _ (.tail _ (.head _)))) hoa) fun _ _ => ?_)
    refine JH.G ?_
    refine JH.tel (d := 10 * height T + 20) (P' := fun r f' => TyIn f' r (subst τ T)) (fun Z => substituted_tel (hT.up S20) Z (.mk (List.mem_append.mpr (.inr hd1)) hd2 hd3 (hd4.up S20))) (room (by first | exact lin rfl rfl | exact lin0 rfl | omega)).1 (room (by first | exact lin rfl rfl | exact lin0 rfl | omega)).2 ?_
    intro r12 f12 S12 p12
    refine JA.nil ?_
    refine JH.G ?_
    refine JH.tel (d := 12 * height (subst τ T) + 28) (P' := fun r f' => TyIn f' r (gone (subst τ T))) (fun Z => erased_tel p12 Z) (room (by first | exact lin rfl rfl | exact lin0 rfl | omega)).1 (room (by first | exact lin rfl rfl | exact lin0 rfl | omega)).2 ?_
    intro r13 f13 S13 p13
    have S21 := (S13.step S12).step S20
    refine JE.call hws.1 hws.2 (JA.cons ?_)
    refine JE.call hwe.1 hwe.2 (JA.one (EV.name htg) fun _ => ?_)
    refine JH.G ?_
    refine JH.tel (d := 12 * height T + 28) (P' := fun r f' => TyIn f' r (gone T)) (fun Z => erased_tel (hT.up S21) Z) (room (by first | exact lin rfl rfl | exact lin0 rfl | omega)).1 (room (by first | exact lin rfl rfl | exact lin0 rfl | omega)).2 ?_
    intro r14 f14 S14 p14
    refine JA.cons ?_
    refine JE.V (EV.name rfl) fun _ => ?_
    refine JA.nil ?_
    refine JH.G ?_
    refine JH.tel (d := 10 * height (gone T) + 20) (P' := fun r f' => TyIn f' r (subst (mapT τ) (gone T))) (fun Z => substituted_tel p14 Z (.mk (List.mem_append.mpr (.inl (.head _))) hdd nmd (((hp1.up S12).up S13).up S14))) (room (by first | exact lin rfl rfl | exact lin0 rfl | omega)).1 (room (by first | exact lin rfl rfl | exact lin0 rfl | omega)).2 ?_
    intro r15 f15 S15 p15
    refine JG.eqTy ((p13.up S14).up S15) p15 (by rw [gone_height]; omega) (by rw [← gone_subst, gone_height]; omega) hu64 ?_
    rw [decide_eq_true (gone_subst τ T)]
    refine hR _ _ _ _ ⟨t5', t6', m5', m6'⟩ rfl fun p hp => ?_
    exact mvT [f15, t5', t6', tl, [_], [_], [_], [_]] (.a (.s 0) (.a (.s 1) (.a (.s 2) (.s 3)))) (.a (.a (.s 4) (.a (.s 5) (.a (.s 6) (.a (.s 7) (.a (.s 1) (.s 2)))))) (.a (.s 0) (.s 3))) hp

end
section
theorem flushLLoop : True ∧ True := by (w_top off); (first | (walk1; done) | exact ⟨True.intro, True.intro⟩)
/-! a for over a list whose body changes the code tables -/
theorem iter_off {h₀ h : Heap} {L I ax P : Addr} {q : Str} {pos : Pos} {oI : Obj} {led t : Led} {j : Int} {u : Tok} (N : News h₀ L h led) (hI : (I, oI) ∈ led) (hd : oI.data = .fields #[.ref ax, .int j u]) (M : Made P q pos t) (ht : ∀ p ∈ t, p ∈ led) : Off t I := ⟨fun p hp e => by
  have h1 := (N _ (ht p hp)).1
  have h2 := (N _ hI).1
  rw [e, h2] at h1
  have h3 : oI = p.2 := Option.some.inj h1
  rw [h3] at hd
  cases M with
  | new =>
    rw [List.mem_singleton.mp hp] at hd
    cases hd
  | old h4 h5 =>
    rcases List.mem_cons.mp hp with rfl | hp
    · cases hd
    · rw [List.mem_singleton.mp hp] at hd
      rw [h4] at hd
      cases hd
      cases h5⟩
noncomputable abbrev ctS (c : CT) : Led := c.t5 ++ c.t6
theorem ct_off {h₀ h : Heap} {L I ax : Addr} {oI : Obj} {led : Led} {c : CT} {j : Int} {u : Tok} (N : News h₀ L h led) (hI : (I, oI) ∈ led) (hd : oI.data = .fields #[.ref ax, .int j u]) (ht : ∀ p ∈ ctS c, p ∈ led) : Off (ctS c) I :=
  Off.app (iter_off N hI hd c.m5 fun p hp => ht p (List.mem_append.mpr (.inl hp))) (iter_off N hI hd c.m6 fun p hp => ht p (List.mem_append.mpr (.inr hp)))
section
variable {prog : Program} {w : World} {A : Around} {E : Value → Shared → Prop} {s : Shared} {h₀ : Heap} {m : Str → Option Value} {env : Env} {target : Expr} {body : List Stmt} {Q : Flow → Shared → Prop}
noncomputable def TDone (h₀ : Heap) (L : Addr) (s : Shared) (I : Addr) (oI : Obj) (fz rest : Led) (Inv : Led → (Str → Option Value) → Prop) (Q : Flow → Shared → Prop) (f : Flow) (s₃ : Shared) : Prop :=
  match f with
  | .next | .cont => ∃ h' tk u fz' c, s₃ = { s with heap := h', toks := tk } ∧ Fr h₀ L h' u ∧ News h₀ L h' ((I, oI) :: (fz' ++ ctR rest c)) ∧ Sub fz fz' ∧ Tups fz' ∧ Inv fz' u
  | .brk => Q .next s₃
  | .ret v => Q (.ret v) s₃
theorem tdone_next {L I : Addr} {oI : Obj} {fz rest led fz' cs' : Led} {c : CT} {Inv : Led → (Str → Option Value) → Prop} {u : Str → Option Value} {h' : Heap} {tk : Nat}
    (F : Fr h₀ L h' u) (N : News h₀ L h' led) (Pt : Part led fz' cs' (ctR rest c)) (hI : (I, oI) ∈ cs') (S' : Sub fz fz') (Z' : Tups fz') (i' : Inv fz' u) : TDone h₀ L s I oI fz rest Inv Q .next { s with heap := h', toks := tk } :=
  ⟨h', tk, u, fz', c, rfl, F, fun p hp => N p (Pt.mem p (by
    rcases List.mem_cons.mp hp with rfl | hp
    · exact .inr (.inl hI)
    · rcases List.mem_append.mp hp with hp | hp
      · exact .inl hp
      · exact .inr (.inr hp))), S', Z', i'⟩
theorem for_tabs {ax : Addr} {k : Nat} {vs : List Value} {led fz rest cs₀ : Led} {c₀ : CT} (Inv : Nat → Led → (Str → Option Value) → Prop)
    (hh : A.handled = none) (F : Fr h₀ env.locals s.heap m) (N : News h₀ env.locals s.heap led) (Pt : Part led fz cs₀ (ctR rest c₀)) (hm : (ax, PySem.W.listOf vs.toArray k) ∈ rest) (hz : Tups fz) (h0 : Inv 0 fz m)
    (turn : ∀ i v fz₁ c u h₁ tk₁ I oI, i < vs.length → vs[i]? = some v → Fr h₀ env.locals h₁ u → News h₀ env.locals h₁ ((I, oI) :: (fz₁ ++ ctR rest c)) → Sub fz fz₁ → Tups fz₁ → Inv i fz₁ u → Under rest I →
      wpAny (model prog w) A (assign target env v) (fun _ s₂ => wpAny (model prog w) A (execs body env) (TDone h₀ env.locals { s with heap := h₁, toks := tk₁ } I oI fz rest (Inv (i + 1)) Q) E s₂) E { s with heap := h₁, toks := tk₁ })
    (fin : ∀ fz' c u h' tk, Fr h₀ env.locals h' u → News h₀ env.locals h' (fz' ++ ctR rest c) → Sub fz fz' → Tups fz' → Inv vs.length fz' u → Q .next { s with heap := h', toks := tk }) :
    wpAny (model prog w) A (pyIter (.ref ax)) (fun it s₂ => TurnsAt prog w A h₀ env target body Q E it s₂) E s := by
  have N' : News h₀ env.locals s.heap (fz ++ ctR rest c₀) := Pt.newsT N
  have inR : ∀ {c : CT} {fz' : Led} p, p ∈ rest → p ∈ fz' ++ ctR rest c := fun p hp => by simp [ctR, hp]
  have hax := N' _ (inR _ hm)
  have hl : s.heap.IsList ax vs.toArray := ⟨_, hax.1, rfl, k, rfl⟩
  have hlt : ax < s.heap.objs.size := Heap.lt_size hax.1
  have hne : ax ≠ s.heap.objs.size := Nat.ne_of_lt hlt
  have hLt : env.locals < s.heap.objs.size := F.ns.lt
  have hrs : Under rest s.heap.objs.size := ⟨fun p hp => Heap.lt_size (N' p (inR p hp)).1⟩
  have hI₀ := next_is_new F
  refine wpAny_pyIter_list hl ?_
  have up : ∀ (o : Obj) b o', s.heap.get? b = some o' → (s.heap.push o).get? b = some o' := fun o b o' e => Heap.get?_push_of_some _ e
  have hfr : ∀ p ∈ fz ++ ctR rest c₀, p.1 ∉ [s.heap.objs.size] := fun p hp q => Nat.lt_irrefl _ ((List.mem_singleton.mp q) ▸ Heap.lt_size (N' p hp).1)
  have stI : (s.heap.push { cls := .type "list_iterator", data := .fields #[.ref ax, .int 0 0] }).IsListIter s.heap.objs.size ax 0 := ⟨_, Heap.get?_push_size _ rfl, rfl, rfl⟩
  have stL : ∀ o : Obj, (s.heap.push o).IsList ax vs.toArray := fun o => hl.at fun o' e => up o _ _ e
  have Fp : ∀ o : Obj, Fr h₀ env.locals (s.heap.push o) m := fun o => F.push o
  have Np : ∀ o : Obj, News h₀ env.locals (s.heap.push o) (fz ++ ctR rest c₀) := fun o p hp => ⟨up o _ _ (N' p hp).1, (N' p hp).2⟩
  generalize s.heap.objs.size = I at *
  refine ⟨I, [I, ax], [I], vs.toArray.size, fun i v _ => vs.toArray[i]? = some v, _, _, m, fz ++ ctR rest c₀, fun i u news => ∃ fz' c, news = fz' ++ ctR rest c ∧ Sub fz fz' ∧ Tups fz' ∧ Inv i fz' u, rfl, KTurns.ofWalks (Walks.list hh I ax hne vs.toArray) (fun i v s Q E st q => letGo_listiter st.1 q), ?_, ?_, hfr, ⟨stI, stL _⟩, Fp _, Np _, ⟨fz, c₀, rfl, Sub.refl, hz, h0⟩, ?_, ?_⟩
  · intro hb
    simp only [List.mem_cons, List.not_mem_nil, or_false] at hb
    rcases hb with e | e
    · exact Nat.lt_irrefl _ (e ▸ hLt)
    · exact hax.2.1 e.symm
  · intro b hb
    rw [List.mem_singleton.mp hb]
    exact hI₀
  · rintro i v u news h₁ tk₁ own hi hv ⟨fz₁, c, rfl, S₁, Z₁, I₁⟩ hnw hown hget hall st F₁ N₁
    obtain ⟨⟨oI, gI, cI, dI⟩, _⟩ := st
    have hIn : (I, oI) ∈ own := hall I (by simp) hI₀ oI gI
    have N₂ : News h₀ env.locals h₁ ((I, oI) :: (fz₁ ++ ctR rest c)) := fun p hp => by
      rcases List.mem_cons.mp hp with rfl | hp
      · exact N₁ _ (List.mem_append.mpr (.inl hIn))
      · exact N₁ _ (List.mem_append.mpr (.inr hp))
    refine wpAny_mono (turn i v fz₁ c u h₁ tk₁ I oI (by simpa using hi) (by simpa using hv) F₁ N₂ S₁ Z₁ I₁ hrs) (fun _ s₂ h₂ => wpAny_mono h₂ (fun f s₃ h₃ => ?_) fun _ _ e => e) fun _ _ e => e
    have fin2 : (∃ h' tk' u' fz' c', s₃ = { { s with heap := h₁, toks := tk₁ } with heap := h', toks := tk' } ∧ Fr h₀ env.locals h' u' ∧ News h₀ env.locals h' ((I, oI) :: (fz' ++ ctR rest c')) ∧ Sub fz fz' ∧ Tups fz' ∧ Inv (i + 1) fz' u') →
        LoopStepU h₀ env.locals [I] own (fun u news => ∃ fz' c, news = fz' ++ ctR rest c ∧ Sub fz fz' ∧ Tups fz' ∧ Inv (i + 1) fz' u) { s with heap := h₁, toks := tk₁ } .next s₃ := by
      rintro ⟨h', tk', u', fz', c', rfl, F₃, N₃, S₃, Z₃, I₃⟩
      refine ⟨rfl, h', tk', u', fz' ++ ctR rest c', rfl, F₃, ?_, ?_, fz', c', rfl, S₃, Z₃, I₃⟩
      · rintro ⟨pa, po⟩ hp
        rcases List.mem_append.mp hp with hp | hp
        · have h2 : h₁.get? pa = some po := hget _ hp
          have h3 := hown _ hp
          simp only [List.mem_cons, List.not_mem_nil, or_false] at h3
          rcases h3 with rfl | rfl
          · have e : oI = po := Option.some.inj (gI.symm.trans h2)
            subst e
            exact N₃ _ (List.mem_cons_self ..)
          · have h4 := (N₂ _ (List.mem_cons_of_mem _ (inR _ hm))).1
            have e := Option.some.inj (h4.symm.trans h2)
            subst e
            exact N₃ _ (List.mem_cons_of_mem _ (inR _ hm))
        · exact N₃ _ (List.mem_cons_of_mem _ hp)
      · intro p hp q
        have q' : p.1 = I := List.mem_singleton.mp q
        have gI' := (N₃ _ (List.mem_cons_self ..)).1
        rcases List.mem_append.mp hp with hp1 | hp1
        · obtain ⟨vs', n', e2⟩ := Z₃.all p hp1
          have g1 := (N₃ p (List.mem_cons_of_mem _ hp)).1
          rw [q', e2] at g1
          have g3 : oI = tupO vs' n' := Option.some.inj (gI'.symm.trans g1)
          have g4 : Value.type "list_iterator" = Value.type "tuple" := cI.symm.trans (congrArg Obj.cls g3)
          exact absurd (Value.type.inj g4) (by decide)
        · have O : Off (ctS c') I := ct_off N₃ (List.mem_cons_self ..) dI fun p hp => by
            simp only [ctS, ctR, List.mem_append, List.mem_cons] at hp ⊢
            rcases hp with hp | hp <;> simp [hp]
          simp only [ctR, List.mem_append] at hp1
          rcases hp1 with hp1 | hp1 | hp1
          · exact O.off p (List.mem_append.mpr (.inl hp1)) q'
          · exact O.off p (List.mem_append.mpr (.inr hp1)) q'
          · exact Nat.lt_irrefl _ (q' ▸ hrs.lt p hp1)
    cases f with
    | ret v => exact h₃
    | brk => exact h₃
    | next => exact LoopStepV.next (fin2 h₃)
    | cont => exact LoopStepV.cont (fin2 h₃)
  · rintro h' tk u news F₁ N₁ _ ⟨fz', c', rfl, S₁, Z₁, I₁⟩
    rw [List.size_toArray] at I₁
    exact fin fz' c' u h' tk F₁ N₁ S₁ Z₁ I₁
end
theorem ct_apart {h₀ h : Heap} {L : Addr} {led : Led} {c : CT} (N : News h₀ L h led) (ht : ∀ p ∈ ctS c, p ∈ led) (ne : True) : Off c.t6 54 ∧ Off c.t5 165 := by
  obtain ⟨t5, t6, m5, m6⟩ := c
  have a5 : ∀ p ∈ t5, p ∈ led := fun p hp => ht p (List.mem_append.mpr (.inl hp))
  have a6 : ∀ p ∈ t6, p ∈ led := fun p hp => ht p (List.mem_append.mpr (.inr hp))
  have tab : ∀ {P : Addr} {q : Str} {pos : Pos} {t : Led}, Made P q pos t → (∀ p ∈ t, p ∈ led) → ∃ ps, (P, tabObj ps) ∈ led ∧ ∀ (y : Str) (u : Tok), ps[1]? ≠ some (.str y u) := fun M hs => by
    cases M with
    | new => exact ⟨_, hs _ (.head _), fun y u => by simp⟩
    | old h4 h5 => exact ⟨_, hs _ (.head _), fun y u => by simp [rawInt]⟩
  have off : ∀ {P P' : Addr} {q : Str} {pos : Pos} {t : Led}, Made P q pos t → (∀ p ∈ t, p ∈ led) → P ≠ P' → (∃ ps, (P', tabObj ps) ∈ led ∧ ∀ (y : Str) (u : Tok), ps[1]? ≠ some (.str y u)) → Off t P' := fun {P P' q pos t} M hs hne ⟨ps, hc, hn⟩ => ⟨fun p hp e => by
    have h1 := (N _ (hs p hp)).1
    have h2 := (N _ hc).1
    rw [e, h2] at h1
    have h3 : tabObj ps = p.2 := Option.some.inj h1
    cases M with
    | new => exact hne (by rw [← e, List.mem_singleton.mp hp])
    | old h4 h5 =>
      rcases List.mem_cons.mp hp with rfl | hp
      · exact hne e
      · rw [List.mem_singleton.mp hp] at h3
        dsimp only at h3
        rw [← h3] at h4
        cases h4
        exact hn _ _ h5⟩
  exact ⟨off m6 a6 (by decide) (tab m5 a5), off m5 a5 (by decide) (tab m6 a6)⟩
section
variable {prog : Program} {w : World} {K : Type} [DecidableEq K] {knd : KeyKind prog w K} {A : Around} {E : Value → Shared → Prop} {s : Shared} {h₀ : Heap} {L d : Addr} {m : Str → Option Value} {more fz own rest : Led} {o : Obj} {Q : Value → Shared → Prop} {vs : List (Value × Value)} {kvs : List (K × Value)}
end

end
section
theorem flushLLawA : True ∧ True := by (w_top off); (first | (walk1; done) | exact ⟨True.intro, True.intro⟩)
/-! law: what its walk wants -/
theorem tabs_open {h₀ h : Heap} {L : Addr} {p : Addr × Obj} (N : News h₀ L h [p, (54, tabObj #[]), (165, tabObj #[])]) (l : 54 < L ∧ 165 < L) : ∃ (fz rest : Led) (c : CT), Tups fz ∧ News h₀ L h (p :: (fz ++ ctR rest c)) ∧ Under (fz ++ ctR rest c) L ∧ Off rest 54 ∧ Off rest 165 ∧ (@LT.lt Nat _ 54 L ∧ @LT.lt Nat _ 165 L) := ⟨[], [], ⟨[(54, tabObj #[])], [(165, tabObj #[])], .new, .new⟩, .nil, N, ⟨fun p hp => by
  simp only [ctR, List.nil_append, List.cons_append, List.mem_cons, List.not_mem_nil, or_false] at hp
  rcases hp with rfl | rfl
  · exact l.1
  · exact l.2⟩, Off.nil, Off.nil, l⟩
theorem closed_low {T : Ty} (h : T ∈ closedL) : height T ≤ 2 ∧ paramsL T = [] := by
  simp only [closedL, List.mem_cons, List.not_mem_nil, or_false] at h
  rcases h with rfl | rfl | rfl | rfl <;> exact ⟨by decide, rfl⟩
noncomputable abbrev fixedT : Ty := .adt .a .none (.param true) (.param false)
theorem thing_at {fz : Led} {v1 v2 v3 : Value} {T1 T2 : Ty} (y1 : TyIn fz v1 T1) (q1 : Fit 4 T1) (y2 : TyIn fz v2 T2) (q2 : Fit 3 T2) (y3 : TyIn fz v3 fixedT) {i : Nat} {v : Value} (hv : [v1, v2, v3][i]? = some v) : ∃ T, TyIn fz v T ∧ Drawn' T ∧ height T ≤ 4 := by
  rcases i with _ | _ | _ | i
  · simp at hv; subst hv; exact ⟨T1, y1, ⟨q1.regs⟩, q1.le⟩
  · simp at hv; subst hv; exact ⟨T2, y2, ⟨q2.regs⟩, Nat.le_succ_of_le q2.le⟩
  · simp at hv; subst hv; exact ⟨fixedT, y3, ⟨fun r hr => by
      simp only [regsL, List.mem_cons, List.append_nil, List.not_mem_nil, or_false] at hr
      rcases hr with rfl | rfl <;> decide⟩, by decide⟩
  · simp at hv
theorem two_tab {w : World} {led fz : Led} {d : Addr} {o : Obj} {vA vB : Value} {A B : Ty} (hm : (d, o) ∈ led) (hd : o.IsDictOf (PySem.strKind PySem.Challenge.rw_ot0007_01.row.prog w) [(S "X", vA), (S "Y", vB)]) (nm : (d == sysModules) = false) (hA : TyIn fz vA A) (hB : TyIn fz vB B) :
    TwoT w led fz d o [(S "X", vA), (S "Y", vB)] [(true, A), (false, B)] := ⟨hm, hd, nm, .cons (x := true) hA (.cons (x := false) hB .nil)⟩
theorem two_low {A B : Ty} (lA : height A ≤ 2) (lB : height B ≤ 2) : ∀ p ∈ [(true, A), (false, B)], height p.2 ≤ 2 := fun p hp => by
  simp only [List.mem_cons, List.not_mem_nil, or_false] at hp
  rcases hp with rfl | rfl <;> assumption
theorem ct_at {h₀ h : Heap} {L : Addr} {p : Addr × Obj} {fz rest : Led} {c : CT} (N : News h₀ L h (p :: (fz ++ ctR rest c))) : Off c.t6 54 ∧ Off c.t5 165 := ct_apart N (fun q hq => by
  simp only [ctS, ctR, List.mem_append, List.mem_cons] at hq ⊢
  rcases hq with hq | hq <;> simp [hq]) trivial
theorem rest_mem {q : Addr × Obj} {fz rest : Led} {c : CT} (hq : q ∈ rest) : q ∈ fz ++ ctR rest c := by
  simp only [ctR, List.mem_append]
  simp [hq]
end
section
theorem flushLLawB : True ∧ True := by (w_top off); (first | (walk1; done) | exact ⟨True.intro, True.intro⟩)
/-! matched at values that are no drawn types -/
theorem no_word {x y : Str} {p : Prop} (h : (x == y) = true) (k : (x == y) = false) : p := by rw [k] at h; cases h
theorem JG.neInts {w : World} {cs : Scope} {cl : List (Str × Addr)} {c : Cx w cs cl} {m : Str → Option Value} {own fz rest : Led} {P : Value → Led → Led → Prop} {i j : Int} {t u : Tok} (h : P (.bool (i != j)) own fz) : JG c m own fz rest (compareOp .NotEq (.int i t) (.int j u)) P := fun s _ _ _ a q => PyProof.Rows.ne_int (q _ own fz s.heap s.toks a Sub.refl h)
set_option tactic.hygienic true in
theorem match_B {w : World} {v x y : Value} {a : Addr} {n : Nat} {t t' : Tok} {r q : Reg} {T U : Ty} {fz rest : Led} {d : Addr} (hP : TyIn fz v (.adt r q T U)) (hu : (a, tupO [.str (S "adt") t, .str (S "B") t', x, y] n) ∈ fz) (hz : Tups fz) : Tel w 92 [v, .ref a, .ref d] fz rest 20 (fun r _ => r = .bool false) := by
  cases hP
  rename_i a1 n1 t1 u1 b1 k1 c1 j1 rv qv v1 x1 h1 h2 h3 h4 h5 h6 h7
  have kf9 : Mine.hd.heap_1 w.params = Mine.hd.heap_1 w.params ∧ PySem.Challenge.rw_ot0007_01 = PySem.Challenge.rw_ot0007_01 := by k_fill; exact ⟨rfl, rfl⟩
  clear kf9
  refine' tel_def ?a0 ?a1 (fun _ => ?a2) ?a3 ?a4 ?a5 ?a6 ?a7 (hz) ?_
  case a0 => k_is
  case a1 => k_is
  case a2 => exact BindsTo.of_eq rfl
  case a3 => exact locs rfl
  case a4 => exact rfl
  case a5 => exact rfl
  case a6 => exact rfl
  case a7 => decide
  intro c m R hdp hun hb hR
  have hpt : m (Str.ofString "pattern") = some (.ref a1) := hb _
  have htt : m (Str.ofString "told") = some (.ref a) := hb _
  clear hb
  have hu64 : c.un + 64 < cLine := by first | exact ulk (Y := 8) hun rfl | exact uld (Y := 8) hun rfl
  refine JX.ifF (JT.eqV (EV.sub hpt h1 rfl) ⟨by decide +kernel, ?_⟩)
  refine JX.ifF ?_
  refine JT.bool (JB.orF (JT.cmp (JE.V (EV.sub hpt h1 rfl) fun _ => JE.V (EV.sub htt hu rfl) fun _ => JG.neStr ⟨_, rfl, bne_self_eq_false' .., ?_⟩)))
  refine JB.orF (JT.andKind (EV.sub hpt h1 rfl) (fun hi => no_word hi (by decide +kernel)) ⟨rfl, ?_⟩)
  refine JB.orF (JT.cmp (JE.V (EV.sub hpt h1 rfl) fun _ => JE.tup2 EV.str EV.str fun x1 x2 D => JG.inTwo (List.mem_cons_self ..) (by decide +kernel) (by decide +kernel) (by decide +kernel) hu64 (by decide +kernel) ⟨_, rfl, rfl, JB.orNil ⟨rfl, ?_⟩⟩))
  refine JX.ifF ?_
  refine JT.bool (JB.orF (JT.andKind (EV.sub hpt (.tail _ h1) rfl) (fun hi => no_word hi (by decide +kernel)) ⟨rfl, JB.orF (JT.andKind (EV.sub hpt (.tail _ h1) rfl) (fun hi => no_word hi (by decide +kernel)) ⟨rfl, JB.orNil ⟨rfl, ?_⟩⟩)⟩))
  refine JX.ifr ?_
  refine JT.bool (JB.andT (JT.eqV (EV.sub hpt (.tail _ h1) rfl) ⟨by decide +kernel, JB.andT (JT.cmp (JE.V (EV.sub hpt (.tail _ h1) rfl) fun _ => JE.V (EV.sub htt (.tail _ hu) rfl) fun _ => JG.neStr ⟨_, rfl, by decide +kernel, JB.andNil ⟨fun _ => ?_, fun h => nomatch h⟩⟩))⟩))
  exact JE.V EV.bool fun _ => hR _ _ _ _ rfl
theorem parts_odd {w : World} {a : Addr} {x : Value} {n : Nat} {t : Tok} {fz rest : Led} (hu : (a, tupO [.str (S "tuple") t, x] n) ∈ fz) (hz : Tups fz) : Tel w 21 [.ref a] fz rest 4 (fun r _ => r = x) := by
  have kf9 : Mine.hd.heap_1 w.params = Mine.hd.heap_1 w.params ∧ PySem.Challenge.rw_ot0007_01 = PySem.Challenge.rw_ot0007_01 := by k_fill; exact ⟨rfl, rfl⟩
  clear kf9
  refine' tel_def ?a0 ?a1 (fun _ => ?a2) ?a3 ?a4 ?a5 ?a6 ?a7 (hz) ?_
  case a0 => k_is
  case a1 => k_is
  case a2 => exact BindsTo.of_eq rfl
  case a3 => exact locs rfl
  case a4 => exact rfl
  case a5 => exact rfl
  case a6 => exact rfl
  case a7 => decide
  intro c m R _ _ hb hR
  have ht : m (Str.ofString "told") = some (.ref a) := hb _
  clear hb
  refine JX.setV (EV.sub ht hu rfl) fun _ => JX.ifrV (EV.name rfl) (fun h => no_word h (by decide +kernel)) fun h1 => JX.ifr2V (EV.name rfl) (EV.name rfl) (fun h => no_word h (by decide +kernel)) (fun _ h => no_word h (by decide +kernel)) fun h2 h3 => JX.ifrV (EV.name rfl) (fun _ => ?_) fun h4 => no_word (x := S "tuple") (y := S "tuple") (by decide +kernel) h4
  exact JE.V (EV.sub ht hu rfl) fun _ => hR _ _ _ _ rfl
set_option tactic.hygienic true in
theorem match_short {w : World} {v x : Value} {a b : Addr} {n k : Nat} {t : Tok} {T U : Ty} {fz rest : Led} {d : Addr} (hP : TyIn fz v (.pair T U)) (hu : (a, tupO [.str (S "tuple") t, .ref b] n) ∈ fz) (hb : (b, tupO [x] k) ∈ fz) (hz : Tups fz) : Tel w 92 [v, .ref a, .ref d] fz rest 20 (fun r _ => r = .bool false) := by
  cases hP
  rename_i a1 n1 t1 b1 k1 v1 x1 h1 h2 h3 h4
  have kf9 : Mine.hd.heap_1 w.params = Mine.hd.heap_1 w.params ∧ PySem.Challenge.rw_ot0007_01 = PySem.Challenge.rw_ot0007_01 := by k_fill; exact ⟨rfl, rfl⟩
  clear kf9
  refine' tel_def ?a0 ?a1 (fun _ => ?a2) ?a3 ?a4 ?a5 ?a6 ?a7 (hz) ?_
  case a0 => k_is
  case a1 => k_is
  case a2 => exact BindsTo.of_eq rfl
  case a3 => exact locs rfl
  case a4 => exact rfl
  case a5 => exact rfl
  case a6 => exact rfl
  case a7 => decide
  intro c m R hdp hun hb' hR
  have hpt : m (Str.ofString "pattern") = some (.ref a1) := hb' _
  have htt : m (Str.ofString "told") = some (.ref a) := hb' _
  clear hb'
  have hu64 : c.un + 64 < cLine := by first | exact ulk (Y := 8) hun rfl | exact uld (Y := 8) hun rfl
  have hwp : nsIn (Mine.hd.heap_1 w.params) mainGlobals (Str.ofString "parts_of") = some (some (.ref 21)) ∧ keepIn (Mine.hd.heap_1 w.params) (.ref 21) = true := ⟨by k_is, by k_is⟩
  refine JX.ifF (JT.eqV (EV.sub hpt h1 rfl) ⟨by decide +kernel, ?_⟩)
  refine JX.ifF ?_
  refine JT.bool (JB.orF (JT.cmp (JE.V (EV.sub hpt h1 rfl) fun _ => JE.V (EV.sub htt hu rfl) fun _ => JG.neStr ⟨_, rfl, bne_self_eq_false' .., ?_⟩)))
  refine JB.orF (JT.andKind (EV.sub hpt h1 rfl) (fun hi => no_word hi (by decide +kernel)) ⟨rfl, ?_⟩)
  refine JB.orF (JT.cmp (JE.V (EV.sub hpt h1 rfl) fun _ => JE.tup2 EV.str EV.str fun x1 x2 D => JG.inTwo (List.mem_cons_self ..) (by decide +kernel) (by decide +kernel) (by decide +kernel) hu64 (by decide +kernel) ⟨_, rfl, rfl, JB.orNil ⟨rfl, ?_⟩⟩))
  refine JX.ifF ?_
  refine JT.bool (JB.orF (JT.andKind (EV.sub hpt (.tail _ h1) rfl) (fun hi => no_word hi (by decide +kernel)) ⟨rfl, JB.orF (JT.andKind (EV.sub hpt (.tail _ h1) rfl) (fun hi => no_word hi (by decide +kernel)) ⟨rfl, JB.orNil ⟨rfl, ?_⟩⟩)⟩))
  refine JX.ifF (JT.andKind (EV.sub hpt (.tail _ h1) rfl) (fun hi => no_word hi (by decide +kernel)) ⟨rfl, ?_⟩)
  refine JX.set2 ?_
  refine JE.tuple ?_
  refine JA.cons ?_
  refine JE.call hwp.1 hwp.2 (JA.one (EV.name hpt) fun _ => ?_)
  refine JC.tel (d := 4) (P' := fun r _ => r = .ref b1) (parts_odd (.tail _ h1) hz.cons) (by omega) (by omega) ?_
  rintro _ f2 S2 Z2 rfl
  refine JA.cons ?_
  refine JE.call hwp.1 hwp.2 (JA.one (EV.name htt) fun _ => ?_)
  refine JC.tel (d := 4) (P' := fun r _ => r = .ref b) (parts_odd (S2.sub _ (.tail _ hu)) Z2) (by omega) (by omega) ?_
  rintro _ f3 S3 Z3 rfl
  refine JA.nil ⟨Nat.le_of_ble_eq_true rfl, fun DT => ⟨DT, 0, _, _, rfl, List.mem_cons_self .., ?_⟩⟩
  refine JX.ifr ?_
  refine JT.cmp ?_
  refine JE.lenT (n := 2) rfl (.tail _ (S3.sub _ (S2.sub _ (.tail _ h2)))) rfl (Nat.le_refl _) fun _ => ?_
  refine JE.lenT (n := 1) rfl (.tail _ (S3.sub _ (S2.sub _ (.tail _ hb)))) rfl (Nat.le_of_ble_eq_true rfl) fun _ => ?_
  refine JG.neInts ⟨_, rfl, fun _ => ?_, fun h => absurd h (by decide)⟩
  exact JE.V EV.bool fun _ => hR _ _ _ _ rfl

end
section
theorem flushLJ15 : True ∧ True := by (w_top off); (first | (walk1; done) | exact ⟨True.intro, True.intro⟩)
/-! the small logic: what «law» wants -/
theorem enterJ {w : World} {cs : Scope} {cl : List (Str × Addr)} {loose : List Str} {mean : ExcName → Option Value} {mg mb : Str → Option Value} {dp un : Nat} {gd : Option (List Code)} {cn : Str} {L a : Addr} {ccd : Value} {outer : List Env} {A₀ : Around} {base h₀ : Heap} (B : Below A₀ base outer h₀) (X : (hd.heap_1 w.params).In h₀) (TP : Top topProg loose mean mg mb h₀)
    {m : Str → Option Value} {own fz rest : Led} {b : List Stmt} {s : Shared} {Q : Flow → Shared → Prop} {E : Value → Shared → Prop} (R : Flow → (Str → Option Value) → Led → Led → Prop) (hE : PassesOwn (model PySem.Challenge.rw_ot0007_01.row.prog w) (Ard dp un gd cn cs L a ccd cl outer) (envX cn cs L a ccd cl) E) (F : Fr h₀ L s.heap m) (N : News h₀ L s.heap (own ++ (fz ++ rest))) (Z : Tups fz)
    (j : ∀ c : Cx w cs cl, c.base = base → c.dp = dp → c.un = un → JX c m own fz rest b R)
    (k : ∀ fl m' o f h tk, Fr h₀ L h m' → News h₀ L h (o ++ (f ++ rest)) → Tups f → R fl m' o f → Q fl { s with heap := h, toks := tk }) : wpAny (model PySem.Challenge.rw_ot0007_01.row.prog w) (Ard dp un gd cn cs L a ccd cl outer) (execs b (envX cn cs L a ccd cl)) Q E s :=
  j { loose, mean, mg, mb, dp, un, gd, cn, L, a, ccd, outer, A₀, base, h₀, B, X, TP } rfl rfl rfl s Q E hE ⟨F, N, Z⟩ fun fl m' o f h tk a' _ r => k fl m' o f h tk a'.F a'.N a'.Z r
section
variable {w : World} {cs : Scope} {cl : List (Str × Addr)} {c : Cx w cs cl} {m : Str → Option Value} {own fz rest : Led} {pos p1 p2 p3 p4 p5 px : Pos} {k k2 : Nat} {P : Value → Led → Led → Prop} {B : Bool → Led → Led → Prop} {e e0 e1 e2 e3 : Expr} {R : Flow → (Str → Option Value) → Led → Led → Prop} {more body : List Stmt}
/-- a dict's display whose values change own entries -/
theorem JE.dictS {keys : List (Option Expr)} {values : List Expr} (j : ∀ d o, (∀ p ∈ own ++ (fz ++ rest), p.1 < d) → o.IsDictOf (sk w) [] → (d == sysModules) = false → JD c m ((d, o) :: own) fz rest pos keys values (fun prs o1 f => ∃ own', (∀ p ∈ (d, o) :: own', p ∈ o1) ∧ (∀ p ∈ own' ++ rest, p.1 ≠ d) ∧ allStrKeys prs = true ∧ ((strPairs prs).map (·.1)).Nodup ∧ ∀ o', o'.IsDictOf (sk w) (strPairs prs) → P (.ref d) ((d, o') :: own') f))
    (hall : keys.all (·.isSome) = true := by rfl) (hl : keys.length = values.length := by rfl) (h0 : keys ≠ [] := by exact List.cons_ne_nil _ _) (hlen : Nat.ble keys.length 15 = true := by rfl) : JE c m own fz rest (.Dict keys values pos) P := fun s Q E hE a q =>
  kdn_eval (knd := sk w) a.F a.N (Top.nolimit c.TP) hall hl h0 (Nat.le_of_ble_eq_true hlen) fun d h1 o F1 N1 l1 nm hd => j d o l1 hd nm _ _ E hE ⟨F1, N1, a.Z⟩ fun prs o1 f h2 tk2 a2 S2 r => by
    obtain ⟨own', hin, hne', hk, hn, hp⟩ := r
    have N2 : News c.h₀ c.L h2 ((d, o) :: (own' ++ (f ++ rest))) := fun p hp => a2.N p (by
      simp only [List.mem_append, List.mem_cons] at hp hin ⊢
      rcases hp with hp | hp | hp | hp
      · exact .inl (hin p (.inl hp))
      · exact .inl (hin p (.inr hp))
      · exact .inr (.inl hp)
      · exact .inr (.inr hp))
    have hne : ∀ p ∈ own' ++ (f ++ rest), p.1 ≠ d := fun p hp9 => by
      simp only [List.mem_append] at hp9
      rcases hp9 with hp9 | hp9 | hp9
      · exact hne' p (List.mem_append.mpr (.inl hp9))
      · intro e9
        obtain ⟨vs, j, e8⟩ := a2.Z.all p hp9
        have g1 := (N2 p (by simp [hp9])).1
        have g2 := (N2 (d, o) (List.mem_cons_self ..)).1
        rw [e9] at g1
        exact dict_no_tup hd vs j ((Option.some.inj (g2.symm.trans g1)).trans e8)
      · exact hne' p (List.mem_append.mpr (.inr hp9))
    exact kdn_made_str (news := (d, o) :: (own' ++ (f ++ rest))) a2.F N2 (UpdF.head hne) hd hk hn fun h3 o3 F3 N3 d3 => q _ ((d, o3) :: own') f h3 _ ⟨F3, N3, a2.Z⟩ S2 (hp o3 d3)
theorem JH.pool {l : Addr} {vs : List Value} {ns : List Int} {t : Tok} (hi : IntsAre vs ns) (hn : ns.length ≤ 63) (hl : c.base.IsList l vs.toArray) (hd : c.dp + 6 < recursionLimit) (hu : c.un + 8 * 6 < cLine) (h : ∀ D g, (∀ p ∈ own ++ (fz ++ rest), p.1 < D) → P (.ref D) ((D, srcO g) :: own) fz) (hk : cs.kind = .function := by rfl) : JH c m own fz rest (call (.ref 99) [.ref l, .int 0 t]) P := fun s Q E a q =>
  pool_use hi hn hl c.B a.F c.X a.N c.TP hk hd hu fun D g h' tk' F' N' lt => q (.ref D) ((D, srcO g) :: own) fz h' tk' ⟨F', N', a.Z⟩ Sub.refl (h D g lt)
/-- a for over a list, whose body changes the code tables -/
theorem JX.forTabs {x : Str} {vs : List Value} {ax : Addr} {kl : Nat} {t0 : CT} (Inv : Nat → Led → (Str → Option Value) → Prop) (h0 : Inv 0 fz m) (hm : (ax, PySem.W.listOf vs.toArray kl) ∈ rest)
    (turn : ∀ i v f t u I oI, vs[i]? = some v → Sub fz f → Inv i f u → (∀ p ∈ rest, p.1 < I) → Off t.t6 54 → Off t.t5 165 → JX c (upd u x v) ((I, oI) :: ctS t) f rest body (fun fl m2 o2 f2 => fl = .next ∧ (∃ t' : CT, ∀ p ∈ (I, oI) :: ctS t', p ∈ o2) ∧ Inv (i + 1) f2 m2))
    {s : Shared} {Q : Flow → Shared → Prop} {E : Value → Shared → Prop}
    (fin : ∀ f t u h tk, At c u (ctS t) f rest h → Sub fz f → Inv vs.length f u → wpAny c.M c.A (execs more c.env) Q E { s with heap := h, toks := tk })
    (hE : PassesOwn c.M c.A c.env E) (a : At c m (ctS t0) fz rest s.heap) (hk : cs.kind = .function := by rfl) (hx : (∀ cn L a ccd, (envX cn cs L a ccd cl).kindOf x = some .local) := by intros; rfl) :
    wpAny c.M c.A (pyIter (.ref ax)) (fun i s₂ => TurnsAt PySem.Challenge.rw_ot0007_01.row.prog w c.A c.h₀ c.env (.Name x p1) body (fun f s' => match f with | .next => wpAny c.M c.A (execs more c.env) Q E s' | f => Q f s') E i s₂) E s := by
  have toR : ∀ {t : CT} {X f : Led}, ∀ p ∈ X ++ (ctS t ++ (f ++ rest)), p ∈ X ++ (f ++ ctR rest t) := fun {t} {X f} p hp => by
    exact mvT [X, t.t5, t.t6, f, rest] (.a (.s 0) (.a (.a (.s 1) (.s 2)) (.a (.s 3) (.s 4)))) (.a (.s 0) (.a (.s 3) (.a (.s 1) (.a (.s 2) (.s 4))))) hp
  have toL : ∀ {t : CT} {X f : Led}, ∀ p ∈ X ++ (f ++ ctR rest t), p ∈ X ++ (ctS t ++ (f ++ rest)) := fun {t} {X f} p hp => by
    exact mvT [X, t.t5, t.t6, f, rest] (.a (.s 0) (.a (.s 3) (.a (.s 1) (.a (.s 2) (.s 4))))) (.a (.s 0) (.a (.a (.s 1) (.s 2)) (.a (.s 3) (.s 4)))) hp
  refine for_tabs (env := c.env) (c₀ := t0) (led := fz ++ ctR rest t0) Inv rfl a.F (fun p hp => a.N p (toL (X := []) p hp)) Part.tail hm a.Z h0 (fun i v f1 t u h1 tk1 I oI hi hv F1 N1 S1 Z1 I1 bI => ?_) (fun f1 t u h' tk F1 N1 S1 Z1 I1 => ?_)
  · obtain ⟨x5, x6⟩ := ct_at N1
    refine wpAny_assign_Name (storeX_L F1 N1 (fun h3 F3 N3 => ?_) hk (hx ..))
    refine turn i v f1 t u I oI hv S1 I1 bI.lt x5 x6 _ _ E hE ⟨F3, fun p hp => N3 p (toR (X := [(I, oI)]) p hp), Z1⟩ fun fl m2 o2 f2 h4 tk4 a4 S4 r => ?_
    obtain ⟨e, ⟨t', hin⟩, i'⟩ := r
    subst e
    refine tdone_next (c := t') a4.F (led := (I, oI) :: (f2 ++ ctR rest t')) (fun p hp => a4.N p ?_) (.oth .tail) (.head _) (S4.step S1) a4.Z i'
    have hp := toL (X := [(I, oI)]) p hp
    rcases List.mem_append.mp hp with hp | hp
    · exact List.mem_append.mpr (.inl (hin p (List.mem_singleton.mp hp ▸ .head _)))
    · rcases List.mem_append.mp hp with hp | hp
      · exact List.mem_append.mpr (.inl (hin p (.tail _ hp)))
      · exact List.mem_append.mpr (.inr hp)
  · exact fin f1 t u h' tk ⟨F1, fun p hp => N1 p (toR (X := []) p hp), Z1⟩ S1 I1
/-- the same, from the iterable on; what else is own is set aside -/
theorem JX.forL {x : Str} {it : Expr} (j : JE c m own fz rest it (fun v o f => ∃ (ax : Addr) (vs : List Value) (kl : Nat) (t0 : CT) (ex : Led) (Inv : Nat → Led → (Str → Option Value) → Prop), v = .ref ax ∧ (∀ p ∈ ctS t0 ++ ex, p ∈ o) ∧ (ax, PySem.W.listOf vs.toArray kl) ∈ ex ∧ Inv 0 f m ∧
      (∀ i v f' t u I oI, vs[i]? = some v → Sub f f' → Inv i f' u → (∀ p ∈ ex ++ rest, p.1 < I) → Off t.t6 54 → Off t.t5 165 → JX c (upd u x v) ((I, oI) :: ctS t) f' (ex ++ rest) body (fun fl m2 o2 f2 => fl = .next ∧ (∃ t' : CT, ∀ p ∈ (I, oI) :: ctS t', p ∈ o2) ∧ Inv (i + 1) f2 m2)) ∧
      (∀ f' t u, Sub f f' → Inv vs.length f' u → JX c u (ctS t ++ ex) f' rest more R)))
    (hk : cs.kind = .function := by rfl) (hx : (∀ cn L a ccd, (envX cn cs L a ccd cl).kindOf x = some .local) := by intros; rfl) (hs : ∀ env y, foldedSetIterable it env y = pure y := by intros; rfl) : JX c m own fz rest (.For (.Name x p1) it body [] pos :: more) R := fun s Q E hE a q =>
  wpAny_execs_cons (For_turns a.F (j s _ E hE a fun v o f h tk a' S r => by
    obtain ⟨ax, vs, kl, t0, ex, Inv, e, hin, hm, h0, turn, fin⟩ := r
    subst e
    refine JX.forTabs (t0 := t0) Inv h0 (List.mem_append.mpr (.inl hm)) turn (fun f1 t u h1 tk1 a1 S1 I1 => fin f1 t u S1 I1 _ Q E hE ⟨a1.F, fun p hp => a1.N p ?_, a1.Z⟩ fun fl m' o2 f2 h2 tk2 a2 S2 r => q fl m' o2 f2 h2 tk2 a2 ((S2.step S1).step S) r) hE ⟨a'.F, fun p hp => a'.N p ?_, a'.Z⟩ hk hx
    · simp only [List.mem_append] at hp ⊢
      rcases hp with (hp | hp) | hp | hp <;> simp [hp]
    · simp only [List.mem_append] at hp hin ⊢
      rcases hp with hp | hp | hp | hp
      · exact .inl (hin p (.inl hp))
      · exact .inr (.inl hp)
      · exact .inl (hin p (.inr hp))
      · exact .inr (.inr hp)) (hs _) hE)
theorem JX.obsC {b : List Stmt} {t : CT} {x : Addr} {o : Obj} {v : Option Value} (i : ∀ p ∈ ctS t, p ∈ own) (hc : (x, o) ∈ own) (hd : o.data = .cell v) (h5 : x ≠ 54) (h6 : x ≠ 165) (j : Off (ctS t) x → JX c m own fz rest b R) : JX c m own fz rest b R := fun s Q E hE a q =>
  j (Off.app (made_cell a.N t.m5 (fun p hp => List.mem_append.mpr (.inl (i p (List.mem_append.mpr (.inl hp))))) (List.mem_append.mpr (.inl hc)) hd h5) (made_cell a.N t.m6 (fun p hp => List.mem_append.mpr (.inl (i p (List.mem_append.mpr (.inr hp))))) (List.mem_append.mpr (.inl hc)) hd h6)) s Q E hE a q
theorem JH.drop {α : Type} {t : Sem α} {P : α → Led → Led → Prop} (j : JH c m own fz rest t (fun v o f => ∃ o2, (∀ p ∈ o2, p ∈ o) ∧ P v o2 f)) : JH c m own fz rest t P := fun s Q E a q =>
  j s Q E a fun v o f h tk a' S r => by
    obtain ⟨o2, k, p⟩ := r
    exact q v o2 f h tk ⟨a'.F, fun x hx => a'.N x (by
      rcases List.mem_append.mp hx with hx | hx
      · exact List.mem_append.mpr (.inl (k x hx))
      · exact List.mem_append.mpr (.inr hx)), a'.Z⟩ S p
theorem JG.eqNil {a b : Addr} {i j : Nat} (ha : (a, PySem.W.listOf ([] : List Value).toArray i) ∈ own) (hb : (b, PySem.W.listOf ([] : List Value).toArray j) ∈ own) (hu : c.un + 64 < cLine) (h : P (.bool true) own fz) : JG c m own fz rest (compareOp .Eq (.ref a) (.ref b)) P := fun s _ _ _ at9 q => by
  have sh : SeqAt.shaped (.list []) = true := by decide +kernel
  refine eq_dataH (reads_list_at (at9.N _ (List.mem_append.mpr (.inl ha))).1 rfl rfl .nil) (reads_list_at (at9.N _ (List.mem_append.mpr (.inl hb))).1 rfl rfl .nil) sh sh hu ?_
  exact q _ own fz s.heap s.toks at9 Sub.refl h
/-- an empty dict, a call with three arguments, in any frame -/
theorem JH.dict0 {env : Env} (h : ∀ d o, (∀ p ∈ own ++ (fz ++ rest), p.1 < d) → (d == sysModules) = false → o.IsDictOf (sk w) [] → P (.ref d) ((d, o) :: own) fz) : JH c m own fz rest (eval (.Dict [] [] pos) env) P := fun s Q E a q =>
  newDict_K a.F a.N (Top.nolimit c.TP) fun d h' o F' N' l lo hd _ _ _ => q (.ref d) ((d, o) :: own) fz h' s.toks ⟨F', N', a.Z⟩ Sub.refl (h d o l lo hd)
theorem JH.call3 {scope : Scope} {cl' : List (Str × Addr)} {C : Addr} {g : Str} {f : Addr} {v v2 : Value} (hg : nsIn (Mine.hd.heap_1 w.params) mainGlobals g = some (some (.ref f))) (hkeep : keepIn (Mine.hd.heap_1 w.params) (.ref f) = true) (V : CV c m own fz rest e (compEnvC scope cl' C c.env) v) (V2 : CV c m own fz rest e2 (compEnvC scope cl' C c.env) v2) (j : JH c m own fz rest (eval e3 (compEnvC scope cl' C c.env)) (fun v3 o f' => JH c m o f' rest (call (.ref f) [v, v2, v3]) P))
    (hk : ∀ cn L a ccd, (compEnvC scope cl' C (envX cn cs L a ccd cl)).scope.kind = .function := by intros; rfl) (hx : ∀ cn L a ccd, (compEnvC scope cl' C (envX cn cs L a ccd cl)).kindOf g = some .globalImplicit := by intros; rfl) (hb : (g == ("__debug__" : Str)) = false := by decide)
    (he : ∀ env, starEach [e, e2, e3] env = (false, eval e env) :: starEach [e2, e3] env := by intro _; rfl) (he2 : ∀ env, starEach [e2, e3] env = (false, eval e2 env) :: starEach [e3] env := by intro _; rfl) (he3 : ∀ env, starEach [e3] env = (false, eval e3 env) :: starEach [] env := by intro _; rfl) (hp : ∀ env, (backTo pos (starEach [e2, e3] env)).any (·.1) = false := by intro _; rfl) : JH c m own fz rest (eval (.Call (.Name g p1) [e, e2, e3] [] pos) (compEnvC scope cl' C c.env)) P := fun s Q E a q =>
  Call_ (LCgL.ld_global a.F c.X c.TP hg (callWith_K c.X hkeep (args_cons (V s _ E a fun tk => args_cons (V2 _ _ E a fun tk2 => args_cons (j _ _ E a fun v3 o f3 h3 tk3 a3 S3 j3 => args_nil ⟨c.X.keeps a3.F.keep, j3 _ Q E a3 fun r o2 f2 h2 tk4 a2 S2 p => q r o2 f2 h2 tk4 a2 (S2.step S3) p⟩) (he3 _)) (he2 _)) (he _)) (he _) (hp _)) rfl (hk ..) (hx ..) hb)
theorem JH.isTrueE {env : Env} (j : JH c m own fz rest (eval e env) (fun v o f => ∃ b, v = .bool b ∧ B b o f)) (he : ∀ env t, isTrue e env t = (do let v ← t; standAt e.pos; holding [v] (truthy v)) := by intros; rfl) : JH c m own fz rest (isTrue e env (eval e env)) B := fun s Q E a q =>
  isTrue_plain (j s _ E a fun v o f h tk a' S r => by
    obtain ⟨b, e, p⟩ := r
    subst e
    exact wpAny_truthy_bool (q b o f h tk a' S p)) (he _ _)
end

end
section
theorem flushLFin : True ∧ True := by (w_top off); (first | (walk1; done) | exact ⟨True.intro, True.intro⟩)
/-! law, in the small logic -/
theorem ct_split {x : Addr × Obj} {t : CT} {fz rest : Led} : ∀ p ∈ (x :: ctS t) ++ (fz ++ rest), p ∈ x :: (fz ++ ctR rest t) := fun p hp => by
  exact mvT [[x], t.t5, t.t6, fz, rest] (.a (.a (.s 0) (.a (.s 1) (.s 2))) (.a (.s 3) (.s 4))) (.a (.s 0) (.a (.s 3) (.a (.s 1) (.a (.s 2) (.s 4))))) hp
theorem ct_in2 {x : Addr × Obj} {t : CT} {f R : Led} : ∀ p ∈ f ++ ctR (x :: R) t, p ∈ (x :: ctS t) ++ (f ++ R) := fun p hp => by
  exact mvT [[x], t.t5, t.t6, f, R] (.a (.s 3) (.a (.s 1) (.a (.s 2) (.a (.s 0) (.s 4))))) (.a (.a (.s 0) (.a (.s 1) (.s 2))) (.a (.s 3) (.s 4))) hp
theorem ct_out2 {x : Addr × Obj} {t : CT} {f R : Led} : ∀ p ∈ (x :: ctS t) ++ (f ++ R), p ∈ f ++ ctR (x :: R) t := fun p hp => by
  exact mvT [[x], t.t5, t.t6, f, R] (.a (.a (.s 0) (.a (.s 1) (.s 2))) (.a (.s 3) (.s 4))) (.a (.s 3) (.a (.s 1) (.a (.s 2) (.a (.s 0) (.s 4))))) hp
theorem swapC {a b : Addr × Obj} {l : Led} : ∀ p ∈ a :: b :: l, p ∈ b :: a :: l := fun p hp => by
  rcases List.mem_cons.mp hp with rfl | hp
  · exact .tail _ (.head _)
  · rcases List.mem_cons.mp hp with rfl | hp
    · exact .head _
    · exact .tail _ (.tail _ hp)
set_option maxHeartbeats 4000000 in
set_option tactic.hygienic true in
theorem law_fin : PySem.Challenge.rw_ot0007_01.Holds := Mine.hd (by
  k_go0
  (all_goals try k_fold)
  rename News _ _ _ _ => N0
  rename _ ∧ _ => l0
  obtain ⟨fz, rest, t, hz, N, lu0, o5, o6, b5, b6⟩ := tabs_open N0 l0
  clear N0
  rename Ground .. => c1; clear c1
  rename Heap.CodeRec .. => c2; clear c2
  rename Flt.MathXP .. => c3; clear c3
  rename LooseAre .. => c4; clear c4
  rename Tables .. => c5; clear c5
  rename TopE .. => c6; clear c6
  rename TopW .. => c7; clear c7
  rename TabsAt .. => c8; clear c8
  rename Dflts .. => c9; clear c9
  rename CodeHd .. => c10; clear c10
  rename CodeHd .. => c11; clear c11
  refine' enterJ (cl := [(S "pair", _)]) (fz := fz) (rest := rest) ?zB ?zX ?zT (fun fl _ o _ => fl = .ret (.bool true) ∧ ∃ t' : CT, ∀ p ∈ ctS t', p ∈ o) ?zE ?zF (fun p hp => N p (ct_split p hp)) hz ?zJ ?zK
  case zB => k_asm
  case zX => k_asm
  case zT => k_asm
  case zF => k_asm
  case zE => with_unfolding_all passes_own
  case zK =>
    intro fl m' o f h tk F1 N1 Z1 r
    obtain ⟨e, t', hin⟩ := r
    subst e
    obtain ⟨ps5, h5⟩ := t'.m5.mem
    obtain ⟨ps6, h6⟩ := t'.m6.mem
    refine ⟨?_, GrownAt.of (ps := ps5) N1 (List.mem_append.mpr (.inl (hin _ (List.mem_append.mpr (.inl h5))))), GrownAt.of (ps := ps6) N1 (List.mem_append.mpr (.inl (hin _ (List.mem_append.mpr (.inr h6))))), True.intro⟩
    refine goodW_bool (by k_asm) (by assumption) (raisesW_false ?_) ?_
    · wrow_none_raised
    · kc_post
  case zJ =>
    rename World => w
    rename Obj => oc
    rename Shared => s1
    rename Heap.IsList (ghostOf _ _) _ _ => lifted
    rename IntsAre _ _ => hI
    rename ¬ ((63 : Int) < _) => hle
    rename Obj.data _ = Data.cell _ => hcell
    intro c cb cd cu
    generalize hm0 : bindL _ _ _ = m
    have hs : ∃ l vs ns, c.base.IsList l (List.toArray vs) ∧ IntsAre vs ns ∧ ns.length ≤ 63 ∧ m (S "script") = some (.ref l) := ⟨_, _, _, cb ▸ lifted, hI, by omega, by rw [← hm0]; rfl⟩
    clear hm0 lifted hI hle
    obtain ⟨l, vs, ns, hl, hI, hn, hs⟩ := hs
    have room : ∀ {n : Nat}, n ≤ 500 → c.dp + n < recursionLimit ∧ c.un + 8 * n < cLine := fun {n} h => by
      rw [cd, cu]
      have e1 : callerA.depth + 510 < recursionLimit := by decide
      have e2 : callerA.units + 6000 < cLine := by decide
      exact ⟨by show callerA.depth + 1 + n < _; omega, by show callerA.units + 3 + 8 * n < _; omega⟩
    clear cb cd cu
    have hu64 : c.un + 64 < cLine := (room (n := 8) (by decide)).2
    have glob : ∀ {g : Str} {f : Addr}, nsIn (Mine.hd.heap_1 w.params) mainGlobals g = some (some (.ref f)) → keepIn (Mine.hd.heap_1 w.params) (.ref f) = true → nsIn (Mine.hd.heap_1 w.params) mainGlobals g = some (some (.ref f)) ∧ keepIn (Mine.hd.heap_1 w.params) (.ref f) = true := fun a b => ⟨a, b⟩
    have hwp := glob (g := S "_law_pool") (f := 99) (by k_is) (by k_is)
    have hwc := glob (g := S "_law_closed") (f := 127) (by k_is) (by k_is)
    have hwt := glob (g := S "_law_type") (f := 120) (by k_is) (by k_is)
    have hwk := glob (g := S "_law_marks_right") (f := 168) (by k_is) (by k_is)
    have hwr := glob (g := S "_law_put_right") (f := 173) (by k_is) (by k_is)
    have hwm := glob (g := S "matched") (f := 92) (by k_is) (by k_is)
    clear glob
    dsimp only
    have cR : ∀ p ∈ rest, @LT.lt Nat _ p.1 (s1.heap.objs.size + 1) := fun p hp => Nat.lt_succ_of_lt (lu0.lt p (rest_mem hp))
    have m54 : ∀ (t' : CT), ∃ ps, (54, tabObj ps) ∈ ctS t' := fun t' => t'.m5.mem.imp fun _ h => List.mem_append.mpr (.inl h)
    have m165 : ∀ (t' : CT), ∃ ps, (165, tabObj ps) ∈ ctS t' := fun t' => t'.m6.mem.imp fun _ h => List.mem_append.mpr (.inr h)
    -- source
    refine JX.set ?_
    refine JE.call hwp.1 hwp.2 (JA.two (EV.name hs) EV.int fun _ _ => ?_)
    refine JH.G ?_
    refine JH.pool hI hn hl (room (by decide)).1 (room (by decide)).2 ?_
    intro D g0 lD
    have dR : ∀ p ∈ rest, @LT.lt Nat _ p.1 D := fun p hp => lD p (by simp [hp])
    have dO : ∀ p ∈ (s1.heap.objs.size + 1, oc) :: ctS t, @LT.lt Nat _ p.1 D := fun p hp => lD p (List.mem_append.mpr (.inl hp))
    clear lD
    -- table
    refine JX.set ?_
    refine JE.dictS ?_
    intro d o0 ld hd0 nmd
    have eD : @LT.lt Nat _ D d := ld (D, _) (.head _)
    have eR : ∀ p ∈ rest, @LT.lt Nat _ p.1 d := fun p hp => ld p (by simp [hp])
    have eO : ∀ p ∈ (s1.heap.objs.size + 1, oc) :: ctS t, @LT.lt Nat _ p.1 d := fun p hp => ld p (List.mem_append.mpr (.inl (.tail _ hp)))
    clear ld
    have offD : ∀ (o : Obj), Off (((d, o) :: (s1.heap.objs.size + 1, oc) :: ctS t) ++ rest) D := fun o => ⟨fun p hp => by
      rcases List.mem_append.mp hp with hp | hp
      · rcases List.mem_cons.mp hp with rfl | hp
        · exact gt_ne eD
        · exact neN (Nat.ne_of_lt (dO p hp))
      · exact neN (Nat.ne_of_lt (dR p hp))⟩
    refine JD.cons ?_
    refine JE.V EV.str fun t1 => ?_
    refine JE.call hwc.1 hwc.2 (JA.one (EV.name rfl) fun _ => ?_)
    refine JH.G ?_
    refine JH.draw (c0 := g0) (d := 20) (P' := fun v f => ∃ T, TyIn f v T ∧ T ∈ closedL) (offD o0) (fun h z => closed_tel _ _ _ _ h z) ?s1 (room (by decide)).1 (room (by decide)).2 ?_
    case s1 => exact swapC
    rintro vA f1 g1 S1 ⟨A, yA, qA⟩
    refine JD.cons ?_
    refine JE.V EV.str fun t2 => ?_
    refine JE.call hwc.1 hwc.2 (JA.one (EV.name rfl) fun _ => ?_)
    refine JH.G ?_
    refine JH.draw (c0 := g1) (d := 20) (P' := fun v f => ∃ T, TyIn f v T ∧ T ∈ closedL) (offD o0) (fun h z => closed_tel _ _ _ _ h z) (fun p hp => hp) (room (by decide)).1 (room (by decide)).2 ?_
    rintro vB f2 g2 S2 ⟨B, yB, qB⟩
    refine JD.nil ?_
    refine ⟨(D, srcO g2) :: (s1.heap.objs.size + 1, oc) :: ctS t, swapC, ?ne1, rfl, ?nd1, fun o1 hd1 => ?_⟩
    case ne1 =>
      intro p hp
      rcases List.mem_append.mp hp with hp | hp
      · rcases List.mem_cons.mp hp with rfl | hp
        · exact neN (Nat.ne_of_lt eD)
        · exact neN (Nat.ne_of_lt (eO p hp))
      · exact neN (Nat.ne_of_lt (eR p hp))
    case nd1 => show [S "X", S "Y"].Nodup; decide
    replace hd1 : o1.IsDictOf (sk w) [(S "X", vA), (S "Y", vB)] := hd1
    have yA := yA.up S2
    clear S1 S2 hd0
    obtain ⟨lA, pA⟩ := closed_low qA
    obtain ⟨lB, pB⟩ := closed_low qB
    -- fixed
    refine JX.set ?_
    refine JE.tuple ?_
    refine JA.cons ?_
    refine JE.V EV.str fun _ => ?_
    refine JA.cons ?_
    refine JE.V EV.str fun _ => ?_
    refine JA.cons ?_
    refine JE.tup2 EV.str EV.none fun _ _ D1 => ?_
    refine JA.cons ?_
    refine JE.tuple ?_
    refine JA.cons ?_
    refine JE.tup2 EV.str EV.str fun _ _ D2 => ?_
    refine JA.cons ?_
    refine JE.tup2 EV.str EV.str fun _ _ D3 => ?_
    refine JA.nil ⟨Nat.le_of_ble_eq_true rfl, fun D4 => ?_⟩
    refine JA.nil ⟨Nat.le_of_ble_eq_true rfl, fun D5 => ?_⟩
    generalize hF : List.cons (α := Addr × Obj) (D5, _) _ = F
    have S2 : Sub f2 F := hF ▸ .cons (.cons (.cons (.cons (.cons .refl))))
    have y3 : TyIn F (.ref D5) fixedT := by
      rw [← hF]
      exact .adt (List.mem_cons_self ..) (.tail _ (.tail _ (.tail _ (.tail _ (List.mem_cons_self ..))))) (.tail _ (List.mem_cons_self ..)) (.a _) .none (ty_X (.tail _ (.tail _ (.tail _ (List.mem_cons_self ..))))) (ty_Y (.tail _ (.tail _ (List.mem_cons_self ..))))
    have m5 : ∃ t1 t2 x1 x2, (D5, tupO [.str (S "adt") t1, .str (S "m::A") t2, x1, x2] 0) ∈ F := ⟨_, _, _, _, hF ▸ List.mem_cons_self ..⟩
    obtain ⟨t3, t4, x1, x2, m5⟩ := m5
    clear hF
    have yA := yA.up S2
    have yB := yB.up S2
    clear S2 qA qB
    -- the loop's list
    refine JX.forL ?_
    refine JE.listN ?_
    refine JA.cons ?_
    refine JE.call hwt.1 hwt.2 (JA.two (EV.name rfl) EV.int fun _ _ => ?_)
    refine JH.G ?_
    refine JH.draw (c0 := g2) (d := 150) (P' := fun v f => ∃ T, TyIn f v T ∧ Fit 4 T) (offD o1) (fun h z => type_tel 4 4 _ rfl _ _ _ _ h z) swapC (room (by decide)).1 (room (by decide)).2 ?_
    rintro v1 f3 g3 S3 ⟨T1, y1, q1⟩
    refine JA.cons ?_
    refine JE.call hwt.1 hwt.2 (JA.two (EV.name rfl) EV.int fun _ _ => ?_)
    refine JH.G ?_
    refine JH.draw (c0 := g3) (d := 120) (P' := fun v f => ∃ T, TyIn f v T ∧ Fit 3 T) (offD o1) (fun h z => type_tel 3 3 _ rfl _ _ _ _ h z) (fun p hp => hp) (room (by decide)).1 (room (by decide)).2 ?_
    rintro v2 f4 g4 S4 ⟨T2, y2, q2⟩
    refine JA.cons ?_
    refine JE.V (EV.name rfl) fun _ => ?_
    refine JA.nil ⟨rfl, fun LA lL => ?_⟩
    have S34 := S4.step S3
    have y1 := y1.up S4
    have y3 := y3.up S34
    have yA := yA.up S34
    have yB := yB.up S34
    have m5 := S34.sub _ m5
    have eL : @LT.lt Nat _ d LA := lL (d, o1) (by simp)
    clear S3 S4 S34 lL
    refine ⟨LA, [v1, v2, .ref D5], 0, t, (LA, PySem.W.listOf [v1, v2, .ref D5].toArray 0) :: (D, srcO g4) :: (d, o1) :: [(s1.heap.objs.size + 1, oc)], (fun _ _ u => u (S "table") = some (.ref d) ∧ u (S "fixed") = some (.ref D5)), rfl, ?hin, .head _, ⟨rfl, rfl⟩, ?turn, ?fin⟩
    case hin => exact fun p hp => mvT [ctS t, [_], [_], [_], [_]] (.a (.s 0) (.a (.s 1) (.a (.s 2) (.a (.s 3) (.s 4))))) (.a (.s 1) (.a (.s 2) (.a (.s 3) (.a (.s 4) (.s 0))))) hp
    case turn =>
      rintro i v f5 t5 u I oI hv S5 ⟨ht, hf⟩ lI x5 x6
      obtain ⟨T, hT, hD, hh⟩ := thing_at (y1.up S5) q1 (y2.up S5) q2 (y3.up S5) hv
      have c1 : @LT.lt Nat _ (s1.heap.objs.size + 1) D := dO _ (.head _)
      have c2 : @LT.lt Nat _ LA I := lI _ (.head _)
      have big : ∀ x : Nat, @LE.le Nat _ x 165 → Off rest x → Off ((I, oI) :: ((LA, PySem.W.listOf [v1, v2, .ref D5].toArray 0) :: (D, srcO g4) :: (d, o1) :: [(s1.heap.objs.size + 1, oc)] ++ rest)) x := fun x hx k => ⟨fun p hp => by
        simp only [List.mem_append, List.mem_cons, List.not_mem_nil, or_false] at hp
        rcases hp with rfl | (rfl | rfl | rfl | rfl) | hp
        · refine neN ?_; dsimp only; omega
        · refine neN ?_; dsimp only; omega
        · refine neN ?_; dsimp only; omega
        · refine neN ?_; dsimp only; omega
        · refine neN ?_; dsimp only; omega
        · exact k.off p hp⟩
      have md : ∀ {X : Led}, (d, o1) ∈ X ++ ((LA, PySem.W.listOf [v1, v2, .ref D5].toArray 0) :: (D, srcO g4) :: (d, o1) :: [(s1.heap.objs.size + 1, oc)] ++ rest) := fun {X} => List.mem_append.mpr (.inr (List.mem_append.mpr (.inl (.tail _ (.tail _ (.head _))))))
      refine JX.ifF ?_
      refine JT.bool ?_
      refine JB.orF ?_
      refine JT.not ?_
      refine JT.E ?_
      refine JE.call hwk.1 hwk.2 (JA.two (EV.name rfl) (EV.name ht) fun _ _ => ?_)
      refine JH.G ?_
      refine JH.telS (st := t5) (d := 12 * height T + 300) (P' := fun r _ _ => r = .bool true) (fun Z => marks_right_walk hT Z hD (by omega) (two_tab (md (X := [(I, oI)])) hd1 nmd (yA.up S5) (yB.up S5)) (by show [true, false].Nodup; decide) (two_low lA lB) (big 54 (by decide) o5) (big 165 (by decide) o6) x5 x6) (room (by first | exact lin rfl rfl | exact lin0 rfl | omega)).1 (room (by first | exact lin rfl rfl | exact lin0 rfl | omega)).2 ct_in2 ?_
      rintro _ f6 t6 S6 rfl
      refine ⟨(I, oI) :: ctS t6, ct_out2, true, rfl, rfl, ?_⟩
      refine JB.orF ?_
      refine JT.not ?_
      refine JT.E ?_
      refine JE.call hwr.1 hwr.2 (JA.two (EV.name rfl) (EV.name ht) fun _ _ => ?_)
      refine JH.G ?_
      have S56 := S6.step S5
      refine JH.tel (d := 24 * height T + 400) (P' := fun r _ => r = .bool true) (fun Z => put_right_walk (hT.up S6) Z (by omega) md hd1 nmd (yA.up S56) (yB.up S56) lA lB pA pB) (room (by first | exact lin rfl rfl | exact lin0 rfl | omega)).1 (room (by first | exact lin rfl rfl | exact lin0 rfl | omega)).2 ?_
      rintro _ f7 S7 rfl
      exact ⟨true, rfl, rfl, JB.orNil ⟨rfl, JX.nil ⟨rfl, ⟨t6, fun p hp => hp⟩, ht, hf⟩⟩⟩
    case fin =>
      rintro f5 t5 u S5 ⟨ht, hf⟩
      have m5 := S5.sub _ m5
      have y3 := y3.up S5
      clear S5 yA yB y1 y2 q1 q2 hd1 eL eR eO eD
      refine JX.sub (own2 := (s1.heap.objs.size + 1, oc) :: ctS t5) ?h9 ?_
      case h9 => exact fun p hp => mvT [ctS t5, [_], [_], [_], [_]] (.a (.s 4) (.s 0)) (.a (.s 0) (.a (.s 1) (.a (.s 2) (.a (.s 3) (.s 4))))) hp
      refine (JX.obsC (t := t5) (fun p hp => .tail _ hp) (List.mem_cons_self ..) hcell ?h5 ?h6 ?jj :)
      case h5 => exact gt_ne (Nat.lt_succ_of_lt b5)
      case h6 => exact gt_ne (Nat.lt_succ_of_lt b6)
      intro oC
      refine JX.setC ?_
      refine JE.tuple ?_
      refine JA.cons ?_
      refine JE.V EV.str fun _ => ?_
      refine JA.cons ?_
      refine JE.tuple ?_
      refine JA.cons ?_
      refine JE.tup2 EV.str EV.str fun _ _ E1 => ?_
      refine JA.cons ?_
      refine JE.tup2 EV.str EV.str fun _ _ E2 => ?_
      refine JA.nil ⟨Nat.le_of_ble_eq_true rfl, fun E3 => ?_⟩
      refine JA.nil ⟨Nat.le_of_ble_eq_true rfl, fun E4 => ?_⟩
      refine ⟨_, oc, _, _, rfl, .head oC.off, hcell, ⟨fun p hp => neN (Nat.ne_of_lt (cR p hp))⟩, fun oc' hoc' => ?_⟩
      generalize hF : List.cons (α := Addr × Obj) (E4, _) _ = F
      have S2 : Sub f5 F := hF ▸ .cons (.cons (.cons (.cons .refl)))
      have yP : TyIn F (.ref E4) (.pair (.param true) (.param true)) := by
        rw [← hF]
        exact .pair (List.mem_cons_self ..) (.tail _ (List.mem_cons_self ..)) (ty_X (.tail _ (.tail _ (.tail _ (List.mem_cons_self ..))))) (ty_X (.tail _ (.tail _ (List.mem_cons_self ..))))
      clear hF
      have m5 := S2.sub _ m5
      have y3 := y3.up S2
      clear S2
      -- unlike
      refine JX.set ?_
      refine JE.listN ?_
      refine JA.cons ?_
      refine JE.tuple ?_
      refine JA.cons ?_
      refine JE.V EV.str fun _ => ?_
      refine JA.cons ?_
      refine JE.tuple ?_
      refine JA.cons ?_
      refine JE.tup1 EV.str fun _ G1 => ?_
      refine JA.cons ?_
      refine JE.tup2 EV.str EV.str fun _ _ G2 => ?_
      refine JA.nil ⟨Nat.le_of_ble_eq_true rfl, fun G3 => ?_⟩
      refine JA.nil ⟨Nat.le_of_ble_eq_true rfl, fun G4 => ?_⟩
      refine JA.cons ?_
      refine JE.tuple ?_
      refine JA.cons ?_
      refine JE.V EV.str fun _ => ?_
      refine JA.cons ?_
      refine JE.tuple ?_
      refine JA.cons ?_
      refine JE.tup1 EV.str fun _ G5 => ?_
      refine JA.nil ⟨Nat.le_of_ble_eq_true rfl, fun G6 => ?_⟩
      refine JA.nil ⟨Nat.le_of_ble_eq_true rfl, fun G7 => ?_⟩
      refine JA.cons ?_
      refine JE.tuple ?_
      refine JA.cons ?_
      refine JE.V EV.str fun _ => ?_
      refine JA.cons ?_
      refine JE.tup1 EV.str fun _ G8 => ?_
      refine JA.nil ⟨Nat.le_of_ble_eq_true rfl, fun G9 => ?_⟩
      refine JA.nil ⟨rfl, fun LU _ => ?_⟩
      generalize hF2 : List.cons (α := Addr × Obj) (G9, _) _ = F2
      have S2 : Sub F F2 := hF2 ▸ .cons (.cons (.cons (.cons (.cons (.cons (.cons (.cons (.cons .refl))))))))
      have z1 : TyIn F2 (.ref G4) (.pair .bool (.int true)) := by
        rw [← hF2]
        exact .pair (.tail _ (.tail _ (.tail _ (.tail _ (.tail _ (List.mem_cons_self ..)))))) (.tail _ (.tail _ (.tail _ (.tail _ (.tail _ (.tail _ (List.mem_cons_self ..))))))) (.bool (.tail _ (.tail _ (.tail _ (.tail _ (.tail _ (.tail _ (.tail _ (.tail _ (List.mem_cons_self ..)))))))))) (ty_u8 (.tail _ (.tail _ (.tail _ (.tail _ (.tail _ (.tail _ (.tail _ (List.mem_cons_self ..)))))))))
      have z2 : ∃ t b x9, (G7, tupO [.str (S "tuple") t, .ref b] 0) ∈ F2 ∧ (b, tupO [x9] 0) ∈ F2 := by
        rw [← hF2]
        exact ⟨_, _, _, (.tail _ (.tail _ (List.mem_cons_self ..))), (.tail _ (.tail _ (.tail _ (List.mem_cons_self ..))))⟩
      obtain ⟨t5', b9, x9, z2, z2'⟩ := z2
      have z3 : TyIn F2 (.ref G9) (.box .bool) := by
        rw [← hF2]
        exact .box (List.mem_cons_self ..) (.bool (.tail _ (List.mem_cons_self ..)))
      clear hF2
      have m5 := S2.sub _ m5
      have y3 := y3.up S2
      have yP := yP.up S2
      clear S2
      -- matched(fixed, ..)
      refine JX.ifF ?_
      refine JT.E ?_
      refine JE.call hwm.1 hwm.2 (JA.cons ?_)
      refine JE.V (EV.name hf) fun _ => ?_
      refine JA.cons ?_
      refine JE.tup4 EV.str EV.str (EV.sub hf m5 rfl) (EV.sub hf m5 rfl) fun t1 t2 _ _ H1 => ?_
      refine JA.cons ?_
      refine JE.dict0 fun dZ oZ _ nmZ hZ => ?_
      refine JA.nil ?_
      refine JH.G ?_
      refine JH.tel (d := 20) (P' := fun r _ => r = .bool false) (fun Z => match_B (y3.up (.cons .refl)) (List.mem_cons_self ..) Z) (room (by decide)).1 (room (by decide)).2 ?_
      rintro _ f6 S6 rfl
      refine ⟨false, rfl, rfl, ?_⟩
      have S6 := S6.step (Sub.cons (p := (H1, _)) .refl)
      have z1 := z1.up S6
      have z2 := S6.sub _ z2
      have z2' := S6.sub _ z2'
      have z3 := z3.up S6
      have yP := yP.up S6
      clear S6 m5 y3
      refine JX.sub (own2 := (LU, PySem.W.listOf [Value.ref G4, .ref G7, .ref G9].toArray 0) :: (s1.heap.objs.size + 1, oc') :: ctS t5) ?h9 ?_
      case h9 => exact fun p hp => .tail _ hp
      -- the answer
      refine JX.ret ?_
      refine JE.cmp ?_
      refine JE.comp (γ := Unit) (fun _ => (LU, PySem.W.listOf [Value.ref G4, .ref G7, .ref G9].toArray 0) :: (s1.heap.objs.size + 1, oc') :: ctS t5) () (fun vs _ => vs = [Value.ref G4, .ref G7, .ref G9]) (fun _ _ ys _ _ => ys = []) (fun _ => rfl) ?src ?ctn ?cfn
      case src => exact JE.V (EV.name rfl) fun _ => ⟨_, _, rfl, .inr (.inl ⟨0, fun _ => List.mem_cons_self ..⟩), rfl, by show 3 ≤ sizeLine; decide, rfl, rfl⟩
      case cfn =>
        rintro _ f0 S0 rfl D9 ys f9 _ S9 rfl _
        refine JE.listN (JA.nil ⟨rfl, fun DN _ => ?_⟩)
        exact JG.eqNil (.tail _ (List.mem_cons_self ..)) (List.mem_cons_self ..) hu64 ⟨rfl, t5, fun p hp => .tail _ (.tail _ (.tail _ (.tail _ hp)))⟩
      case ctn =>
        rintro _ f0 S0 rfl i9 v9 ys f9 _ C oC m₂ I oI D9 hv S9 rfl hC hx9 _
        refine JH.oneTest (JH.drop (JH.isTrueE ?_))
        refine JH.call3 hwm.1 hwm.2 (CV.cell rfl (.tail _ (.tail _ (.tail _ (.tail _ (List.mem_cons_self ..))))) hoc') (CV.var (.tail _ (List.mem_cons_self ..)) hC hx9) ?_
        refine JH.dict0 fun dZ oZ ltZ nmZ hZ => ?_
        have hP := yP.up (S9.step S0)
        have hw : m₂ (S "one") = some v9 := hx9
        have room2 : c.dp + (12 * height (.pair (.param true) (.param true)) + 20) < recursionLimit ∧ c.un + 8 * (12 * height (.pair (.param true) (.param true)) + 20) < cLine := room (by decide)
        have hoff : Off (((I, oI) :: (C, oC) :: (D9, PySem.W.listOf ([] : List Value).toArray ([] : List Value).length) :: (LU, PySem.W.listOf [Value.ref G4, .ref G7, .ref G9].toArray 0) :: (s1.heap.objs.size + 1, oc') :: ctS t5) ++ rest) dZ := .lt fun p hp => ltZ p (by
          rcases List.mem_append.mp hp with hp | hp
          · exact List.mem_append.mpr (.inl hp)
          · exact List.mem_append.mpr (.inr (List.mem_append.mpr (.inr hp))))
        have hD0 : DictIs w f9 oZ [] := ⟨⟨[], hZ, .nil⟩, List.nodup_nil, fun p hp => nomatch hp⟩
        have S90 := S9.step S0
        rcases i9 with _ | _ | _ | i9
        · obtain rfl : Value.ref G4 = v9 := by simpa using hv
          refine JH.match hP (z1.up S90) (by decide) (by decide) (.pair .param .param) hoff nmZ hD0 rfl (fun p hp => hp) room2.1 room2.2 fun f' o' S D => ⟨false, rfl, _, fun p hp => .tail _ hp, ?_⟩
          rw [if_neg Bool.false_ne_true]
          exact ⟨(), rfl, rfl⟩
        · obtain rfl : Value.ref G7 = v9 := by simpa using hv
          refine JH.tel (d := 20) (P' := fun r _ => r = .bool false) (fun Z => match_short hP (S90.sub _ z2) (S90.sub _ z2') Z) (room (by decide)).1 (room (by decide)).2 ?_
          rintro _ f' S rfl
          refine ⟨false, rfl, _, fun p hp => .tail _ hp, ?_⟩
          rw [if_neg Bool.false_ne_true]
          exact ⟨(), rfl, rfl⟩
        · obtain rfl : Value.ref G9 = v9 := by simpa using hv
          refine JH.match hP (z3.up S90) (by decide) (by decide) (.diff (by show S _ ≠ S _; decide)) hoff nmZ hD0 rfl (fun p hp => hp) room2.1 room2.2 fun f' o' S D => ⟨false, rfl, _, fun p hp => .tail _ hp, ?_⟩
          rw [if_neg Bool.false_ne_true]
          exact ⟨(), rfl, rfl⟩
        · simp at hv)

end
end Mine
theorem PySem.Challenge.cw_ot0007_01_holds : PySem.Challenge.rw_ot0007_01.Holds :=
  Mine.law_fin
