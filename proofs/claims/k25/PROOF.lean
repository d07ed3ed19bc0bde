import PyProof.Rows.All
import Wide.All
import OpenK.AllK
import Wide.FinOn
import HandS.ForMost
import HandS.Defaults
import PySem.Challenge.RW_goalstead_k25_whole_rings_and_layers
import HandS.More
import KE.GoesEnum
import KE.KUnpackStar
import HandS.Exc
import HandS.ExcField
import HandS.ExcInit
import HandS.TryMany
import HandS.DictComp
import HandS.IsInst
import HandS.Conv
import HandS.Wide
import HandS.Walk
import HandS.NoneIn
import KE.KStateDown
import Lean
import HandS.Head0
import HandS.Head1
import HandS.Head2
import HandS.HeadEnd
import HandS.HeadHook1
import HandS.HeadHook2
import HandS.HeadHook3
import HandS.HeadHook4
set_option Elab.async false
set_option linter.all false
set_option maxRecDepth 100000
set_option maxHeartbeats 0
/-! Plain mathematics: what comes to what, and the least layers. No program in sight. -/
namespace G3
section
variable {α : Type} [DecidableEq α]

/-- head, goal, whether in a not -/
abbrev Lk (α : Type) := α × α × Bool
def b2 (b : Bool) : Int := if b = true then 1 else 0
theorem b2_le (b : Bool) : b2 b ≤ 1 := by cases b <;> decide
theorem b2_nn (b : Bool) : 0 ≤ b2 b := by cases b <;> decide

inductive Rch (ls : List (Lk α)) (a : α) : α → Prop
  | refl : Rch ls a a
  | step {b c : α} {d : Bool} : Rch ls a b → (b, c, d) ∈ ls → Rch ls a c
theorem Rch.trans {ls : List (Lk α)} {a b c : α} (h : Rch ls a b) (h' : Rch ls b c) : Rch ls a c := by
  induction h' with
  | refl => exact h
  | step _ m ih => exact .step ih m
theorem Rch.one {ls : List (Lk α)} {a b : α} {d : Bool} (h : (a, b, d) ∈ ls) : Rch ls a b := .step .refl h
/-- what is closed holds all that is come to -/
theorem Rch.closed {ls : List (Lk α)} {a : α} {S : α → Prop} (h0 : S a) (hs : ∀ b c d, (b, c, d) ∈ ls → S b → S c) : ∀ {c : α}, Rch ls a c → S c := by
  intro c h
  induction h with
  | refl => exact h0
  | step _ m ih => exact hs _ _ _ m ih

/-! ### the layers -/
def Valid (ls : List (Lk α)) (f : α → Int) : Prop := ∀ h g b, (h, g, b) ∈ ls → f g + b2 b ≤ f h
def put (f : α → Int) (a : α) (v : Int) : α → Int := fun x => if x = a then v else f x
theorem put_same (f : α → Int) (a : α) (v : Int) : put f a v a = v := if_pos rfl
theorem put_ne {f : α → Int} {a x : α} {v : Int} (h : x ≠ a) : put f a v x = f x := if_neg h
theorem put_self (f : α → Int) (a : α) : put f a (f a) = f := by
  funext x
  unfold put
  split
  · next h => rw [h]
  · rfl
/-- one link's work -/
def up1 (f : α → Int) (l : Lk α) : α → Int := if f l.1 < f l.2.1 + b2 l.2.2 then put f l.1 (f l.2.1 + b2 l.2.2) else f
def total (ws : List α) (f : α → Int) : Int := (ws.map f).sum
theorem total_nil (f : α → Int) : total [] f = 0 := rfl
theorem total_cons (a : α) (ws : List α) (f : α → Int) : total (a :: ws) f = f a + total ws f := by
  unfold total
  rw [List.map_cons, List.sum_cons]
theorem total_mono {ws : List α} {f g : α → Int} (h : ∀ a ∈ ws, f a ≤ g a) : total ws f ≤ total ws g := by
  induction ws with
  | nil => exact Int.le_refl _
  | cons a r ih =>
    have h1 := h a (by simp)
    have h2 := ih fun b hb => h b (by simp [hb])
    rw [total_cons, total_cons]
    omega
theorem total_lt {ws : List α} {f g : α → Int} (h : ∀ a ∈ ws, f a ≤ g a) {a : α} (ha : a ∈ ws) (hl : f a < g a) : total ws f < total ws g := by
  induction ws with
  | nil => cases ha
  | cons c r ih =>
    have h1 := h c (by simp)
    have h2 : total r f ≤ total r g := total_mono fun b hb => h b (by simp [hb])
    rw [total_cons, total_cons]
    rcases List.mem_cons.mp ha with e | e
    · subst e
      omega
    · have h3 := ih (fun b hb => h b (by simp [hb])) e
      omega
theorem total_bound {ws : List α} {f : α → Int} {m : Int} (h : ∀ a ∈ ws, f a ≤ m) : total ws f ≤ ws.length * m := by
  induction ws with
  | nil => rw [total_nil]; simp
  | cons a r ih =>
    have h1 := h a (by simp)
    have h2 := ih fun b hb => h b (by simp [hb])
    rw [total_cons, List.length_cons]
    have h3 : (((r.length + 1 : Nat) : Int)) * m = (r.length : Int) * m + m := by
      rw [Int.natCast_add, Int.add_mul]; simp
    rw [h3]
    omega
theorem total_nn {ws : List α} {f : α → Int} (h : ∀ a, 0 ≤ f a) : 0 ≤ total ws f := by
  induction ws with
  | nil => exact Int.le_refl _
  | cons a r ih =>
    have h1 := h a
    rw [total_cons]
    omega
theorem up1_ge (f : α → Int) (l : Lk α) (x : α) : f x ≤ up1 f l x := by
  unfold up1
  split
  · next h =>
    unfold put
    split
    · next e => rw [e]; omega
    · exact Int.le_refl _
  · exact Int.le_refl _
theorem up1_le {ls : List (Lk α)} {f L : α → Int} {l : Lk α} (hL : Valid ls L) (hl : l ∈ ls) (h : ∀ x, f x ≤ L x) (x : α) : up1 f l x ≤ L x := by
  unfold up1
  split
  · unfold put
    split
    · next e =>
      have v := hL l.1 l.2.1 l.2.2 hl
      have k := h l.2.1
      rw [e]
      omega
    · exact h x
  · exact h x
theorem up1_max (f : α → Int) (l : Lk α) : up1 f l = put f l.1 (if f l.2.1 + b2 l.2.2 > f l.1 then f l.2.1 + b2 l.2.2 else f l.1) := by
  unfold up1
  by_cases h : f l.1 < f l.2.1 + b2 l.2.2
  · rw [if_pos h, if_pos (show f l.2.1 + b2 l.2.2 > f l.1 from h)]
  · rw [if_neg h, if_neg (show ¬ f l.2.1 + b2 l.2.2 > f l.1 from h), put_self]

/-! one sweep over the links, link by link: where the work stands behind some of them -/
structure Swp (ws : List α) (f₀ f : α → Int) (done : List (Lk α)) (ch : Bool) : Prop where
  ge : ∀ x, f₀ x ≤ f x
  yes : ch = true → total ws f₀ < total ws f
  no : ch = false → f = f₀ ∧ Valid done f₀
theorem Swp.start (ws : List α) (f : α → Int) : Swp ws f f [] false := ⟨fun _ => Int.le_refl _, nofun, fun _ => ⟨rfl, fun _ _ _ h => nomatch h⟩⟩
theorem Swp.next {ws : List α} {f₀ f : α → Int} {done : List (Lk α)} {ch : Bool} (s : Swp ws f₀ f done ch) {l : Lk α} (hl : l.1 ∈ ws) :
    Swp ws f₀ (up1 f l) (done ++ [l]) (ch || decide (f l.1 < f l.2.1 + b2 l.2.2)) := by
  refine ⟨fun x => Int.le_trans (s.ge x) (up1_ge f l x), fun h => ?_, fun h => ?_⟩
  · cases ch with
    | true => exact Int.lt_of_lt_of_le (s.yes rfl) (total_mono fun x _ => up1_ge f l x)
    | false =>
      have hlt : f l.1 < f l.2.1 + b2 l.2.2 := of_decide_eq_true (by simpa using h)
      rw [(s.no rfl).1] at hlt ⊢
      refine total_lt (fun x _ => up1_ge _ l x) hl ?_
      unfold up1
      rw [if_pos hlt, put_same]
      exact hlt
  · rw [Bool.or_eq_false_iff] at h
    obtain ⟨rfl, h2⟩ := h
    have hge : ¬ f l.1 < f l.2.1 + b2 l.2.2 := of_decide_eq_false h2
    obtain ⟨e, v⟩ := s.no rfl
    subst e
    refine ⟨by unfold up1; rw [if_neg hge], fun a g b hm => ?_⟩
    rcases List.mem_append.mp hm with hm | hm
    · exact v a g b hm
    · have e2 : (a, g, b) = l := by simpa using hm
      subst e2
      exact Int.not_lt.mp hge

/-- the least valid layers -/
structure Least (ls : List (Lk α)) (ws : List α) (f : α → Int) : Prop where
  valid : Valid ls f
  least : ∀ L : α → Int, (∀ x, 0 ≤ L x) → Valid ls L → ∀ x, f x ≤ L x
theorem Least.eq {ls : List (Lk α)} {ws : List α} {f g : α → Int} (hf : Least ls ws f) (hg : Least ls ws g) (f0 : ∀ x, 0 ≤ f x) (g0 : ∀ x, 0 ≤ g x) (x : α) : f x = g x :=
  Int.le_antisymm (hf.least g g0 hg.valid x) (hg.least f f0 hf.valid x)

theorem countP_lt {p q : α → Bool} {l : List α} (h : ∀ x ∈ l, p x = true → q x = true) {a : α} (ha : a ∈ l) (hq : q a = true) (hp : p a = false) : l.countP p < l.countP q := by
  induction l with
  | nil => cases ha
  | cons c r ih =>
    have h1 : r.countP p ≤ r.countP q := List.countP_mono_left fun x hx => h x (by simp [hx])
    rw [List.countP_cons, List.countP_cons]
    rcases List.mem_cons.mp ha with e | e
    · subst e
      rw [if_pos hq, if_neg (by rw [hp]; simp)]
      omega
    · have h2 := ih (fun x hx => h x (by simp [hx])) e
      have h3 := h c (by simp)
      by_cases hc : p c = true
      · rw [if_pos hc, if_pos (h3 hc)]
        omega
      · rw [if_neg hc]
        split <;> omega
open Classical in
/-- where no not lies on a ring there are layers, all of them below the number of words -/
theorem layered {ls : List (Lk α)} {ws : List α} (hnr : ∀ h g, (h, g, true) ∈ ls → ¬ Rch ls g h) (hin : ∀ h g b, (h, g, b) ∈ ls → h ∈ ws ∧ g ∈ ws) :
    ∃ L : α → Int, (∀ x, 0 ≤ L x) ∧ Valid ls L ∧ ∀ x ∈ ws, L x ≤ (ws.length : Int) - 1 := by
  refine ⟨fun w => (ws.countP fun v => decide (Rch ls w v ∧ ¬ Rch ls v w) : Nat), fun x => Int.natCast_nonneg _, fun h g b hm => ?_, fun x hx => ?_⟩
  · have sub : ∀ v ∈ ws, decide (Rch ls g v ∧ ¬ Rch ls v g) = true → decide (Rch ls h v ∧ ¬ Rch ls v h) = true := fun v _ e => by
      have e := of_decide_eq_true e
      exact decide_eq_true ⟨(Rch.one hm).trans e.1, fun z => e.2 (z.trans (.one hm))⟩
    by_cases hr : Rch ls g h
    · have hb : b = false := by
        cases b with
        | false => rfl
        | true => exact absurd hr (hnr h g hm)
      subst hb
      have := List.countP_mono_left sub
      show ((_ : Nat) : Int) + 0 ≤ ((_ : Nat) : Int)
      omega
    · have := countP_lt sub (hin h g b hm).2 (decide_eq_true ⟨Rch.one hm, hr⟩) (decide_eq_false fun z => z.2 .refl)
      have hb := b2_le b
      show ((_ : Nat) : Int) + b2 b ≤ ((_ : Nat) : Int)
      omega
  · have h1 : ws.countP (fun v => decide (Rch ls x v ∧ ¬ Rch ls v x)) < ws.countP fun _ => true :=
      countP_lt (fun _ _ _ => rfl) hx rfl (decide_eq_false fun z => z.2 .refl)
    rw [List.countP_true] at h1
    show ((_ : Nat) : Int) ≤ _
    omega
end
end G3

namespace G3
open PySem PySem.Spec PyProof.Rows L2
/-! ### the text by places -/
def top (i : Nat) : Stmt := PySem.Challenge.pw_goalstead_k25_whole_rings_and_layers.main.body.getD i (.Pass ⟨0, 0, 0, 0⟩)
abbrev s_kind_of : Stmt := top 11
abbrev s_asked_of : Stmt := top 12
abbrev s_is_unknown : Stmt := top 16
abbrev s_gather : Stmt := top 17
abbrev s_unknowns_of : Stmt := top 18
abbrev s_title_of : Stmt := top 19
abbrev s_places_of : Stmt := top 20
abbrev s_known_places : Stmt := top 21
abbrev s_told_places : Stmt := top 22
abbrev s_all_known : Stmt := top 24
abbrev s_learn_all : Stmt := top 25
abbrev s_first_mode : Stmt := top 26
abbrev s_word_at : Stmt := top 28
abbrev s_stray_own : Stmt := top 29
abbrev s_held_in : Stmt := top 30
abbrev s_look_modes : Stmt := top 32
abbrev s_look_known : Stmt := top 33
abbrev s_rings_at : Stmt := top 34
abbrev s_look_rings : Stmt := top 35
abbrev s_reached_from : Stmt := top 37
abbrev s_links_of : Stmt := top 38
abbrev s_heights_of : Stmt := top 39
abbrev s_law_draw : Stmt := top 43
abbrev s_law_text : Stmt := top 44
abbrev s_law_whole : Stmt := top 45
abbrev s_law_graph : Stmt := top 46
abbrev s_law_links : Stmt := top 47
abbrev s_law_reach : Stmt := top 48
abbrev s_law_layers : Stmt := top 49
abbrev s_law_due : Stmt := top 50
abbrev s_law_try : Stmt := top 51
abbrev s_law : Stmt := top 52
abbrev m_init : Stmt := inClass (top 41) 0
abbrev m_lay : Stmt := inClass (top 41) 1
abbrev m_enter : Stmt := inClass (top 41) 2
abbrev m_titles : Stmt := inClass (top 41) 3
abbrev m_modes : Stmt := inClass (top 41) 4
abbrev m_is_tabled : Stmt := inClass (top 41) 5
abbrev m_comes_to : Stmt := inClass (top 41) 7
abbrev m_layer : Stmt := inClass (top 41) 8
abbrev i_mixed : Stmt := inClass (top 6) 0
abbrev i_notring : Stmt := inClass (top 7) 0
/-- a def of the module, a method -/
abbrev FnP (K : PySem.W.Frag) (x : Str) (st : Stmt) (f : Addr) (fd : FuncData) : Prop := FunD K x x (defArgs st) (defBody st) (defScope st) [] [] f fd
abbrev FnM (K : PySem.W.Frag) (x q : Str) (st : Stmt) (f : Addr) (fd : FuncData) : Prop := FunD K x q (defArgs st) (defBody st) (defScope st) [] [] f fd
end G3

/-! Rules that the layer lacks: get with a default on a written dict; enumerate of a tuple; zip of an empty tuple and an empty text. -/
namespace G3
open PySem PySem.Spec PyProof.Rows L2

/-! ### d.get(k, x), d a dict of the written part, the key there -/
def tKget (K : PySem.W.Frag) (d : Addr) (to te tf : TE) : TE := fun σ H Q => to σ H fun x H1 => x = .ref d ∧ te σ H1 fun y H2 => tf σ H2 fun _ H3 =>
  ∃ (k : Str) (u : Value) (v : V), y = .str k ∧ PySem.W.nsIn K d k = some (some u) ∧ RelV v u ∧ Q v H3
theorem pe_kget {X : Cx} {d : Addr} {es : Array DictEntry} {n : Nat} {o e f : Expr} {to te tf : TE} {apos cpos : Pos} (D : KDict X.K X.w d es n)
    (ho : PE X o to) (he : PE X e te) (hf : PE X f tf) (m : M2 X o "get" apos e f cpos) : PE X (.Call (.Attribute o "get" apos) [e, f] [] cpos) (tKget X.K d to te tf) := by
  refine ⟨fun pins s σ H Q I h => ?_⟩
  refine wpAny_Call_method m.base m.few m.line PySem.F.plainAttrs_dict PySem.F.slot_dict_get PySem.F.type_dict_get (thn (ho.run pins s σ H _ I h) fun uo s1 hh => ?_)
  obtain ⟨x, H1, I1, rx, ex, q1⟩ := hh
  subst ex
  obtain rfl : uo = Value.ref d := rx
  refine ⟨kd_type D I1, fun b hb => ?_, ?_⟩
  · cases hb
    exact ⟨_, I1.kIn _ _ D.at_, rfl⟩
  · rw [m.trees]
    refine Calls.callWith_builtin rfl (Calls.evalArgs_plain (Calls.spliced_cons (thn (he.run pins s1 σ H1 _ I1 q1) fun ue s2 h2 => ?_)))
    obtain ⟨y, H2, I2, ry, q2⟩ := h2
    refine Calls.spliced_cons (thn (hf.run pins s2 σ H2 _ I2 q2) fun uf s3 h3 => Calls.spliced_nil ?_)
    obtain ⟨z, H3, I3, rz, k, u, v, ek, eu, rv, q3⟩ := h3
    subst ek
    obtain ⟨t, rfl⟩ := ry
    have M := PySem.W.mapOf_K (prog := X.prog) I3.kIn D.at_ D.lit
    refine call_meetsIn PySem.F.slot_dict_get (kd_type D I3) PySem.F.entry_dict_get (PySem.F.args_dict_get_3 _ _ _)
      (meets_dict_get_default (strKind X.prog X.w) d (PySem.strKind_is X.prog X.w k t) D.low uf) ⟨_, M, ?_⟩
    rw [PySem.W.find_K D.at_ eu]
    exact ⟨v, H3, I3.tok _, rv, q3⟩

/-! ### enumerate(tuple) -/
/-- the tuple at a, each item in a new pair -/
def Iet (K : PySem.W.Frag) (a : Addr) : It where
  go := fun i H => ∃ (xs : List V) (x : V), SqT K H a xs ∧ xs[i]? = some x
  yld := fun i H v H' => ∃ T x, v = .ref T ∧ H T = none ∧ H' = upd H T (.tup [.int (i : Nat), x]) ∧ ∀ xs, SqT K H a xs → xs[i]? = some x
  stop := fun i H => ∃ xs : List V, SqT K H a xs ∧ xs.length = i
theorem turn_enumT {P : Program} {w : World} {K : PySem.W.Frag} {elts : List Expr} {kk : Nat} {tpos : Pos} (a e it : Addr) :
    Turn P w K (.Tuple elts kk tpos) (Iet K a) [e, it] e (fun i h => (∃ old, IsEnum h e it ((i : Nat) : Int) old) ∧ h.IsTupleIter it a i ∧ e ≠ it ∧ a ≠ it ∧ e ≠ a) where
  mem := by simp
  obj := fun i h st b hb => by
    obtain ⟨⟨old, he⟩, ⟨o, ho, hc, hd⟩, _⟩ := st
    have hb' : b = e ∨ b = it := by simpa using hb
    rcases hb' with z | z
    · subst z
      exact ⟨_, he, fun v q => nomatch q⟩
    · subst z
      exact ⟨o, ho, fun v q => by rw [hd] at q; cases q⟩
  keep := fun i h h' st k => by
    obtain ⟨⟨old, he⟩, hi, hr⟩ := st
    exact ⟨⟨old, k e (by simp) _ he⟩, hi.at fun o q => k it (by simp) o q, hr⟩
  item := by
    intro X hP hw hK hc i pins s σ H E I hf st hg
    subst hP hw hK
    obtain ⟨⟨old, he⟩, hit, hne, hai, hea⟩ := st
    obtain ⟨xs, x, hq, hx⟩ := hg
    obtain ⟨its, rv, p, hz⟩ := I.tuple hq
    obtain ⟨u, hu, ru⟩ := rv.get hx
    have hel : e < s.heap.objs.size := Heap.lt_size he
    have hil : it < s.heap.objs.size := by
      obtain ⟨_, q, _⟩ := hit
      exact Heap.lt_size q
    have hlt : i < its.toArray.size := by
      have z := (List.getElem?_eq_some_iff.mp hu).1
      simpa using z
    have D := Draws.tuple (prog := X.prog) (w := X.w) (A := X.A.in1) (show X.A.in1.handled = none from I.ok.hd hc) it a hai its.toArray
    refine wpAny_pyNext_enum_itemC D he ⟨hit, (show s.heap.IsTuple a its.toArray from p)⟩ hlt hne (by simp [hne, hea]) fun y h' tk hy ho hs' hT hsz hk => ?_
    have ey : y = u := by
      have z : its.toArray[i]? = some u := by simpa using hu
      rw [hy] at z
      exact Option.some.inj z
    subst ey
    refine ⟨_, rfl, wpAny_letOwnedTupleGo_enum (s := { s with heap := h', toks := tk + 1 }) ho fun h'' he' sb => ?_⟩
    have hT2 : h''.get? s.heap.objs.size = some { cls := .type "tuple", data := .seq #[.int i tk, y] } := (sb.2 _ (Nat.ne_of_gt hel)).trans hT
    have new : ObjOk X.prog X.w (upd H s.heap.objs.size (.tup [.int (i : Nat), x])) h'' s.heap.objs.size (.tup [.int (i : Nat), x]) :=
      ⟨(by decide : 2 ≤ sizeLine), [.int i tk, y], .cons ⟨_, rfl⟩ (.cons ru .nil), ⟨_, hT2, rfl, _, rfl⟩⟩
    have J : Inv X pins σ (upd H s.heap.objs.size (.tup [.int (i : Nat), x])) { s with heap := h'', toks := tk + 1 } :=
      I.turnedNew (ch := [e, it]) (fun b ob hb q => (sb.2 b fun z => hb (by simp [z])).trans (hk b ob (fun z => hb (by simp [z])) (fun z => hb (by simp [z])) q)) hf (Nat.le_refl _) new
    refine ⟨.ref s.heap.objs.size, _, J, rfl, ⟨_, x, rfl, I.hok.fresh (Nat.le_refl _), rfl, fun ys hy => by rw [I.tuple_inj hy hq]; exact hx⟩, ⟨⟨y, ?_⟩, ?_, hne, hai, hea⟩, fun b hb => ?_⟩
    · have e1 : ((i + 1 : Nat) : Int) = (i : Int) + 1 := by omega
      rw [e1]
      exact he'
    · exact hs'.1.at fun o q => (sb.2 it (Ne.symm hne)).trans q
    · have hb' : b < s.heap.objs.size := by
        have z : b = e ∨ b = it := by simpa using hb
        rcases z with z | z
        · rw [z]; exact hel
        · rw [z]; exact hil
      rw [upd_ne (Nat.ne_of_lt hb')]
      exact (hf b hb).1
  done := by
    intro X hP hw hK hc i pins s σ H E I hf st hg
    subst hP hw hK
    obtain ⟨⟨old, he⟩, hit, hne, hai, hea⟩ := st
    obtain ⟨xs, hq, hx⟩ := hg
    obtain ⟨its, rv, p, hz⟩ := I.tuple hq
    obtain ⟨f0, f1, f2, f3, f4, f5⟩ := hf it (by simp)
    have hl : its.toArray.size = i := by
      have z := rv.length
      simp
      omega
    have D := Draws.tuple (prog := X.prog) (w := X.w) (A := X.A.in1) (show X.A.in1.handled = none from I.ok.hd hc) it a hai its.toArray
    refine wpAny_pyNext_enum_endD D he ?_ fun h' eb => ⟨rfl, I.turned (t' := s.toks) (fun b o hb q => eb b o hb q) f0 f1 f3 f4 f5⟩
    rw [hl]
    exact ⟨hit, (show s.heap.IsTuple a its.toArray from p)⟩
  self := fun A i s Q E st h => by
    obtain ⟨⟨_, he⟩, _⟩ := st
    exact wpAny_pyIter_enum he h
def iEnumT (K : PySem.W.Frag) (ta : TA) : TI := fun σ H R => ta σ H fun vs H1 => ∃ a xs, vs = [.ref a] ∧ SqT K H1 a xs ∧ R (Iet K a) H1
end G3

/-! Rules that the layer lacks, further: the calls enumerate(tuple), zip((), ""). -/
namespace PySem
namespace G3E
/-- enumerate(v): v told by how its iterator begins -/
theorem new1 {v : Value} {o : Obj} {H : Heap → Prop} (B : Begins v o H) :
    Meets (Builtin.«enumerate.__new__» ⟨[.type "enumerate", v], []⟩) (fun _ R s => H s.heap ∧ R (.ok (.ret (.ref (s.heap.push o).objs.size)))
      { s with heap := (s.heap.push o).push { cls := .type "enumerate", data := .fields #[.none, .bool false, .ref s.heap.objs.size, rawInt 0, .none, .none] } }) := by
  refine .of_wp fun prog w A R s hh => ?_
  obtain ⟨hp, g, dr, tk, os⟩ := s
  obtain ⟨h1, fin⟩ := hh
  have hsub := sub_enumerate
  have q1 : ∀ {A2 : Around} {E2 : Value → Shared → Prop} {Q2 : Value → Shared → Prop}, Q2 (.ref hp.objs.size) ⟨hp.push o, g, dr, tk, os⟩ → wpAny (model prog w) A2 (pyIter v) Q2 E2 ⟨hp, g, dr, tk, os⟩ :=
    fun z => B.iter prog w _ _ ⟨hp, g, dr, tk, os⟩ _ h1 z
  wp_walk using q1
  refine wpAny_stack_any fun fr => wpAny_pure ?_
  split
  · rename_i cl _ _ _ _ _
    cases (cl == Value.type "enumerate")
    all_goals
      wp_walk using q1
      exact ⟨_, rfl, fin⟩
  · wp_walk using q1
    exact ⟨_, rfl, fin⟩
theorem begins1 {prog : Program} {w : World} {A : Around} {E : Value → Shared → Prop} {s : Shared} {v : Value} {o : Obj} {H : Heap → Prop} {Q : Value → Shared → Prop} (B : Begins v o H) (h1 : H s.heap)
    (h : ∀ hp, IsEnum hp (s.heap.objs.size + 1) s.heap.objs.size 0 .none → hp.get? s.heap.objs.size = some o → (∀ b ob, s.heap.get? b = some ob → hp.get? b = some ob) → Q (.ref (s.heap.objs.size + 1)) { s with heap := hp }) :
    wpAny (model prog w) A (call (.type "enumerate") [v]) Q E s := by
  refine callType_new F.called_enumerate (by decide) (F.typeCall_enumerate_1 _) (F.newCall_enumerate_1 _) (fun ob => F.args_object_init_2 ob _) F.entry_enumerate_new (new1 B) ⟨h1, ?_⟩
  have hz : (s.heap.push o).objs.size = s.heap.objs.size + 1 := Heap.size_push ..
  have he := Heap.get?_push_size (s.heap.push o) (o := { cls := .type "enumerate", data := .fields #[.none, .bool false, .ref s.heap.objs.size, rawInt 0, .none, .none] }) rfl
  show _ ∧ _
  rw [hz] at he ⊢
  exact ⟨⟨_, he, rfl⟩, h _ he (Heap.get?_push_of_some _ (Heap.get?_push_size _ B.free)) fun b ob x => Heap.get?_push_of_some _ (Heap.get?_push_of_some _ x)⟩
end G3E
end PySem
namespace G3
open PySem PySem.Spec PyProof.Rows L2
theorem pi_enumT {X : Cx} {e : Expr} {ta : TA} {p pos tpos : Pos} {elts : List Expr} {kk : Nat} (hg : Gl X "enumerate") (hm : X.mg "enumerate" = none) (ha : PA X [e] ta) (hs : starEach [e] X.env = [(false, eval e X.env)] := by rfl) :
    PI X (.Tuple elts kk tpos) (.Call (.Name "enumerate" p) [e] [] pos) (iEnumT X.K ta) := by
  refine ⟨fun pins s σ H R I h => ?_⟩
  refine Call_ (ld_blt I hg hm boot_enumerate (PyProof.Rows.callWith_type1 (thn (ha.run pos pins s σ H _ I h) fun us s1 hh => ?_) hs rfl))
  obtain ⟨vs, H1, I1, r1, a, xs, ex, hq, q⟩ := hh
  subst ex
  cases r1 with
  | cons r rr =>
    cases rr
    cases r
    obtain ⟨its, rv, tp, hz⟩ := I1.tuple hq
    have hT : s1.heap.IsTuple a its.toArray := tp
    have hal : a < s1.heap.objs.size := tp.lt
    refine PySem.G3E.begins1 (begins_tuple a its.toArray) hT fun hp he hit hk => wpAny_pyIter_enum he ?_
    have I2 : Inv X pins σ H1 { s1 with heap := hp } := I1.kept (t' := s1.toks) hk
    refine ⟨s1.heap.objs.size + 1, [s1.heap.objs.size + 1, s1.heap.objs.size], _, _, H1, rfl, I2, turn_enumT a (s1.heap.objs.size + 1) s1.heap.objs.size,
      ⟨⟨.none, he⟩, ⟨_, hit, rfl, rfl⟩, Nat.succ_ne_self _, Nat.ne_of_lt hal, Nat.ne_of_gt (Nat.lt_succ_of_lt hal)⟩, fun b hb => ?_, q⟩
    have hle : s1.heap.objs.size ≤ b := by
      have z : b = s1.heap.objs.size + 1 ∨ b = s1.heap.objs.size := by simpa using hb
      rcases z with z | z
      · rw [z]; exact Nat.le_add_right _ _
      · rw [z]; exact Nat.le_refl _
    exact I1.fpOk hle (I1.hok.fresh hle)

/-! ### zip of an empty tuple and an empty text: no turn -/
def It0 (K : PySem.W.Frag) (a : Addr) : It := ⟨fun _ _ => False, fun _ _ _ _ => False, fun _ H => SqT K H a []⟩
theorem turn_zip0 {P : Program} {w : World} {K : PySem.W.Frag} {elts : List Expr} {kk : Nat} {tpos : Pos} (a N : Addr) (x : Str) (t : Tok) (hx : x.cps.size = 0) (ha : a < N) :
    Turn P w K (.Tuple elts kk tpos) (It0 K a) [N + 4, N + 2, N + 3, N, N + 1] (N + 4) (fun _ h => IsZip h (N + 4) (N + 2) (N + 3) .none ∧ IsTupOf2 h (N + 2) (.ref N) (.ref (N + 1)) ∧ IsTupOf2 h (N + 3) .none .none ∧
      h.IsTupleIter N a 0 ∧ h.IsStrIter (N + 1) (strIterType x) x t 0) where
  mem := by simp
  obj := fun i h st b hb => by
    obtain ⟨s1, s2, s3, ⟨o4, e4, c4, d4⟩, ⟨o5, e5, c5, d5⟩⟩ := st
    have hb' : b = N + 4 ∨ b = N + 2 ∨ b = N + 3 ∨ b = N ∨ b = N + 1 := by simpa using hb
    rcases hb' with z | z | z | z | z
    · rw [z]; exact ⟨_, s1, fun v q => nomatch q⟩
    · rw [z]; exact ⟨_, s2, fun v q => nomatch q⟩
    · rw [z]; exact ⟨_, s3, fun v q => nomatch q⟩
    · rw [z]; exact ⟨o4, e4, fun v q => by rw [d4] at q; cases q⟩
    · rw [z]; exact ⟨o5, e5, fun v q => by rw [d5] at q; cases q⟩
  keep := fun i h h' st k => by
    obtain ⟨s1, s2, s3, s4, ⟨o5, e5, r5⟩⟩ := st
    exact ⟨k _ (by simp) _ s1, k _ (by simp) _ s2, k _ (by simp) _ s3, s4.at fun o q => k _ (by simp) o q, ⟨o5, k _ (by simp) _ e5, r5⟩⟩
  item := fun X hP hw hK hc i pins s σ H E I hf st hg => hg.elim
  done := by
    intro X hP hw hK hc i pins s σ H E I hf st hg
    subst hP hw hK
    obtain ⟨s1, s2, s3, s4, s5⟩ := st
    obtain ⟨its, rv, tp, hz⟩ := I.tuple hg
    have e0 : its = [] := by
      have z := rv.length
      exact List.length_eq_zero_iff.mp z.symm
    subst e0
    have hT : s.heap.IsTuple a #[] := tp
    have hh : X.A.in1.handled = none := I.ok.hd hc
    have D1 := Draws.tuple (prog := X.prog) (w := X.w) (A := X.A.in1) hh N a (Nat.ne_of_lt ha) #[]
    have D2 := Draws.text (prog := X.prog) (w := X.w) (A := X.A.in1) hh (N + 1) x t
    have S : ZipSep2 (N + 4) (N + 2) (N + 3) N (N + 1) [N, a] [N + 1] := zip_sep2 (N := N) (fp1 := [a]) (fp2 := []) (fun b hb => by simp at hb; rw [hb]; exact ha) (fun b hb => by simp at hb)
    refine wpAny_pyNext_zipD2_end (i := 0) S D1 D2 s1 s2 s3 ⟨s4, hT⟩ s5 (Nat.zero_le _) (Nat.zero_le _) (.inl rfl) fun h' tk k => ⟨rfl, ?_⟩
    have fr := fun b hb => (hf b hb)
    refine I.step (g' := s.gens) (d' := s.drawn) (ch := [N + 4, N + 2, N + 3, N, N + 1]) (fun b hb => ?_) (fun b o _ _ hc e _ => k b o (fun z => hc (by simp [z])) (fun z => hc (by simp [z])) (fun z => hc (by simp [z])) (fun z => hc (by simp [z])) e)
      (fun b o _ _ hc e _ => ⟨o.slots, k b o (fun z => hc (by simp [z])) (fun z => hc (by simp [z])) (fun z => hc (by simp [z])) (fun z => hc (by simp [z])) e⟩) (fun _ _ _ _ n => n)
      (fun b o hc e => ⟨o, k b o (fun z => hc (by simp [z])) (fun z => hc (by simp [z])) (fun z => hc (by simp [z])) (fun z => hc (by simp [z])) e⟩) (fun _ _ e => e) (fun _ _ _ e => e) (fun b ps e => ⟨#[], by rw [e]; simp⟩) (fun m hm => ?_) (fun b u e => ?_) I.bare
    · obtain ⟨f0, f1, f2, f3, f4, f5⟩ := hf b hb
      exact ⟨f3, f1, f4, f5⟩
    · obtain ⟨o, es, ep, ho, r⟩ := hm
      have ne : ∀ b ∈ [N + 4, N + 2, N + 3, N, N + 1], X.env.locals ≠ b := fun b hb => Ne.symm (hf b hb).2.1
      exact ⟨o, es, ep, k _ o (ne _ (by simp)) (ne _ (by simp)) (ne _ (by simp)) (ne _ (by simp)) ho, r⟩
    · have nn : ∀ c v, H c = some v → ∀ b ∈ [N + 4, N + 2, N + 3, N, N + 1], c ≠ b := fun c v q b hb z => by
        have z2 := (hf b hb).1
        rw [← z, q] at z2
        cases z2
      refine (I.hok b u e).stay (fun c v hc q => ?_) (fun _ q => q) fun _ _ q => q
      have hcn : ∀ b ∈ [N + 4, N + 2, N + 3, N, N + 1], c ≠ b := by
        rcases hc with z | z
        · rw [z]; exact nn b u e
        · exact nn c _ z
      exact k c v (hcn _ (by simp)) (hcn _ (by simp)) (hcn _ (by simp)) (hcn _ (by simp)) q
  self := fun A i s Q E st h => wpAny_pyIter_zip st.1 h
def iZip0 (K : PySem.W.Frag) (ta : TA) : TI := fun σ H R => ta σ H fun vs H1 => ∃ (a : Addr) (z : Str), vs = [.ref a, .str z] ∧ SqT K H1 a [] ∧ z.cps.size = 0 ∧ R (It0 K a) H1
theorem pi_zip0 {X : Cx} {e e2 : Expr} {ta : TA} {p pos tpos : Pos} {elts : List Expr} {kk : Nat} (hg : Gl X "zip") (hm : X.mg "zip" = none) (ha : PA X [e, e2] ta) (hs : starEach [e, e2] X.env = (false, eval e X.env) :: starEach [e2] X.env := by rfl)
    (hpl : (backTo pos (starEach [e2] X.env)).any (·.1) = false := by rfl) :
    PI X (.Tuple elts kk tpos) (.Call (.Name "zip" p) [e, e2] [] pos) (iZip0 X.K ta) := by
  refine ⟨fun pins s σ H R I h => ?_⟩
  refine Call_ (ld_blt I hg hm PyProof.Rows.boot_zip (PyProof.Rows.callWith_type1 (thn (ha.run pos pins s σ H _ I h) fun us s1 hh => ?_) hs hpl))
  obtain ⟨vs, H1, I1, r1, a, x, ex, hq, hx, q⟩ := hh
  subst ex
  obtain ⟨u1, u2, rfl, ra, rx⟩ := vals2 r1
  obtain rfl : u1 = Value.ref a := ra
  obtain ⟨t, rfl⟩ := rx
  obtain ⟨its, rv, tp, hz⟩ := I1.tuple hq
  have hT : s1.heap.IsTuple a its.toArray := tp
  have hal : a < s1.heap.objs.size := tp.lt
  refine zip_begins2 (begins_tuple a its.toArray) (begins_text x t) hT trivial fun hp z1 z2 z3 z4 z5 _ hk => wpAny_pyIter_zip z1 ?_
  have I2 : Inv X pins σ H1 { s1 with heap := hp } := I1.kept (t' := s1.toks) hk
  refine ⟨s1.heap.objs.size + 4, _, _, _, H1, rfl, I2, turn_zip0 a s1.heap.objs.size x t hx hal, ⟨z1, z2, z3, ⟨_, z4, rfl, rfl⟩, ⟨_, z5, rfl, rfl⟩⟩, fun c hc => ?_, q⟩
  have hle : s1.heap.objs.size ≤ c := by
    have hc' : c = s1.heap.objs.size + 4 ∨ c = s1.heap.objs.size + 2 ∨ c = s1.heap.objs.size + 3 ∨ c = s1.heap.objs.size ∨ c = s1.heap.objs.size + 1 := by simpa using hc
    rcases hc' with z | z | z | z | z <;> rw [z] <;> first | exact Nat.le_refl _ | exact Nat.le_add_right _ _
  exact I1.fpOk hle (I1.hok.fresh hle)
end G3

/-! Rules that the layer lacks, further: a, *b = tuple. -/
namespace PySem
namespace G3S
open PySem.W PySem.Calls PyProof.Rows
/-- the first item, and a new list of the others -/
theorem star1 {prog : Program} {w : World} {A : Around} {E : Value → Shared → Prop} {s : Shared} {a : Addr} {u : Value} {us : List Value} {Q : List Value → Shared → Prop} (hh : A.handled = none) (ha : IsTup s.heap a (u :: us).toArray) (hz : us.length < 1000)
    (h : ∀ (hp : Heap) (tk : Nat), (∀ b o, s.heap.get? b = some o → hp.get? b = some o) →
      Q [u, .ref hp.objs.size] { s with heap := hp.push { cls := .type "list", data := .seq us.toArray }, toks := tk }) : wpAny (model prog w) A (unpackItems (.ref a) 2 (some 1)) Q E s := by
  have hal : a < s.heap.objs.size := by
    obtain ⟨o, ho, _⟩ := ha
    exact Heap.lt_size ho
  have hne : a ≠ s.heap.objs.size := Nat.ne_of_lt hal
  unfold unpackItems notIterableAtAll
  refine wpAny_bind (wpAny_bind (wpAny_specialOf ha.typeIs slot_tuple_iter.lookup (wpAny_pure ?_)))
  simp only [Bool.false_eq_true, if_false]
  refine wpAny_bind (wpAny_holding (iter_tuple ha (wpAny_bind (wpAny_holding ?_))))
  refine draw_tuple hne 1 0 _ _ ⟨_, Heap.get?_push_size _ rfl, rfl, rfl⟩ (ha.push _) (by simp) fun h1 it1 b1 => ?_
  have ha1 : IsTup h1 a (u :: us).toArray := (ha.push _).extBut b1.extBut hne
  have z1 : h1.objs.size = s.heap.objs.size + 1 := by
    rw [b1.1]
    exact Heap.size_push ..
  have e1 : (List.take 1 (List.drop 0 (u :: us).toArray.toList)) = [u] := by simp
  rw [e1, if_neg (by simp)]
  refine wpAny_bind (wpAny_holding ?_)
  refine kun_collect (s := { s with heap := h1 }) (T := "tuple_iterator") (.inr (.inr (.inr rfl))) (Walks.tuple (A := A.in1) hh s.heap.objs.size a hne (u :: us).toArray) (fun j v st => st.1.typeIs) (k := 1) (by simp) ⟨it1, ha1⟩
    (by rw [z1]; exact Nat.lt_succ_self _) (by rw [z1]; exact Nat.lt_succ_of_lt hal) (fun h2 tk k2 => ?_) (by rw [sizeLine_eq]; simp; omega)
  have e2 : List.drop 1 (u :: us).toArray.toList = us := by simp
  rw [e2]
  have e3 : ¬ us.length < 2 - 1 - 1 := by simp
  rw [if_neg e3]
  have e4 : us.take (us.length - (2 - 1 - 1)) = us := by simp
  have e5 : us.drop (us.length - (2 - 1 - 1)) = [] := by simp
  simp only [e4, e5]
  refine wpAny_bind (wpAny_newList ?_ (by rw [sizeLine_eq]; omega))
  refine wpAny_pure (h h2 tk fun b o e => ?_)
  have nb : b ≠ s.heap.objs.size := Nat.ne_of_lt (Heap.lt_size e)
  exact k2 b o nb (b1.extBut b o nb (Heap.get?_push_of_some _ e))
end G3S
end PySem
namespace G3
open PySem PySem.Spec PyProof.Rows L2
/-- a, *b = a tuple of one item or more: the list of the others is new -/
def gStar (K : PySem.W.Frag) (t : TGs) : TG := fun v σ H Q => ∃ a x xs, v = .ref a ∧ SqT K H a (x :: xs) ∧ xs.length < 1000 ∧ ∀ p, H p = none → t [x, .ref p] σ (upd H p (.lst xs)) Q
/-- the targets behind a star, one by one -/
theorem pgs_two {X : Cx} {e1 e2 : Expr} {g1 g2 : TG} (h1 : PG X e1 g1) (h2 : PG X e2 g2) : ∀ (pins : List (Addr × Obj)) (s : Shared) (σ : L2.St) (H : Hp) (x y : V) (u w : Value) (Q : L2.St → Hp → Prop), Inv X pins σ H s → RelV x u → RelV y w → g1 x σ H (fun σ1 H1 => g2 y σ1 H1 Q) →
    wpAny (model X.prog X.w) X.A (assignInOrder [assign e1 X.env, assign e2 X.env] [u, w]) (fun _ s2 => ∃ σ2 H2, Inv X pins σ2 H2 s2 ∧ Q σ2 H2) X.xe s := by
  intro pins s σ H x y u w Q I rx ry q
  refine assignInOrder_cons (thn (h1.run pins s σ H _ _ _ I rx q) fun _ s1 hh => ?_)
  obtain ⟨σ1, H1, I1, q1⟩ := hh
  refine assignInOrder_cons (thn (h2.run pins s1 σ1 H1 _ _ _ I1 ry q1) fun _ s2 h2 => ?_)
  exact assignInOrder_nil h2
theorem pg_star {X : Cx} {pos p1 : Pos} {e1 e2 : Expr} {k : Nat} {g1 g2 : TG} (hc : X.calm = true) (h1 : PG X e1 g1) (h2 : PG X e2 g2)
    (hE : assignEach [e1, .Starred e2 p1] X.env = [(false, assign e1 X.env), (true, assign e2 X.env)] := by rfl) :
    PG X (.Tuple [e1, .Starred e2 p1] k pos) (gStar X.K fun vs σ H Q => ∃ x y, vs = [x, y] ∧ g1 x σ H fun σ1 H1 => g2 y σ1 H1 Q) := by
  refine ⟨fun pins s σ H v u Q I r hw => ?_⟩
  obtain ⟨a, x, xs, rfl, hq, hl, hw⟩ := hw
  cases r
  obtain ⟨its, rv, ht, hz⟩ := I.tuple hq
  cases rv with
  | @cons _ u0 _ us r0 rr =>
    rw [PyProof.Rows.assign_Tuple]
    refine wpAny_bind (wpAny_standAt ?_)
    unfold unpack
    rw [hE]
    have hul : us.length < 1000 := by
      rw [← Paired.length rr]
      exact hl
    refine wpAny_bind (wpAny_holding (PySem.G3S.star1 (I.ok.hd hc) ht hul fun hp tk k2 => ?_))
    have I1 : Inv X pins σ H { s with heap := hp, toks := tk } := I.kept (t' := tk) k2
    have hn : H hp.objs.size = none := I1.hok.fresh (Nat.le_refl _)
    have I2 : Inv X pins σ (upd H hp.objs.size (.lst xs)) { s with heap := hp.push { cls := .type "list", data := .seq us.toArray }, toks := tk } :=
      I1.laid (t' := tk) (a := hp.objs.size) (o := .lst xs) (fun b u z => Heap.get?_push_of_some _ z) (Nat.le_refl _)
        ⟨Nat.le_of_lt (small1000 (Nat.le_of_lt hl)), us, 0, rr, Heap.get?_push_size _ rfl⟩
    obtain ⟨x2, y2, ev, q⟩ := hw hp.objs.size hn
    injection ev with ex er
    injection er with ey _
    subst ex ey
    exact pgs_two h1 h2 pins _ σ _ _ (.ref hp.objs.size) _ _ Q I2 r0 (show RelV (.ref hp.objs.size) (.ref hp.objs.size) from rfl) q
end G3

/-! Rules that the layer lacks, further: several except clauses, each with a name (one name for all). -/
namespace G3
open PySem PySem.Spec PyProof.Rows L2
/-- what the clauses wish of an exception, one behind another; slot i is the name's -/
def wAll (K : PySem.W.Frag) (i : Nat) (Wout : WX) (D : Ends) : List (Value × (Addr → Value → Option Addr → TS)) → WX
  | [] => Wout
  | q :: r => fun cls d σ H => ∃ b, PySem.W.exmOne K cls q.1 = some b ∧
      (b = true → ∀ a, H a = none → q.2 a cls d { nx := fun σ1 H1 => D.nx (σ1.set i none) H1, rt := D.rt, bk := fun σ1 H1 => D.bk (σ1.set i none) H1, ct := fun σ1 H1 => D.ct (σ1.set i none) H1 } (σ.set i (some (.ref a))) H) ∧
      (b = false → wAll K i Wout D r cls d σ H)
inductive Clauses (X : Cx) (n : Str) : List ExceptHandler → List (Value × (Addr → Value → Option Addr → TS)) → Prop
  | nil : Clauses X n [] []
  | cons {x : Str} {c : Value} {ts : Addr → Value → Option Addr → TS} {b0 : Stmt} {su : List Stmt} {np p2 : Pos} {hds : List ExceptHandler} {l : List (Value × (Addr → Value → Option Addr → TS))}
      (hc : Names X x c) (hsu : ∀ (a : Addr) (oe : Obj) (cls : Value) (d : Option Addr) (pn : List (Addr × Obj)), Zc cls d oe → (∃ vs, oe.data = .fields vs) → PSs (X.suite a ((a, oe) :: pn)) (b0 :: su) (ts a cls d))
      (r : Clauses X n hds l) : Clauses X n (.ExceptHandler (some (.Name x np)) (some n) (b0 :: su) p2 :: hds) ((c, ts) :: l)
section
variable {X : Cx} {n : Str} {i : Nat} {body : List Stmt} {h0 : ExceptHandler} {hds : List ExceptHandler} {l : List (Value × (Addr → Value → Option Addr → TS))} {pos : Pos} {tb : WX → TS} {Wout : WX}
theorem ps_try_ases (hs : X.stack = X.env :: X.outer) (hf : X.env.frame = some X.env.locals) (hN : X.N.Nodup) (hi : X.N[i]? = some n) (hln : X.env.kindOf n = some .local) (tk : Takes X Wout)
    (hb : ∀ (W : WX) (pn : List (Addr × Obj)) (xe : Value → Shared → Prop), Takes (X.tr pn xe) W → PassesOwn (model X.prog X.w) X.A X.env xe → PSs (X.tr pn xe) body (tb W))
    (hh : Clauses X n (h0 :: hds) l) : PS X (.Try body (h0 :: hds) [] [] pos) (fun D σ H => tb (wAll X.K i Wout D l) D σ H) := by
  refine ⟨fun pins s σ H D I h => ?_⟩
  have ok := I.ok
  have frm : X.A.frames = some (X.env :: X.outer) := by rw [ok.frames, hs]
  have lo : Loc X.env.scope n := .inl hln
  let xq : Value → Shared → Prop := fun e t1 => wpAny (model X.prog X.w) X.A (noteFrame e X.env) (fun _ t2 => wpAny (model X.prog X.w) X.A (setFlight e none) (fun _ t3 =>
    wpAny (model X.prog X.w) X.A (handleBy e X.env (h0 :: hds)) (SP X pins D) X.xe t3) X.xe t2) X.xe t1
  refine wpAny_Try_except (wpAny_mono ((hb (wAll X.K i Wout D l) (X.pn ++ pins) xq (fun v u0 hx => ?_) PassesOwn.looking).run [] s σ H D (I.toTry _) h) (fun fl u1 hsp => ?_) fun _ _ z => z)
  · obtain ⟨a, B, t0, pins2, σ2, H2, cls, d, rfl, J2, nb, up, sky, na, os, ag, w⟩ := hx
    have J : Inv X pins σ2 H2 t0 := J2.ofTry ok
    rw [hs] at sky
    show wpAny (model X.prog X.w) X.A (noteFrame (.ref a) X.env) _ _ _
    refine Sky.land Zc.steady frm hf sky fun g3 fl3 up3 => ?_
    have J3 : Inv X pins σ2 H2 { u0 with heap := g3 } := J.landed nb fl3.1 (up.trans up3) os ag
    obtain ⟨oe3, vs3, he3, hz3, hd3⟩ := fl3.there
    have nfr : a ∉ frs (X.env :: X.outer) := fun hm => by
      obtain ⟨_, o2, e2, hnf⟩ := fl3.2.2.1.mem hm
      rw [he3] at e2
      cases e2
      exact hnf _ hd3
    have nL : a ≠ X.env.locals := fun z => nfr (List.mem_filterMap.mpr ⟨X.env, List.mem_cons_self, by rw [hf, z]⟩)
    have nF : a ∉ X.fs := fun hm => by
      obtain ⟨e, he, q⟩ := List.mem_filterMap.mp hm
      exact nfr (List.mem_filterMap.mpr ⟨e, List.mem_cons_of_mem _ he, q⟩)
    have S3 := J3.suite he3 hd3 na nL nF
    have LT : PySem.W.Looks (model X.prog X.w) g3 (typeOf (.ref a)) cls := fun A Q E s k q => wpAny_typeOf_ref (k _ _ he3) (by rw [hz3.1]; exact q)
    have go : ∀ {hs2 : List ExceptHandler} {l2 : List (Value × (Addr → Value → Option Addr → TS))}, Clauses X n hs2 l2 → wAll X.K i Wout D l2 cls d σ2 H2 →
        wpAny (model X.prog X.w) X.A (handleBy (.ref a) X.env hs2) (SP X pins D) X.xe { u0 with heap := g3 } := by
      intro hs2 l2 hk
      induction hk with
      | nil =>
        intro w
        obtain ⟨_, _, _, oe, vs, T, oT, ts, he, _, hd, h1, _⟩ := id fl3
        have fin : wpAny (model X.prog X.w) X.A (setFlight (.ref a) X.env.frame) (fun _ t4 => wpAny (model X.prog X.w) X.A (throw (.ref a) : Sem Flow) (SP X pins D) X.xe t4) X.xe { u0 with heap := g3 } := by
          rw [hf]
          exact HandSPX.setFlight_upZ fl3 fun g4 hh4 up4 => wpAny_throw (tk _ _ ⟨a, B, t0, pins, σ2, H2, cls, d, rfl, J, nb, (up.trans up3).trans up4, .inr (.inr (by rw [hs]; exact hh4)), na, os, ag, w⟩)
        refine wpAny_handleBy_nil ?_
        unfold PySem.passOn
        refine wpAny_bind (wpAny_field he hd h1 ?_)
        rw [if_neg (show ¬ ((Value.ref T == Value.none) = true) from by simp)]
        first
          | exact wpAny_bind fin
          | exact wpAny_bind (wpAny_pure (wpAny_bind fin))
      | @cons x c ts b0 su np p2 hs3 l3 hc hsu r ih =>
        intro w
        obtain ⟨b, hb1, hyes, hno⟩ := w
        have LM := PySem.W.exm_one (M := model X.prog X.w) (J3.kIn) LT hb1
        refine wpAny_handleBy_cons (codeAny_handlers_test ?_) (by intro q; cases q)
        have test : ∀ {Q : Value → Shared → Prop} {E : Value → Shared → Prop}, Q c { u0 with heap := g3 } →
            wpAny (model X.prog X.w) (X.A.mark (some (.ref a))) (eval (.Name x np) X.env) Q E { u0 with heap := g3 } := by
          intro Q E q
          obtain ⟨hg, hdb, hm | ⟨hm, hv, hnn⟩⟩ := hc
          · exact ld_glob (X := X.suite a ((a, oe3) :: (X.pn ++ pins))) S3 hg hm q hdb
          · exact ld_blt (X := X.suite a ((a, oe3) :: (X.pn ++ pins))) S3 hg hm hv q hnn hdb
        refine test (LM.here ?_)
        cases b with
        | false =>
          show wpAny _ X.A (handleBy (.ref a) X.env hs3) _ _ _
          exact ih (hno rfl)
        | true =>
          refine codeAny_handlers_suite_as (HandSPX.lands_againZ fl3 fun g4 fl4 up4 => ?_)
          have J4 : Inv X pins σ2 H2 { u0 with heap := g4 } := J.landed nb fl4.1 ((up.trans up3).trans up4) os ag
          obtain ⟨oe4, vs4, he4, hz4, hd4⟩ := fl4.there
          have S4 := J4.suite he4 hd4 na nL nF
          refine store_ok (X := X.suite a ((a, oe4) :: (X.pn ++ pins))) (v := .ref a) S4 hN hi lo rfl (fun t5 S5 => ?_) (.inr hln)
          refine wpAny_mono ((hsu a oe4 cls d (X.pn ++ pins) hz4 ⟨_, hd4⟩).run [] t5 _ H2 _ S5 (hyes rfl a na)) (fun f t6 hsp => ?_) (fun _ _ z => z.elim)
          have out : ∀ {σ6 : L2.St} {H6 : Hp} {Q : Shared → Prop}, Inv (X.suite a ((a, oe4) :: (X.pn ++ pins))) [] σ6 H6 t6 → (∀ t7, Inv X pins (σ6.set i none) H6 t7 → Q t7) →
              wpAny (model X.prog X.w) X.A (do bindName X.env n .none; unbindBehindTheSuite X.env n p2) (fun _ t7 => Q t7) X.xe t6 := fun S6 hq => gone_ok (S6.unsuite ok) hN hi hln hq
          cases f with
          | next =>
            obtain ⟨_, _, S6, q6⟩ := hsp
            exact out S6 fun _ J7 => ⟨_, _, J7, q6⟩
          | brk =>
            obtain ⟨_, _, S6, q6⟩ := hsp
            exact out S6 fun _ J7 => ⟨_, _, J7, q6⟩
          | cont =>
            obtain ⟨_, _, S6, q6⟩ := hsp
            exact out S6 fun _ J7 => ⟨_, _, J7, q6⟩
          | ret u =>
            obtain ⟨_, _, _, S6, r6, q6⟩ := hsp
            exact out S6 fun _ J7 => ⟨_, _, _, J7, r6, q6⟩
    exact go hh w
  · cases fl with
    | next =>
      obtain ⟨_, _, J2, q⟩ := hsp
      exact wpAny_execs_nil ⟨_, _, J2.ofTry ok, q⟩
    | brk =>
      obtain ⟨_, _, J2, q⟩ := hsp
      exact ⟨_, _, J2.ofTry ok, q⟩
    | cont =>
      obtain ⟨_, _, J2, q⟩ := hsp
      exact ⟨_, _, J2.ofTry ok, q⟩
    | ret u =>
      obtain ⟨_, _, _, J2, r, q⟩ := hsp
      exact ⟨_, _, _, J2.ofTry ok, r, q⟩
end
end G3

/-! What the top leaves, and calls by name. -/
namespace G3
open PySem PySem.Spec PyProof.Rows L2
/-- a def of the module -/
def Df (K : PySem.W.Frag) (mg : Str → Option Value) (x : Str) (st : Stmt) (ps : List Str) : Prop := ∃ f fd, FnP K x st f fd ∧ mg x = some (.ref f) ∧ Binds K fd ps []
/-- a method of the class at C -/
def Dm (K : PySem.W.Frag) (C : Addr) (m q : Str) (st : Stmt) (ps : List Str) : Prop := ∃ f fd, FnM K m q st f fd ∧ Meth K C m f ∧ Binds K fd ps []
/-- an own error with a field line -/
structure ErrF (K : PySem.W.Frag) (mg : Str → Option Value) (x q : Str) (st : Stmt) (C : Addr) : Prop where
  g : mg x = some (.ref C)
  oex : OexC K C
  init : ∃ f fd, FnM K "__init__" q st f fd ∧ PySem.W.findIn K (.ref C) "__init__" = some (some (.ref f)) ∧ PySem.W.typeIn K (.ref f) = some (.type "function") ∧ Binds K fd ["self", "line"] []
  no : PySem.W.findIn K (.ref C) "line" = some none
  xf : XfC K C
/-- all that the top leaves: Program at C, Mixed at M, Notring at N -/
structure Tx (K : PySem.W.Frag) (mg : Str → Option Value) (w : World) (C M N : Addr) : Prop where
  n_isinstance : mg "isinstance" = none
  n_tuple : mg "tuple" = none
  n_str : mg "str" = none
  n_len : mg "len" = none
  n_zip : mg "zip" = none
  n_all : mg "all" = none
  n_enumerate : mg "enumerate" = none
  n_any : mg "any" = none
  n_sorted : mg "sorted" = none
  n_int : mg "int" = none
  n_list : mg "list" = none
  n_range : mg "range" = none
  n_max : mg "max" = none
  n_bool : mg "bool" = none
  cls : Cls K C
  gC : mg "Program" = some (.ref C)
  init : ∃ f fd, FnM K "__init__" "Program.__init__" m_init f fd ∧ Mk K C f ∧ Binds K fd ["self", "rows"] []
  a_bodies : NoAttr K C "bodies"
  a_by_title : NoAttr K C "by_title"
  a_by_modes : NoAttr K C "by_modes"
  a_marked : NoAttr K C "marked"
  a_plans : NoAttr K C "plans"
  a_reach : NoAttr K C "reach"
  a_heights : NoAttr K C "heights"
  eM : ErrF K mg "Mixed" "Mixed.__init__" i_mixed M
  eN : ErrF K mg "Notring" "Notring.__init__" i_notring N
  mm : PySem.W.exmOne K (.ref M) (.ref M) = some true
  nm : PySem.W.exmOne K (.ref N) (.ref M) = some false
  nn : PySem.W.exmOne K (.ref N) (.ref N) = some true
  kinds : ∃ kd es n u, mg "KINDS" = some (.ref kd) ∧ KDict K w kd es n ∧ PySem.W.nsIn K kd "not" = some (some u) ∧ RelV (.str "not") u
  d_kind_of : Df K mg "kind_of" s_kind_of ["goal"]
  d_asked_of : Df K mg "asked_of" s_asked_of ["goal"]
  d_is_unknown : Df K mg "is_unknown" s_is_unknown ["pattern"]
  d_gather : Df K mg "gather" s_gather ["pattern", "found"]
  d_unknowns_of : Df K mg "unknowns_of" s_unknowns_of ["pattern"]
  d_title_of : Df K mg "title_of" s_title_of ["pattern"]
  d_places_of : Df K mg "places_of" s_places_of ["pattern"]
  d_known_places : Df K mg "known_places" s_known_places ["pattern", "mode"]
  d_told_places : Df K mg "told_places" s_told_places ["pattern", "mode"]
  d_all_known : Df K mg "all_known" s_all_known ["patterns", "known"]
  d_learn_all : Df K mg "learn_all" s_learn_all ["patterns", "known"]
  d_first_mode : Df K mg "first_mode" s_first_mode ["house", "pattern", "known"]
  d_word_at : Df K mg "word_at" s_word_at ["house", "goal", "known"]
  d_stray_own : Df K mg "stray_own" s_stray_own ["head", "goals", "at", "known"]
  d_held_in : Df K mg "held_in" s_held_in ["house", "head", "goals", "mode"]
  d_look_modes : Df K mg "look_modes" s_look_modes ["program"]
  d_look_known : Df K mg "look_known" s_look_known ["program"]
  d_rings_at : Df K mg "rings_at" s_rings_at ["program", "line"]
  d_look_rings : Df K mg "look_rings" s_look_rings ["program"]
  d_reached_from : Df K mg "reached_from" s_reached_from ["asks", "title"]
  d_links_of : Df K mg "links_of" s_links_of ["bodies"]
  d_heights_of : Df K mg "heights_of" s_heights_of ["titles", "links"]
  d_law_draw : Df K mg "_law_draw" s_law_draw ["_law_stream", "_law_many"]
  d_law_text : Df K mg "_law_text" s_law_text ["_law_stream", "_law_first", "_law_taken"]
  d_law_whole : Df K mg "_law_whole" s_law_whole ["_law_found"]
  d_law_graph : Df K mg "_law_graph" s_law_graph ["_law_stream"]
  d_law_links : Df K mg "_law_links" s_law_links ["_law_rows"]
  d_law_reach : Df K mg "_law_reach" s_law_reach ["_law_words", "_law_links_here"]
  d_law_layers : Df K mg "_law_layers" s_law_layers ["_law_words", "_law_links_here"]
  d_law_due : Df K mg "_law_due" s_law_due ["_law_rows", "_law_links_here", "_law_reach_here"]
  d_law_try : Df K mg "_law_try" s_law_try ["_law_rows"]
  d_law : Df K mg "law" s_law ["_law_script"]
  m_lay : Dm K C "lay" "Program.lay" m_lay ["self", "line", "row"]
  m_enter : Dm K C "enter" "Program.enter" m_enter ["self", "title"]
  m_titles : Dm K C "titles" "Program.titles" m_titles ["self"]
  m_modes : Dm K C "modes" "Program.modes" m_modes ["self", "title"]
  m_is_tabled : Dm K C "is_tabled" "Program.is_tabled" m_is_tabled ["self", "title"]
  m_comes_to : Dm K C "comes_to" "Program.comes_to" m_comes_to ["self", "title"]
  m_layer : Dm K C "layer" "Program.layer" m_layer ["self", "title"]

/-! ### calls by name -/
section
variable (P : Program) (w : World) (K : PySem.W.Frag) (mg : Str → Option Value) (base : Heap)
/-- the def x keeps sp; no exception leaves it -/
def Cal (k : Nat) (x : Str) (ps : List Str) (sp : Sp) : Prop := ∃ f fd, FnOk P w K mg base CX0 k f fd ps sp ∧ mg x = some (.ref f) ∧ PySem.W.keepIn K (.ref f) = true ∧ Binds K fd ps []
/-- .. an exception may leave it -/
def CalX (k : Nat) (x : Str) (ps : List Str) (sp : Sp) : Prop := ∃ f fd, FnOk P w K mg base (L2.CX P w) k f fd ps sp ∧ mg x = some (.ref f) ∧ PySem.W.keepIn K (.ref f) = true ∧ Binds K fd ps []
/-- the method m of C -/
def Met (C : Addr) (k : Nat) (m : Str) (ps : List Str) (sp : Sp) : Prop := ∃ f fd, FnOk P w K mg base CX0 k f fd ps sp ∧ Meth K C m f ∧ Binds K fd ps []
end
section
variable {P : Program} {w : World} {K : PySem.W.Frag} {mg : Str → Option Value} {base : Heap}
/-- a def's body, nothing let out -/
theorem Df.cal {x : Str} {st : Stmt} {ps N : List Str} {k : Nat} {sp : Sp} (D : Df K mg x st ps) (S : FnScope N ps (defScope st)) (len : ∀ vs H Q E, sp vs H Q E → vs.length = ps.length)
    (hb : ∀ (f : Addr) (cdv : Value) (A : Around) (outer : List Env) (s : Shared) (H : Hp) (vs : List V) (Q : VK) (E : XK), Room k (A.deeper (envOfC x (defScope st) s.heap.objs.size f cdv)) → sp vs H Q E →
      ∃ t, PSs (cxOf CX0 P w K mg base N x (defScope st) f cdv A outer s H E).nox (defBody st) t ∧ t { nx := fun _ H' => Q .non H', rt := Q } (start N vs) H) : Cal P w K mg base (k + 1) x ps sp := by
  obtain ⟨f, fd, F, g, b⟩ := D
  refine ⟨f, fd, F.ok S len fun cdv A outer s H vs Q E hr h => ?_, g, F.kp, b⟩
  obtain ⟨t, p, q⟩ := hb f cdv A outer s H vs Q E hr h
  exact ⟨t, p.nox, q⟩
theorem Df.calX {x : Str} {st : Stmt} {ps N : List Str} {k : Nat} {sp : Sp} (D : Df K mg x st ps) (S : FnScope N ps (defScope st)) (len : ∀ vs H Q E, sp vs H Q E → vs.length = ps.length)
    (hb : ∀ (f : Addr) (cdv : Value) (A : Around) (outer : List Env) (s : Shared) (H : Hp) (vs : List V) (Q : VK) (E : XK), Room k (A.deeper (envOfC x (defScope st) s.heap.objs.size f cdv)) → sp vs H Q E →
      ∃ t, PSs (cxOf (L2.CX P w) P w K mg base N x (defScope st) f cdv A outer s H E) (defBody st) t ∧ t { nx := fun _ H' => Q .non H', rt := Q } (start N vs) H) : CalX P w K mg base (k + 1) x ps sp := by
  obtain ⟨f, fd, F, g, b⟩ := D
  exact ⟨f, fd, F.ok S len fun cdv A outer s H vs Q E hr h => hb f cdv A outer s H vs Q E hr h, g, F.kp, b⟩
theorem Dm.met {C : Addr} {m q : Str} {st : Stmt} {ps N : List Str} {k : Nat} {sp : Sp} (D : Dm K C m q st ps) (S : FnScope N ps (defScope st)) (len : ∀ vs H Q E, sp vs H Q E → vs.length = ps.length)
    (hb : ∀ (f : Addr) (cdv : Value) (A : Around) (outer : List Env) (s : Shared) (H : Hp) (vs : List V) (Q : VK) (E : XK), Room k (A.deeper (envOfC q (defScope st) s.heap.objs.size f cdv)) → sp vs H Q E →
      ∃ t, PSs (cxOf CX0 P w K mg base N q (defScope st) f cdv A outer s H E).nox (defBody st) t ∧ t { nx := fun _ H' => Q .non H', rt := Q } (start N vs) H) : Met P w K mg base C (k + 1) m ps sp := by
  obtain ⟨f, fd, F, g, b⟩ := D
  refine ⟨f, fd, F.ok S len fun cdv A outer s H vs Q E hr h => ?_, g, b⟩
  obtain ⟨t, p, q⟩ := hb f cdv A outer s H vs Q E hr h
  exact ⟨t, p.nox, q⟩
end
section
variable {X : Cx} {x m : Str} {ps : List Str} {sp : Sp} {j k : Nat} {C : Addr} {e o : Expr} {es : List Expr} {t : TA} {ta : TE} {p pos apos : Pos}
theorem pe_cal (c : Cal X.prog X.w X.K X.mg X.base k x ps sp) (hr : Room j X.A) (hk : k ≤ j) (hg : Gl X x) (ha : PA X (e :: es) t) (hdb : (x == ("__debug__" : Str)) = false := by decide)
    (he : starEach (e :: es) X.env = (false, eval e X.env) :: starEach es X.env := by rfl) (hpl : (backTo pos (starEach es X.env)).any (·.1) = false := by rfl) : PE X (.Call (.Name x p) (e :: es) [] pos) (tCall sp [] E0 t) := by
  obtain ⟨f, fd, F, g, kp, b⟩ := c
  exact pe_call F (hr.mono hk) hg g kp b .nil pass0 ha hdb he hpl
theorem pe_met {pl : Sem Bool} (he : PE X o ta) (cl : Cls X.K C) (c : Met X.prog X.w X.K X.mg X.base C k m ps sp) (hr : Room j X.A) (hk : k ≤ j) (ha : PA X (e :: es) t)
    (hst : starEach (e :: es) X.env = (false, eval e X.env) :: starEach es X.env := by rfl) (hpl : (backTo pos (starEach es X.env)).any (·.1) = false := by rfl)
    (ht : eval (.Call (.Attribute o m apos) (e :: es) [] pos) X.env = (do
      let ov ← eval o X.env
      standAt apos.atName
      let (g, first) ← holding [ov] (getMethod ov m pl)
      callWith pos g first (backTo pos (starEach (e :: es) X.env)) (backToKw pos (keywordEach [] X.env))) := by rfl) :
    PE X (.Call (.Attribute o m apos) (e :: es) [] pos) (tMeth C m sp [] E0 ta t) := by
  obtain ⟨f, fd, F, g, b⟩ := c
  exact pe_meth he cl g F (hr.mono hk) b .nil pass0 ha hst hpl ht
theorem pe_met0 {pl : Sem Bool} (he : PE X o ta) (cl : Cls X.K C) (c : Met X.prog X.w X.K X.mg X.base C k m ps sp) (hr : Room j X.A) (hk : k ≤ j)
    (ht : eval (.Call (.Attribute o m apos) [] [] pos) X.env = (do
      let ov ← eval o X.env
      standAt apos.atName
      let (g, first) ← holding [ov] (getMethod ov m pl)
      callWith pos g first (backTo pos (starEach [] X.env)) (backToKw pos (keywordEach [] X.env))) := by rfl) :
    PE X (.Call (.Attribute o m apos) [] [] pos) (tMeth C m sp [] E0 ta tNil) := by
  obtain ⟨f, fd, F, g, b⟩ := c
  exact pe_meth0 he cl g F (hr.mono hk) b .nil pass0 ht
end
end G3

/-! The head: the top's run, and what it leaves. -/
namespace G3
open PySem PySem.Spec PyProof.Rows L2 He
def dF (x : Str) (st : Stmt) : DefD := ⟨(x, none), x, x, defArgs st, defBody st, defScope st, [], []⟩
def dM (C m q : Str) (st : Stmt) : DefD := ⟨(C, some m), m, q, defArgs st, defBody st, defScope st, [], []⟩
def oexB (K : PySem.W.Frag) (C : Addr) : Bool := match K.lookup C with
  | some ⟨.type "type", _, .cls cd, sl⟩ => (match cd.mro, sl.toList with
    | .ref C1 :: bm, [_, _, _, _, some (.builtin n), _] => decide (C1 = C) && (decide (n = "ValueError.__new__") && (!cd.hasDel && (cd.hasDict && PySem.HandSPX.refsVE bm)))
    | _, _ => false)
  | _ => false
/-- an own error x, all but its __init__'s text -/
def errB (x : Str) (K : PySem.W.Frag) : Bool := oexB K (ga K x) && (eqO (PySem.W.findIn K (.ref (ga K x)) "__setattr__") (some (some (.builtin "object.__setattr__"))) && (decide (PySem.W.subIn K (.ref (ga K x)) (.type "BaseException") = some true) &&
  (decide (PySem.W.typeIn K (.ref (ga K x)) = some (.type "type")) && (PySem.W.keepIn K (.ref (ga K x)) && (eqO (PySem.W.findIn K (.ref (ga K x)) "line") (some none) && (xfB K (ga K x) &&
  (eqO (PySem.W.findIn K (.ref (ga K x)) "__init__") (some (some (.ref (ma K (ga K x) "__init__")))) && decide (PySem.W.typeIn K (.ref (ma K (ga K x) "__init__")) = some (.type "function")))))))))
def moreB (K : PySem.W.Frag) : Bool := errB "Mixed" K && (errB "Notring" K && valsB K (ga K "KINDS") [("not", .str "not")])
def fa : List Fa := [.free "isinstance", .free "tuple", .free "str", .free "len", .free "zip", .free "all", .free "enumerate", .free "any", .free "sorted", .free "int", .free "list", .free "range", .free "max", .free "bool", .glo "kind_of", .glo "asked_of", .glo "is_unknown", .glo "gather", .glo "unknowns_of", .glo "title_of", .glo "places_of", .glo "known_places", .glo "told_places", .glo "all_known", .glo "learn_all", .glo "first_mode", .glo "word_at", .glo "stray_own", .glo "held_in", .glo "look_modes", .glo "look_known", .glo "rings_at", .glo "look_rings", .glo "reached_from", .glo "links_of", .glo "heights_of", .glo "_law_draw", .glo "_law_text", .glo "_law_whole", .glo "_law_graph", .glo "_law_links", .glo "_law_reach", .glo "_law_layers", .glo "_law_due", .glo "_law_try", .glo "law", .glo "Program", .glo "Mixed", .glo "Notring", .glo "KINDS", .cls "Program", .mkr "Program", .noat "Program" "bodies", .noat "Program" "by_title", .noat "Program" "by_modes", .noat "Program" "marked", .noat "Program" "plans", .noat "Program" "reach", .noat "Program" "heights", .meth "Program" "lay", .meth "Program" "enter", .meth "Program" "titles", .meth "Program" "modes", .meth "Program" "is_tabled", .meth "Program" "comes_to", .meth "Program" "layer", .exm "Mixed" "Mixed" true, .exm "Notring" "Mixed" false, .exm "Notring" "Notring" true]
def fn : List DefD := [dF "kind_of" s_kind_of, dF "asked_of" s_asked_of, dF "is_unknown" s_is_unknown, dF "gather" s_gather, dF "unknowns_of" s_unknowns_of, dF "title_of" s_title_of, dF "places_of" s_places_of, dF "known_places" s_known_places, dF "told_places" s_told_places, dF "all_known" s_all_known, dF "learn_all" s_learn_all, dF "first_mode" s_first_mode, dF "word_at" s_word_at, dF "stray_own" s_stray_own, dF "held_in" s_held_in, dF "look_modes" s_look_modes, dF "look_known" s_look_known, dF "rings_at" s_rings_at, dF "look_rings" s_look_rings, dF "reached_from" s_reached_from, dF "links_of" s_links_of, dF "heights_of" s_heights_of, dF "_law_draw" s_law_draw, dF "_law_text" s_law_text, dF "_law_whole" s_law_whole, dF "_law_graph" s_law_graph, dF "_law_links" s_law_links, dF "_law_reach" s_law_reach, dF "_law_layers" s_law_layers, dF "_law_due" s_law_due, dF "_law_try" s_law_try, dF "law" s_law, dM "Program" "lay" "Program.lay" m_lay, dM "Program" "enter" "Program.enter" m_enter, dM "Program" "titles" "Program.titles" m_titles, dM "Program" "modes" "Program.modes" m_modes, dM "Program" "is_tabled" "Program.is_tabled" m_is_tabled, dM "Program" "comes_to" "Program.comes_to" m_comes_to, dM "Program" "layer" "Program.layer" m_layer, dM "Program" "__init__" "Program.__init__" m_init, dM "Mixed" "__init__" "Mixed.__init__" i_mixed, dM "Notring" "__init__" "Notring.__init__" i_notring]
def ts : List Tab := [(fun K => ga K "KINDS", ["not", "=", "is", "<", "=<", "==", "=/=", "in", "and", "such"])]
abbrev Rw : PySem.W.OpenRow := PySem.W.OpenLaw.row PySem.Challenge.rw_goalstead_k25_whole_rings_and_layers
abbrev hk : PySem.W.Hook := hookX 5 fa fn ts [] moreB
def ob (s : PySem.W.SharedT) : AlX := obsX 5 fa fn ts [] moreB (HandSHeadRun.getT s)
theorem ob_eq (s : PySem.W.SharedT) : ob s = hk.obs s.abs := obsX_eq (HandSHeadRun.getT_eq s)
def nm1 : List PySem.Str := ["_wall", "MOST", "GoalError", "Modeless", "Ill", "Mixed", "Notring", "NoCall", "KINDS", "kind_of", "asked_of", "chain_of", "ranges_of", "is_unknown", "gather", "unknowns_of", "title_of", "places_of", "known_places", "told_places", "all_known", "learn_all", "first_mode", "side_known", "word_at", "stray_own", "held_in", "look_modes", "look_known", "rings_at"]
def nm2 : List PySem.Str := ["look_rings", "reached_from", "links_of", "heights_of", "Program", "_law_draw", "_law_text", "_law_whole", "_law_graph", "_law_links", "_law_reach", "_law_layers", "_law_due", "_law_try"]
def loose : List PySem.Str := nm1 ++ nm2
theorem run0 (w : World) : HandSHeadRun.RunEq Rw (PySem.W.view Rw.prog [52]) hk ob 6000 loose (w.withFollow "special-get-raises" false) := by
  intro os
  kernel_rfl
theorem run1 (w : World) : HandSHeadRun.RunEq Rw (PySem.W.view Rw.prog [52]) hk ob 6000 loose (w.withFollow "special-get-raises" true) := by
  intro os
  kernel_rfl
theorem run (w : World) : HandSHeadRun.RunEq Rw (PySem.W.view Rw.prog [52]) hk ob 6000 loose w := PySem.W.byRow2 "special-get-raises" run0 run1 w
end G3

/-! Walks: goals and titles. -/
namespace G3
open PySem PySem.Spec PyProof.Rows L2
/-- a goal: whether a not, its word -/
abbrev Gl2 := Bool × Str
/-- the value v is that goal -/
def GoalV (H : Hp) (v : V) (g : Gl2) : Prop := (g.1 = false ∧ v = .str g.2) ∨ (g.1 = true ∧ ∃ t, v = .ref t ∧ H t = some (.tup [.str "not", .str g.2]))
theorem GoalV.same {H H' : Hp} {v : V} {g : Gl2} (s : Same H H') (h : GoalV H v g) : GoalV H' v g := by
  rcases h with h | ⟨a, t, b, c⟩
  · exact .inl h
  · exact .inr ⟨a, t, b, s _ _ c⟩
def kd (g : Gl2) : Str := if g.1 = true then "not" else "relation"
section
variable {P : Program} {w : World} {K : PySem.W.Frag} {mg : Str → Option Value} {base : Heap} {C M N : Addr}
def spKind : Sp := fun vs H Q _ => ∃ v g, vs = [v] ∧ GoalV H v g ∧ Q (.str (kd g)) H
theorem sc_kind_of : FnScope ["goal"] ["goal"] (defScope s_kind_of) := ⟨rfl, rfl, rfl, by decide +kernel, rfl, by decide +kernel, by decide +kernel⟩
theorem kind_of_ok (T : Tx K mg w C M N) : Cal P w K mg base 1 "kind_of" ["goal"] spKind := by
  obtain ⟨kd0, es, n, u, gk, D, hn, ru⟩ := T.kinds
  refine T.d_kind_of.cal sc_kind_of (fun vs H Q E h => ?_) (fun f cdv A outer s H vs Q E hr h => ?_)
  · obtain ⟨v, g, rfl, _⟩ := h
    rfl
  · obtain ⟨v, g, rfl, hg, q⟩ := h
    refine ⟨_, pss_cons (ps_if (pt_val (pe_callB call_isi (by rfl) T.n_isinstance (by decide +kernel) (pa_cons (pv 0) (pa_cons (pe_bltn (v := .ty "tuple") (by rfl) T.n_tuple (by decide +kernel) rfl) pa_nil))))
        (pss_one (ps_ret (pe_kget D (pe_glob (v := .ref kd0) (by rfl) gk rfl) (pe_ix ix_tup (pv 0) pe_int (fun _ _ => rfl)) pe_str ⟨rfl, rfl, rfl, rfl⟩))) pss_nil) (pss_one (ps_ret pe_str)), ?_⟩
    rcases hg with ⟨e, rfl⟩ | ⟨e, t, rfl, ht⟩
    · refine ⟨_, rfl, _, _, _, _, false, rfl, .ty "tuple", .base (.str _), kit_ty (by decide +kernel), _, rfl, iteF ?_⟩
      unfold kd at q
      rw [e] at q
      exact q
    · refine ⟨_, rfl, _, _, _, _, true, rfl, .ty "tuple", .base (.tup ht), kit_ty (by decide +kernel), _, rfl, iteT ?_⟩
      refine ⟨rfl, _, rfl, t, _, 0, .str "not", rfl, rfl, .inl (.inl ht), rfl, "not", u, .str "not", rfl, hn, ru, ?_⟩
      unfold kd at q
      rw [e] at q
      exact q
end
end G3

/-! Walks: goals and titles, further. -/
namespace G3
open PySem PySem.Spec PyProof.Rows L2
/-- a word: its first sign a small letter -/
def WordOk (x : Str) : Prop := (∃ c r, x.cps.toList = c :: r ∧ 97 ≤ c ∧ c ≤ 122) ∧ x.cps.size ≤ 1000
def tt (x : Str) : Str := x ++ ("/0" : Str)
theorem same_upd {H : Hp} {p : Addr} {o : HO} (h : H p = none) : Same H (upd H p o) := fun b x e => by
  rw [upd_ne (ne_of_none e h)]
  exact e
section
variable {P : Program} {w : World} {K : PySem.W.Frag} {mg : Str → Option Value} {base : Heap} {C M N : Addr}
def spAsked : Sp := fun vs H Q _ => ∃ v g, vs = [v] ∧ GoalV H v g ∧ Q (.str g.2) H
theorem sc_asked_of : FnScope ["goal", "kind"] ["goal"] (defScope s_asked_of) := ⟨rfl, rfl, rfl, by decide +kernel, rfl, by decide +kernel, by decide +kernel⟩
theorem asked_of_ok (T : Tx K mg w C M N) : Cal P w K mg base 2 "asked_of" ["goal"] spAsked := by
  have ck := kind_of_ok (P := P) (base := base) T
  refine T.d_asked_of.cal sc_asked_of (fun vs H Q E h => ?_) (fun f cdv A outer s H vs Q E hr h => ?_)
  · obtain ⟨v, g, rfl, _⟩ := h
    rfl
  · obtain ⟨v, g, rfl, hg, q⟩ := h
    refine ⟨_, pss_cons (ps_set (i := 1) sc_asked_of.nd rfl (.inl rfl) (pe_cal ck hr (by decide) (by rfl) (pa_cons (pv 0) pa_nil)))
      (pss_cons (ps_if (pt_cmpR op_eq (pv 1) pe_str (nomark _)) (pss_one (ps_ret (pe_ix ix_tup (pv 0) pe_int (fun _ _ => rfl)))) pss_nil)
      (pss_cons (ps_if (pt_cmpR op_eq (pv 1) pe_str (nomark _)) (pss_one (ps_ret (pv 0))) pss_nil) (pss_one (ps_ret pe_non)))), ?_⟩
    refine ⟨v, rfl, v, g, rfl, hg, ?_⟩
    refine ⟨_, rfl, rfl, _, rfl, ?_⟩
    rcases hg with ⟨e, rfl⟩ | ⟨e, t, rfl, ht⟩
    · have ek : kd g = "relation" := by unfold kd; rw [e]; rfl
      rw [ek]
      refine ite2 (fun z => absurd (of_decide_eq_true z) (by decide)) fun _ => ?_
      refine ⟨_, rfl, rfl, _, rfl, ite2 (fun _ => ?_) fun z => absurd (decide_eq_true rfl) z⟩
      exact ⟨_, rfl, q⟩
    · have ek : kd g = "not" := by unfold kd; rw [e]; rfl
      rw [ek]
      refine ite2 (fun _ => ?_) fun z => absurd (decide_eq_true rfl) z
      exact ⟨_, rfl, t, _, 1, .str g.2, rfl, rfl, .inl (.inl ht), rfl, q⟩

def spUnkn : Sp := fun vs H Q _ => ∃ x, vs = [.str x] ∧ WordOk x ∧ Q (.bl false) H
theorem sc_is_unknown : FnScope ["pattern"] ["pattern"] (defScope s_is_unknown) := ⟨rfl, rfl, rfl, by decide +kernel, rfl, by decide +kernel, by decide +kernel⟩
theorem small_str {x : Str} (h : x.cps.size ≤ 1000) : x.length ≤ sizeLine := Nat.le_of_lt (small1000 h)
theorem is_unknown_ok (T : Tx K mg w C M N) : Cal P w K mg base 1 "is_unknown" ["pattern"] spUnkn := by
  refine T.d_is_unknown.cal sc_is_unknown (fun vs H Q E h => ?_) (fun f cdv A outer s H vs Q E hr h => ?_)
  · obtain ⟨x, rfl, _⟩ := h
    rfl
  · obtain ⟨x, rfl, ⟨⟨c, r, e, c1, c2⟩, hz⟩, q⟩ := h
    refine ⟨_, pss_one (ps_ret (pe_and (pe_callB call_isi (by rfl) T.n_isinstance (by decide +kernel) (pa_cons (pv 0) (pa_cons (pe_bltn (v := .ty "str") (by rfl) T.n_str (by decide +kernel) rfl) pa_nil)))
      (pe_one (pe_chain op_le_str op_le_str pe_str (pe_ix ix_str (pv 0) pe_int (fun _ _ => rfl)) (pe_str))))), ?_⟩
    refine ⟨_, rfl, _, _, _, _, true, rfl, .ty "str", .base (.str _), kit_ty (by decide +kernel), _, rfl, iteT ?_⟩
    refine ⟨_, rfl, x, 0, c, rfl, rfl, small_str hz, ?_, ?_⟩
    · rw [e]
      exact atI_nat (j := 0) rfl
    · refine ⟨_, _, rfl, rfl, _, rfl, ?_⟩
      have e1 : ("A" : Str).cps.toList = [65] := by decide
      have e2 : ("Z" : Str).cps.toList = [90] := by decide
      have e3 : (⟨#[c]⟩ : Str).cps.toList = [c] := rfl
      rw [e1, e3]
      have n1 : ¬ ([c] : List Nat) < [65] := by
        intro z
        have z2 := List.cons_lt_cons_iff.mp z
        rcases z2 with z2 | ⟨_, z2⟩
        · omega
        · cases z2
      rw [decide_eq_false n1]
      refine iteT ⟨_, _, rfl, rfl, ?_⟩
      rw [e2, e3]
      have n2 : ([90] : List Nat) < [c] := List.cons_lt_cons_iff.mpr (.inl (by omega))
      rw [decide_eq_true n2]
      exact q

def spTitle : Sp := fun vs H Q _ => ∃ x, vs = [.str x] ∧ x.cps.size ≤ 1000 ∧ Q (.str (tt x)) H
theorem sc_title_of : FnScope ["pattern"] ["pattern"] (defScope s_title_of) := ⟨rfl, rfl, rfl, by decide +kernel, rfl, by decide +kernel, by decide +kernel⟩
theorem title_of_ok (T : Tx K mg w C M N) : Cal P w K mg base 1 "title_of" ["pattern"] spTitle := by
  refine T.d_title_of.cal sc_title_of (fun vs H Q E h => ?_) (fun f cdv A outer s H vs Q E hr h => ?_)
  · obtain ⟨x, rfl, _⟩ := h
    rfl
  · obtain ⟨x, rfl, hz, q⟩ := h
    refine ⟨_, pss_cons (ps_if (pt_val (pe_callB call_isi (by rfl) T.n_isinstance (by decide +kernel) (pa_cons (pv 0) (pa_cons (pe_bltn (v := .ty "str") (by rfl) T.n_str (by decide +kernel) rfl) pa_nil))))
      (pss_one (ps_ret (pe_op op_add_str (pv 0) pe_str))) pss_nil) (pss_one ps_never), ?_⟩
    refine ⟨_, rfl, _, _, _, _, true, rfl, .ty "str", .base (.str _), kit_ty (by decide +kernel), _, rfl, iteT ?_⟩
    refine ⟨_, rfl, _, _, rfl, rfl, ?_, q⟩
    have e : ("/0" : Str).length = 2 := by decide
    have hz2 : x.length ≤ 1000 := hz
    rw [e, sizeLine_eq]
    omega

def spPlaces : Sp := fun vs H Q _ => ∃ x, vs = [.str x] ∧ ∀ p, H p = none → Q (.ref p) (upd H p (.tup []))
theorem sc_places_of : FnScope ["pattern"] ["pattern"] (defScope s_places_of) := ⟨rfl, rfl, rfl, by decide +kernel, rfl, by decide +kernel, by decide +kernel⟩
theorem places_of_ok (T : Tx K mg w C M N) : Cal P w K mg base 1 "places_of" ["pattern"] spPlaces := by
  refine T.d_places_of.cal sc_places_of (fun vs H Q E h => ?_) (fun f cdv A outer s H vs Q E hr h => ?_)
  · obtain ⟨x, rfl, _⟩ := h
    rfl
  · obtain ⟨x, rfl, q⟩ := h
    refine ⟨_, pss_cons (ps_if (pt_val (pe_callB call_isi (by rfl) T.n_isinstance (by decide +kernel) (pa_cons (pv 0) (pa_cons (pe_bltn (v := .ty "str") (by rfl) T.n_str (by decide +kernel) rfl) pa_nil))))
      (pss_one (ps_ret (pe_tup pa_nil))) pss_nil) (pss_one ps_never), ?_⟩
    refine ⟨_, rfl, _, _, _, _, true, rfl, .ty "str", .base (.str _), kit_ty (by decide +kernel), _, rfl, iteT ?_⟩
    exact ⟨Nat.zero_le _, q⟩
end
end G3

/-! Walks: the unknowns of a pattern, of which there are none. -/
namespace G3
open PySem PySem.Spec PyProof.Rows L2
section
variable {X : Cx}
def tFalse : TE := fun _ _ _ => False
theorem pe_never {e : Expr} : PE X e tFalse := ⟨fun _ _ _ _ _ _ h => h.elim⟩
def tFalseT : TT := fun _ _ _ => False
theorem pt_never {e : Expr} : PT X e tFalseT := ⟨fun _ _ _ _ _ _ h => h.elim⟩
theorem pts_never {es : List Expr} : PTs X es tFalseT := ⟨fun _ _ _ _ _ _ h => h.elim⟩
def gFalse : TG := fun _ _ _ _ => False
theorem pg_never {e : Expr} : PG X e gFalse := ⟨fun _ _ _ _ _ _ _ _ _ h => h.elim⟩
def iFalse : TI := fun _ _ _ => False
theorem pi_never {e e1 : Expr} : PI X e e1 iFalse := ⟨fun _ _ _ _ _ _ h => h.elim⟩
end
section
variable {P : Program} {w : World} {K : PySem.W.Frag} {mg : Str → Option Value} {base : Heap} {C M N : Addr}
/-- the values are a list of goals -/
def GoalsV (H : Hp) (vs : List V) (gs : List Gl2) : Prop := Paired (GoalV H) vs gs ∧ ∀ g ∈ gs, WordOk g.2
theorem GoalsV.same {H H' : Hp} {vs : List V} {gs : List Gl2} (s : Same H H') (h : GoalsV H vs gs) : GoalsV H' vs gs := by
  obtain ⟨h, z⟩ := h
  refine ⟨?_, z⟩
  clear z
  induction h with
  | nil => exact .nil
  | cons a _ ih => exact .cons (a.same s) ih
theorem GoalsV.get {H : Hp} {vs : List V} {gs : List Gl2} (h : GoalsV H vs gs) {i : Nat} {v : V} (e : vs[i]? = some v) : ∃ g, gs[i]? = some g ∧ GoalV H v g ∧ WordOk g.2 := by
  obtain ⟨g, a, b⟩ := paired_get h.1 e
  exact ⟨g, a, b, h.2 g (List.mem_of_getElem? a)⟩
theorem GoalsV.one {H : Hp} {v : V} {g : Gl2} (h : GoalV H v g) (z : WordOk g.2) : GoalsV H [v] [g] := ⟨.cons h .nil, fun g' m => by
  rw [List.mem_singleton] at m
  rw [m]; exact z⟩

abbrev nGather : List Str := ["pattern", "found", "part"]
theorem sc_gather : FnScope nGather ["pattern", "found"] (defScope s_gather) := ⟨rfl, rfl, rfl, by decide +kernel, rfl, by decide +kernel, by decide +kernel⟩
def spGath0 : Sp := fun vs H Q _ => ∃ x y, vs = [.str x, y] ∧ WordOk x ∧ Q .non H
theorem gather0_ok (T : Tx K mg w C M N) : Cal P w K mg base 2 "gather" ["pattern", "found"] spGath0 := by
  have cu := is_unknown_ok (P := P) (base := base) T
  refine T.d_gather.cal sc_gather (fun vs H Q E h => ?_) (fun f cdv A outer s H vs Q E hr h => ?_)
  · obtain ⟨x, y, rfl, _⟩ := h
    rfl
  · obtain ⟨x, y, rfl, hx, q⟩ := h
    refine ⟨_, pss_one (ps_if (pt_val (pe_callB call_isi (by rfl) T.n_isinstance (by decide +kernel) (pa_cons (pv 0) (pa_cons (pe_bltn (v := .ty "tuple") (by rfl) T.n_tuple (by decide +kernel) rfl) pa_nil))))
      (pss_one ps_never) (pss_one (ps_if (pw_and (pt_val (pe_cal cu hr (by decide) (by rfl) (pa_cons (pv 0) pa_nil))) (pw_and1 pt_never)).pt (pss_one ps_never) pss_nil))), ?_⟩
    refine ⟨_, rfl, _, _, _, _, false, rfl, .ty "tuple", .base (.str _), kit_ty (by decide +kernel), _, rfl, iteF ?_⟩
    exact ⟨_, rfl, x, rfl, hx, false, rfl, iteF (iteF q)⟩

def spGath : Sp := fun vs H Q _ => ∃ v g y, vs = [v, y] ∧ GoalV H v g ∧ WordOk g.2 ∧ ∀ H', Same H H' → Q .non H'
theorem gather_ok (T : Tx K mg w C M N) : Cal P w K mg base 3 "gather" ["pattern", "found"] spGath := by
  have cu := is_unknown_ok (P := P) (base := base) T
  have cg := gather0_ok (P := P) (base := base) T
  refine T.d_gather.cal sc_gather (fun vs H Q E h => ?_) (fun f cdv A outer s H vs Q E hr h => ?_)
  · obtain ⟨v, g, y, rfl, _⟩ := h
    rfl
  · obtain ⟨v, g, y, rfl, hg, hw, q⟩ := h
    refine ⟨_, pss_one (ps_if (pt_val (pe_callB call_isi (by rfl) T.n_isinstance (by decide +kernel) (pa_cons (pv 0) (pa_cons (pe_bltn (v := .ty "tuple") (by rfl) T.n_tuple (by decide +kernel) rfl) pa_nil))))
      (pss_one (ps_for PassesOwn.never rfl (pi_tup (pe_slice sl_tup (pv 0) (po_some pe_int) po_none)) (pg_name (i := 2) sc_gather.nd rfl (.inl rfl))
        (pss_one (ps_expr (pe_cal cg hr (by decide) (by rfl) (pa_cons (pv 2) (pa_cons (pv 1) pa_nil)))))))
      (pss_one (ps_if (pw_and (pt_val (pe_cal cu hr (by decide) (by rfl) (pa_cons (pv 0) pa_nil))) (pw_and1 pt_never)).pt (pss_one ps_never) pss_nil))), ?_⟩
    rcases hg with ⟨e, rfl⟩ | ⟨e, t, rfl, ht⟩
    · refine ⟨_, rfl, _, _, _, _, false, rfl, .ty "tuple", .base (.str _), kit_ty (by decide +kernel), _, rfl, iteF ?_⟩
      exact ⟨_, rfl, g.2, rfl, hw, false, rfl, iteF (iteF (q H (Same.refl H)))⟩
    · refine ⟨_, rfl, _, _, _, _, true, rfl, .ty "tuple", .base (.tup ht), kit_ty (by decide +kernel), _, rfl, iteT ?_⟩
      refine ⟨_, rfl, 1, rfl, t, _, rfl, SqT.of ht, fun z => absurd z.1 (show ¬ (1 : Nat) = 0 by decide), fun p np => ⟨p, rfl, ⟨_, SqT.of upd_same⟩, ?_⟩⟩
      have sm := same_upd (o := .tup (cutV [V.str "not", V.str g.2] (some 1) none)) np
      refine for_tup (xs := [V.str g.2]) (fun i σ H' => σ.length = 3 ∧ σ[1]? = some (some y) ∧ Same (upd H p (.tup [V.str g.2])) H') ⟨rfl, rfl, Same.refl _⟩
        (fun i σ H' _ h => SqT.of (h.2.2 _ _ upd_same)) (fun i x σ H' hx h => ?_) (fun σ H' h => q _ (sm.trans h.2.2))
      obtain ⟨l, hy, sm'⟩ := h
      have ex : x = V.str g.2 := by
        match i, hx with
        | 0, hx => exact (Option.some.inj hx).symm
      subst ex
      refine ⟨V.str g.2, by rw [List.getElem?_set_self (by omega)], y, by rw [List.getElem?_set_ne (by decide)]; exact hy, g.2, y, rfl, hw, ?_⟩
      exact ⟨by rw [List.length_set]; exact l, by rw [List.getElem?_set_ne (by decide)]; exact hy, sm'⟩

def spUnks : Sp := fun vs H Q _ => ∃ v g, vs = [v] ∧ GoalV H v g ∧ WordOk g.2 ∧ ∀ H' p, Same H H' → H p = none → H' p = some (.lst []) → Q (.ref p) H'
theorem sc_unks : FnScope ["pattern", "found"] ["pattern"] (defScope s_unknowns_of) := ⟨rfl, rfl, rfl, by decide +kernel, rfl, by decide +kernel, by decide +kernel⟩
theorem unknowns_of_ok (T : Tx K mg w C M N) : Cal P w K mg base 4 "unknowns_of" ["pattern"] spUnks := by
  have cg := gather_ok (P := P) (base := base) T
  refine T.d_unknowns_of.cal sc_unks (fun vs H Q E h => ?_) (fun f cdv A outer s H vs Q E hr h => ?_)
  · obtain ⟨v, g, rfl, _⟩ := h
    rfl
  · obtain ⟨v, g, rfl, hg, hw, q⟩ := h
    refine ⟨_, pss_cons (ps_set (i := 1) sc_unks.nd rfl (.inl rfl) (pe_lst pa_nil)) (pss_cons (ps_expr (pe_cal cg hr (by decide) (by rfl) (pa_cons (pv 0) (pa_cons (pv 1) pa_nil)))) (pss_one (ps_ret (pv 1)))), ?_⟩
    refine ⟨Nat.zero_le _, fun p np => ?_⟩
    refine ⟨_, rfl, _, rfl, v, g, _, rfl, hg.same (same_upd np), hw, fun H' sm => ?_⟩
    exact ⟨_, rfl, q H' p ((same_upd np).trans sm) np (sm _ _ upd_same)⟩
end
end G3

/-! Walks: known and told places, all known, learned. -/
namespace G3
open PySem PySem.Spec PyProof.Rows L2
section
variable {P : Program} {w : World} {K : PySem.W.Frag} {mg : Str → Option Value} {base : Heap} {C M N : Addr}
abbrev nPlaces : List Str := ["pattern", "mode", "part", "sign"]
theorem sc_kplaces : FnScope nPlaces ["pattern", "mode"] (defScope s_known_places) := ⟨rfl, rfl, rfl, by decide +kernel, rfl, by decide +kernel, by decide +kernel⟩
theorem sc_tplaces : FnScope nPlaces ["pattern", "mode"] (defScope s_told_places) := ⟨rfl, rfl, rfl, by decide +kernel, rfl, by decide +kernel, by decide +kernel⟩
def spSome : Sp := fun vs H Q _ => ∃ x z : Str, vs = [.str x, .str z] ∧ z.cps.size = 0 ∧ ∀ H' p, Same H H' → H p = none → H' p = some (.tup []) → Q (.ref p) H'
theorem known_places_ok (T : Tx K mg w C M N) : Cal P w K mg base 2 "known_places" ["pattern", "mode"] spSome := by
  have cp := places_of_ok (P := P) (base := base) T
  refine T.d_known_places.cal sc_kplaces (fun vs H Q E h => ?_) (fun f cdv A outer s H vs Q E hr h => ?_)
  · obtain ⟨x, z, rfl, _⟩ := h
    rfl
  · obtain ⟨x, z, rfl, hz, q⟩ := h
    refine ⟨_, pss_one (ps_ret (pe_callTy call_tuple_of (by rfl) T.n_tuple (by decide +kernel) (pa_cons
      (pe_lc (own := [("part", 2), ("sign", 3)]) rfl sc_kplaces.nd
        (pi_zip0 (by rfl) T.n_zip (pa_cons (pe_cal cp hr (by decide) (by rfl) (pa_cons (pv 0) pa_nil)) (pa_cons (pv 1) pa_nil)))
        (blkOk_by (N := nPlaces) (sc := defScope s_known_places) (by decide +kernel))
        (fun _ _ _ _ _ => pg_never) (fun _ _ _ _ _ => pts_never) (fun _ _ _ _ _ => pe_never)) pa_nil))), ?_⟩
    refine ⟨_, rfl, x, rfl, fun p np => ⟨_, rfl, p, z, rfl, SqT.of upd_same, hz, fun D nD => ?_⟩⟩
    refine ⟨fun i m H' => Same (upd (upd H p (.tup [])) D (.lst [])) H', ⟨0, Same.refl _⟩, fun i m H' sm => .inl ⟨?_, ?_⟩⟩
    · exact SqT.of (sm _ _ (by rw [upd_ne (ne_of_none upd_same nD)]; exact upd_same))
    · refine ⟨D, [], rfl, .inl ⟨SqL.of (sm _ _ upd_same), fun l nl => q _ l ?_ ?_ upd_same⟩⟩
      · exact ((same_upd np).trans (same_upd nD)).trans (sm.trans (same_upd nl))
      · exact (((same_upd np).trans (same_upd nD)).trans sm).free nl
theorem told_places_ok (T : Tx K mg w C M N) : Cal P w K mg base 2 "told_places" ["pattern", "mode"] spSome := by
  have cp := places_of_ok (P := P) (base := base) T
  refine T.d_told_places.cal sc_tplaces (fun vs H Q E h => ?_) (fun f cdv A outer s H vs Q E hr h => ?_)
  · obtain ⟨x, z, rfl, _⟩ := h
    rfl
  · obtain ⟨x, z, rfl, hz, q⟩ := h
    refine ⟨_, pss_one (ps_ret (pe_callTy call_tuple_of (by rfl) T.n_tuple (by decide +kernel) (pa_cons
      (pe_lc (own := [("part", 2), ("sign", 3)]) rfl sc_tplaces.nd
        (pi_zip0 (by rfl) T.n_zip (pa_cons (pe_cal cp hr (by decide) (by rfl) (pa_cons (pv 0) pa_nil)) (pa_cons (pv 1) pa_nil)))
        (blkOk_by (N := nPlaces) (sc := defScope s_told_places) (by decide +kernel))
        (fun _ _ _ _ _ => pg_never) (fun _ _ _ _ _ => pts_never) (fun _ _ _ _ _ => pe_never)) pa_nil))), ?_⟩
    refine ⟨_, rfl, x, rfl, fun p np => ⟨_, rfl, p, z, rfl, SqT.of upd_same, hz, fun D nD => ?_⟩⟩
    refine ⟨fun i m H' => Same (upd (upd H p (.tup [])) D (.lst [])) H', ⟨0, Same.refl _⟩, fun i m H' sm => .inl ⟨?_, ?_⟩⟩
    · exact SqT.of (sm _ _ (by rw [upd_ne (ne_of_none upd_same nD)]; exact upd_same))
    · refine ⟨D, [], rfl, .inl ⟨SqL.of (sm _ _ upd_same), fun l nl => q _ l ?_ ?_ upd_same⟩⟩
      · exact ((same_upd np).trans (same_upd nD)).trans (sm.trans (same_upd nl))
      · exact (((same_upd np).trans (same_upd nD)).trans sm).free nl

abbrev nAll : List Str := ["patterns", "known", "pattern", "name"]
theorem sc_all : FnScope nAll ["patterns", "known"] (defScope s_all_known) := ⟨rfl, rfl, rfl, by decide +kernel, rfl, by decide +kernel, by decide +kernel⟩
/-- no pattern -/
def spAllT : Sp := fun vs H Q _ => ∃ a y, vs = [.ref a, y] ∧ H a = some (.tup []) ∧ ∀ H', Same H H' → Q (.bl true) H'
theorem all_knownT_ok (T : Tx K mg w C M N) : Cal P w K mg base 1 "all_known" ["patterns", "known"] spAllT := by
  refine T.d_all_known.cal sc_all (fun vs H Q E h => ?_) (fun f cdv A outer s H vs Q E hr h => ?_)
  · obtain ⟨a, y, rfl, _⟩ := h
    rfl
  · obtain ⟨a, y, rfl, ha, q⟩ := h
    refine ⟨_, pss_one (ps_ret (pe_callB (cr_all rfl) (by rfl) T.n_all (by decide +kernel) (pa_cons
      (pe_lc2 (own := [("pattern", 2), ("name", 3)]) (vs1 := [3]) rfl sc_all.nd
        (pi_tup (pv 0)) (blkOk_by (N := nAll) (sc := defScope s_all_known) (by decide +kernel)) (by decide)
        (fun _ _ _ _ _ => pg_never) (fun _ _ _ _ _ => pts_never)
        (fun _ _ _ _ _ => pi_never) (fun _ _ _ _ _ => pg_never) (fun _ _ _ _ _ => pts_never)
        (fun _ _ _ _ _ => pe_never)) pa_nil))), ?_⟩
    refine ⟨_, rfl, a, rfl, ⟨_, SqT.of ha⟩, fun D nD => ?_⟩
    refine ⟨fun i m H' => Same (upd H D (.lst [])) H', ⟨0, Same.refl _⟩, fun i m H' sm => .inl ⟨⟨_, SqT.of (sm _ _ (same_upd nD _ _ ha)), Nat.zero_le _⟩, ?_⟩⟩
    exact ⟨D, [], rfl, SqL.of (sm _ _ upd_same), q _ ((same_upd nD).trans sm)⟩
/-- a list of goals -/
def spAllL : Sp := fun vs H Q _ => ∃ a y xs gs, vs = [.ref a, y] ∧ H a = some (.lst xs) ∧ GoalsV H xs gs ∧ ∀ H', Same H H' → Q (.bl true) H'
theorem learn_sc : FnScope nAll ["patterns", "known"] (defScope s_learn_all) := ⟨rfl, rfl, rfl, by decide +kernel, rfl, by decide +kernel, by decide +kernel⟩
def spLearnT : Sp := fun vs H Q _ => ∃ a y, vs = [.ref a, y] ∧ H a = some (.tup []) ∧ Q .non H
theorem learn_allT_ok (T : Tx K mg w C M N) : Cal P w K mg base 1 "learn_all" ["patterns", "known"] spLearnT := by
  refine T.d_learn_all.cal learn_sc (fun vs H Q E h => ?_) (fun f cdv A outer s H vs Q E hr h => ?_)
  · obtain ⟨a, y, rfl, _⟩ := h
    rfl
  · obtain ⟨a, y, rfl, ha, q⟩ := h
    refine ⟨_, pss_one (ps_for PassesOwn.never rfl (pi_tup (pv 0)) pg_never (pss_one ps_never)), ?_⟩
    refine ⟨_, rfl, a, rfl, ⟨_, SqT.of ha⟩, ?_⟩
    refine for_tup (K := K) (a := a) (xs := []) (fun i σ H' => H' = H) rfl (fun i σ H' _ h => by rw [h]; exact SqT.of ha) (fun i x σ H' hx h => by simp at hx) (fun σ H' h => ?_)
    subst h
    exact q
def spLearnL : Sp := fun vs H Q _ => ∃ a y xs gs, vs = [.ref a, y] ∧ H a = some (.lst xs) ∧ GoalsV H xs gs ∧ ∀ H', Same H H' → Q .non H'
theorem learn_allL_ok (T : Tx K mg w C M N) : Cal P w K mg base 5 "learn_all" ["patterns", "known"] spLearnL := by
  have cu := unknowns_of_ok (P := P) (base := base) T
  refine T.d_learn_all.cal learn_sc (fun vs H Q E h => ?_) (fun f cdv A outer s H vs Q E hr h => ?_)
  · obtain ⟨a, y, xs, gs, rfl, _⟩ := h
    rfl
  · obtain ⟨a, y, xs, gs, rfl, ha, hg, q⟩ := h
    refine ⟨_, pss_one (ps_for PassesOwn.never rfl (pi_list (pv 0)) (pg_name (i := 2) learn_sc.nd rfl (.inl rfl))
      (pss_one (ps_for PassesOwn.never rfl (pi_list (pe_cal cu hr (by decide) (by rfl) (pa_cons (pv 2) pa_nil))) pg_never (pss_one ps_never)))), ?_⟩
    refine ⟨_, rfl, a, rfl, ⟨_, SqL.of ha⟩, ?_⟩
    refine for_list (fun i σ H' => σ.length = 4 ∧ Same H H') ⟨rfl, Same.refl _⟩ (fun i σ H' _ h => SqL.of (h.2 _ _ ha)) (fun i x σ H' hx h => ?_) (fun σ H' h => q _ h.2)
    obtain ⟨l, sm⟩ := h
    obtain ⟨g, _, gv, gw⟩ := hg.get hx
    refine ⟨x, by rw [List.getElem?_set_self (by omega)], x, g, rfl, gv.same sm, gw, fun H2 p sm2 np hp => ?_⟩
    refine ⟨p, rfl, ⟨_, SqL.of hp⟩, ?_⟩
    refine for_list (K := K) (a := p) (xs := []) (fun i σ' H' => σ' = σ.set 2 (some x) ∧ H' = H2) ⟨rfl, rfl⟩ (fun i σ H' _ h => by rw [h.2]; exact SqL.of hp) (fun i x σ H' hx h => by simp at hx)
      (fun σ' H' h => ?_)
    obtain ⟨rfl, rfl⟩ := h
    exact ⟨by rw [List.length_set]; exact l, sm.trans sm2⟩
end
end G3

/-! Loops over any source, and the heap kept. -/
namespace G3
open PySem PySem.Spec PyProof.Rows L2
theorem same_new {H H' : Hp} {p : Addr} {o : HO} (s : Same H H') (h : H p = none) : Same H (upd H' p o) := fun b x e => by
  rw [upd_ne (ne_of_none e h)]
  exact s b x e
theorem Same.at {H H' : Hp} (s : Same H H') {b : Addr} {o : HO} (h : H b = some o) : H' b = some o := s b o h
theorem Same.unlock {H H' : Hp} {d : Addr} {f u : HO} (e : H d = some u) (s : Same (upd H d f) H') : Same H (upd H' d u) := fun b o h => by
  by_cases hb : b = d
  · rw [hb] at h ⊢
    rw [e] at h
    cases h
    exact upd_same
  · rw [upd_ne hb]
    exact s b o (by rw [upd_ne hb]; exact h)
theorem ne_of_some {H : Hp} {a b : Addr} {o u : HO} (h1 : H a = some o) (h2 : H b = some u) (h : o ≠ u) : a ≠ b := fun e => by
  rw [e, h2] at h1
  exact h (Option.some.inj h1).symm
theorem upd_at {H : Hp} {a b : Addr} {o u : HO} (h : H b = some u) (ne : b ≠ a) : upd H a o b = some u := by rw [upd_ne ne]; exact h
theorem u1 {k : Nat} {A : Around} (r : Room k A) : A.units + 1 < cLine := by have := r.un; omega
theorem yesT {σ : L2.St} {H : Hp} {A B : Hp → Prop} (h : A H) : tYes σ H (fun b H3 => if b = true then A H3 else B H3) := by
  unfold tYes
  exact iteT h
/-! ### loops -/
theorem for_it {J : It} {n : Nat} {g : TG} {tb : TS} {D : Ends} {σ : L2.St} {H : Hp} (Pv : Nat → L2.St → Hp → Prop) (h0 : Pv 0 σ H)
    (hgo : ∀ i σ H, i < n → Pv i σ H → J.go i H) (hstop : ∀ σ H, Pv n σ H → J.stop n H)
    (hs : ∀ i σ H, i < n → Pv i σ H → ∀ x H', J.yld i H x H' → g x σ H' fun σ2 H2 => tb { D with nx := Pv (i + 1), ct := Pv (i + 1), bk := D.nx } σ2 H2) (hd : ∀ σ H, Pv n σ H → D.nx σ H) :
    ∃ W : Nat → Nat → L2.St → Hp → Prop, (∃ m, W 0 m σ H) ∧ ∀ i m σ H, W i m σ H →
      (J.stop i H ∧ D.nx σ H) ∨ (J.go i H ∧ ∃ N : L2.St → Hp → Prop, (∀ σ' H', N σ' H' → ∃ m', m' < m ∧ W (i + 1) m' σ' H') ∧ ∀ x H', J.yld i H x H' → g x σ H' fun σ2 H2 => tb { D with nx := N, ct := N, bk := D.nx } σ2 H2) := by
  refine ⟨fun i m σ H => m = n - i ∧ i ≤ n ∧ Pv i σ H, ⟨n, by simp, Nat.zero_le _, h0⟩, ?_⟩
  rintro i m σ H ⟨rfl, hi, p⟩
  by_cases hlt : i < n
  · exact .inr ⟨hgo i σ H hlt p, Pv (i + 1), fun σ' H' p' => ⟨n - (i + 1), by omega, rfl, hlt, p'⟩, hs i σ H hlt p⟩
  · have e : i = n := by omega
    subst e
    exact .inl ⟨hstop σ H p, hd σ H p⟩
theorem lc_it {J : It} {n : Nat} {g : TG} {tt : TT} {te : TE} {vs : List Nat} {σ : L2.St} {H0 : Hp} {D : Addr} {Qd : Hp → Prop} (Pv : Nat → Hp → Prop) (h0 : Pv 0 H0)
    (hgo : ∀ i H, i < n → Pv i H → J.go i H) (hstop : ∀ H, Pv n H → J.stop n H)
    (hs : ∀ i H, i < n → Pv i H → ∀ x H', J.yld i H x H' → g x (wipe σ vs) H' fun σ2 H2 => wipe σ2 vs = wipe σ vs ∧ tt σ2 H2 fun b H3 =>
      if b = true then te σ2 H3 fun y H4 => ∃ acc, H4 D = some (.lst acc) ∧ acc.length < sizeLine ∧ Pv (i + 1) (upd H4 D (.lst (acc ++ [y]))) else Pv (i + 1) H3) (hd : ∀ H, Pv n H → Qd H) :
    ∃ W : Nat → Nat → Hp → Prop, (∃ m, W 0 m H0) ∧ ∀ i m H, W i m H →
      (J.stop i H ∧ Qd H) ∨ (J.go i H ∧ ∃ Nx : Hp → Prop, (∀ H', Nx H' → ∃ m', m' < m ∧ W (i + 1) m' H') ∧ ∀ x H', J.yld i H x H' → g x (wipe σ vs) H' fun σ2 H2 => wipe σ2 vs = wipe σ vs ∧ tt σ2 H2 fun b H3 =>
        if b = true then te σ2 H3 fun y H4 => ∃ acc, H4 D = some (.lst acc) ∧ acc.length < sizeLine ∧ Nx (upd H4 D (.lst (acc ++ [y]))) else Nx H3) := by
  refine ⟨fun i m H => m = n - i ∧ i ≤ n ∧ Pv i H, ⟨n, by simp, Nat.zero_le _, h0⟩, ?_⟩
  rintro i m H ⟨rfl, hi, p⟩
  by_cases hlt : i < n
  · exact .inr ⟨hgo i H hlt p, Pv (i + 1), fun H' p' => ⟨n - (i + 1), by omega, rfl, hlt, p'⟩, hs i H hlt p⟩
  · have e : i = n := by omega
    subst e
    exact .inl ⟨hstop H p, hd H p⟩
theorem dc_it {J : It} {n : Nat} {g : TG} {tt : TT} {tk tv : TE} {vs : List Nat} {σ : L2.St} {H0 : Hp} {D : Addr} {Qd : Hp → Prop} (Pv : Nat → Hp → Prop) (h0 : Pv 0 H0)
    (hgo : ∀ i H, i < n → Pv i H → J.go i H) (hstop : ∀ H, Pv n H → J.stop n H)
    (hs : ∀ i H, i < n → Pv i H → ∀ x H', J.yld i H x H' → g x (wipe σ vs) H' fun σ2 H2 => wipe σ2 vs = wipe σ vs ∧ tt σ2 H2 fun b H3 =>
      if b = true then tk σ2 H3 fun y H4 => tv σ2 H4 fun z H5 => ∃ kvs k, y = kV k ∧ H5 D = some (.dK kvs) ∧ kvs.length < sizeLine ∧ Pv (i + 1) (upd H5 D (.dK (putK kvs k z))) else Pv (i + 1) H3) (hd : ∀ H, Pv n H → Qd H) :
    ∃ W : Nat → Nat → Hp → Prop, (∃ m, W 0 m H0) ∧ ∀ i m H, W i m H →
      (J.stop i H ∧ Qd H) ∨ (J.go i H ∧ ∃ Nx : Hp → Prop, (∀ H', Nx H' → ∃ m', m' < m ∧ W (i + 1) m' H') ∧ ∀ x H', J.yld i H x H' → g x (wipe σ vs) H' fun σ2 H2 => wipe σ2 vs = wipe σ vs ∧ tt σ2 H2 fun b H3 =>
        if b = true then tk σ2 H3 fun y H4 => tv σ2 H4 fun z H5 => ∃ kvs k, y = kV k ∧ H5 D = some (.dK kvs) ∧ kvs.length < sizeLine ∧ Nx (upd H5 D (.dK (putK kvs k z))) else Nx H3) := by
  refine ⟨fun i m H => m = n - i ∧ i ≤ n ∧ Pv i H, ⟨n, by simp, Nat.zero_le _, h0⟩, ?_⟩
  rintro i m H ⟨rfl, hi, p⟩
  by_cases hlt : i < n
  · exact .inr ⟨hgo i H hlt p, Pv (i + 1), fun H' p' => ⟨n - (i + 1), by omega, rfl, hlt, p'⟩, hs i H hlt p⟩
  · have e : i = n := by omega
    subst e
    exact .inl ⟨hstop H p, hd H p⟩
/-- a loop within: what is left is J's own turns -/
theorem in_it {J : It} {n : Nat} {Nx : Hp → Prop} {H0 : Hp} {S : (Hp → Prop) → Nat → Hp → Prop} (Pv : Nat → Hp → Prop) (h0 : Pv 0 H0)
    (hgo : ∀ i H, i < n → Pv i H → J.go i H) (hstop : ∀ H, Pv n H → J.stop n H) (hs : ∀ i H, i < n → Pv i H → S (Pv (i + 1)) i H) (hd : ∀ H, Pv n H → Nx H) :
    ∃ W : Nat → Nat → Hp → Prop, (∃ m, W 0 m H0) ∧ ∀ i m H, W i m H → (J.stop i H ∧ Nx H) ∨ (J.go i H ∧ ∃ N1 : Hp → Prop, (∀ H', N1 H' → ∃ m', m' < m ∧ W (i + 1) m' H') ∧ S N1 i H) := by
  refine ⟨fun i m H => m = n - i ∧ i ≤ n ∧ Pv i H, ⟨n, by simp, Nat.zero_le _, h0⟩, ?_⟩
  rintro i m H ⟨rfl, hi, p⟩
  by_cases hlt : i < n
  · exact .inr ⟨hgo i H hlt p, Pv (i + 1), fun H' p' => ⟨n - (i + 1), by omega, rfl, hlt, p'⟩, hs i H hlt p⟩
  · have e : i = n := by omega
    subst e
    exact .inl ⟨hstop H p, hd H p⟩
/-! ### sources -/
section
variable {K : PySem.W.Frag} {a : Addr} {xs : List V} {H : Hp} {i : Nat}
theorem go_l (h : SqL K H a xs) (hi : i < xs.length) : (Itl K a).go i H := ⟨xs, xs[i], h, List.getElem?_eq_getElem hi⟩
theorem stop_l (h : SqL K H a xs) : (Itl K a).stop xs.length H := ⟨xs, h, Nat.le_refl _⟩
theorem go_t (h : SqT K H a xs) (hi : i < xs.length) : (Itt K a).go i H := ⟨xs, xs[i], h, List.getElem?_eq_getElem hi⟩
theorem stop_t (h : SqT K H a xs) : (Itt K a).stop xs.length H := ⟨xs, h, Nat.le_refl _⟩
theorem go_e (h : SqL K H a xs) (hi : i < xs.length) : (Ite K a).go i H := ⟨xs, xs[i], h, List.getElem?_eq_getElem hi⟩
theorem stop_e (h : SqL K H a xs) : (Ite K a).stop xs.length H := ⟨xs, h, Nat.le_refl _⟩
theorem go_et (h : SqT K H a xs) (hi : i < xs.length) : (Iet K a).go i H := ⟨xs, xs[i], h, List.getElem?_eq_getElem hi⟩
theorem stop_et (h : SqT K H a xs) : (Iet K a).stop xs.length H := ⟨xs, h, rfl⟩
theorem yld_l {v : V} {H' : Hp} (h : SqL K H a xs) (y : (Itl K a).yld i H v H') : H' = H ∧ xs[i]? = some v := ⟨y.1, y.2 xs h⟩
theorem yld_t {v : V} {H' : Hp} (h : SqT K H a xs) (y : (Itt K a).yld i H v H') : H' = H ∧ xs[i]? = some v := ⟨y.1, y.2 xs h⟩
theorem yld_e {v : V} {H' : Hp} (h : SqL K H a xs) (y : (Ite K a).yld i H v H') : ∃ t x, v = .ref t ∧ H t = none ∧ H' = upd H t (.tup [.int (i : Nat), x]) ∧ xs[i]? = some x := by
  obtain ⟨t, x, e, f, g, k⟩ := y
  exact ⟨t, x, e, f, g, k xs h⟩
theorem yld_et {v : V} {H' : Hp} (h : SqT K H a xs) (y : (Iet K a).yld i H v H') : ∃ t x, v = .ref t ∧ H t = none ∧ H' = upd H t (.tup [.int (i : Nat), x]) ∧ xs[i]? = some x := by
  obtain ⟨t, x, e, f, g, k⟩ := y
  exact ⟨t, x, e, f, g, k xs h⟩
end
end G3

/-! Walks: modes, the first mode, the word of a goal. -/
namespace G3
open PySem PySem.Spec PyProof.Rows L2
/-- no method's name stands in the fields -/
structure Nom (fs : List (Str × V)) : Prop where
  lay : fs.lookup ("lay" : Str) = none
  enter : fs.lookup ("enter" : Str) = none
  titles : fs.lookup ("titles" : Str) = none
  modes : fs.lookup ("modes" : Str) = none
  is_tabled : fs.lookup ("is_tabled" : Str) = none
  comes_to : fs.lookup ("comes_to" : Str) = none
  layer : fs.lookup ("layer" : Str) = none
/-- v is an instance whose field f is a dict of kvs -/
structure Fd (C : Addr) (H : Hp) (v : V) (f : Str) (d : Addr) (kvs : List (Key × V)) : Prop where
  ins : ∃ a dx fs, v = .ref a ∧ H a = some (.ins C dx fs) ∧ Nom fs ∧ fs.lookup f = some (.ref d)
  dict : Rd H d (.dK kvs)
theorem rdSame {H H' : Hp} {d : Addr} {u : HO} (s : Same H H') (h : Rd H d u) : Rd H' d u := by
  rcases h with h | ⟨o, h⟩
  · exact .inl (s _ _ h)
  · exact .inr ⟨o, s _ _ h⟩
theorem Fd.same {C : Addr} {H H' : Hp} {v : V} {f : Str} {d : Addr} {kvs : List (Key × V)} (s : Same H H') (h : Fd C H v f d kvs) : Fd C H' v f d kvs := by
  obtain ⟨⟨a, dx, fs, e, k, n, l⟩, r⟩ := h
  exact ⟨⟨a, dx, fs, e, s _ _ k, n, l⟩, rdSame s r⟩
theorem dget_of {H : Hp} {d : Addr} {kvs : List (Key × V)} (h : Rd H d (.dK kvs)) (t : Str) : DGet H d (.str t) (valV kvs (.inr t)) := .inl ⟨kvs, .inr t, h, rfl, rfl⟩
theorem dget_oi {H : Hp} {d : Addr} {kvs : List (Key × V)} (h : Rd H d (.dK kvs)) (t : Int) : DGet H d (.int t) (valV kvs (.inl t)) := .inl ⟨kvs, .inl t, h, rfl, rfl⟩
section
variable {P : Program} {w : World} {K : PySem.W.Frag} {mg : Str → Option Value} {base : Heap} {C M N : Addr}
/-! list(self.by_modes.get(title, [])) -/
def spModes (C : Addr) : Sp := fun vs H Q _ => ∃ v t d kvs l ys, vs = [v, .str t] ∧ Fd C H v "by_modes" d kvs ∧ valV kvs (.inr t) = some (.ref l) ∧ H l = some (.lst ys) ∧ ∀ H' p, Same H H' → H p = none → H' p = some (.lst ys) → Q (.ref p) H'
theorem sc_modes : FnScope ["self", "title"] ["self", "title"] (defScope m_modes) := ⟨rfl, rfl, rfl, by decide +kernel, rfl, by decide +kernel, by decide +kernel⟩
theorem modes_ok (T : Tx K mg w C M N) : Met P w K mg base C 1 "modes" ["self", "title"] (spModes C) := by
  refine T.m_modes.met sc_modes (fun vs H Q E h => ?_) (fun f cdv A outer s H vs Q E hr h => ?_)
  · obtain ⟨v, t, d, kvs, l, ys, rfl, _⟩ := h
    rfl
  · obtain ⟨v, t, d, kvs, l, ys, rfl, ⟨⟨a, dx, fs, rfl, ha, hn, hf⟩, hd⟩, hv, hl, q⟩ := h
    refine ⟨_, pss_one (ps_ret (pe_callTy call_list_of (by rfl) T.n_list (by decide +kernel) (pa_cons
      (pe_dget2 (u1 hr) (pe_fld (pv 0) rfl) (pv 1) (pe_lst pa_nil) ⟨rfl, rfl, rfl, rfl⟩) pa_nil))), ?_⟩
    refine ⟨_, rfl, a, C, dx, fs, _, rfl, ha, T.cls, T.a_by_modes, hf, d, rfl, .inl ⟨kvs, hd⟩, _, rfl, Nat.zero_le _, fun p np => ?_⟩
    have s1 := same_upd (o := .lst []) np
    refine ⟨_, dget_of (rdSame s1 hd) t, ?_⟩
    rw [hv]
    exact ⟨l, ys, rfl, .inl (SqL.of (s1 _ _ hl)), fun r nr => q _ r (s1.trans (same_upd nr)) (s1.free nr) upd_same⟩

/-! title in self.marked -/
def spTabled (C : Addr) : Sp := fun vs H Q _ => ∃ v t d kvs, vs = [v, .str t] ∧ Fd C H v "marked" d kvs ∧ Q (.bl (valV kvs (.inr t)).isSome) H
theorem sc_tabled : FnScope ["self", "title"] ["self", "title"] (defScope m_is_tabled) := ⟨rfl, rfl, rfl, by decide +kernel, rfl, by decide +kernel, by decide +kernel⟩
theorem is_tabled_ok (T : Tx K mg w C M N) : Met P w K mg base C 1 "is_tabled" ["self", "title"] (spTabled C) := by
  refine T.m_is_tabled.met sc_tabled (fun vs H Q E h => ?_) (fun f cdv A outer s H vs Q E hr h => ?_)
  · obtain ⟨v, t, d, kvs, rfl, _⟩ := h
    rfl
  · obtain ⟨v, t, d, kvs, rfl, ⟨⟨a, dx, fs, rfl, ha, hn, hf⟩, hd⟩, q⟩ := h
    refine ⟨_, pss_one (ps_ret (pe_cmp (pc_din (u1 hr) (pv 1) (pe_fld (pv 0) rfl)))), ?_⟩
    exact ⟨_, rfl, _, rfl, a, C, dx, fs, _, rfl, ha, T.cls, T.a_marked, hf, d, _, rfl, dget_of hd t, q⟩

/-! list(self.reach.get(title, [title])) -/
def spComes (C : Addr) : Sp := fun vs H Q _ => ∃ v t d kvs l ys, vs = [v, .str t] ∧ Fd C H v "reach" d kvs ∧ valV kvs (.inr t) = some (.ref l) ∧ H l = some (.lst ys) ∧ ∀ H' p, Same H H' → H p = none → H' p = some (.lst ys) → Q (.ref p) H'
theorem sc_comes : FnScope ["self", "title"] ["self", "title"] (defScope m_comes_to) := ⟨rfl, rfl, rfl, by decide +kernel, rfl, by decide +kernel, by decide +kernel⟩
theorem comes_to_ok (T : Tx K mg w C M N) : Met P w K mg base C 1 "comes_to" ["self", "title"] (spComes C) := by
  refine T.m_comes_to.met sc_comes (fun vs H Q E h => ?_) (fun f cdv A outer s H vs Q E hr h => ?_)
  · obtain ⟨v, t, d, kvs, l, ys, rfl, _⟩ := h
    rfl
  · obtain ⟨v, t, d, kvs, l, ys, rfl, ⟨⟨a, dx, fs, rfl, ha, hn, hf⟩, hd⟩, hv, hl, q⟩ := h
    refine ⟨_, pss_one (ps_ret (pe_callTy call_list_of (by rfl) T.n_list (by decide +kernel) (pa_cons
      (pe_dget2 (u1 hr) (pe_fld (pv 0) rfl) (pv 1) (pe_lst (pa_cons (pv 1) pa_nil)) ⟨rfl, rfl, rfl, rfl⟩) pa_nil))), ?_⟩
    refine ⟨_, rfl, a, C, dx, fs, _, rfl, ha, T.cls, T.a_reach, hf, d, rfl, .inl ⟨kvs, hd⟩, _, rfl, _, rfl, by show 1 ≤ sizeLine; decide, fun p np => ?_⟩
    have s1 := same_upd (o := .lst [V.str t]) np
    refine ⟨_, dget_of (rdSame s1 hd) t, ?_⟩
    rw [hv]
    exact ⟨l, ys, rfl, .inl (SqL.of (s1 _ _ hl)), fun r nr => q _ r (s1.trans (same_upd nr)) (s1.free nr) upd_same⟩

/-! self.heights.get(title, 0) -/
def spLayer (C : Addr) : Sp := fun vs H Q _ => ∃ v t d kvs n, vs = [v, .str t] ∧ Fd C H v "heights" d kvs ∧ valV kvs (.inr t) = some n ∧ Q n H
theorem sc_layer : FnScope ["self", "title"] ["self", "title"] (defScope m_layer) := ⟨rfl, rfl, rfl, by decide +kernel, rfl, by decide +kernel, by decide +kernel⟩
theorem layer_ok (T : Tx K mg w C M N) : Met P w K mg base C 1 "layer" ["self", "title"] (spLayer C) := by
  refine T.m_layer.met sc_layer (fun vs H Q E h => ?_) (fun f cdv A outer s H vs Q E hr h => ?_)
  · obtain ⟨v, t, d, kvs, n, rfl, _⟩ := h
    rfl
  · obtain ⟨v, t, d, kvs, n, rfl, ⟨⟨a, dx, fs, rfl, ha, hn, hf⟩, hd⟩, hv, q⟩ := h
    refine ⟨_, pss_one (ps_ret (pe_dget2 (u1 hr) (pe_fld (pv 0) rfl) (pv 1) pe_int ⟨rfl, rfl, rfl, rfl⟩)), ?_⟩
    refine ⟨_, rfl, a, C, dx, fs, _, rfl, ha, T.cls, T.a_heights, hf, d, rfl, .inl ⟨kvs, hd⟩, _, rfl, _, dget_of hd t, ?_⟩
    rw [hv]
    exact q

/-! the house: each word's title has the one mode "" -/
def House (C : Addr) (ws : List Str) (H : Hp) (v : V) : Prop := ∃ d kvs, Fd C H v "by_modes" d kvs ∧ ∀ x ∈ ws, ∃ l, valV kvs (.inr (tt x)) = some (.ref l) ∧ H l = some (.lst [.str ""])
theorem House.same {C : Addr} {ws : List Str} {H H' : Hp} {v : V} (s : Same H H') (h : House C ws H v) : House C ws H' v := by
  obtain ⟨d, kvs, f, k⟩ := h
  exact ⟨d, kvs, f.same s, fun x m => let ⟨l, a, b⟩ := k x m; ⟨l, a, s _ _ b⟩⟩
abbrev nFirst : List Str := ["house", "pattern", "known", "mode"]
theorem sc_first : FnScope nFirst ["house", "pattern", "known"] (defScope s_first_mode) := ⟨rfl, rfl, rfl, by decide +kernel, rfl, by decide +kernel, by decide +kernel⟩
def spFirst (C : Addr) : Sp := fun vs H Q _ => ∃ v x y ws, vs = [v, .str x, y] ∧ House C ws H v ∧ x ∈ ws ∧ WordOk x ∧ ∀ H', Same H H' → Q (.str "") H'
theorem first_mode_ok (T : Tx K mg w C M N) : Cal P w K mg base 3 "first_mode" ["house", "pattern", "known"] (spFirst C) := by
  have ct := title_of_ok (P := P) (base := base) T
  have cm := modes_ok (P := P) (base := base) T
  have ck := known_places_ok (P := P) (base := base) T
  have ca := all_knownT_ok (P := P) (base := base) T
  refine T.d_first_mode.cal sc_first (fun vs H Q E h => ?_) (fun f cdv A outer s H vs Q E hr h => ?_)
  · obtain ⟨v, x, y, ws, rfl, _⟩ := h
    rfl
  · obtain ⟨v, x, y, ws, rfl, ⟨d, kvs, hf, hk⟩, hm, hx, q⟩ := h
    obtain ⟨l, hv, hl⟩ := hk x hm
    have hi := hf.ins
    obtain ⟨a, dx, fs, rfl, ha, hn, hff⟩ := hi
    refine ⟨_, pss_cons (ps_for PassesOwn.never rfl (pi_list (pe_met (pv 0) T.cls cm hr (by decide) (pa_cons (pe_cal ct hr (by decide) (by rfl) (pa_cons (pv 1) pa_nil)) pa_nil)))
      (pg_name (i := 3) sc_first.nd rfl (.inl rfl))
      (pss_one (ps_if (pt_val (pe_cal ca hr (by decide) (by rfl) (pa_cons (pe_cal ck hr (by decide) (by rfl) (pa_cons (pv 1) (pa_cons (pv 3) pa_nil))) (pa_cons (pv 2) pa_nil))))
        (pss_one (ps_ret (pv 3))) pss_nil))) (pss_one ps_never), ?_⟩
    refine ⟨_, rfl, a, dx, fs, rfl, ha, hn.modes, _, rfl, x, rfl, hx.2, _, _, d, kvs, l, _, rfl, hf, hv, hl, fun H1 p s1 np hp => ?_⟩
    refine ⟨p, rfl, ⟨_, SqL.of hp⟩, ?_⟩
    refine for_list (K := K) (a := p) (xs := [V.str ""]) (fun i σ H' => i = 0 ∧ ∃ z, σ = [some (V.ref a), some (V.str x), some y, z] ∧ Same H1 H') ⟨rfl, none, rfl, Same.refl _⟩ (fun i σ H' _ h => SqL.of (h.2.choose_spec.2 _ _ hp)) (fun i u σ H' hu h => ?_) (fun σ H' h => absurd h.1 (by simp))
    obtain ⟨rfl, z, rfl, s2⟩ := h
    obtain rfl : V.str "" = u := Option.some.inj hu
    refine ⟨_, rfl, _, rfl, x, _, rfl, rfl, fun H2 p2 s3 np2 hp2 => ?_⟩
    exact ⟨_, rfl, p2, _, rfl, hp2, fun H3 s4 => ⟨true, rfl, iteT ⟨_, rfl, q _ (((s1.trans s2).trans s3).trans s4)⟩⟩⟩

abbrev nWord : List Str := ["house", "goal", "known", "kind", "needed", "own", "name", "low", "high"]
theorem sc_word : FnScope nWord ["house", "goal", "known"] (defScope s_word_at) := ⟨rfl, rfl, rfl, by decide +kernel, rfl, by decide +kernel, by decide +kernel⟩
def spWord (C : Addr) : Sp := fun vs H Q _ => ∃ v u g y ws, vs = [v, u, y] ∧ House C ws H v ∧ GoalV H u g ∧ g.2 ∈ ws ∧ WordOk g.2 ∧ ∀ H', Same H H' → Q (.str "") H'
theorem word_at_ok (T : Tx K mg w C M N) : Cal P w K mg base 4 "word_at" ["house", "goal", "known"] (spWord C) := by
  have ck := kind_of_ok (P := P) (base := base) T
  have ca := asked_of_ok (P := P) (base := base) T
  have cf := first_mode_ok (P := P) (base := base) T
  refine T.d_word_at.cal sc_word (fun vs H Q E h => ?_) (fun f cdv A outer s H vs Q E hr h => ?_)
  · obtain ⟨v, u, g, y, ws, rfl, _⟩ := h
    rfl
  · obtain ⟨v, u, g, y, ws, rfl, hh, hg, hm, hx, q⟩ := h
    refine ⟨_, pss_cons (ps_set (i := 3) sc_word.nd rfl (.inl rfl) (pe_cal ck hr (by decide) (by rfl) (pa_cons (pv 1) pa_nil)))
      (pss_cons (ps_if (pw_or (pt_cmpR op_eq (pv 3) pe_str (nomark _)) (pw_or1 (pt_cmpR op_eq (pv 3) pe_str (nomark _)))).pt
        (pss_one (ps_ret (pe_cal cf hr (by decide) (by rfl) (pa_cons (pv 0) (pa_cons (pe_cal ca hr (by decide) (by rfl) (pa_cons (pv 1) pa_nil)) (pa_cons (pv 2) pa_nil)))))) pss_nil) pss_never), ?_⟩
    refine ⟨_, rfl, u, g, rfl, hg, ?_⟩
    have fin : tRet (tCall (spFirst C) [] E0 (tCons (tVar 0) (tCons (tCall spAsked [] E0 (tCons (tVar 1) tNil)) (tCons (tVar 2) tNil)))) { nx := fun _ H' => Q .non H', rt := Q } [some v, some u, some y, some (.str (kd g)), none, none, none, none, none] H :=
      ⟨_, rfl, _, rfl, u, g, rfl, hg, _, rfl, v, g.2, y, ws, rfl, hh, hm, hx, q⟩
    refine ⟨_, rfl, rfl, _, rfl, ite2 (fun _ => iteT fin) fun z => ?_⟩
    refine ⟨_, rfl, rfl, _, rfl, ite2 (fun _ => fin) fun z2 => ?_⟩
    unfold kd at z z2
    cases e : g.1 with
    | true =>
      rw [e] at z2
      exact absurd (decide_eq_true rfl) z2
    | false =>
      rw [e] at z
      exact absurd (decide_eq_true rfl) z
end
end G3

/-! Walks: stray unknowns, a clause held in. -/
namespace G3
open PySem PySem.Spec PyProof.Rows L2
theorem GoalsV.snoc {H : Hp} {vs : List V} {gs : List Gl2} {v : V} {g : Gl2} (h : GoalsV H vs gs) (hv : GoalV H v g) (hz : WordOk g.2) : GoalsV H (vs ++ [v]) (gs ++ [g]) := by
  obtain ⟨h, z⟩ := h
  refine ⟨Paired.snoc h hv, fun g' m => ?_⟩
  rcases List.mem_append.mp m with m | m
  · exact z g' m
  · rw [List.mem_singleton] at m
    rw [m]; exact hz
section
variable {P : Program} {w : World} {K : PySem.W.Frag} {mg : Str → Option Value} {base : Heap} {C M N : Addr}
abbrev nStray : List Str := ["head", "goals", "at", "known", "elsewhere", "k", "goal", "name"]
theorem sc_stray : FnScope nStray ["head", "goals", "at", "known"] (defScope s_stray_own) := ⟨rfl, rfl, rfl, by decide +kernel, rfl, by decide +kernel, by decide +kernel⟩
def spStray : Sp := fun vs H Q _ => ∃ (h : Str) (gt : Addr) (at_ : Nat) (y : V) (gvs : List V) (gs : List Gl2), vs = [.str h, .ref gt, .int at_, y] ∧ H gt = some (.tup gvs) ∧ GoalsV H gvs gs ∧ gvs.length < 1000 ∧ at_ < gvs.length ∧ WordOk h ∧ ∀ H', Same H H' → Q (.bl false) H'
theorem stray_own_ok (T : Tx K mg w C M N) : Cal P w K mg base 6 "stray_own" ["head", "goals", "at", "known"] spStray := by
  have cl := learn_allL_ok (P := P) (base := base) T
  have cu := unknowns_of_ok (P := P) (base := base) T
  refine T.d_stray_own.cal sc_stray (fun vs H Q E h => ?_) (fun f cdv A outer s H vs Q E hr h => ?_)
  · obtain ⟨hd, gt, at_, y, gvs, gs, rfl, _⟩ := h
    rfl
  · obtain ⟨hd, gt, at_, y, gvs, gs, rfl, hgt, hg, hsz, hat, hw, q⟩ := h
    refine ⟨_, pss_cons (ps_set (i := 4) sc_stray.nd rfl (.inr rfl) pe_dnewK)
      (pss_cons (ps_expr (pe_cal cl hr (by decide) (by rfl) (pa_cons (pe_lst (pa_cons (pv 0) pa_nil)) (pa_cons (pv 4) pa_nil))))
      (pss_cons (ps_expr (pe_cal cl hr (by decide) (by rfl) (pa_cons
        (pe_lc (own := [("k", 5), ("goal", 6)]) (g := gTup K 2 (gCons (gName 5) (gCons (gName 6) gNil))) rfl sc_stray.nd (pi_enumT (by rfl) T.n_enumerate (pa_cons (pv 1) pa_nil)) (blkOk_by (N := nStray) (sc := defScope s_stray_own) (by decide +kernel))
          (fun _ _ _ _ _ => pg_tup rfl (pgs_cons (pg_name (i := 5) sc_stray.nd rfl (.inl rfl) (.inr rfl)) (pgs_cons (pg_name (i := 6) sc_stray.nd rfl (.inl rfl) (.inr rfl)) pgs_nil)))
          (fun _ _ _ _ _ => pts_one (pt_cmpR op_ne (pv 5) (pv 2) (nomark _))) (fun _ _ _ _ _ => pv 6)) (pa_cons (pv 4) pa_nil))))
      (pss_one (ps_ret (pe_callB (cr_any rfl) (by rfl) T.n_any (by decide +kernel) (pa_cons
        (pe_lc (own := [("name", 7)]) rfl sc_stray.nd (pi_list (pe_cal cu hr (by decide) (by rfl) (pa_cons (pe_ix ix_tup (pv 1) (pv 2) (fun _ _ => rfl)) pa_nil))) (blkOk_by (N := nStray) (sc := defScope s_stray_own) (by decide +kernel))
          (fun _ _ _ _ _ => pg_never) (fun _ _ _ _ _ => pts_never) (fun _ _ _ _ _ => pe_never)) pa_nil)))))), ?_⟩
    intro e ne
    have s1 := same_upd (o := .dK []) ne
    refine ⟨_, rfl, by show 1 ≤ sizeLine; decide, fun p np => ⟨_, rfl, p, _, [V.str hd], [(false, hd)], rfl, upd_same, .one (.inl ⟨rfl, rfl⟩) hw, fun H2 s2 => ?_⟩⟩
    have s3 := (s1.trans (same_upd (o := .lst [V.str hd]) np)).trans s2
    clear s1 s2
    refine ⟨_, rfl, gt, gvs, rfl, SqT.of (s3 _ _ hgt), fun D nD => ?_⟩
    refine lc_it (n := gvs.length) (fun i H' => ∃ acc gs', Same H2 H' ∧ H' D = some (.lst acc) ∧ GoalsV H acc gs' ∧ acc.length ≤ i)
      ⟨[], [], same_upd nD, upd_same, ⟨.nil, fun _ m => nomatch m⟩, Nat.zero_le _⟩
      (fun i H' hi h => go_et (SqT.of ((s3.trans h.choose_spec.choose_spec.1) _ _ hgt)) hi) (fun H' h => stop_et (SqT.of ((s3.trans h.choose_spec.choose_spec.1) _ _ hgt)))
      (fun i H' hi h x H3 hy => ?_) (fun H' h => ?_)
    · obtain ⟨acc, gs', s4, hD, hacc, hl⟩ := h
      obtain ⟨t, u, rfl, nt, rfl, hu⟩ := yld_et (SqT.of ((s3.trans s4) _ _ hgt)) hy
      obtain ⟨g, _, gv, gw⟩ := hg.get hu
      refine ⟨t, _, rfl, SqT.of upd_same, rfl, _, _, rfl, _, _, rfl, rfl, rfl, _, rfl, _, rfl, rfl, _, rfl, ?_⟩
      have hD' : upd H' t (.tup [V.int i, u]) D = some (.lst acc) := upd_at hD (ne_of_none hD nt)
      refine ite2 (fun _ => ?_) fun _ => ?_
      · refine ⟨_, rfl, acc, hD', by rw [sizeLine_eq]; omega, acc ++ [u], gs' ++ [g], same_new (same_new s4 (s4.free nt)) nD, upd_same, hacc.snoc gv gw, by rw [List.length_append]; simp; omega⟩
      · exact ⟨acc, gs', same_new s4 (s4.free nt), hD', hacc, by omega⟩
    · obtain ⟨acc, gs', s4, hD, hacc, hl⟩ := h
      refine ⟨_, rfl, D, _, acc, gs', rfl, hD, hacc.same (s3.trans s4), fun H4 s5 => ?_⟩
      have s6 := (s3.trans s4).trans s5
      have hu : gvs[at_]? = some gvs[at_] := List.getElem?_eq_getElem hat
      obtain ⟨g, _, gv, gw⟩ := hg.get hu
      refine ⟨_, rfl, _, rfl, gt, gvs, at_, _, rfl, rfl, .inl (.inl (s6 _ _ hgt)), atI_nat hu, ?_⟩
      refine ⟨_, g, rfl, gv.same s6, gw, fun H5 p5 s7 np5 hp5 => ⟨p5, rfl, ⟨_, SqL.of hp5⟩, fun D2 nD2 => ?_⟩⟩
      refine lc_it (n := 0) (fun i H' => Same (upd H5 D2 (.lst [])) H') (Same.refl _) (fun i _ hi => absurd hi (Nat.not_lt_zero _)) (fun H' h => stop_l (xs := []) (SqL.of (h _ _ (upd_at hp5 (ne_of_none hp5 nD2)))))
        (fun i _ hi => absurd hi (Nat.not_lt_zero _)) (fun H' h => ?_)
      exact ⟨D2, [], rfl, SqL.of (h _ _ upd_same), q _ ((s6.trans s7).trans ((same_upd nD2).trans h))⟩

abbrev nHeld : List Str := ["house", "head", "goals", "mode", "known", "words", "at", "goal", "word"]
theorem sc_held : FnScope nHeld ["house", "head", "goals", "mode"] (defScope s_held_in) := ⟨rfl, rfl, rfl, by decide +kernel, rfl, by decide +kernel, by decide +kernel⟩
def spHeld (C : Addr) : Sp := fun vs H Q _ => ∃ (v : V) (h : Str) (gt : Addr) (gvs : List V) (gs : List Gl2) (ws : List Str), vs = [v, .str h, .ref gt, .str ""] ∧ House C ws H v ∧ H gt = some (.tup gvs) ∧ GoalsV H gvs gs ∧ gvs.length < 1000 ∧ WordOk h ∧ (∀ g ∈ gs, g.2 ∈ ws) ∧
  ∀ H' p l xs, Same H H' → H p = none → H' p = some (.tup [.ref l, .int 0]) → H l = none → H' l = some (.lst xs) → Q (.ref p) H'
theorem held_in_ok (T : Tx K mg w C M N) : Cal P w K mg base 7 "held_in" ["house", "head", "goals", "mode"] (spHeld C) := by
  have cl := learn_allL_ok (P := P) (base := base) T
  have clt := learn_allT_ok (P := P) (base := base) T
  have ck := known_places_ok (P := P) (base := base) T
  have cto := told_places_ok (P := P) (base := base) T
  have cw := word_at_ok (P := P) (base := base) T
  have ckd := kind_of_ok (P := P) (base := base) T
  have cs := stray_own_ok (P := P) (base := base) T
  have ca := all_knownT_ok (P := P) (base := base) T
  refine T.d_held_in.cal sc_held (fun vs H Q E h => ?_) (fun f cdv A outer s H vs Q E hr h => ?_)
  · obtain ⟨v, h, gt, gvs, gs, ws, rfl, _⟩ := h
    rfl
  · obtain ⟨v, hd, gt, gvs, gs, ws, rfl, hh, hgt, hg, hsz, hw, hin, q⟩ := h
    refine ⟨_, pss_cons (ps_set (i := 4) sc_held.nd rfl (.inl rfl) pe_dnewK)
      (pss_cons (ps_expr (pe_cal clt hr (by decide) (by rfl) (pa_cons (pe_cal ck hr (by decide) (by rfl) (pa_cons (pv 1) (pa_cons (pv 3) pa_nil))) (pa_cons (pv 4) pa_nil))))
      (pss_cons (ps_set (i := 5) sc_held.nd rfl (.inl rfl) (pe_lst pa_nil))
      (pss_cons (ps_for PassesOwn.never rfl (pi_enumT (by rfl) T.n_enumerate (pa_cons (pv 2) pa_nil))
          (pg_tup rfl (pgs_cons (pg_name (i := 6) sc_held.nd rfl (.inl rfl)) (pgs_cons (pg_name (i := 7) sc_held.nd rfl (.inl rfl)) pgs_nil)))
        (pss_cons (ps_set (i := 8) sc_held.nd rfl (.inl rfl) (pe_cal cw hr (by decide) (by rfl) (pa_cons (pv 0) (pa_cons (pv 7) (pa_cons (pv 4) pa_nil)))))
        (pss_cons (ps_if (pt_cmp (pc_isN (pv 8))) (pss_one ps_never) pss_nil)
        (pss_cons (ps_expr (pe_bm PySem.F.plainAttrs_list PySem.F.slot_list_append PySem.F.type_list_append mt_append (pv 5) (pa_cons (pv 8) pa_nil)))
        (pss_one (ps_if (pt_cmpR op_ne (pe_cal ckd hr (by decide) (by rfl) (pa_cons (pv 7) pa_nil)) pe_str (nomark _))
          (pss_one (ps_expr (pe_cal cl hr (by decide) (by rfl) (pa_cons (pe_lst (pa_cons (pv 7) pa_nil)) (pa_cons (pv 4) pa_nil)))))
          (pss_one (ps_if (pt_val (pe_cal cs hr (by decide) (by rfl) (pa_cons (pv 1) (pa_cons (pv 2) (pa_cons (pv 6) (pa_cons (pv 4) pa_nil)))))) (pss_one ps_never) pss_nil))))))))
      (pss_cons (ps_if (pt_val (pe_cal ca hr (by decide) (by rfl) (pa_cons (pe_cal cto hr (by decide) (by rfl) (pa_cons (pv 1) (pa_cons (pv 3) pa_nil))) (pa_cons (pv 4) pa_nil))))
        (pss_one (ps_ret (pe_tup (pa_cons (pv 5) (pa_cons pe_int pa_nil))))) pss_nil) (pss_one ps_never))))), ?_⟩
    intro e ne
    have s1 := same_upd (o := .dK []) ne
    refine ⟨_, rfl, _, rfl, hd, "", rfl, rfl, fun H2 p2 s2 np2 hp2 => ⟨_, rfl, p2, _, rfl, hp2, Nat.zero_le _, fun wl nwl => ?_⟩⟩
    have s3 := (s1.trans s2)
    have nwl0 : H wl = none := s3.free nwl
    refine ⟨_, rfl, gt, gvs, rfl, SqT.of ((s3.trans (same_upd nwl)) _ _ hgt), ?_⟩
    refine for_it (n := gvs.length) (fun i σ H' => ∃ z6 z7 z8 xs, σ = [some v, some (.str hd), some (.ref gt), some (.str ""), some (.ref e), some (.ref wl), z6, z7, z8] ∧ Same H H' ∧ H' wl = some (.lst xs) ∧ xs.length ≤ i)
      ⟨none, none, none, [], rfl, s3.trans (same_upd nwl), upd_same, Nat.zero_le _⟩
      (fun i σ H' hi h => ?_) (fun σ H' h => ?_) (fun i σ H' hi h x H3 hy => ?_) (fun σ H' h => ?_)
    · obtain ⟨_, _, _, _, _, s4, _⟩ := h
      exact go_et (SqT.of (s4 _ _ hgt)) hi
    · obtain ⟨_, _, _, _, _, s4, _⟩ := h
      exact stop_et (SqT.of (s4 _ _ hgt))
    · obtain ⟨z6, z7, z8, xs, rfl, s4, hwl, hl⟩ := h
      obtain ⟨t, u, rfl, nt, rfl, hu⟩ := yld_et (SqT.of (s4 _ _ hgt)) hy
      obtain ⟨g, hgi, gv, gw⟩ := hg.get hu
      have hgm : g.2 ∈ ws := hin g (List.mem_of_getElem? hgi)
      have s5 : Same H (upd H' t (.tup [V.int i, u])) := same_new s4 (s4.free nt)
      have hwl5 : upd H' t (.tup [V.int i, u]) wl = some (.lst xs) := upd_at hwl (ne_of_none hwl nt)
      refine ⟨t, _, rfl, SqT.of upd_same, rfl, _, _, rfl, _, _, rfl, rfl, ?_⟩
      refine ⟨_, rfl, _, rfl, _, rfl, v, u, g, _, ws, rfl, hh.same s5, gv.same s5, hgm, gw, fun H6 s6 => ?_⟩
      refine ⟨_, rfl, _, rfl, iteF ?_⟩
      have s7 := s5.trans s6
      have hwl6 := s6 _ _ hwl5
      refine ⟨_, rfl, .inl ⟨rfl, _, SqL.of hwl6⟩, _, rfl, wl, xs, _, rfl, rfl, hwl6, by rw [sizeLine_eq]; omega, ?_⟩
      have s8 : Same H (upd H6 wl (.lst (xs ++ [V.str ""]))) := same_new s7 nwl0
      have hlen : (xs ++ [V.str ""]).length ≤ i + 1 := by rw [List.length_append]; simp; omega
      refine ⟨_, rfl, u, g, rfl, gv.same s8, rfl, _, rfl, ite2 (fun _ => ?_) fun _ => ?_⟩
      · refine ⟨_, rfl, by show 1 ≤ sizeLine; decide, fun p np => ⟨_, rfl, p, _, [u], [g], rfl, upd_same, .one (gv.same (s8.trans (same_upd np))) gw, fun H9 s9 => ?_⟩⟩
        exact ⟨_, _, _, _, rfl, (s8.trans (same_upd np)).trans s9, ((same_upd np).trans s9) _ _ upd_same, hlen⟩
      · refine ⟨_, rfl, _, rfl, _, rfl, _, rfl, hd, gt, i, _, gvs, gs, rfl, s8 _ _ hgt, hg.same s8, hsz, hi, hw, fun H9 s9 => ⟨false, rfl, iteF ?_⟩⟩
        exact ⟨_, _, _, _, rfl, s8.trans s9, s9 _ _ upd_same, hlen⟩
    · obtain ⟨z6, z7, z8, xs, rfl, s4, hwl, hl⟩ := h
      refine ⟨_, rfl, _, rfl, hd, "", rfl, rfl, fun H5 p5 s5 np5 hp5 => ⟨_, rfl, p5, _, rfl, hp5, fun H6 s6 => ⟨true, rfl, iteT ?_⟩⟩⟩
      have s7 := s5.trans s6
      refine ⟨_, rfl, by show 2 ≤ sizeLine; decide, fun p np => ?_⟩
      exact q _ p wl xs ((s4.trans s7).trans (same_upd np)) ((s4.trans s7).free np) upd_same nwl0 (upd_at (s7 _ _ hwl) (ne_of_none (s7 _ _ hwl) np))
end
end G3

/-! Walks: the looks at modes and at plans. -/
namespace G3
open PySem PySem.Spec PyProof.Rows L2
/-- as before, but that a dict may stand locked -/
structure SameL (H H' : Hp) : Prop where
  obj : ∀ b o, H b = some o → (∀ k, o ≠ .dK k) → H' b = some o
  dict : ∀ b k, Rd H b (.dK k) → Rd H' b (.dK k)
theorem SameL.lock {H : Hp} {d : Addr} {kvs : List (Key × V)} {od : Obj} (h : H d = some (.dK kvs)) : SameL H (upd H d (.frz od (.dK kvs))) := by
  refine ⟨fun b o e n => ?_, fun b k r => ?_⟩
  · refine upd_at e fun z => ?_
    rw [z, h] at e
    exact n kvs (Option.some.inj e).symm
  · by_cases z : b = d
    · subst z
      rcases r with r | ⟨o, r⟩
      · rw [h] at r
        cases r
        exact .inr ⟨od, upd_same⟩
      · rw [h] at r
        cases r
    · rcases r with r | ⟨o, r⟩
      · exact .inl (upd_at r z)
      · exact .inr ⟨o, upd_at r z⟩
theorem SameL.of {H H' : Hp} (s : Same H H') : SameL H H' := ⟨fun b o e _ => s b o e, fun b k r => rdSame s r⟩
theorem SameL.trans {H H1 H2 : Hp} (a : SameL H H1) (b : SameL H1 H2) : SameL H H2 := ⟨fun c o h n => b.obj c o (a.obj c o h n) n, fun c k h => b.dict c k (a.dict c k h)⟩
theorem Fd.sameL {C : Addr} {H H' : Hp} {v : V} {f : Str} {d : Addr} {kvs : List (Key × V)} (s : SameL H H') (h : Fd C H v f d kvs) : Fd C H' v f d kvs := by
  obtain ⟨⟨a, dx, fs, e, k, n, l⟩, r⟩ := h
  exact ⟨⟨a, dx, fs, e, s.obj _ _ k (fun _ z => nomatch z), n, l⟩, s.dict _ _ r⟩
theorem House.sameL {C : Addr} {ws : List Str} {H H' : Hp} {v : V} (s : SameL H H') (h : House C ws H v) : House C ws H' v := by
  obtain ⟨d, kvs, f, k⟩ := h
  exact ⟨d, kvs, f.sameL s, fun x m => let ⟨l, a, b⟩ := k x m; ⟨l, a, s.obj _ _ b (fun _ z => nomatch z)⟩⟩
theorem GoalV.sameL {H H' : Hp} {v : V} {g : Gl2} (s : SameL H H') (h : GoalV H v g) : GoalV H' v g := by
  rcases h with h | ⟨a, t, b, c⟩
  · exact .inl h
  · exact .inr ⟨a, t, b, s.obj _ _ c (fun _ z => nomatch z)⟩
theorem GoalsV.sameL {H H' : Hp} {vs : List V} {gs : List Gl2} (s : SameL H H') (h : GoalsV H vs gs) : GoalsV H' vs gs := by
  obtain ⟨h, z⟩ := h
  refine ⟨?_, z⟩
  clear z
  induction h with
  | nil => exact .nil
  | cons a _ ih => exact .cons (a.sameL s) ih
/-- a clause: its line, head, goals -/
structure Cl where
  line : Nat
  head : Str
  goals : List Gl2
structure BodAt (H : Hp) (kv : Key × V) (c : Cl) (t gt : Addr) (gvs : List V) : Prop where
  key : kv.1 = .inl (c.line : Int)
  val : kv.2 = .ref t
  tup : H t = some (.tup [.str c.head, .ref gt])
  gtup : H gt = some (.tup gvs)
  goals : GoalsV H gvs c.goals
  few : gvs.length < 1000
  word : WordOk c.head
def BodV (H : Hp) (kv : Key × V) (c : Cl) : Prop := ∃ t gt gvs, BodAt H kv c t gt gvs
theorem BodAt.sameL {H H' : Hp} {kv : Key × V} {c : Cl} {t gt : Addr} {gvs : List V} (s : SameL H H') (h : BodAt H kv c t gt gvs) : BodAt H' kv c t gt gvs :=
  ⟨h.key, h.val, s.obj _ _ h.tup (fun _ z => nomatch z), s.obj _ _ h.gtup (fun _ z => nomatch z), h.goals.sameL s, h.few, h.word⟩
theorem BodV.sameL {H H' : Hp} {kv : Key × V} {c : Cl} (s : SameL H H') (h : BodV H kv c) : BodV H' kv c := by
  obtain ⟨t, gt, gvs, h⟩ := h
  exact ⟨t, gt, gvs, h.sameL s⟩
def Bods (H : Hp) (kvs : List (Key × V)) (cs : List Cl) : Prop := Paired (BodV H) kvs cs
theorem Bods.sameL {H H' : Hp} {kvs : List (Key × V)} {cs : List Cl} (s : SameL H H') (h : Bods H kvs cs) : Bods H' kvs cs := by
  unfold Bods at *
  induction h with
  | nil => exact .nil
  | cons a _ ih => exact .cons (a.sameL s) ih
/-- every word of the clauses stands in ws -/
def InWs (ws : List Str) (cs : List Cl) : Prop := ∀ c ∈ cs, c.head ∈ ws ∧ ∀ g ∈ c.goals, g.2 ∈ ws
/-- the program at v: its clauses, its modes -/
structure Prog (C : Addr) (ws : List Str) (cs : List Cl) (H : Hp) (v : V) (pb : Addr) (kvs : List (Key × V)) : Prop where
  fd : Fd C H v "bodies" pb kvs
  bods : Bods H kvs cs
  house : House C ws H v
  inws : InWs ws cs
  few : kvs.length ≤ 1000
theorem Prog.sameL {C : Addr} {ws : List Str} {cs : List Cl} {H H' : Hp} {v : V} {pb : Addr} {kvs : List (Key × V)} (s : SameL H H') (h : Prog C ws cs H v pb kvs) : Prog C ws cs H' v pb kvs := ⟨h.fd.sameL s, h.bods.sameL s, h.house.sameL s, h.inws, h.few⟩
theorem Prog.get {C : Addr} {ws : List Str} {cs : List Cl} {H : Hp} {v : V} {pb : Addr} {kvs : List (Key × V)} (h : Prog C ws cs H v pb kvs) {i : Nat} {k : Key} {x : V} (e : kvs[i]? = some (k, x)) :
    ∃ c t gt gvs, cs[i]? = some c ∧ BodAt H (k, x) c t gt gvs ∧ c.head ∈ ws ∧ ∀ g ∈ c.goals, g.2 ∈ ws := by
  obtain ⟨c, a, t, gt, gvs, b⟩ := paired_get h.bods e
  have m := h.inws c (List.mem_of_getElem? a)
  exact ⟨c, t, gt, gvs, a, b, m.1, m.2⟩
theorem shaped_mode : SeqAt.shaped (.list [.str ""]) = true := by
  have e : PyData.strOk ("" : Str) = true := by decide +kernel
  simp [SeqAt.shaped, PyData.canLay0, PyData.canLayAll0, PyData.depth, PyData.depthAll, e]
theorem shaped_nil : SeqAt.shaped (.list []) = true := by simp [SeqAt.shaped, PyData.canLay0, PyData.canLayAll0, PyData.depth, PyData.depthAll]
theorem eqv_mode : PyData.eqv (.list [.str ""]) (.list []) = false := by simp [PyData.eqv, PyData.eqvAll]
section
variable {P : Program} {w : World} {K : PySem.W.Frag} {mg : Str → Option Value} {base : Heap} {C M N : Addr}
/-- [asked_of(goal) for goal in goals] -/
theorem asked_comp {K : PySem.W.Frag} {σ : L2.St} {H : Hp} {i : Nat} {gt : Addr} {gvs : List V} {gs : List Gl2} {Q : VK} {wi : TI} (hgt : H gt = some (.tup gvs)) (hg : GoalsV H gvs gs) (hz : gvs.length < 1000) (hi : i < σ.length)
    (hw : ∀ R, R (Itt K gt) H → wi σ H R) (q : ∀ H' D, Same H H' → H D = none → H' D = some (.lst (gs.map fun g => V.str g.2)) → Q (.ref D) H') :
    tLc wi (gName i) tYes (tCall spAsked [] E0 (tCons (tVar i) tNil)) [i] σ H Q := by
  have hlen : gvs.length = gs.length := Paired.length hg.1
  refine hw _ fun D nD => ?_
  refine lc_it (n := gvs.length) (fun j H' => Same H H' ∧ H' D = some (.lst ((gs.take j).map fun g => V.str g.2))) ⟨same_upd nD, upd_same⟩
    (fun j H' hj h => go_t (SqT.of (h.1 _ _ hgt)) hj) (fun H' h => stop_t (SqT.of (h.1 _ _ hgt))) (fun j H' hj h x H3 hy => ?_) (fun H' h => ?_)
  · obtain ⟨rfl, hx⟩ := yld_t (SqT.of (h.1 _ _ hgt)) hy
    obtain ⟨g, hgj, gv, gw⟩ := hg.get hx
    have hw2 : wipe ((wipe σ [i]).set i (some x)) [i] = wipe σ [i] := by
      show ((σ.set i none).set i (some x)).set i none = σ.set i none
      rw [List.set_set, List.set_set]
    refine ⟨hw2, ?_⟩
    unfold tYes
    refine iteT ?_
    refine ⟨x, ?_, x, g, rfl, gv.same h.1, _, h.2, ?_, ?_⟩
    · exact List.getElem?_set_self (by rw [wipe_length]; exact hi)
    · rw [List.length_map, List.length_take, sizeLine_eq]; omega
    · refine ⟨same_new h.1 nD, ?_⟩
      rw [upd_same, List.take_add_one, hgj]
      simp
  · rw [hlen, List.take_length] at h
    exact q _ D h.1 nD h.2

abbrev nLookM : List Str := ["program", "line", "head", "goals", "number", "pattern", "goal"]
theorem sc_lookm : FnScope nLookM ["program"] (defScope s_look_modes) := ⟨rfl, rfl, rfl, by decide +kernel, rfl, by decide +kernel, by decide +kernel⟩
def spLookM (C : Addr) : Sp := fun vs H Q _ => ∃ v ws cs pb kvs, vs = [v] ∧ Prog C ws cs H v pb kvs ∧ H pb = some (.dK kvs) ∧ ∀ H', Same H H' → Q .non H'
theorem look_modes_ok (T : Tx K mg w C M N) : Cal P w K mg base 3 "look_modes" ["program"] (spLookM C) := by
  have ca := asked_of_ok (P := P) (base := base) T
  have ct := title_of_ok (P := P) (base := base) T
  have cm := modes_ok (P := P) (base := base) T
  refine T.d_look_modes.cal sc_lookm (fun vs H Q E h => ?_) (fun f cdv A outer s H vs Q E hr h => ?_)
  · obtain ⟨v, ws, cs, pb, kvs, rfl, _⟩ := h
    rfl
  · obtain ⟨v, ws, cs, pb, kvs, rfl, hp, hpb, q⟩ := h
    refine ⟨_, pss_one (ps_lock (ps_for PassesOwn.never rfl (pi_items (pe_fld (pv 0) rfl))
      (pg_tup rfl (pgs_cons (pg_name (i := 1) sc_lookm.nd rfl (.inl rfl)) (pgs_cons (pg_tup rfl (pgs_cons (pg_name (i := 2) sc_lookm.nd rfl (.inl rfl)) (pgs_cons (pg_name (i := 3) sc_lookm.nd rfl (.inl rfl)) pgs_nil))) pgs_nil)))
      (pss_one (ps_for PassesOwn.never rfl (pi_enum (by rfl) T.n_enumerate (pa_cons (pe_op op_cat (pe_lst (pa_cons (pv 2) pa_nil))
          (pe_lc (own := [("goal", 6)]) (g := gName 6) rfl sc_lookm.nd (pi_tup (pv 3)) (blkOk_by (N := nLookM) (sc := defScope s_look_modes) (by decide +kernel))
            (fun _ _ _ _ _ => pg_name (i := 6) sc_lookm.nd rfl (.inl rfl) (.inr rfl)) (fun _ _ _ _ _ => pts_nil) (fun _ _ _ _ _ => pe_cal ca hr (by decide) (by rfl) (pa_cons (pv 6) pa_nil)))) pa_nil))
        (pg_tup rfl (pgs_cons (pg_name (i := 4) sc_lookm.nd rfl (.inl rfl)) (pgs_cons (pg_name (i := 5) sc_lookm.nd rfl (.inl rfl)) pgs_nil)))
        (pss_one (ps_if (pw_and (pt_cmp (pc_notN (pv 5))) (pw_and1 (pt_cmpR (op_eqD hr.units) (pe_met (pv 0) T.cls cm hr (by decide) (pa_cons (pe_cal ct hr (by decide) (by rfl) (pa_cons (pv 5) pa_nil)) pa_nil)) (pe_lst pa_nil) (nomark _)))).pt (pss_one ps_never) pss_nil)))))), ?_⟩
    refine ⟨pb, _, hpb, trivial, fun od => ?_⟩
    have sl := SameL.lock (od := od) hpb
    have hpL := hp.sameL sl
    obtain ⟨a, dx, fs, rfl, ha, hn, hf⟩ := hpL.fd.ins
    refine ⟨_, rfl, a, C, dx, fs, _, rfl, ha, T.cls, T.a_bodies, hf, pb, od, kvs, rfl, upd_same, ?_⟩
    refine for_it (n := kvs.length) (fun i σ H' => ∃ z1 z2 z3 z4 z5, σ = [some (V.ref a), z1, z2, z3, z4, z5, none] ∧ Same (upd H pb (.frz od (.dK kvs))) H')
      ⟨none, none, none, none, none, rfl, Same.refl _⟩ (fun i σ H' hi h => ⟨h.choose_spec.choose_spec.choose_spec.choose_spec.choose_spec.2 _ _ upd_same, hi⟩) (fun σ H' h => ⟨h.choose_spec.choose_spec.choose_spec.choose_spec.choose_spec.2 _ _ upd_same, Nat.le_refl _⟩)
      (fun i σ H' hi h x H3 hy => ?_) (fun σ H' h => ?_)
    · obtain ⟨z1, z2, z3, z4, z5, rfl, s4⟩ := h
      obtain ⟨t, k, u, hk, rfl, nt, rfl⟩ := hy
      have s5 := same_new (o := .tup [kV k, u]) s4 (s4.free nt)
      have hp5 := hpL.sameL (.of s5)
      obtain ⟨c, t2, gt, gvs, hci, hb, hm, hms⟩ := hp5.get hk
      obtain ⟨hkey, hval, htup, hgt, hg, hfew, hw⟩ := hb
      obtain rfl : u = .ref t2 := hval
      refine ⟨t, _, rfl, SqT.of upd_same, rfl, _, _, rfl, _, _, rfl, ⟨t2, _, rfl, SqT.of htup, rfl, _, _, rfl, _, _, rfl, rfl, rfl, ?_⟩⟩
      refine ⟨_, rfl, by show 1 ≤ sizeLine; decide, fun p np => ?_⟩
      have s6 := same_upd (o := .lst [V.str c.head]) np
      refine asked_comp (K := K) (s6 _ _ hgt) (hg.same s6) hfew (Nat.lt_of_sub_pos (by exact Nat.zero_lt_one)) (fun R h => ⟨_, rfl, gt, rfl, ⟨_, SqT.of (s6 _ _ hgt)⟩, h⟩) fun H6 D s7 nD hD => ?_
      refine ⟨p, D, _, _, rfl, rfl, s7 _ _ upd_same, hD, ?_, fun r nr => ?_⟩
      · have : gvs.length = c.goals.length := Paired.length hg.1
        rw [sizeLine_eq]; simp; omega
      have s8 := (s6.trans s7).trans (same_upd (o := .lst ([V.str c.head] ++ c.goals.map fun g => V.str g.2)) nr)
      refine ⟨r, _, rfl, SqL.of upd_same, ?_⟩
      have hwords : ∀ (j : Nat) (y : V), ([V.str c.head] ++ c.goals.map fun g => V.str g.2)[j]? = some y → ∃ x : Str, y = V.str x ∧ x ∈ ws ∧ WordOk x := by
        intro j y hj
        have mem := List.mem_of_getElem? hj
        rcases List.mem_append.mp mem with m | m
        · rw [List.mem_singleton] at m
          exact ⟨_, m, hm, hw⟩
        · obtain ⟨g, gm, rfl⟩ := List.mem_map.mp m
          exact ⟨_, rfl, hms g gm, hg.2 g gm⟩
      generalize hps : ([V.str c.head] ++ c.goals.map fun g => V.str g.2) = ps at *
      have s9 := s5.trans s8
      have hr8 : upd H6 r (.lst ps) r = some (.lst ps) := upd_same
      generalize upd H6 r (.lst ps) = H8 at *
      refine for_it (n := ps.length) (fun j σ H' => ∃ z4 z5, σ = [some (V.ref a), some (kV k), some (.str c.head), some (.ref gt), z4, z5, none] ∧ Same H8 H')
        ⟨_, _, rfl, Same.refl _⟩ (fun j σ H' hj h => go_e (SqL.of (h.choose_spec.choose_spec.2 _ _ hr8)) hj) (fun σ H' h => stop_e (SqL.of (h.choose_spec.choose_spec.2 _ _ hr8)))
        (fun j σ H' hj h x H3 hy => ?_) (fun σ H' h => ?_)
      · obtain ⟨z4, z5, rfl, s10⟩ := h
        obtain ⟨t3, y, rfl, nt3, rfl, hyj⟩ := yld_e (SqL.of (s10 _ _ hr8)) hy
        obtain ⟨x, rfl, hxm, hxw⟩ := hwords j y hyj
        have s11 := same_new (o := .tup [.int (j : Nat), .str x]) s10 (s10.free nt3)
        obtain ⟨dm, kvm, hfm, hkm⟩ := (hpL.sameL (.of (s9.trans s11))).house
        obtain ⟨l, hvl, hl⟩ := hkm x hxm
        refine ⟨t3, _, rfl, SqT.of upd_same, rfl, _, _, rfl, _, _, rfl, rfl, ?_⟩
        refine ⟨_, rfl, _, rfl, iteT ?_⟩
        refine ⟨_, rfl, a, dx, fs, rfl, (s9.trans s11) _ _ ha, hn.modes, _, rfl, x, rfl, hxw.2, _, _, dm, kvm, l, _, rfl, hfm, hvl, hl, fun H9 p9 s12 np9 hp9 => ?_⟩
        refine ⟨Nat.zero_le _, fun p10 np10 => ?_⟩
        refine ⟨_, _, .lst (SqL.of (same_upd np10 _ _ hp9)) (.cons (.str "") .nil), .lst (SqL.of upd_same) .nil, shaped_mode, shaped_nil, _, rfl, ?_⟩
        rw [eqv_mode]
        refine iteF ?_
        exact ⟨_, _, rfl, (s11.trans s12).trans (same_upd np10)⟩
      · obtain ⟨z4, z5, rfl, s10⟩ := h
        exact ⟨_, _, _, _, _, rfl, s9.trans s10⟩
    · obtain ⟨z1, z2, z3, z4, z5, rfl, s4⟩ := h
      exact ⟨s4 _ _ upd_same, q _ (Same.unlock hpb s4)⟩
end
end G3

/-! Walks: the look at plans, the links. -/
namespace G3
open PySem PySem.Spec PyProof.Rows L2
section
variable {P : Program} {w : World} {K : PySem.W.Frag} {mg : Str → Option Value} {base : Heap} {C M N : Addr}
abbrev nLookK : List Str := ["program", "plans", "line", "head", "goals", "mode", "words", "ill"]
theorem sc_lookk : FnScope nLookK ["program"] (defScope s_look_known) := ⟨rfl, rfl, rfl, by decide +kernel, rfl, by decide +kernel, by decide +kernel⟩
def spLookK (C : Addr) : Sp := fun vs H Q _ => ∃ v ws cs pb kvs, vs = [v] ∧ Prog C ws cs H v pb kvs ∧ H pb = some (.dK kvs) ∧ ∀ H' p, Same H H' → Q (.ref p) H'
theorem look_known_ok (T : Tx K mg w C M N) : Cal P w K mg base 8 "look_known" ["program"] (spLookK C) := by
  have ct := title_of_ok (P := P) (base := base) T
  have cm := modes_ok (P := P) (base := base) T
  have ch := held_in_ok (P := P) (base := base) T
  refine T.d_look_known.cal sc_lookk (fun vs H Q E h => ?_) (fun f cdv A outer s H vs Q E hr h => ?_)
  · obtain ⟨v, ws, cs, pb, kvs, rfl, _⟩ := h
    rfl
  · obtain ⟨v, ws, cs, pb, kvs, rfl, hp, hpb, q⟩ := h
    refine ⟨_, pss_cons (ps_set (i := 1) sc_lookk.nd rfl (.inl rfl) pe_dnewT)
      (pss_cons (ps_lock (ps_for PassesOwn.never rfl (pi_items (pe_fld (pv 0) rfl))
        (pg_tup rfl (pgs_cons (pg_name (i := 2) sc_lookk.nd rfl (.inl rfl)) (pgs_cons (pg_tup rfl (pgs_cons (pg_name (i := 3) sc_lookk.nd rfl (.inl rfl)) (pgs_cons (pg_name (i := 4) sc_lookk.nd rfl (.inl rfl)) pgs_nil))) pgs_nil)))
        (pss_one (ps_for PassesOwn.never rfl (pi_list (pe_met (pv 0) T.cls cm hr (by decide) (pa_cons (pe_cal ct hr (by decide) (by rfl) (pa_cons (pv 3) pa_nil)) pa_nil)))
          (pg_name (i := 5) sc_lookk.nd rfl (.inl rfl))
          (pss_cons (ps_asg (pe_cal ch hr (by decide) (by rfl) (pa_cons (pv 0) (pa_cons (pv 3) (pa_cons (pv 4) (pa_cons (pv 5) pa_nil)))))
              (pg_tup rfl (pgs_cons (pg_name (i := 6) sc_lookk.nd rfl (.inl rfl)) (pgs_cons (pg_name (i := 7) sc_lookk.nd rfl (.inl rfl)) pgs_nil))))
          (pss_cons (ps_if (pt_cmp (pc_gt (pv 7) pe_int)) (pss_one ps_never) pss_nil)
          (pss_one (ps_dput (u1 hr) (pv 1) (pe_tup (pa_cons (pv 2) (pa_cons (pv 5) pa_nil))) (pv 6) rfl))))))))
      (pss_one (ps_ret (pv 1)))), ?_⟩
    intro pl npl
    have s0 := same_upd (o := .dT []) npl
    have hne : pl ≠ pb := fun z => by rw [z, hpb] at npl; cases npl
    refine ⟨pb, _, s0 _ _ hpb, trivial, fun od => ?_⟩
    have sl := SameL.lock (od := od) hpb
    have hpL := hp.sameL sl
    have nplL : upd H pb (.frz od (.dK kvs)) pl = none := by rw [upd_ne hne]; exact npl
    have hpbL : upd H pb (.frz od (.dK kvs)) pb = some (.frz od (.dK kvs)) := upd_same
    have sI : Same (upd H pb (.frz od (.dK kvs))) (upd (upd H pl (.dT [])) pb (.frz od (.dK kvs))) := fun b o e => by
      by_cases hb : b = pb
      · rw [hb] at e ⊢
        rw [upd_same] at e ⊢
        exact e
      · rw [upd_ne hb] at e ⊢
        exact s0 _ _ e
    have hplI : upd (upd H pl (.dT [])) pb (.frz od (.dK kvs)) pl = some (.dT []) := by rw [upd_ne hne]; exact upd_same
    have hfin : ∀ H', Same (upd H pb (.frz od (.dK kvs))) H' → Same H (upd H' pb (.dK kvs)) := fun H' s => Same.unlock hpb s
    generalize upd H pb (.frz od (.dK kvs)) = HL at *
    generalize upd (upd H pl (.dT [])) pb (.frz od (.dK kvs)) = HI at *
    obtain ⟨a, dx, fs, rfl, ha, hn, hf⟩ := hpL.fd.ins
    refine ⟨_, rfl, a, C, dx, fs, _, rfl, sI _ _ ha, T.cls, T.a_bodies, hf, pb, od, kvs, rfl, sI _ _ hpbL, ?_⟩
    refine for_it (n := kvs.length) (fun i σ H' => ∃ z2 z3 z4 z5 z6 z7, σ = [some (V.ref a), some (.ref pl), z2, z3, z4, z5, z6, z7] ∧ Same HL H' ∧ ∃ ks, H' pl = some (.dT ks) ∧ ks.length ≤ i)
      ⟨none, none, none, none, none, none, rfl, sI, _, hplI, Nat.le_refl _⟩ (fun i σ H' hi h => ?_) (fun σ H' h => ?_)
      (fun i σ H' hi h x H3 hy => ?_) (fun σ H' h => ?_)
    · obtain ⟨_, _, _, _, _, _, _, s4, _⟩ := h
      exact ⟨s4 _ _ hpbL, hi⟩
    · obtain ⟨_, _, _, _, _, _, _, s4, _⟩ := h
      exact ⟨s4 _ _ hpbL, Nat.le_refl _⟩
    · obtain ⟨z2, z3, z4, z5, z6, z7, rfl, s4, ks, hks, hkl⟩ := h
      obtain ⟨t, k, u, hk, rfl, nt, rfl⟩ := hy
      have s5 := same_new (o := .tup [kV k, u]) s4 (s4.free nt)
      have hp5 := hpL.sameL (.of s5)
      obtain ⟨c, t2, gt, gvs, hci, hb, hm, hms⟩ := hpL.get hk
      obtain ⟨hkey, hval, htup, hgt, hg, hfew, hw⟩ := hb
      obtain rfl : u = .ref t2 := hval
      obtain rfl : k = .inl (c.line : Int) := hkey
      obtain ⟨dm, kvm, hfm, hkm⟩ := hp5.house
      obtain ⟨l, hvl, hl⟩ := hkm _ hm
      have hks5 : upd H' t (.tup [kV (.inl (c.line : Int)), .ref t2]) pl = some (.dT ks) := upd_at hks (ne_of_none hks nt)
      refine ⟨t, _, rfl, SqT.of upd_same, rfl, _, _, rfl, _, _, rfl, ⟨t2, _, rfl, SqT.of (s5 _ _ htup), rfl, _, _, rfl, _, _, rfl, rfl, rfl, ?_⟩⟩
      generalize upd H' t (.tup [kV (.inl (c.line : Int)), .ref t2]) = H5 at *
      refine ⟨_, rfl, a, dx, fs, rfl, s5 _ _ ha, hn.modes, _, rfl, c.head, rfl, hw.2, _, _, dm, kvm, l, _, rfl, hfm, hvl, hl, fun H6 p6 s6 np6 hp6 => ?_⟩
      refine ⟨p6, rfl, ⟨_, SqL.of hp6⟩, ?_⟩
      have s7 := s5.trans s6
      refine for_it (n := 1) (fun j σ H' => ∃ z5 z6 z7, σ = [some (V.ref a), some (.ref pl), some (kV (.inl (c.line : Int))), some (.str c.head), some (.ref gt), z5, z6, z7] ∧ Same HL H' ∧ H' p6 = some (.lst [.str ""]) ∧ ∃ ks, H' pl = some (.dT ks) ∧ ks.length ≤ i + j)
        ⟨_, _, _, rfl, s7, hp6, ks, s6 _ _ hks5, by omega⟩ (fun j σ H' hj h => ?_) (fun σ H' h => ?_) (fun j σ H' hj h x H3 hy => ?_) (fun σ H' h => ?_)
      · obtain ⟨_, _, _, _, _, s8, _⟩ := h
        exact go_l (xs := [V.str ""]) (SqL.of s8) hj
      · obtain ⟨_, _, _, _, _, s8, _⟩ := h
        exact stop_l (xs := [V.str ""]) (SqL.of s8)
      · obtain ⟨z5, z6, z7, rfl, s8, hp8, ks8, hks8, hkl8⟩ := h
        obtain ⟨rfl, hx⟩ := yld_l (xs := [V.str ""]) (SqL.of hp8) hy
        obtain rfl : j = 0 := by omega
        obtain rfl : V.str "" = x := Option.some.inj hx
        refine ⟨_, rfl, _, rfl, _, rfl, _, rfl, _, c.head, gt, gvs, c.goals, ws, rfl, (hpL.sameL (.of s8)).house, s8 _ _ hgt, hg.same s8, hfew, hw, hms, fun H9 p9 l9 xs9 s9 np9 hp9 nl9 hl9 => ?_⟩
        refine ⟨p9, _, rfl, SqT.of hp9, rfl, _, _, rfl, _, _, rfl, rfl, ?_⟩
        refine ⟨_, rfl, 0, 0, rfl, rfl, _, rfl, iteF ?_⟩
        refine ⟨_, rfl, _, rfl, _, rfl, _, rfl, by show 2 ≤ sizeLine; decide, fun p10 np10 => ?_⟩
        have s10 := (s8.trans s9).trans (same_upd (o := .tup [kV (.inl (c.line : Int)), V.str ""]) np10)
        refine ⟨pl, _, rfl, DPut.t (k := [.inl (c.line : Int), .inr ""]) (upd_at (s9 _ _ hks8) (ne_of_none (s9 _ _ hks8) np10)) upd_same (by rw [sizeLine_eq]; have := hpL.few; omega), ?_⟩
        refine ⟨_, _, _, rfl, same_new s10 nplL, ?_, _, upd_same, ?_⟩
        · exact upd_at (same_upd np10 _ _ (s9 _ _ hp8)) (ne_of_some (s9 _ _ hp8) (s9 _ _ hks8) (fun z => nomatch z))
        · have := length_putK ks8 [.inl (c.line : Int), .inr ""] (V.ref l9)
          omega
      · obtain ⟨z5, z6, z7, rfl, s8, hp8, ks8, hks8, hkl8⟩ := h
        exact ⟨_, _, _, _, _, _, rfl, s8, ks8, hks8, hkl8⟩
    · obtain ⟨z2, z3, z4, z5, z6, z7, rfl, s4, ks, hks, hkl⟩ := h
      exact ⟨s4 _ _ hpbL, _, rfl, q _ pl (hfin _ s4)⟩
end
end G3

/-! Walks: the links. -/
namespace G3
open PySem PySem.Spec PyProof.Rows L2
/-- a clause's links: head, asked, barred -/
def clinks (c : Cl) : List (Lk Str) := c.goals.map fun g => (c.head, g.2, g.1)
def links (cs : List Cl) : List (Lk Str) := cs.flatMap clinks
theorem links_succ {cs : List Cl} {i : Nat} {c : Cl} (h : cs[i]? = some c) : links (cs.take (i + 1)) = links (cs.take i) ++ clinks c := by
  unfold links
  rw [List.take_add_one, h, List.flatMap_append]
  simp
theorem links_le (cs : List Cl) (i : Nat) : (links (cs.take i)).length ≤ (links cs).length := by
  unfold links
  conv => rhs; rw [← List.take_append_drop i cs, List.flatMap_append]
  rw [List.length_append]
  omega
def LinkV (H : Hp) (v : V) (l : Lk Str) : Prop := ∃ t, v = .ref t ∧ H t = some (.tup [.str (tt l.1), .str (tt l.2.1), .bl l.2.2])
theorem LinkV.same {H H' : Hp} {v : V} {l : Lk Str} (s : Same H H') (h : LinkV H v l) : LinkV H' v l := by
  obtain ⟨t, a, b⟩ := h
  exact ⟨t, a, s _ _ b⟩
theorem LinkV.sameL {H H' : Hp} {v : V} {l : Lk Str} (s : SameL H H') (h : LinkV H v l) : LinkV H' v l := by
  obtain ⟨t, a, b⟩ := h
  exact ⟨t, a, s.obj _ _ b fun _ z => nomatch z⟩
def LinksV (H : Hp) (vs : List V) (ls : List (Lk Str)) : Prop := Paired (LinkV H) vs ls
theorem LinksV.mono {H H' : Hp} {vs : List V} {ls : List (Lk Str)} (s : ∀ v l, LinkV H v l → LinkV H' v l) (h : LinksV H vs ls) : LinksV H' vs ls := by
  unfold LinksV at *
  induction h with
  | nil => exact .nil
  | cons a _ ih => exact .cons (s _ _ a) ih
theorem LinksV.same {H H' : Hp} {vs : List V} {ls : List (Lk Str)} (s : Same H H') (h : LinksV H vs ls) : LinksV H' vs ls := h.mono fun _ _ => .same s
theorem LinksV.sameL {H H' : Hp} {vs : List V} {ls : List (Lk Str)} (s : SameL H H') (h : LinksV H vs ls) : LinksV H' vs ls := h.mono fun _ _ => .sameL s
theorem LinksV.put {H : Hp} {vs : List V} {ls : List (Lk Str)} {D : Addr} {xs : List V} {o : HO} (hD : H D = some (.lst xs)) (h : LinksV H vs ls) : LinksV (upd H D o) vs ls := h.mono fun v l ⟨t, a, b⟩ => ⟨t, a, upd_at b (ne_of_some b hD fun z => nomatch z)⟩
section
variable {P : Program} {w : World} {K : PySem.W.Frag} {mg : Str → Option Value} {base : Heap} {C M N : Addr}
abbrev nLinks : List Str := ["bodies", "head", "goals", "goal"]
theorem sc_links : FnScope nLinks ["bodies"] (defScope s_links_of) := ⟨rfl, rfl, rfl, by decide +kernel, rfl, by decide +kernel, by decide +kernel⟩
def spLinks : Sp := fun vs H Q _ => ∃ pb kvs cs, vs = [.ref pb] ∧ H pb = some (.dK kvs) ∧ Bods H kvs cs ∧ (links cs).length ≤ 1000 ∧
  ∀ H' D acc, Same H H' → H D = none → H' D = some (.lst acc) → LinksV H' acc (links cs) → Q (.ref D) H'
theorem links_of_ok (T : Tx K mg w C M N) : Cal P w K mg base 3 "links_of" ["bodies"] spLinks := by
  have ct := title_of_ok (P := P) (base := base) T
  have ca := asked_of_ok (P := P) (base := base) T
  have ck := kind_of_ok (P := P) (base := base) T
  refine T.d_links_of.cal sc_links (fun vs H Q E h => ?_) (fun f cdv A outer s H vs Q E hr h => ?_)
  · obtain ⟨pb, kvs, cs, rfl, _⟩ := h
    rfl
  · obtain ⟨pb, kvs, cs, rfl, hpb, hB, hz, q⟩ := h
    refine ⟨_, pss_one (ps_ret (pe_lock (pe_lc2 (own := [("head", 1), ("goals", 2), ("goal", 3)]) (vs1 := [3]) (g := gTup K 2 (gCons (gName 1) (gCons (gName 2) gNil))) (g1 := gName 3) (wi1 := iTup K (tVar 2)) rfl sc_links.nd
        (pi_values (pv 0)) (blkOk_by (N := nLinks) (sc := defScope s_links_of) (by decide +kernel)) (by decide)
        (fun _ _ _ _ _ => pg_tup rfl (pgs_cons (pg_name (i := 1) sc_links.nd rfl (.inl rfl) (.inr rfl)) (pgs_cons (pg_name (i := 2) sc_links.nd rfl (.inl rfl) (.inr rfl)) pgs_nil))) (fun _ _ _ _ _ => pts_nil)
        (fun _ _ _ _ _ => pi_tup (pv 2)) (fun _ _ _ _ _ => pg_name (i := 3) sc_links.nd rfl (.inl rfl) (.inr rfl))
        (fun _ _ _ _ _ => pts_one (pt_cmp (pc_notN (pe_cal ca hr (by decide) (by rfl) (pa_cons (pv 3) pa_nil)))))
        (fun _ _ _ _ _ => pe_tup (pa_cons (pe_cal ct hr (by decide) (by rfl) (pa_cons (pv 1) pa_nil)) (pa_cons (pe_cal ct hr (by decide) (by rfl) (pa_cons (pe_cal ca hr (by decide) (by rfl) (pa_cons (pv 3) pa_nil)) pa_nil))
          (pa_cons (pe_cmpR op_eq (pe_cal ck hr (by decide) (by rfl) (pa_cons (pv 3) pa_nil)) pe_str (nomark _)) pa_nil))))))), ?_⟩
    refine ⟨pb, _, hpb, trivial, fun od => ?_⟩
    have hBL := hB.sameL (SameL.lock (od := od) hpb)
    have hpbL : upd H pb (.frz od (.dK kvs)) pb = some (.frz od (.dK kvs)) := upd_same
    have hfin : ∀ H', Same (upd H pb (.frz od (.dK kvs))) H' → Same H (upd H' pb (.dK kvs)) := fun H' s => Same.unlock hpb s
    have hfree : ∀ D, upd H pb (.frz od (.dK kvs)) D = none → H D = none ∧ D ≠ pb := fun D e => by
      have : D ≠ pb := fun z => by rw [z, upd_same] at e; cases e
      rw [upd_ne this] at e
      exact ⟨e, this⟩
    generalize upd H pb (.frz od (.dK kvs)) = HL at *
    have hlen : kvs.length = cs.length := Paired.length hBL
    refine ⟨_, rfl, pb, od, kvs, rfl, hpbL, fun D nD => ?_⟩
    obtain ⟨nDH, neD⟩ := hfree D nD
    refine in_it (n := kvs.length) (fun i H' => Same HL H' ∧ ∃ acc, H' D = some (.lst acc) ∧ LinksV H' acc (links (cs.take i)))
      ⟨same_upd nD, [], upd_same, .nil⟩ (fun i H' hi h => ⟨h.1 _ _ hpbL, hi⟩) (fun H' h => ⟨h.1 _ _ hpbL, Nat.le_refl _⟩) (fun i H' hi h x H3 hy => ?_) (fun H' h => ?_)
    · obtain ⟨s4, acc, hD, hacc⟩ := h
      obtain ⟨rfl, k, hk⟩ := hy
      obtain ⟨c, hci, t, gt, gvs, hb⟩ := paired_get hBL hk
      obtain ⟨hkey, hval, htup, hgt, hg, hfew, hw⟩ := hb
      obtain rfl : x = .ref t := hval
      have hgl : gvs.length = c.goals.length := Paired.length hg.1
      have hb1 := links_le cs (i + 1)
      rw [links_succ hci, List.length_append] at hb1
      refine ⟨t, _, rfl, SqT.of (s4 _ _ htup), rfl, _, _, rfl, _, _, rfl, rfl, rfl, ?_⟩
      refine yesT ?_
      refine ⟨_, rfl, gt, rfl, ⟨_, SqT.of (s4 _ _ hgt)⟩, ?_⟩
      refine in_it (n := gvs.length) (fun j H' => Same HL H' ∧ ∃ acc, H' D = some (.lst acc) ∧ LinksV H' acc (links (cs.take i) ++ (clinks c).take j))
        ⟨s4, acc, hD, by rw [List.take_zero, List.append_nil]; exact hacc⟩ (fun j H' hj h => go_t (SqT.of (h.1 _ _ hgt)) hj) (fun H' h => stop_t (SqT.of (h.1 _ _ hgt))) (fun j H' hj h x H5 hy => ?_) (fun H' h => ?_)
      · obtain ⟨s5, acc5, hD5, hacc5⟩ := h
        obtain ⟨rfl, hx⟩ := yld_t (SqT.of (s5 _ _ hgt)) hy
        obtain ⟨g, hgj, gv, gw⟩ := hg.get hx
        have hcl : (clinks c)[j]? = some (c.head, g.2, g.1) := by unfold clinks; rw [List.getElem?_map, hgj]; rfl
        refine ⟨rfl, _, rfl, x, g, rfl, gv.same s5, _, rfl, ?_⟩
        refine iteT ?_
        refine ⟨_, rfl, c.head, rfl, hw.2, _, rfl, x, g, rfl, gv.same s5, g.2, rfl, gw.2, _, rfl, x, g, rfl, gv.same s5, rfl, by show 3 ≤ sizeLine; decide, fun p np => ?_⟩
        have hl5 : acc5.length ≤ 1000 := by
          have := Paired.length hacc5
          rw [List.length_append, List.length_take] at this
          omega
        refine ⟨acc5, upd_at hD5 (ne_of_none hD5 np), by rw [sizeLine_eq]; omega, same_new (same_new s5 (s5.free np)) nD, acc5 ++ [.ref p], upd_same, ?_⟩
        have e1 : links (cs.take i) ++ (clinks c).take (j + 1) = (links (cs.take i) ++ (clinks c).take j) ++ [(c.head, g.2, g.1)] := by
          rw [List.take_add_one, hcl, List.append_assoc]
          rfl
        rw [e1]
        refine LinksV.put (xs := acc5) (upd_at hD5 (ne_of_none hD5 np)) (Paired.snoc (hacc5.same (same_upd np)) ⟨p, rfl, ?_⟩)
        rw [upd_same]
        have e2 : decide (V.str (kd g) = V.str "not") = g.1 := by
          unfold kd
          cases g.1 with
          | true => exact decide_eq_true rfl
          | false => exact decide_eq_false (by decide)
        rw [e2]
      · obtain ⟨s5, acc5, hD5, hacc5⟩ := h
        refine ⟨s5, acc5, hD5, ?_⟩
        rw [links_succ hci]
        have e1 : (clinks c).take gvs.length = clinks c := List.take_of_length_le (by unfold clinks; rw [List.length_map]; omega)
        rw [e1] at hacc5
        exact hacc5
    · obtain ⟨s5, acc5, hD5, hacc5⟩ := h
      rw [hlen, List.take_length] at hacc5
      refine ⟨s5 _ _ hpbL, q _ D acc5 (hfin _ s5) nDH (upd_at hD5 neD) ?_⟩
      exact hacc5.mono fun v l ⟨t, a, b⟩ => ⟨t, a, upd_at b (ne_of_some b (s5 _ _ hpbL) fun z => nomatch z)⟩
end
end G3

/-! Walks: the goals on rings. -/
namespace G3
open PySem PySem.Spec PyProof.Rows L2
theorem inV_str (x : Str) : ∀ ys : List Str, inV (.str x) (ys.map V.str) = decide (x ∈ ys)
  | [] => by simp [inV]
  | y :: ys => by
    have ih := inV_str x ys
    unfold inV at ih ⊢
    rw [List.map_cons, List.any_cons, ih]
    show ((y == x) || decide (x ∈ ys)) = _
    by_cases h : y = x
    · subst h
      simp
    · have hb : (y == x) = false := beq_eq_false_iff_ne.mpr h
      rw [hb]
      simp [Ne.symm h]
theorem flat_strs (ys : List Str) : (ys.map V.str).all flatV = true := by
  rw [List.all_map, List.all_eq_true]
  intro _ _
  rfl
/-- the program with its reach and its marks -/
structure Rings (C : Addr) (ws : List Str) (cs : List Cl) (rch : Str → Str → Bool) (tb : Str → Bool) (H : Hp) (v : V) (pb : Addr) (kvs : List (Key × V)) : Prop where
  prog : Prog C ws cs H v pb kvs
  reach : ∃ d k2, Fd C H v "reach" d k2 ∧ ∀ x ∈ ws, ∃ (l : Addr) (ys : List Str), valV k2 (.inr (tt x)) = some (.ref l) ∧ H l = some (.lst (ys.map V.str)) ∧ ∀ y ∈ ws, (tt y ∈ ys ↔ rch x y = true)
  marks : ∃ d k2, Fd C H v "marked" d k2 ∧ ∀ x ∈ ws, (valV k2 (.inr (tt x))).isSome = tb x
theorem Rings.sameL {C : Addr} {ws : List Str} {cs : List Cl} {rch : Str → Str → Bool} {tb : Str → Bool} {H H' : Hp} {v : V} {pb : Addr} {kvs : List (Key × V)} (s : SameL H H') (h : Rings C ws cs rch tb H v pb kvs) : Rings C ws cs rch tb H' v pb kvs := by
  obtain ⟨a, ⟨d, k2, f, g⟩, ⟨d3, k3, f3, g3⟩⟩ := h
  exact ⟨a.sameL s, ⟨d, k2, f.sameL s, fun x m => let ⟨l, ys, p, q, r⟩ := g x m; ⟨l, ys, p, s.obj _ _ q (fun _ z => nomatch z), r⟩⟩, ⟨d3, k3, f3.sameL s, g3⟩⟩
/-- the goals of c on a ring -/
def onRing (rch : Str → Str → Bool) (h : Str) (gs : List Gl2) : List Gl2 := gs.filter fun g => rch g.2 h
theorem onRing_succ {rch : Str → Str → Bool} {h : Str} {gs : List Gl2} {i : Nat} {g : Gl2} (e : gs[i]? = some g) : onRing rch h (gs.take (i + 1)) = onRing rch h (gs.take i) ++ (if rch g.2 h = true then [g] else []) := by
  unfold onRing
  rw [List.take_add_one, e, List.filter_append]
  congr 1
  by_cases z : rch g.2 h = true
  · simp [z]
  · simp [z]
def RingV (tb : Str → Bool) (h : Str) (H : Hp) (v : V) (g : Gl2) : Prop := ∃ t u, v = .ref t ∧ H t = some (.tup [u, .bl (tb h != tb g.2)]) ∧ GoalV H u g
def RingsV (tb : Str → Bool) (h : Str) (H : Hp) (vs : List V) (gs : List Gl2) : Prop := Paired (RingV tb h H) vs gs
theorem RingsV.mono {tb : Str → Bool} {h : Str} {H H' : Hp} {vs : List V} {gs : List Gl2} (s : ∀ v l, RingV tb h H v l → RingV tb h H' v l) (x : RingsV tb h H vs gs) : RingsV tb h H' vs gs := by
  unfold RingsV at *
  induction x with
  | nil => exact .nil
  | cons a _ ih => exact .cons (s _ _ a) ih
theorem RingsV.same {tb : Str → Bool} {h : Str} {H H' : Hp} {vs : List V} {gs : List Gl2} (s : Same H H') (x : RingsV tb h H vs gs) : RingsV tb h H' vs gs := x.mono fun _ _ ⟨t, u, a, b, c⟩ => ⟨t, u, a, s _ _ b, c.same s⟩
theorem GoalV.put {H : Hp} {v : V} {g : Gl2} {D : Addr} {xs : List V} {o : HO} (hD : H D = some (.lst xs)) (h : GoalV H v g) : GoalV (upd H D o) v g := by
  rcases h with h | ⟨a, t, b, c⟩
  · exact .inl h
  · exact .inr ⟨a, t, b, upd_at c (ne_of_some c hD fun z => nomatch z)⟩
theorem RingsV.put {tb : Str → Bool} {h : Str} {H : Hp} {vs : List V} {gs : List Gl2} {D : Addr} {xs : List V} {o : HO} (hD : H D = some (.lst xs)) (x : RingsV tb h H vs gs) : RingsV tb h (upd H D o) vs gs :=
  x.mono fun _ _ ⟨t, u, a, b, c⟩ => ⟨t, u, a, upd_at b (ne_of_some b hD fun z => nomatch z), c.put hD⟩
section
variable {P : Program} {w : World} {K : PySem.W.Frag} {mg : Str → Option Value} {base : Heap} {C M N : Addr}
abbrev nRingsAt : List Str := ["program", "line", "head", "goals", "title", "found", "goal", "pattern"]
theorem sc_ringsat : FnScope nRingsAt ["program", "line"] (defScope s_rings_at) := ⟨rfl, rfl, rfl, by decide +kernel, rfl, by decide +kernel, by decide +kernel⟩
def spRingsAt (C : Addr) : Sp := fun vs H Q _ => ∃ v ws cs rch tb pb kvs x c t gt gvs, vs = [v, .int (c.line : Int)] ∧ Rings C ws cs rch tb H v pb kvs ∧ valV kvs (.inl (c.line : Int)) = some x ∧ BodAt H (.inl (c.line : Int), x) c t gt gvs ∧ c.head ∈ ws ∧ (∀ g ∈ c.goals, g.2 ∈ ws) ∧
  ∀ H' D acc, Same H H' → H D = none → H' D = some (.lst acc) → RingsV tb c.head H' acc (onRing rch c.head c.goals) → Q (.ref D) H'
theorem rings_at_ok (T : Tx K mg w C M N) : Cal P w K mg base 3 "rings_at" ["program", "line"] (spRingsAt C) := by
  have ct := title_of_ok (P := P) (base := base) T
  have ca := asked_of_ok (P := P) (base := base) T
  have cc := comes_to_ok (P := P) (base := base) T
  have ci := is_tabled_ok (P := P) (base := base) T
  refine T.d_rings_at.cal sc_ringsat (fun vs H Q E h => ?_) (fun f cdv A outer s H vs Q E hr h => ?_)
  · obtain ⟨v, ws, cs, rch, tb, pb, kvs, x, c, t, gt, gvs, rfl, _⟩ := h
    rfl
  · obtain ⟨v, ws, cs, rch, tb, pb, kvs, x, c, t, gt, gvs, rfl, hR, hx, hb, hm, hms, q⟩ := h
    refine ⟨_, pss_cons (ps_asg (pe_dget (u1 hr) (pe_fld (pv 0) rfl) (pv 1) (fun _ _ => rfl)) (pg_tup rfl (pgs_cons (pg_name (i := 2) sc_ringsat.nd rfl (.inl rfl)) (pgs_cons (pg_name (i := 3) sc_ringsat.nd rfl (.inl rfl)) pgs_nil))))
      (pss_cons (ps_set (i := 4) sc_ringsat.nd rfl (.inl rfl) (pe_cal ct hr (by decide) (by rfl) (pa_cons (pv 2) pa_nil)))
      (pss_cons (ps_set (i := 5) sc_ringsat.nd rfl (.inl rfl) (pe_lst pa_nil))
      (pss_cons (ps_for PassesOwn.never rfl (pi_tup (pv 3)) (pg_name (i := 6) sc_ringsat.nd rfl (.inl rfl))
        (pss_cons (ps_set (i := 7) sc_ringsat.nd rfl (.inl rfl) (pe_cal ca hr (by decide) (by rfl) (pa_cons (pv 6) pa_nil)))
        (pss_one (ps_if (pw_and (pt_cmp (pc_notN (pv 7))) (pw_and1 (pt_cmpR op_in_seq (pv 4) (pe_met (pv 0) T.cls cc hr (by decide) (pa_cons (pe_cal ct hr (by decide) (by rfl) (pa_cons (pv 7) pa_nil)) pa_nil)) rfl))).pt
          (pss_one (ps_expr (pe_bm PySem.F.plainAttrs_list PySem.F.slot_list_append PySem.F.type_list_append mt_append (pv 5) (pa_cons
            (pe_tup (pa_cons (pv 6) (pa_cons (pe_cmpR op_ne (pe_met (pv 0) T.cls ci hr (by decide) (pa_cons (pv 4) pa_nil)) (pe_met (pv 0) T.cls ci hr (by decide) (pa_cons (pe_cal ct hr (by decide) (by rfl) (pa_cons (pv 7) pa_nil)) pa_nil)) (nomark _)) pa_nil))) pa_nil)))) pss_nil))))
      (pss_one (ps_ret (pv 5)))))), ?_⟩
    obtain ⟨hkey, hval, htup, hgt, hg, hfew, hw⟩ := hb
    obtain rfl : x = .ref t := hval
    obtain ⟨⟨a, dx, fs, rfl, ha, hn, hf⟩, hd⟩ := hR.prog.fd
    have hgl : gvs.length = c.goals.length := Paired.length hg.1
    refine ⟨_, rfl, a, C, dx, fs, _, rfl, ha, T.cls, T.a_bodies, hf, _, rfl, pb, _, rfl, by rw [← hx]; exact dget_oi hd _, ?_⟩
    refine ⟨t, _, rfl, SqT.of htup, rfl, _, _, rfl, _, _, rfl, rfl, ?_⟩
    refine ⟨_, rfl, c.head, rfl, hw.2, Nat.zero_le _, fun D nD => ?_⟩
    refine ⟨_, rfl, gt, rfl, ⟨_, SqT.of (same_upd nD _ _ hgt)⟩, ?_⟩
    refine for_it (n := gvs.length) (fun i σ H' => ∃ z6 z7, σ = [some (V.ref a), some (.int (c.line : Int)), some (.str c.head), some (.ref gt), some (.str (tt c.head)), some (.ref D), z6, z7] ∧ Same H H' ∧ ∃ acc, H' D = some (.lst acc) ∧ RingsV tb c.head H' acc (onRing rch c.head (c.goals.take i)) ∧ acc.length ≤ i)
      ⟨none, none, rfl, same_upd nD, [], upd_same, .nil, Nat.le_refl _⟩ (fun i σ H' hi h => ?_) (fun σ H' h => ?_) (fun i σ H' hi h x H3 hy => ?_) (fun σ H' h => ?_)
    · obtain ⟨_, _, _, s4, _⟩ := h
      exact go_t (SqT.of (s4 _ _ hgt)) hi
    · obtain ⟨_, _, _, s4, _⟩ := h
      exact stop_t (SqT.of (s4 _ _ hgt))
    · obtain ⟨z6, z7, rfl, s4, acc, hD, hacc, hl⟩ := h
      obtain ⟨rfl, hu⟩ := yld_t (SqT.of (s4 _ _ hgt)) hy
      obtain ⟨g, hgi, gv, gw⟩ := hg.get hu
      have hgm : g.2 ∈ ws := hms g (List.mem_of_getElem? hgi)
      have hR4 := hR.sameL (.of s4)
      obtain ⟨dr, kr, fr, hreach⟩ := hR4.reach
      obtain ⟨l, ys, hvl, hll, hys⟩ := hreach _ hgm
      refine ⟨_, rfl, x, g, rfl, gv.same s4, ?_⟩
      refine ⟨_, rfl, _, rfl, iteT ?_⟩
      refine ⟨_, rfl, _, rfl, a, dx, fs, rfl, s4 _ _ ha, hn.comes_to, _, rfl, g.2, rfl, gw.2, _, _, dr, kr, l, _, rfl, fr, hvl, hll, fun H5 p5 s5 np5 hp5 => ?_⟩
      refine ⟨p5, _, rfl, .inl (SqL.of hp5), rfl, flat_strs ys, _, rfl, ?_⟩
      have hgr : inV (.str (tt c.head)) (ys.map V.str) = rch g.2 c.head := by
        rw [inV_str, Bool.eq_iff_iff, decide_eq_true_iff]
        exact hys _ hm
      have s6 := s4.trans s5
      have hacc5 := hacc.same s5
      have hD5 := s5 _ _ hD
      have hsucc := onRing_succ (rch := rch) (h := c.head) hgi
      show (if (if false = true then !inV (.str (tt c.head)) (ys.map V.str) else inV (.str (tt c.head)) (ys.map V.str)) = true then _ else _)
      rw [if_neg Bool.false_ne_true, hgr]
      refine ite2 (fun z => ?_) fun z => ?_
      · obtain ⟨dm, km, fm, hmarks⟩ := (hR.sameL (.of s6)).marks
        refine ⟨_, rfl, .inl ⟨rfl, _, SqL.of hD5⟩, _, rfl, _, rfl, a, dx, fs, rfl, s6 _ _ ha, hn.is_tabled, _, rfl, _, _, dm, km, rfl, fm, ?_⟩
        refine ⟨_, rfl, a, dx, fs, rfl, s6 _ _ ha, hn.is_tabled, _, rfl, g.2, rfl, gw.2, _, _, dm, km, rfl, fm, ?_⟩
        refine ⟨rfl, by show 2 ≤ sizeLine; decide, fun p np => ?_⟩
        rw [hmarks _ hm, hmarks _ hgm]
        have e2 : (!decide (V.bl (tb c.head) = V.bl (tb g.2))) = (tb c.head != tb g.2) := by
          cases tb c.head <;> cases tb g.2 <;> rfl
        rw [e2]
        refine ⟨D, acc, _, rfl, rfl, upd_at hD5 (ne_of_none hD5 np), by rw [sizeLine_eq]; omega, ?_⟩
        refine ⟨_, _, rfl, same_new (same_new s6 (s6.free np)) nD, acc ++ [.ref p], upd_same, ?_, by rw [List.length_append]; simp; omega⟩
        rw [hsucc, if_pos z]
        refine Paired.snoc (RingsV.put (xs := acc) (upd_at hD5 (ne_of_none hD5 np)) (hacc5.same (same_upd np))) ?_
        have hpp : upd H5 p (.tup [x, .bl (tb c.head != tb g.2)]) p = some (.tup [x, .bl (tb c.head != tb g.2)]) := upd_same
        exact ⟨p, x, rfl, upd_at hpp (ne_of_some hpp (upd_at hD5 (ne_of_none hD5 np)) fun z => nomatch z), ((gv.same s6).same (same_upd np)).put (upd_at hD5 (ne_of_none hD5 np))⟩
      · refine ⟨_, _, rfl, s6, acc, hD5, ?_, by omega⟩
        rw [hsucc, if_neg z, List.append_nil]
        exact hacc5
    · obtain ⟨z6, z7, rfl, s4, acc, hD, hacc, hl⟩ := h
      rw [hgl, List.take_length] at hacc
      exact ⟨_, rfl, q _ D acc s4 nD hD hacc⟩
end
end G3

/-! Walks: the look at rings, which raises. -/
namespace G3
open PySem PySem.Spec PyProof.Rows L2
theorem find_at {α : Type} {p : α → Bool} {cs : List α} {i : Nat} {c : α} (h : (cs.take i).find? p = none) (e : cs[i]? = some c) (hp : p c = true) : cs.find? p = some c := by
  have hi : i < cs.length := (List.getElem?_eq_some_iff.mp e).1
  have hd : cs.drop i = c :: cs.drop (i + 1) := by
    rw [List.drop_eq_getElem_cons hi]
    congr 1
    rw [List.getElem?_eq_getElem hi] at e
    exact Option.some.inj e
  rw [← List.take_append_drop i cs, List.find?_append, h, hd]
  simp [List.find?_cons, hp]
theorem find_next {α : Type} {p : α → Bool} {cs : List α} {i : Nat} {c : α} (h : (cs.take i).find? p = none) (e : cs[i]? = some c) (hp : p c = false) : (cs.take (i + 1)).find? p = none := by
  rw [List.take_add_one, e, List.find?_append, h]
  simp [hp]
def apartIn (rch : Str → Str → Bool) (tb : Str → Bool) (c : Cl) : Bool := (onRing rch c.head c.goals).any fun g => tb c.head != tb g.2
def notIn (rch : Str → Str → Bool) (c : Cl) : Bool := (onRing rch c.head c.goals).any fun g => g.1
/-- no key stands twice -/
def Uniq (kvs : List (Key × V)) : Prop := ∀ (i : Nat) (k : Key) (x : V), kvs[i]? = some (k, x) → valV kvs k = some x
/-- all but pb stands, an exception's dict with the line -/
structure Thrown (H : Hp) (pb : Addr) (n : Nat) (d : Option Addr) (H' : Hp) : Prop where
  keep : ∀ b o, H b = some o → b ≠ pb → H' b = some o
  line : ∃ dd, d = some dd ∧ H' dd = some (.xd [("line", .int (n : Int))])
section
variable {P : Program} {w : World} {K : PySem.W.Frag} {mg : Str → Option Value} {base : Heap} {C M N : Addr}
def spErr (C0 : Addr) : Sp := fun vs H Q _ => ∃ a y, vs = [.ref a, y] ∧ H a = some (exo a C0 none) ∧ ∀ dx, H dx = none → dx ≠ a → Q .non (upd (upd H dx (exd dx [("line", y)])) a (exo a C0 (some dx)))
theorem sc_mixed : FnScope ["self", "line"] ["self", "line"] (defScope i_mixed) := ⟨rfl, rfl, rfl, by decide +kernel, rfl, by decide +kernel, by decide +kernel⟩
theorem sc_notring : FnScope ["self", "line"] ["self", "line"] (defScope i_notring) := ⟨rfl, rfl, rfl, by decide +kernel, rfl, by decide +kernel, by decide +kernel⟩
theorem init_mixed (T : ErrF K mg "Mixed" "Mixed.__init__" i_mixed M) : ∃ f fd, FnOk P w K mg base CX0 1 f fd ["self", "line"] (spErr M) ∧ PySem.W.findIn K (.ref M) "__init__" = some (some (.ref f)) ∧ PySem.W.typeIn K (.ref f) = some (.type "function") ∧ Binds K fd ["self", "line"] [] := by
  obtain ⟨f, fd, F, a, b, c⟩ := T.init
  refine ⟨f, fd, F.ok sc_mixed (fun vs H Q E h => ?_) fun cdv A outer s H vs Q E hr h => ?_, a, b, c⟩
  · obtain ⟨x, y, rfl, _⟩ := h
    rfl
  · obtain ⟨x, y, rfl, ha, q⟩ := h
    refine ⟨_, (pss_one (ps_ost (f := "line") (pv 0) (pv 1))).nox, ?_⟩
    exact ⟨y, rfl, _, rfl, x, M, rfl, T.oex, T.no, .inl ⟨ha, q⟩⟩
theorem init_notring (T : ErrF K mg "Notring" "Notring.__init__" i_notring N) : ∃ f fd, FnOk P w K mg base CX0 1 f fd ["self", "line"] (spErr N) ∧ PySem.W.findIn K (.ref N) "__init__" = some (some (.ref f)) ∧ PySem.W.typeIn K (.ref f) = some (.type "function") ∧ Binds K fd ["self", "line"] [] := by
  obtain ⟨f, fd, F, a, b, c⟩ := T.init
  refine ⟨f, fd, F.ok sc_notring (fun vs H Q E h => ?_) fun cdv A outer s H vs Q E hr h => ?_, a, b, c⟩
  · obtain ⟨x, y, rfl, _⟩ := h
    rfl
  · obtain ⟨x, y, rfl, ha, q⟩ := h
    refine ⟨_, (pss_one (ps_ost (f := "line") (pv 0) (pv 1))).nox, ?_⟩
    exact ⟨y, rfl, _, rfl, x, N, rfl, T.oex, T.no, .inl ⟨ha, q⟩⟩
/-- the answer to a raise -/
theorem mk_err {C0 : Addr} {σ : L2.St} {H : Hp} {i : Nat} {y : V} {Q : XK} (hi : σ[i]? = some (some y)) (q : ∀ d H', Same H H' → H' d = some (.xd [("line", y)]) → Q (.ref C0) (some d) H') : tMkO C0 (spErr C0) [] (tCons (tVar i) tNil) σ H Q := by
  refine ⟨y, hi, by show 1 ≤ 1000; decide, fun a na => ⟨a, y, rfl, upd_same, fun dx nd ne => ⟨rfl, dx, [("line", y)], upd_same, ?_, ?_, ?_⟩⟩⟩
  · rw [upd_ne ne]; exact upd_same
  · rw [upd_ne ne] at nd; exact nd
  · rw [upd_ne ne] at nd
    refine q dx _ (fun b o e => ?_) upd_same
    have h1 := ne_of_none e nd
    have h2 := ne_of_none e na
    rw [upd_ne h1, del_ne h2, upd_ne h2, upd_ne h1, upd_ne h2]
    exact e

abbrev nLookR : List Str := ["program", "line", "goal", "apart"]
theorem sc_lookr : FnScope nLookR ["program"] (defScope s_look_rings) := ⟨rfl, rfl, rfl, by decide +kernel, rfl, by decide +kernel, by decide +kernel⟩
def spLookR (C M N : Addr) : Sp := fun vs H Q E => ∃ v ws cs rch tb pb kvs, vs = [v] ∧ Rings C ws cs rch tb H v pb kvs ∧ H pb = some (.dK kvs) ∧ Uniq kvs ∧
  (∀ c, cs.find? (apartIn rch tb) = some c → ∀ d H', Thrown H pb c.line d H' → E (.ref M) d H') ∧
  (∀ c, cs.find? (apartIn rch tb) = none → cs.find? (notIn rch) = some c → ∀ d H', Thrown H pb c.line d H' → E (.ref N) d H') ∧
  (cs.find? (apartIn rch tb) = none → cs.find? (notIn rch) = none → ∀ H', Same H H' → Q .non H')
theorem look_rings_ok (T : Tx K mg w C M N) : CalX P w K mg base 4 "look_rings" ["program"] (spLookR C M N) := by
  have cr := rings_at_ok (P := P) (base := base) T
  have ck := kind_of_ok (P := P) (base := base) T
  obtain ⟨fM, fdM, FM, aM, bM, cM⟩ := init_mixed (P := P) (w := w) (base := base) T.eM
  obtain ⟨fN, fdN, FN, aN, bN, cN⟩ := init_notring (P := P) (w := w) (base := base) T.eN
  refine T.d_look_rings.calX sc_lookr (fun vs H Q E h => ?_) (fun f cdv A outer s H vs Q E hr h => ?_)
  · obtain ⟨v, ws, cs, rch, tb, pb, kvs, rfl, _⟩ := h
    rfl
  · obtain ⟨v, ws, cs, rch, tb, pb, kvs, rfl, hR, hpb, hu, qM, qN, q⟩ := h
    refine ⟨_, pss_cons (ps_lock (ps_for (passes_of rfl) rfl (pi_keys (pe_fld (pv 0) rfl)) (pg_name (i := 1) sc_lookr.nd rfl (.inl rfl))
        (pss_one (ps_if (pt_val (pe_callB (cr_any rfl) (by rfl) T.n_any (by decide +kernel) (pa_cons
          (pe_lc (own := [("goal", 2), ("apart", 3)]) (g := gTup K 2 (gCons (gName 2) (gCons (gName 3) gNil))) rfl sc_lookr.nd (pi_list (pe_cal cr hr (by decide) (by rfl) (pa_cons (pv 0) (pa_cons (pv 1) pa_nil)))) (blkOk_by (N := nLookR) (sc := defScope s_look_rings) (by decide +kernel))
            (fun _ _ _ _ _ => pg_tup rfl (pgs_cons (pg_name (i := 2) sc_lookr.nd rfl (.inl rfl) (.inr rfl)) (pgs_cons (pg_name (i := 3) sc_lookr.nd rfl (.inl rfl) (.inr rfl)) pgs_nil))) (fun _ _ _ _ _ => pts_nil) (fun _ _ _ _ _ => pv 3)) pa_nil)))
          (pss_one (ps_raise rfl (takes_of rfl rfl rfl rfl) (pmk_oex T.eM.oex aM bM FM (hr.mono (by decide)) cM .nil pass0 (by rfl) T.eM.g (pa_cons (pv 1) pa_nil)))) pss_nil))))
      (pss_one (ps_lock (ps_for (passes_of rfl) rfl (pi_keys (pe_fld (pv 0) rfl)) (pg_name (i := 1) sc_lookr.nd rfl (.inl rfl))
        (pss_one (ps_if (pt_val (pe_callB (cr_any rfl) (by rfl) T.n_any (by decide +kernel) (pa_cons
          (pe_lc (own := [("goal", 2), ("apart", 3)]) (g := gTup K 2 (gCons (gName 2) (gCons (gName 3) gNil))) rfl sc_lookr.nd (pi_list (pe_cal cr hr (by decide) (by rfl) (pa_cons (pv 0) (pa_cons (pv 1) pa_nil)))) (blkOk_by (N := nLookR) (sc := defScope s_look_rings) (by decide +kernel))
            (fun _ _ _ _ _ => pg_tup rfl (pgs_cons (pg_name (i := 2) sc_lookr.nd rfl (.inl rfl) (.inr rfl)) (pgs_cons (pg_name (i := 3) sc_lookr.nd rfl (.inl rfl) (.inr rfl)) pgs_nil))) (fun _ _ _ _ _ => pts_nil)
            (fun _ _ _ _ _ => pe_cmpR op_eq (pe_cal ck hr (by decide) (by rfl) (pa_cons (pv 2) pa_nil)) pe_str (nomark _))) pa_nil)))
          (pss_one (ps_raise rfl (takes_of rfl rfl rfl rfl) (pmk_oex T.eN.oex aN bN FN (hr.mono (by decide)) cN .nil pass0 (by rfl) T.eN.g (pa_cons (pv 1) pa_nil)))) pss_nil))))), ?_⟩
    have hR0 := hR
    obtain ⟨⟨a, dx, fs, rfl, ha, hn, hf⟩, hd⟩ := hR.prog.fd
    refine ⟨pb, _, hpb, trivial, fun od => ?_⟩
    have hRL := hR.sameL (SameL.lock (od := od) hpb)
    have hpbL : upd H pb (.frz od (.dK kvs)) pb = some (.frz od (.dK kvs)) := upd_same
    have hfin : ∀ H', Same (upd H pb (.frz od (.dK kvs))) H' → Same H (upd H' pb (.dK kvs)) := fun H' s => Same.unlock hpb s
    have hthr : ∀ b o, H b = some o → b ≠ pb → upd H pb (.frz od (.dK kvs)) b = some o := fun b o e n => upd_at e n
    have haL := (SameL.lock (od := od) hpb).obj _ _ ha (fun _ z => nomatch z)
    generalize upd H pb (.frz od (.dK kvs)) = HL at *
    have hlen : kvs.length = cs.length := Paired.length hRL.prog.bods
    refine ⟨_, rfl, a, C, dx, fs, _, rfl, haL, T.cls, T.a_bodies, hf, pb, od, rfl, .inl ⟨kvs, hpbL, ?_⟩⟩
    refine for_it (n := kvs.length) (fun i σ H' => ∃ z1, σ = [some (V.ref a), z1, none, none] ∧ Same HL H' ∧ (cs.take i).find? (apartIn rch tb) = none)
      ⟨none, rfl, Same.refl _, rfl⟩ (fun i σ H' hi h => ⟨h.choose_spec.2.1 _ _ hpbL, hi⟩) (fun σ H' h => ⟨h.choose_spec.2.1 _ _ hpbL, Nat.le_refl _⟩)
      (fun i σ H' hi h x H3 hy => ?_) (fun σ H' h => ?_)
    · obtain ⟨z1, rfl, s4, hfd⟩ := h
      obtain ⟨rfl, k, y, hk, rfl⟩ := hy
      have hR4 := hRL.sameL (.of s4)
      obtain ⟨c, t, gt, gvs, hci, hb, hm, hms⟩ := hR4.prog.get hk
      have hke : k = .inl (c.line : Int) := hb.key
      subst hke
      refine ⟨_, rfl, _, rfl, (V.ref a), ws, cs, rch, tb, pb, kvs, y, c, t, gt, gvs, rfl, hR4, hu _ _ _ hk, hb, hm, hms, fun H5 D acc s5 nD hD hacc => ?_⟩
      refine ⟨D, rfl, ⟨_, SqL.of hD⟩, fun D2 nD2 => ?_⟩
      have hal : acc.length = (onRing rch c.head c.goals).length := Paired.length hacc
      have hsmall : acc.length ≤ 1000 := by
        have h1 : (onRing rch c.head c.goals).length ≤ c.goals.length := List.length_filter_le _ _
        have h2 : gvs.length = c.goals.length := Paired.length hb.goals.1
        have h3 := hb.few
        omega
      refine lc_it (n := acc.length) (fun j H' => Same H5 H' ∧ H' D2 = some (.lst (((onRing rch c.head c.goals).take j).map fun g => V.bl (tb c.head != tb g.2))))
        ⟨same_upd nD2, upd_same⟩ (fun j H' hj h => go_l (SqL.of (h.1 _ _ hD)) hj) (fun H' h => stop_l (SqL.of (h.1 _ _ hD))) (fun j H' hj h x H7 hy => ?_) (fun H' h => ?_)
      · obtain ⟨s6, hD6⟩ := h
        obtain ⟨rfl, hx⟩ := yld_l (SqL.of (s6 _ _ hD)) hy
        obtain ⟨g, hgj, t3, u, rfl, ht3, gv⟩ := paired_get hacc hx
        refine ⟨t3, _, rfl, SqT.of (s6 _ _ ht3), rfl, _, _, rfl, _, _, rfl, rfl, rfl, ?_⟩
        refine yesT ?_
        refine ⟨_, rfl, _, hD6, by rw [List.length_map, List.length_take, sizeLine_eq]; omega, same_new s6 nD2, ?_⟩
        rw [upd_same, List.take_add_one, hgj]
        simp
      · obtain ⟨s6, hD6⟩ := h
        have e1 : (onRing rch c.head c.goals).take acc.length = onRing rch c.head c.goals := List.take_of_length_le (by omega)
        rw [e1] at hD6
        have s7 := (s4.trans s5).trans s6
        refine ⟨D2, (onRing rch c.head c.goals).map fun g => (tb c.head != tb g.2), rfl, SqL.of (by rw [hD6, List.map_map]; rfl), ?_⟩
        have e2 : (((onRing rch c.head c.goals).map fun g => (tb c.head != tb g.2)).any id) = apartIn rch tb c := by rw [List.any_map]; rfl
        rw [e2]
        refine ⟨_, rfl, ite2 (fun z => ?_) fun z => ?_⟩
        · refine mk_err rfl fun d H8 s8 hd8 => qM c (find_at hfd hci z) _ _ ⟨fun b o e n => s8 _ _ (s7 _ _ (hthr b o e n)), d, rfl, hd8⟩
        · exact ⟨_, rfl, s7, find_next hfd hci (by simpa using z)⟩
    · obtain ⟨z1, rfl, s4, hfd⟩ := h
      rw [hlen, List.take_length] at hfd
      have s40 := hfin _ s4
      refine ⟨s4 _ _ hpbL, ?_⟩
      have hpb2 : upd H' pb (.dK kvs) pb = some (.dK kvs) := upd_same
      have hR2 := hR0.sameL (.of s40)
      have ha2 := s40 _ _ ha
      clear hRL hpbL haL s4 hfin hthr
      generalize upd H' pb (.dK kvs) = HX at *
      refine ⟨pb, _, hpb2, trivial, fun od => ?_⟩
      have hRL := hR2.sameL (SameL.lock (od := od) hpb2)
      have hpbL : upd HX pb (.frz od (.dK kvs)) pb = some (.frz od (.dK kvs)) := upd_same
      have hfin : ∀ H', Same (upd HX pb (.frz od (.dK kvs))) H' → Same HX (upd H' pb (.dK kvs)) := fun H' s => Same.unlock hpb2 s
      have hthr : ∀ b o, H b = some o → b ≠ pb → upd HX pb (.frz od (.dK kvs)) b = some o := fun b o e n => upd_at (s40 _ _ e) n
      have haL := (SameL.lock (od := od) hpb2).obj _ _ ha2 (fun _ z => nomatch z)
      generalize upd HX pb (.frz od (.dK kvs)) = HL at *
      refine ⟨_, rfl, a, C, dx, fs, _, rfl, haL, T.cls, T.a_bodies, hf, pb, od, rfl, .inl ⟨kvs, hpbL, ?_⟩⟩
      refine for_it (n := kvs.length) (fun i σ H' => ∃ z1, σ = [some (V.ref a), z1, none, none] ∧ Same HL H' ∧ (cs.take i).find? (notIn rch) = none)
        ⟨_, rfl, Same.refl _, rfl⟩ (fun i σ H' hi h => ⟨h.choose_spec.2.1 _ _ hpbL, hi⟩) (fun σ H' h => ⟨h.choose_spec.2.1 _ _ hpbL, Nat.le_refl _⟩)
        (fun i σ H' hi h x H3 hy => ?_) (fun σ H' h => ?_)
      · obtain ⟨z1, rfl, s4, hfd2⟩ := h
        obtain ⟨rfl, k, y, hk, rfl⟩ := hy
        have hR4 := hRL.sameL (.of s4)
        obtain ⟨c, t, gt, gvs, hci, hb, hm, hms⟩ := hR4.prog.get hk
        have hke : k = .inl (c.line : Int) := hb.key
        subst hke
        refine ⟨_, rfl, _, rfl, (V.ref a), ws, cs, rch, tb, pb, kvs, y, c, t, gt, gvs, rfl, hR4, hu _ _ _ hk, hb, hm, hms, fun H5 D acc s5 nD hD hacc => ?_⟩
        refine ⟨D, rfl, ⟨_, SqL.of hD⟩, fun D2 nD2 => ?_⟩
        have hal : acc.length = (onRing rch c.head c.goals).length := Paired.length hacc
        have hsmall : acc.length ≤ 1000 := by
          have h1 : (onRing rch c.head c.goals).length ≤ c.goals.length := List.length_filter_le _ _
          have h2 : gvs.length = c.goals.length := Paired.length hb.goals.1
          have h3 := hb.few
          omega
        refine lc_it (n := acc.length) (fun j H' => Same H5 H' ∧ H' D2 = some (.lst (((onRing rch c.head c.goals).take j).map fun g => V.bl g.1)))
          ⟨same_upd nD2, upd_same⟩ (fun j H' hj h => go_l (SqL.of (h.1 _ _ hD)) hj) (fun H' h => stop_l (SqL.of (h.1 _ _ hD))) (fun j H' hj h x H7 hy => ?_) (fun H' h => ?_)
        · obtain ⟨s6, hD6⟩ := h
          obtain ⟨rfl, hx⟩ := yld_l (SqL.of (s6 _ _ hD)) hy
          obtain ⟨g, hgj, t3, u, rfl, ht3, gv⟩ := paired_get hacc hx
          refine ⟨t3, _, rfl, SqT.of (s6 _ _ ht3), rfl, _, _, rfl, _, _, rfl, rfl, rfl, ?_⟩
          refine yesT ?_
          refine ⟨_, rfl, u, g, rfl, gv.same s6, rfl, ?_⟩
          have e2 : decide (V.str (kd g) = V.str "not") = g.1 := by
            unfold kd
            cases g.1 with
            | true => exact decide_eq_true rfl
            | false => exact decide_eq_false (by decide)
          rw [e2]
          refine ⟨_, hD6, by rw [List.length_map, List.length_take, sizeLine_eq]; omega, same_new s6 nD2, ?_⟩
          rw [upd_same, List.take_add_one, hgj]
          simp
        · obtain ⟨s6, hD6⟩ := h
          have e1 : (onRing rch c.head c.goals).take acc.length = onRing rch c.head c.goals := List.take_of_length_le (by omega)
          rw [e1] at hD6
          have s7 := (s4.trans s5).trans s6
          refine ⟨D2, (onRing rch c.head c.goals).map fun g => g.1, rfl, SqL.of (by rw [hD6, List.map_map]; rfl), ?_⟩
          have e2 : (((onRing rch c.head c.goals).map fun g => g.1).any id) = notIn rch c := by rw [List.any_map]; rfl
          rw [e2]
          refine ⟨_, rfl, ite2 (fun z => ?_) fun z => ?_⟩
          · refine mk_err rfl fun d H8 s8 hd8 => qN c hfd (find_at hfd2 hci z) _ _ ⟨fun b o e n => s8 _ _ (s7 _ _ (hthr b o e n)), d, rfl, hd8⟩
          · exact ⟨_, rfl, s7, find_next hfd2 hci (by simpa using z)⟩
      · obtain ⟨z1, rfl, s4, hfd2⟩ := h
        rw [hlen, List.take_length] at hfd2
        exact ⟨s4 _ _ hpbL, q hfd hfd2 _ (s40.trans (hfin _ s4))⟩
end
end G3

/-! A rule that the layer lacks: a local name set to a dict comprehension on its own line. -/
namespace G3
open PySem PySem.Spec PyProof.Rows L2
theorem ps_setDc {X : Cx} {j : Nat} {z : Str} {p1 p2 p3 : Pos} {ke ve tgt src : Expr} {cs : List Expr} {sco : Scope} {mine : List (Str × Nat)} {wi : TI} {g : TG} {tt : TT} {tk tv : TE}
    (calm : X.calm = true) (nd : X.N.Nodup) (hj : X.N[j]? = some z) (loc : X.env.scope.names.lookup z = some .local) (sw : swapsWith (.DictComp ke ve [⟨tgt, src, cs, 0⟩] sco p2) (some (.Name z p1)) p3.line X.env = pure true)
    (pi : PI X tgt src wi) (blk : BlkOk X.N X.env.scope sco mine)
    (pg : ∀ (s : Shared) (H : Hp) (C : Addr) (cl : List (Str × Addr)) (fp : List Addr), PG (X.blk s H sco (compEnvC sco cl C X.env) fp) tgt g)
    (pt : ∀ (s : Shared) (H : Hp) (C : Addr) (cl : List (Str × Addr)) (fp : List Addr), PTs (X.blk s H sco (compEnvC sco cl C X.env) fp) cs tt)
    (pk : ∀ (s : Shared) (H : Hp) (C : Addr) (cl : List (Str × Addr)) (fp : List Addr), PE (X.blk s H sco (compEnvC sco cl C X.env) fp) ke tk)
    (pv : ∀ (s : Shared) (H : Hp) (C : Addr) (cl : List (Str × Addr)) (fp : List Addr), PE (X.blk s H sco (compEnvC sco cl C X.env) fp) ve tv)
    (fold : ∀ x, foldedSetIterable src X.env x = pure x := by intro _; rfl) :
    PS X (.Assign [.Name z p1] (.DictComp ke ve [⟨tgt, src, cs, 0⟩] sco p2) p3) (tAsg (tDc wi g tt tk tv (mine.map (·.2))) (gName j)) := by
  constructor
  intro pins s σ H D I q
  have q' : tDc wi g tt tk tv (mine.map (·.2)) σ H (fun v H1 => D.nx (σ.set j (some v)) H1) := q
  rw [exec_Assign_Name_used _ _ _ _ sw]
  apply wpAny_bind
  apply wpAny_standAt
  apply wpAny_bind
  change wpAny _ X.A (do
    let _ ← comprehension (.DictComp ke ve [⟨tgt, src, cs, 0⟩] sco p2) sco X.env (firstIterPos [⟨tgt, src, cs, 0⟩] p2) newDict false (eval src X.env) (some (assign (.Name z p1) X.env))) _ _ s
  apply wpAny_bind
  refine thn (dc_core (Qf := fun _ s' => SP X pins D .next s') calm nd I pi blk pg pt pk pv fold q' ?_) (fun _ _ k => wpAny_pure (wpAny_pure k))
  intro L C s' m H' J k ns fr
  change wpAny _ _ (assign (.Name z p1) X.env (.ref L)) _ _ _
  refine wpAny_assign_Name (store_ok2 (v := V.ref L) J nd hj (.inl loc) rfl ?_ (.inr loc))
  rintro s2 J2 ⟨a, same, ha⟩
  obtain ⟨e0, e1, e2, e3, e4, e5⟩ := fr
  have apart : C ≠ a := ha.elim (fun e => e ▸ e1) (fun e => fun c => e4 z a e c.symm)
  exact ⟨m, ns.sameBut same apart, fun h3 same3 => ⟨_, H', J2.turned (t' := s2.toks) (fun b o hb e => (same3.2 b hb).trans e) e0 e1 e3 e4 e5, k⟩⟩
end G3

/-! Plain mathematics: titles, sorted lists, the search. -/
namespace G3
open PySem PySem.Spec PyProof.Rows
/-! ### sorted texts -/
def leS (a b : Str) : Prop := ltCps b.cps.toList a.cps.toList = false
theorem leS_iff {a b : Str} : leS a b ↔ a.cps.toList ≤ b.cps.toList := by
  unfold leS
  rw [ltCps_eq, decide_eq_false_iff_not]
  exact List.not_lt
theorem leS_trans {a b c : Str} (h : leS a b) (k : leS b c) : leS a c := leS_iff.mpr (List.le_trans (leS_iff.mp h) (leS_iff.mp k))
theorem leS_anti {a b : Str} (h : leS a b) (k : leS b a) : a = b := by
  have e := List.le_antisymm (leS_iff.mp h) (leS_iff.mp k)
  cases a with
  | mk x =>
    cases b with
    | mk y =>
      congr 1
      exact Array.toList_inj.mp e
theorem rising_all : ∀ (l : List Str) (p : Str), risingS p l = true → (∀ y ∈ l, leS p y) ∧ sortedS l = true
  | [], _, _ => ⟨fun _ m => (nomatch m), rfl⟩
  | x :: r, p, h => by
    unfold risingS at h
    rw [Bool.and_eq_true] at h
    have hx : leS p x := by
      unfold leS
      have := h.1
      simpa using this
    obtain ⟨h1, h2⟩ := rising_all r x h.2
    refine ⟨fun y m => ?_, h.2⟩
    rcases List.mem_cons.mp m with e | m
    · rw [e]; exact hx
    · exact leS_trans hx (h1 y m)
theorem sorted_cons {x : Str} {r : List Str} (h : sortedS (x :: r) = true) : (∀ y ∈ r, leS x y) ∧ sortedS r = true := rising_all r x h
theorem leS_refl (a : Str) : leS a a := leS_iff.mpr (List.le_refl _)
theorem sorted_eq : ∀ (xs ys : List Str), xs.Perm ys → sortedS xs = true → sortedS ys = true → xs = ys
  | [], ys, p, _, _ => (List.nil_perm.mp p).symm
  | x :: r, [], p, _, _ => by have := p.length_eq; simp at this
  | x :: r, y :: t, p, hx, hy => by
    obtain ⟨a1, a2⟩ := sorted_cons hx
    obtain ⟨b1, b2⟩ := sorted_cons hy
    have h1 : leS x y := by
      have m : y ∈ x :: r := p.mem_iff.mpr (by simp)
      rcases List.mem_cons.mp m with e | m
      · rw [e]; exact leS_refl _
      · exact a1 y m
    have h2 : leS y x := by
      have m : x ∈ y :: t := p.mem_iff.mp (by simp)
      rcases List.mem_cons.mp m with e | m
      · rw [e]; exact leS_refl _
      · exact b1 x m
    obtain rfl := leS_anti h1 h2
    rw [sorted_eq r t (List.perm_cons x |>.mp p) a2 b2]
/-! ### lists without twins -/
theorem nodup_le {α : Type} [DecidableEq α] : ∀ (l ws : List α), l.Nodup → (∀ x ∈ l, x ∈ ws) → l.length ≤ ws.length
  | [], _, _, _ => Nat.zero_le _
  | a :: r, ws, h, s => by
    rw [List.nodup_cons] at h
    have ha := s a (by simp)
    have ih := nodup_le r (ws.erase a) h.2 fun x m => (List.mem_erase_of_ne (fun e : x = a => h.1 (by rw [← e]; exact m))).mpr (s x (by simp [m]))
    rw [List.length_erase_of_mem ha] at ih
    have : 0 < ws.length := List.length_pos_of_mem ha
    rw [List.length_cons]
    omega
theorem nd1 {α : Type} (a : α) : [a].Nodup := List.nodup_cons.mpr ⟨(fun m => nomatch m), List.nodup_nil⟩
/-! ### the search -/
section
variable {α : Type} [DecidableEq α]
def adj (ls : List (Lk α)) (x : α) : List α := (ls.filter fun l => decide (l.1 = x)).map (·.2.1)
theorem mem_adj {ls : List (Lk α)} {x y : α} : y ∈ adj ls x ↔ ∃ b, (x, y, b) ∈ ls := by
  unfold adj
  constructor
  · intro h
    obtain ⟨l, m, rfl⟩ := List.mem_map.mp h
    rw [List.mem_filter] at m
    obtain ⟨m, e⟩ := m
    obtain rfl := of_decide_eq_true e
    exact ⟨l.2.2, m⟩
  · rintro ⟨b, m⟩
    exact List.mem_map.mpr ⟨(x, y, b), List.mem_filter.mpr ⟨m, decide_eq_true rfl⟩, rfl⟩
/-- found F, waiting W, here being worked on as far as pre -/
structure Dfs (ls : List (Lk α)) (ws : List α) (t : α) (F W : List α) (here : Option α) (pre : List α) : Prop where
  nodup : F.Nodup
  t_in : t ∈ F
  sub : ∀ x ∈ F, x ∈ ws
  wsub : ∀ x ∈ W, x ∈ F
  rch : ∀ x ∈ F, Rch ls t x
  hin : ∀ h, here = some h → h ∈ F
  closed : ∀ x ∈ F, x ∉ W → here ≠ some x → ∀ y ∈ adj ls x, y ∈ F
  pre_in : ∀ y ∈ pre, y ∈ F
variable {ls : List (Lk α)} {ws F W : List α} {t h y : α} {pre : List α}
theorem Dfs.start (ht : t ∈ ws) : Dfs ls ws t [t] [t] none [] :=
  ⟨nd1 _, List.mem_singleton.mpr rfl, fun x m => by rw [List.mem_singleton] at m; rw [m]; exact ht, fun _ m => m, fun x m => by rw [List.mem_singleton] at m; rw [m]; exact .refl, nofun,
    fun x m n => absurd m n, fun _ m => nomatch m⟩
theorem Dfs.pop (d : Dfs ls ws t F (W ++ [h]) none []) : Dfs ls ws t F W (some h) [] :=
  ⟨d.nodup, d.t_in, d.sub, fun x m => d.wsub x (by simp [m]), d.rch, fun x e => by cases e; exact d.wsub h (by simp),
    fun x m n e => d.closed x m (fun z => by rcases List.mem_append.mp z with z | z
                                             · exact n z
                                             · rw [List.mem_singleton] at z; exact e (by rw [z])) nofun, fun _ m => nomatch m⟩
theorem Dfs.old (d : Dfs ls ws t F W (some h) pre) (hy : y ∈ F) : Dfs ls ws t F W (some h) (pre ++ [y]) :=
  ⟨d.nodup, d.t_in, d.sub, d.wsub, d.rch, d.hin, d.closed, fun x m => by
    rcases List.mem_append.mp m with m | m
    · exact d.pre_in x m
    · rw [List.mem_singleton] at m
      rw [m]; exact hy⟩
theorem Dfs.new (d : Dfs ls ws t F W (some h) pre) (hy : y ∉ F) (hw : y ∈ ws) (ha : y ∈ adj ls h) : Dfs ls ws t (F ++ [y]) (W ++ [y]) (some h) (pre ++ [y]) where
  nodup := by
    rw [List.nodup_append]
    refine ⟨d.nodup, nd1 _, fun a m b m2 e => ?_⟩
    rw [List.mem_singleton] at m2
    rw [e, m2] at m
    exact hy m
  t_in := by simp [d.t_in]
  sub := fun x m => by
    rcases List.mem_append.mp m with m | m
    · exact d.sub x m
    · rw [List.mem_singleton] at m; rw [m]; exact hw
  wsub := fun x m => by
    rcases List.mem_append.mp m with m | m
    · exact List.mem_append_left _ (d.wsub x m)
    · exact List.mem_append_right _ m
  rch := fun x m => by
    rcases List.mem_append.mp m with m | m
    · exact d.rch x m
    · rw [List.mem_singleton] at m
      rw [m]
      obtain ⟨b, hb⟩ := mem_adj.mp ha
      exact .step (d.rch h (d.hin h rfl)) hb
  hin := fun x e => List.mem_append_left _ (d.hin x e)
  closed := fun x m n e z hz => by
    rcases List.mem_append.mp m with m | m
    · exact List.mem_append_left _ (d.closed x m (fun q => n (List.mem_append_left _ q)) e z hz)
    · exact absurd (List.mem_append_right _ m) n
  pre_in := fun x m => by
    rcases List.mem_append.mp m with m | m
    · exact List.mem_append_left _ (d.pre_in x m)
    · exact List.mem_append_right _ m
theorem Dfs.done (d : Dfs ls ws t F W (some h) (adj ls h)) : Dfs ls ws t F W none [] :=
  ⟨d.nodup, d.t_in, d.sub, d.wsub, d.rch, nofun, fun x m n _ y hy => by
    by_cases e : x = h
    · subst e
      exact d.pre_in y hy
    · exact d.closed x m n (fun z => e (Option.some.inj z).symm) y hy, fun _ m => nomatch m⟩
theorem Dfs.few (d : Dfs ls ws t F W o pre) : F.length ≤ ws.length := nodup_le F ws d.nodup d.sub
theorem Dfs.end (d : Dfs ls ws t F [] none []) (x : α) : x ∈ F ↔ Rch ls t x :=
  ⟨d.rch x, fun r => Rch.closed (S := fun x => x ∈ F) d.t_in (fun b c _ hm hb => d.closed b hb (fun z => nomatch z) nofun c (mem_adj.mpr ⟨_, hm⟩)) r⟩
end
end G3

/-! Walks: what is reached, the heights. -/
namespace G3
open PySem PySem.Spec PyProof.Rows L2
/-! ### dicts by a key function -/
def kT (x : Str) : Key := .inr (tt x)
def kW (x : Str) : Key := .inr x
theorem tt_inj {x y : Str} (h : tt x = tt y) : x = y := by
  have e : x.cps ++ ("/0" : Str).cps = y.cps ++ ("/0" : Str).cps := congrArg Str.cps h
  have e2 := Array.append_right_inj (#[] : Array Nat) |>.mp (congrArg (fun z => #[] ++ z) e)
  have e3 : x.cps = y.cps := by
    have := congrArg Array.toList e2
    rw [Array.toList_append, Array.toList_append] at this
    exact Array.toList_inj.mp (List.append_cancel_right this)
  cases x; cases y
  exact congrArg Str.mk e3
def Inj (κ : Str → Key) : Prop := ∀ x y, κ x = κ y → x = y
theorem kT_inj : Inj kT := fun x y h => tt_inj (Sum.inr.inj h)
theorem kW_inj : Inj kW := fun x y h => Sum.inr.inj h
def dmap (κ : Str → Key) (ks : List Str) (f : Str → V) : List (Key × V) := ks.map fun x => (κ x, f x)
theorem dmap_length {κ : Str → Key} {ks : List Str} {f : Str → V} : (dmap κ ks f).length = ks.length := List.length_map _
theorem valV_dmap {κ : Str → Key} (hκ : Inj κ) (f : Str → V) (y : Str) : ∀ ks : List Str, valV (dmap κ ks f) (κ y) = if y ∈ ks then some (f y) else none
  | [] => by rw [if_neg (fun m => nomatch m)]; rfl
  | x :: r => by
    by_cases e : x = y
    · subst e
      rw [if_pos (by simp)]
      exact valV_pos (p := (κ x, f x)) rfl
    · have h1 : ¬ (κ x = κ y) := fun z => e (hκ x y z)
      have h2 := valV_dmap hκ f y r
      show valV ((κ x, f x) :: dmap κ r f) (κ y) = _
      rw [valV_neg (p := (κ x, f x)) h1, h2]
      by_cases m : y ∈ r
      · rw [if_pos m, if_pos (by simp [m])]
      · rw [if_neg m, if_neg (by simp [m, Ne.symm e])]
theorem dmap_congr {κ : Str → Key} {ks : List Str} {f g : Str → V} (h : ∀ x ∈ ks, f x = g x) : dmap κ ks f = dmap κ ks g := by
  unfold dmap
  exact List.map_congr_left fun x m => by rw [h x m]
theorem putK_dmap_new {κ : Str → Key} (hκ : Inj κ) {ks : List Str} {f : Str → V} {y : Str} {v : V} (h : y ∉ ks) : putK (dmap κ ks f) (κ y) v = dmap κ (ks ++ [y]) (fun x => if x = y then v else f x) := by
  rw [putK_new _ (by rw [valV_dmap hκ, if_neg h])]
  have e : dmap κ ks f = dmap κ ks (fun x => if x = y then v else f x) := dmap_congr fun x m => by rw [if_neg (fun z => h (by rw [← z]; exact m))]
  rw [e]
  unfold dmap
  rw [List.map_append]
  simp
theorem putK_dmap_old {κ : Str → Key} (hκ : Inj κ) {ks : List Str} {f : Str → V} {y : Str} {v : V} (h : y ∈ ks) : putK (dmap κ ks f) (κ y) v = dmap κ ks (fun x => if x = y then v else f x) := by
  have a : ((dmap κ ks f).any fun kv => decide (kv.1 = κ y)) = true := by rw [valV_any, valV_dmap hκ, if_pos h]; rfl
  unfold putK
  rw [if_pos a]
  unfold dmap
  rw [List.map_map]
  refine List.map_congr_left fun x _ => ?_
  show (if κ x = κ y then (κ x, v) else (κ x, f x)) = (κ x, if x = y then v else f x)
  by_cases e : x = y
  · rw [if_pos (by rw [e]), if_pos e]
  · rw [if_neg (fun z => e (hκ x y z)), if_neg e]
def vT (x : Str) : V := .str (tt x)
/-- asks: each title's list of the titles it asks -/
def Asks (ls : List (Lk Str)) (ws : List Str) (H : Hp) (kvs : List (Key × V)) : Prop := ∀ x ∈ ws, ∃ l, valV kvs (kT x) = some (.ref l) ∧ H l = some (.lst ((adj ls x).map vT))
/-- the reach of t, sorted -/
def IsReach (ls : List (Lk Str)) (t : Str) (ys : List Str) : Prop := ∃ F : List Str, F.Nodup ∧ (∀ x, x ∈ F ↔ Rch ls t x) ∧ ys.Perm (F.map tt) ∧ sortedS ys = true
section
variable {P : Program} {w : World} {K : PySem.W.Frag} {mg : Str → Option Value} {base : Heap} {C M N : Addr}
abbrev nReach : List Str := ["asks", "title", "found", "waiting", "here", "other"]
theorem sc_reach : FnScope nReach ["asks", "title"] (defScope s_reached_from) := ⟨rfl, rfl, rfl, by decide +kernel, rfl, by decide +kernel, by decide +kernel⟩
def spReach : Sp := fun vs H Q _ => ∃ pa t kvs ls ws, vs = [.ref pa, vT t] ∧ Rd H pa (.dK kvs) ∧ Asks ls ws H kvs ∧ (∀ l ∈ ls, l.1 ∈ ws ∧ l.2.1 ∈ ws) ∧ t ∈ ws ∧ ws.length < 64 ∧
  ∀ H' D ys, Same H H' → H D = none → H' D = some (.lst (ys.map V.str)) → IsReach ls t ys → Q (.ref D) H'
theorem reached_from_ok (T : Tx K mg w C M N) : Cal P w K mg base 1 "reached_from" ["asks", "title"] spReach := by
  refine T.d_reached_from.cal sc_reach (fun vs H Q E h => ?_) (fun f cdv A outer s H vs Q E hr h => ?_)
  · obtain ⟨pa, t, kvs, ls, ws, rfl, _⟩ := h
    rfl
  · obtain ⟨pa, t, kvs, ls, ws, rfl, hpa, hA, hls, ht, h64, q⟩ := h
    refine ⟨_, pss_cons (ps_set (i := 2) sc_reach.nd rfl (.inl rfl) (pe_disp (pps_cons (pv 1) pe_bl pps_nil) rfl rfl (by decide) (by decide)))
      (pss_cons (ps_set (i := 3) sc_reach.nd rfl (.inl rfl) (pe_lst (pa_cons (pv 1) pa_nil)))
      (pss_cons (ps_while PassesOwn.never (pt_truth (pv 3) fun _ => rfl)
        (pss_cons (ps_set (i := 4) sc_reach.nd rfl (.inl rfl) (pe_bm0 PySem.F.plainAttrs_list PySem.F.slot_list_pop PySem.F.type_list_pop mt_pop (pv 3)))
        (pss_one (ps_for PassesOwn.never rfl (pi_list (pe_dget (u1 hr) (pv 0) (pv 4) (fun _ _ => rfl))) (pg_name (i := 5) sc_reach.nd rfl (.inl rfl))
          (pss_one (ps_if (pt_cmp (pc_dnotin (u1 hr) (pv 5) (pv 2)))
            (pss_cons (ps_dput (u1 hr) (pv 2) (pv 5) pe_bl rfl)
            (pss_one (ps_expr (pe_bm PySem.F.plainAttrs_list PySem.F.slot_list_append PySem.F.type_list_append mt_append (pv 3) (pa_cons (pv 5) pa_nil))))) pss_nil))))))
      (pss_one (ps_ret (pe_callB (call_sortedD rfl) (by rfl) T.n_sorted (by decide +kernel) (pa_cons (pv 2) pa_nil)))))), ?_⟩
    intro pf npf
    refine ⟨_, rfl, ?_⟩
    refine ⟨upd_same, [(kT t, .bl true)], rfl, by show 1 ≤ 15; decide, ?_⟩
    have hm0 : mergeK [] [(kT t, V.bl true)] = dmap kT [t] (fun _ => .bl true) := rfl
    rw [hm0, upd_upd]
    refine ⟨_, rfl, by show 1 ≤ sizeLine; decide, fun pw npw => ?_⟩
    have s1 := (same_upd (o := .dK (dmap kT [t] (fun _ => .bl true))) npf).trans (same_upd (o := .lst [vT t]) npw)
    have hpf1 : upd (upd H pf (.dK (dmap kT [t] (fun _ => .bl true)))) pw (.lst [vT t]) pf = some (.dK (dmap kT [t] (fun _ => .bl true))) := upd_at upd_same (ne_of_none upd_same npw)
    have npw0 : H pw = none := (same_upd npf).free npw
    refine ⟨fun m σ H' => ∃ z4 z5 F W, σ = [some (.ref pa), some (vT t), some (.ref pf), some (.ref pw), z4, z5] ∧ Same H H' ∧ H' pf = some (.dK (dmap kT F (fun _ => .bl true))) ∧ H' pw = some (.lst (W.map vT)) ∧ Dfs ls ws t F W none [] ∧ W.length ≤ F.length ∧ 2 * (ws.length - F.length) + W.length = m,
      ⟨_, none, none, [t], [t], rfl, s1, hpf1, upd_same, Dfs.start ht, Nat.le_refl _, rfl⟩, fun m σ H' h => ?_⟩
    obtain ⟨z4, z5, F, W, rfl, s2, hF, hW, hD, hwl, rfl⟩ := h
    refine ⟨_, rfl, _, .inl ⟨_, SqL.of hW, rfl⟩, ?_⟩
    rcases List.eq_nil_or_concat W with rfl | ⟨W0, here, rfl⟩
    · refine iteF ?_
      refine ⟨_, rfl, pf, _, F.map tt, rfl, .inl hF, ?_, by rw [List.length_map]; have := hD.few; omega, fun ys p hp hs np => ?_⟩
      · unfold dmap
        rw [List.map_map, List.map_map]
        rfl
      · exact q _ p ys (s2.trans (same_upd np)) (s2.free np) upd_same ⟨F, hD.nodup, hD.end, hp, hs⟩
    · rw [List.concat_eq_append] at hW hwl hD ⊢
      have hne : (!((W0 ++ [here]).map vT).isEmpty) = true := by simp
      rw [hne]
      refine iteT ?_
      have hDp := hD.pop
      have hhere : here ∈ ws := hD.sub _ (hDp.hin here rfl)
      obtain ⟨l, hvl, hl⟩ := hA here hhere
      refine ⟨fun σ' H' => ∃ z4 z5 F' W', σ' = [some (.ref pa), some (vT t), some (.ref pf), some (.ref pw), z4, z5] ∧ Same H H' ∧ H' pf = some (.dK (dmap kT F' (fun _ => .bl true))) ∧ H' pw = some (.lst (W'.map vT)) ∧ Dfs ls ws t F' W' none [] ∧ W'.length ≤ F'.length ∧ 2 * (ws.length - F'.length) + W'.length < 2 * (ws.length - F.length) + (W0 ++ [here]).length,
        fun σ' H' h => ?_, ?_⟩
      · obtain ⟨z4, z5, F', W', rfl, a, b, c, d, e, g⟩ := h
        exact ⟨_, g, _, _, F', W', rfl, a, b, c, d, e, rfl⟩
      have hdl : ((W0 ++ [here]).map vT).dropLast = W0.map vT := by rw [List.map_append]; simp
      refine ⟨_, rfl, .inl ⟨rfl, _, SqL.of hW⟩, pw, _, vT here, rfl, rfl, hW, ?_, ?_⟩
      · rw [List.length_map, List.length_append, List.map_append]
        simp
      rw [hdl]
      have hpwF : pf ≠ pw := ne_of_some hF hW fun z => nomatch z
      have s3 : Same H (upd H' pw (.lst (W0.map vT))) := same_new s2 npw0
      have hF3 : upd H' pw (.lst (W0.map vT)) pf = some (.dK (dmap kT F (fun _ => .bl true))) := upd_at hF hpwF
      refine ⟨_, rfl, _, rfl, pa, _, rfl, by rw [← hvl]; exact dget_of (rdSame s3 hpa) (tt here), l, rfl, ⟨_, SqL.of (s3 _ _ hl)⟩, ?_⟩
      refine for_it (n := (adj ls here).length) (fun i σ H' => ∃ z5 F' W', σ = [some (.ref pa), some (vT t), some (.ref pf), some (.ref pw), some (vT here), z5] ∧ Same H H' ∧ H' pf = some (.dK (dmap kT F' (fun _ => .bl true))) ∧ H' pw = some (.lst (W'.map vT)) ∧
          Dfs ls ws t F' W' (some here) ((adj ls here).take i) ∧ W'.length ≤ F'.length ∧ 2 * (ws.length - F'.length) + W'.length ≤ 2 * (ws.length - F.length) + W0.length)
        ⟨z5, F, W0, rfl, s3, hF3, upd_same, hDp, by rw [List.length_append] at hwl; omega, Nat.le_refl _⟩ (fun i σ H' hi h => ?_) (fun σ H' h => ?_) (fun i σ H' hi h x H3 hy => ?_) (fun σ H' h => ?_)
      · obtain ⟨_, _, _, _, s4, _⟩ := h
        exact go_l (SqL.of (s4 _ _ hl)) (by rw [List.length_map]; exact hi)
      · obtain ⟨_, _, _, _, s4, _⟩ := h
        have := stop_l (K := K) (SqL.of (s4 _ _ hl))
        rw [List.length_map] at this
        exact this
      · obtain ⟨z5, F', W', rfl, s4, hF4, hW4, hD4, hl4, hm4⟩ := h
        obtain ⟨rfl, hx⟩ := yld_l (SqL.of (s4 _ _ hl)) hy
        rw [List.getElem?_map] at hx
        obtain ⟨y, hyi, rfl⟩ : ∃ y, (adj ls here)[i]? = some y ∧ x = vT y := by
          cases hq : (adj ls here)[i]? with
          | none => rw [hq] at hx; cases hx
          | some y => rw [hq] at hx; exact ⟨y, rfl, (Option.some.inj hx).symm⟩
        have hya : y ∈ adj ls here := List.mem_of_getElem? hyi
        have hyw : y ∈ ws := by
          obtain ⟨b, hb⟩ := mem_adj.mp hya
          exact (hls _ hb).2
        have htk : (adj ls here).take (i + 1) = (adj ls here).take i ++ [y] := by rw [List.take_add_one, hyi]; rfl
        refine ⟨_, rfl, _, rfl, pf, _, rfl, dget_of (.inl hF4) (tt y), _, rfl, ?_⟩
        have hv := valV_dmap kT_inj (fun _ => V.bl true) y F'
        unfold kT at hv
        rw [show valV (dmap kT F' fun _ => V.bl true) (Sum.inr (tt y)) = _ from hv]
        by_cases hyF : y ∈ F'
        · rw [if_pos hyF]
          refine iteF ?_
          exact ⟨_, F', W', rfl, s4, hF4, hW4, by rw [htk]; exact hD4.old hyF, hl4, hm4⟩
        · rw [if_neg hyF]
          refine iteT ?_
          have hDn := hD4.new hyF hyw hya
          have hfew := hDn.few
          rw [List.length_append, List.length_singleton] at hfew
          refine ⟨_, rfl, _, rfl, pf, _, rfl, DPut.k (k := kT y) hF4 (by rw [dmap_length, sizeLine_eq]; omega), ?_⟩
          rw [putK_dmap_new kT_inj hyF]
          have hne4 : pw ≠ pf := ne_of_some hW4 hF4 fun z => nomatch z
          refine ⟨_, rfl, .inl ⟨rfl, _, SqL.of (upd_at hW4 hne4)⟩, _, rfl, pw, _, _, rfl, rfl, upd_at hW4 hne4, by rw [List.length_map, sizeLine_eq]; omega, ?_⟩
          refine ⟨_, F' ++ [y], W' ++ [y], rfl, same_new (same_new s4 npf) npw0, ?_, ?_, by rw [htk]; exact hDn, by rw [List.length_append, List.length_append]; omega, by rw [List.length_append, List.length_append, List.length_singleton]; omega⟩
          · refine upd_at ?_ hne4.symm
            rw [upd_same]
            congr 2
            exact dmap_congr fun x _ => by split <;> rfl
          · rw [upd_same, List.map_append]
            rfl
      · obtain ⟨z5, F', W', rfl, s4, hF4, hW4, hD4, hl4, hm4⟩ := h
        rw [List.take_length] at hD4
        exact ⟨_, _, F', W', rfl, s4, hF4, hW4, hD4.done, hl4, by rw [List.length_append, List.length_singleton]; omega⟩
end
end G3

/-! Walks: the heights. -/
namespace G3
open PySem PySem.Spec PyProof.Rows L2
/-- between 0 and every valid choice -/
structure Below {α : Type} (ls : List (Lk α)) (f : α → Int) : Prop where
  nn : ∀ x, 0 ≤ f x
  le : ∀ L : α → Int, (∀ x, 0 ≤ L x) → Valid ls L → ∀ x, f x ≤ L x
theorem Below.zero {α : Type} (ls : List (Lk α)) : Below ls (fun _ => 0) := ⟨fun _ => Int.le_refl _, fun L h _ x => h x⟩
theorem Below.up {α : Type} [DecidableEq α] {ls : List (Lk α)} {f : α → Int} {l : Lk α} (b : Below ls f) (hl : l ∈ ls) : Below ls (up1 f l) :=
  ⟨fun x => Int.le_trans (b.nn x) (up1_ge f l x), fun L h v => up1_le v hl (b.le L h v)⟩
theorem put_int (f : Str → Int) (h : Str) (v : Int) : (fun x => if x = h then V.int v else V.int (f x)) = fun x => V.int (put f h v x) := by
  funext x
  unfold put
  split <;> rfl
section
variable {P : Program} {w : World} {K : PySem.W.Frag} {mg : Str → Option Value} {base : Heap} {C M N : Addr}
abbrev nHts : List Str := ["titles", "links", "title", "heights", "changed", "other", "barred", "least"]
theorem sc_hts : FnScope nHts ["titles", "links"] (defScope s_heights_of) := ⟨rfl, rfl, rfl, by decide +kernel, rfl, by decide +kernel, by decide +kernel⟩
def spHts : Sp := fun vs H Q _ => ∃ pt pl ks acc ls, vs = [.ref pt, .ref pl] ∧ H pt = some (.lst (ks.map vT)) ∧ H pl = some (.lst acc) ∧ LinksV H acc ls ∧ (∀ h g b, (h, g, b) ∈ ls → h ∈ ks ∧ g ∈ ks) ∧ ks.Nodup ∧ ks.length ≤ 1000 ∧ acc.length ≤ 1000 ∧
  (∀ h g, (h, g, true) ∈ ls → ¬ Rch ls g h) ∧
  ∀ H' D f, Same H H' → H D = none → H' D = some (.dK (dmap kT ks fun x => .int (f x))) → Below ls f → Valid ls f → Q (.ref D) H'
theorem heights_of_ok (T : Tx K mg w C M N) : Cal P w K mg base 1 "heights_of" ["titles", "links"] spHts := by
  refine T.d_heights_of.cal sc_hts (fun vs H Q E h => ?_) (fun f cdv A outer s H vs Q E hr h => ?_)
  · obtain ⟨pt, pl, ks, acc, ls, rfl, _⟩ := h
    rfl
  · obtain ⟨pt, pl, ks, acc, ls, rfl, hpt, hpl, hL, hin, hnd, hz, hza, hnr, q⟩ := h
    refine ⟨_, pss_cons (ps_setDc (j := 3) (mine := [("title", 2)]) (g := gName 2) rfl sc_hts.nd rfl rfl rfl (pi_list (pv 0)) (blkOk_by (N := nHts) (sc := defScope s_heights_of) (by decide +kernel))
        (fun _ _ _ _ _ => pg_name (i := 2) sc_hts.nd rfl (.inl rfl) (.inr rfl)) (fun _ _ _ _ _ => pts_nil) (fun _ _ _ _ _ => pv 2) (fun _ _ _ _ _ => pe_int))
      (pss_cons (ps_set (i := 4) sc_hts.nd rfl (.inl rfl) pe_bl)
      (pss_cons (ps_while PassesOwn.never (pt_val (pv 4))
        (pss_cons (ps_set (i := 4) sc_hts.nd rfl (.inl rfl) pe_bl)
        (pss_one (ps_for PassesOwn.never rfl (pi_list (pv 1)) (pg_tup rfl (pgs_cons (pg_name (i := 2) sc_hts.nd rfl (.inl rfl)) (pgs_cons (pg_name (i := 5) sc_hts.nd rfl (.inl rfl)) (pgs_cons (pg_name (i := 6) sc_hts.nd rfl (.inl rfl)) pgs_nil))))
          (pss_cons (ps_set (i := 7) sc_hts.nd rfl (.inl rfl) (pe_op op_add (pe_dget (u1 hr) (pv 3) (pv 5) (fun _ _ => rfl)) (pe_callTy call_int1 (by rfl) T.n_int (by decide +kernel) (pa_cons (pv 6) pa_nil))))
          (pss_one (ps_if (pt_cmp (pc_lt (pe_dget (u1 hr) (pv 3) (pv 2) (fun _ _ => rfl)) (pv 7)))
            (pss_cons (ps_dput (u1 hr) (pv 3) (pv 2) (pv 7) rfl) (pss_one (ps_set (i := 4) sc_hts.nd rfl (.inl rfl) pe_bl))) pss_nil)))))))
      (pss_one (ps_ret (pv 3))))), ?_⟩
    obtain ⟨L, L0, Lv, _⟩ := layered (ws := ks) hnr hin
    refine ⟨_, rfl, pt, rfl, ⟨_, SqL.of hpt⟩, fun D nD => ?_⟩
    refine dc_it (n := ks.length) (fun i H' => Same H H' ∧ H' D = some (.dK (dmap kT (ks.take i) fun _ => .int 0))) ⟨same_upd nD, upd_same⟩
      (fun i H' hi h => go_l (SqL.of (h.1 _ _ hpt)) (by rw [List.length_map]; exact hi)) (fun H' h => by
        have := stop_l (K := K) (SqL.of (h.1 _ _ hpt))
        rw [List.length_map] at this
        exact this) (fun i H' hi h x H3 hy => ?_) (fun H' h => ?_)
    · obtain ⟨s4, hD⟩ := h
      obtain ⟨rfl, hx⟩ := yld_l (SqL.of (s4 _ _ hpt)) hy
      have hki : ks[i]? = some ks[i] := List.getElem?_eq_getElem hi
      rw [List.getElem?_map, hki] at hx
      obtain rfl : vT ks[i] = x := Option.some.inj hx
      refine ⟨rfl, ?_⟩
      refine yesT ?_
      refine ⟨_, rfl, _, kT ks[i], rfl, hD, by rw [dmap_length, List.length_take, sizeLine_eq]; omega, same_new s4 nD, ?_⟩
      have hnew : ks[i] ∉ ks.take i := by
        have e : ks.take (i + 1) = ks.take i ++ [ks[i]] := by rw [List.take_add_one, hki]; rfl
        have nd : (ks.take (i + 1)).Nodup := hnd.sublist (List.take_sublist _ _)
        rw [e, List.nodup_append] at nd
        exact fun m => nd.2.2 _ m _ (List.mem_singleton.mpr rfl) rfl
      rw [upd_same, putK_dmap_new kT_inj hnew, List.take_add_one, hki]
      congr 2
      exact dmap_congr fun x _ => by split <;> rfl
    · obtain ⟨s4, hD⟩ := h
      rw [List.take_length] at hD
      refine ⟨fun m σ H' => ∃ z2 z5 z6 z7 ch f, σ = [some (.ref pt), some (.ref pl), z2, some (.ref D), some (.bl ch), z5, z6, z7] ∧ Same H H' ∧ H' D = some (.dK (dmap kT ks fun x => .int (f x))) ∧ Below ls f ∧ (ch = false → Valid ls f) ∧ 2 * (total ks L - total ks f).toNat + (if ch = true then 1 else 0) = m,
        ⟨_, none, none, none, none, true, fun _ => 0, rfl, s4, hD, Below.zero ls, nofun, rfl⟩, fun m σ H1 h => ?_⟩
      obtain ⟨z2, z5, z6, z7, ch, f0, rfl, s5, hD5, hb, hv, rfl⟩ := h
      refine ⟨_, rfl, ch, rfl, ite2 (fun hch => ?_) fun hch => ?_⟩
      · subst hch
        refine ⟨fun σ H' => ∃ z2 z5 z6 z7 ch' f, σ = [some (.ref pt), some (.ref pl), z2, some (.ref D), some (.bl ch'), z5, z6, z7] ∧ Same H H' ∧ H' D = some (.dK (dmap kT ks fun x => .int (f x))) ∧ Below ls f ∧ (ch' = false → Valid ls f) ∧ 2 * (total ks L - total ks f).toNat + (if ch' = true then 1 else 0) < 2 * (total ks L - total ks f0).toNat + 1,
          fun σ' H' h => ?_, ?_⟩
        · obtain ⟨z2, z5, z6, z7, ch', f1, rfl, a, b, c, d, e⟩ := h
          exact ⟨_, e, z2, z5, z6, z7, ch', f1, rfl, a, b, c, d, rfl⟩
        refine ⟨_, rfl, pl, rfl, ⟨_, SqL.of (s5 _ _ hpl)⟩, ?_⟩
        refine for_it (n := acc.length) (fun i σ H' => ∃ z2 z5 z6 z7 ch f, σ = [some (.ref pt), some (.ref pl), z2, some (.ref D), some (.bl ch), z5, z6, z7] ∧ Same H H' ∧ H' D = some (.dK (dmap kT ks fun x => .int (f x))) ∧ Below ls f ∧ Swp ks f0 f (ls.take i) ch)
          ⟨z2, z5, z6, z7, false, f0, rfl, s5, hD5, hb, Swp.start ks f0⟩ (fun i σ H' hi h => ?_) (fun σ H' h => ?_) (fun i σ H' hi h x H3 hy => ?_) (fun σ H' h => ?_)
        · obtain ⟨_, _, _, _, _, _, _, s6, _⟩ := h
          exact go_l (SqL.of (s6 _ _ hpl)) hi
        · obtain ⟨_, _, _, _, _, _, _, s6, _⟩ := h
          exact stop_l (SqL.of (s6 _ _ hpl))
        · obtain ⟨z2, z5, z6, z7, ch, f1, rfl, s6, hD6, hb6, hs6⟩ := h
          obtain ⟨rfl, hx⟩ := yld_l (SqL.of (s6 _ _ hpl)) hy
          obtain ⟨l, hli, t, rfl, ht⟩ := paired_get hL hx
          have hlm : l ∈ ls := List.mem_of_getElem? hli
          obtain ⟨hh, hg⟩ := hin l.1 l.2.1 l.2.2 hlm
          have htk : ls.take (i + 1) = ls.take i ++ [l] := by rw [List.take_add_one, hli]; rfl
          have hnx := hs6.next (l := l) hh
          have hbx := hb6.up hlm
          have hv1 : ∀ y ∈ ks, valV (dmap kT ks fun x => .int (f1 x)) (.inr (tt y)) = some (.int (f1 y)) := fun y m => (valV_dmap kT_inj _ y ks).trans (if_pos m)
          refine ⟨t, _, rfl, SqT.of (s6 _ _ ht), rfl, _, _, rfl, _, _, rfl, _, _, rfl, rfl, ?_⟩
          refine ⟨_, rfl, _, rfl, D, _, rfl, by rw [← hv1 _ hg]; exact dget_of (.inl hD6) _, _, rfl, .inr ⟨_, rfl, ?_⟩⟩
          refine ⟨_, _, rfl, rfl, ?_⟩
          refine ⟨_, rfl, _, rfl, D, _, rfl, by rw [← hv1 _ hh]; exact dget_of (.inl hD6) _, _, rfl, _, _, rfl, rfl, _, rfl, ?_⟩
          have eb : (if l.2.2 = true then (1 : Int) else 0) = b2 l.2.2 := rfl
          rw [eb]
          refine ite2 (fun hlt => ?_) fun hlt => ?_
          · have hlt' : f1 l.1 < f1 l.2.1 + b2 l.2.2 := of_decide_eq_true hlt
            refine ⟨_, rfl, _, rfl, _, rfl, D, _, rfl, DPut.k (k := kT l.1) hD6 (by rw [dmap_length, sizeLine_eq]; omega), ?_⟩
            rw [putK_dmap_old kT_inj hh, put_int]
            refine ⟨_, _, _, _, true, up1 f1 l, rfl, same_new s6 nD, ?_, hbx, ?_⟩
            · rw [upd_same]
              unfold up1
              rw [if_pos hlt']
            · rw [htk]
              have := hnx
              rw [decide_eq_true hlt', Bool.or_true] at this
              exact this
          · have hlt' : ¬ f1 l.1 < f1 l.2.1 + b2 l.2.2 := of_decide_eq_false (by simpa using hlt)
            refine ⟨_, _, _, _, ch, f1, rfl, s6, hD6, hb6, ?_⟩
            rw [htk]
            have := hnx
            rw [decide_eq_false hlt', Bool.or_false] at this
            unfold up1 at this
            rw [if_neg hlt'] at this
            exact this
        · obtain ⟨z2, z5, z6, z7, ch, f1, rfl, s6, hD6, hb6, hs6⟩ := h
          have hll : acc.length = ls.length := Paired.length hL
          rw [hll, List.take_length] at hs6
          refine ⟨z2, z5, z6, z7, ch, f1, rfl, s6, hD6, hb6, fun e => ?_, ?_⟩
          · obtain ⟨e1, e2⟩ := hs6.no e
            rw [e1]; exact e2
          · cases ch with
            | true =>
              have h1 := hs6.yes rfl
              have h2 : total ks f1 ≤ total ks L := total_mono fun x _ => hb6.le L L0 Lv x
              simp only [if_true]
              omega
            | false =>
              obtain ⟨e1, _⟩ := hs6.no rfl
              rw [e1]
              simp
      · have hcf : ch = false := by simpa using hch
        exact ⟨_, rfl, q _ D f0 s5 nD hD5 hb (hv hcf)⟩
end
end G3

/-! Walks: a title entered, the titles. -/
namespace G3
open PySem PySem.Spec PyProof.Rows L2
def insK (ks : List Str) (x : Str) : List Str := if x ∈ ks then ks else ks ++ [x]
theorem mem_insK {ks : List Str} {x y : Str} : y ∈ insK ks x ↔ y ∈ ks ∨ y = x := by
  unfold insK
  split
  · next h => exact ⟨.inl, fun k => k.elim id fun e => e ▸ h⟩
  · simp
theorem nodup_insK {ks : List Str} {x : Str} (h : ks.Nodup) : (insK ks x).Nodup := by
  unfold insK
  split
  · exact h
  · next n =>
    rw [List.nodup_append]
    refine ⟨h, nd1 _, fun a m b m2 e => n ?_⟩
    rw [List.mem_singleton] at m2
    rw [← m2, ← e]; exact m
/-- the rows laid so far: titles, clauses, words with a mode, words with a mark, how many -/
structure LS where
  ks : List Str
  cs : List Cl
  md : List Str
  ms : List Str
  n : Nat
  b : Nat
structure Adr where
  a : Addr
  dx : Addr
  pb : Addr
  pt : Addr
  pm : Addr
  pk : Addr
def fs4 (A : Adr) : List (Str × V) := [("bodies", .ref A.pb), ("by_title", .ref A.pt), ("by_modes", .ref A.pm), ("marked", .ref A.pk)]
structure Laid (C : Addr) (ws : List Str) (A : Adr) (H0 : Hp) (st : LS) (ft fm : Str → Addr) (kb : List (Key × V)) (H : Hp) : Prop where
  same : Same H0 H
  na : H0 A.a = none
  nb : H0 A.pb = none
  nt : H0 A.pt = none
  nm : H0 A.pm = none
  nk : H0 A.pk = none
  nft : ∀ x ∈ st.ks, H0 (ft x) = none
  nfm : ∀ x ∈ st.ks, H0 (fm x) = none
  ins : H A.a = some (.ins C A.dx (fs4 A))
  bodies : H A.pb = some (.dK kb)
  bods : Bods H kb st.cs
  uniq : Uniq kb
  lines : ∀ c ∈ st.cs, c.line < st.n
  few : st.cs.length ≤ st.n
  titles : H A.pt = some (.dK (dmap kT st.ks fun x => .ref (ft x)))
  modes : H A.pm = some (.dK (dmap kT st.ks fun x => .ref (fm x)))
  marked : H A.pk = some (.dK (dmap kT st.ms fun _ => .bl true))
  tl : ∀ x ∈ st.ks, ∃ xs, H (ft x) = some (.lst xs) ∧ xs.length ≤ st.b
  ml : ∀ x ∈ st.ks, H (fm x) = some (.lst (if x ∈ st.md then [.str ""] else []))
  mdk : ∀ x ∈ st.md, x ∈ st.ks
  msk : ∀ x ∈ st.ms, x ∈ st.ks
  sep : ∀ x ∈ st.ks, ∀ y ∈ st.ks, ft x ≠ fm y
  inj : ∀ x ∈ st.ks, ∀ y ∈ st.ks, fm x = fm y → x = y
  bt : A.pb ≠ A.pt
  bm : A.pb ≠ A.pm
  bk : A.pb ≠ A.pk
  tm : A.pt ≠ A.pm
  tk : A.pt ≠ A.pk
  mk2 : A.pm ≠ A.pk
  nd : st.ks.Nodup
  ndm : st.ms.Nodup
  sub : ∀ x ∈ st.ks, x ∈ ws
theorem Laid.few_ks {C : Addr} {ws : List Str} {A : Adr} {H0 H : Hp} {st : LS} {ft fm : Str → Addr} {kb : List (Key × V)} (L : Laid C ws A H0 st ft fm kb H) : st.ks.length ≤ ws.length := nodup_le _ _ L.nd L.sub
theorem BodV.put {H : Hp} {kv : Key × V} {c : Cl} {D : Addr} {u o : HO} (hD : H D = some u) (hu : ∀ xs, u ≠ .tup xs) (h : BodV H kv c) : BodV (upd H D o) kv c := by
  obtain ⟨t, gt, gvs, h⟩ := h
  have ne : ∀ b xs, H b = some (.tup xs) → b ≠ D := fun b xs e => ne_of_some e hD fun z => hu xs z.symm
  refine ⟨t, gt, gvs, h.key, h.val, upd_at h.tup (ne _ _ h.tup), upd_at h.gtup (ne _ _ h.gtup), ⟨?_, h.goals.2⟩, h.few, h.word⟩
  have g := h.goals.1
  clear h
  generalize c.goals = gs at g
  induction g with
  | nil => exact .nil
  | cons a _ ih =>
    refine .cons ?_ ih
    rcases a with a | ⟨e, t2, b, k⟩
    · exact .inl a
    · exact .inr ⟨e, t2, b, upd_at k (ne _ _ k)⟩
theorem Bods.put {H : Hp} {kvs : List (Key × V)} {cs : List Cl} {D : Addr} {u o : HO} (hD : H D = some u) (hu : ∀ xs, u ≠ .tup xs) (h : Bods H kvs cs) : Bods (upd H D o) kvs cs := by
  unfold Bods at *
  induction h with
  | nil => exact .nil
  | cons a _ ih => exact .cons (a.put hD hu) ih
theorem dget_dmap {H : Hp} {d : Addr} {ks : List Str} {f : Str → V} (h : H d = some (.dK (dmap kT ks f))) (x : Str) : DGet H d (vT x) (if x ∈ ks then some (f x) else none) := by
  rw [← valV_dmap kT_inj f x ks]
  exact dget_of (.inl h) (tt x)
/-- what a Laid says at a heap where nothing of it changed -/
theorem Laid.step {C : Addr} {ws : List Str} {A : Adr} {H0 H H' : Hp} {st : LS} {ft fm : Str → Addr} {kb : List (Key × V)} (L : Laid C ws A H0 st ft fm kb H) (s : Same H H') : Laid C ws A H0 st ft fm kb H' :=
  { L with
    same := L.same.trans s, ins := s _ _ L.ins, bodies := s _ _ L.bodies, bods := L.bods.sameL (.of s), titles := s _ _ L.titles, modes := s _ _ L.modes, marked := s _ _ L.marked
    tl := fun x m => let ⟨xs, a, b⟩ := L.tl x m; ⟨xs, s _ _ a, b⟩, ml := fun x m => s _ _ (L.ml x m) }
section
variable {P : Program} {w : World} {K : PySem.W.Frag} {mg : Str → Option Value} {base : Heap} {C M N : Addr}
theorem sc_enter : FnScope ["self", "title"] ["self", "title"] (defScope m_enter) := ⟨rfl, rfl, rfl, by decide +kernel, rfl, by decide +kernel, by decide +kernel⟩
def spEnter (C : Addr) : Sp := fun vs H Q _ => ∃ ws A H0 st ft fm kb x, vs = [.ref A.a, vT x] ∧ Laid C ws A H0 st ft fm kb H ∧ ws.length ≤ 63 ∧ x ∈ ws ∧
  ∀ H' ft' fm', Laid C ws A H0 { st with ks := insK st.ks x } ft' fm' kb H' → (∀ b o, H b = some o → b ≠ A.pt → b ≠ A.pm → H' b = some o) → Q (.ref (fm' x)) H'
theorem enter_ok (T : Tx K mg w C M N) : Met P w K mg base C 1 "enter" ["self", "title"] (spEnter C) := by
  refine T.m_enter.met sc_enter (fun vs H Q E h => ?_) (fun f cdv A outer s H vs Q E hr h => ?_)
  · obtain ⟨ws, A, H0, st, ft, fm, kb, x, rfl, _⟩ := h
    rfl
  · obtain ⟨ws, A, H0, st, ft, fm, kb, x, rfl, L, h63, hx, q⟩ := h
    have hfk := L.few_ks
    refine ⟨_, pss_cons (ps_if (pt_cmp (pc_dnotin (u1 hr) (pv 1) (pe_fld (pv 0) rfl)))
        (pss_cons (ps_dput (u1 hr) (pe_fld (pv 0) rfl) (pv 1) (pe_lst pa_nil) rfl) (pss_one (ps_dput (u1 hr) (pe_fld (pv 0) rfl) (pv 1) (pe_lst pa_nil) rfl))) pss_nil)
      (pss_one (ps_ret (pe_dget (u1 hr) (pe_fld (pv 0) rfl) (pv 1) (fun _ _ => rfl)))), ?_⟩
    refine ⟨_, rfl, _, rfl, A.a, C, A.dx, _, _, rfl, L.ins, T.cls, T.a_by_title, rfl, A.pt, _, rfl, dget_dmap L.titles x, _, rfl, ?_⟩
    by_cases hm : x ∈ st.ks
    · rw [if_pos hm]
      refine iteF ⟨_, rfl, A.a, C, A.dx, _, _, rfl, L.ins, T.cls, T.a_by_modes, rfl, _, rfl, A.pm, .ref (fm x), rfl, ?_, ?_⟩
      · have := dget_dmap L.modes x
        rw [if_pos hm] at this
        exact this
      · have e : insK st.ks x = st.ks := if_pos hm
        refine q H ft fm ?_ fun b o e _ _ => e
        rw [e]
        exact L
    · rw [if_neg hm]
      refine iteT ⟨Nat.zero_le _, fun p np => ?_⟩
      have s1 := same_upd (o := .lst []) np
      have L1 := L.step s1
      have npt := L1.titles
      refine ⟨_, rfl, A.a, C, A.dx, _, _, rfl, L1.ins, T.cls, T.a_by_title, rfl, _, rfl, A.pt, _, rfl, DPut.k (k := kT x) L1.titles (by rw [dmap_length, sizeLine_eq]; omega), ?_⟩
      rw [putK_dmap_new kT_inj hm]
      have hap : A.a ≠ A.pt := ne_of_some L1.ins L1.titles fun z => nomatch z
      have hp1 : upd H p (.lst []) p = some (.lst []) := upd_same
      have hppt : p ≠ A.pt := ne_of_some hp1 L1.titles fun z => nomatch z
      refine ⟨Nat.zero_le _, fun r nr => ?_⟩
      have hrpt : r ≠ A.pt := fun z => by rw [z, upd_same] at nr; cases nr
      have nr1 : upd H p (.lst []) r = none := by rw [upd_ne hrpt] at nr; exact nr
      have hrp : r ≠ p := fun z => by rw [z, hp1] at nr1; cases nr1
      have hra : r ≠ A.a := fun z => by rw [z, L1.ins] at nr1; cases nr1
      have hrm : r ≠ A.pm := fun z => by rw [z, L1.modes] at nr1; cases nr1
      have hne2 : A.pm ≠ A.pt := L.tm.symm
      generalize hHq : upd (upd (upd H p (.lst [])) A.pt (.dK (dmap kT (st.ks ++ [x]) fun z => if z = x then .ref p else .ref (ft z)))) r (.lst []) = Hq at *
      have kq : ∀ b o, upd H p (.lst []) b = some o → b ≠ A.pt → Hq b = some o := fun b o e n => by
        rw [← hHq]
        exact upd_at (upd_at e n) (fun z => by rw [z, nr1] at e; cases e)
      have hqt : Hq A.pt = some (.dK (dmap kT (st.ks ++ [x]) fun z => if z = x then .ref p else .ref (ft z))) := by
        rw [← hHq]
        exact upd_at upd_same hrpt.symm
      have hqr : Hq r = some (.lst []) := by rw [← hHq]; exact upd_same
      have hinq := kq _ _ L1.ins hap
      have hmq := kq _ _ L1.modes hne2
      refine ⟨_, rfl, A.a, C, A.dx, _, _, rfl, hinq, T.cls, T.a_by_modes, rfl, _, rfl, A.pm, _, rfl, DPut.k (k := kT x) hmq (by rw [dmap_length, sizeLine_eq]; omega), ?_⟩
      rw [putK_dmap_new kT_inj hm]
      have ham : A.a ≠ A.pm := ne_of_some L1.ins L1.modes fun z => nomatch z
      have h0p : H0 p = none := L.same.free np
      have h0r : H0 r = none := L1.same.free nr1
      have kz : ∀ b o, upd H p (.lst []) b = some o → b ≠ A.pt → b ≠ A.pm → upd Hq A.pm (.dK (dmap kT (st.ks ++ [x]) fun z => if z = x then .ref r else .ref (fm z))) b = some o := fun b o e n1 n2 => upd_at (kq b o e n1) n2
      have lstne : ∀ b xs, upd H p (.lst []) b = some (.lst xs) → b ≠ A.pt ∧ b ≠ A.pm := fun b xs e => ⟨ne_of_some e L1.titles (fun z => nomatch z), ne_of_some e L1.modes fun z => nomatch z⟩
      have hzr : upd Hq A.pm (.dK (dmap kT (st.ks ++ [x]) fun z => if z = x then .ref r else .ref (fm z))) r = some (.lst []) := upd_at hqr hrm
      have hzp : upd Hq A.pm (.dK (dmap kT (st.ks ++ [x]) fun z => if z = x then .ref r else .ref (fm z))) p = some (.lst []) := kz _ _ hp1 (lstne _ _ hp1).1 (lstne _ _ hp1).2
      have L2 : Laid C ws A H0 { st with ks := st.ks ++ [x] } (fun z => if z = x then p else ft z) (fun z => if z = x then r else fm z) kb (upd Hq A.pm (.dK (dmap kT (st.ks ++ [x]) fun z => if z = x then .ref r else .ref (fm z)))) := by
        have memx : ∀ y, y ∈ st.ks ++ [x] → y = x ∨ (y ∈ st.ks ∧ y ≠ x) := fun y m => by
          by_cases e : y = x
          · exact .inl e
          · rcases List.mem_append.mp m with m | m
            · exact .inr ⟨m, e⟩
            · rw [List.mem_singleton] at m; exact absurd m e
        refine ⟨?_, L.na, L.nb, L.nt, L.nm, L.nk, ?_, ?_, ?_, ?_, ?_, L.uniq, L.lines, L.few, ?_, ?_, ?_, ?_, ?_, fun y m => List.mem_append_left _ (L.mdk y m), fun y m => List.mem_append_left _ (L.msk y m), ?_, ?_, L.bt, L.bm, L.bk, L.tm, L.tk, L.mk2, ?_, L.ndm, ?_⟩
        · exact fun b o e => kz b o ((L.same.trans s1) b o e) (ne_of_none e L.nt) (ne_of_none e L.nm)
        · intro y m
          rcases memx y m with rfl | ⟨m, n⟩
          · show H0 (if y = y then p else ft y) = none
            rw [if_pos rfl]; exact h0p
          · show H0 (if y = x then p else ft y) = none
            rw [if_neg n]; exact L.nft y m
        · intro y m
          rcases memx y m with rfl | ⟨m, n⟩
          · show H0 (if y = y then r else fm y) = none
            rw [if_pos rfl]; exact h0r
          · show H0 (if y = x then r else fm y) = none
            rw [if_neg n]; exact L.nfm y m
        · exact kz _ _ L1.ins hap ham
        · exact kz _ _ L1.bodies L.bt L.bm
        · rw [← hHq]
          refine Bods.put (u := .dK (dmap kT st.ks fun x => .ref (fm x))) (by rw [hHq]; exact hmq) (fun _ z => nomatch z) ?_
          have b1 : Bods (upd (upd H p (.lst [])) A.pt (.dK (dmap kT (st.ks ++ [x]) fun z => if z = x then .ref p else .ref (ft z)))) kb st.cs := L1.bods.put L1.titles fun _ z => nomatch z
          exact b1.sameL (.of (same_upd nr))
        · refine upd_at ?_ L.tm
          rw [hqt]
          congr 2
          exact dmap_congr fun y _ => by split <;> rfl
        · rw [upd_same]
          congr 2
          exact dmap_congr fun y _ => by split <;> rfl
        · exact kz _ _ L1.marked L.tk.symm L.mk2.symm
        · intro y m
          rcases memx y m with rfl | ⟨m, n⟩
          · refine ⟨[], ?_, Nat.zero_le _⟩
            show upd Hq A.pm _ (if y = y then p else ft y) = _
            rw [if_pos rfl]; exact hzp
          · obtain ⟨xs, a, b⟩ := L1.tl y m
            refine ⟨xs, ?_, b⟩
            show upd Hq A.pm _ (if y = x then p else ft y) = _
            rw [if_neg n]
            exact kz _ _ a (lstne _ _ a).1 (lstne _ _ a).2
        · intro y m
          rcases memx y m with rfl | ⟨m, n⟩
          · show upd Hq A.pm _ (if y = y then r else fm y) = _
            rw [if_pos rfl, if_neg (fun z => hm (L.mdk _ z))]; exact hzr
          · have a := L1.ml y m
            show upd Hq A.pm _ (if y = x then r else fm y) = _
            rw [if_neg n]
            exact kz _ _ a (lstne _ _ a).1 (lstne _ _ a).2
        · intro y m z m2
          show (if y = x then p else ft y) ≠ (if z = x then r else fm z)
          rcases memx y m with rfl | ⟨m1, n⟩ <;> rcases memx z m2 with rfl | ⟨m2, n2⟩
          · rw [if_pos rfl, if_pos rfl]; exact hrp.symm
          · rw [if_pos rfl, if_neg n2]
            exact fun e => by have := L.ml z m2; rw [← e, np] at this; cases this
          · rw [if_neg n, if_pos rfl]
            exact fun e => by obtain ⟨xs, a, _⟩ := L1.tl y m1; rw [e, nr1] at a; cases a
          · rw [if_neg n, if_neg n2]; exact L.sep y m1 z m2
        · intro y m z m2
          show (if y = x then r else fm y) = (if z = x then r else fm z) → _
          rcases memx y m with rfl | ⟨m1, n⟩ <;> rcases memx z m2 with rfl | ⟨m2, n2⟩
          · exact fun _ => rfl
          · rw [if_pos rfl, if_neg n2]
            exact fun e => by have := L1.ml z m2; rw [← e, nr1] at this; cases this
          · rw [if_neg n, if_pos rfl]
            exact fun e => by have := L1.ml y m1; rw [e, nr1] at this; cases this
          · rw [if_neg n, if_neg n2]; exact L.inj y m1 z m2
        · have := nodup_insK (x := x) L.nd
          unfold insK at this
          rw [if_neg hm] at this
          exact this
        · intro y m
          rcases memx y m with rfl | ⟨m, n⟩
          · exact hx
          · exact L.sub y m
      have hmx : x ∈ st.ks ++ [x] := by simp
      refine ⟨_, rfl, A.a, C, A.dx, _, _, rfl, L2.ins, T.cls, T.a_by_modes, rfl, _, rfl, A.pm, .ref r, rfl, ?_, ?_⟩
      · have := dget_dmap L2.modes x
        rw [if_pos hmx, if_pos rfl] at this
        exact this
      · have e : insK st.ks x = st.ks ++ [x] := if_neg hm
        have := q _ (fun z => if z = x then p else ft z) (fun z => if z = x then r else fm z) (by rw [e]; exact L2) fun b o h n1 n2 => kz b o (s1 _ _ h) n1 n2
        rw [if_pos rfl] at this
        exact this
end
end G3

/-! What a Laid becomes. -/
namespace G3
open PySem PySem.Spec PyProof.Rows L2
inductive Row
  | mode (w : Str)
  | table (w : Str)
  | clause (h : Str) (gs : List Gl2)
def RowV (H : Hp) (v : V) : Row → Prop
  | .mode w => ∃ t, v = .ref t ∧ H t = some (.tup [.str "mode", .str w, .str ""])
  | .table w => ∃ t, v = .ref t ∧ H t = some (.tup [.str "table", .str w, .int 0])
  | .clause h gs => ∃ t gt gvs, v = .ref t ∧ H t = some (.tup [.str "clause", .str h, .ref gt]) ∧ H gt = some (.tup gvs) ∧ GoalsV H gvs gs ∧ gvs.length < 1000
def RowOk (ws : List Str) : Row → Prop
  | .mode w => w ∈ ws ∧ WordOk w
  | .table w => w ∈ ws ∧ WordOk w
  | .clause h gs => h ∈ ws ∧ WordOk h ∧ ∀ g ∈ gs, g.2 ∈ ws
theorem RowV.same {H H' : Hp} {v : V} {r : Row} (s : Same H H') (h : RowV H v r) : RowV H' v r := by
  cases r with
  | mode w => obtain ⟨t, a, b⟩ := h; exact ⟨t, a, s _ _ b⟩
  | table w => obtain ⟨t, a, b⟩ := h; exact ⟨t, a, s _ _ b⟩
  | clause h gs => obtain ⟨t, gt, gvs, a, b, c, d, e⟩ := h; exact ⟨t, gt, gvs, a, s _ _ b, s _ _ c, d.same s, e⟩
def clWords (h : Str) (gs : List Gl2) : List Str := h :: gs.map (·.2)
def layR (st : LS) : Row → LS
  | .mode w => { st with ks := insK st.ks w, md := insK st.md w, n := st.n + 1 }
  | .table w => { st with ks := insK st.ks w, ms := insK st.ms w, n := st.n + 1 }
  | .clause h gs => { st with ks := (clWords h gs).foldl insK st.ks, cs := st.cs ++ [⟨st.n, h, gs⟩], n := st.n + 1, b := st.b + 1 }
theorem Uniq.snoc {kb : List (Key × V)} {k : Key} {v : V} (h : Uniq kb) (hn : valV kb k = none) : Uniq (kb ++ [(k, v)]) := by
  intro i k2 x e
  rw [valV_snoc k k2 v kb hn]
  by_cases hi : i < kb.length
  · rw [List.getElem?_append_left hi] at e
    have hv := h i k2 x e
    rw [if_neg (fun z => by rw [z, hn] at hv; cases hv)]
    exact hv
  · rw [List.getElem?_append_right (Nat.not_lt.mp hi)] at e
    have : i - kb.length = 0 := by
      have := (List.getElem?_eq_some_iff.mp e).1
      simp at this
      omega
    rw [this] at e
    cases e
    rw [if_pos rfl]
section
variable {C : Addr} {ws : List Str} {A : Adr} {H0 H : Hp} {st : LS} {ft fm : Str → Addr} {kb : List (Key × V)}
theorem Laid.next (L : Laid C ws A H0 st ft fm kb H) : Laid C ws A H0 { st with n := st.n + 1 } ft fm kb H :=
  { L with lines := fun c m => Nat.lt_succ_of_lt (L.lines c m), few := Nat.le_succ_of_le L.few }
theorem bods_none {H : Hp} {n : Nat} : ∀ {kb : List (Key × V)} {cs : List Cl}, Bods H kb cs → (∀ c ∈ cs, c.line < n) → valV kb (.inl (n : Int)) = none
  | [], _, _, _ => rfl
  | kv :: kb, [], h, _ => nomatch h
  | kv :: kb, c :: cs, h, hl => by
    unfold Bods at h
    cases h with
    | cons a t =>
      obtain ⟨_, _, _, b⟩ := a
      have h1 := hl c (by simp)
      rw [valV_neg (by
        rw [b.key]
        intro z
        have := Sum.inl.inj z
        omega)]
      exact bods_none (H := H) t fun c m => hl c (by simp [m])
theorem Laid.body (L : Laid C ws A H0 st ft fm kb H) {t gt : Addr} {gvs : List V} {h : Str} {gs : List Gl2} (ht : H t = some (.tup [.str h, .ref gt])) (hg : H gt = some (.tup gvs)) (gv : GoalsV H gvs gs) (hz : gvs.length < 1000) (hw : WordOk h) :
    ∃ kb', putK kb (.inl (st.n : Int)) (.ref t) = kb' ∧ kb'.length ≤ kb.length + 1 ∧ Laid C ws A H0 { st with cs := st.cs ++ [⟨st.n, h, gs⟩], n := st.n + 1 } ft fm kb' (upd H A.pb (.dK kb')) := by
  have hn := bods_none L.bods L.lines
  have lstne : ∀ b xs, H b = some (.lst xs) → b ≠ A.pb := fun b xs e => ne_of_some e L.bodies fun z => nomatch z
  refine ⟨kb ++ [(.inl (st.n : Int), .ref t)], putK_new _ hn, by simp, ?_⟩
  refine ⟨same_new L.same L.nb, L.na, L.nb, L.nt, L.nm, L.nk, L.nft, L.nfm, upd_at L.ins (ne_of_some L.ins L.bodies fun z => nomatch z), upd_same, ?_, L.uniq.snoc hn, ?_, ?_,
    upd_at L.titles L.bt.symm, upd_at L.modes L.bm.symm, upd_at L.marked L.bk.symm, ?_, ?_, L.mdk, L.msk, L.sep, L.inj, L.bt, L.bm, L.bk, L.tm, L.tk, L.mk2, L.nd, L.ndm, L.sub⟩
  · refine Paired.snoc (L.bods.put L.bodies fun _ z => nomatch z) ?_
    exact BodV.put (kv := (.inl (st.n : Int), .ref t)) (c := ⟨st.n, h, gs⟩) L.bodies (fun _ z => nomatch z) ⟨t, gt, gvs, rfl, rfl, ht, hg, gv, hz, hw⟩
  · intro c m
    rcases List.mem_append.mp m with m | m
    · exact Nat.lt_succ_of_lt (L.lines c m)
    · rw [List.mem_singleton] at m; rw [m]; exact Nat.lt_succ_self _
  · show (st.cs ++ [_]).length ≤ st.n + 1
    rw [List.length_append, List.length_singleton]
    exact Nat.succ_le_succ L.few
  · intro x m
    obtain ⟨xs, a, b⟩ := L.tl x m
    exact ⟨xs, upd_at a (lstne _ _ a), b⟩
  · intro x m
    have a := L.ml x m
    exact upd_at a (lstne _ _ a)
theorem Laid.line (L : Laid C ws A H0 st ft fm kb H) {h : Str} {xs : List V} {v : V} (hh : h ∈ st.ks) (hx : H (ft h) = some (.lst xs)) (hl : xs.length ≤ st.b) : Laid C ws A H0 { st with b := st.b + 1 } ft fm kb (upd H (ft h) (.lst (xs ++ [v]))) := by
  have kp : ∀ b o, H b = some o → (∀ ys, o ≠ .lst ys) → upd H (ft h) (.lst (xs ++ [v])) b = some o := fun b o e n => upd_at e (ne_of_some e hx (n xs))
  refine { L with same := same_new L.same (L.nft h hh), ins := kp _ _ L.ins (fun _ z => nomatch z), bodies := kp _ _ L.bodies (fun _ z => nomatch z), bods := L.bods.put hx (fun _ z => nomatch z),
                  titles := kp _ _ L.titles (fun _ z => nomatch z), modes := kp _ _ L.modes (fun _ z => nomatch z), marked := kp _ _ L.marked (fun _ z => nomatch z), tl := ?_, ml := ?_ }
  · intro x m
    obtain ⟨ys, a, b⟩ := L.tl x m
    by_cases e : ft x = ft h
    · rw [e]
      refine ⟨xs ++ [v], upd_same, ?_⟩
      show (xs ++ [v]).length ≤ st.b + 1
      rw [List.length_append, List.length_singleton]
      omega
    · exact ⟨ys, upd_at a e, Nat.le_succ_of_le b⟩
  · intro x m
    exact upd_at (L.ml x m) (fun z => L.sep h hh x m z.symm)
theorem Laid.mode (L : Laid C ws A H0 st ft fm kb H) {x : Str} (hx : x ∈ st.ks) (hm : x ∉ st.md) : Laid C ws A H0 { st with md := insK st.md x } ft fm kb (upd H (fm x) (.lst [.str ""])) := by
  have hf := L.ml x hx
  have kp : ∀ b o, H b = some o → (∀ ys, o ≠ .lst ys) → upd H (fm x) (.lst [.str ""]) b = some o := fun b o e n => upd_at e (ne_of_some e hf (n _))
  refine { L with same := same_new L.same (L.nfm x hx), ins := kp _ _ L.ins (fun _ z => nomatch z), bodies := kp _ _ L.bodies (fun _ z => nomatch z), bods := L.bods.put hf (fun _ z => nomatch z),
                  titles := kp _ _ L.titles (fun _ z => nomatch z), modes := kp _ _ L.modes (fun _ z => nomatch z), marked := kp _ _ L.marked (fun _ z => nomatch z), tl := ?_, ml := ?_, mdk := ?_ }
  · intro y m
    obtain ⟨ys, a, b⟩ := L.tl y m
    exact ⟨ys, upd_at a (L.sep y m x hx), b⟩
  · intro y m
    by_cases e : y = x
    · rw [e, upd_same, if_pos (mem_insK.mpr (.inr rfl))]
    · rw [upd_ne (fun z => e (L.inj y m x hx z)), L.ml y m]
      have : y ∈ insK st.md x ↔ y ∈ st.md := ⟨fun k => (mem_insK.mp k).elim id fun z => absurd z e, fun k => mem_insK.mpr (.inl k)⟩
      by_cases k : y ∈ st.md
      · rw [if_pos k, if_pos (this.mpr k)]
      · rw [if_neg k, if_neg (fun z => k (this.mp z))]
  · intro y m
    rcases mem_insK.mp m with m | m
    · exact L.mdk y m
    · rw [m]; exact hx
theorem Laid.mark (L : Laid C ws A H0 st ft fm kb H) {x : Str} (hx : x ∈ st.ks) :
    Laid C ws A H0 { st with ms := insK st.ms x } ft fm kb (upd H A.pk (.dK (putK (dmap kT st.ms fun _ => .bl true) (kT x) (.bl true)))) := by
  have kp : ∀ b o, H b = some o → b ≠ A.pk → upd H A.pk (.dK (putK (dmap kT st.ms fun _ => .bl true) (kT x) (.bl true))) b = some o := fun b o e n => upd_at e n
  have lstne : ∀ b xs, H b = some (.lst xs) → b ≠ A.pk := fun b xs e => ne_of_some e L.marked fun z => nomatch z
  refine { L with same := same_new L.same L.nk, ins := kp _ _ L.ins (ne_of_some L.ins L.marked fun z => nomatch z), bodies := kp _ _ L.bodies L.bk, bods := L.bods.put L.marked (fun _ z => nomatch z),
                  titles := kp _ _ L.titles L.tk, modes := kp _ _ L.modes L.mk2, marked := ?_, tl := ?_, ml := ?_, msk := ?_, ndm := nodup_insK L.ndm }
  · rw [upd_same]
    congr 2
    show _ = dmap kT (insK st.ms x) _
    unfold insK
    by_cases e : x ∈ st.ms
    · rw [if_pos e, putK_dmap_old kT_inj e]
      exact dmap_congr fun y _ => by split <;> rfl
    · rw [if_neg e, putK_dmap_new kT_inj e]
      exact dmap_congr fun y _ => by split <;> rfl
  · intro y m
    obtain ⟨ys, a, b⟩ := L.tl y m
    exact ⟨ys, kp _ _ a (lstne _ _ a), b⟩
  · intro y m
    have a := L.ml y m
    exact kp _ _ a (lstne _ _ a)
  · intro y m
    rcases mem_insK.mp m with m | m
    · exact L.msk y m
    · rw [m]; exact hx
end
end G3

/-! Walks: a row laid, the titles. -/
namespace G3
open PySem PySem.Spec PyProof.Rows L2
theorem k_mc : decide (V.str "mode" = V.str "clause") = false := by decide
theorem k_mm : decide (V.str "mode" = V.str "mode") = true := by decide
theorem k_mt : decide (V.str "mode" = V.str "table") = false := by decide
theorem k_tc : decide (V.str "table" = V.str "clause") = false := by decide
theorem k_tm : decide (V.str "table" = V.str "mode") = false := by decide
theorem k_tt : decide (V.str "table" = V.str "table") = true := by decide
theorem k_cc : decide (V.str "clause" = V.str "clause") = true := by decide
theorem k_cm : decide (V.str "clause" = V.str "mode") = false := by decide
theorem k_ct : decide (V.str "clause" = V.str "table") = false := by decide
theorem slash0 (x : Str) : (x ++ ("/" : Str)) ++ (Str.ofString (toString (0 : Int))) = tt x := by
  have e : (("/" : Str).cps ++ (Str.ofString (toString (0 : Int))).cps) = ("/0" : Str).cps := by decide +kernel
  show (⟨(x.cps ++ ("/" : Str).cps) ++ (Str.ofString (toString (0 : Int))).cps⟩ : Str) = ⟨x.cps ++ ("/0" : Str).cps⟩
  rw [Array.append_assoc, e]
theorem asked_pats {h : Str} {gs : List Gl2} : ([V.str h] ++ gs.map fun g => V.str g.2) = (clWords h gs).map V.str := by
  unfold clWords
  rw [List.map_cons, List.map_map]
  rfl
section
variable {P : Program} {w : World} {K : PySem.W.Frag} {mg : Str → Option Value} {base : Heap} {C M N : Addr}
theorem sc_titles : FnScope ["self"] ["self"] (defScope m_titles) := ⟨rfl, rfl, rfl, by decide +kernel, rfl, by decide +kernel, by decide +kernel⟩
def spTitles (C : Addr) : Sp := fun vs H Q _ => ∃ v d ks f, vs = [v] ∧ Fd C H v "by_title" d (dmap kT ks f) ∧ ks.length < 64 ∧ ∀ ys p, ys.Perm (ks.map tt) → sortedS ys = true → H p = none → Q (.ref p) (upd H p (.lst (ys.map V.str)))
theorem titles_ok (T : Tx K mg w C M N) : Met P w K mg base C 1 "titles" ["self"] (spTitles C) := by
  refine T.m_titles.met sc_titles (fun vs H Q E h => ?_) (fun f cdv A outer s H vs Q E hr h => ?_)
  · obtain ⟨v, d, ks, f, rfl, _⟩ := h
    rfl
  · obtain ⟨v, d, ks, f, rfl, ⟨⟨a, dx, fs, rfl, ha, hn, hf⟩, hd⟩, h64, q⟩ := h
    refine ⟨_, pss_one (ps_ret (pe_callB (call_sortedD rfl) (by rfl) T.n_sorted (by decide +kernel) (pa_cons (pe_fld (pv 0) rfl) pa_nil))), ?_⟩
    refine ⟨_, rfl, a, C, dx, fs, _, rfl, ha, T.cls, T.a_by_title, hf, d, _, ks.map tt, rfl, hd, ?_, by rw [List.length_map]; exact h64, q⟩
    unfold dmap
    rw [List.map_map, List.map_map]
    rfl

abbrev nLay : List Str := ["self", "line", "row", "kind", "rest", "head", "goals", "pattern", "name", "mode", "known", "places", "goal"]
theorem sc_lay : FnScope nLay ["self", "line", "row"] (defScope m_lay) := ⟨rfl, rfl, rfl, by decide +kernel, rfl, by decide +kernel, by decide +kernel⟩
def spLay (C : Addr) : Sp := fun vs H Q _ => ∃ ws A H0 st ft fm kb v r, vs = [.ref A.a, .int (st.n : Int), v] ∧ RowV H0 v r ∧ RowOk ws r ∧ Laid C ws A H0 st ft fm kb H ∧ ws.length ≤ 63 ∧ st.n ≤ 1000 ∧ st.b ≤ 1000 ∧
  ∀ H' ft' fm' kb', Laid C ws A H0 (layR st r) ft' fm' kb' H' → Q .non H'
theorem lay_ok (T : Tx K mg w C M N) : Met P w K mg base C 3 "lay" ["self", "line", "row"] (spLay C) := by
  have ca := asked_of_ok (P := P) (base := base) T
  have ct := title_of_ok (P := P) (base := base) T
  have ce := enter_ok (P := P) (base := base) T
  refine T.m_lay.met sc_lay (fun vs H Q E h => ?_) (fun f cdv Ar outer s H vs Q E hr h => ?_)
  · obtain ⟨ws, A, H0, st, ft, fm, kb, v, r, rfl, _⟩ := h
    rfl
  · obtain ⟨ws, A, H0, st, ft, fm, kb, v, r, rfl, hv, hok, L, h63, hn, hb, q⟩ := h
    refine ⟨_, pss_cons (ps_asg (pv 2) (pg_star rfl (pg_name (i := 3) sc_lay.nd rfl (.inl rfl)) (pg_name (i := 4) sc_lay.nd rfl (.inl rfl))))
      (pss_cons (ps_if (pt_cmpR op_eq (pv 3) pe_str (nomark _))
        (pss_cons (ps_asg (pv 4) (pg_unl rfl (pgs_cons (pg_name (i := 5) sc_lay.nd rfl (.inl rfl)) (pgs_cons (pg_name (i := 6) sc_lay.nd rfl (.inl rfl)) pgs_nil))))
        (pss_cons (ps_dput (u1 hr) (pe_fld (pv 0) rfl) (pv 1) (pe_tup (pa_cons (pv 5) (pa_cons (pv 6) pa_nil))) rfl)
        (pss_cons (ps_for PassesOwn.never rfl (pi_list (pe_op op_cat (pe_lst (pa_cons (pv 5) pa_nil))
            (pe_lc (own := [("goal", 12)]) (g := gName 12) rfl sc_lay.nd (pi_tup (pv 6)) (blkOk_by (N := nLay) (sc := defScope m_lay) (by decide +kernel))
              (fun _ _ _ _ _ => pg_name (i := 12) sc_lay.nd rfl (.inl rfl) (.inr rfl)) (fun _ _ _ _ _ => pts_nil) (fun _ _ _ _ _ => pe_cal ca hr (by decide) (by rfl) (pa_cons (pv 12) pa_nil)))))
          (pg_name (i := 7) sc_lay.nd rfl (.inl rfl))
          (pss_one (ps_if (pt_cmp (pc_notN (pv 7))) (pss_one (ps_expr (pe_met (pv 0) T.cls ce hr (by decide) (pa_cons (pe_cal ct hr (by decide) (by rfl) (pa_cons (pv 7) pa_nil)) pa_nil)))) pss_nil)))
        (pss_one (ps_expr (pe_bm PySem.F.plainAttrs_list PySem.F.slot_list_append PySem.F.type_list_append mt_append (pe_dget (u1 hr) (pe_fld (pv 0) rfl) (pe_cal ct hr (by decide) (by rfl) (pa_cons (pv 5) pa_nil)) (fun _ _ => rfl)) (pa_cons (pv 1) pa_nil))))))) pss_nil)
      (pss_cons (ps_if (pt_cmpR op_eq (pv 3) pe_str (nomark _))
        (pss_cons (ps_asg (pv 4) (pg_unl rfl (pgs_cons (pg_name (i := 8) sc_lay.nd rfl (.inl rfl)) (pgs_cons (pg_name (i := 9) sc_lay.nd rfl (.inl rfl)) pgs_nil))))
        (pss_cons (ps_set (i := 10) sc_lay.nd rfl (.inl rfl) (pe_met (pv 0) T.cls ce hr (by decide) (pa_cons (pe_op op_add_str (pe_op op_add_str (pv 8) pe_str)
            (pe_callTy call_str_int (by rfl) T.n_str (by decide +kernel) (pa_cons (pe_callB call_len_str (by rfl) T.n_len (by decide +kernel) (pa_cons (pv 9) pa_nil)) pa_nil))) pa_nil)))
        (pss_one (ps_if (pt_cmpR op_notIn_seq (pv 9) (pv 10) rfl)
          (pss_one (ps_expr (pe_bm PySem.F.plainAttrs_list PySem.F.slot_list_append PySem.F.type_list_append mt_append (pv 10) (pa_cons (pv 9) pa_nil)))) pss_nil)))) pss_nil)
      (pss_one (ps_if (pt_cmpR op_eq (pv 3) pe_str (nomark _))
        (pss_cons (ps_asg (pv 4) (pg_unl rfl (pgs_cons (pg_name (i := 8) sc_lay.nd rfl (.inl rfl)) (pgs_cons (pg_name (i := 11) sc_lay.nd rfl (.inl rfl)) pgs_nil))))
        (pss_cons (ps_expr (pe_met (pv 0) T.cls ce hr (by decide) (pa_cons (pe_op op_add_str (pe_op op_add_str (pv 8) pe_str)
            (pe_callTy call_str_int (by rfl) T.n_str (by decide +kernel) (pa_cons (pv 11) pa_nil))) pa_nil)))
        (pss_one (ps_dput (u1 hr) (pe_fld (pv 0) rfl) (pe_op op_add_str (pe_op op_add_str (pv 8) pe_str)
            (pe_callTy call_str_int (by rfl) T.n_str (by decide +kernel) (pa_cons (pv 11) pa_nil))) pe_bl rfl)))) pss_nil)))), ?_⟩
    have size : ∀ x : Str, x.cps.size ≤ 1000 → x.length + ("/" : Str).length ≤ sizeLine ∧ (x ++ ("/" : Str)).length + (Str.ofString (toString (0 : Int))).length ≤ sizeLine := fun x hx => by
      have e1 : ("/" : Str).length = 1 := by decide
      have e2 : (Str.ofString (toString (0 : Int))).length = 1 := by decide +kernel
      have e3 : (x ++ ("/" : Str)).length = x.cps.size + 1 := by
        show (x.cps ++ ("/" : Str).cps).size = _
        rw [Array.size_append]
        rfl
      have e4 : x.length = x.cps.size := rfl
      rw [e1, e2, e3, e4, sizeLine_eq]
      omega
    cases r with
    | mode x =>
      obtain ⟨t, rfl, ht⟩ := hv
      obtain ⟨hx, hxw⟩ := hok
      refine ⟨_, rfl, t, _, _, rfl, SqT.of (L.same _ _ ht), by show 2 < 1000; decide, fun p np => ⟨_, _, rfl, ?_⟩⟩
      have L1 := L.step (same_upd (o := .lst [.str x, .str ""]) np)
      refine ⟨_, rfl, rfl, _, rfl, ?_⟩
      rw [k_mc]
      refine iteF ⟨_, rfl, rfl, _, rfl, ?_⟩
      rw [k_mm]
      refine iteT ⟨_, rfl, p, _, rfl, SqL.of upd_same, rfl, _, _, rfl, _, _, rfl, rfl, ?_⟩
      generalize upd H p (.lst [.str x, .str ""]) = H1 at *
      refine ⟨_, rfl, A.a, A.dx, fs4 A, rfl, L1.ins, rfl, _, rfl, _, _, rfl, rfl, (size x hxw.2).1, _, rfl, "", rfl, Nat.zero_le _, 0, rfl, by decide, _, _, rfl, rfl, (size x hxw.2).2, ?_⟩
      rw [slash0]
      refine ⟨ws, A, H0, st, ft, fm, kb, x, rfl, L1, h63, hx, fun H2 ft2 fm2 L2 _ => ?_⟩
      have hxk : x ∈ insK st.ks x := mem_insK.mpr (.inr rfl)
      have hml := L2.ml x hxk
      refine ⟨_, rfl, _, rfl, fm2 x, _, rfl, .inl (SqL.of hml), rfl, by split <;> rfl, _, rfl, ?_⟩
      by_cases hmd : x ∈ st.md
      · rw [if_pos hmd] at hml ⊢
        refine iteF ⟨_, rfl, rfl, _, rfl, ?_⟩
        rw [k_mt]
        refine iteF (q _ ft2 fm2 kb ?_)
        have e : layR st (.mode x) = { { st with ks := insK st.ks x } with n := st.n + 1 } := by
          unfold layR insK
          simp [hmd]
        rw [e]
        exact L2.next
      · rw [if_neg hmd] at hml ⊢
        refine iteT ⟨_, rfl, .inl ⟨rfl, _, SqL.of hml⟩, _, rfl, fm2 x, [], _, rfl, rfl, hml, by rw [sizeLine_eq]; decide, ?_⟩
        refine ⟨_, rfl, rfl, _, rfl, ?_⟩
        rw [k_mt]
        refine iteF (q _ ft2 fm2 kb ?_)
        exact (L2.mode hxk hmd).next
    | table x =>
      obtain ⟨t, rfl, ht⟩ := hv
      obtain ⟨hx, hxw⟩ := hok
      refine ⟨_, rfl, t, _, _, rfl, SqT.of (L.same _ _ ht), by show 2 < 1000; decide, fun p np => ⟨_, _, rfl, ?_⟩⟩
      have L1 := L.step (same_upd (o := .lst [.str x, .int 0]) np)
      refine ⟨_, rfl, rfl, _, rfl, ?_⟩
      rw [k_tc]
      refine iteF ⟨_, rfl, rfl, _, rfl, ?_⟩
      rw [k_tm]
      refine iteF ⟨_, rfl, rfl, _, rfl, ?_⟩
      rw [k_tt]
      refine iteT ⟨_, rfl, p, _, rfl, SqL.of upd_same, rfl, _, _, rfl, _, _, rfl, rfl, ?_⟩
      generalize upd H p (.lst [.str x, .int 0]) = H1 at *
      refine ⟨_, rfl, A.a, A.dx, fs4 A, rfl, L1.ins, rfl, _, rfl, _, _, rfl, rfl, (size x hxw.2).1, _, rfl, 0, rfl, by decide, _, _, rfl, rfl, (size x hxw.2).2, ?_⟩
      rw [slash0]
      refine ⟨ws, A, H0, st, ft, fm, kb, x, rfl, L1, h63, hx, fun H2 ft2 fm2 L2 _ => ?_⟩
      have hxk : x ∈ insK st.ks x := mem_insK.mpr (.inr rfl)
      refine ⟨_, rfl, A.a, C, A.dx, _, _, rfl, L2.ins, T.cls, T.a_marked, rfl, _, rfl, _, _, rfl, rfl, (size x hxw.2).1, _, rfl, 0, rfl, by decide, _, _, rfl, rfl, (size x hxw.2).2, ?_⟩
      rw [slash0]
      have hms : st.ms.length ≤ ws.length := nodup_le _ _ L.ndm fun y m => L.sub y (L.msk y m)
      refine ⟨A.pk, _, rfl, DPut.k (k := kT x) L2.marked (by rw [dmap_length, sizeLine_eq]; show st.ms.length < _; omega), q _ ft2 fm2 kb ?_⟩
      exact (L2.mark hxk).next
    | clause hd gs =>
      obtain ⟨t, gt, gvs, rfl, ht, hgt, hg, hz⟩ := hv
      obtain ⟨hx, hxw, hgs⟩ := hok
      refine ⟨_, rfl, t, _, _, rfl, SqT.of (L.same _ _ ht), by show 2 < 1000; decide, fun p np => ⟨_, _, rfl, ?_⟩⟩
      have L1 := L.step (same_upd (o := .lst [.str hd, .ref gt]) np)
      refine ⟨_, rfl, rfl, _, rfl, ?_⟩
      rw [k_cc]
      refine iteT ⟨_, rfl, p, _, rfl, SqL.of upd_same, rfl, _, _, rfl, _, _, rfl, rfl, ?_⟩
      generalize upd H p (.lst [.str hd, .ref gt]) = H1 at *
      refine ⟨_, rfl, _, rfl, by show 2 ≤ sizeLine; decide, fun t2 nt2 => ?_⟩
      have L2 := L1.step (same_upd (o := .tup [.str hd, .ref gt]) nt2)
      have ht2 : upd H1 t2 (.tup [.str hd, .ref gt]) t2 = some (.tup [.str hd, .ref gt]) := upd_same
      generalize upd H1 t2 (.tup [.str hd, .ref gt]) = H2 at *
      obtain ⟨kb3, hk3, hkl3, L3⟩ := L2.body ht2 (L2.same _ _ hgt) (hg.same L2.same) hz hxw
      have hkbl : kb.length = st.cs.length := Paired.length L.bods
      have hcs := L.few
      refine ⟨_, rfl, A.a, C, A.dx, _, _, rfl, L2.ins, T.cls, T.a_bodies, rfl, _, rfl, A.pb, _, rfl, DPut.k (k := .inl (st.n : Int)) L2.bodies (by rw [sizeLine_eq]; omega), ?_⟩
      rw [hk3]
      generalize upd H2 A.pb (.dK kb3) = H3 at *
      refine ⟨_, rfl, by show 1 ≤ sizeLine; decide, fun p4 np4 => ?_⟩
      have s4 := same_upd (o := .lst [.str hd]) np4
      have L4 := L3.step s4
      refine asked_comp (K := K) (L4.same _ _ hgt) (hg.same L4.same) hz (Nat.lt_of_sub_pos (by exact Nat.zero_lt_one)) (fun R h => ⟨_, rfl, gt, rfl, ⟨_, SqT.of (L4.same _ _ hgt)⟩, h⟩) fun H5 D s5 nD hD => ?_
      have L5 := L4.step s5
      refine ⟨p4, D, _, _, rfl, rfl, s5 _ _ upd_same, hD, ?_, fun r nr => ?_⟩
      · have : gvs.length = gs.length := Paired.length hg.1
        rw [sizeLine_eq]; simp; omega
      rw [asked_pats]
      have L6 := L5.step (same_upd (o := .lst ((clWords hd gs).map V.str)) nr)
      have hr6 : upd H5 r (.lst ((clWords hd gs).map V.str)) r = some (.lst ((clWords hd gs).map V.str)) := upd_same
      have h0r : H0 r = none := L5.same.free nr
      refine ⟨r, rfl, ⟨_, SqL.of hr6⟩, ?_⟩
      generalize upd H5 r (.lst ((clWords hd gs).map V.str)) = H6 at *
      refine for_it (n := (clWords hd gs).length) (fun i σ H' => ∃ z7 ft' fm', σ = [some (V.ref A.a), some (.int (st.n : Int)), some (.ref t), some (.str "clause"), some (.ref p), some (.str hd), some (.ref gt), z7, none, none, none, none, none] ∧ H' r = some (.lst ((clWords hd gs).map V.str)) ∧
          Laid C ws A H0 { st with cs := st.cs ++ [⟨st.n, hd, gs⟩], n := st.n + 1, ks := ((clWords hd gs).take i).foldl insK st.ks } ft' fm' kb3 H')
        ⟨none, ft, fm, rfl, hr6, L6⟩ (fun i σ H' hi h => ?_) (fun σ H' h => ?_) (fun i σ H' hi h x H7 hy => ?_) (fun σ H' h => ?_)
      · obtain ⟨_, _, _, _, h, _⟩ := h
        exact go_l (SqL.of h) (by rw [List.length_map]; exact hi)
      · obtain ⟨_, _, _, _, h, _⟩ := h
        have := stop_l (K := K) (SqL.of h)
        rw [List.length_map] at this
        exact this
      · obtain ⟨z7, ft7, fm7, rfl, hr7, L7⟩ := h
        obtain ⟨rfl, hx7⟩ := yld_l (SqL.of hr7) hy
        have hwi : (clWords hd gs)[i]? = some (clWords hd gs)[i] := List.getElem?_eq_getElem hi
        rw [List.getElem?_map, hwi] at hx7
        obtain rfl : V.str (clWords hd gs)[i] = x := Option.some.inj hx7
        have hwm : (clWords hd gs)[i] ∈ ws ∧ WordOk (clWords hd gs)[i] := by
          have m := List.getElem_mem hi
          unfold clWords at m ⊢
          rcases List.mem_cons.mp m with m | m
          · rw [m]; exact ⟨hx, hxw⟩
          · obtain ⟨g, gm, e⟩ := List.mem_map.mp m
            rw [← e]; exact ⟨hgs g gm, hg.2 g gm⟩
        generalize (clWords hd gs)[i] = y at *
        have htk : ((clWords hd gs).take (i + 1)).foldl insK st.ks = insK (((clWords hd gs).take i).foldl insK st.ks) y := by
          rw [List.take_add_one, hwi, List.foldl_append]
          rfl
        refine ⟨_, rfl, _, rfl, iteT ?_⟩
        refine ⟨_, rfl, A.a, A.dx, fs4 A, rfl, L7.ins, rfl, _, rfl, y, rfl, hwm.2.2, ?_⟩
        refine ⟨ws, A, H0, _, ft7, fm7, kb3, y, rfl, L7, h63, hwm.1, fun H8 ft8 fm8 L8 k8 => ?_⟩
        refine ⟨_, ft8, fm8, rfl, k8 _ _ hr7 (ne_of_some hr7 L7.titles fun z => nomatch z) (ne_of_some hr7 L7.modes fun z => nomatch z), ?_⟩
        rw [htk]
        exact L8
      · obtain ⟨z7, ft7, fm7, rfl, hr7, L7⟩ := h
        rw [List.take_length] at L7
        have hdk : hd ∈ (clWords hd gs).foldl insK st.ks := by
          have : ∀ (l ks : List Str), (hd ∈ l ∨ hd ∈ ks) → hd ∈ l.foldl insK ks := by
            intro l
            induction l with
            | nil => intro ks h; exact h.elim (fun z => nomatch z) id
            | cons a r ih =>
              intro ks h
              refine ih _ ?_
              rcases h with h | h
              · rcases List.mem_cons.mp h with h | h
                · exact .inr (mem_insK.mpr (.inr h))
                · exact .inl h
              · exact .inr (mem_insK.mpr (.inl h))
          exact this _ _ (.inl (by unfold clWords; simp))
        obtain ⟨xs, hxs, hxl⟩ := L7.tl hd hdk
        refine ⟨_, rfl, A.a, C, A.dx, _, _, rfl, L7.ins, T.cls, T.a_by_title, rfl, _, rfl, hd, rfl, hxw.2, A.pt, .ref (ft7 hd), rfl, ?_, ?_⟩
        · have := dget_dmap L7.titles hd
          rw [if_pos hdk] at this
          exact this
        refine ⟨.inl ⟨rfl, _, SqL.of hxs⟩, _, rfl, ft7 hd, xs, _, rfl, rfl, hxs, by rw [sizeLine_eq]; have : xs.length ≤ st.b := hxl; omega, ?_⟩
        refine ⟨_, rfl, rfl, _, rfl, ?_⟩
        rw [k_cm]
        refine iteF ⟨_, rfl, rfl, _, rfl, ?_⟩
        rw [k_ct]
        refine iteF (q _ ft7 fm7 kb3 ?_)
        exact L7.line hdk hxs hxl
end
end G3

/-! Walks: the program made. -/
namespace G3
open PySem PySem.Spec PyProof.Rows L2
section
variable {X : Cx} {x : Str} {ps : List Str} {sp : Sp} {j k : Nat} {e : Expr} {es : List Expr} {t : TA} {p pos : Pos} {E : XK}
theorem pe_calX (c : CalX X.prog X.w X.K X.mg X.base k x ps sp) (hr : Room j X.A) (hk : k ≤ j) (hx : Passes (L2.CX X.prog X.w) X E) (hg : Gl X x) (ha : PA X (e :: es) t) (hdb : (x == ("__debug__" : Str)) = false := by decide)
    (he : starEach (e :: es) X.env = (false, eval e X.env) :: starEach es X.env := by rfl) (hpl : (backTo pos (starEach es X.env)).any (·.1) = false := by rfl) :
    PE X (.Call (.Name x p) (e :: es) [] pos) (tCall sp [] E t) := by
  obtain ⟨f, fd, F, g, kp, b⟩ := c
  exact pe_call F (hr.mono hk) hg g kp b .nil hx ha hdb he hpl
end
def dcScope : Stmt → Scope
  | .Assign _ (.DictComp _ _ _ sc _) _ => sc
  | _ => { kind := .function, names := [], isGenerator := false, isCoroutine := false }
def bodyAt (st : Stmt) (i : Nat) : Stmt := (defBody st).getD i (.Pass ⟨0, 0, 0, 0⟩)
/-! ### rows -/
def clsFrom : Nat → List Row → List Cl
  | _, [] => []
  | n, .clause h gs :: r => ⟨n, h, gs⟩ :: clsFrom (n + 1) r
  | n, .mode _ :: r => clsFrom (n + 1) r
  | n, .table _ :: r => clsFrom (n + 1) r
def tabs (rows : List Row) : List Str := rows.filterMap fun r => match r with
  | .table x => some x
  | _ => none
def st0 : LS := ⟨[], [], [], [], 0, 0⟩
theorem fold_n : ∀ (rows : List Row) (st : LS), (rows.foldl layR st).n = st.n + rows.length
  | [], _ => rfl
  | r :: rows, st => by
    rw [List.foldl_cons, fold_n rows, List.length_cons]
    have : (layR st r).n = st.n + 1 := by cases r <;> rfl
    rw [this]
    omega
theorem fold_b : ∀ (rows : List Row) (st : LS), (rows.foldl layR st).b ≤ st.b + rows.length
  | [], _ => Nat.le_refl _
  | r :: rows, st => by
    rw [List.foldl_cons, List.length_cons]
    have h := fold_b rows (layR st r)
    have : (layR st r).b ≤ st.b + 1 := by
      cases r
      · exact Nat.le_succ _
      · exact Nat.le_succ _
      · exact Nat.le_refl _
    omega
theorem fold_cs : ∀ (rows : List Row) (st : LS), (rows.foldl layR st).cs = st.cs ++ clsFrom st.n rows
  | [], st => (List.append_nil _).symm
  | .mode x :: rows, st => by rw [List.foldl_cons, fold_cs rows]; rfl
  | .table x :: rows, st => by rw [List.foldl_cons, fold_cs rows]; rfl
  | .clause h gs :: rows, st => by
    rw [List.foldl_cons, fold_cs rows]
    show (st.cs ++ [_]) ++ _ = st.cs ++ (_ :: _)
    rw [List.append_assoc]
    rfl
theorem fold_md : ∀ (rows : List Row) (st : LS) (x : Str), (x ∈ st.md ∨ Row.mode x ∈ rows) → x ∈ (rows.foldl layR st).md
  | [], _, _, h => h.elim id fun z => nomatch z
  | r :: rows, st, x, h => by
    rw [List.foldl_cons]
    refine fold_md rows _ x ?_
    rcases h with h | h
    · refine .inl ?_
      cases r with
      | mode y => exact mem_insK.mpr (.inl h)
      | table y => exact h
      | clause y gs => exact h
    · rcases List.mem_cons.mp h with h | h
      · subst h
        exact .inl (mem_insK.mpr (.inr rfl))
      · exact .inr h
theorem fold_ms : ∀ (rows : List Row) (st : LS) (x : Str), x ∈ (rows.foldl layR st).ms ↔ x ∈ st.ms ∨ x ∈ tabs rows
  | [], _, _ => ⟨.inl, fun h => h.elim id fun z => nomatch z⟩
  | .mode y :: rows, st, x => by rw [List.foldl_cons, fold_ms rows]; rfl
  | .clause y gs :: rows, st, x => by rw [List.foldl_cons, fold_ms rows]; rfl
  | .table y :: rows, st, x => by
    rw [List.foldl_cons, fold_ms rows]
    show x ∈ insK st.ms y ∨ _ ↔ x ∈ st.ms ∨ x ∈ y :: tabs rows
    rw [mem_insK, List.mem_cons]
    constructor
    · rintro ((a | a) | a)
      · exact .inl a
      · exact .inr (.inl a)
      · exact .inr (.inr a)
    · rintro (a | a | a)
      · exact .inl (.inl a)
      · exact .inl (.inr a)
      · exact .inr a
theorem cls_in {ws : List Str} : ∀ (rows : List Row) (n : Nat), (∀ r ∈ rows, RowOk ws r) → InWs ws (clsFrom n rows)
  | [], _, _ => fun _ m => nomatch m
  | .mode y :: rows, n, h => cls_in rows (n + 1) fun r m => h r (by simp [m])
  | .table y :: rows, n, h => cls_in rows (n + 1) fun r m => h r (by simp [m])
  | .clause y gs :: rows, n, h => by
    intro c m
    rcases List.mem_cons.mp m with m | m
    · rw [m]
      have := h (.clause y gs) (by simp)
      exact ⟨this.1, this.2.2⟩
    · exact cls_in rows (n + 1) (fun r m => h r (by simp [m])) c m
noncomputable def rchB (ls : List (Lk Str)) (x y : Str) : Bool := @decide (Rch ls x y) (Classical.propDecidable _)
theorem rchB_iff {ls : List (Lk Str)} {x y : Str} : rchB ls x y = true ↔ Rch ls x y := by
  unfold rchB
  exact @decide_eq_true_iff _ (Classical.propDecidable _)
def tabB (rows : List Row) (x : Str) : Bool := decide (x ∈ tabs rows)
/-- the program as it stands when it is made -/
structure Done (C : Addr) (ws : List Str) (ls : List (Lk Str)) (H : Hp) (v : V) : Prop where
  titles : ∃ (d : Addr) (ks : List Str) (f : Str → V), Fd C H v "by_title" d (dmap kT ks f) ∧ ks.Nodup ∧ ∀ x, x ∈ ks ↔ x ∈ ws
  reach : ∃ (d : Addr) (k2 : List (Key × V)), Fd C H v "reach" d k2 ∧ ∀ x ∈ ws, ∃ (l : Addr) (ys : List Str), valV k2 (kT x) = some (.ref l) ∧ H l = some (.lst (ys.map V.str)) ∧ IsReach ls x ys
  hts : ∃ (d : Addr) (ks : List Str) (f : Str → Int), Fd C H v "heights" d (dmap kT ks fun x => .int (f x)) ∧ (∀ x ∈ ws, x ∈ ks) ∧ Below ls f ∧ Valid ls f
theorem Done.same {C : Addr} {ws : List Str} {ls : List (Lk Str)} {H H' : Hp} {v : V} (s : Same H H') (h : Done C ws ls H v) : Done C ws ls H' v := by
  obtain ⟨⟨d, ks, f, a, b⟩, ⟨d2, k2, a2, b2⟩, ⟨d3, ks3, f3, a3, b3⟩⟩ := h
  exact ⟨⟨d, ks, f, a.same s, b⟩, ⟨d2, k2, a2.same s, fun x m => let ⟨l, ys, p, q, r⟩ := b2 x m; ⟨l, ys, p, s _ _ q, r⟩⟩, ⟨d3, ks3, f3, a3.same s, b3⟩⟩
theorem fld_new {H0 H : Hp} {a p C dx : Addr} {fs fs' : List (Str × V)} {o : HO} (s : Same H0 H) (na : H0 a = none) (ha : H a = some (.ins C dx fs)) (np : H p = none) :
    Same H0 (upd (upd H p o) a (.ins C dx fs')) ∧ upd (upd H p o) a (.ins C dx fs') a = some (.ins C dx fs') ∧ upd (upd H p o) a (.ins C dx fs') p = some o ∧ p ≠ a ∧ H0 p = none ∧
      (∀ b u, H b = some u → b ≠ a → upd (upd H p o) a (.ins C dx fs') b = some u) ∧ upd H p o a = some (.ins C dx fs) := by
  have hpa : p ≠ a := fun z => by rw [z, ha] at np; cases np
  refine ⟨same_new (same_new s (s.free np)) na, upd_same, upd_at upd_same hpa, hpa, s.free np, fun b u e n => upd_at (upd_at e (ne_of_none e np)) n, upd_at ha hpa.symm⟩
theorem adj_succ {ls : List (Lk Str)} {j : Nat} {l : Lk Str} {y : Str} (e : ls[j]? = some l) : adj (ls.take (j + 1)) y = adj (ls.take j) y ++ (if l.1 = y then [l.2.1] else []) := by
  unfold adj
  rw [List.take_add_one, e, List.filter_append, List.map_append]
  congr 1
  by_cases h : l.1 = y
  · simp [h]
  · simp [h]
/-- the program in its making, the rows laid -/
structure Mid (C : Addr) (ws : List Str) (A : Adr) (H0 : Hp) (cs : List Cl) (ks ms : List Str) (ft fm : Str → Addr) (kb : List (Key × V)) (fs : List (Str × V)) (H : Hp) : Prop where
  same : Same H0 H
  na : H0 A.a = none
  nb : H0 A.pb = none
  ins : H A.a = some (.ins C A.dx fs)
  nom : Nom fs
  f1 : fs.lookup ("bodies" : Str) = some (.ref A.pb)
  f2 : fs.lookup ("by_title" : Str) = some (.ref A.pt)
  f3 : fs.lookup ("by_modes" : Str) = some (.ref A.pm)
  f4 : fs.lookup ("marked" : Str) = some (.ref A.pk)
  fl : fs.length ≤ 10
  bodies : H A.pb = some (.dK kb)
  bods : Bods H kb cs
  uniq : Uniq kb
  titles : H A.pt = some (.dK (dmap kT ks fun x => .ref (ft x)))
  modes : H A.pm = some (.dK (dmap kT ks fun x => .ref (fm x)))
  marked : H A.pk = some (.dK (dmap kT ms fun _ => .bl true))
  ml : ∀ x ∈ ws, H (fm x) = some (.lst [.str ""])
  kw : ∀ x, x ∈ ks ↔ x ∈ ws
  nd : ks.Nodup
  inws : InWs ws cs
  few : kb.length ≤ 1000
section
variable {C : Addr} {ws : List Str} {A : Adr} {H0 H H' : Hp} {cs : List Cl} {ks ms : List Str} {ft fm : Str → Addr} {kb : List (Key × V)} {fs fs' : List (Str × V)}
theorem Mid.step (L : Mid C ws A H0 cs ks ms ft fm kb fs H) (s : Same H H') : Mid C ws A H0 cs ks ms ft fm kb fs H' :=
  { L with same := L.same.trans s, ins := s _ _ L.ins, bodies := s _ _ L.bodies, bods := L.bods.sameL (.of s), titles := s _ _ L.titles, modes := s _ _ L.modes, marked := s _ _ L.marked, ml := fun x m => s _ _ (L.ml x m) }
theorem Mid.fld (L : Mid C ws A H0 cs ks ms ft fm kb fs H) (n : Nom fs') (f1 : fs'.lookup ("bodies" : Str) = some (.ref A.pb)) (f2 : fs'.lookup ("by_title" : Str) = some (.ref A.pt)) (f3 : fs'.lookup ("by_modes" : Str) = some (.ref A.pm))
    (f4 : fs'.lookup ("marked" : Str) = some (.ref A.pk)) (fl : fs'.length ≤ 10) : Mid C ws A H0 cs ks ms ft fm kb fs' (upd H A.a (.ins C A.dx fs')) := by
  have kp : ∀ b o, H b = some o → (∀ dx gs, o ≠ .ins C dx gs) → upd H A.a (.ins C A.dx fs') b = some o := fun b o e z => upd_at e (ne_of_some e L.ins (z _ _))
  exact { L with same := same_new L.same L.na, ins := upd_same, nom := n, f1 := f1, f2 := f2, f3 := f3, f4 := f4, fl := fl, bodies := kp _ _ L.bodies (fun _ _ z => nomatch z), bods := L.bods.put L.ins (fun _ z => nomatch z),
                 titles := kp _ _ L.titles (fun _ _ z => nomatch z), modes := kp _ _ L.modes (fun _ _ z => nomatch z), marked := kp _ _ L.marked (fun _ _ z => nomatch z), ml := fun x m => kp _ _ (L.ml x m) (fun _ _ z => nomatch z) }
theorem Mid.fd (L : Mid C ws A H0 cs ks ms ft fm kb fs H) {f : Str} {d : Addr} {kvs : List (Key × V)} (hf : fs.lookup f = some (.ref d)) (hd : H d = some (.dK kvs)) : Fd C H (.ref A.a) f d kvs := ⟨⟨A.a, A.dx, fs, rfl, L.ins, L.nom, hf⟩, .inl hd⟩
theorem Mid.prog (L : Mid C ws A H0 cs ks ms ft fm kb fs H) : Prog C ws cs H (.ref A.a) A.pb kb :=
  ⟨L.fd L.f1 L.bodies, L.bods, ⟨A.pm, _, L.fd L.f3 L.modes, fun x m => ⟨fm x, (valV_dmap kT_inj _ x ks).trans (if_pos ((L.kw x).mpr m)), L.ml x m⟩⟩, L.inws, L.few⟩
end
theorem not_ring {rows : List Row} (h : (clsFrom 0 rows).find? (notIn (rchB (links (clsFrom 0 rows)))) = none) : ∀ a b, (a, b, true) ∈ links (clsFrom 0 rows) → ¬ Rch (links (clsFrom 0 rows)) b a := by
  intro a b m r
  obtain ⟨c, mc, ml⟩ := List.mem_flatMap.mp m
  obtain ⟨g, mg, e⟩ := List.mem_map.mp ml
  obtain ⟨rfl, rfl, e3⟩ : c.head = a ∧ g.2 = b ∧ g.1 = true := by
    injection e with e1 e2
    injection e2 with e2 e3
    exact ⟨e1, e2, e3⟩
  have hn := List.find?_eq_none.mp h c mc
  refine hn ?_
  unfold notIn
  rw [List.any_eq_true]
  exact ⟨g, List.mem_filter.mpr ⟨mg, rchB_iff.mpr r⟩, e3⟩
theorem links_in {ws : List Str} {cs : List Cl} (h : InWs ws cs) : ∀ l ∈ links cs, l.1 ∈ ws ∧ l.2.1 ∈ ws := by
  intro l m
  obtain ⟨c, mc, ml⟩ := List.mem_flatMap.mp m
  obtain ⟨g, mg, rfl⟩ := List.mem_map.mp ml
  exact ⟨(h c mc).1, (h c mc).2 g mg⟩
section
variable {P : Program} {w : World} {K : PySem.W.Frag} {mg : Str → Option Value} {base : Heap} {C M N : Addr}
abbrev nInit : List Str := ["self", "rows", "line", "row", "links", "asks", "title", "head", "other", "barred"]
theorem sc_init : FnScope nInit ["self", "rows"] (defScope m_init) := ⟨rfl, rfl, rfl, by decide +kernel, rfl, by decide +kernel, by decide +kernel⟩
def MkX (P : Program) (w : World) (K : PySem.W.Frag) (mg : Str → Option Value) (base : Heap) (C : Addr) (k : Nat) (ps : List Str) (sp : Sp) : Prop := ∃ f fd, FnOk P w K mg base (L2.CX P w) k f fd ps sp ∧ Mk K C f ∧ Binds K fd ps []
def spInit (C M N : Addr) : Sp := fun vs H Q E => ∃ (a dx pr : Addr) (rvs : List V) (rows : List Row) (ws : List Str) (H0 : Hp), vs = [.ref a, .ref pr] ∧ H a = some (.ins C dx []) ∧ H0 a = none ∧ Same H0 H ∧ H0 pr = some (.lst rvs) ∧ Paired (RowV H0) rvs rows ∧
  (∀ r ∈ rows, RowOk ws r) ∧ (∀ x ∈ ws, Row.mode x ∈ rows) ∧ ws.length ≤ 63 ∧ rows.length ≤ 500 ∧ (links (clsFrom 0 rows)).length ≤ 1000 ∧
  (∀ c, (clsFrom 0 rows).find? (apartIn (rchB (links (clsFrom 0 rows))) (tabB rows)) = some c → ∀ d H', Same H0 H' → H' d = some (.xd [("line", .int (c.line : Int))]) → E (.ref M) (some d) H') ∧
  (∀ c, (clsFrom 0 rows).find? (apartIn (rchB (links (clsFrom 0 rows))) (tabB rows)) = none → (clsFrom 0 rows).find? (notIn (rchB (links (clsFrom 0 rows)))) = some c → ∀ d H', Same H0 H' → H' d = some (.xd [("line", .int (c.line : Int))]) → E (.ref N) (some d) H') ∧
  ((clsFrom 0 rows).find? (apartIn (rchB (links (clsFrom 0 rows))) (tabB rows)) = none → (clsFrom 0 rows).find? (notIn (rchB (links (clsFrom 0 rows)))) = none → ∀ H', Same H0 H' → Done C ws (links (clsFrom 0 rows)) H' (.ref a) → Q .non H')
theorem init_ok (T : Tx K mg w C M N) : MkX P w K mg base C 9 ["self", "rows"] (spInit C M N) := by
  have cl := lay_ok (P := P) (base := base) T
  have cm := look_modes_ok (P := P) (base := base) T
  have ck := look_known_ok (P := P) (base := base) T
  have cli := links_of_ok (P := P) (base := base) T
  have cr := reached_from_ok (P := P) (base := base) T
  have clr := look_rings_ok (P := P) (base := base) T
  have chh := heights_of_ok (P := P) (base := base) T
  obtain ⟨f, fd, F, mk, b⟩ := T.init
  refine ⟨f, fd, F.ok sc_init (fun vs H Q E h => ?_) (fun cdv Ar outer s H vs Q E hr h => ?_), mk, b⟩
  · obtain ⟨a, dx, pr, rvs, rows, ws, H0, rfl, _⟩ := h
    rfl
  · obtain ⟨a, dx, pr, rvs, rows, ws, H0, rfl, ha, na, s0, hpr, hrv, hok, hmode, h63, h500, hlk, qM, qN, q⟩ := h
    refine ⟨_, pss_cons (ps_fld (pv 0) pe_dnewK rfl)
      (pss_cons (ps_fld (pv 0) pe_dnewK rfl)
      (pss_cons (ps_fld (pv 0) pe_dnewK rfl)
      (pss_cons (ps_fld (pv 0) pe_dnewK rfl)
      (pss_cons (ps_for (passes_of rfl) rfl (pi_enum (by rfl) T.n_enumerate (pa_cons (pv 1) pa_nil))
        (pg_tup rfl (pgs_cons (pg_name (i := 2) sc_init.nd rfl (.inl rfl)) (pgs_cons (pg_name (i := 3) sc_init.nd rfl (.inl rfl)) pgs_nil)))
        (pss_one (ps_expr (pe_met (pv 0) T.cls cl hr (by decide) (pa_cons (pv 2) (pa_cons (pv 3) pa_nil))))))
      (pss_cons (ps_expr (pe_cal cm hr (by decide) (by rfl) (pa_cons (pv 0) pa_nil)))
      (pss_cons (ps_fld (pv 0) (pe_cal ck hr (by decide) (by rfl) (pa_cons (pv 0) pa_nil)) rfl)
      (pss_cons (ps_set (i := 4) sc_init.nd rfl (.inr rfl) (pe_cal cli hr (by decide) (by rfl) (pa_cons (pe_fld (pv 0) rfl) pa_nil)))
      (pss_cons (ps_set (i := 5) sc_init.nd rfl (.inr rfl) (pe_lock (pe_dc (own := [("title", 6)]) (g := gName 6) (tk := tVar 6)
          (tv := tLc (iList K (tVar 4)) (gTup K 3 (gCons (gName 7) (gCons (gName 8) (gCons (gName 9) gNil)))) (tTest (tOp rEq (tVar 7) (tVar 6))) (tVar 8) [7, 8, 9]) rfl sc_init.nd
          (pi_keys (pe_fld (pv 0) rfl)) (blkOk_by (N := nInit) (sc := defScope m_init) (by decide +kernel))
          (fun _ _ _ _ _ => pg_name (i := 6) sc_init.nd rfl (.inr rfl) (.inl rfl)) (fun _ _ _ _ _ => pts_nil) (fun _ _ _ _ _ => pv 6)
          (fun _ _ _ _ _ => pe_lc (own := [("head", 7), ("other", 8), ("barred", 9)]) rfl sc_init.nd (pi_list (pv 4)) (blkOk_by (N := nInit) (sc := relS (dcScope (bodyAt m_init 8)) (defScope m_init)) (by decide +kernel))
            (fun _ _ _ _ _ => pg_tup rfl (pgs_cons (pg_name (i := 7) sc_init.nd rfl (.inl rfl) (.inr rfl)) (pgs_cons (pg_name (i := 8) sc_init.nd rfl (.inl rfl) (.inr rfl)) (pgs_cons (pg_name (i := 9) sc_init.nd rfl (.inl rfl) (.inr rfl)) pgs_nil))))
            (fun _ _ _ _ _ => pts_one (pt_cmpR op_eq (pv 7) (pv 6) (nomark _))) (fun _ _ _ _ _ => pv 8)))))
      (pss_cons (ps_fld (pv 0) (pe_lock (pe_dc (own := [("title", 6)]) (g := gName 6) (tk := tVar 6) rfl sc_init.nd (pi_keys (pv 5)) (blkOk_by (N := nInit) (sc := defScope m_init) (by decide +kernel))
          (fun _ _ _ _ _ => pg_name (i := 6) sc_init.nd rfl (.inl rfl) (.inr rfl)) (fun _ _ _ _ _ => pts_nil) (fun _ _ _ _ _ => pv 6)
          (fun _ _ _ _ _ => pe_cal cr hr (by decide) (by rfl) (pa_cons (pv 5) (pa_cons (pv 6) pa_nil))))) rfl)
      (pss_cons (ps_expr (pe_calX clr hr (by decide) (passes_call (takes_of rfl rfl rfl rfl) fun _ _ _ _ h => h) (by rfl) (pa_cons (pv 0) pa_nil)))
      (pss_one (ps_fld (pv 0) (pe_cal chh hr (by decide) (by rfl) (pa_cons (pe_callTy (call_listD rfl) (by rfl) T.n_list (by decide +kernel) (pa_cons (pv 5) pa_nil)) (pa_cons (pv 4) pa_nil))) rfl)))))))))))), ?_⟩
    intro pb npb
    obtain ⟨s1, ha1, hb1, hba, nb0, k1, ha1'⟩ := fld_new (fs' := [("bodies", .ref pb)]) (o := .dK []) s0 na ha npb
    refine ⟨_, rfl, a, C, dx, [], rfl, ha1', T.cls, T.a_bodies, by decide, ?_⟩
    show tSeq _ _ _ _ (upd (upd H pb (.dK [])) a (.ins C dx [("bodies", .ref pb)]))
    generalize upd (upd H pb (.dK [])) a (.ins C dx [("bodies", .ref pb)]) = H1 at *
    intro pt npt
    obtain ⟨s2, ha2, ht2, hta, nt0, k2, ha2'⟩ := fld_new (fs' := [("bodies", .ref pb), ("by_title", .ref pt)]) (o := .dK []) s1 na ha1 npt
    have hb2 := k2 _ _ hb1 hba
    have hbt : pb ≠ pt := ne_of_none hb1 npt
    refine ⟨_, rfl, a, C, dx, _, rfl, ha2', T.cls, T.a_by_title, by show 1 < 1000; decide, ?_⟩
    show tSeq _ _ _ _ (upd (upd H1 pt (.dK [])) a (.ins C dx [("bodies", .ref pb), ("by_title", .ref pt)]))
    generalize upd (upd H1 pt (.dK [])) a (.ins C dx [("bodies", .ref pb), ("by_title", .ref pt)]) = H2 at *
    intro pm npm
    obtain ⟨s3, ha3, hm3, hma, nm0, k3, ha3'⟩ := fld_new (fs' := [("bodies", .ref pb), ("by_title", .ref pt), ("by_modes", .ref pm)]) (o := .dK []) s2 na ha2 npm
    have hb3 := k3 _ _ hb2 hba
    have ht3 := k3 _ _ ht2 hta
    have hbm : pb ≠ pm := ne_of_none hb2 npm
    have htm : pt ≠ pm := ne_of_none ht2 npm
    refine ⟨_, rfl, a, C, dx, _, rfl, ha3', T.cls, T.a_by_modes, by show 2 < 1000; decide, ?_⟩
    show tSeq _ _ _ _ (upd (upd H2 pm (.dK [])) a (.ins C dx [("bodies", .ref pb), ("by_title", .ref pt), ("by_modes", .ref pm)]))
    generalize upd (upd H2 pm (.dK [])) a (.ins C dx [("bodies", .ref pb), ("by_title", .ref pt), ("by_modes", .ref pm)]) = H3 at *
    intro pk npk
    obtain ⟨s4, ha4, hk4, hka, nk0, k4, ha4'⟩ := fld_new (fs' := fs4 ⟨a, dx, pb, pt, pm, pk⟩) (o := .dK []) s3 na ha3 npk
    have hb4 := k4 _ _ hb3 hba
    have ht4 := k4 _ _ ht3 hta
    have hm4 := k4 _ _ hm3 hma
    have hbk : pb ≠ pk := ne_of_none hb3 npk
    have htk : pt ≠ pk := ne_of_none ht3 npk
    have hmk : pm ≠ pk := ne_of_none hm3 npk
    refine ⟨_, rfl, a, C, dx, _, rfl, ha4', T.cls, T.a_marked, by show 3 < 1000; decide, ?_⟩
    show tSeq _ _ _ _ (upd (upd H3 pk (.dK [])) a (.ins C dx (fs4 ⟨a, dx, pb, pt, pm, pk⟩)))
    generalize upd (upd H3 pk (.dK [])) a (.ins C dx (fs4 ⟨a, dx, pb, pt, pm, pk⟩)) = H4 at *
    have L0 : Laid C ws ⟨a, dx, pb, pt, pm, pk⟩ H0 st0 (fun _ => 0) (fun _ => 0) [] H4 :=
      ⟨s4, na, nb0, nt0, nm0, nk0, fun _ m => (nomatch m), fun _ m => (nomatch m), ha4, hb4, .nil, fun _ _ _ e => (nomatch e), fun _ m => (nomatch m), Nat.le_refl _, ht4, hm4, hk4, fun _ m => (nomatch m), fun _ m => (nomatch m), fun _ m => (nomatch m), fun _ m => (nomatch m),
        fun _ m => (nomatch m), fun _ m => (nomatch m), hbt, hbm, hbk, htm, htk, hmk, List.nodup_nil, List.nodup_nil, fun _ m => (nomatch m)⟩
    refine ⟨_, rfl, pr, rvs, rfl, SqL.of (s4 _ _ hpr), ?_⟩
    have hrl : rvs.length = rows.length := Paired.length hrv
    clear s1 s2 s3 k1 k2 k3 k4 ha1 ha2 ha3 hb1 hb2 hb3 ht2 ht3 hm3 npb npt npm npk ha1' ha2' ha3' ha4' s0 ha
    refine for_it (n := rvs.length) (fun i σ H' => ∃ z2 z3 ft fm kb, σ = [some (V.ref a), some (.ref pr), z2, z3, none, none, none, none, none, none] ∧ Laid C ws ⟨a, dx, pb, pt, pm, pk⟩ H0 ((rows.take i).foldl layR st0) ft fm kb H')
      ⟨none, none, _, _, _, rfl, L0⟩ (fun i σ H' hi h => ?_) (fun σ H' h => ?_) (fun i σ H' hi h x H5 hy => ?_) (fun σ H' h => ?_)
    · obtain ⟨_, _, _, _, _, _, L⟩ := h
      exact go_e (SqL.of (L.same _ _ hpr)) hi
    · obtain ⟨_, _, _, _, _, _, L⟩ := h
      exact stop_e (SqL.of (L.same _ _ hpr))
    · obtain ⟨z2, z3, ft, fm, kb, rfl, L⟩ := h
      obtain ⟨t, y, rfl, nt, rfl, hyi⟩ := yld_e (SqL.of (L.same _ _ hpr)) hy
      obtain ⟨r, hri, hrV⟩ := paired_get hrv hyi
      have L5 := L.step (same_upd (o := .tup [.int (i : Nat), y]) nt)
      have hn : ((rows.take i).foldl layR st0).n = i := by
        rw [fold_n, List.length_take]
        show 0 + _ = _
        omega
      have hb : ((rows.take i).foldl layR st0).b ≤ i := by
        have := fold_b (rows.take i) st0
        rw [List.length_take] at this
        have e : st0.b = 0 := rfl
        omega
      refine ⟨t, _, rfl, SqT.of upd_same, rfl, _, _, rfl, _, _, rfl, rfl, ?_⟩
      refine ⟨_, rfl, a, dx, _, rfl, L5.ins, rfl, _, rfl, _, rfl, ws, ⟨a, dx, pb, pt, pm, pk⟩, H0, _, ft, fm, kb, y, r, by rw [hn]; rfl, hrV, hok r (List.mem_of_getElem? hri), L5, h63, by omega, by omega, fun H6 ft6 fm6 kb6 L6 => ?_⟩
      refine ⟨_, _, ft6, fm6, kb6, rfl, ?_⟩
      rw [List.take_add_one, hri, List.foldl_append]
      exact L6
    · obtain ⟨z2, z3, ft, fm, kb, rfl, L⟩ := h
      rw [hrl, List.take_length] at L
      have hcs : (rows.foldl layR st0).cs = clsFrom 0 rows := by
        rw [fold_cs]
        rfl
      have hn : (rows.foldl layR st0).n = rows.length := by rw [fold_n]; exact Nat.zero_add _
      have hkw : ∀ x, x ∈ (rows.foldl layR st0).ks ↔ x ∈ ws := fun x => ⟨L.sub x, fun m => L.mdk x (fold_md rows st0 x (.inr (hmode x m)))⟩
      have hms : ∀ x, x ∈ (rows.foldl layR st0).ms ↔ x ∈ tabs rows := fun x => (fold_ms rows st0 x).trans ⟨fun h => h.elim (fun z => nomatch z) id, .inr⟩
      have hkbl : kb.length = (clsFrom 0 rows).length := by rw [← hcs]; exact Paired.length L.bods
      have hfew := L.few
      rw [hcs, hn] at hfew
      have M0 : Mid C ws ⟨a, dx, pb, pt, pm, pk⟩ H0 (clsFrom 0 rows) (rows.foldl layR st0).ks (rows.foldl layR st0).ms ft fm kb (fs4 ⟨a, dx, pb, pt, pm, pk⟩) H' :=
        ⟨L.same, na, nb0, L.ins, ⟨rfl, rfl, rfl, rfl, rfl, rfl, rfl⟩, rfl, rfl, rfl, rfl, by show 4 ≤ 10; decide, L.bodies, by rw [← hcs]; exact L.bods, L.uniq, L.titles, L.modes, L.marked,
          fun x m => by
            have := L.ml x ((hkw x).mpr m)
            rw [if_pos (fold_md rows st0 x (.inr (hmode x m)))] at this
            exact this,
          hkw, L.nd, cls_in rows 0 hok, by omega⟩
      have hfk := L.few_ks
      clear L0 s4 ha4 hk4 hb4 ht4 hm4 L
      generalize (rows.foldl layR st0).ks = ks at *
      generalize (rows.foldl layR st0).ms = ms at *
      have hin := links_in (cls_in rows 0 hok)
      generalize hcl : clsFrom 0 rows = cs at *
      generalize hls : links cs = ls at *
      -- the looks
      refine ⟨_, rfl, .ref a, ws, cs, pb, kb, rfl, M0.prog, M0.bodies, fun H5 s5 => ?_⟩
      have M1 := M0.step s5
      clear M0
      refine ⟨_, rfl, .ref a, ws, cs, pb, kb, rfl, M1.prog, M1.bodies, fun H6 p6 s6 => ?_⟩
      have M2 := M1.step s6
      clear M1
      refine ⟨_, rfl, a, C, dx, _, rfl, M2.ins, T.cls, T.a_plans, by show 4 < 1000; decide, ?_⟩
      have M3 := M2.fld (fs' := [("bodies", .ref pb), ("by_title", .ref pt), ("by_modes", .ref pm), ("marked", .ref pk), ("plans", .ref p6)]) ⟨rfl, rfl, rfl, rfl, rfl, rfl, rfl⟩ rfl rfl rfl rfl (by show 5 ≤ 10; decide)
      show tSeq _ _ _ _ (upd H6 a (.ins C dx [("bodies", .ref pb), ("by_title", .ref pt), ("by_modes", .ref pm), ("marked", .ref pk), ("plans", .ref p6)]))
      generalize upd H6 a (.ins C dx [("bodies", .ref pb), ("by_title", .ref pt), ("by_modes", .ref pm), ("marked", .ref pk), ("plans", .ref p6)]) = H7 at *
      clear M2
      refine ⟨_, rfl, a, C, dx, _, _, rfl, M3.ins, T.cls, T.a_bodies, M3.f1, pb, kb, cs, rfl, M3.bodies, M3.bods, by rw [hls]; exact hlk, fun H8 pl acc s8 npl hpl hacc => ?_⟩
      rw [hls] at hacc
      have hal : acc.length = ls.length := Paired.length hacc
      have M4 := M3.step s8
      clear M3 s8 npl
      -- asks
      refine ⟨pt, _, M4.titles, trivial, fun od => ?_⟩
      have hpt : H8 pt = some (.dK (dmap kT ks fun x => .ref (ft x))) := M4.titles
      have sl := SameL.lock (od := od) hpt
      have haL := sl.obj _ _ M4.ins (fun _ z => nomatch z)
      have hplL := sl.obj _ _ hpl (fun _ z => nomatch z)
      have haccL := hacc.sameL sl
      have hptL : upd H8 pt (.frz od (.dK (dmap kT ks fun x => .ref (ft x)))) pt = some (.frz od (.dK (dmap kT ks fun x => .ref (ft x)))) := upd_same
      have hfinL : ∀ H', Same (upd H8 pt (.frz od (.dK (dmap kT ks fun x => .ref (ft x))))) H' → Same H8 (upd H' pt (.dK (dmap kT ks fun x => .ref (ft x)))) := fun H' s => Same.unlock hpt s
      have hneL : ∀ D, upd H8 pt (.frz od (.dK (dmap kT ks fun x => .ref (ft x)))) D = none → D ≠ pt ∧ H8 D = none := fun D e => by
        have : D ≠ pt := fun z => by rw [z, upd_same] at e; cases e
        rw [upd_ne this] at e
        exact ⟨this, e⟩
      generalize upd H8 pt (.frz od (.dK (dmap kT ks fun x => .ref (ft x)))) = HL at *
      refine ⟨_, rfl, a, C, dx, _, _, rfl, haL, T.cls, T.a_by_title, M4.f2, pt, od, rfl, .inl ⟨_, hptL, fun D nD => ?_⟩⟩
      obtain ⟨hDpt, nD8⟩ := hneL D nD
      have hget : ∀ i, i < (dmap kT ks fun x => V.ref (ft x)).length → ∃ y, ks[i]? = some y ∧ (dmap kT ks fun x => V.ref (ft x))[i]? = some (kT y, .ref (ft y)) ∧ ks.take (i + 1) = ks.take i ++ [y] ∧ y ∉ ks.take i := fun i hi => by
        rw [dmap_length] at hi
        have e : ks[i]? = some ks[i] := List.getElem?_eq_getElem hi
        have e2 : ks.take (i + 1) = ks.take i ++ [ks[i]] := by rw [List.take_add_one, e]; rfl
        refine ⟨ks[i], e, ?_, e2, fun m => ?_⟩
        · unfold dmap
          rw [List.getElem?_map, e]
          rfl
        · have nd : (ks.take (i + 1)).Nodup := M4.nd.sublist (List.take_sublist _ _)
          rw [e2, List.nodup_append] at nd
          exact nd.2.2 _ m _ (List.mem_singleton.mpr rfl) rfl
      have hdl : (dmap kT ks fun x => V.ref (ft x)).length = ks.length := dmap_length
      refine dc_it (n := (dmap kT ks fun x => V.ref (ft x)).length) (fun i H' => Same HL H' ∧ ∃ fl : Str → Addr, H' D = some (.dK (dmap kT (ks.take i) fun x => .ref (fl x))) ∧ ∀ x ∈ ks.take i, H' (fl x) = some (.lst ((adj ls x).map vT)))
        ⟨same_upd nD, fun _ => 0, upd_same, fun _ m => by rw [List.take_zero] at m; cases m⟩ (fun i H' hi h => ⟨h.1 _ _ hptL, hi⟩) (fun H' h => ⟨h.1 _ _ hptL, Nat.le_refl _⟩) (fun i H' hi h x H9 hy => ?_) (fun H' h => ?_)
      · obtain ⟨s9, fl, hD9, hfl⟩ := h
        obtain ⟨rfl, k, v, hk, rfl⟩ := hy
        obtain ⟨y, hyi, hky, htk, hnew⟩ := hget i hi
        obtain rfl : kT y = k := by rw [hky] at hk; exact congrArg Prod.fst (Option.some.inj hk)
        refine ⟨rfl, ?_⟩
        refine yesT ?_
        refine ⟨_, rfl, _, rfl, pl, rfl, ⟨acc, SqL.of (s9 _ _ hplL)⟩, fun D2 nD2 => ?_⟩
        refine lc_it (n := acc.length) (fun j H' => Same H9 H' ∧ H' D2 = some (.lst ((adj (ls.take j) y).map vT)) ∧ (adj (ls.take j) y).length ≤ j) ⟨same_upd nD2, by rw [upd_same]; rfl, Nat.le_refl _⟩
          (fun j H' hj h => go_l (SqL.of (h.1 _ _ (s9 _ _ hplL))) hj) (fun H' h => stop_l (SqL.of (h.1 _ _ (s9 _ _ hplL)))) (fun j H' hj h x H10 hy => ?_) (fun H' h => ?_)
        · obtain ⟨s10, hD10, hjl⟩ := h
          obtain ⟨rfl, hx⟩ := yld_l (SqL.of (s10 _ _ (s9 _ _ hplL))) hy
          obtain ⟨l, hlj, t, rfl, ht⟩ := paired_get haccL hx
          refine ⟨t, _, rfl, SqT.of (s10 _ _ (s9 _ _ ht)), rfl, _, _, rfl, _, _, rfl, _, _, rfl, rfl, rfl, ?_⟩
          refine ⟨_, rfl, _, rfl, rfl, _, rfl, ?_⟩
          have hsu := adj_succ (y := y) hlj
          have hde : decide (V.str (tt l.1) = kV (kT y)) = decide (l.1 = y) := by
            by_cases e : l.1 = y
            · rw [decide_eq_true e, decide_eq_true]
              rw [e]; rfl
            · rw [decide_eq_false e, decide_eq_false]
              exact fun z => e (tt_inj (by injection z))
          rw [hde]
          refine ite2 (fun z => ?_) fun z => ?_
          · rw [if_pos (of_decide_eq_true z)] at hsu
            refine ⟨_, rfl, _, hD10, by rw [List.length_map, sizeLine_eq]; omega, same_new s10 nD2, ?_, by rw [hsu, List.length_append, List.length_singleton]; omega⟩
            rw [upd_same, hsu, List.map_append]
            rfl
          · rw [if_neg (of_decide_eq_false (by simpa using z)), List.append_nil] at hsu
            exact ⟨s10, by rw [hsu]; exact hD10, by rw [hsu]; omega⟩
        · obtain ⟨s10, hD10, hjl⟩ := h
          rw [hal, List.take_length] at hD10
          have s11 := s9.trans s10
          refine ⟨_, kT y, rfl, s10 _ _ hD9, by rw [dmap_length, List.length_take, sizeLine_eq]; omega, ?_⟩
          rw [putK_dmap_new kT_inj hnew]
          refine ⟨same_new s11 nD, fun x => if x = y then D2 else fl x, ?_, fun x m => ?_⟩
          · rw [upd_same, htk]
            congr 2
            exact dmap_congr fun x _ => by
              show (if x = y then V.ref D2 else V.ref (fl x)) = V.ref (if x = y then D2 else fl x)
              split <;> rfl
          · rw [htk] at m
            have hDD : ∀ b xs, H' b = some (.lst xs) → b ≠ D := fun b xs e => ne_of_some e (s10 _ _ hD9) fun z => nomatch z
            by_cases e : x = y
            · show upd H' D _ (if x = y then D2 else fl x) = _
              rw [if_pos e, e]
              exact upd_at hD10 (hDD _ _ hD10)
            · show upd H' D _ (if x = y then D2 else fl x) = _
              rw [if_neg e]
              rcases List.mem_append.mp m with m | m
              · exact upd_at (s10 _ _ (hfl x m)) (hDD _ _ (s10 _ _ (hfl x m)))
              · rw [List.mem_singleton] at m
                exact absurd m e
      obtain ⟨s9, fl, hD9, hfl⟩ := h
      rw [hdl, List.take_length] at hD9 hfl
      refine ⟨s9 _ _ hptL, ?_⟩
      have s10 := hfinL _ s9
      have hDu : upd H' pt (.dK (dmap kT ks fun x => .ref (ft x))) D = some (.dK (dmap kT ks fun x => .ref (fl x))) := upd_at hD9 hDpt
      have hflu : ∀ x ∈ ks, upd H' pt (.dK (dmap kT ks fun x => .ref (ft x))) (fl x) = some (.lst ((adj ls x).map vT)) := fun x m => upd_at (hfl x m) (ne_of_some (hfl x m) (s9 _ _ hptL) fun z => nomatch z)
      have M5 := M4.step s10
      have hpl5 := s10 _ _ hpl
      have hacc5 := hacc.same s10
      clear sl haL hplL haccL hptL hfinL hneL nD hget hdl s9 hD9 hfl s10 M4 hpl hacc hpt
      generalize upd H' pt (.dK (dmap kT ks fun x => .ref (ft x))) = H9 at *
      -- reach
      have hA5 : Asks ls ws H9 (dmap kT ks fun x => .ref (fl x)) := fun x m => ⟨fl x, (valV_dmap kT_inj _ x ks).trans (if_pos ((hkw x).mpr m)), hflu x ((hkw x).mpr m)⟩
      refine ⟨D, _, hDu, trivial, fun od => ?_⟩
      have sl := SameL.lock (od := od) hDu
      have hDL : upd H9 D (.frz od (.dK (dmap kT ks fun x => .ref (fl x)))) D = some (.frz od (.dK (dmap kT ks fun x => .ref (fl x)))) := upd_same
      have hAL : Asks ls ws (upd H9 D (.frz od (.dK (dmap kT ks fun x => .ref (fl x))))) (dmap kT ks fun x => .ref (fl x)) := fun x m => let ⟨l, p, q⟩ := hA5 x m; ⟨l, p, sl.obj _ _ q (fun _ z => nomatch z)⟩
      have hfinL : ∀ H', Same (upd H9 D (.frz od (.dK (dmap kT ks fun x => .ref (fl x))))) H' → Same H9 (upd H' D (.dK (dmap kT ks fun x => .ref (fl x)))) := fun H' s => Same.unlock hDu s
      have hneL : ∀ D2, upd H9 D (.frz od (.dK (dmap kT ks fun x => .ref (fl x)))) D2 = none → D2 ≠ D := fun D2 e z => by rw [z, upd_same] at e; cases e
      generalize upd H9 D (.frz od (.dK (dmap kT ks fun x => .ref (fl x)))) = HL at *
      refine ⟨_, rfl, D, od, rfl, .inl ⟨_, hDL, fun D2 nD2 => ?_⟩⟩
      have hD2D := hneL D2 nD2
      have hget : ∀ i, i < (dmap kT ks fun x => V.ref (fl x)).length → ∃ y, ks[i]? = some y ∧ (dmap kT ks fun x => V.ref (fl x))[i]? = some (kT y, .ref (fl y)) ∧ ks.take (i + 1) = ks.take i ++ [y] ∧ y ∉ ks.take i := fun i hi => by
        rw [dmap_length] at hi
        have e : ks[i]? = some ks[i] := List.getElem?_eq_getElem hi
        have e2 : ks.take (i + 1) = ks.take i ++ [ks[i]] := by rw [List.take_add_one, e]; rfl
        refine ⟨ks[i], e, ?_, e2, fun m => ?_⟩
        · unfold dmap
          rw [List.getElem?_map, e]
          rfl
        · have nd : (ks.take (i + 1)).Nodup := M5.nd.sublist (List.take_sublist _ _)
          rw [e2, List.nodup_append] at nd
          exact nd.2.2 _ m _ (List.mem_singleton.mpr rfl) rfl
      have hdl : (dmap kT ks fun x => V.ref (fl x)).length = ks.length := dmap_length
      refine dc_it (n := (dmap kT ks fun x => V.ref (fl x)).length) (fun i H' => Same HL H' ∧ ∃ fr : Str → Addr, H' D2 = some (.dK (dmap kT (ks.take i) fun x => .ref (fr x))) ∧ ∀ x ∈ ks.take i, ∃ ys : List Str, H' (fr x) = some (.lst (ys.map V.str)) ∧ IsReach ls x ys)
        ⟨same_upd nD2, fun _ => 0, upd_same, fun _ m => by rw [List.take_zero] at m; cases m⟩ (fun i H' hi h => ⟨h.1 _ _ hDL, hi⟩) (fun H' h => ⟨h.1 _ _ hDL, Nat.le_refl _⟩) (fun i H' hi h x H10 hy => ?_) (fun H' h => ?_)
      · obtain ⟨s9, fr, hD9, hfr⟩ := h
        obtain ⟨rfl, k, v, hk, rfl⟩ := hy
        obtain ⟨y, hyi, hky, htk, hnew⟩ := hget i hi
        obtain rfl : kT y = k := by rw [hky] at hk; exact congrArg Prod.fst (Option.some.inj hk)
        have hyw : y ∈ ws := (hkw y).mp (List.mem_of_getElem? hyi)
        refine ⟨rfl, ?_⟩
        refine yesT ?_
        refine ⟨_, rfl, _, rfl, _, rfl, D, y, _, ls, ws, rfl, .inr ⟨od, s9 _ _ hDL⟩, fun x m => let ⟨l, p, q⟩ := hAL x m; ⟨l, p, s9 _ _ q⟩, hin, hyw, by omega, fun H11 p11 ys s11 np11 hp11 hys => ?_⟩
        have hD11 := s11 _ _ hD9
        refine ⟨_, kT y, rfl, hD11, by rw [dmap_length, List.length_take, sizeLine_eq]; omega, ?_⟩
        rw [putK_dmap_new kT_inj hnew]
        have hDD : ∀ b xs, H11 b = some (.lst xs) → b ≠ D2 := fun b xs e => ne_of_some e hD11 fun z => nomatch z
        refine ⟨same_new (s9.trans s11) nD2, fun x => if x = y then p11 else fr x, ?_, fun x m => ?_⟩
        · rw [upd_same, htk]
          congr 2
          exact dmap_congr fun x _ => by
            show (if x = y then V.ref p11 else V.ref (fr x)) = V.ref (if x = y then p11 else fr x)
            split <;> rfl
        · rw [htk] at m
          by_cases e : x = y
          · refine ⟨ys, ?_, by rw [e]; exact hys⟩
            show upd H11 D2 _ (if x = y then p11 else fr x) = _
            rw [if_pos e]
            exact upd_at hp11 (hDD _ _ hp11)
          · rcases List.mem_append.mp m with m | m
            · obtain ⟨zs, hz, hr2⟩ := hfr x m
              refine ⟨zs, ?_, hr2⟩
              show upd H11 D2 _ (if x = y then p11 else fr x) = _
              rw [if_neg e]
              exact upd_at (s11 _ _ hz) (hDD _ _ (s11 _ _ hz))
            · rw [List.mem_singleton] at m
              exact absurd m e
      obtain ⟨s9, fr, hDr, hfr⟩ := h
      rw [hdl, List.take_length] at hDr hfr
      refine ⟨s9 _ _ hDL, ?_⟩
      have s10 := hfinL _ s9
      have hDr6 : upd H' D (.dK (dmap kT ks fun x => .ref (fl x))) D2 = some (.dK (dmap kT ks fun x => .ref (fr x))) := upd_at hDr hD2D
      have hfr6 : ∀ x ∈ ks, ∃ ys : List Str, upd H' D (.dK (dmap kT ks fun x => .ref (fl x))) (fr x) = some (.lst (ys.map V.str)) ∧ IsReach ls x ys := fun x m => by
        obtain ⟨ys, p, r⟩ := hfr x m
        exact ⟨ys, upd_at p (ne_of_some p (s9 _ _ hDL) fun z => nomatch z), r⟩
      have M6 := M5.step s10
      have hpl6 := s10 _ _ hpl5
      have hacc6 := hacc5.same s10
      have hD6 := s10 _ _ hDu
      clear sl hDL hAL hfinL hneL nD2 hget hdl s9 hDr hfr s10 M5 hpl5 hacc5 hA5 hflu hDu
      generalize upd H' D (.dK (dmap kT ks fun x => .ref (fl x))) = H10 at *
      refine ⟨_, rfl, a, C, dx, _, rfl, M6.ins, T.cls, T.a_reach, by show 5 < 1000; decide, ?_⟩
      have M7 := M6.fld (fs' := [("bodies", .ref pb), ("by_title", .ref pt), ("by_modes", .ref pm), ("marked", .ref pk), ("plans", .ref p6), ("reach", .ref D2)]) ⟨rfl, rfl, rfl, rfl, rfl, rfl, rfl⟩ rfl rfl rfl rfl (by show 6 ≤ 10; decide)
      have kp : ∀ b o, H10 b = some o → (∀ dx gs, o ≠ .ins C dx gs) → upd H10 a (.ins C dx [("bodies", .ref pb), ("by_title", .ref pt), ("by_modes", .ref pm), ("marked", .ref pk), ("plans", .ref p6), ("reach", .ref D2)]) b = some o := fun b o e z => upd_at e (ne_of_some e M6.ins (z _ _))
      have hpl7 := kp _ _ hpl6 (fun _ _ z => nomatch z)
      have hD7 := kp _ _ hD6 (fun _ _ z => nomatch z)
      have hDr7 := kp _ _ hDr6 (fun _ _ z => nomatch z)
      have hfr7 : ∀ x ∈ ks, ∃ ys : List Str, upd H10 a (.ins C dx [("bodies", .ref pb), ("by_title", .ref pt), ("by_modes", .ref pm), ("marked", .ref pk), ("plans", .ref p6), ("reach", .ref D2)]) (fr x) = some (.lst (ys.map V.str)) ∧ IsReach ls x ys := fun x m => by
        obtain ⟨ys, p, r⟩ := hfr6 x m
        exact ⟨ys, kp _ _ p (fun _ _ z => nomatch z), r⟩
      have hacc7 : LinksV (upd H10 a (.ins C dx [("bodies", .ref pb), ("by_title", .ref pt), ("by_modes", .ref pm), ("marked", .ref pk), ("plans", .ref p6), ("reach", .ref D2)])) acc ls := hacc6.mono fun v l ⟨t, p, q⟩ => ⟨t, p, kp _ _ q (fun _ _ z => nomatch z)⟩
      show tSeq _ _ _ _ (upd H10 a (.ins C dx [("bodies", .ref pb), ("by_title", .ref pt), ("by_modes", .ref pm), ("marked", .ref pk), ("plans", .ref p6), ("reach", .ref D2)]))
      clear M6 kp hpl6 hacc6 hD6 hDr6 hfr6
      generalize upd H10 a (.ins C dx [("bodies", .ref pb), ("by_title", .ref pt), ("by_modes", .ref pm), ("marked", .ref pk), ("plans", .ref p6), ("reach", .ref D2)]) = H11 at *
      -- the rings
      have hR : Rings C ws cs (rchB ls) (tabB rows) H11 (.ref a) pb kb := by
        refine ⟨M7.prog, ⟨D2, _, M7.fd rfl hDr7, fun x m => ?_⟩, ⟨pk, _, M7.fd M7.f4 M7.marked, fun x m => ?_⟩⟩
        · obtain ⟨ys, p, F, nd, hF, hperm, hs⟩ := hfr7 x ((hkw x).mpr m)
          refine ⟨fr x, ys, (valV_dmap kT_inj _ x ks).trans (if_pos ((hkw x).mpr m)), p, fun y my => ?_⟩
          rw [hperm.mem_iff, rchB_iff, ← hF y]
          exact ⟨fun k => by obtain ⟨z, mz, e⟩ := List.mem_map.mp k; rw [← tt_inj e]; exact mz, fun k => List.mem_map.mpr ⟨y, k, rfl⟩⟩
        · have := valV_dmap kT_inj (fun _ => V.bl true) x ms
          unfold kT at this
          rw [show valV (dmap kT ms fun _ => V.bl true) (Sum.inr (tt x)) = _ from this]
          unfold tabB
          by_cases hx : x ∈ ms
          · rw [if_pos hx, decide_eq_true ((hms x).mp hx)]; rfl
          · rw [if_neg hx, decide_eq_false (fun z => hx ((hms x).mpr z))]; rfl
      refine ⟨_, rfl, .ref a, ws, cs, rchB ls, tabB rows, pb, kb, rfl, hR, M7.bodies, M7.uniq, fun c hc d H' hth => ?_, fun c hc hc2 d H' hth => ?_, fun hc1 hc2 H12 s12 => ?_⟩
      · obtain ⟨kp, dd, rfl, hl⟩ := hth
        exact qM c hc dd H' (fun b o e => kp b o (M7.same _ _ e) (ne_of_none e nb0)) hl
      · obtain ⟨kp, dd, rfl, hl⟩ := hth
        exact qN c hc hc2 dd H' (fun b o e => kp b o (M7.same _ _ e) (ne_of_none e nb0)) hl
      -- the heights
      have hnr := not_ring (rows := rows) (by rw [hcl, hls]; exact hc2)
      rw [hcl, hls] at hnr
      have M8 := M7.step s12
      refine ⟨_, rfl, D, _, rfl, .inl (s12 _ _ hD7), fun p13 np13 => ?_⟩
      have s13 := same_upd (o := .lst ((dmap kT ks fun x => V.ref (fl x)).map fun kv => kV kv.1)) np13
      have hkeys : ((dmap kT ks fun x => V.ref (fl x)).map fun kv => kV kv.1) = ks.map vT := by
        unfold dmap
        rw [List.map_map]
        rfl
      have hpl8 := s12 _ _ hpl7
      refine ⟨_, rfl, p13, pl, ks, acc, ls, rfl, by rw [upd_same, hkeys], s13 _ _ hpl8, (hacc7.same s12).same s13, fun h g b m => ⟨(hkw h).mpr (hin _ m).1, (hkw g).mpr (hin _ m).2⟩, M8.nd, by omega, by omega, hnr, fun H14 D3 fh s14 nD3 hD3 hbl hvl => ?_⟩
      have s15 := s13.trans s14
      have M9 := M8.step s15
      refine ⟨_, rfl, a, C, dx, _, rfl, M9.ins, T.cls, T.a_heights, by show 6 < 1000; decide, ?_⟩
      have M10 := M9.fld (fs' := [("bodies", .ref pb), ("by_title", .ref pt), ("by_modes", .ref pm), ("marked", .ref pk), ("plans", .ref p6), ("reach", .ref D2), ("heights", .ref D3)]) ⟨rfl, rfl, rfl, rfl, rfl, rfl, rfl⟩ rfl rfl rfl rfl (by show 7 ≤ 10; decide)
      have kp : ∀ b o, H14 b = some o → (∀ dx gs, o ≠ .ins C dx gs) → upd H14 a (.ins C dx [("bodies", .ref pb), ("by_title", .ref pt), ("by_modes", .ref pm), ("marked", .ref pk), ("plans", .ref p6), ("reach", .ref D2), ("heights", .ref D3)]) b = some o := fun b o e z => upd_at e (ne_of_some e M9.ins (z _ _))
      refine q hc1 hc2 _ M10.same ⟨⟨pt, ks, _, M10.fd M10.f2 M10.titles, M10.nd, hkw⟩, ⟨D2, _, M10.fd rfl (kp _ _ (s15 _ _ (s12 _ _ hDr7)) (fun _ _ z => nomatch z)), fun x m => ?_⟩, ⟨D3, ks, fh, M10.fd rfl (kp _ _ hD3 (fun _ _ z => nomatch z)), fun x m => (hkw x).mpr m, hbl, hvl⟩⟩
      obtain ⟨ys, p, r⟩ := hfr7 x ((hkw x).mpr m)
      exact ⟨fr x, ys, (valV_dmap kT_inj _ x ks).trans (if_pos ((hkw x).mpr m)), kp _ _ (s15 _ _ (s12 _ _ p)) (fun _ _ z => nomatch z), r⟩
end
end G3

/-! Walks of the law: a number drawn. -/
namespace G3
open PySem PySem.Spec PyProof.Rows L2
theorem seq_via {t u : TS} {D : Ends} {σ0 : L2.St} {H1 : Hp} {PK : Hp → Prop} (fin : ∀ H3, PK H3 → u D σ0 H3) (h : (∀ H3, PK H3 → u D σ0 H3) → t { D with nx := u D } σ0 H1) : tSeq t u D σ0 H1 := h fin
/-- the stream at S: what is left of the script at L, the number in hand, the count b, the mix -/
def Strm (H : Hp) (S L : Addr) (b : Nat) : Prop := S ≠ L ∧ ∃ (a c : Int) (ns : List Int), H S = some (.lst [.ref L, .int a, .int (b : Int), .int c]) ∧ H L = some (.lst (ns.map V.int)) ∧ 0 ≤ a ∧ 0 ≤ c ∧ c < 2147483647
/-- all but the two lists of the stream stands -/
def Keep2 (S L : Addr) (H H' : Hp) : Prop := ∀ x o, H x = some o → x ≠ S → x ≠ L → H' x = some o
theorem Keep2.refl (S L : Addr) (H : Hp) : Keep2 S L H H := fun _ _ e _ _ => e
theorem Keep2.trans {S L : Addr} {H H1 H2 : Hp} (a : Keep2 S L H H1) (b : Keep2 S L H1 H2) : Keep2 S L H H2 := fun x o e n m => b x o (a x o e n m) n m
theorem Keep2.same {S L : Addr} {H H' : Hp} (s : Same H H') : Keep2 S L H H' := fun x o e _ _ => s x o e
theorem Strm.same {H H' : Hp} {S L : Addr} {b : Nat} (s : Same H H') (h : Strm H S L b) : Strm H' S L b := by
  obtain ⟨n, a, c, ns, h1, h2, h3⟩ := h
  exact ⟨n, a, c, ns, s _ _ h1, s _ _ h2, h3⟩
theorem seqIndex_zero (n : Nat) : seqIndex? 0 (n + 1) = some 0 := by
  unfold seqIndex?
  simp
theorem eqv_ints_nil : ∀ ns : List Int, PyData.eqv (.list (ns.map PyData.int)) (.list []) = ns.isEmpty
  | [] => by simp [PyData.eqv, PyData.eqvAll]
  | n :: r => by simp [PyData.eqv, PyData.eqvAll]
theorem dp_ints {K : PySem.W.Frag} {H : Hp} : ∀ ns : List Int, DpAll K H (ns.map V.int) (ns.map PyData.int)
  | [] => .nil
  | n :: r => .cons (.int n) (dp_ints r)
theorem shaped_nil0 : SeqAt.shaped (.list []) = true := by simp [SeqAt.shaped, PyData.canLay0, PyData.canLayAll0, PyData.depth, PyData.depthAll]
section
variable {P : Program} {w : World} {K : PySem.W.Frag} {mg : Str → Option Value} {base : Heap} {C M N : Addr}
abbrev nDraw : List Str := ["_law_stream", "_law_many", "_law_number"]
theorem sc_draw : FnScope nDraw ["_law_stream", "_law_many"] (defScope s_law_draw) := ⟨rfl, rfl, rfl, by decide +kernel, rfl, by decide +kernel, by decide +kernel⟩
def spDraw : Sp := fun vs H Q _ => ∃ (S L : Addr) (b many : Nat), vs = [.ref S, .int (many : Int)] ∧ Strm H S L b ∧ b ≤ 100000 ∧ 0 < many ∧ many ≤ 1000000000 ∧
  ∀ H' (n : Nat), Strm H' S L (b + 1) → Keep2 S L H H' → n < many → Q (.int (n : Int)) H'
theorem draw_ok (T : Tx K mg w C M N) : Cal P w K mg base 1 "_law_draw" ["_law_stream", "_law_many"] spDraw := by
  refine T.d_law_draw.cal sc_draw (fun vs H Q E h => ?_) (fun f cdv A outer s H vs Q E hr h => ?_)
  · obtain ⟨S, L, b, many, rfl, _⟩ := h
    rfl
  · obtain ⟨S, L, b, many, rfl, ⟨hne, a, c, ns, hS, hL, ha, hc0, hc1⟩, hb, hm0, hm1, q⟩ := h
    refine ⟨_, pss_cons (ps_asg (pe_op op_add (pe_ix ix_list (pv 0) pe_int (fun _ _ => rfl)) pe_int) (pg_sub (pv 0) pe_int set_list))
      (pss_cons (ps_if (pw_and (pt_cmpR op_eq (pe_ix ix_list (pv 0) pe_int (fun _ _ => rfl)) pe_int (nomark _)) (pw_and1 (pt_cmpR (op_neD hr.units) (pe_ix ix_list (pv 0) pe_int (fun _ _ => rfl)) (pe_lst pa_nil) (nomark _)))).pt
        (pss_cons (ps_asg (pe_bm PySem.F.plainAttrs_list PySem.F.slot_list_pop PySem.F.type_list_pop mt_popAt (pe_ix ix_list (pv 0) pe_int (fun _ _ => rfl)) (pa_cons pe_int pa_nil)) (pg_sub (pv 0) pe_int set_list))
        (pss_one (ps_if (pt_cmp (pc_lt (pe_ix ix_list (pv 0) pe_int (fun _ _ => rfl)) (pe_op op_pow pe_int pe_int)))
          (pss_cons (ps_asg (pe_op op_mod (pe_op op_add (pe_op op_mul (pe_ix ix_list (pv 0) pe_int (fun _ _ => rfl)) pe_int) (pe_ix ix_list (pv 0) pe_int (fun _ _ => rfl))) pe_int) (pg_sub (pv 0) pe_int set_list))
          (pss_one (ps_asg pe_int (pg_sub (pv 0) pe_int set_list)))) pss_nil))) pss_nil)
      (pss_cons (ps_if (pt_cmp (pc_gt (pe_ix ix_list (pv 0) pe_int (fun _ _ => rfl)) pe_int))
        (pss_cons (ps_set (i := 2) sc_draw.nd rfl (.inl rfl) (pe_op op_mod (pe_ix ix_list (pv 0) pe_int (fun _ _ => rfl)) (pv 1)))
        (pss_cons (ps_asg (pe_op op_fdiv (pe_ix ix_list (pv 0) pe_int (fun _ _ => rfl)) (pv 1)) (pg_sub (pv 0) pe_int set_list))
        (pss_one (ps_ret (pv 2))))) pss_nil)
      (pss_cons (ps_set (i := 2) sc_draw.nd rfl (.inl rfl) (pe_op op_mod (pe_op op_pow (pe_op op_add (pe_op op_add (pe_ix ix_list (pv 0) pe_int (fun _ _ => rfl)) (pe_op op_mul pe_int (pe_ix ix_list (pv 0) pe_int (fun _ _ => rfl)))) pe_int) pe_int) pe_int))
      (pss_one (ps_ret (pe_op op_mod (pe_op op_mod (pe_op op_mul (pe_op op_add (pv 2) (pe_ix ix_list (pv 0) pe_int (fun _ _ => rfl))) pe_int) pe_int) (pv 1))))))), ?_⟩
    have e63 : (10 : Int) ^ (18 : Int).toNat = 1000000000000000000 := by decide
    refine ⟨_, rfl, S, _, 2, _, rfl, rfl, .inl (.inl hS), rfl, _, _, rfl, rfl, _, rfl, S, _, 2, 2, rfl, rfl, hS, rfl, ?_⟩
    have hS1 : upd H S (.lst ([V.ref L, .int a, .int (b : Int), .int c].set 2 (.int ((b : Int) + 1)))) S = some (.lst [.ref L, .int a, .int ((b + 1 : Nat) : Int), .int c]) := upd_same
    have hL1 : upd H S (.lst ([V.ref L, .int a, .int (b : Int), .int c].set 2 (.int ((b : Int) + 1)))) L = some (.lst (ns.map V.int)) := upd_at hL hne.symm
    have k1 : Keep2 S L H (upd H S (.lst ([V.ref L, .int a, .int (b : Int), .int c].set 2 (.int ((b : Int) + 1))))) := fun x o e n _ => upd_at e n
    generalize upd H S (.lst ([V.ref L, .int a, .int (b : Int), .int c].set 2 (.int ((b : Int) + 1)))) = H1 at *
    dsimp only
    refine seq_via (PK := fun H3 => ∃ (a' c' : Int) (ns' : List Int), H3 S = some (.lst [.ref L, .int a', .int ((b + 1 : Nat) : Int), .int c']) ∧ H3 L = some (.lst (ns'.map V.int)) ∧ 0 ≤ a' ∧ 0 ≤ c' ∧ c' < 2147483647 ∧ Keep2 S L H H3) ?_ fun fin => ?_
    · rintro H3 ⟨a', c', ns', hS3, hL3, ha', hc0', hc1', k3⟩
      refine ⟨_, rfl, S, _, 1, _, rfl, rfl, .inl (.inl hS3), rfl, _, _, rfl, rfl, _, rfl, ite2 (fun z => ?_) fun z => ?_⟩
      · have hap : 0 < a' := of_decide_eq_true z
        refine ⟨_, rfl, S, _, 1, _, rfl, rfl, .inl (.inl hS3), rfl, _, rfl, _, _, rfl, rfl, by omega, ?_⟩
        refine ⟨_, rfl, S, _, 1, _, rfl, rfl, .inl (.inl hS3), rfl, _, rfl, _, _, rfl, rfl, ⟨by omega, by omega⟩, ?_⟩
        refine ⟨_, rfl, S, _, 1, 1, rfl, rfl, hS3, rfl, ?_⟩
        refine ⟨_, rfl, ?_⟩
        have hr1 : 0 ≤ a' % (many : Int) := Int.emod_nonneg _ (by omega)
        have hr2 : a' % (many : Int) < many := Int.emod_lt_of_pos _ (by omega)
        have hr3 : 0 ≤ a' / (many : Int) := Int.ediv_nonneg ha' (by omega)
        have e : a' % (many : Int) = (((a' % (many : Int)).toNat : Nat) : Int) := (Int.toNat_of_nonneg hr1).symm
        show Q (.int (a' % (many : Int))) (upd H3 S (.lst [.ref L, .int (a' / (many : Int)), .int ((b + 1 : Nat) : Int), .int c']))
        rw [e]
        refine q _ _ ⟨hne, a' / (many : Int), c', ns', ?_, upd_at hL3 hne.symm, hr3, hc0', hc1'⟩ (fun x o e n1 n2 => upd_at (k3 x o e n1 n2) n1) (by omega)
        exact upd_same
      · refine ⟨_, rfl, S, _, 3, _, rfl, rfl, .inl (.inl hS3), rfl, _, rfl, S, _, 2, _, rfl, rfl, .inl (.inl hS3), rfl, _, _, rfl, rfl, .inl ⟨by decide, by decide⟩, _, _, rfl, rfl, _, _, rfl, rfl, _, _, rfl, rfl, ⟨by decide, by decide, by omega⟩, _, _, rfl, rfl, (by decide : (0 : Int) < 2147483647), ?_⟩
        refine ⟨_, rfl, _, rfl, S, _, 2, _, rfl, rfl, .inl (.inl hS3), rfl, _, _, rfl, rfl, _, _, rfl, rfl, .inr ⟨by decide, by decide⟩, _, _, rfl, rfl, (by decide : (0 : Int) < 2147483629), _, rfl, _, _, rfl, rfl, (by omega : (0 : Int) < (many : Int)), ?_⟩
        show Q (.int (((c' + 7919 * ((b + 1 : Nat) : Int) + 104729) ^ (5 : Int).toNat % 2147483647 + ((b + 1 : Nat) : Int)) * 48271 % 2147483629 % (many : Int))) H3
        generalize ((c' + 7919 * ((b + 1 : Nat) : Int) + 104729) ^ (5 : Int).toNat % 2147483647 + ((b + 1 : Nat) : Int)) * 48271 % 2147483629 = k0
        have hq1 : 0 ≤ k0 % (many : Int) := Int.emod_nonneg _ (by omega)
        have hq2 : k0 % (many : Int) < many := Int.emod_lt_of_pos _ (by omega)
        generalize k0 % (many : Int) = k at *
        have e : k = ((k.toNat : Nat) : Int) := (Int.toNat_of_nonneg hq1).symm
        rw [e]
        exact q _ _ ⟨hne, a', c', ns', hS3, hL3, ha', hc0', hc1'⟩ k3 (by omega)
    refine ⟨_, rfl, S, _, 1, _, rfl, rfl, .inl (.inl hS1), rfl, rfl, _, rfl, ?_⟩
    refine ite2 (fun z => ?_) fun z => ?_
    · have za : a = 0 := by
        have := of_decide_eq_true z
        injection this
      subst za
      refine ⟨_, rfl, S, _, 0, _, rfl, rfl, .inl (.inl hS1), rfl, Nat.zero_le _, fun p np => ?_⟩
      have s1 := same_upd (o := .lst []) np
      refine ⟨_, _, .lst (SqL.of (s1 _ _ hL1)) (dp_ints ns), .lst (SqL.of upd_same) .nil, PySem.W.shaped_ints ns, shaped_nil0, _, rfl, ?_⟩
      rw [eqv_ints_nil]
      have hS2 := s1 _ _ hS1
      have hL2 := s1 _ _ hL1
      have k2 := k1.trans (Keep2.same s1)
      generalize upd H1 p (.lst []) = H2 at *
      cases ns with
      | nil =>
        refine iteF ?_
        exact fin H2 ⟨0, c, [], hS2, hL2, (Int.le_refl _), hc0, hc1, k2⟩
      | cons n r =>
        refine iteT ?_
        refine ⟨_, rfl, S, _, 0, _, rfl, rfl, .inl (.inl hS2), rfl, .inl ⟨rfl, _, SqL.of hL2⟩, L, _, 0, 0, .int n, rfl, rfl, hL2, by decide, by decide, seqIndex_zero _, rfl, ?_⟩
        have hL3 : upd H2 L (.lst (((n :: r).map V.int).eraseIdx 0)) L = some (.lst (r.map V.int)) := upd_same
        have hS3 := upd_at (o := .lst (((n :: r).map V.int).eraseIdx 0)) hS2 hne
        have k3 : Keep2 S L H (upd H2 L (.lst (((n :: r).map V.int).eraseIdx 0))) := fun x o e n1 n2 => upd_at (k2 x o e n1 n2) n2
        generalize upd H2 L (.lst (((n :: r).map V.int).eraseIdx 0)) = H4 at *
        refine ⟨_, rfl, S, _, 1, 1, rfl, rfl, hS3, rfl, ?_⟩
        have hS5 : upd H4 S (.lst ([V.ref L, .int 0, .int ((b + 1 : Nat) : Int), .int c].set 1 (.int n))) S = some (.lst [.ref L, .int n, .int ((b + 1 : Nat) : Int), .int c]) := upd_same
        have hL5 := upd_at (o := .lst ([V.ref L, .int 0, .int ((b + 1 : Nat) : Int), .int c].set 1 (.int n))) hL3 hne.symm
        have k5 : Keep2 S L H (upd H4 S (.lst ([V.ref L, .int 0, .int ((b + 1 : Nat) : Int), .int c].set 1 (.int n)))) := fun x o e n1 n2 => upd_at (k3 x o e n1 n2) n1
        generalize upd H4 S (.lst ([V.ref L, .int 0, .int ((b + 1 : Nat) : Int), .int c].set 1 (.int n))) = H5 at *
        refine ⟨_, rfl, S, _, 1, _, rfl, rfl, .inl (.inl hS5), rfl, 10, 18, rfl, rfl, ⟨by decide, by decide, by decide⟩, ?_⟩
        refine ⟨n, 1000000000000000000, rfl, congrArg V.int e63, _, rfl, ite2 (fun z => ?_) fun z => ?_⟩
        · refine ⟨_, rfl, S, _, 3, _, rfl, rfl, .inl (.inl hS5), rfl, _, _, rfl, rfl, .inr ⟨by decide, by decide⟩, ?_⟩
          refine ⟨_, rfl, S, _, 1, _, rfl, rfl, .inl (.inl hS5), rfl, _, _, rfl, rfl, _, _, rfl, rfl, (by decide : (0 : Int) < 2147483647), ?_⟩
          refine ⟨_, rfl, S, _, 3, 3, rfl, rfl, hS5, rfl, ?_⟩
          refine ⟨_, rfl, S, _, 1, 1, rfl, rfl, upd_same, rfl, ?_⟩
          exact fin _ ⟨0, (c * 39373 + n) % 2147483647, r, upd_same, upd_at (upd_at hL5 hne.symm) hne.symm, Int.le_refl _, Int.emod_nonneg _ (by decide), Int.emod_lt_of_pos _ (by decide), fun x o e n1 n2 => upd_at (upd_at (k5 x o e n1 n2) n1) n1⟩
        · have hn : 0 ≤ n := by
            have := of_decide_eq_false (by simpa using z : decide (n < 1000000000000000000) = false)
            omega
          exact fin H5 ⟨n, c, r, hS5, hL5, hn, hc0, hc1, k5⟩
    · exact fin H1 ⟨a, c, ns, hS1, hL1, ha, hc0, hc1, k1⟩
end
end G3

/-! Walks of the law: a text. -/
namespace G3
open PySem PySem.Spec PyProof.Rows L2
abbrev abc : Str := "abcdefghijklmnopqrstuvwxyz"
abbrev aln : Str := "abcdefghijklmnopqrstuvwxyz0123456789"
theorem abc_get : ∀ n, n < 26 → abc.cps.toList[n]? = some (97 + n) := by decide +kernel
theorem aln_get0 : ∀ n, n < 36 → (aln.cps.toList[n]?).any (fun c => decide (c < 128)) = true := by decide +kernel
theorem aln_get {n : Nat} (h : n < 36) : ∃ c, aln.cps.toList[n]? = some c ∧ c < 128 := by
  have := aln_get0 n h
  cases e : aln.cps.toList[n]? with
  | none => rw [e] at this; cases this
  | some c => rw [e] at this; exact ⟨c, rfl, of_decide_eq_true this⟩
/-- begins with a small letter; plain signs -/
def Begin (x : Str) : Prop := (∃ c r, x.cps.toList = c :: r ∧ 97 ≤ c ∧ c ≤ 122) ∧ PyData.strOk x = true
theorem strOk_app {x y : Str} (hx : PyData.strOk x = true) (hy : PyData.strOk y = true) : PyData.strOk (x ++ y) = true := by
  unfold PyData.strOk at *
  show (x.cps ++ y.cps).all _ = true
  rw [Array.all_append, hx, hy]
  rfl
theorem strOk_one {c : Nat} (h : c < 128) : PyData.strOk ⟨#[c]⟩ = true := by
  unfold PyData.strOk
  simp
  omega
theorem Begin.app {x y : Str} (hx : Begin x) (hy : PyData.strOk y = true) : Begin (x ++ y) := by
  obtain ⟨⟨c, r, e, h1, h2⟩, h3⟩ := hx
  refine ⟨⟨c, r ++ y.cps.toList, ?_, h1, h2⟩, strOk_app h3 hy⟩
  show (x.cps ++ y.cps).toList = _
  rw [Array.toList_append, e]
  rfl
theorem size_app (x y : Str) : (x ++ y).cps.size = x.cps.size + y.cps.size := by
  show (x.cps ++ y.cps).size = _
  rw [Array.size_append]
def nine : List Str := ["op", "mode", "table", "not", "is", "in", "such", "and", "mod"]
def longer (x : Str) (full : List Str) : Nat := full.countP fun y => decide (x.cps.size ≤ y.cps.size)
theorem longer_lt {x : Str} {full : List Str} (h : x ∈ full) (z : Str) (hz : z.cps.size = 1) : longer (x ++ z) full < longer x full := by
  unfold longer
  induction full with
  | nil => cases h
  | cons y r ih =>
    have mono : r.countP (fun y => decide ((x ++ z).cps.size ≤ y.cps.size)) ≤ r.countP fun y => decide (x.cps.size ≤ y.cps.size) := by
      refine List.countP_mono_left fun a _ h => ?_
      have := of_decide_eq_true h
      rw [size_app] at this
      exact decide_eq_true (by omega)
    rw [List.countP_cons, List.countP_cons, size_app, hz]
    rcases List.mem_cons.mp h with e | e
    · subst e
      rw [if_neg (by simp), if_pos (by simp)]
      rw [size_app, hz] at mono
      omega
    · have h1 := ih e
      rw [size_app, hz] at h1
      split
      · rename_i h2
        have := of_decide_eq_true h2
        rw [if_pos (decide_eq_true (by omega))]
        omega
      · split <;> omega
/-- a word of the law's -/
def LawWord (x : Str) : Prop := WordOk x ∧ PyData.strOk x = true
section
variable {P : Program} {w : World} {K : PySem.W.Frag} {mg : Str → Option Value} {base : Heap} {C M N : Addr}
abbrev nText : List Str := ["_law_stream", "_law_first", "_law_taken", "_law_text_here", "_law_k"]
theorem sc_text : FnScope nText ["_law_stream", "_law_first", "_law_taken"] (defScope s_law_text) := ⟨rfl, rfl, rfl, by decide +kernel, rfl, by decide +kernel, by decide +kernel⟩
def spText : Sp := fun vs H Q _ => ∃ (S L t : Addr) (b : Nat) (ws : List Str), vs = [.ref S, .str abc, .ref t] ∧ Strm H S L b ∧ b ≤ 90000 ∧ H t = some (.lst (ws.map V.str)) ∧ t ≠ S ∧ t ≠ L ∧ ws.length ≤ 100 ∧
  ∀ H' (x : Str) (b' : Nat), Strm H' S L b' → b' ≤ b + 5 → Keep2 S L H H' → LawWord x → x ∉ ws → Q (.str x) H'
theorem text_ok (T : Tx K mg w C M N) : Cal P w K mg base 2 "_law_text" ["_law_stream", "_law_first", "_law_taken"] spText := by
  have cd := draw_ok (P := P) (base := base) T
  refine T.d_law_text.cal sc_text (fun vs H Q E h => ?_) (fun f cdv A outer s H vs Q E hr h => ?_)
  · obtain ⟨S, L, t, b, ws, rfl, _⟩ := h
    rfl
  · obtain ⟨S, L, t, b, ws, rfl, hS, hb, ht, htS, htL, hws, q⟩ := h
    refine ⟨_, pss_cons (ps_set (i := 3) sc_text.nd rfl (.inl rfl) (pe_ix ix_str (pv 1) (pe_cal cd hr (by decide) (by rfl) (pa_cons (pv 0) (pa_cons (pe_callB call_len_str (by rfl) T.n_len (by decide +kernel) (pa_cons (pv 1) pa_nil)) pa_nil))) (fun _ _ => rfl)))
      (pss_cons (ps_for PassesOwn.never rfl (pi_range1 (by rfl) T.n_range (pa_cons (pe_ix ix_list (pe_lst (pa_cons pe_int (pa_cons pe_int (pa_cons pe_int (pa_cons pe_int pa_nil))))) (pe_cal cd hr (by decide) (by rfl) (pa_cons (pv 0) (pa_cons pe_int pa_nil))) (fun _ _ => rfl)) pa_nil))
          (pg_name (i := 4) sc_text.nd rfl (.inl rfl))
        (pss_one (ps_set (i := 3) sc_text.nd rfl (.inl rfl) (pe_op op_add_str (pv 3) (pe_ix ix_str pe_str (pe_cal cd hr (by decide) (by rfl) (pa_cons (pv 0) (pa_cons pe_int pa_nil))) (fun _ _ => rfl))))))
      (pss_cons (ps_while PassesOwn.never (pt_cmpR op_in_seq (pv 3) (pe_op op_cat (pv 2) (pe_lst (pa_cons pe_str (pa_cons pe_str (pa_cons pe_str (pa_cons pe_str (pa_cons pe_str (pa_cons pe_str (pa_cons pe_str (pa_cons pe_str (pa_cons pe_str pa_nil)))))))))))  rfl)
        (pss_one (ps_set (i := 3) sc_text.nd rfl (.inl rfl) (pe_op op_add_str (pv 3) pe_str))))
      (pss_one (ps_ret (pv 3))))), ?_⟩
    have e26 : abc.length = 26 := by decide +kernel
    have e36 : aln.length = 36 := by decide +kernel
    have ea : ("a" : Str).cps.size = 1 := by decide +kernel
    refine ⟨_, rfl, _, rfl, _, rfl, abc, rfl, by rw [e26, sizeLine_eq]; decide, S, L, b, 26, by rw [e26]; rfl, hS, by omega, by decide, by decide, fun H1 n1 hS1 k1 hn1 => ?_⟩
    refine ⟨abc, _, _, rfl, rfl, by rw [e26, sizeLine_eq]; decide, atI_nat (abc_get n1 hn1), ?_⟩
    have hb1 : Begin ⟨#[97 + n1]⟩ := ⟨⟨97 + n1, [], rfl, by omega, by omega⟩, strOk_one (by omega)⟩
    refine ⟨by show 4 ≤ sizeLine; rw [sizeLine_eq]; decide, fun p np => ?_⟩
    have s2 := same_upd (o := .lst [V.int 0, .int 0, .int 1, .int 3]) np
    refine ⟨_, rfl, S, L, b + 1, 4, rfl, hS1.same s2, by omega, by decide, by decide, fun H3 n3 hS3 k3 hn3 => ?_⟩
    have hpS : p ≠ S := fun z => by obtain ⟨_, _, _, _, h, _⟩ := hS1; rw [z, h] at np; cases np
    have hpL : p ≠ L := fun z => by obtain ⟨_, _, _, _, _, h, _⟩ := hS1; rw [z, h] at np; cases np
    have hp3 : H3 p = some (.lst [V.int 0, .int 0, .int 1, .int 3]) := k3 _ _ upd_same hpS hpL
    obtain ⟨k, hk, hk3⟩ : ∃ k : Nat, [V.int 0, .int 0, .int 1, .int 3][n3]? = some (.int (k : Int)) ∧ k ≤ 3 := by
      match n3, hn3 with
      | 0, _ => exact ⟨0, rfl, by decide⟩
      | 1, _ => exact ⟨0, rfl, by decide⟩
      | 2, _ => exact ⟨1, rfl, by decide⟩
      | 3, _ => exact ⟨3, rfl, by decide⟩
    have k13 := (k1.trans (Keep2.same s2)).trans k3
    refine ⟨p, _, _, _, rfl, rfl, .inl (.inl hp3), atI_nat hk, _, rfl, by omega, by omega, ?_⟩
    refine for_range (lo := 0) (n := (k : Int).toNat) (fun i σ H' => ∃ x z4 b', σ = [some (V.ref S), some (.str abc), some (.ref t), some (.str x), z4] ∧ Strm H' S L b' ∧ b' ≤ b + 2 + i ∧ Keep2 S L H H' ∧ Begin x ∧ x.cps.size ≤ 1 + i)
      ⟨_, none, b + 1 + 1, rfl, hS3, by omega, k13, hb1, Nat.le_refl _⟩ (fun i σ H' hi h => ?_) (fun σ H' h => ?_)
    · obtain ⟨x, z4, b', rfl, hS4, hb4, k4, hx, hxz⟩ := h
      refine ⟨_, rfl, _, rfl, S, L, b', 36, rfl, hS4, by omega, by decide, by decide, fun H5 n5 hS5 k5 hn5 => ?_⟩
      obtain ⟨c, hc, hc128⟩ := aln_get hn5
      refine ⟨aln, _, _, rfl, rfl, by rw [e36, sizeLine_eq]; decide, atI_nat hc, x, _, rfl, rfl, ?_, ?_⟩
      · have e1 : (⟨#[c]⟩ : Str).length = 1 := rfl
        have e2 : x.length = x.cps.size := rfl
        rw [e1, e2, sizeLine_eq]
        omega
      · exact ⟨x ++ ⟨#[c]⟩, _, b' + 1, rfl, hS5, by omega, k4.trans k5, hx.app (strOk_one hc128), by rw [size_app]; show x.cps.size + 1 ≤ _; omega⟩
    · obtain ⟨x, z4, b', rfl, hS4, hb4, k4, hx, hxz⟩ := h
      have hnine : nine.length = 9 := rfl
      refine ⟨fun m σ H' => ∃ x, σ = [some (V.ref S), some (.str abc), some (.ref t), some (.str x), z4] ∧ Strm H' S L b' ∧ Keep2 S L H H' ∧ Begin x ∧ x.cps.size + m ≤ 13 + ws.length ∧ longer x (ws ++ nine) = m,
        ⟨_, x, rfl, hS4, k4, hx, ?_, rfl⟩, fun m σ H5 h => ?_⟩
      · have : longer x (ws ++ nine) ≤ (ws ++ nine).length := List.countP_le_length
        rw [List.length_append, hnine] at this
        omega
      · obtain ⟨x, rfl, hS5, k5, hx, hm, rfl⟩ := h
        have ht5 := k5 _ _ ht htS htL
        refine ⟨_, rfl, _, rfl, by show 9 ≤ sizeLine; rw [sizeLine_eq]; decide, fun p np => ?_⟩
        have s6 := same_upd (o := .lst (nine.map V.str)) np
        refine ⟨t, p, _, nine.map V.str, rfl, rfl, s6 _ _ ht5, upd_same, ?_, fun p2 np2 => ?_⟩
        · rw [List.length_map, List.length_map, hnine, sizeLine_eq]; omega
        have s7 := s6.trans (same_upd (o := .lst (ws.map V.str ++ nine.map V.str)) np2)
        have hmp : (ws.map V.str ++ nine.map V.str) = (ws ++ nine).map V.str := (List.map_append).symm
        refine ⟨p2, _, rfl, .inl (SqL.of upd_same), rfl, by rw [hmp]; exact flat_strs _, _, rfl, ?_⟩
        rw [hmp, inV_str]
        refine ite2 (fun z => ?_) fun z => ?_
        · have hmem : x ∈ ws ++ nine := of_decide_eq_true (by simpa using z)
          refine ⟨fun σ' H' => ∃ x', σ' = [some (V.ref S), some (.str abc), some (.ref t), some (.str x'), z4] ∧ Strm H' S L b' ∧ Keep2 S L H H' ∧ Begin x' ∧ x'.cps.size + longer x' (ws ++ nine) ≤ 13 + ws.length ∧ longer x' (ws ++ nine) < longer x (ws ++ nine),
            fun σ' H' h => ?_, ?_⟩
          · obtain ⟨x', rfl, a, b, c, d, e⟩ := h
            exact ⟨_, e, x', rfl, a, b, c, d, rfl⟩
          · have hlt := longer_lt hmem "a" ea
            refine ⟨_, rfl, x, "a", rfl, rfl, ?_, ?_⟩
            · have e1 : ("a" : Str).length = 1 := ea
              have e2 : x.length = x.cps.size := rfl
              rw [e1, e2, sizeLine_eq]
              omega
            · refine ⟨x ++ ("a" : Str), rfl, hS5.same ?_, k5.trans (Keep2.same ?_), hx.app (by decide +kernel), by rw [size_app, ea]; omega, hlt⟩
              · rw [← hmp]; exact s7
              · rw [← hmp]; exact s7
        · have hmem : x ∉ ws ++ nine := of_decide_eq_false (by simpa using z)
          refine ⟨_, rfl, q _ x b' (hS5.same ?_) (by omega) (k5.trans (Keep2.same ?_)) ⟨⟨hx.1, by omega⟩, hx.2⟩ fun m => hmem (List.mem_append_left _ m)⟩
          · rw [← hmp]; exact s7
          · rw [← hmp]; exact s7
end
end G3

/-! Walks of the law: the graph drawn. -/
namespace G3
open PySem PySem.Spec PyProof.Rows L2
/-- the tuples stand -/
def TK (H H' : Hp) : Prop := ∀ b xs, H b = some (.tup xs) → H' b = some (.tup xs)
theorem TK.refl (H : Hp) : TK H H := fun _ _ e => e
theorem TK.trans {H H1 H2 : Hp} (a : TK H H1) (b : TK H1 H2) : TK H H2 := fun c xs e => b c xs (a c xs e)
theorem TK.same {H H' : Hp} (s : Same H H') : TK H H' := fun b xs e => s b _ e
theorem TK.keep {H H' : Hp} {S L : Addr} {b : Nat} (h : Strm H S L b) (k : Keep2 S L H H') : TK H H' := fun x xs e => by
  obtain ⟨_, _, _, _, h1, h2, _⟩ := h
  exact k x _ e (ne_of_some e h1 fun z => nomatch z) (ne_of_some e h2 fun z => nomatch z)
theorem TK.put {H : Hp} {D : Addr} {xs : List V} {o : HO} (h : H D = some (.lst xs)) : TK H (upd H D o) := fun b ys e => upd_at e (ne_of_some e h fun z => nomatch z)
theorem GoalV.tk {H H' : Hp} {v : V} {g : Gl2} (s : TK H H') (h : GoalV H v g) : GoalV H' v g := by
  rcases h with h | ⟨a, t, b, c⟩
  · exact .inl h
  · exact .inr ⟨a, t, b, s _ _ c⟩
theorem paired_mono {α β : Type} {G G' : α → β → Prop} (s : ∀ a b, G a b → G' a b) {xs : List α} {ys : List β} (h : Paired G xs ys) : Paired G' xs ys := by
  induction h with
  | nil => exact .nil
  | cons a _ ih => exact .cons (s _ _ a) ih
theorem RowV.tk {H H' : Hp} {v : V} {r : Row} (s : TK H H') (h : RowV H v r) : RowV H' v r := by
  cases r with
  | mode w => obtain ⟨t, a, b⟩ := h; exact ⟨t, a, s _ _ b⟩
  | table w => obtain ⟨t, a, b⟩ := h; exact ⟨t, a, s _ _ b⟩
  | clause h gs => obtain ⟨t, gt, gvs, a, b, c, d, e⟩ := h; exact ⟨t, gt, gvs, a, s _ _ b, s _ _ c, ⟨paired_mono (fun _ _ => .tk s) d.1, d.2⟩, e⟩
def RowsV (H : Hp) (vs : List V) (rs : List Row) : Prop := Paired (RowV H) vs rs
theorem RowsV.tk {H H' : Hp} {vs : List V} {rs : List Row} (s : TK H H') (h : RowsV H vs rs) : RowsV H' vs rs := paired_mono (fun _ _ => .tk s) h
theorem paired_append {α β : Type} {G : α → β → Prop} {xs xs' : List α} {ys ys' : List β} (h : Paired G xs ys) (h' : Paired G xs' ys') : Paired G (xs ++ xs') (ys ++ ys') := by
  induction h with
  | nil => exact h'
  | cons a _ ih => exact .cons a ih
theorem paired_insert {α β : Type} {G : α → β → Prop} {x : α} {y : β} (hx : G x y) : ∀ (n : Nat) {xs : List α} {ys : List β}, Paired G xs ys → Paired G (xs.take n ++ x :: xs.drop n) (ys.take n ++ y :: ys.drop n)
  | 0, _, _, h => .cons hx h
  | n + 1, _, _, .nil => .cons hx .nil
  | n + 1, _, _, .cons a t => .cons a (paired_insert hx n t)
theorem paired_rep {α β : Type} {G : α → β → Prop} {x : α} {y : β} (hx : G x y) : ∀ n : Nat, Paired G ((List.replicate n [x]).flatten) ((List.replicate n [y]).flatten)
  | 0 => .nil
  | n + 1 => by
    rw [List.replicate_succ, List.replicate_succ, List.flatten_cons, List.flatten_cons]
    exact .cons hx (paired_rep hx n)
/-- what is told of a row -/
def RowG (ws : List Str) : Row → Prop
  | .mode w => w ∈ ws
  | .table w => w ∈ ws
  | .clause h gs => h ∈ ws ∧ (∀ g ∈ gs, g.2 ∈ ws) ∧ gs.length ≤ 4
/-- what is told of the graph -/
structure Good (ws : List Str) (rows : List Row) : Prop where
  nd : ws.Nodup
  seven : ws.length ≤ 7
  word : ∀ x ∈ ws, LawWord x
  row : ∀ r ∈ rows, RowG ws r
  mode : ∀ x ∈ ws, Row.mode x ∈ rows
  few : rows.length ≤ 40
theorem Strm.ne {H : Hp} {S L p : Addr} {b : Nat} (h : Strm H S L b) (np : H p = none) : p ≠ S ∧ p ≠ L := by
  obtain ⟨_, _, _, _, h1, h2, _⟩ := h
  exact ⟨fun z => (by rw [z, h1] at np; cases np), fun z => (by rw [z, h2] at np; cases np)⟩
theorem Strm.put {H : Hp} {S L D : Addr} {b : Nat} {o : HO} (h : Strm H S L b) (n1 : D ≠ S) (n2 : D ≠ L) : Strm (upd H D o) S L b := by
  obtain ⟨n, a, c, ns, h1, h2, h3⟩ := h
  exact ⟨n, a, c, ns, upd_at h1 n1.symm, upd_at h2 n2.symm, h3⟩
theorem if_via {c : TT} {t u : TS} {D : Ends} {σ : L2.St} {H : Hp} {PK : Hp → Prop} (ht : ∀ H', PK H' → t D σ H') (hu : ∀ H', PK H' → u D σ H') (h : ∀ R : Bool → Hp → Prop, (∀ b H', PK H' → R b H') → c σ H R) : tIfS c t u D σ H :=
  h _ fun b H' p => by
    cases b
    · exact iteF (hu H' p)
    · exact iteT (ht H' p)
theorem at0 {xs : List V} {i : Nat} {v : V} (h : xs[i]? = some v) : atI xs (0 + (i : Int)) = some v := by
  rw [Int.zero_add]
  exact atI_nat h
theorem get_strs {ws : List Str} {i : Nat} (h : i < ws.length) : (ws.map V.str)[i]? = some (.str ws[i]) := by
  rw [List.getElem?_map, List.getElem?_eq_getElem h]
  rfl
section
variable {P : Program} {w : World} {K : PySem.W.Frag} {mg : Str → Option Value} {base : Heap} {C M N : Addr}
theorem sc_whole : FnScope ["_law_found"] ["_law_found"] (defScope s_law_whole) := ⟨rfl, rfl, rfl, by decide +kernel, rfl, by decide +kernel, by decide +kernel⟩
def spWhole : Sp := fun vs H Q _ => ∃ n : Int, vs = [.int n] ∧ Q (.bl true) H
theorem whole_ok (T : Tx K mg w C M N) : Cal P w K mg base 1 "_law_whole" ["_law_found"] spWhole := by
  refine T.d_law_whole.cal sc_whole (fun vs H Q E h => ?_) (fun f cdv A outer s H vs Q E hr h => ?_)
  · obtain ⟨n, rfl, _⟩ := h
    rfl
  · obtain ⟨n, rfl, q⟩ := h
    refine ⟨_, pss_one (ps_ret (pe_and (pe_callB call_isi (by rfl) T.n_isinstance (by decide +kernel) (pa_cons (pv 0) (pa_cons (pe_bltn (v := .ty "int") (by rfl) T.n_int (by decide +kernel) rfl) pa_nil)))
      (pe_one (pe_not (pe_callB call_isi (by rfl) T.n_isinstance (by decide +kernel) (pa_cons (pv 0) (pa_cons (pe_bltn (v := .ty "bool") (by rfl) T.n_bool (by decide +kernel) rfl) pa_nil))))))), ?_⟩
    refine ⟨_, rfl, _, _, _, _, true, rfl, .ty "int", .base (.int _), kit_ty (by decide +kernel), _, rfl, iteT ?_⟩
    exact ⟨_, rfl, _, _, _, _, false, rfl, .ty "bool", .base (.int _), kit_ty (by decide +kernel), _, rfl, q⟩

abbrev nGraph : List Str := ["_law_stream", "_law_words", "_law_k", "_law_nots", "_law_falls", "_law_marked", "_law_new", "_law_many", "_law_h", "_law_goals", "_law_j", "_law_word", "_law_rows", "_law_row"]
theorem sc_graph : FnScope nGraph ["_law_stream"] (defScope s_law_graph) := ⟨rfl, rfl, rfl, by decide +kernel, rfl, by decide +kernel, by decide +kernel⟩
def spGraph : Sp := fun vs H Q _ => ∃ (S L : Addr), vs = [.ref S] ∧ Strm H S L 0 ∧
  ∀ H' (pt pr pw : Addr) (rvs : List V) (rows : List Row) (ws : List Str), H' pt = some (.tup [.ref pr, .ref pw]) → H' pr = some (.lst rvs) → RowsV H' rvs rows → H' pw = some (.lst (ws.map V.str)) → Good ws rows → Q (.ref pt) H'
theorem graph_ok (T : Tx K mg w C M N) : Cal P w K mg base 3 "_law_graph" ["_law_stream"] spGraph := by
  have cd := draw_ok (P := P) (base := base) T
  have ct := text_ok (P := P) (base := base) T
  refine T.d_law_graph.cal sc_graph (fun vs H Q E h => ?_) (fun f cdv A outer s H vs Q E hr h => ?_)
  · obtain ⟨S, L, rfl, _⟩ := h
    rfl
  · obtain ⟨S, L, rfl, hS, q⟩ := h
    refine ⟨_, pss_cons (ps_set (i := 1) sc_graph.nd rfl (.inl rfl) (pe_lst pa_nil))
      (pss_cons (ps_for PassesOwn.never rfl (pi_range1 (by rfl) T.n_range (pa_cons (pe_op op_add pe_int (pe_cal cd hr (by decide) (by rfl) (pa_cons (pv 0) (pa_cons pe_int pa_nil)))) pa_nil)) (pg_name (i := 2) sc_graph.nd rfl (.inl rfl))
        (pss_one (ps_expr (pe_bm PySem.F.plainAttrs_list PySem.F.slot_list_append PySem.F.type_list_append mt_append (pv 1) (pa_cons (pe_cal ct hr (by decide) (by rfl) (pa_cons (pv 0) (pa_cons pe_str (pa_cons (pv 1) pa_nil)))) pa_nil)))))
      (pss_cons (ps_set (i := 3) sc_graph.nd rfl (.inl rfl) (pe_ix ix_list (pe_lst (pa_cons pe_int (pa_cons pe_int (pa_cons (pe_op op_pow pe_int pe_int) pa_nil)))) (pe_cal cd hr (by decide) (by rfl) (pa_cons (pv 0) (pa_cons pe_int pa_nil))) (fun _ _ => rfl)))
      (pss_cons (ps_set (i := 4) sc_graph.nd rfl (.inl rfl) (pe_cal cd hr (by decide) (by rfl) (pa_cons (pv 0) (pa_cons pe_int pa_nil))))
      (pss_cons (ps_set (i := 5) sc_graph.nd rfl (.inl rfl) (pe_cal cd hr (by decide) (by rfl) (pa_cons (pv 0) (pa_cons pe_int pa_nil))))
      (pss_cons (ps_set (i := 6) sc_graph.nd rfl (.inl rfl) (pe_lst pa_nil))
      (pss_cons (ps_for PassesOwn.never rfl (pi_range1 (by rfl) T.n_range (pa_cons (pe_callB call_len_seq (by rfl) T.n_len (by decide +kernel) (pa_cons (pv 1) pa_nil)) pa_nil)) (pg_name (i := 2) sc_graph.nd rfl (.inl rfl))
        (pss_cons (ps_set (i := 7) sc_graph.nd rfl (.inl rfl) (pe_ix ix_list (pe_lst (pa_cons pe_int (pa_cons (pe_op op_add pe_int (pe_cal cd hr (by decide) (by rfl) (pa_cons (pv 0) (pa_cons pe_int pa_nil)))) (pa_cons (pe_cal cd hr (by decide) (by rfl) (pa_cons (pv 0) (pa_cons pe_int pa_nil))) pa_nil)))) (pv 5) (fun _ _ => rfl)))
        (pss_one (ps_set (i := 6) sc_graph.nd rfl (.inl rfl) (pe_op op_cat (pe_op op_cat (pv 6) (pe_lst (pa_cons (pe_tup (pa_cons pe_str (pa_cons (pe_ix ix_list (pv 1) (pv 2) (fun _ _ => rfl)) (pa_cons pe_str pa_nil)))) pa_nil)))
          (pe_op op_rep (pe_lst (pa_cons (pe_tup (pa_cons pe_str (pa_cons (pe_ix ix_list (pv 1) (pv 2) (fun _ _ => rfl)) (pa_cons pe_int pa_nil)))) pa_nil)) (pv 7)))))))
      (pss_cons (ps_for PassesOwn.never rfl (pi_range1 (by rfl) T.n_range (pa_cons (pe_cal cd hr (by decide) (by rfl) (pa_cons (pv 0) (pa_cons pe_int pa_nil))) pa_nil)) (pg_name (i := 2) sc_graph.nd rfl (.inl rfl))
        (pss_cons (ps_set (i := 8) sc_graph.nd rfl (.inl rfl) (pe_cal cd hr (by decide) (by rfl) (pa_cons (pv 0) (pa_cons (pe_callB call_len_seq (by rfl) T.n_len (by decide +kernel) (pa_cons (pv 1) pa_nil)) pa_nil))))
        (pss_cons (ps_set (i := 9) sc_graph.nd rfl (.inl rfl) (pe_lst pa_nil))
        (pss_cons (ps_for PassesOwn.never rfl (pi_range1 (by rfl) T.n_range (pa_cons (pe_cal cd hr (by decide) (by rfl) (pa_cons (pv 0) (pa_cons pe_int pa_nil))) pa_nil)) (pg_name (i := 10) sc_graph.nd rfl (.inl rfl))
          (pss_cons (ps_set (i := 11) sc_graph.nd rfl (.inl rfl) (pe_ix ix_list (pv 1) (pe_cal cd hr (by decide) (by rfl) (pa_cons (pv 0) (pa_cons
              (pe_ix ix_list (pe_lst (pa_cons (pe_callB call_len_seq (by rfl) T.n_len (by decide +kernel) (pa_cons (pv 1) pa_nil)) (pa_cons (pe_op op_add (pv 8) pe_int) pa_nil))) (pv 4) (fun _ _ => rfl)) pa_nil))) (fun _ _ => rfl)))
          (pss_one (ps_if (pw_and (pt_cmpR op_eq (pe_cal cd hr (by decide) (by rfl) (pa_cons (pv 0) (pa_cons (pv 3) pa_nil))) pe_int (nomark _))
              (pw_and1 (pw_or (pt_cmpR op_eq (pv 4) pe_int (nomark _)) (pw_or1 (pt_cmpR op_ne (pv 11) (pe_ix ix_list (pv 1) (pv 8) (fun _ _ => rfl)) (nomark _)))).pt)).pt
            (pss_one (ps_expr (pe_bm PySem.F.plainAttrs_list PySem.F.slot_list_append PySem.F.type_list_append mt_append (pv 9) (pa_cons (pe_tup (pa_cons pe_str (pa_cons (pv 11) pa_nil))) pa_nil))))
            (pss_one (ps_expr (pe_bm PySem.F.plainAttrs_list PySem.F.slot_list_append PySem.F.type_list_append mt_append (pv 9) (pa_cons (pv 11) pa_nil))))))))
        (pss_one (ps_expr (pe_bm PySem.F.plainAttrs_list PySem.F.slot_list_append PySem.F.type_list_append mt_append (pv 6) (pa_cons (pe_tup (pa_cons pe_str (pa_cons (pe_ix ix_list (pv 1) (pv 8) (fun _ _ => rfl))
            (pa_cons (pe_callTy call_tuple_of (by rfl) T.n_tuple (by decide +kernel) (pa_cons (pv 9) pa_nil)) pa_nil)))) pa_nil))))))))
      (pss_cons (ps_set (i := 12) sc_graph.nd rfl (.inl rfl) (pe_lst pa_nil))
      (pss_cons (ps_for PassesOwn.never rfl (pi_list (pv 6)) (pg_name (i := 13) sc_graph.nd rfl (.inl rfl))
        (pss_one (ps_expr (pe_bm PySem.F.plainAttrs_list PySem.F.slot_list_insert PySem.F.type_list_insert mt_insert (pv 12) (pa_cons (pe_cal cd hr (by decide) (by rfl) (pa_cons (pv 0) (pa_cons (pe_op op_add (pe_callB call_len_seq (by rfl) T.n_len (by decide +kernel) (pa_cons (pv 12) pa_nil)) pe_int) pa_nil))) (pa_cons (pv 13) pa_nil))))))
      (pss_one (ps_ret (pe_tup (pa_cons (pv 12) (pa_cons (pv 1) pa_nil)))))))))))))), ?_⟩
    have e9 : (10 : Int) ^ (9 : Int).toNat = 1000000000 := by decide
    refine ⟨Nat.zero_le _, fun pw npw => ?_⟩
    obtain ⟨hwS, hwL⟩ := hS.ne npw
    have hS1 := hS.same (same_upd (o := .lst []) npw)
    have hpw1 : upd H pw (.lst []) pw = some (.lst []) := upd_same
    generalize upd H pw (.lst []) = H1 at *
    refine ⟨_, rfl, S, L, 0, 7, rfl, hS1, by decide, by decide, by decide, fun H2 n2 hS2 k2 hn2 => ?_⟩
    refine ⟨_, _, rfl, rfl, _, rfl, by omega, by omega, ?_⟩
    have hpw2 := k2 _ _ hpw1 hwS hwL
    refine for_range (lo := 0) (n := (1 + (n2 : Int)).toNat) (fun i σ H' => ∃ z2 ws b', σ = [some (V.ref S), some (.ref pw), z2, none, none, none, none, none, none, none, none, none, none, none] ∧ Strm H' S L b' ∧ b' ≤ 1 + 5 * i ∧ H' pw = some (.lst (ws.map V.str)) ∧ ws.length = i ∧ ws.Nodup ∧ ∀ x ∈ ws, LawWord x)
      ⟨none, [], 0 + 1, rfl, hS2, by omega, hpw2, rfl, List.nodup_nil, fun _ m => (nomatch m)⟩ (fun i σ H' hi h => ?_) (fun σ H' h => ?_)
    · obtain ⟨z2, ws, b', rfl, hS3, hb3, hpw3, hl, hnd, hlw⟩ := h
      refine ⟨_, rfl, .inl ⟨rfl, _, SqL.of hpw3⟩, _, rfl, _, rfl, S, L, pw, b', ws, rfl, hS3, by omega, hpw3, hwS, hwL, by omega, fun H5 x b5 hS5 hb5 k5 hx hxn => ?_⟩
      refine ⟨pw, _, _, rfl, rfl, k5 _ _ hpw3 hwS hwL, by rw [List.length_map, sizeLine_eq]; omega, ?_⟩
      refine ⟨_, ws ++ [x], b5, rfl, hS5.put hwS hwL, by omega, by rw [upd_same, List.map_append]; rfl, by rw [List.length_append, hl]; rfl, ?_, fun y m => ?_⟩
      · rw [List.nodup_append]
        refine ⟨hnd, nd1 _, fun a m b m2 e => ?_⟩
        rw [List.mem_singleton] at m2
        rw [e, m2] at m
        exact hxn m
      · rcases List.mem_append.mp m with m | m
        · exact hlw y m
        · rw [List.mem_singleton] at m
          rw [m]; exact hx
    obtain ⟨z2, ws, b', rfl, hS3, hb3, hpw3, hl, hnd, hlw⟩ := h
    have hws1 : 1 ≤ ws.length ∧ ws.length ≤ 7 := by omega
    have hb36 : b' ≤ 36 := by omega
    clear hS1 hpw1 hS2 k2 hpw2 hS npw
    -- nots, falls, marked
    refine ⟨10, 9, rfl, rfl, ⟨by decide, by decide, by decide⟩, by show 3 ≤ sizeLine; rw [sizeLine_eq]; decide, fun p np => ?_⟩
    have s4 := same_upd (o := .lst [V.int 2, .int 4, .int ((10 : Int) ^ (9 : Int).toNat)]) np
    obtain ⟨hpS, hpL⟩ := hS3.ne np
    have hp4 : upd H' p (.lst [V.int 2, .int 4, .int ((10 : Int) ^ (9 : Int).toNat)]) p = some (.lst [V.int 2, .int 4, .int ((10 : Int) ^ (9 : Int).toNat)]) := upd_same
    refine ⟨_, rfl, S, L, b', 3, rfl, hS3.same s4, by omega, by decide, by decide, fun H5 n5 hS5 k5 hn5 => ?_⟩
    have hpw5 := k5 _ _ (s4 _ _ hpw3) hwS hwL
    have hp5 := k5 _ _ hp4 hpS hpL
    obtain ⟨m, hm, hm0, hm1⟩ : ∃ m : Nat, [V.int 2, .int 4, .int ((10 : Int) ^ (9 : Int).toNat)][n5]? = some (.int (m : Int)) ∧ 0 < m ∧ m ≤ 1000000000 := by
      match n5, hn5 with
      | 0, _ => exact ⟨2, rfl, by decide, by decide⟩
      | 1, _ => exact ⟨4, rfl, by decide, by decide⟩
      | 2, _ => exact ⟨1000000000, congrArg (fun z => some (V.int z)) e9, by decide, by decide⟩
    refine ⟨p, _, _, _, rfl, rfl, .inl (.inl hp5), atI_nat hm, ?_⟩
    refine ⟨_, rfl, S, L, b' + 1, 2, rfl, hS5, by omega, by decide, by decide, fun H6 nf hS6 k6 hnf => ?_⟩
    refine ⟨_, rfl, S, L, b' + 1 + 1, 3, rfl, hS6, by omega, by decide, by decide, fun H7 nm hS7 k7 hnm => ?_⟩
    have hpw7 := k7 _ _ (k6 _ _ hpw5 hwS hwL) hwS hwL
    refine ⟨Nat.zero_le _, fun pn0 npn0 => ?_⟩
    have s8 := same_upd (o := .lst []) npn0
    have hne0 : pn0 ≠ pw := (ne_of_none hpw7 npn0).symm
    have hneS0 := hS7.ne npn0
    have hpn0 : upd H7 pn0 (.lst []) pn0 = some (.lst []) := upd_same
    have hpw8 := s8 _ _ hpw7
    have hS8 := hS7.same s8
    generalize upd H7 pn0 (.lst []) = H8 at *
    clear hS3 hb3 hpw3 s4 hp4 hS5 k5 hpw5 hp5 hS6 k6 hS7 k7 hpw7 s8 npn0 np
    -- modes and tables
    refine ⟨_, rfl, pw, _, rfl, .inl (SqL.of hpw8), _, rfl, by rw [List.length_map]; omega, by rw [List.length_map]; omega, ?_⟩
    refine for_range (lo := 0) (n := (((ws.map V.str).length : Nat) : Int).toNat) (fun i σ H' => ∃ z2 z7 pn nv rs b', σ = [some (V.ref S), some (.ref pw), z2, some (.int (m : Int)), some (.int (nf : Int)), some (.int (nm : Int)), some (.ref pn), z7, none, none, none, none, none, none] ∧ Strm H' S L b' ∧ b' ≤ 100 + 2 * i ∧
        H' pw = some (.lst (ws.map V.str)) ∧ H' pn = some (.lst nv) ∧ pn ≠ pw ∧ pn ≠ S ∧ pn ≠ L ∧ RowsV H' nv rs ∧ rs.length ≤ 3 * i ∧ (∀ r ∈ rs, RowG ws r) ∧ ∀ x ∈ ws.take i, Row.mode x ∈ rs)
      ⟨_, none, pn0, [], [], b' + 1 + 1 + 1, rfl, hS8, by omega, hpw8, hpn0, hne0, hneS0.1, hneS0.2, .nil, Nat.le_refl _, fun _ m => (nomatch m), fun _ m => (by rw [List.take_zero] at m; cases m)⟩ (fun i σ H9 hi h => ?_) (fun σ H9 h => ?_)
    · obtain ⟨z2, z7, pn, nv, rs, bb, rfl, hS9, hb9, hpw9, hpn9, hpnw, hpnS, hpnL, hrs, hrl, hrG, hrm⟩ := h
      have hiw : i < ws.length := by rw [List.length_map] at hi; omega
      refine ⟨_, rfl, S, L, bb, 2, rfl, hS9, by omega, by decide, by decide, fun Ha na hSa ka hna => ?_⟩
      refine ⟨_, _, rfl, rfl, _, rfl, S, L, bb + 1, 3, rfl, hSa, by omega, by decide, by decide, fun Hb nb hSb kb hnb => ?_⟩
      refine ⟨by show 3 ≤ sizeLine; rw [sizeLine_eq]; decide, fun p np => ?_⟩
      have kab := ka.trans kb
      have hpwb := kab _ _ hpw9 hwS hwL
      have hpnb := kab _ _ hpn9 hpnS hpnL
      have tkb : TK H9 Hb := (TK.keep hS9 ka).trans (TK.keep hSa kb)
      have sc := same_upd (o := .lst [V.int 0, .int (1 + (na : Int)), .int (nb : Int)]) np
      obtain ⟨mm, hmm, hmm2⟩ : ∃ mm : Nat, [V.int 0, .int (1 + (na : Int)), .int (nb : Int)][nm]? = some (.int (mm : Int)) ∧ mm ≤ 2 := by
        match nm, hnm with
        | 0, _ => exact ⟨0, rfl, by decide⟩
        | 1, _ => exact ⟨1 + na, by show some (V.int (1 + (na : Int))) = _; rw [Int.natCast_add]; rfl, by omega⟩
        | 2, _ => exact ⟨nb, rfl, by omega⟩
      refine ⟨_, rfl, p, _, _, _, rfl, rfl, .inl (.inl upd_same), atI_nat hmm, ?_⟩
      have hpwc := sc _ _ hpwb
      have hpnc := sc _ _ hpnb
      have hSc := hSb.same sc
      have tkc := tkb.trans (TK.same sc)
      generalize upd Hb p (.lst [V.int 0, .int (1 + (na : Int)), .int (nb : Int)]) = Hc at *
      refine ⟨_, rfl, _, rfl, _, rfl, pw, _, _, _, rfl, rfl, .inl (.inl hpwc), at0 (get_strs hiw), by show 3 ≤ sizeLine; rw [sizeLine_eq]; decide, fun t1 nt1 => ?_⟩
      have s1 := same_upd (o := .tup [.str "mode", .str ws[i], .str ""]) nt1
      refine ⟨by show 1 ≤ sizeLine; rw [sizeLine_eq]; decide, fun l1 nl1 => ?_⟩
      have s2 := s1.trans (same_upd (o := .lst [.ref t1]) nl1)
      have hnvl : nv.length = rs.length := Paired.length hrs
      refine ⟨pn, l1, nv, [.ref t1], rfl, rfl, s2 _ _ hpnc, upd_same, by rw [sizeLine_eq]; show nv.length + 1 ≤ _; omega, fun c1 nc1 => ?_⟩
      have s3 := s2.trans (same_upd (o := .lst (nv ++ [.ref t1])) nc1)
      have hc1 : upd (upd (upd Hc t1 (.tup [.str "mode", .str ws[i], .str ""])) l1 (.lst [.ref t1])) c1 (.lst (nv ++ [.ref t1])) c1 = some (.lst (nv ++ [.ref t1])) := upd_same
      have ht1 : upd (upd (upd Hc t1 (.tup [.str "mode", .str ws[i], .str ""])) l1 (.lst [.ref t1])) c1 (.lst (nv ++ [.ref t1])) t1 = some (.tup [.str "mode", .str ws[i], .str ""]) := (same_upd nc1) _ _ ((same_upd nl1) _ _ upd_same)
      generalize upd (upd (upd Hc t1 (.tup [.str "mode", .str ws[i], .str ""])) l1 (.lst [.ref t1])) c1 (.lst (nv ++ [.ref t1])) = Hd at *
      refine ⟨_, rfl, _, rfl, pw, _, _, _, rfl, rfl, .inl (.inl (s3 _ _ hpwc)), at0 (get_strs hiw), by show 3 ≤ sizeLine; rw [sizeLine_eq]; decide, fun t2 nt2 => ?_⟩
      have s4 := same_upd (o := .tup [.str "table", .str ws[i], .int 0]) nt2
      refine ⟨by show 1 ≤ sizeLine; rw [sizeLine_eq]; decide, fun l2 nl2 => ?_⟩
      have s5 := s4.trans (same_upd (o := .lst [.ref t2]) nl2)
      refine ⟨_, rfl, l2, (mm : Int), _, rfl, rfl, upd_same, by omega, by omega, by show 1 * _ ≤ _; rw [sizeLine_eq]; omega, fun r2 nr2 => ?_⟩
      have s6 := s5.trans (same_upd (o := .lst (List.replicate (mm : Int).toNat [V.ref t2]).flatten) nr2)
      have emm : (mm : Int).toNat = mm := rfl
      have hfl : (List.replicate (mm : Int).toNat [V.ref t2]).flatten.length = mm := by
        rw [emm]
        simp
      refine ⟨c1, r2, _, _, rfl, rfl, s6 _ _ hc1, upd_same, by rw [hfl, List.length_append, sizeLine_eq]; show nv.length + 1 + mm ≤ _; omega, fun c2 nc2 => ?_⟩
      have s7 := s6.trans (same_upd (o := .lst (nv ++ [V.ref t1] ++ (List.replicate (mm : Int).toNat [V.ref t2]).flatten)) nc2)
      have s8 := s3.trans s7
      have ht2 := ((same_upd nl2).trans ((same_upd (o := .lst (List.replicate (mm : Int).toNat [V.ref t2]).flatten) nr2).trans (same_upd (o := .lst (nv ++ [V.ref t1] ++ (List.replicate (mm : Int).toNat [V.ref t2]).flatten)) nc2))) _ _ (upd_same (H := Hd) (a := t2) (o := .tup [.str "table", .str ws[i], .int 0]))
      have hfr := hSc.same (s3.trans s6) |>.ne nc2
      refine ⟨_, _, c2, _, rs ++ [Row.mode ws[i]] ++ (List.replicate mm [Row.table ws[i]]).flatten, bb + 1 + 1, rfl, hSc.same s8, by omega, s8 _ _ hpwc, upd_same, (ne_of_none ((s3.trans s6) _ _ hpwc) nc2).symm, hfr.1, hfr.2, ?_, ?_, fun r hr => ?_, fun x hx => ?_⟩
      · rw [emm]
        refine paired_append (paired_append (hrs.tk (tkc.trans (TK.same s8))) (.cons ⟨t1, rfl, s7 _ _ ht1⟩ .nil)) (paired_rep ⟨t2, rfl, ht2⟩ mm)
      · have : (List.replicate mm [Row.table ws[i]]).flatten.length = mm := by simp
        rw [List.length_append, List.length_append, this]
        show rs.length + 1 + mm ≤ _
        omega
      · rcases List.mem_append.mp hr with hr | hr
        · rcases List.mem_append.mp hr with hr | hr
          · exact hrG r hr
          · rw [List.mem_singleton] at hr
            rw [hr]; exact List.getElem_mem hiw
        · obtain ⟨l, hl1, hl2⟩ := List.mem_flatten.mp hr
          rw [(List.mem_replicate.mp hl1).2, List.mem_singleton] at hl2
          rw [hl2]; exact List.getElem_mem hiw
      · rw [List.take_add_one, List.getElem?_eq_getElem hiw] at hx
        rcases List.mem_append.mp hx with hx | hx
        · exact List.mem_append_left _ (List.mem_append_left _ (hrm x hx))
        · have : x = ws[i] := by simpa using hx
          rw [this]
          exact List.mem_append_left _ (List.mem_append_right _ (List.mem_singleton.mpr rfl))
    obtain ⟨z2, z7, pn, nv, rs, bb, rfl, hS9, hb9, hpw9, hpn9, hpnw, hpnS, hpnL, hrs, hrl, hrG, hrm⟩ := h
    have hll : (((ws.map V.str).length : Nat) : Int).toNat = ws.length := by rw [List.length_map]; rfl
    rw [hll] at hb9 hrl hrm
    rw [List.take_length] at hrm
    clear hS8 hpw8 hpn0 hne0 hneS0
    have hb120 : bb ≤ 120 := by omega
    have hr21 : rs.length ≤ 21 := by omega
    have hrm' : ∀ x ∈ ws, Row.mode x ∈ rs := hrm
    clear hb9 hrl hrm
    -- clauses
    refine ⟨_, rfl, S, L, bb, 13, rfl, hS9, by omega, by decide, by decide, fun H10 n10 hS10 k10 hn10 => ?_⟩
    refine ⟨_, rfl, by omega, by omega, ?_⟩
    refine for_range (lo := 0) (n := ((n10 : Nat) : Int).toNat) (fun i σ H' => ∃ z2 z8 z9 z10 z11 nv rs b', σ = [some (V.ref S), some (.ref pw), z2, some (.int (m : Int)), some (.int (nf : Int)), some (.int (nm : Int)), some (.ref pn), z7, z8, z9, z10, z11, none, none] ∧ Strm H' S L b' ∧ b' ≤ 121 + 10 * i ∧
        H' pw = some (.lst (ws.map V.str)) ∧ H' pn = some (.lst nv) ∧ RowsV H' nv rs ∧ rs.length ≤ 21 + i ∧ (∀ r ∈ rs, RowG ws r) ∧ ∀ x ∈ ws, Row.mode x ∈ rs)
      ⟨_, none, none, none, none, nv, rs, bb + 1, rfl, hS10, by omega, k10 _ _ hpw9 hwS hwL, k10 _ _ hpn9 hpnS hpnL, hrs.tk (TK.keep hS9 k10), hr21, hrG, hrm'⟩ (fun i σ H11 hi h => ?_) (fun σ H11 h => ?_)
    · clear hrs hr21 hrG hrm' hpn9 hpw9 hS9 hS10 k10 hb120
      obtain ⟨z2, z8, z9, z10, z11, nv, rs, bb, rfl, hS11, hb11, hpw11, hpn11, hrs, hrl, hrG, hrm⟩ := h
      refine ⟨_, rfl, _, rfl, pw, _, rfl, .inl (SqL.of hpw11), S, L, bb, ws.length, by rw [List.length_map]; rfl, hS11, by omega, by omega, by omega, fun H12 nh hS12 k12 hnh => ?_⟩
      have hpw12 := k12 _ _ hpw11 hwS hwL
      have hpn12 := k12 _ _ hpn11 hpnS hpnL
      have tk12 : TK H11 H12 := TK.keep hS11 k12
      refine ⟨Nat.zero_le _, fun pg npg => ?_⟩
      obtain ⟨hgS, hgL⟩ := hS12.ne npg
      have hgw : pg ≠ pw := (ne_of_none hpw12 npg).symm
      have hgn : pg ≠ pn := (ne_of_none hpn12 npg).symm
      have s13 := same_upd (o := .lst []) npg
      have hpg13 : upd H12 pg (.lst []) pg = some (.lst []) := upd_same
      have hS13 := hS12.same s13
      have hpw13 := s13 _ _ hpw12
      have hpn13 := s13 _ _ hpn12
      have tk13 := tk12.trans (TK.same s13)
      generalize upd H12 pg (.lst []) = H13 at *
      refine ⟨_, rfl, S, L, bb + 1, 5, rfl, hS13, by omega, by decide, by decide, fun H14 n14 hS14 k14 hn14 => ?_⟩
      refine ⟨_, rfl, by omega, by omega, ?_⟩
      refine for_range (lo := 0) (n := ((n14 : Nat) : Int).toNat) (fun j σ H' => ∃ z10 z11 gvs gs b', σ = [some (V.ref S), some (.ref pw), some (.int (0 + (i : Int))), some (.int (m : Int)), some (.int (nf : Int)), some (.int (nm : Int)), some (.ref pn), z7, some (.int (nh : Int)), some (.ref pg), z10, z11, none, none] ∧
          Strm H' S L b' ∧ b' ≤ 121 + 10 * i + 2 + 2 * j ∧ H' pw = some (.lst (ws.map V.str)) ∧ H' pn = some (.lst nv) ∧ TK H11 H' ∧ H' pg = some (.lst gvs) ∧ Paired (GoalV H') gvs gs ∧ (∀ g ∈ gs, g.2 ∈ ws) ∧ gs.length ≤ j)
        ⟨_, _, [], [], bb + 1 + 1, rfl, hS14, by omega, k14 _ _ hpw13 hwS hwL, k14 _ _ hpn13 hpnS hpnL, tk13.trans (TK.keep hS13 k14), k14 _ _ hpg13 hgS hgL, .nil, fun _ m => (nomatch m), Nat.le_refl _⟩ (fun j σ H15 hj h => ?_) (fun σ H15 h => ?_)
      · obtain ⟨z10, z11, gvs, gs, b5, rfl, hS15, hb15, hpw15, hpn15, tk15, hpg15, hgv, hgw2, hgl⟩ := h
        have hgvl : gvs.length = gs.length := Paired.length hgv
        refine ⟨_, rfl, _, rfl, _, rfl, pw, _, rfl, .inl (SqL.of hpw15), _, rfl, _, _, rfl, rfl, by show 2 ≤ sizeLine; rw [sizeLine_eq]; decide, fun p np => ?_⟩
        have s16 := same_upd (o := .lst [V.int (((ws.map V.str).length : Nat) : Int), .int ((nh : Int) + 1)]) np
        obtain ⟨mx, hmx, hmx1, hmx2⟩ : ∃ mx : Nat, [V.int (((ws.map V.str).length : Nat) : Int), .int ((nh : Int) + 1)][nf]? = some (.int (mx : Int)) ∧ 0 < mx ∧ mx ≤ ws.length := by
          match nf, hnf with
          | 0, _ => exact ⟨ws.length, by rw [List.length_map]; rfl, by omega, Nat.le_refl _⟩
          | 1, _ => exact ⟨nh + 1, rfl, by omega, by omega⟩
        refine ⟨_, rfl, p, _, _, _, rfl, rfl, .inl (.inl upd_same), atI_nat hmx, S, L, b5, mx, rfl, hS15.same s16, by omega, hmx1, by omega, fun H17 nw hS17 k17 hnw => ?_⟩
        have hpw17 := k17 _ _ (s16 _ _ hpw15) hwS hwL
        have hpn17 := k17 _ _ (s16 _ _ hpn15) hpnS hpnL
        have hpg17 := k17 _ _ (s16 _ _ hpg15) hgS hgL
        have tkx : TK H15 H17 := (TK.same s16).trans (TK.keep (hS15.same s16) k17)
        have hgv17 := paired_mono (fun _ _ => GoalV.tk tkx) hgv
        have tk17 := tk15.trans tkx
        have hnw2 : nw < ws.length := by omega
        refine ⟨pw, _, _, _, rfl, rfl, .inl (.inl hpw17), atI_nat (get_strs hnw2), ?_⟩
        have hwm : ws[nw] ∈ ws := List.getElem_mem hnw2
        generalize ws[nw] = x at *
        dsimp only [gName]
        refine if_via (PK := fun H' => Strm H' S L (b5 + 1 + 1) ∧ H' pw = some (.lst (ws.map V.str)) ∧ H' pn = some (.lst nv) ∧ TK H11 H' ∧ H' pg = some (.lst gvs) ∧ Paired (GoalV H') gvs gs) ?_ ?_ ?_
        · rintro H18 ⟨hS18, hpw18, hpn18, tk18, hpg18, hgv18⟩
          refine ⟨_, rfl, .inl ⟨rfl, _, SqL.of hpg18⟩, _, rfl, by show 2 ≤ sizeLine; rw [sizeLine_eq]; decide, fun t nt => ?_⟩
          have s19 := same_upd (o := .tup [.str "not", .str x]) nt
          have hpg19 := s19 _ _ hpg18
          refine ⟨pg, gvs, _, rfl, rfl, hpg19, by rw [sizeLine_eq]; omega, ?_⟩
          have tkp : TK (upd H18 t (.tup [.str "not", .str x])) (upd (upd H18 t (.tup [.str "not", .str x])) pg (.lst (gvs ++ [.ref t]))) := TK.put hpg19
          refine ⟨_, _, gvs ++ [.ref t], gs ++ [(true, x)], b5 + 1 + 1, rfl, (hS18.same s19).put hgS hgL, by omega, upd_at (s19 _ _ hpw18) hgw.symm, upd_at (s19 _ _ hpn18) hgn.symm, (tk18.trans (TK.same s19)).trans tkp, upd_same, ?_, fun g mg => ?_, by rw [List.length_append, List.length_singleton]; omega⟩
          · exact Paired.snoc (paired_mono (fun _ _ => GoalV.tk ((TK.same s19).trans tkp)) hgv18) (.inr ⟨rfl, t, rfl, tkp _ _ upd_same⟩)
          · rcases List.mem_append.mp mg with mg | mg
            · exact hgw2 g mg
            · rw [List.mem_singleton] at mg
              rw [mg]; exact hwm
        · rintro H18 ⟨hS18, hpw18, hpn18, tk18, hpg18, hgv18⟩
          refine ⟨_, rfl, .inl ⟨rfl, _, SqL.of hpg18⟩, _, rfl, pg, gvs, _, rfl, rfl, hpg18, by rw [sizeLine_eq]; omega, ?_⟩
          have tkp : TK H18 (upd H18 pg (.lst (gvs ++ [.str x]))) := TK.put hpg18
          refine ⟨_, _, gvs ++ [.str x], gs ++ [(false, x)], b5 + 1 + 1, rfl, hS18.put hgS hgL, by omega, upd_at hpw18 hgw.symm, upd_at hpn18 hgn.symm, tk18.trans tkp, upd_same, ?_, fun g mg => ?_, by rw [List.length_append, List.length_singleton]; omega⟩
          · exact Paired.snoc (paired_mono (fun _ _ => GoalV.tk tkp) hgv18) (.inl ⟨rfl, rfl⟩)
          · rcases List.mem_append.mp mg with mg | mg
            · exact hgw2 g mg
            · rw [List.mem_singleton] at mg
              rw [mg]; exact hwm
        · intro R hR
          refine ⟨_, rfl, _, rfl, S, L, b5 + 1, m, rfl, hS17, by omega, hm0, hm1, fun H18 n18 hS18 k18 hn18 => ?_⟩
          have pk : Strm H18 S L (b5 + 1 + 1) ∧ H18 pw = some (.lst (ws.map V.str)) ∧ H18 pn = some (.lst nv) ∧ TK H11 H18 ∧ H18 pg = some (.lst gvs) ∧ Paired (GoalV H18) gvs gs :=
            ⟨hS18, k18 _ _ hpw17 hwS hwL, k18 _ _ hpn17 hpnS hpnL, tk17.trans (TK.keep hS17 k18), k18 _ _ hpg17 hgS hgL, paired_mono (fun _ _ => GoalV.tk (TK.keep hS17 k18)) hgv17⟩
          refine ⟨rfl, _, rfl, ite2 (fun _ => ?_) fun _ => hR _ _ pk⟩
          refine ⟨_, rfl, rfl, _, rfl, ite2 (fun _ => hR _ _ pk) fun _ => ?_⟩
          exact ⟨_, rfl, _, rfl, _, rfl, pw, _, _, _, rfl, rfl, .inl (.inl pk.2.1), atI_nat (get_strs hnh), rfl, _, rfl, hR _ _ pk⟩
      · obtain ⟨z10, z11, gvs, gs, b5, rfl, hS15, hb15, hpw15, hpn15, tk15, hpg15, hgv, hgw2, hgl⟩ := h
        have hgvl : gvs.length = gs.length := Paired.length hgv
        have hg4 : gs.length ≤ 4 := by omega
        refine ⟨_, rfl, .inl ⟨rfl, _, SqL.of hpn15⟩, _, rfl, _, rfl, pw, _, _, _, rfl, rfl, .inl (.inl hpw15), atI_nat (get_strs hnh), _, rfl, pg, _, rfl, .inl ⟨SqL.of hpg15, fun gt ngt => ⟨by show 3 ≤ sizeLine; rw [sizeLine_eq]; decide, fun t nt => ?_⟩⟩⟩
        have s16 := (same_upd (o := .tup gvs) ngt).trans (same_upd (o := .tup [.str "clause", .str ws[nh], .ref gt]) nt)
        have hgt16 := (same_upd (o := .tup [.str "clause", .str ws[nh], .ref gt]) nt) _ _ (upd_same (H := H15) (a := gt) (o := .tup gvs))
        have ht16 : upd (upd H15 gt (.tup gvs)) t (.tup [.str "clause", .str ws[nh], .ref gt]) t = some (.tup [.str "clause", .str ws[nh], .ref gt]) := upd_same
        have hpn16 := s16 _ _ hpn15
        have hpw16 := s16 _ _ hpw15
        have hS16 := hS15.same s16
        have hnvl : nv.length = rs.length := Paired.length hrs
        refine ⟨pn, nv, _, rfl, rfl, hpn16, by rw [sizeLine_eq]; omega, ?_⟩
        have tkp : TK (upd (upd H15 gt (.tup gvs)) t (.tup [.str "clause", .str ws[nh], .ref gt])) (upd (upd (upd H15 gt (.tup gvs)) t (.tup [.str "clause", .str ws[nh], .ref gt])) pn (.lst (nv ++ [.ref t]))) := TK.put hpn16
        have hwh : ws[nh] ∈ ws := List.getElem_mem hnh
        refine ⟨_, _, _, _, _, nv ++ [.ref t], rs ++ [Row.clause ws[nh] gs], b5, rfl, hS16.put hpnS hpnL, by omega, upd_at hpw16 hpnw.symm, upd_same, ?_, by rw [List.length_append, List.length_singleton]; omega, fun r mr => ?_, fun x mx => List.mem_append_left _ (hrm x mx)⟩
        · refine Paired.snoc (hrs.tk ((tk15.trans (TK.same s16)).trans tkp)) ⟨t, gt, gvs, rfl, tkp _ _ ht16, tkp _ _ hgt16, ⟨paired_mono (fun _ _ => GoalV.tk ((TK.same s16).trans tkp)) hgv, fun g mg => (hlw _ (hgw2 g mg)).1⟩, by omega⟩
        · rcases List.mem_append.mp mr with mr | mr
          · exact hrG r mr
          · rw [List.mem_singleton] at mr
            rw [mr]; exact ⟨hwh, hgw2, hg4⟩
    clear hrs hr21 hrG hrm' hpn9 hpw9 hS9 hS10 k10 hb120
    obtain ⟨z2, z8, z9, z10, z11, nv, rs, bb, rfl, hS11, hb11, hpw11, hpn11, hrs, hrl, hrG, hrm⟩ := h
    have hb250 : bb ≤ 250 := by omega
    have hr34 : rs.length ≤ 34 := by omega
    have hnvl : nv.length = rs.length := Paired.length hrs
    -- rows
    refine ⟨Nat.zero_le _, fun pr npr => ?_⟩
    obtain ⟨hrS, hrL⟩ := hS11.ne npr
    have hrw : pr ≠ pw := (ne_of_none hpw11 npr).symm
    have hrn : pr ≠ pn := (ne_of_none hpn11 npr).symm
    have s12 := same_upd (o := .lst []) npr
    refine ⟨_, rfl, pn, rfl, ⟨_, SqL.of (s12 _ _ hpn11)⟩, ?_⟩
    refine for_it (n := nv.length) (fun i σ H' => ∃ z13 rv rs5 b', σ = [some (V.ref S), some (.ref pw), z2, some (.int (m : Int)), some (.int (nf : Int)), some (.int (nm : Int)), some (.ref pn), z7, z8, z9, z10, z11, some (.ref pr), z13] ∧ Strm H' S L b' ∧ b' ≤ 250 + i ∧
        H' pw = some (.lst (ws.map V.str)) ∧ H' pn = some (.lst nv) ∧ RowsV H' nv rs ∧ H' pr = some (.lst rv) ∧ RowsV H' rv rs5 ∧ rs5.length = i ∧ ∀ r, r ∈ rs5 ↔ r ∈ rs.take i)
      ⟨none, [], [], bb, rfl, hS11.same s12, by omega, s12 _ _ hpw11, s12 _ _ hpn11, hrs.tk (TK.same s12), upd_same, .nil, rfl, fun r => by rw [List.take_zero]⟩ (fun i σ H' hi h => ?_) (fun σ H' h => ?_) (fun i σ H13 hi h x H14 hy => ?_) (fun σ H13 h => ?_)
    · obtain ⟨_, _, _, _, _, _, _, _, h, _⟩ := h
      exact go_l (SqL.of h) hi
    · obtain ⟨_, _, _, _, _, _, _, _, h, _⟩ := h
      exact stop_l (SqL.of h)
    · obtain ⟨z13, rv, rs5, b5, rfl, hS13, hb13, hpw13, hpn13, hrs13, hpr13, hrv, hr5, hmem⟩ := h
      obtain ⟨rfl, hx⟩ := yld_l (SqL.of hpn13) hy
      obtain ⟨r, hri, hxr⟩ := paired_get hrs13 hx
      have hrvl : rv.length = rs5.length := Paired.length hrv
      refine ⟨_, rfl, .inl ⟨rfl, _, SqL.of hpr13⟩, _, rfl, _, rfl, pr, _, rfl, .inl (SqL.of hpr13), _, _, rfl, rfl, S, L, b5, rv.length + 1, rfl, hS13, by omega, by omega, by omega, fun H15 n15 hS15 k15 hn15 => ?_⟩
      have tk15 : TK H14 H15 := TK.keep hS13 k15
      have hpr15 := k15 _ _ hpr13 hrS hrL
      refine ⟨_, rfl, pr, rv, (n15 : Int), _, rfl, rfl, hpr15, by rw [sizeLine_eq]; omega, by omega, by omega, ?_⟩
      have tkp : TK H15 (upd H15 pr (.lst (rv.take (n15 : Int).toNat ++ [x] ++ rv.drop (n15 : Int).toNat))) := TK.put hpr15
      refine ⟨_, _, rs5.take n15 ++ r :: rs5.drop n15, b5 + 1, rfl, hS15.put hrS hrL, by omega, upd_at (k15 _ _ hpw13 hwS hwL) hrw.symm, upd_at (k15 _ _ hpn13 hpnS hpnL) hrn.symm, hrs13.tk (tk15.trans tkp), upd_same, ?_, ?_, fun y => ?_⟩
      · have p := paired_insert (hxr.tk (tk15.trans tkp)) n15 (hrv.tk (tk15.trans tkp))
        have e : rv.take n15 ++ x :: rv.drop n15 = rv.take n15 ++ [x] ++ rv.drop n15 := by
          rw [List.append_assoc]
          rfl
        rw [e] at p
        exact p
      · rw [List.length_append, List.length_cons, List.length_take, List.length_drop]
        omega
      · rw [List.take_add_one, hri, List.mem_append, List.mem_cons, List.mem_append, ← hmem y]
        have e : y ∈ rs5 ↔ y ∈ rs5.take n15 ∨ y ∈ rs5.drop n15 := by
          rw [← List.mem_append, List.take_append_drop]
        rw [e]
        have e2 : y ∈ (some r).toList ↔ y = r := by simp
        rw [e2]
        constructor
        · rintro (a | a | a)
          · exact .inl (.inl a)
          · exact .inr a
          · exact .inl (.inr a)
        · rintro ((a | a) | a)
          · exact .inl a
          · exact .inr (.inr a)
          · exact .inr (.inl a)
    · obtain ⟨z13, rv, rs5, b5, rfl, hS13, hb13, hpw13, hpn13, hrs13, hpr13, hrv, hr5, hmem⟩ := h
      rw [hnvl, List.take_length] at hmem
      refine ⟨_, rfl, _, rfl, by show 2 ≤ sizeLine; rw [sizeLine_eq]; decide, fun pt npt => ?_⟩
      have s14 := same_upd (o := .tup [.ref pr, .ref pw]) npt
      exact q _ pt pr pw rv rs5 ws upd_same (s14 _ _ hpr13) (hrv.tk (TK.same s14)) (s14 _ _ hpw13) ⟨hnd, hws1.2, hlw, fun r mr => hrG r ((hmem r).mp mr), fun x mx => (hmem _).mpr (hrm x mx), by omega⟩
end
end G3

/-! Walks of the law: its links. -/
namespace G3
open PySem PySem.Spec PyProof.Rows L2
/-- a link with its line -/
abbrev Ll := Lk Str × Nat
def cLnks (c : Cl) : List Ll := c.goals.map fun g => ((c.head, g.2, g.1), c.line)
def lnks (cs : List Cl) : List Ll := cs.flatMap cLnks
theorem lnks_links (cs : List Cl) : (lnks cs).map (·.1) = links cs := by
  unfold lnks links
  rw [List.map_flatMap]
  congr 1
  funext c
  unfold cLnks clinks
  rw [List.map_map]
  rfl
theorem clsFrom_append : ∀ (a b : List Row) (n : Nat), clsFrom n (a ++ b) = clsFrom n a ++ clsFrom (n + a.length) b
  | [], b, n => rfl
  | .mode x :: a, b, n => by
    show clsFrom (n + 1) (a ++ b) = clsFrom (n + 1) a ++ _
    rw [clsFrom_append a b (n + 1), List.length_cons, Nat.add_assoc, Nat.add_comm 1]
  | .table x :: a, b, n => by
    show clsFrom (n + 1) (a ++ b) = clsFrom (n + 1) a ++ _
    rw [clsFrom_append a b (n + 1), List.length_cons, Nat.add_assoc, Nat.add_comm 1]
  | .clause h gs :: a, b, n => by
    show _ :: clsFrom (n + 1) (a ++ b) = (_ :: clsFrom (n + 1) a) ++ _
    rw [clsFrom_append a b (n + 1), List.length_cons, Nat.add_assoc, Nat.add_comm 1]
    rfl
theorem lnks_le (rows : List Row) (i : Nat) : (lnks (clsFrom 0 (rows.take i))).length ≤ (lnks (clsFrom 0 rows)).length := by
  conv => rhs; rw [← List.take_append_drop i rows, clsFrom_append]
  unfold lnks
  rw [List.flatMap_append, List.length_append]
  omega
def LnkV (H : Hp) (v : V) (l : Ll) : Prop := ∃ t, v = .ref t ∧ H t = some (.tup [.str l.1.1, .str l.1.2.1, .bl l.1.2.2, .int (l.2 : Int)])
theorem LnkV.tk {H H' : Hp} {v : V} {l : Ll} (s : TK H H') (h : LnkV H v l) : LnkV H' v l := by
  obtain ⟨t, a, b⟩ := h
  exact ⟨t, a, s _ _ b⟩
def LnksV (H : Hp) (vs : List V) (ls : List Ll) : Prop := Paired (LnkV H) vs ls
theorem LnksV.tk {H H' : Hp} {vs : List V} {ls : List Ll} (s : TK H H') (h : LnksV H vs ls) : LnksV H' vs ls := paired_mono (fun _ _ => .tk s) h
section
variable {P : Program} {w : World} {K : PySem.W.Frag} {mg : Str → Option Value} {base : Heap} {C M N : Addr}
abbrev nLLinks : List Str := ["_law_rows", "_law_links_here", "_law_k", "_law_goal"]
theorem sc_llinks : FnScope nLLinks ["_law_rows"] (defScope s_law_links) := ⟨rfl, rfl, rfl, by decide +kernel, rfl, by decide +kernel, by decide +kernel⟩
def spLLinks : Sp := fun vs H Q _ => ∃ (pr : Addr) (rvs : List V) (rows : List Row), vs = [.ref pr] ∧ H pr = some (.lst rvs) ∧ RowsV H rvs rows ∧ rows.length ≤ 1000 ∧ (lnks (clsFrom 0 rows)).length ≤ 1000 ∧
  ∀ H' (D : Addr) (acc : List V), Same H H' → H D = none → H' D = some (.lst acc) → LnksV H' acc (lnks (clsFrom 0 rows)) → Q (.ref D) H'
theorem law_links_ok (T : Tx K mg w C M N) : Cal P w K mg base 1 "_law_links" ["_law_rows"] spLLinks := by
  refine T.d_law_links.cal sc_llinks (fun vs H Q E h => ?_) (fun f cdv A outer s H vs Q E hr h => ?_)
  · obtain ⟨pr, rvs, rows, rfl, _⟩ := h
    rfl
  · obtain ⟨pr, rvs, rows, rfl, hpr, hrv, hrl, hlk, q⟩ := h
    refine ⟨_, pss_cons (ps_set (i := 1) sc_llinks.nd rfl (.inl rfl) (pe_lst pa_nil))
      (pss_cons (ps_for PassesOwn.never rfl (pi_range1 (by rfl) T.n_range (pa_cons (pe_callB call_len_seq (by rfl) T.n_len (by decide +kernel) (pa_cons (pv 0) pa_nil)) pa_nil)) (pg_name (i := 2) sc_llinks.nd rfl (.inl rfl))
        (pss_one (ps_if (pt_cmpR op_eq (pe_ix ix_tup (pe_ix ix_list (pv 0) (pv 2) (fun _ _ => rfl)) pe_int (fun _ _ => rfl)) pe_str (nomark _))
          (pss_one (ps_for PassesOwn.never rfl (pi_tup (pe_ix ix_tup (pe_ix ix_list (pv 0) (pv 2) (fun _ _ => rfl)) pe_int (fun _ _ => rfl))) (pg_name (i := 3) sc_llinks.nd rfl (.inl rfl))
            (pss_one (ps_if (pt_val (pe_callB call_isi (by rfl) T.n_isinstance (by decide +kernel) (pa_cons (pv 3) (pa_cons (pe_bltn (v := .ty "tuple") (by rfl) T.n_tuple (by decide +kernel) rfl) pa_nil))))
              (pss_one (ps_expr (pe_bm PySem.F.plainAttrs_list PySem.F.slot_list_append PySem.F.type_list_append mt_append (pv 1) (pa_cons (pe_tup (pa_cons (pe_ix ix_tup (pe_ix ix_list (pv 0) (pv 2) (fun _ _ => rfl)) pe_int (fun _ _ => rfl)) (pa_cons (pe_ix ix_tup (pv 3) pe_int (fun _ _ => rfl)) (pa_cons pe_bl (pa_cons (pv 2) pa_nil))))) pa_nil))))
              (pss_one (ps_expr (pe_bm PySem.F.plainAttrs_list PySem.F.slot_list_append PySem.F.type_list_append mt_append (pv 1) (pa_cons (pe_tup (pa_cons (pe_ix ix_tup (pe_ix ix_list (pv 0) (pv 2) (fun _ _ => rfl)) pe_int (fun _ _ => rfl)) (pa_cons (pv 3) (pa_cons pe_bl (pa_cons (pv 2) pa_nil))))) pa_nil))))))))
          pss_nil)))
      (pss_one (ps_ret (pv 1)))), ?_⟩
    refine ⟨Nat.zero_le _, fun D nD => ?_⟩
    have hrvl : rvs.length = rows.length := Paired.length hrv
    refine ⟨_, rfl, pr, _, rfl, .inl (SqL.of (same_upd nD _ _ hpr)), _, rfl, by omega, by omega, ?_⟩
    refine for_range (lo := 0) (n := ((rvs.length : Nat) : Int).toNat) (fun i σ H' => ∃ z2 z3 acc, σ = [some (V.ref pr), some (.ref D), z2, z3] ∧ Same H H' ∧ H' D = some (.lst acc) ∧ LnksV H' acc (lnks (clsFrom 0 (rows.take i))))
      ⟨none, none, [], rfl, same_upd nD, upd_same, .nil⟩ (fun i σ H' hi h => ?_) (fun σ H' h => ?_)
    · obtain ⟨z2, z3, acc, rfl, s1, hD, hacc⟩ := h
      have hi1 : i < rvs.length := hi
      have hi2 : i < rows.length := by omega
      have hvi : rvs[i]? = some rvs[i] := List.getElem?_eq_getElem hi1
      obtain ⟨r, hri, hrV⟩ := paired_get hrv hvi
      have htk : rows.take (i + 1) = rows.take i ++ [r] := by rw [List.take_add_one, hri]; rfl
      have hcl : clsFrom 0 (rows.take (i + 1)) = clsFrom 0 (rows.take i) ++ clsFrom i [r] := by
        rw [htk, clsFrom_append, List.length_take]
        have : 0 + min i rows.length = i := by omega
        rw [this]
      generalize rvs[i] = x at *
      have hle := lnks_le rows (i + 1)
      rw [hcl] at hle
      cases r with
      | mode y =>
        obtain ⟨t, rfl, ht⟩ := hrV
        refine ⟨_, rfl, _, rfl, pr, _, _, _, rfl, rfl, .inl (.inl (s1 _ _ hpr)), at0 hvi, t, _, 0, _, rfl, rfl, .inl (.inl (s1 _ _ ht)), rfl, rfl, _, rfl, ?_⟩
        rw [k_mc]
        refine iteF ⟨_, _, acc, rfl, s1, hD, ?_⟩
        rw [hcl]
        show LnksV H' acc (lnks (_ ++ []))
        rw [List.append_nil]
        exact hacc
      | table y =>
        obtain ⟨t, rfl, ht⟩ := hrV
        refine ⟨_, rfl, _, rfl, pr, _, _, _, rfl, rfl, .inl (.inl (s1 _ _ hpr)), at0 hvi, t, _, 0, _, rfl, rfl, .inl (.inl (s1 _ _ ht)), rfl, rfl, _, rfl, ?_⟩
        rw [k_tc]
        refine iteF ⟨_, _, acc, rfl, s1, hD, ?_⟩
        rw [hcl]
        show LnksV H' acc (lnks (_ ++ []))
        rw [List.append_nil]
        exact hacc
      | clause hd gs =>
        obtain ⟨t, gt, gvs, rfl, ht, hgt, hg, hz⟩ := hrV
        refine ⟨_, rfl, _, rfl, pr, _, _, _, rfl, rfl, .inl (.inl (s1 _ _ hpr)), at0 hvi, t, _, 0, _, rfl, rfl, .inl (.inl (s1 _ _ ht)), rfl, rfl, _, rfl, ?_⟩
        rw [k_cc]
        refine iteT ⟨_, rfl, _, rfl, pr, _, _, _, rfl, rfl, .inl (.inl (s1 _ _ hpr)), at0 hvi, t, _, 2, _, rfl, rfl, .inl (.inl (s1 _ _ ht)), rfl, gt, rfl, ⟨_, SqT.of (s1 _ _ hgt)⟩, ?_⟩
        have hgvl : gvs.length = gs.length := Paired.length hg.1
        have hcc : lnks (clsFrom 0 (rows.take i) ++ clsFrom i [Row.clause hd gs]) = lnks (clsFrom 0 (rows.take i)) ++ cLnks ⟨i, hd, gs⟩ := by
          unfold lnks
          rw [List.flatMap_append]
          show _ ++ (cLnks ⟨i, hd, gs⟩ ++ []) = _
          rw [List.append_nil]
        rw [hcc, List.length_append] at hle
        refine for_tup (K := K) (a := gt) (xs := gvs) (fun j σ H' => ∃ z3 acc, σ = [some (V.ref pr), some (.ref D), some (.int (0 + (i : Int))), z3] ∧ Same H H' ∧ H' D = some (.lst acc) ∧ LnksV H' acc (lnks (clsFrom 0 (rows.take i)) ++ (cLnks ⟨i, hd, gs⟩).take j))
          ⟨_, acc, rfl, s1, hD, by rw [List.take_zero, List.append_nil]; exact hacc⟩ (fun j σ H' _ h => by obtain ⟨_, _, _, s, _⟩ := h; exact SqT.of (s _ _ hgt)) (fun j x σ H3 hx h => ?_) (fun σ H3 h => ?_)
        · obtain ⟨z3, acc, rfl, s2, hD2, hacc2⟩ := h
          obtain ⟨g, hgj, gv, gw⟩ := hg.get hx
          have hcj : (cLnks ⟨i, hd, gs⟩)[j]? = some ((hd, g.2, g.1), i) := by unfold cLnks; rw [List.getElem?_map, hgj]; rfl
          have hal : acc.length ≤ 1000 := by
            have := Paired.length hacc2
            rw [List.length_append, List.length_take] at this
            omega
          have hsu : lnks (clsFrom 0 (rows.take i)) ++ (cLnks ⟨i, hd, gs⟩).take (j + 1) = (lnks (clsFrom 0 (rows.take i)) ++ (cLnks ⟨i, hd, gs⟩).take j) ++ [((hd, g.2, g.1), i)] := by
            rw [List.take_add_one, hcj, List.append_assoc]
            rfl
          have ez : (0 : Int) + (i : Int) = (i : Int) := Int.zero_add _
          have hpr2 := s2 _ _ hpr
          have ht2 := s2 _ _ ht
          rcases gv with ⟨eg, rfl⟩ | ⟨eg, t3, rfl, ht3⟩
          · refine ⟨_, rfl, _, _, _, _, false, rfl, .ty "tuple", .base (.str _), kit_ty (by decide +kernel), _, rfl, iteF ?_⟩
            refine ⟨_, rfl, .inl ⟨rfl, _, SqL.of hD2⟩, _, rfl, _, rfl, pr, _, _, _, rfl, rfl, .inl (.inl hpr2), at0 hvi, t, _, 1, _, rfl, rfl, .inl (.inl ht2), rfl, _, rfl, _, rfl, by show 4 ≤ sizeLine; rw [sizeLine_eq]; decide, fun p np => ?_⟩
            have s3 := same_upd (o := .tup [.str hd, .str g.2, .bl false, .int (0 + (i : Int))]) np
            refine ⟨D, acc, _, rfl, rfl, s3 _ _ hD2, by rw [sizeLine_eq]; omega, _, acc ++ [.ref p], rfl, same_new (s2.trans s3) nD, upd_same, ?_⟩
            rw [hsu]
            have tkp : TK (upd H3 p (.tup [.str hd, .str g.2, .bl false, .int (0 + (i : Int))])) (upd (upd H3 p (.tup [.str hd, .str g.2, .bl false, .int (0 + (i : Int))])) D (.lst (acc ++ [.ref p]))) := TK.put (s3 _ _ hD2)
            refine Paired.snoc (hacc2.tk ((TK.same s3).trans tkp)) ⟨p, rfl, tkp _ _ ?_⟩
            rw [upd_same, ez, eg]
          · refine ⟨_, rfl, _, _, _, _, true, rfl, .ty "tuple", .base (.tup (s2 _ _ ht3)), kit_ty (by decide +kernel), _, rfl, iteT ?_⟩
            refine ⟨_, rfl, .inl ⟨rfl, _, SqL.of hD2⟩, _, rfl, _, rfl, pr, _, _, _, rfl, rfl, .inl (.inl hpr2), at0 hvi, t, _, 1, _, rfl, rfl, .inl (.inl ht2), rfl, _, rfl, t3, _, 1, _, rfl, rfl, .inl (.inl (s2 _ _ ht3)), rfl, _, rfl, by show 4 ≤ sizeLine; rw [sizeLine_eq]; decide, fun p np => ?_⟩
            have s3 := same_upd (o := .tup [.str hd, .str g.2, .bl true, .int (0 + (i : Int))]) np
            refine ⟨D, acc, _, rfl, rfl, s3 _ _ hD2, by rw [sizeLine_eq]; omega, _, acc ++ [.ref p], rfl, same_new (s2.trans s3) nD, upd_same, ?_⟩
            rw [hsu]
            have tkp : TK (upd H3 p (.tup [.str hd, .str g.2, .bl true, .int (0 + (i : Int))])) (upd (upd H3 p (.tup [.str hd, .str g.2, .bl true, .int (0 + (i : Int))])) D (.lst (acc ++ [.ref p]))) := TK.put (s3 _ _ hD2)
            refine Paired.snoc (hacc2.tk ((TK.same s3).trans tkp)) ⟨p, rfl, tkp _ _ ?_⟩
            rw [upd_same, ez, eg]
        · obtain ⟨z3, acc, rfl, s2, hD2, hacc2⟩ := h
          refine ⟨_, _, acc, rfl, s2, hD2, ?_⟩
          have e : (cLnks ⟨i, hd, gs⟩).take gvs.length = cLnks ⟨i, hd, gs⟩ := List.take_of_length_le (by unfold cLnks; rw [List.length_map]; show gs.length ≤ _; omega)
          rw [e] at hacc2
          rw [hcl, hcc]
          exact hacc2
    · obtain ⟨z2, z3, acc, rfl, s1, hD, hacc⟩ := h
      have e : ((rvs.length : Nat) : Int).toNat = rows.length := by rw [hrvl]; rfl
      rw [e, List.take_length] at hacc
      exact ⟨_, rfl, q _ D acc s1 nD hD hacc⟩
end
end G3

/-! Walks of the law: its reach. -/
namespace G3
open PySem PySem.Spec PyProof.Rows L2
/-! ### mathematics -/
structure Wf (ls : List (Lk Str)) (ws : List Str) (R : Str → List Str) : Prop where
  nd : ∀ w ∈ ws, (R w).Nodup
  self : ∀ w ∈ ws, w ∈ R w
  sub : ∀ w ∈ ws, ∀ x ∈ R w, x ∈ ws ∧ Rch ls w x
def putR (R : Str → List Str) (w x : Str) : Str → List Str := fun v => if v = w then R v ++ [x] else R v
def sz (ws : List Str) (R : Str → List Str) : Int := total ws fun w => ((R w).length : Int)
theorem Wf.put {ls : List (Lk Str)} {ws : List Str} {R : Str → List Str} (h : Wf ls ws R) {l : Lk Str} {w : Str} (hl : l ∈ ls) (hlw : l.2.1 ∈ ws) (h1 : l.1 ∈ R w) (h2 : l.2.1 ∉ R w) (hw : w ∈ ws) : Wf ls ws (putR R w l.2.1) := by
  refine ⟨fun v m => ?_, fun v m => ?_, fun v m x hx => ?_⟩
  · unfold putR
    by_cases e : v = w
    · rw [if_pos e, e, List.nodup_append]
      refine ⟨h.nd w hw, nd1 _, fun a ma b mb ee => ?_⟩
      rw [List.mem_singleton] at mb
      rw [ee, mb] at ma
      exact h2 ma
    · rw [if_neg e]; exact h.nd v m
  · unfold putR
    by_cases e : v = w
    · rw [if_pos e]; exact List.mem_append_left _ (h.self v m)
    · rw [if_neg e]; exact h.self v m
  · unfold putR at hx
    by_cases e : v = w
    · rw [if_pos e] at hx
      rcases List.mem_append.mp hx with hx | hx
      · exact h.sub v m x hx
      · rw [List.mem_singleton] at hx
        rw [hx, e]
        exact ⟨hlw, .step (h.sub w hw _ h1).2 (show (l.1, l.2.1, l.2.2) ∈ ls from hl)⟩
    · rw [if_neg e] at hx
      exact h.sub v m x hx
theorem Wf.bound {ls : List (Lk Str)} {ws : List Str} {R : Str → List Str} (h : Wf ls ws R) : sz ws R ≤ (ws.length : Int) * (ws.length : Int) :=
  total_bound fun w m => by
    have := nodup_le (R w) ws (h.nd w m) fun x hx => (h.sub w m x hx).1
    omega
theorem sz_put {ws : List Str} {R : Str → List Str} {w x : Str} (hw : w ∈ ws) : sz ws R < sz ws (putR R w x) := by
  refine total_lt (fun v _ => ?_) hw ?_
  · unfold putR
    split
    · rw [List.length_append]; omega
    · exact Int.le_refl _
  · unfold putR
    rw [if_pos rfl, List.length_append, List.length_singleton]
    omega
def ClR (R : Str → List Str) (l : Lk Str) (w : Str) : Prop := l.1 ∈ R w → l.2.1 ∈ R w
theorem Wf.full {ls : List (Lk Str)} {ws : List Str} {R : Str → List Str} (h : Wf ls ws R) (c : ∀ l ∈ ls, ∀ w ∈ ws, ClR R l w) {w : Str} (hw : w ∈ ws) (x : Str) : x ∈ R w ↔ Rch ls w x :=
  ⟨fun m => (h.sub w hw x m).2, fun r => Rch.closed (S := fun y => y ∈ R w) (h.self w hw) (fun b d e m hb => c _ m w hw hb) r⟩
/-- one sweep: the links before i, and of link i the words before j -/
structure SwR (ws : List Str) (R0 R : Str → List Str) (d1 : List (Lk Str)) (l : Option (Lk Str)) (d2 : List Str) (ch : Bool) : Prop where
  yes : ch = true → sz ws R0 < sz ws R
  no : ch = false → R = R0 ∧ (∀ l ∈ d1, ∀ w ∈ ws, ClR R0 l w) ∧ ∀ l', l = some l' → ∀ w ∈ d2, ClR R0 l' w
theorem SwR.old {ws : List Str} {R0 R : Str → List Str} {d1 : List (Lk Str)} {l : Lk Str} {d2 : List Str} {ch : Bool} {w : Str} (s : SwR ws R0 R d1 (some l) d2 ch) (h : ClR R l w) : SwR ws R0 R d1 (some l) (d2 ++ [w]) ch := by
  refine ⟨s.yes, fun e => ?_⟩
  obtain ⟨rfl, a, b⟩ := s.no e
  refine ⟨rfl, a, fun l' e' v m => ?_⟩
  rcases List.mem_append.mp m with m | m
  · exact b l' e' v m
  · rw [List.mem_singleton] at m
    rw [m]
    cases e'
    exact h
theorem SwR.new {ws : List Str} {R0 R : Str → List Str} {d1 : List (Lk Str)} {l : Lk Str} {d2 : List Str} {ch : Bool} {w x : Str} (s : SwR ws R0 R d1 (some l) d2 ch) (hw : w ∈ ws) : SwR ws R0 (putR R w x) d1 (some l) (d2 ++ [w]) true := by
  refine ⟨fun _ => ?_, nofun⟩
  have h2 := sz_put (R := R) (x := x) hw
  cases ch with
  | true => exact Int.lt_trans (s.yes rfl) h2
  | false => rw [(s.no rfl).1] at h2 ⊢; exact h2
theorem SwR.link {ws : List Str} {R0 R : Str → List Str} {d1 : List (Lk Str)} {l : Lk Str} {ch : Bool} (s : SwR ws R0 R d1 (some l) ws ch) : SwR ws R0 R (d1 ++ [l]) none [] ch := by
  refine ⟨s.yes, fun e => ?_⟩
  obtain ⟨a, b, c⟩ := s.no e
  refine ⟨a, fun l' m => ?_, nofun⟩
  rcases List.mem_append.mp m with m | m
  · exact b l' m
  · rw [List.mem_singleton] at m
    rw [m]; exact c l rfl
theorem SwR.begin {ws : List Str} {R0 R : Str → List Str} {d1 : List (Lk Str)} {l : Lk Str} {ch : Bool} (s : SwR ws R0 R d1 none [] ch) : SwR ws R0 R d1 (some l) [] ch :=
  ⟨s.yes, fun e => ⟨(s.no e).1, (s.no e).2.1, fun _ _ _ m => nomatch m⟩⟩
/-! ### the heap -/
/-- the dict of the reach, each word's list its own -/
structure RH (ws : List Str) (H0 H : Hp) (pd : Addr) (fr : Str → Addr) (R : Str → List Str) : Prop where
  same : Same H0 H
  nd : H0 pd = none
  nf : ∀ w ∈ ws, H0 (fr w) = none
  dict : H pd = some (.dK (dmap kW ws fun w => .ref (fr w)))
  lst : ∀ w ∈ ws, H (fr w) = some (.lst ((R w).map V.str))
  inj : ∀ w ∈ ws, ∀ v ∈ ws, fr w = fr v → w = v
theorem RH.put {ws : List Str} {H0 H : Hp} {pd : Addr} {fr : Str → Addr} {R : Str → List Str} (h : RH ws H0 H pd fr R) {w x : Str} (hw : w ∈ ws) : RH ws H0 (upd H (fr w) (.lst ((R w).map V.str ++ [V.str x]))) pd fr (putR R w x) := by
  refine ⟨same_new h.same (h.nf w hw), h.nd, h.nf, upd_at h.dict (ne_of_some h.dict (h.lst w hw) fun z => nomatch z), fun v m => ?_, h.inj⟩
  unfold putR
  by_cases e : v = w
  · rw [e, upd_same, if_pos rfl, List.map_append]
    rfl
  · rw [if_neg e]
    exact upd_at (h.lst v m) fun z => e (h.inj v m w hw z)
theorem dget_w {H : Hp} {d : Addr} {ks : List Str} {f : Str → V} (h : H d = some (.dK (dmap kW ks f))) {x : Str} (hx : x ∈ ks) : DGet H d (.str x) (some (f x)) := by
  have := (valV_dmap kW_inj f x ks).trans (if_pos hx)
  rw [← this]
  exact dget_of (.inl h) x
section
variable {P : Program} {w : World} {K : PySem.W.Frag} {mg : Str → Option Value} {base : Heap} {C M N : Addr}
abbrev nLReach : List Str := ["_law_words", "_law_links_here", "_law_reach_here", "_law_word", "_law_growing", "_law_link"]
theorem sc_lreach : FnScope nLReach ["_law_words", "_law_links_here"] (defScope s_law_reach) := ⟨rfl, rfl, rfl, by decide +kernel, rfl, by decide +kernel, by decide +kernel⟩
def spLReach : Sp := fun vs H Q _ => ∃ (pw pl : Addr) (ws : List Str) (acc : List V) (lk : List Ll), vs = [.ref pw, .ref pl] ∧ H pw = some (.lst (ws.map V.str)) ∧ H pl = some (.lst acc) ∧ LnksV H acc lk ∧ (∀ l ∈ lk, l.1.1 ∈ ws ∧ l.1.2.1 ∈ ws) ∧ ws.Nodup ∧ ws.length ≤ 7 ∧
  ∀ H' (pd : Addr) (fr : Str → Addr) (R : Str → List Str), Same H H' → H' pd = some (.dK (dmap kW ws fun w => .ref (fr w))) → (∀ w ∈ ws, H' (fr w) = some (.lst ((R w).map V.str)) ∧ (R w).Nodup ∧ (∀ x, x ∈ R w ↔ Rch (lk.map (·.1)) w x)) → Q (.ref pd) H'
theorem law_reach_ok (T : Tx K mg w C M N) : Cal P w K mg base 1 "_law_reach" ["_law_words", "_law_links_here"] spLReach := by
  refine T.d_law_reach.cal sc_lreach (fun vs H Q E h => ?_) (fun f cdv A outer s H vs Q E hr h => ?_)
  · obtain ⟨pw, pl, ws, acc, lk, rfl, _⟩ := h
    rfl
  · obtain ⟨pw, pl, ws, acc, lk, rfl, hpw, hpl, hacc, hin, hnd, h7, q⟩ := h
    refine ⟨_, pss_cons (ps_set (i := 2) sc_lreach.nd rfl (.inl rfl) pe_dnewK)
      (pss_cons (ps_for PassesOwn.never rfl (pi_list (pv 0)) (pg_name (i := 3) sc_lreach.nd rfl (.inl rfl))
        (pss_one (ps_dput (u1 hr) (pv 2) (pv 3) (pe_lst (pa_cons (pv 3) pa_nil)) rfl)))
      (pss_cons (ps_set (i := 4) sc_lreach.nd rfl (.inl rfl) pe_bl)
      (pss_cons (ps_while PassesOwn.never (pt_val (pv 4))
        (pss_cons (ps_set (i := 4) sc_lreach.nd rfl (.inl rfl) pe_bl)
        (pss_one (ps_for PassesOwn.never rfl (pi_list (pv 1)) (pg_name (i := 5) sc_lreach.nd rfl (.inl rfl))
          (pss_one (ps_for PassesOwn.never rfl (pi_list (pv 0)) (pg_name (i := 3) sc_lreach.nd rfl (.inl rfl))
            (pss_one (ps_if (pw_and (pt_cmpR op_in_seq (pe_ix ix_tup (pv 5) pe_int (fun _ _ => rfl)) (pe_dget (u1 hr) (pv 2) (pv 3) (fun _ _ => rfl)) rfl)
                (pw_and1 (pt_cmpR op_notIn_seq (pe_ix ix_tup (pv 5) pe_int (fun _ _ => rfl)) (pe_dget (u1 hr) (pv 2) (pv 3) (fun _ _ => rfl)) rfl))).pt
              (pss_cons (ps_expr (pe_bm PySem.F.plainAttrs_list PySem.F.slot_list_append PySem.F.type_list_append mt_append (pe_dget (u1 hr) (pv 2) (pv 3) (fun _ _ => rfl)) (pa_cons (pe_ix ix_tup (pv 5) pe_int (fun _ _ => rfl)) pa_nil)))
              (pss_one (ps_set (i := 4) sc_lreach.nd rfl (.inl rfl) pe_bl))) pss_nil))))))))
      (pss_one (ps_ret (pv 2)))))), ?_⟩
    intro pd npd
    have hgw : ∀ i, i < ws.length → (ws.map V.str)[i]? = some (.str (ws.getD i "")) ∧ ws[i]? = some (ws.getD i "") ∧ ws.getD i "" ∈ ws := fun i hi => by
      have e : ws.getD i "" = ws[i] := by simp [List.getD, hi]
      rw [e]
      exact ⟨get_strs hi, List.getElem?_eq_getElem hi, List.getElem_mem hi⟩
    have s0 := same_upd (o := .dK []) npd
    refine ⟨_, rfl, pw, rfl, ⟨_, SqL.of (s0 _ _ hpw)⟩, ?_⟩
    refine for_it (n := ws.length) (fun i σ H' => ∃ z3 fr, σ = [some (V.ref pw), some (.ref pl), some (.ref pd), z3, none, none] ∧ Same H H' ∧ H' pd = some (.dK (dmap kW (ws.take i) fun w => .ref (fr w))) ∧
        (∀ x ∈ ws.take i, H (fr x) = none ∧ H' (fr x) = some (.lst [.str x])) ∧ ∀ x ∈ ws.take i, ∀ y ∈ ws.take i, fr x = fr y → x = y)
      ⟨none, fun _ => 0, rfl, s0, upd_same, fun _ m => (by rw [List.take_zero] at m; cases m), fun _ m => (by rw [List.take_zero] at m; cases m)⟩ (fun i σ H' hi h => ?_) (fun σ H' h => ?_) (fun i σ H' hi h x H3 hy => ?_) (fun σ H' h => ?_)
    · obtain ⟨_, _, _, s1, _⟩ := h
      exact go_l (SqL.of (s1 _ _ hpw)) (by rw [List.length_map]; exact hi)
    · obtain ⟨_, _, _, s1, _⟩ := h
      have := stop_l (K := K) (SqL.of (s1 _ _ hpw))
      rw [List.length_map] at this
      exact this
    · obtain ⟨z3, fr, rfl, s1, hd, hl, hinj⟩ := h
      obtain ⟨rfl, hx⟩ := yld_l (SqL.of (s1 _ _ hpw)) hy
      obtain ⟨g1, g2, g3⟩ := hgw i hi
      rw [g1] at hx
      generalize hyy : ws.getD i "" = y at *
      obtain rfl : V.str y = x := Option.some.inj hx
      have htk : ws.take (i + 1) = ws.take i ++ [y] := by rw [List.take_add_one, g2]; rfl
      have hnew : y ∉ ws.take i := fun m => by
        have nd : (ws.take (i + 1)).Nodup := hnd.sublist (List.take_sublist _ _)
        rw [htk, List.nodup_append] at nd
        exact nd.2.2 _ m _ (List.mem_singleton.mpr rfl) rfl
      refine ⟨_, rfl, by show 1 ≤ sizeLine; rw [sizeLine_eq]; decide, fun p np => ?_⟩
      have s2 := same_upd (o := .lst [.str y]) np
      have hp2 : upd H3 p (.lst [.str y]) p = some (.lst [.str y]) := upd_same
      refine ⟨_, rfl, _, rfl, pd, _, rfl, DPut.k (k := kW y) (s2 _ _ hd) (by rw [dmap_length, List.length_take, sizeLine_eq]; omega), ?_⟩
      rw [putK_dmap_new kW_inj hnew]
      have hpl2 : ∀ b xs, upd H3 p (.lst [.str y]) b = some (.lst xs) → b ≠ pd := fun b xs e => ne_of_some e (s2 _ _ hd) fun z => nomatch z
      have memx : ∀ v, v ∈ ws.take i ++ [y] → v = y ∨ (v ∈ ws.take i ∧ v ≠ y) := fun v m => by
        by_cases e : v = y
        · exact .inl e
        · rcases List.mem_append.mp m with m | m
          · exact .inr ⟨m, e⟩
          · rw [List.mem_singleton] at m; exact absurd m e
      refine ⟨_, fun v => if v = y then p else fr v, rfl, same_new (s1.trans s2) npd, ?_, fun v m => ?_, fun v m u m2 => ?_⟩
      · rw [upd_same, htk]
        congr 2
        exact dmap_congr fun v _ => by
          show (if v = y then V.ref p else V.ref (fr v)) = V.ref (if v = y then p else fr v)
          split <;> rfl
      · rw [htk] at m
        show H (if v = y then p else fr v) = none ∧ _ = _
        rcases memx v m with rfl | ⟨m, e⟩
        · refine ⟨by rw [if_pos rfl]; exact s1.free np, ?_⟩
          show upd _ pd _ (if v = v then p else fr v) = _
          rw [if_pos rfl]
          exact upd_at hp2 (hpl2 _ _ hp2)
        · obtain ⟨a, b⟩ := hl v m
          refine ⟨by rw [if_neg e]; exact a, ?_⟩
          show upd _ pd _ (if v = y then p else fr v) = _
          rw [if_neg e]
          exact upd_at (s2 _ _ b) (hpl2 _ _ (s2 _ _ b))
      · rw [htk] at m m2
        show (if v = y then p else fr v) = (if u = y then p else fr u) → _
        rcases memx v m with rfl | ⟨m1, e1⟩ <;> rcases memx u m2 with rfl | ⟨m3, e3⟩
        · exact fun _ => rfl
        · rw [if_pos rfl, if_neg e3]
          exact fun z => by have := (hl u m3).2; rw [← z, np] at this; cases this
        · rw [if_neg e1, if_pos rfl]
          exact fun z => by have := (hl v m1).2; rw [z, np] at this; cases this
        · rw [if_neg e1, if_neg e3]; exact hinj v m1 u m3
    obtain ⟨z3, fr, rfl, s1, hd, hl, hinj⟩ := h
    rw [List.take_length] at hd hl hinj
    have hRH : RH ws H H' pd fr (fun w => [w]) := ⟨s1, npd, fun w m => (hl w m).1, hd, fun w m => (hl w m).2, hinj⟩
    have hWf : Wf (lk.map (·.1)) ws (fun w => [w]) := ⟨fun w _ => nd1 w, fun w _ => List.mem_singleton.mpr rfl, fun w m x hx => by rw [List.mem_singleton] at hx; rw [hx]; exact ⟨m, .refl⟩⟩
    refine ⟨fun m σ H' => ∃ z3 z5 ch R, σ = [some (V.ref pw), some (.ref pl), some (.ref pd), z3, some (.bl ch), z5] ∧ RH ws H H' pd fr R ∧ Wf (lk.map (·.1)) ws R ∧ (ch = false → ∀ l ∈ lk.map (·.1), ∀ w ∈ ws, ClR R l w) ∧
        2 * ((ws.length : Int) * (ws.length : Int) - sz ws R).toNat + (if ch = true then 1 else 0) = m,
      ⟨_, z3, none, true, _, rfl, hRH, hWf, nofun, rfl⟩, fun m σ H1 h => ?_⟩
    clear hRH hWf s1 hd hl hinj s0
    obtain ⟨z3, z5, ch, R0, rfl, hRH, hWf, hcl, rfl⟩ := h
    refine ⟨_, rfl, ch, rfl, ite2 (fun hch => ?_) fun hch => ?_⟩
    · subst hch
      refine ⟨fun σ' H' => ∃ z3 z5 ch' R, σ' = [some (V.ref pw), some (.ref pl), some (.ref pd), z3, some (.bl ch'), z5] ∧ RH ws H H' pd fr R ∧ Wf (lk.map (·.1)) ws R ∧ (ch' = false → ∀ l ∈ lk.map (·.1), ∀ w ∈ ws, ClR R l w) ∧
          2 * ((ws.length : Int) * (ws.length : Int) - sz ws R).toNat + (if ch' = true then 1 else 0) < 2 * ((ws.length : Int) * (ws.length : Int) - sz ws R0).toNat + 1, fun σ' H' h => ?_, ?_⟩
      · obtain ⟨z3, z5, ch', R, rfl, a, b, c, d⟩ := h
        exact ⟨_, d, z3, z5, ch', R, rfl, a, b, c, rfl⟩
      refine ⟨_, rfl, pl, rfl, ⟨_, SqL.of (hRH.same _ _ hpl)⟩, ?_⟩
      refine for_it (n := acc.length) (fun i σ H' => ∃ z3 z5 ch R, σ = [some (V.ref pw), some (.ref pl), some (.ref pd), z3, some (.bl ch), z5] ∧ RH ws H H' pd fr R ∧ Wf (lk.map (·.1)) ws R ∧ SwR ws R0 R ((lk.map (·.1)).take i) none [] ch)
        ⟨z3, z5, false, R0, rfl, hRH, hWf, nofun, fun _ => ⟨rfl, fun _ m => (nomatch m), nofun⟩⟩ (fun i σ H' hi h => ?_) (fun σ H' h => ?_) (fun i σ H' hi h x H3 hy => ?_) (fun σ H' h => ?_)
      · obtain ⟨_, _, _, _, _, r, _⟩ := h
        exact go_l (SqL.of (r.same _ _ hpl)) hi
      · obtain ⟨_, _, _, _, _, r, _⟩ := h
        exact stop_l (SqL.of (r.same _ _ hpl))
      · obtain ⟨z3, z5, ch, R, rfl, hr1, hw1, hs1⟩ := h
        obtain ⟨rfl, hx⟩ := yld_l (SqL.of (hr1.same _ _ hpl)) hy
        obtain ⟨l, hli, t, rfl, ht⟩ := paired_get hacc hx
        have hlm : l ∈ lk := List.mem_of_getElem? hli
        obtain ⟨hh, hg⟩ := hin l hlm
        have hlm1 : l.1 ∈ lk.map (·.1) := List.mem_map.mpr ⟨l, hlm, rfl⟩
        have hli1 : (lk.map (·.1))[i]? = some l.1 := by rw [List.getElem?_map, hli]; rfl
        have htk1 : (lk.map (·.1)).take (i + 1) = (lk.map (·.1)).take i ++ [l.1] := by rw [List.take_add_one, hli1]; rfl
        refine ⟨_, rfl, pw, rfl, ⟨_, SqL.of (hr1.same _ _ hpw)⟩, ?_⟩
        refine for_it (n := ws.length) (fun j σ H' => ∃ z3 ch R, σ = [some (V.ref pw), some (.ref pl), some (.ref pd), z3, some (.bl ch), some (.ref t)] ∧ RH ws H H' pd fr R ∧ Wf (lk.map (·.1)) ws R ∧ SwR ws R0 R ((lk.map (·.1)).take i) (some l.1) (ws.take j) ch)
          ⟨z3, ch, R, rfl, hr1, hw1, hs1.begin⟩ (fun j σ H' hj h => ?_) (fun σ H' h => ?_) (fun j σ H' hj h x H5 hy => ?_) (fun σ H' h => ?_)
        · obtain ⟨_, _, _, _, r, _⟩ := h
          exact go_l (SqL.of (r.same _ _ hpw)) (by rw [List.length_map]; exact hj)
        · obtain ⟨_, _, _, _, r, _⟩ := h
          have := stop_l (K := K) (SqL.of (r.same _ _ hpw))
          rw [List.length_map] at this
          exact this
        · obtain ⟨z3, ch, R, rfl, hr2, hw2, hs2⟩ := h
          obtain ⟨rfl, hx2⟩ := yld_l (SqL.of (hr2.same _ _ hpw)) hy
          obtain ⟨g1, g2, g3⟩ := hgw j hj
          rw [g1] at hx2
          generalize hyy : ws.getD j "" = y at *
          obtain rfl : V.str y = x := Option.some.inj hx2
          have htk : ws.take (j + 1) = ws.take j ++ [y] := by rw [List.take_add_one, g2]; rfl
          have ht2 := hr2.same _ _ ht
          have hly := hr2.lst y g3
          have hdy := dget_w hr2.dict g3
          refine ⟨_, rfl, t, _, 0, _, rfl, rfl, .inl (.inl ht2), rfl, _, rfl, _, rfl, pd, _, rfl, hdy, fr y, _, rfl, .inl (SqL.of hly), rfl, flat_strs _, _, rfl, ?_⟩
          show (if (if false = true then !inV (.str l.1.1) ((R y).map V.str) else inV (.str l.1.1) ((R y).map V.str)) = true then _ else _)
          rw [if_neg Bool.false_ne_true, inV_str]
          refine ite2 (fun z1 => ?_) fun z1 => ?_
          · have hm1 : l.1.1 ∈ R y := of_decide_eq_true z1
            refine ⟨_, rfl, t, _, 1, _, rfl, rfl, .inl (.inl ht2), rfl, _, rfl, _, rfl, pd, _, rfl, hdy, fr y, _, rfl, .inl (SqL.of hly), rfl, flat_strs _, _, rfl, ?_⟩
            show (if (if true = true then !inV (.str l.1.2.1) ((R y).map V.str) else inV (.str l.1.2.1) ((R y).map V.str)) = true then _ else _)
            rw [if_pos rfl, inV_str]
            refine ite2 (fun z2 => ?_) fun z2 => ?_
            · have hm2 : l.1.2.1 ∉ R y := by simpa using z2
              have hrl : (R y).length ≤ ws.length := nodup_le _ _ (hw2.nd y g3) fun x hx => (hw2.sub y g3 x hx).1
              refine ⟨_, rfl, _, rfl, pd, _, rfl, hdy, .inl ⟨rfl, _, SqL.of hly⟩, _, rfl, t, _, 1, _, rfl, rfl, .inl (.inl ht2), rfl, fr y, _, _, rfl, rfl, hly, by rw [List.length_map, sizeLine_eq]; omega, ?_⟩
              exact ⟨_, true, putR R y l.1.2.1, rfl, hr2.put g3, hw2.put hlm1 hg hm1 hm2 g3, by rw [htk]; exact hs2.new g3⟩
            · have hm2 : l.1.2.1 ∈ R y := by simpa using z2
              exact ⟨_, ch, R, rfl, hr2, hw2, by rw [htk]; exact hs2.old fun _ => hm2⟩
          · have hm1 : l.1.1 ∉ R y := fun m => z1 (decide_eq_true m)
            exact ⟨_, ch, R, rfl, hr2, hw2, by rw [htk]; exact hs2.old fun m => absurd m hm1⟩
        · obtain ⟨z3, ch, R, rfl, hr2, hw2, hs2⟩ := h
          rw [List.take_length] at hs2
          exact ⟨_, _, ch, R, rfl, hr2, hw2, by rw [htk1]; exact hs2.link⟩
      · obtain ⟨z3, z5, ch, R, rfl, hr1, hw1, hs1⟩ := h
        have hll : acc.length = (lk.map (·.1)).length := by rw [List.length_map]; exact Paired.length hacc
        rw [hll, List.take_length] at hs1
        refine ⟨z3, z5, ch, R, rfl, hr1, hw1, fun e => ?_, ?_⟩
        · obtain ⟨e1, e2, _⟩ := hs1.no e
          rw [e1]; exact e2
        · cases ch with
          | true =>
            have h1 := hs1.yes rfl
            have h2 := hw1.bound
            simp only [if_true]
            omega
          | false =>
            obtain ⟨e1, _⟩ := hs1.no rfl
            rw [e1]
            simp
    · have hcf : ch = false := by simpa using hch
      exact ⟨_, rfl, q _ pd fr R0 hRH.same hRH.dict fun w m => ⟨hRH.lst w m, hWf.nd w m, hWf.full (hcl hcf) m⟩⟩
end
end G3

/-! Walks of the law: its layers, what is due. -/
namespace G3
open PySem PySem.Spec PyProof.Rows L2
section
variable {P : Program} {w : World} {K : PySem.W.Frag} {mg : Str → Option Value} {base : Heap} {C M N : Addr}
abbrev nLLay : List Str := ["_law_words", "_law_links_here", "_law_layers_here", "_law_word", "_law_turn", "_law_link"]
theorem sc_llay : FnScope nLLay ["_law_words", "_law_links_here"] (defScope s_law_layers) := ⟨rfl, rfl, rfl, by decide +kernel, rfl, by decide +kernel, by decide +kernel⟩
def spLLay : Sp := fun vs H Q _ => ∃ (pw pl : Addr) (ws : List Str) (acc : List V) (lk : List Ll), vs = [.ref pw, .ref pl] ∧ H pw = some (.lst (ws.map V.str)) ∧ H pl = some (.lst acc) ∧ LnksV H acc lk ∧ (∀ l ∈ lk, l.1.1 ∈ ws ∧ l.1.2.1 ∈ ws) ∧ ws.Nodup ∧ ws.length ≤ 7 ∧
  (∀ h g, (h, g, true) ∈ lk.map (·.1) → ¬ Rch (lk.map (·.1)) g h) ∧
  ∀ H' (D : Addr) (f : Str → Int), Same H H' → H' D = some (.dK (dmap kW ws fun w => .int (f w))) → Below (lk.map (·.1)) f → Valid (lk.map (·.1)) f → Q (.ref D) H'
theorem law_layers_ok (T : Tx K mg w C M N) : Cal P w K mg base 1 "_law_layers" ["_law_words", "_law_links_here"] spLLay := by
  refine T.d_law_layers.cal sc_llay (fun vs H Q E h => ?_) (fun f cdv A outer s H vs Q E hr h => ?_)
  · obtain ⟨pw, pl, ws, acc, lk, rfl, _⟩ := h
    rfl
  · obtain ⟨pw, pl, ws, acc, lk, rfl, hpw, hpl, hacc, hin, hnd, h7, hnr, q⟩ := h
    refine ⟨_, pss_cons (ps_set (i := 2) sc_llay.nd rfl (.inl rfl) pe_dnewK)
      (pss_cons (ps_for PassesOwn.never rfl (pi_list (pv 0)) (pg_name (i := 3) sc_llay.nd rfl (.inl rfl)) (pss_one (ps_dput (u1 hr) (pv 2) (pv 3) pe_int rfl)))
      (pss_cons (ps_for PassesOwn.never rfl (pi_range1 (by rfl) T.n_range (pa_cons (pe_op op_mul (pe_callB call_len_seq (by rfl) T.n_len (by decide +kernel) (pa_cons (pv 0) pa_nil)) (pe_callB call_len_seq (by rfl) T.n_len (by decide +kernel) (pa_cons (pv 0) pa_nil))) pa_nil)) (pg_name (i := 4) sc_llay.nd rfl (.inl rfl))
        (pss_one (ps_for PassesOwn.never rfl (pi_list (pv 1)) (pg_name (i := 5) sc_llay.nd rfl (.inl rfl))
          (pss_one (ps_dput (u1 hr) (pv 2) (pe_ix ix_tup (pv 5) pe_int (fun _ _ => rfl)) (pe_callB (call_max2 rfl) (by rfl) T.n_max (by decide +kernel) (pa_cons (pe_dget (u1 hr) (pv 2) (pe_ix ix_tup (pv 5) pe_int (fun _ _ => rfl)) (fun _ _ => rfl))
            (pa_cons (pe_op op_add (pe_dget (u1 hr) (pv 2) (pe_ix ix_tup (pv 5) pe_int (fun _ _ => rfl)) (fun _ _ => rfl)) (pe_callTy call_int1 (by rfl) T.n_int (by decide +kernel) (pa_cons (pe_ix ix_tup (pv 5) pe_int (fun _ _ => rfl)) pa_nil))) pa_nil))) rfl)))))
      (pss_one (ps_ret (pv 2))))), ?_⟩
    intro D nD
    have hin' : ∀ h g b, (h, g, b) ∈ lk.map (·.1) → h ∈ ws ∧ g ∈ ws := fun h g b m => by
      obtain ⟨l, ml, e⟩ := List.mem_map.mp m
      have := hin l ml
      rw [e] at this
      exact this
    obtain ⟨Lv, L0, LV, Lb⟩ := layered (ws := ws) hnr hin'
    have hgw : ∀ i, i < ws.length → ∃ y, (ws.map V.str)[i]? = some (.str y) ∧ ws[i]? = some y ∧ y ∈ ws := fun i hi => ⟨ws[i], get_strs hi, List.getElem?_eq_getElem hi, List.getElem_mem hi⟩
    have s0 := same_upd (o := .dK []) nD
    refine ⟨_, rfl, pw, rfl, ⟨_, SqL.of (s0 _ _ hpw)⟩, ?_⟩
    refine for_it (n := ws.length) (fun i σ H' => ∃ z3, σ = [some (V.ref pw), some (.ref pl), some (.ref D), z3, none, none] ∧ Same H H' ∧ H' D = some (.dK (dmap kW (ws.take i) fun _ => .int 0)))
      ⟨none, rfl, s0, upd_same⟩ (fun i σ H' hi h => ?_) (fun σ H' h => ?_) (fun i σ H' hi h x H3 hy => ?_) (fun σ H' h => ?_)
    · obtain ⟨_, _, s1, _⟩ := h
      exact go_l (SqL.of (s1 _ _ hpw)) (by rw [List.length_map]; exact hi)
    · obtain ⟨_, _, s1, _⟩ := h
      have := stop_l (K := K) (SqL.of (s1 _ _ hpw))
      rw [List.length_map] at this
      exact this
    · obtain ⟨z3, rfl, s1, hd⟩ := h
      obtain ⟨rfl, hx⟩ := yld_l (SqL.of (s1 _ _ hpw)) hy
      obtain ⟨y, g1, g2, g3⟩ := hgw i hi
      rw [g1] at hx
      obtain rfl : V.str y = x := Option.some.inj hx
      have htk : ws.take (i + 1) = ws.take i ++ [y] := by rw [List.take_add_one, g2]; rfl
      have hnew : y ∉ ws.take i := fun m => by
        have nd : (ws.take (i + 1)).Nodup := hnd.sublist (List.take_sublist _ _)
        rw [htk, List.nodup_append] at nd
        exact nd.2.2 _ m _ (List.mem_singleton.mpr rfl) rfl
      refine ⟨_, rfl, _, rfl, D, _, rfl, DPut.k (k := kW y) hd (by rw [dmap_length, List.length_take, sizeLine_eq]; omega), ?_⟩
      rw [putK_dmap_new kW_inj hnew]
      refine ⟨_, rfl, same_new s1 nD, ?_⟩
      rw [upd_same, htk]
      congr 2
      exact dmap_congr fun v _ => by split <;> rfl
    obtain ⟨z3, rfl, s1, hd⟩ := h
    rw [List.take_length] at hd
    have hml : (ws.map V.str).length = ws.length := List.length_map _
    refine ⟨_, rfl, pw, _, rfl, .inl (SqL.of (s1 _ _ hpw)), _, rfl, pw, _, rfl, .inl (SqL.of (s1 _ _ hpw)), _, _, rfl, rfl, .inl ⟨by omega, by omega⟩, ?_⟩
    have hsq : ((ws.map V.str).length : Int) * ((ws.map V.str).length : Int) = ((ws.length * ws.length : Nat) : Int) := by rw [hml, Int.natCast_mul]
    have hsq2 : ws.length * ws.length ≤ 49 := Nat.mul_le_mul h7 h7
    refine ⟨_, rfl, by rw [hsq]; omega, by rw [hsq]; omega, ?_⟩
    rw [hsq]
    refine for_range (lo := 0) (n := ((ws.length * ws.length : Nat) : Int).toNat) (fun k σ H' => ∃ z4 z5 f, σ = [some (V.ref pw), some (.ref pl), some (.ref D), z3, z4, z5] ∧ Same H H' ∧ H' D = some (.dK (dmap kW ws fun w => .int (f w))) ∧ Below (lk.map (·.1)) f ∧ (Valid (lk.map (·.1)) f ∨ (k : Int) ≤ total ws f))
      ⟨none, none, fun _ => 0, rfl, s1, hd, Below.zero _, .inr (total_nn fun _ => Int.le_refl _)⟩ (fun k σ H' hk h => ?_) (fun σ H' h => ?_)
    · obtain ⟨z4, z5, f0, rfl, s2, hd2, hb2, hv2⟩ := h
      refine ⟨_, rfl, pl, rfl, ⟨_, SqL.of (s2 _ _ hpl)⟩, ?_⟩
      refine for_it (n := acc.length) (fun i σ H' => ∃ z5 f ch, σ = [some (V.ref pw), some (.ref pl), some (.ref D), z3, some (.int (0 + (k : Int))), z5] ∧ Same H H' ∧ H' D = some (.dK (dmap kW ws fun w => .int (f w))) ∧ Below (lk.map (·.1)) f ∧ Swp ws f0 f ((lk.map (·.1)).take i) ch)
        ⟨_, f0, false, rfl, s2, hd2, hb2, Swp.start ws f0⟩ (fun i σ H' hi h => ?_) (fun σ H' h => ?_) (fun i σ H' hi h x H3 hy => ?_) (fun σ H' h => ?_)
      · obtain ⟨_, _, _, _, s3, _⟩ := h
        exact go_l (SqL.of (s3 _ _ hpl)) hi
      · obtain ⟨_, _, _, _, s3, _⟩ := h
        exact stop_l (SqL.of (s3 _ _ hpl))
      · obtain ⟨z5, f1, ch, rfl, s3, hd3, hb3, hs3⟩ := h
        obtain ⟨rfl, hx⟩ := yld_l (SqL.of (s3 _ _ hpl)) hy
        obtain ⟨l, hli, t, rfl, ht⟩ := paired_get hacc hx
        have hlm : l ∈ lk := List.mem_of_getElem? hli
        obtain ⟨hh, hg⟩ := hin l hlm
        have hlm1 : l.1 ∈ lk.map (·.1) := List.mem_map.mpr ⟨l, hlm, rfl⟩
        have hli1 : (lk.map (·.1))[i]? = some l.1 := by rw [List.getElem?_map, hli]; rfl
        have htk1 : (lk.map (·.1)).take (i + 1) = (lk.map (·.1)).take i ++ [l.1] := by rw [List.take_add_one, hli1]; rfl
        have ht3 := s3 _ _ ht
        have hd1 := dget_w (f := fun w => .int (f1 w)) hd3 hh
        have hd4 := dget_w (f := fun w => .int (f1 w)) hd3 hg
        refine ⟨_, rfl, _, rfl, t, _, 0, _, rfl, rfl, .inl (.inl ht3), rfl, D, _, rfl, hd1, _, rfl, _, rfl, t, _, 1, _, rfl, rfl, .inl (.inl ht3), rfl, D, _, rfl, hd4, _, rfl, t, _, 2, _, rfl, rfl, .inl (.inl ht3), rfl, .inr ⟨_, rfl, _, _, rfl, rfl, _, _, rfl, ?_⟩⟩
        refine ⟨_, rfl, _, rfl, t, _, 0, _, rfl, rfl, .inl (.inl ht3), rfl, D, _, rfl, DPut.k (k := kW l.1.1) hd3 (by rw [dmap_length, sizeLine_eq]; omega), ?_⟩
        rw [putK_dmap_old kW_inj hh]
        refine ⟨_, up1 f1 l.1, _, rfl, same_new s3 nD, ?_, hb3.up hlm1, by rw [htk1]; exact hs3.next hh⟩
        rw [upd_same, up1_max]
        congr 2
        refine dmap_congr fun v _ => ?_
        show (if v = l.1.1 then V.int (if f1 l.1.2.1 + b2 l.1.2.2 > f1 l.1.1 then f1 l.1.2.1 + b2 l.1.2.2 else f1 l.1.1) else V.int (f1 v)) = V.int (put f1 l.1.1 _ v)
        unfold put
        split <;> rfl
      · obtain ⟨z5, f1, ch, rfl, s3, hd3, hb3, hs3⟩ := h
        have hll : acc.length = (lk.map (·.1)).length := by rw [List.length_map]; exact Paired.length hacc
        rw [hll, List.take_length] at hs3
        refine ⟨_, _, f1, rfl, s3, hd3, hb3, ?_⟩
        rcases hv2 with hv2 | hv2
        · refine .inl ?_
          have e : f1 = f0 := by
            funext x
            exact Int.le_antisymm (hb3.le f0 hb2.nn hv2 x) (hs3.ge x)
          rw [e]; exact hv2
        · cases ch with
          | true =>
            refine .inr ?_
            have := hs3.yes rfl
            omega
          | false =>
            obtain ⟨e, v⟩ := hs3.no rfl
            rw [e]
            exact .inl v
    · obtain ⟨z4, z5, f0, rfl, s2, hd2, hb2, hv2⟩ := h
      refine ⟨_, rfl, q _ D f0 s2 hd2 hb2 ?_⟩
      rcases hv2 with hv2 | hv2
      · exact hv2
      · have h1 : total ws f0 ≤ (ws.length : Int) * ((ws.length : Int) - 1) := total_bound fun x m => Int.le_trans (hb2.le Lv L0 LV x) (Lb x m)
        have e1 : ((((ws.length * ws.length : Nat) : Int).toNat : Nat) : Int) = (ws.length : Int) * (ws.length : Int) := by
          rw [Int.toNat_natCast, Int.natCast_mul]
        rw [e1] at hv2
        have e2 : (ws.length : Int) * ((ws.length : Int) - 1) = (ws.length : Int) * (ws.length : Int) - (ws.length : Int) := by
          rw [Int.mul_sub, Int.mul_one]
        rw [e2] at h1
        have h0 : ws.length = 0 := by omega
        have hws : ws = [] := List.length_eq_zero_iff.mp h0
        intro a g b m
        have := (hin' a g b m).1
        rw [hws] at this
        cases this
end
end G3

/-! Walks of the law: what is due. -/
namespace G3
open PySem PySem.Spec PyProof.Rows L2
/-- the links on rings -/
noncomputable def onR (ls : List (Lk Str)) (l : Ll) : Bool := rchB ls l.1.2.1 l.1.1
noncomputable def ringL (lk : List Ll) : List Ll := lk.filter (onR (lk.map (·.1)))
def apartL (tb : Str → Bool) (l : Ll) : Bool := tb l.1.1 != tb l.1.2.1
def notL (l : Ll) : Bool := l.1.2.2
section
variable {P : Program} {w : World} {K : PySem.W.Frag} {mg : Str → Option Value} {base : Heap} {C M N : Addr}
abbrev nLDue : List Str := ["_law_rows", "_law_links_here", "_law_reach_here", "_law_marks", "_law_link", "_law_rings", "_law_row"]
theorem sc_ldue : FnScope nLDue ["_law_rows", "_law_links_here", "_law_reach_here"] (defScope s_law_due) := ⟨rfl, rfl, rfl, by decide +kernel, rfl, by decide +kernel, by decide +kernel⟩
def spLDue : Sp := fun vs H Q _ => ∃ (pr pl pd : Addr) (rvs acc : List V) (rows : List Row) (lk : List Ll) (ws : List Str) (fr : Str → Addr) (R : Str → List Str), vs = [.ref pr, .ref pl, .ref pd] ∧ H pr = some (.lst rvs) ∧ RowsV H rvs rows ∧ rows.length ≤ 1000 ∧
  H pl = some (.lst acc) ∧ LnksV H acc lk ∧ lk.length ≤ 1000 ∧ (∀ l ∈ lk, l.1.1 ∈ ws ∧ l.1.2.1 ∈ ws) ∧
  H pd = some (.dK (dmap kW ws fun w => .ref (fr w))) ∧ (∀ w ∈ ws, H (fr w) = some (.lst ((R w).map V.str)) ∧ (∀ x, x ∈ R w ↔ Rch (lk.map (·.1)) w x)) ∧
  (∀ l, (ringL lk).find? (apartL (tabB rows)) = some l → ∀ H' (D : Addr), Same H H' → H' D = some (.lst [.str "mixed", .int (l.2 : Int)]) → Q (.ref D) H') ∧
  (∀ l, (ringL lk).find? (apartL (tabB rows)) = none → (ringL lk).find? notL = some l → ∀ H' (D : Addr), Same H H' → H' D = some (.lst [.str "notring", .int (l.2 : Int)]) → Q (.ref D) H') ∧
  ((ringL lk).find? (apartL (tabB rows)) = none → (ringL lk).find? notL = none → ∀ H' (D : Addr), Same H H' → H' D = some (.lst [.str "let by"]) → Q (.ref D) H')
theorem law_due_ok (T : Tx K mg w C M N) : Cal P w K mg base 1 "_law_due" ["_law_rows", "_law_links_here", "_law_reach_here"] spLDue := by
  refine T.d_law_due.cal sc_ldue (fun vs H Q E h => ?_) (fun f cdv A outer s H vs Q E hr h => ?_)
  · obtain ⟨pr, pl, pd, rvs, acc, rows, lk, ws, fr, R, rfl, _⟩ := h
    rfl
  · obtain ⟨pr, pl, pd, rvs, acc, rows, lk, ws, fr, R, rfl, hpr, hrv, hrl, hpl, hacc, hlk, hin, hpd, hR, q1, q2, q3⟩ := h
    refine ⟨_, pss_cons (ps_setLc (i := 3) (own := [("_law_row", 6)]) (g := gName 6) (tt := tTest (tOp rEq (tOp (rIxT K) (tVar 6) (tC (.int 0))) (tC (.str "table")))) (te := tOp (rIxT K) (tVar 6) (tC (.int 1))) rfl sc_ldue.nd rfl rfl rfl (pi_list (pv 0)) (blkOk_by (N := nLDue) (sc := defScope s_law_due) (by decide +kernel))
        (fun _ _ _ _ _ => pg_name (i := 6) sc_ldue.nd rfl (.inl rfl) (.inr rfl)) (fun _ _ _ _ _ => pts_one (pt_cmpR op_eq (pe_ix ix_tup (pv 6) pe_int (fun _ _ => rfl)) pe_str (nomark _))) (fun _ _ _ _ _ => pe_ix ix_tup (pv 6) pe_int (fun _ _ => rfl)))
      (pss_cons (ps_setLc (i := 5) (own := [("_law_link", 4)]) (g := gName 4) (tt := tTest (tOp (rIn K false) (tOp (rIxT K) (tVar 4) (tC (.int 0))) (tDGet (tVar 2) (tOp (rIxT K) (tVar 4) (tC (.int 1)))))) rfl sc_ldue.nd rfl rfl rfl (pi_list (pv 1)) (blkOk_by (N := nLDue) (sc := defScope s_law_due) (by decide +kernel))
        (fun _ _ _ _ _ => pg_name (i := 4) sc_ldue.nd rfl (.inl rfl) (.inr rfl)) (fun _ _ _ _ _ => pts_one (pt_cmpR op_in_seq (pe_ix ix_tup (pv 4) pe_int (fun _ _ => rfl)) (pe_dget (u1 hr) (pv 2) (pe_ix ix_tup (pv 4) pe_int (fun _ _ => rfl)) (fun _ _ => rfl)) rfl)) (fun _ _ _ _ _ => pv 4))
      (pss_cons (ps_for PassesOwn.never rfl (pi_list (pv 5)) (pg_name (i := 4) sc_ldue.nd rfl (.inl rfl))
        (pss_one (ps_if (pt_cmpR op_ne (pe_cmpR op_in_seq (pe_ix ix_tup (pv 4) pe_int (fun _ _ => rfl)) (pv 3) rfl) (pe_cmpR op_in_seq (pe_ix ix_tup (pv 4) pe_int (fun _ _ => rfl)) (pv 3) rfl) (nomark _))
          (pss_one (ps_ret (pe_lst (pa_cons pe_str (pa_cons (pe_ix ix_tup (pv 4) pe_int (fun _ _ => rfl)) pa_nil))))) pss_nil)))
      (pss_cons (ps_for PassesOwn.never rfl (pi_list (pv 5)) (pg_name (i := 4) sc_ldue.nd rfl (.inl rfl))
        (pss_one (ps_if (pt_val (pe_ix ix_tup (pv 4) pe_int (fun _ _ => rfl))) (pss_one (ps_ret (pe_lst (pa_cons pe_str (pa_cons (pe_ix ix_tup (pv 4) pe_int (fun _ _ => rfl)) pa_nil))))) pss_nil)))
      (pss_one (ps_ret (pe_lst (pa_cons pe_str pa_nil))))))), ?_⟩
    have hrvl : rvs.length = rows.length := Paired.length hrv
    have hal : acc.length = lk.length := Paired.length hacc
    refine ⟨_, rfl, pr, rfl, ⟨_, SqL.of hpr⟩, fun D nD => ?_⟩
    refine lc_it (n := rvs.length) (fun i H' => Same H H' ∧ H' D = some (.lst ((tabs (rows.take i)).map V.str)) ∧ (tabs (rows.take i)).length ≤ i) ⟨same_upd nD, upd_same, Nat.le_refl _⟩
      (fun i H' hi h => go_l (SqL.of (h.1 _ _ hpr)) hi) (fun H' h => stop_l (SqL.of (h.1 _ _ hpr))) (fun i H' hi h x H3 hy => ?_) (fun H1 h => ?_)
    · obtain ⟨s1, hD, hti⟩ := h
      obtain ⟨rfl, hx⟩ := yld_l (SqL.of (s1 _ _ hpr)) hy
      obtain ⟨r, hri, hrV⟩ := paired_get hrv hx
      have htk : rows.take (i + 1) = rows.take i ++ [r] := by rw [List.take_add_one, hri]; rfl
      have htb : tabs (rows.take (i + 1)) = tabs (rows.take i) ++ tabs [r] := by rw [htk]; unfold tabs; rw [List.filterMap_append]
      cases r with
      | mode y =>
        obtain ⟨t, rfl, ht⟩ := hrV
        refine ⟨rfl, _, rfl, t, _, 0, _, rfl, rfl, .inl (.inl (s1 _ _ ht)), rfl, rfl, _, rfl, ?_⟩
        rw [k_mt]
        have e : tabs (rows.take (i + 1)) = tabs (rows.take i) := by rw [htb]; exact List.append_nil _
        refine iteF ⟨s1, by rw [e]; exact hD, by rw [e]; omega⟩
      | clause y gs =>
        obtain ⟨t, gt, gvs, rfl, ht, _⟩ := hrV
        refine ⟨rfl, _, rfl, t, _, 0, _, rfl, rfl, .inl (.inl (s1 _ _ ht)), rfl, rfl, _, rfl, ?_⟩
        rw [k_ct]
        have e : tabs (rows.take (i + 1)) = tabs (rows.take i) := by rw [htb]; exact List.append_nil _
        refine iteF ⟨s1, by rw [e]; exact hD, by rw [e]; omega⟩
      | table y =>
        obtain ⟨t, rfl, ht⟩ := hrV
        refine ⟨rfl, _, rfl, t, _, 0, _, rfl, rfl, .inl (.inl (s1 _ _ ht)), rfl, rfl, _, rfl, ?_⟩
        rw [k_tt]
        refine iteT ⟨_, rfl, t, _, 1, _, rfl, rfl, .inl (.inl (s1 _ _ ht)), rfl, _, hD, by rw [List.length_map, sizeLine_eq]; omega, same_new s1 nD, ?_, ?_⟩
        · rw [upd_same, htb, List.map_append]
          rfl
        · rw [htb, List.length_append]
          show _ + 1 ≤ _
          omega
    obtain ⟨s1, hD, _⟩ := h
    rw [hrvl, List.take_length] at hD
    refine ⟨_, rfl, pl, rfl, ⟨_, SqL.of (s1 _ _ hpl)⟩, fun D2 nD2 => ?_⟩
    have hacc1 := hacc.tk (TK.same s1)
    refine lc_it (n := acc.length) (fun i H' => Same H1 H' ∧ ∃ acc2, H' D2 = some (.lst acc2) ∧ LnksV H' acc2 ((lk.take i).filter (onR (lk.map (·.1)))) ∧ acc2.length ≤ i) ⟨same_upd nD2, [], upd_same, .nil, Nat.le_refl _⟩
      (fun i H' hi h => go_l (SqL.of (h.1 _ _ (s1 _ _ hpl))) hi) (fun H' h => stop_l (SqL.of (h.1 _ _ (s1 _ _ hpl)))) (fun i H' hi h x H3 hy => ?_) (fun H2 h => ?_)
    · obtain ⟨s2, acc2, hD2, ha2, hal2⟩ := h
      obtain ⟨rfl, hx⟩ := yld_l (SqL.of (s2 _ _ (s1 _ _ hpl))) hy
      obtain ⟨l, hli, t, rfl, ht⟩ := paired_get hacc1 hx
      have hlm : l ∈ lk := List.mem_of_getElem? hli
      obtain ⟨hh, hg⟩ := hin l hlm
      obtain ⟨hl1, hl2⟩ := hR _ hg
      have s12 := s1.trans s2
      have ht2 := s2 _ _ ht
      refine ⟨rfl, _, rfl, t, _, 0, _, rfl, rfl, .inl (.inl ht2), rfl, _, rfl, _, rfl, t, _, 1, _, rfl, rfl, .inl (.inl ht2), rfl, pd, _, rfl, dget_w (f := fun w => .ref (fr w)) (s12 _ _ hpd) hg, fr l.1.2.1, _, rfl, .inl (SqL.of (s12 _ _ hl1)), rfl, flat_strs _, _, rfl, ?_⟩
      show (if (if false = true then !inV (.str l.1.1) ((R l.1.2.1).map V.str) else inV (.str l.1.1) ((R l.1.2.1).map V.str)) = true then _ else _)
      rw [if_neg Bool.false_ne_true, inV_str]
      have hde : decide (l.1.1 ∈ R l.1.2.1) = onR (lk.map (·.1)) l := by
        unfold onR
        rw [Bool.eq_iff_iff, decide_eq_true_iff, rchB_iff]
        exact hl2 _
      rw [hde]
      have hsu : (lk.take (i + 1)).filter (onR (lk.map (·.1))) = (lk.take i).filter (onR (lk.map (·.1))) ++ (if onR (lk.map (·.1)) l = true then [l] else []) := by
        rw [List.take_add_one, hli, List.filter_append]
        congr 1
        by_cases z : onR (lk.map (·.1)) l = true
        · simp [z]
        · simp [z]
      refine ite2 (fun z => ?_) fun z => ?_
      · rw [if_pos z] at hsu
        refine ⟨_, rfl, acc2, hD2, by rw [sizeLine_eq]; omega, same_new s2 nD2, acc2 ++ [.ref t], upd_same, ?_, by rw [List.length_append, List.length_singleton]; omega⟩
        rw [hsu]
        have tkp : TK H3 (upd H3 D2 (.lst (acc2 ++ [.ref t]))) := TK.put hD2
        exact Paired.snoc (ha2.tk tkp) ⟨t, rfl, tkp _ _ ht2⟩
      · rw [if_neg z, List.append_nil] at hsu
        exact ⟨s2, acc2, hD2, by rw [hsu]; exact ha2, by omega⟩
    obtain ⟨s2, acc2, hD2, ha2, hal2⟩ := h
    rw [hal, List.take_length] at ha2
    have ha3 : LnksV H2 acc2 (ringL lk) := ha2
    have s12 := s1.trans s2
    have hDm := s2 _ _ hD
    have ha2l : acc2.length = (ringL lk).length := Paired.length ha3
    clear ha2 s1 s2 hacc1 hD
    refine ⟨_, rfl, D2, rfl, ⟨_, SqL.of hD2⟩, ?_⟩
    refine for_it (n := acc2.length) (fun i σ H' => ∃ z4, σ = [some (V.ref pr), some (.ref pl), some (.ref pd), some (.ref D), z4, some (.ref D2), none] ∧ H' = H2 ∧ ((ringL lk).take i).find? (apartL (tabB rows)) = none)
      ⟨none, rfl, rfl, rfl⟩ (fun i σ H' hi h => by obtain ⟨_, _, e, _⟩ := h; rw [e]; exact go_l (SqL.of hD2) hi) (fun σ H' h => by obtain ⟨_, _, e, _⟩ := h; rw [e]; exact stop_l (SqL.of hD2)) (fun i σ H' hi h x H3 hy => ?_) (fun σ H' h => ?_)
    · obtain ⟨z4, rfl, e, hfd⟩ := h
      subst e
      obtain ⟨rfl, hx⟩ := yld_l (SqL.of hD2) hy
      obtain ⟨l, hli, t, rfl, ht⟩ := paired_get ha3 hx
      refine ⟨_, rfl, t, _, 0, _, rfl, rfl, .inl (.inl ht), rfl, _, rfl, D, _, rfl, .inl (SqL.of hDm), rfl, flat_strs _, _, rfl, t, _, 1, _, rfl, rfl, .inl (.inl ht), rfl, _, rfl, D, _, rfl, .inl (SqL.of hDm), rfl, flat_strs _, rfl, _, rfl, ?_⟩
      show (if (!decide (V.bl (if false = true then !inV (.str l.1.1) ((tabs rows).map V.str) else inV (.str l.1.1) ((tabs rows).map V.str)) = V.bl (if false = true then !inV (.str l.1.2.1) ((tabs rows).map V.str) else inV (.str l.1.2.1) ((tabs rows).map V.str)))) = true then _ else _)
      rw [if_neg Bool.false_ne_true, if_neg Bool.false_ne_true, inV_str, inV_str]
      have e2 : (!decide (V.bl (decide (l.1.1 ∈ tabs rows)) = V.bl (decide (l.1.2.1 ∈ tabs rows)))) = apartL (tabB rows) l := by
        unfold apartL tabB
        cases decide (l.1.1 ∈ tabs rows) <;> cases decide (l.1.2.1 ∈ tabs rows) <;> rfl
      rw [e2]
      refine ite2 (fun z => ?_) fun z => ?_
      · refine ⟨_, rfl, t, _, 3, _, rfl, rfl, .inl (.inl ht), rfl, by show 2 ≤ sizeLine; rw [sizeLine_eq]; decide, fun p np => ?_⟩
        exact q1 l (find_at hfd hli z) _ p (s12.trans (same_upd np)) upd_same
      · exact ⟨_, rfl, rfl, find_next hfd hli (by simpa using z)⟩
    obtain ⟨z4, rfl, e, hfd1⟩ := h
    subst e
    rw [ha2l, List.take_length] at hfd1
    refine ⟨_, rfl, D2, rfl, ⟨_, SqL.of hD2⟩, ?_⟩
    refine for_it (n := acc2.length) (fun i σ H'' => ∃ z4, σ = [some (V.ref pr), some (.ref pl), some (.ref pd), some (.ref D), z4, some (.ref D2), none] ∧ H'' = H' ∧ ((ringL lk).take i).find? notL = none)
      ⟨z4, rfl, rfl, rfl⟩ (fun i σ H' hi h => by obtain ⟨_, _, e, _⟩ := h; rw [e]; exact go_l (SqL.of hD2) hi) (fun σ H' h => by obtain ⟨_, _, e, _⟩ := h; rw [e]; exact stop_l (SqL.of hD2)) (fun i σ H3 hi h x H4 hy => ?_) (fun σ H3 h => ?_)
    · obtain ⟨z4, rfl, e, hfd⟩ := h
      subst e
      obtain ⟨rfl, hx⟩ := yld_l (SqL.of hD2) hy
      obtain ⟨l, hli, t, rfl, ht⟩ := paired_get ha3 hx
      refine ⟨_, rfl, t, _, 2, _, rfl, rfl, .inl (.inl ht), rfl, _, rfl, ite2 (fun z => ?_) fun z => ?_⟩
      · refine ⟨_, rfl, t, _, 3, _, rfl, rfl, .inl (.inl ht), rfl, by show 2 ≤ sizeLine; rw [sizeLine_eq]; decide, fun p np => ?_⟩
        exact q2 l hfd1 (find_at hfd hli z) _ p (s12.trans (same_upd np)) upd_same
      · exact ⟨_, rfl, rfl, find_next hfd hli (by unfold notL; simpa using z)⟩
    · obtain ⟨z4, rfl, e, hfd⟩ := h
      subst e
      rw [ha2l, List.take_length] at hfd
      refine ⟨by show 1 ≤ sizeLine; rw [sizeLine_eq]; decide, fun p np => ?_⟩
      exact q3 hfd1 hfd _ p (s12.trans (same_upd np)) upd_same
end
end G3

/-! Walks of the law: the program tried. -/
namespace G3
open PySem PySem.Spec PyProof.Rows L2
theorem Good.rowOk {ws : List Str} {rows : List Row} (g : Good ws rows) : ∀ r ∈ rows, RowOk ws r := fun r m => by
  have h := g.row r m
  cases r with
  | mode x => exact ⟨h, (g.word x h).1⟩
  | table x => exact ⟨h, (g.word x h).1⟩
  | clause x gs => exact ⟨h.1, (g.word x h.1).1, h.2.1⟩
theorem lnks_few : ∀ (rows : List Row) (n : Nat) (ws : List Str), (∀ r ∈ rows, RowG ws r) → (lnks (clsFrom n rows)).length ≤ 4 * rows.length
  | [], _, _, _ => Nat.le_refl _
  | .mode x :: rows, n, ws, h => by
    have := lnks_few rows (n + 1) ws fun r m => h r (by simp [m])
    show (lnks (clsFrom (n + 1) rows)).length ≤ _
    rw [List.length_cons]; omega
  | .table x :: rows, n, ws, h => by
    have := lnks_few rows (n + 1) ws fun r m => h r (by simp [m])
    show (lnks (clsFrom (n + 1) rows)).length ≤ _
    rw [List.length_cons]; omega
  | .clause x gs :: rows, n, ws, h => by
    have h1 := lnks_few rows (n + 1) ws fun r m => h r (by simp [m])
    have h2 := (h (.clause x gs) (by simp)).2.2
    show (cLnks ⟨n, x, gs⟩ ++ lnks (clsFrom (n + 1) rows)).length ≤ _
    rw [List.length_append, List.length_cons]
    have h3 : (cLnks ⟨n, x, gs⟩).length = gs.length := by unfold cLnks; rw [List.length_map]
    omega
theorem Good.lnks {ws : List Str} {rows : List Row} (g : Good ws rows) : (lnks (clsFrom 0 rows)).length ≤ 200 := by
  have := lnks_few rows 0 ws g.row
  have := g.few
  omega
theorem Good.links {ws : List Str} {rows : List Row} (g : Good ws rows) : (links (clsFrom 0 rows)).length ≤ 200 := by
  rw [← lnks_links, List.length_map]
  exact g.lnks
theorem takes_none {X : Cx} {xe : Value → Shared → Prop} : Takes (X.wish xe) (fun _ _ _ _ => False) := fun u s' h => by
  obtain ⟨_, _, _, _, _, _, _, _, _, _, _, _, _, _, _, _, w⟩ := h
  exact w.elim
section
variable {P : Program} {w : World} {K : PySem.W.Frag} {mg : Str → Option Value} {base : Heap} {C M N : Addr}
abbrev nLTry : List Str := ["_law_rows", "_law_made", "e"]
theorem sc_ltry : FnScope nLTry ["_law_rows"] (defScope s_law_try) := ⟨rfl, rfl, rfl, by decide +kernel, rfl, by decide +kernel, by decide +kernel⟩
def spTry (C : Addr) : Sp := fun vs H Q _ => ∃ (pr : Addr) (rvs : List V) (rows : List Row) (ws : List Str), vs = [.ref pr] ∧ H pr = some (.lst rvs) ∧ RowsV H rvs rows ∧ Good ws rows ∧
  (∀ c, (clsFrom 0 rows).find? (apartIn (rchB (links (clsFrom 0 rows))) (tabB rows)) = some c → ∀ H' (D : Addr), Same H H' → H' D = some (.lst [.str "mixed", .int (c.line : Int)]) → Q (.ref D) H') ∧
  (∀ c, (clsFrom 0 rows).find? (apartIn (rchB (links (clsFrom 0 rows))) (tabB rows)) = none → (clsFrom 0 rows).find? (notIn (rchB (links (clsFrom 0 rows)))) = some c → ∀ H' (D : Addr), Same H H' → H' D = some (.lst [.str "notring", .int (c.line : Int)]) → Q (.ref D) H') ∧
  ((clsFrom 0 rows).find? (apartIn (rchB (links (clsFrom 0 rows))) (tabB rows)) = none → (clsFrom 0 rows).find? (notIn (rchB (links (clsFrom 0 rows)))) = none → ∀ H' (D : Addr) (v : V), Same H H' → H' D = some (.lst [.str "let by", v]) → Done C ws (links (clsFrom 0 rows)) H' v → Q (.ref D) H')
theorem law_try_ok (T : Tx K mg w C M N) : Cal P w K mg base 11 "_law_try" ["_law_rows"] (spTry C) := by
  obtain ⟨fI, fdI, FI, mkI, bI⟩ := init_ok (P := P) (w := w) (base := base) T
  refine T.d_law_try.cal sc_ltry (fun vs H Q E h => ?_) (fun f cdv A outer s H vs Q E hr h => ?_)
  · obtain ⟨pr, rvs, rows, ws, rfl, _⟩ := h
    rfl
  · obtain ⟨pr, rvs, rows, ws, rfl, hpr, hrv, hg, q1, q2, q3⟩ := h
    refine ⟨_, pss_cons (ps_set (i := 1) sc_ltry.nd rfl (.inl rfl) pe_non)
      (pss_cons (ps_try_ases (i := 2) (n := "e") (Wout := fun _ _ _ _ => False) (tb := fun W => tAsg (tMake C (spInit C M N) [] (fun cls d H => ∀ σ : L2.St, σ.length = 3 → W cls d σ H) (tCons (tVar 0) tNil)) (gName 1))
          (l := [(.ref M, fun a cls d => tRet (tLst (tCons (tC (.str "mixed")) (tCons (tXf a cls d M "line" (tVar 2)) tNil)))), (.ref N, fun a cls d => tRet (tLst (tCons (tC (.str "notring")) (tCons (tXf a cls d N "line" (tVar 2)) tNil))))])
          rfl rfl sc_ltry.nd rfl rfl takes_none
          (fun W pn xe tk ps => pss_one (ps_set (i := 1) sc_ltry.nd rfl (.inl rfl) (pe_make mkI FI (hr.mono (by decide)) (by rfl) T.gC bI .nil (fun pins σ H s e s' I c => tk e s' (XE.of_call I (fun cls d H' h => h σ I.len) c)) (pa_cons (pv 0) pa_nil))))
          (.cons ⟨by rfl, by decide, .inl T.eM.g⟩ (fun a oe cls d pn hz hf => pss_one (ps_ret (pe_lst (pa_cons pe_str (pa_cons (pe_xf T.eM.xf T.eM.no hz hf (pv 2)) pa_nil)))))
            (.cons ⟨by rfl, by decide, .inl T.eN.g⟩ (fun a oe cls d pn hz hf => pss_one (ps_ret (pe_lst (pa_cons pe_str (pa_cons (pe_xf T.eN.xf T.eN.no hz hf (pv 2)) pa_nil))))) .nil)))
      (pss_one (ps_ret (pe_lst (pa_cons pe_str (pa_cons (pv 1) pa_nil)))))), ?_⟩
    refine ⟨_, rfl, fun x dx nx ndx hne => ?_⟩
    have hsame : Same H (upd (upd H dx (.own x)) x (.ins C dx [])) := same_new (same_upd ndx) nx
    refine ⟨x, dx, pr, rvs, rows, ws, H, rfl, upd_same, nx, hsame, hpr, hrv, hg.rowOk, hg.mode, by have := hg.seven; omega, by have := hg.few; omega, by have := hg.links; omega, fun c hc d H' s' hd σ hσ => ?_, fun c hc hc2 d H' s' hd σ hσ => ?_, fun hc hc2 H' s' hD => ?_⟩
    · refine ⟨true, T.mm, fun _ a na => ?_, nofun⟩
      have hs2 : (σ.set 2 (some (V.ref a)))[2]? = some (some (.ref a)) := List.getElem?_set_self (by omega)
      refine ⟨_, hs2, rfl, rfl, d, _, _, rfl, hd, rfl, by show 2 ≤ sizeLine; rw [sizeLine_eq]; decide, fun p np => ?_⟩
      exact q1 c hc _ p (s'.trans (same_upd np)) upd_same
    · refine ⟨false, T.nm, nofun, fun _ => ⟨true, T.nn, fun _ a na => ?_, nofun⟩⟩
      have hs2 : (σ.set 2 (some (V.ref a)))[2]? = some (some (.ref a)) := List.getElem?_set_self (by omega)
      refine ⟨_, hs2, rfl, rfl, d, _, _, rfl, hd, rfl, by show 2 ≤ sizeLine; rw [sizeLine_eq]; decide, fun p np => ?_⟩
      exact q2 c hc hc2 _ p (s'.trans (same_upd np)) upd_same
    · refine ⟨rfl, ?_⟩
      refine ⟨_, rfl, by show 2 ≤ sizeLine; rw [sizeLine_eq]; decide, fun p np => ?_⟩
      exact q3 hc hc2 _ p _ (s'.trans (same_upd np)) upd_same (hD.same (same_upd np))
end
end G3

/-! Plain matters of the law: data compared, the due line. -/
namespace G3
open PySem PySem.Spec PyProof.Rows L2
/-! ### data -/
/-- shallow: n is the most depth -/
structure Flat (n : Nat) (d : PyData) : Prop where
  lay : d.canLay0 = true
  dep : d.depth ≤ n
structure FlatAll (n : Nat) (ds : List PyData) : Prop where
  lay : PyData.canLayAll0 ds = true
  dep : PyData.depthAll ds ≤ n
theorem FlatAll.nil (n : Nat) : FlatAll n [] := ⟨by simp [PyData.canLayAll0], by simp [PyData.depthAll]⟩
theorem FlatAll.cons {n : Nat} {d : PyData} {ds : List PyData} (h : Flat n d) (t : FlatAll n ds) : FlatAll n (d :: ds) :=
  ⟨by simp [PyData.canLayAll0, h.lay, t.lay], by simp only [PyData.depthAll]; exact Nat.max_le.mpr ⟨h.dep, t.dep⟩⟩
theorem FlatAll.of {n : Nat} : ∀ {ds : List PyData}, (∀ d ∈ ds, Flat n d) → FlatAll n ds
  | [], _ => .nil n
  | d :: ds, h => .cons (h d (by simp)) (FlatAll.of fun d m => h d (by simp [m]))
theorem Flat.str {n : Nat} {x : Str} (h : PyData.strOk x = true) : Flat n (.str x) := ⟨by simp [PyData.canLay0, h], by simp [PyData.depth]⟩
theorem Flat.int {n : Nat} (i : Int) : Flat n (.int i) := ⟨by simp [PyData.canLay0], by simp [PyData.depth]⟩
theorem Flat.tup {n : Nat} {ds : List PyData} (h : FlatAll n ds) : Flat (n + 1) (.tuple ds) := ⟨by simp [PyData.canLay0, h.lay], by simp only [PyData.depth]; exact Nat.succ_le_succ h.dep⟩
theorem Flat.lst {n : Nat} {ds : List PyData} (h : FlatAll n ds) : Flat (n + 1) (.list ds) := ⟨by simp [PyData.canLay0, h.lay], by simp only [PyData.depth]; exact Nat.succ_le_succ h.dep⟩
theorem Flat.mono {n m : Nat} {d : PyData} (h : Flat n d) (k : n ≤ m) : Flat m d := ⟨h.lay, Nat.le_trans h.dep k⟩
theorem Flat.shaped {n : Nat} {d : PyData} (h : Flat n d) (k : n ≤ 64) : SeqAt.shaped d = true := by
  show (d.canLay0 && decide (d.depth ≤ 64)) = true
  rw [h.lay, Bool.true_and]
  exact decide_eq_true (Nat.le_trans h.dep k)
theorem Flat.eqv {n : Nat} {d : PyData} (h : Flat n d) : PyData.eqv d d = true := PySem.SeqAt.eqv_refl d h.lay
def gD (g : Gl2) : PyData := if g.1 = true then .tuple [.str "not", .str g.2] else .str g.2
def rowD : Row → PyData
  | .mode x => .tuple [.str "mode", .str x, .str ""]
  | .table x => .tuple [.str "table", .str x, .int 0]
  | .clause h gs => .tuple [.str "clause", .str h, .tuple (gs.map gD)]
theorem dp_goal {K : PySem.W.Frag} {H : Hp} {v : V} {g : Gl2} (h : GoalV H v g) : Dp K H v (gD g) := by
  unfold gD
  rcases h with ⟨e, rfl⟩ | ⟨e, t, rfl, ht⟩
  · rw [e, if_neg (by decide)]
    exact .str g.2
  · rw [e, if_pos rfl]
    exact .tup (SqT.of ht) (.cons (.str _) (.cons (.str _) .nil))
theorem dp_goals {K : PySem.W.Frag} {H : Hp} {vs : List V} {gs : List Gl2} (h : Paired (GoalV H) vs gs) : DpAll K H vs (gs.map gD) := by
  induction h with
  | nil => exact .nil
  | cons a _ ih => exact .cons (dp_goal a) ih
theorem dp_row {K : PySem.W.Frag} {H : Hp} {v : V} {r : Row} (h : RowV H v r) : Dp K H v (rowD r) := by
  cases r with
  | mode x => obtain ⟨t, rfl, ht⟩ := h; exact .tup (SqT.of ht) (.cons (.str _) (.cons (.str _) (.cons (.str _) .nil)))
  | table x => obtain ⟨t, rfl, ht⟩ := h; exact .tup (SqT.of ht) (.cons (.str _) (.cons (.str _) (.cons (.int _) .nil)))
  | clause x gs =>
    obtain ⟨t, gt, gvs, rfl, ht, hgt, hg, _⟩ := h
    exact .tup (SqT.of ht) (.cons (.str _) (.cons (.str _) (.cons (.tup (SqT.of hgt) (dp_goals hg.1)) .nil)))
theorem dp_rows {K : PySem.W.Frag} {H : Hp} {vs : List V} {rs : List Row} (h : RowsV H vs rs) : DpAll K H vs (rs.map rowD) := by
  unfold RowsV at h
  induction h with
  | nil => exact .nil
  | cons a _ ih => exact .cons (dp_row a) ih
theorem sOk {x : Str} (h : PyData.strOk x = true) (n : Nat) : Flat n (.str x) := .str h
theorem flat_goal {ws : List Str} (hw : ∀ x ∈ ws, LawWord x) {g : Gl2} (h : g.2 ∈ ws) : Flat 1 (gD g) := by
  have s4 : PyData.strOk ("not" : Str) = true := by decide +kernel
  unfold gD
  by_cases e : g.1 = true
  · rw [if_pos e]
    exact Flat.tup (n := 0) (.cons (Flat.str s4) (.cons (Flat.str (hw _ h).2) (.nil 0)))
  · rw [if_neg e]
    exact Flat.str (hw _ h).2
theorem flat_row {ws : List Str} (hw : ∀ x ∈ ws, LawWord x) {r : Row} (h : RowG ws r) : Flat 3 (rowD r) := by
  have s1 : PyData.strOk ("mode" : Str) = true := by decide +kernel
  have s2 : PyData.strOk ("table" : Str) = true := by decide +kernel
  have s3 : PyData.strOk ("clause" : Str) = true := by decide +kernel
  have s5 : PyData.strOk ("" : Str) = true := by decide +kernel
  cases r with
  | mode x => exact Flat.tup (n := 2) (.cons (Flat.str s1) (.cons (Flat.str (hw x h).2) (.cons (Flat.str s5) (.nil 2))))
  | table x => exact Flat.tup (n := 2) (.cons (Flat.str s2) (.cons (Flat.str (hw x h).2) (.cons (Flat.int 0) (.nil 2))))
  | clause x gs =>
    refine Flat.tup (n := 2) (.cons (Flat.str s3) (.cons (Flat.str (hw x h.1).2) (.cons (Flat.tup (n := 1) (FlatAll.of fun d m => ?_)) (.nil 2))))
    obtain ⟨g, mg, rfl⟩ := List.mem_map.mp m
    exact flat_goal hw (h.2.1 g mg)
theorem dp_strs {K : PySem.W.Frag} {H : Hp} : ∀ ys : List Str, DpAll K H (ys.map V.str) (ys.map PyData.str)
  | [] => .nil
  | y :: r => .cons (.str y) (dp_strs r)
theorem flat_strsD {ys : List Str} (h : ∀ y ∈ ys, PyData.strOk y = true) : Flat 1 (.list (ys.map PyData.str)) := by
  refine .lst (FlatAll.of fun d m => ?_)
  obtain ⟨y, my, rfl⟩ := List.mem_map.mp m
  exact .str (h y my)
theorem strOk_tt {x : Str} (h : PyData.strOk x = true) : PyData.strOk (tt x) = true := strOk_app h (by decide +kernel)
/-! ### the due line -/
theorem due_find (pr q : Ll → Bool) : ∀ cs : List Cl, (((lnks cs).filter pr).find? q).map (·.2) = (cs.find? fun c => ((cLnks c).filter pr).any q).map (·.line)
  | [] => rfl
  | c :: cs => by
    have ih := due_find pr q cs
    have e : lnks (c :: cs) = cLnks c ++ lnks cs := rfl
    rw [e, List.filter_append, List.find?_append, List.find?_cons]
    cases h : ((cLnks c).filter pr).any q with
    | true =>
      obtain ⟨l, ml, hl⟩ := List.any_eq_true.mp h
      cases hf : ((cLnks c).filter pr).find? q with
      | none => exact absurd hl (by simpa using List.find?_eq_none.mp hf l ml)
      | some l' =>
        have m := List.mem_of_find?_eq_some hf
        rw [List.mem_filter] at m
        obtain ⟨g, _, e2⟩ := List.mem_map.mp m.1
        show some l'.2 = some c.line
        rw [← e2]
    | false =>
      have hf : ((cLnks c).filter pr).find? q = none := List.find?_eq_none.mpr fun l ml => by
        rw [List.any_eq_false] at h
        exact h l ml
      rw [hf, Option.none_or]
      exact ih
theorem apart_eq (cs : List Cl) (tb : Str → Bool) (c : Cl) : apartIn (rchB ((lnks cs).map (·.1))) tb c = ((cLnks c).filter (onR ((lnks cs).map (·.1)))).any (apartL tb) := by
  unfold apartIn onRing cLnks
  rw [List.filter_map, List.any_map]
  rfl
theorem not_eq (cs : List Cl) (c : Cl) : notIn (rchB ((lnks cs).map (·.1))) c = ((cLnks c).filter (onR ((lnks cs).map (·.1)))).any notL := by
  unfold notIn onRing cLnks
  rw [List.filter_map, List.any_map]
  rfl
theorem due_apart (cs : List Cl) (tb : Str → Bool) : ((ringL (lnks cs)).find? (apartL tb)).map (·.2) = (cs.find? (apartIn (rchB (links cs)) tb)).map (·.line) := by
  unfold ringL
  rw [due_find, ← lnks_links]
  congr 2
  funext c
  exact (apart_eq cs tb c).symm
theorem due_not (cs : List Cl) : ((ringL (lnks cs)).find? notL).map (·.2) = (cs.find? (notIn (rchB (links cs)))).map (·.line) := by
  unfold ringL
  rw [due_find, ← lnks_links]
  congr 2
  funext c
  exact (not_eq cs c).symm
/-! ### the same titles -/
theorem same_titles {F R : List Str} {ys zs : List Str} (hF : F.Nodup) (hR : R.Nodup) (h : ∀ x, x ∈ F ↔ x ∈ R) (p : ys.Perm (F.map tt)) (s : sortedS ys = true) (p2 : zs.Perm (R.map tt)) (s2 : sortedS zs = true) : ys = zs :=
  sorted_eq ys zs (p.trans ((((List.perm_ext_iff_of_nodup hF hR).mpr h).map tt).trans p2.symm)) s s2
end G3

/-! Walks of the law: the law. -/
namespace G3
open PySem PySem.Spec PyProof.Rows L2
theorem k_ml : decide (V.str "mixed" = V.str "let by") = false := by decide
theorem k_nl : decide (V.str "notring" = V.str "let by") = false := by decide
theorem k_ll : decide (V.str "let by" = V.str "let by") = true := by decide
theorem flat_due {kind : Str} (h : PyData.strOk kind = true) (k : Int) : Flat 1 (.list [.str kind, .int k]) := Flat.lst (n := 0) (.cons (Flat.str h) (.cons (Flat.int k) (.nil 0)))
/-- all but ph stands -/
def KeepS (ph : Addr) (H H' : Hp) : Prop := ∀ b o, H b = some o → b ≠ ph → H' b = some o
theorem Fd.keep {C : Addr} {H H' : Hp} {v : V} {f : Str} {d ph : Addr} {kvs : List (Key × V)} {xs : List V} (hp : H ph = some (.lst xs)) (s : KeepS ph H H') (h : Fd C H v f d kvs) : Fd C H' v f d kvs := by
  obtain ⟨⟨a, dx, fs, e, k, n, l⟩, r⟩ := h
  refine ⟨⟨a, dx, fs, e, s _ _ k (ne_of_some k hp fun z => nomatch z), n, l⟩, ?_⟩
  rcases r with r | ⟨o, r⟩
  · exact .inl (s _ _ r (ne_of_some r hp fun z => nomatch z))
  · exact .inr ⟨o, s _ _ r (ne_of_some r hp fun z => nomatch z)⟩
theorem rows_ref {H : Hp} {rvs : List V} {rows : List Row} (h : RowsV H rvs rows) (hne : rows ≠ []) (ys : List Str) : rvs ≠ ys.map V.str := by
  intro e
  cases h with
  | nil => exact hne rfl
  | @cons v r vs rs a t =>
    cases ys with
    | nil => cases e
    | cons y ys =>
      have e1 : v = V.str y := by injection e
      subst e1
      cases r with
      | mode w => obtain ⟨t, z, _⟩ := a; cases z
      | table w => obtain ⟨t, z, _⟩ := a; cases z
      | clause h gs => obtain ⟨t, gt, gvs, z, _⟩ := a; cases z
theorem Done.keep {C : Addr} {ws : List Str} {ls : List (Lk Str)} {H H' : Hp} {v : V} {ph : Addr} {xs : List V} (hp : H ph = some (.lst xs)) (hx : ∀ w ∈ ws, ∀ ys : List Str, xs ≠ ys.map V.str) (s : KeepS ph H H') (h : Done C ws ls H v) : Done C ws ls H' v := by
  obtain ⟨⟨d, ks, f, a, b⟩, ⟨d2, k2, a2, b2⟩, ⟨d3, ks3, f3, a3, b3⟩⟩ := h
  refine ⟨⟨d, ks, f, a.keep hp s, b⟩, ⟨d2, k2, a2.keep hp s, fun x m => ?_⟩, ⟨d3, ks3, f3, a3.keep hp s, b3⟩⟩
  obtain ⟨l, ys, p, q, r⟩ := b2 x m
  exact ⟨l, ys, p, s _ _ q (ne_of_some q hp fun z => hx x m ys (by injection z with z; exact z.symm)), r⟩
section
variable {P : Program} {w : World} {K : PySem.W.Frag} {mg : Str → Option Value} {base : Heap} {C M N : Addr}
abbrev nLaw : List Str := ["_law_script", "_law_rows", "_law_words", "_law_links_here", "_law_reach_here", "_law_due_here", "_law_handed", "_law_found", "_law_program", "_law_layers_here", "_law_turn", "_law_word", "_law_told", "_law_layer", "_law_other"]
theorem sc_law : FnScope nLaw ["_law_script"] (defScope s_law) := ⟨rfl, rfl, rfl, by decide +kernel, rfl, by decide +kernel, by decide +kernel⟩
def spLaw (K : PySem.W.Frag) : Sp := fun vs H Q _ => ∃ (a : Addr) (ns : List Int), vs = [.ref a] ∧ SqL K H a (ns.map V.int) ∧ ns.length ≤ 63 ∧ ∀ H', Q (.bl true) H'
theorem fn_cal {x : Str} {st : Stmt} {ps Nn : List Str} {k : Nat} {sp : Sp} {f : Addr} {fd : FuncData} (F : FnP K x st f fd) (S : FnScope Nn ps (defScope st)) (len : ∀ vs H Q E, sp vs H Q E → vs.length = ps.length)
    (hb : ∀ (f : Addr) (cdv : Value) (A : Around) (outer : List Env) (s : Shared) (H : Hp) (vs : List V) (Q : VK) (E : XK), Room k (A.deeper (envOfC x (defScope st) s.heap.objs.size f cdv)) → sp vs H Q E →
      ∃ t, PSs (cxOf CX0 P w K mg base Nn x (defScope st) f cdv A outer s H E).nox (defBody st) t ∧ t { nx := fun _ H' => Q .non H', rt := Q } (start Nn vs) H) : FnOk P w K mg base CX0 (k + 1) f fd ps sp := by
  refine F.ok S len fun cdv A outer s H vs Q E hr h => ?_
  obtain ⟨t, p, q⟩ := hb f cdv A outer s H vs Q E hr h
  exact ⟨t, p.nox, q⟩
theorem law_fn (T : Tx K mg w C M N) {f0 : Addr} {fd0 : FuncData} (F0 : FnP K "law" s_law f0 fd0) : FnOk P w K mg base CX0 12 f0 fd0 ["_law_script"] (spLaw K) := by
  have cg := graph_ok (P := P) (base := base) T
  have cl := law_links_ok (P := P) (base := base) T
  have cr := law_reach_ok (P := P) (base := base) T
  have cd := law_due_ok (P := P) (base := base) T
  have ct := law_try_ok (P := P) (base := base) T
  have cw := whole_ok (P := P) (base := base) T
  have cy := law_layers_ok (P := P) (base := base) T
  have cc := comes_to_ok (P := P) (base := base) T
  have ch := layer_ok (P := P) (base := base) T
  have ci := titles_ok (P := P) (base := base) T
  refine fn_cal F0 sc_law (fun vs H Q E h => ?_) (fun f cdv A outer s H vs Q E hr h => ?_)
  · obtain ⟨a, ns, rfl, _⟩ := h
    rfl
  · obtain ⟨a, ns, rfl, hS, hns, q⟩ := h
    refine ⟨_, pss_cons (ps_asg (pe_cal cg hr (by decide) (by rfl) (pa_cons (pe_lst (pa_cons (pe_callTy call_list_of (by rfl) T.n_list (by decide +kernel) (pa_cons (pv 0) pa_nil)) (pa_cons pe_int (pa_cons pe_int (pa_cons pe_int pa_nil))))) pa_nil))
        (pg_tup rfl (pgs_cons (pg_name (i := 1) sc_law.nd rfl (.inl rfl)) (pgs_cons (pg_name (i := 2) sc_law.nd rfl (.inl rfl)) pgs_nil))))
      (pss_cons (ps_set (i := 3) sc_law.nd rfl (.inl rfl) (pe_cal cl hr (by decide) (by rfl) (pa_cons (pv 1) pa_nil)))
      (pss_cons (ps_set (i := 4) sc_law.nd rfl (.inl rfl) (pe_cal cr hr (by decide) (by rfl) (pa_cons (pv 2) (pa_cons (pv 3) pa_nil))))
      (pss_cons (ps_set (i := 5) sc_law.nd rfl (.inl rfl) (pe_cal cd hr (by decide) (by rfl) (pa_cons (pv 1) (pa_cons (pv 3) (pa_cons (pv 4) pa_nil)))))
      (pss_cons (ps_set (i := 6) sc_law.nd rfl (.inl rfl) (pe_callTy call_list_of (by rfl) T.n_list (by decide +kernel) (pa_cons (pv 1) pa_nil)))
      (pss_cons (ps_set (i := 7) sc_law.nd rfl (.inl rfl) (pe_cal ct hr (by decide) (by rfl) (pa_cons (pv 6) pa_nil)))
      (pss_cons (ps_if (pw_or (pt_cmpR (op_neD hr.units) (pv 6) (pv 1) (nomark _)) (pw_or1 (pt_cmpR op_ne (pe_ix ix_list (pv 7) pe_int (fun _ _ => rfl)) (pe_ix ix_list (pv 5) pe_int (fun _ _ => rfl)) (nomark _)))).pt (pss_one ps_never) pss_nil)
      (pss_cons (ps_if (pt_cmpR op_ne (pe_ix ix_list (pv 5) pe_int (fun _ _ => rfl)) pe_str (nomark _))
        (pss_one (ps_ret (pe_and (pe_cmpR (op_eqD hr.units) (pv 7) (pv 5) (nomark _)) (pe_and (pe_cal cw hr (by decide) (by rfl) (pa_cons (pe_ix ix_list (pv 7) pe_int (fun _ _ => rfl)) pa_nil))
          (pe_one (pe_cmpR (op_eqD hr.units) (pe_cal ct hr (by decide) (by rfl) (pa_cons (pe_callTy call_list_of (by rfl) T.n_list (by decide +kernel) (pa_cons (pv 1) pa_nil)) pa_nil)) (pv 5) (nomark _))))))) pss_nil)
      (pss_cons (ps_set (i := 8) sc_law.nd rfl (.inl rfl) (pe_ix ix_list (pv 7) pe_int (fun _ _ => rfl)))
      (pss_cons (ps_set (i := 9) sc_law.nd rfl (.inl rfl) (pe_cal cy hr (by decide) (by rfl) (pa_cons (pv 2) (pa_cons (pv 3) pa_nil))))
      (pss_cons (ps_expr (pe_bm0 PySem.F.plainAttrs_list PySem.F.slot_list_clear PySem.F.type_list_clear mt_clear (pv 6)))
      (pss_cons (ps_for PassesOwn.never rfl (pi_range1 (by rfl) T.n_range (pa_cons pe_int pa_nil)) (pg_name (i := 10) sc_law.nd rfl (.inl rfl))
        (pss_one (ps_for PassesOwn.never rfl (pi_list (pv 2)) (pg_name (i := 11) sc_law.nd rfl (.inl rfl))
          (pss_cons (ps_set (i := 12) sc_law.nd rfl (.inl rfl) (pe_met (pv 8) T.cls cc hr (by decide) (pa_cons (pe_op op_add_str (pv 11) pe_str) pa_nil)))
          (pss_cons (ps_if (pt_cmpR (op_neD hr.units) (pv 12) (pe_callB cr_sortedS (by rfl) T.n_sorted (by decide +kernel) (pa_cons
              (pe_lc (own := [("_law_other", 14)]) (g := gName 14) rfl sc_law.nd (pi_list (pe_dget (u1 hr) (pv 4) (pv 11) (fun _ _ => rfl))) (blkOk_by (N := nLaw) (sc := defScope s_law) (by decide +kernel))
                (fun _ _ _ _ _ => pg_name (i := 14) sc_law.nd rfl (.inl rfl) (.inr rfl)) (fun _ _ _ _ _ => pts_nil) (fun _ _ _ _ _ => pe_op op_add_str (pv 14) pe_str)) pa_nil)) (nomark _)) (pss_one ps_never) pss_nil)
          (pss_cons (ps_expr (pe_bm PySem.F.plainAttrs_list PySem.F.slot_list_append PySem.F.type_list_append mt_append (pv 12) (pa_cons (pv 11) pa_nil)))
          (pss_cons (ps_set (i := 13) sc_law.nd rfl (.inl rfl) (pe_met (pv 8) T.cls ch hr (by decide) (pa_cons (pe_op op_add_str (pv 11) pe_str) pa_nil)))
          (pss_one (ps_if (pw_or (pt_not (pt_val (pe_cal cw hr (by decide) (by rfl) (pa_cons (pv 13) pa_nil)))) (pw_or1 (pt_cmpR op_ne (pv 13) (pe_dget (u1 hr) (pv 9) (pv 11) (fun _ _ => rfl)) (nomark _)))).pt (pss_one ps_never) pss_nil)))))))))
      (pss_one (ps_ret (pe_cmpR (op_eqD hr.units) (pe_met0 (pv 8) T.cls ci hr (by decide)) (pe_callB cr_sortedS (by rfl) T.n_sorted (by decide +kernel) (pa_cons
        (pe_lc (own := [("_law_word", 11)]) (g := gName 11) rfl sc_law.nd (pi_list (pv 2)) (blkOk_by (N := nLaw) (sc := defScope s_law) (by decide +kernel))
          (fun _ _ _ _ _ => pg_name (i := 11) sc_law.nd rfl (.inl rfl) (.inr rfl)) (fun _ _ _ _ _ => pts_nil) (fun _ _ _ _ _ => pe_op op_add_str (pv 11) pe_str)) pa_nil)) (nomark _))))))))))))))), ?_⟩
    refine ⟨_, rfl, a, _, rfl, .inl hS, fun L nL => ?_⟩
    refine ⟨by show 4 ≤ sizeLine; rw [sizeLine_eq]; decide, fun S nS => ?_⟩
    have hSL : S ≠ L := fun z => by rw [z, upd_same] at nS; cases nS
    refine ⟨S, L, rfl, ⟨hSL, 0, 0, ns, upd_same, upd_at upd_same hSL.symm, Int.le_refl _, Int.le_refl _, by decide⟩, fun H1 pt pr pw rvs rows ws hpt hpr hrv hpw hG => ?_⟩
    refine ⟨pt, _, rfl, SqT.of hpt, rfl, _, _, rfl, _, _, rfl, rfl, ?_⟩
    clear hS nL nS hSL
    have h7 := hG.seven
    have h40 := hG.few
    have hl200 := hG.lnks
    have hrvl : rvs.length = rows.length := Paired.length hrv
    have hiw : InWs ws (clsFrom 0 rows) := cls_in rows 0 hG.rowOk
    have hin : ∀ l ∈ lnks (clsFrom 0 rows), l.1.1 ∈ ws ∧ l.1.2.1 ∈ ws := fun l m => links_in hiw l.1 (by rw [← lnks_links]; exact List.mem_map.mpr ⟨l, m, rfl⟩)
    have hda := due_apart (clsFrom 0 rows) (tabB rows)
    have hdn := due_not (clsFrom 0 rows)
    have hfr : Flat 4 (.list (rows.map rowD)) := Flat.lst (n := 3) (FlatAll.of fun d m => by
      obtain ⟨r, mr, rfl⟩ := List.mem_map.mp m
      exact flat_row hG.word (hG.row r mr))
    -- links, reach, due
    refine ⟨_, rfl, pr, rvs, rows, rfl, hpr, hrv, by omega, by omega, fun H2 pl acc s2 npl hpl hacc => ?_⟩
    refine ⟨_, rfl, _, rfl, pw, pl, ws, acc, lnks (clsFrom 0 rows), rfl, s2 _ _ hpw, hpl, hacc, hin, hG.nd, h7, fun H3 pd fr R s3 hpd hR => ?_⟩
    have s13 := s2.trans s3
    refine ⟨_, rfl, _, rfl, _, rfl, pr, pl, pd, rvs, acc, rows, lnks (clsFrom 0 rows), ws, fr, R, rfl, s13 _ _ hpr, hrv.tk (TK.same s13), by omega, s3 _ _ hpl, hacc.tk (TK.same s3), by omega, hin, hpd, fun w m => ⟨(hR w m).1, (hR w m).2.2⟩, fun l hl H4 D s4 hD => ?_, fun l hl1 hl H4 D s4 hD => ?_, fun hl1 hl2 H4 D s4 hD => ?_⟩
    · have s14 := s13.trans s4
      have hk : PyData.strOk ("mixed" : Str) = true := by decide +kernel
      have hff := flat_due hk (l.2 : Int)
      rw [hl] at hda
      have hln : ∀ c, (clsFrom 0 rows).find? (apartIn (rchB (links (clsFrom 0 rows))) (tabB rows)) = some c → c.line = l.2 := fun c hc => by
        rw [hc] at hda
        exact (Option.some.inj hda).symm
      have hno : (clsFrom 0 rows).find? (apartIn (rchB (links (clsFrom 0 rows))) (tabB rows)) ≠ none := fun hc => by
        rw [hc] at hda
        cases hda
      refine ⟨_, rfl, pr, _, rfl, .inl (SqL.of (s14 _ _ hpr)), fun ph nph => ?_⟩
      have s5 := same_upd (o := .lst rvs) nph
      have s15 := s14.trans s5
      have hph : upd H4 ph (.lst rvs) ph = some (.lst rvs) := upd_same
      have hD5 := s5 _ _ hD
      generalize upd H4 ph (.lst rvs) = H5 at *
      refine ⟨_, rfl, ph, rvs, rows, ws, rfl, hph, hrv.tk (TK.same s15), hG, fun c hc H6 D6 s6 hD6 => ?_, fun c hc => absurd hc hno, fun hc => absurd hc hno⟩
      have hline : c.line = l.2 := hln c hc
      rw [hline] at hD6
      have s16 := s15.trans s6
      have hd6 := s6 _ _ hD5
      refine ⟨_, rfl, _, rfl, _, _, .lst (SqL.of (s6 _ _ hph)) (dp_rows (hrv.tk (TK.same s16))), .lst (SqL.of (s16 _ _ hpr)) (dp_rows (hrv.tk (TK.same s16))), hfr.shaped (by decide), hfr.shaped (by decide), _, rfl, ?_⟩
      rw [hfr.eqv]
      refine iteF ⟨_, rfl, D6, _, 0, _, rfl, rfl, .inl (.inl hD6), rfl, _, rfl, D, _, 0, _, rfl, rfl, .inl (.inl hd6), rfl, rfl, _, rfl, ?_⟩
      refine ite2 (fun z => absurd z (by decide)) fun _ => ?_
      refine ⟨_, rfl, D, _, 0, _, rfl, rfl, .inl (.inl hd6), rfl, rfl, _, rfl, ?_⟩
      rw [k_ml]
      refine iteT ⟨_, rfl, _, rfl, .list [.str "mixed", .int (l.2 : Int)], .list [.str "mixed", .int (l.2 : Int)], .lst (SqL.of hD6) (.cons (.str _) (.cons (.int _) .nil)), .lst (SqL.of hd6) (.cons (.str _) (.cons (.int _) .nil)), hff.shaped (by decide), hff.shaped (by decide), ?_⟩
      rw [hff.eqv]
      refine ⟨true, rfl, iteT ⟨_, rfl, D6, _, 1, _, rfl, rfl, .inl (.inl hD6), rfl, _, rfl, true, rfl, iteT ?_⟩⟩
      refine ⟨_, rfl, pr, _, rfl, .inl (SqL.of (s16 _ _ hpr)), fun p2 np2 => ?_⟩
      have s7 := same_upd (o := .lst rvs) np2
      have s17 := s16.trans s7
      refine ⟨p2, rvs, rows, ws, rfl, upd_same, hrv.tk (TK.same s17), hG, fun c hc H8 D8 s8 hD8 => ?_, fun c hc => absurd hc hno, fun hc => absurd hc hno⟩
      have hline2 : c.line = l.2 := hln c hc
      rw [hline2] at hD8
      refine ⟨_, rfl, .list [.str "mixed", .int (l.2 : Int)], .list [.str "mixed", .int (l.2 : Int)], .lst (SqL.of hD8) (.cons (.str _) (.cons (.int _) .nil)), .lst (SqL.of (s8 _ _ (s7 _ _ hd6))) (.cons (.str _) (.cons (.int _) .nil)), hff.shaped (by decide), hff.shaped (by decide), ?_⟩
      rw [hff.eqv]
      exact q _
    · have s14 := s13.trans s4
      have hk : PyData.strOk ("notring" : Str) = true := by decide +kernel
      have hff := flat_due hk (l.2 : Int)
      rw [hl1] at hda
      rw [hl] at hdn
      have hln : ∀ c, (clsFrom 0 rows).find? (notIn (rchB (links (clsFrom 0 rows)))) = some c → c.line = l.2 := fun c hc => by
        rw [hc] at hdn
        exact (Option.some.inj hdn).symm
      have hno : ∀ c, (clsFrom 0 rows).find? (apartIn (rchB (links (clsFrom 0 rows))) (tabB rows)) ≠ some c := fun c hc => by
        rw [hc] at hda
        cases hda
      have hno2 : (clsFrom 0 rows).find? (notIn (rchB (links (clsFrom 0 rows)))) ≠ none := fun hc => by
        rw [hc] at hdn
        cases hdn
      refine ⟨_, rfl, pr, _, rfl, .inl (SqL.of (s14 _ _ hpr)), fun ph nph => ?_⟩
      have s5 := same_upd (o := .lst rvs) nph
      have s15 := s14.trans s5
      have hph : upd H4 ph (.lst rvs) ph = some (.lst rvs) := upd_same
      have hD5 := s5 _ _ hD
      generalize upd H4 ph (.lst rvs) = H5 at *
      refine ⟨_, rfl, ph, rvs, rows, ws, rfl, hph, hrv.tk (TK.same s15), hG, fun c hc => absurd hc (hno c), fun c _ hc H6 D6 s6 hD6 => ?_, fun _ hc => absurd hc hno2⟩
      have hline : c.line = l.2 := hln c hc
      rw [hline] at hD6
      have s16 := s15.trans s6
      have hd6 := s6 _ _ hD5
      refine ⟨_, rfl, _, rfl, _, _, .lst (SqL.of (s6 _ _ hph)) (dp_rows (hrv.tk (TK.same s16))), .lst (SqL.of (s16 _ _ hpr)) (dp_rows (hrv.tk (TK.same s16))), hfr.shaped (by decide), hfr.shaped (by decide), _, rfl, ?_⟩
      rw [hfr.eqv]
      refine iteF ⟨_, rfl, D6, _, 0, _, rfl, rfl, .inl (.inl hD6), rfl, _, rfl, D, _, 0, _, rfl, rfl, .inl (.inl hd6), rfl, rfl, _, rfl, ?_⟩
      refine ite2 (fun z => absurd z (by decide)) fun _ => ?_
      refine ⟨_, rfl, D, _, 0, _, rfl, rfl, .inl (.inl hd6), rfl, rfl, _, rfl, ?_⟩
      rw [k_nl]
      refine iteT ⟨_, rfl, _, rfl, .list [.str "notring", .int (l.2 : Int)], .list [.str "notring", .int (l.2 : Int)], .lst (SqL.of hD6) (.cons (.str _) (.cons (.int _) .nil)), .lst (SqL.of hd6) (.cons (.str _) (.cons (.int _) .nil)), hff.shaped (by decide), hff.shaped (by decide), ?_⟩
      rw [hff.eqv]
      refine ⟨true, rfl, iteT ⟨_, rfl, D6, _, 1, _, rfl, rfl, .inl (.inl hD6), rfl, _, rfl, true, rfl, iteT ?_⟩⟩
      refine ⟨_, rfl, pr, _, rfl, .inl (SqL.of (s16 _ _ hpr)), fun p2 np2 => ?_⟩
      have s7 := same_upd (o := .lst rvs) np2
      have s17 := s16.trans s7
      refine ⟨p2, rvs, rows, ws, rfl, upd_same, hrv.tk (TK.same s17), hG, fun c hc => absurd hc (hno c), fun c _ hc H8 D8 s8 hD8 => ?_, fun _ hc => absurd hc hno2⟩
      have hline2 : c.line = l.2 := hln c hc
      rw [hline2] at hD8
      refine ⟨_, rfl, .list [.str "notring", .int (l.2 : Int)], .list [.str "notring", .int (l.2 : Int)], .lst (SqL.of hD8) (.cons (.str _) (.cons (.int _) .nil)), .lst (SqL.of (s8 _ _ (s7 _ _ hd6))) (.cons (.str _) (.cons (.int _) .nil)), hff.shaped (by decide), hff.shaped (by decide), ?_⟩
      rw [hff.eqv]
      exact q _
    · rw [hl1] at hda
      rw [hl2] at hdn
      have hno : ∀ c, (clsFrom 0 rows).find? (apartIn (rchB (links (clsFrom 0 rows))) (tabB rows)) ≠ some c := fun c hc => by
        rw [hc] at hda
        cases hda
      have hno2 : ∀ c, (clsFrom 0 rows).find? (notIn (rchB (links (clsFrom 0 rows)))) ≠ some c := fun c hc => by
        rw [hc] at hdn
        cases hdn
      have s14 := s13.trans s4
      refine ⟨_, rfl, pr, _, rfl, .inl (SqL.of (s14 _ _ hpr)), fun ph nph => ?_⟩
      have s5 := same_upd (o := .lst rvs) nph
      have s15 := s14.trans s5
      have s35 := s4.trans s5
      have hph : upd H4 ph (.lst rvs) ph = some (.lst rvs) := upd_same
      have hD5 := s5 _ _ hD
      have hpwh : pw ≠ ph := ne_of_none (s14 _ _ hpw) nph
      have hfrh : ∀ w ∈ ws, fr w ≠ ph := fun w m => ne_of_none (s4 _ _ (hR w m).1) nph
      generalize upd H4 ph (.lst rvs) = H5 at *
      refine ⟨_, rfl, ph, rvs, rows, ws, rfl, hph, hrv.tk (TK.same s15), hG, fun c hc => absurd hc (hno c), fun c _ hc => absurd hc (hno2 c), fun hc1 hc2 H6 D6 v s6 hD6 hdone => ?_⟩
      have s16 := s15.trans s6
      have hd6 := s6 _ _ hD5
      refine ⟨_, rfl, _, rfl, _, _, .lst (SqL.of (s6 _ _ hph)) (dp_rows (hrv.tk (TK.same s16))), .lst (SqL.of (s16 _ _ hpr)) (dp_rows (hrv.tk (TK.same s16))), hfr.shaped (by decide), hfr.shaped (by decide), _, rfl, ?_⟩
      rw [hfr.eqv]
      refine iteF ⟨_, rfl, D6, _, 0, _, rfl, rfl, .inl (.inl hD6), rfl, _, rfl, D, _, 0, _, rfl, rfl, .inl (.inl hd6), rfl, rfl, _, rfl, ?_⟩
      refine ite2 (fun z => absurd z (by decide)) fun _ => ?_
      refine ⟨_, rfl, D, _, 0, _, rfl, rfl, .inl (.inl hd6), rfl, rfl, _, rfl, ?_⟩
      rw [k_ll]
      refine iteF ⟨_, rfl, D6, _, 1, _, rfl, rfl, .inl (.inl hD6), rfl, ?_⟩
      have hnr := not_ring hc2
      rw [← lnks_links] at hnr
      refine ⟨_, rfl, _, rfl, pw, pl, ws, acc, lnks (clsFrom 0 rows), rfl, s16 _ _ hpw, s6 _ _ (s35 _ _ (s3 _ _ hpl)), hacc.tk (TK.same ((s3.trans s35).trans s6)), hin, hG.nd, h7, hnr, fun H7 Dl g s7 hDl hbl hvl => ?_⟩
      have hph7 := s7 _ _ (s6 _ _ hph)
      have hpw7 := s7 _ _ (s16 _ _ hpw)
      have hpd7 := s7 _ _ (s6 _ _ (s35 _ _ hpd))
      have hR7 : ∀ w ∈ ws, H7 (fr w) = some (.lst ((R w).map V.str)) := fun w m => s7 _ _ (s6 _ _ (s35 _ _ (hR w m).1))
      have hdone7 := hdone.same s7
      have hne : ∀ w ∈ ws, ∀ ys : List Str, rvs ≠ ys.map V.str := fun w m => rows_ref hrv (fun z => by have := hG.mode w m; rw [z] at this; cases this)
      refine ⟨_, rfl, .inl ⟨rfl, _, SqL.of hph7⟩, ph, _, rfl, rfl, hph7, ?_⟩
      have ks : KeepS ph H7 (upd H7 ph (.lst [])) := fun b o e n => upd_at e n
      have hdone8 := hdone7.keep hph7 hne ks
      have hpw8 := ks _ _ hpw7 hpwh
      have hpd8 := ks _ _ hpd7 (ne_of_some hpd7 hph7 fun z => nomatch z)
      have hDl8 := ks _ _ hDl (ne_of_some hDl hph7 fun z => nomatch z)
      have hR8 : ∀ w ∈ ws, upd H7 ph (.lst []) (fr w) = some (.lst ((R w).map V.str)) := fun w m => ks _ _ (hR7 w m) (hfrh w m)
      clear hdone hdone7 hpw7 hpd7 hDl hR7 hph7 s7 s16 hd6 hD6 s6 hD5 hph s15 s35 s14 hpwh hfrh nph
      generalize upd H7 ph (.lst []) = H8 at *
      obtain ⟨⟨dt, ks1, ft, hft, hnd1, hmem1⟩, ⟨d2, k2, hf2, hreach⟩, ⟨d3, ks3, hgt, hf3, hmem3, hbl3, hvl3⟩⟩ := hdone8
      rw [lnks_links] at hbl hvl
      have hval3 : ∀ w ∈ ws, valV (dmap kT ks3 fun x => .int (hgt x)) (.inr (tt w)) = some (.int (hgt w)) := fun w m => (valV_dmap kT_inj _ w ks3).trans (if_pos (hmem3 w m))
      have hsame : ∀ x, hgt x = g x := fun x => Int.le_antisymm (hbl3.le g hbl.nn hvl x) (hbl.le hgt hbl3.nn hvl3 x)
      have e2 : ("/0" : Str).length = 2 := by decide +kernel
      have hsz : ∀ w ∈ ws, w.length + ("/0" : Str).length ≤ sizeLine := fun w m => by
        have h1 : w.cps.size ≤ 1000 := (hG.word w m).1.2
        have h2 : w.length = w.cps.size := rfl
        rw [e2, h2, sizeLine_eq]
        omega
      have hgw : ∀ i, i < ws.length → ∃ y, (ws.map V.str)[i]? = some (.str y) ∧ ws[i]? = some y ∧ y ∈ ws := fun i hi => ⟨ws[i], get_strs hi, List.getElem?_eq_getElem hi, List.getElem_mem hi⟩
      refine ⟨_, rfl, by decide, by decide, ?_⟩
      refine for_range (lo := 0) (n := (2 : Int).toNat) (fun k σ H' => ∃ z10 z11 z12 z13, σ = [some (V.ref a), some (.ref pr), some (.ref pw), some (.ref pl), some (.ref pd), some (.ref D), some (.ref ph), some (.ref D6), some v, some (.ref Dl), z10, z11, z12, z13, none] ∧ Same H8 H')
        ⟨none, none, none, none, rfl, Same.refl _⟩ (fun k σ H' hk h => ?_) (fun σ H' h => ?_)
      · obtain ⟨z10, z11, z12, z13, rfl, s9⟩ := h
        refine ⟨_, rfl, pw, rfl, ⟨_, SqL.of (s9 _ _ hpw8)⟩, ?_⟩
        refine for_it (n := ws.length) (fun i σ H' => ∃ z11 z12 z13, σ = [some (V.ref a), some (.ref pr), some (.ref pw), some (.ref pl), some (.ref pd), some (.ref D), some (.ref ph), some (.ref D6), some v, some (.ref Dl), some (.int (0 + (k : Int))), z11, z12, z13, none] ∧ Same H8 H')
          ⟨_, _, _, rfl, s9⟩ (fun i σ H' hi h => ?_) (fun σ H' h => ?_) (fun i σ H9 hi h x H10 hy => ?_) (fun σ H' h => ?_)
        · obtain ⟨_, _, _, _, s⟩ := h
          exact go_l (SqL.of (s _ _ hpw8)) (by rw [List.length_map]; exact hi)
        · obtain ⟨_, _, _, _, s⟩ := h
          have := stop_l (K := K) (SqL.of (s _ _ hpw8))
          rw [List.length_map] at this
          exact this
        · obtain ⟨z11, z12, z13, rfl, s10⟩ := h
          obtain ⟨rfl, hx⟩ := yld_l (SqL.of (s10 _ _ hpw8)) hy
          obtain ⟨y, g1, g2, g3⟩ := hgw i hi
          rw [g1] at hx
          obtain rfl : V.str y = x := Option.some.inj hx
          obtain ⟨l, ys, hvl2, hll, F, hFn, hF, hFp, hFs⟩ := hreach y g3
          obtain ⟨hRn, hRm⟩ := (hR y g3).2
          rw [lnks_links] at hRm
          obtain ⟨ai, dxi, fsi, ev, hai, hni, hli⟩ := hf2.ins
          subst ev
          refine ⟨_, rfl, ai, dxi, fsi, rfl, s10 _ _ hai, hni.comes_to, _, rfl, _, _, rfl, rfl, hsz y g3, _, _, d2, k2, l, _, rfl, hf2.same s10, hvl2, s10 _ _ hll, fun H11 p11 s11 np11 hp11 => ?_⟩
          have s811 := s10.trans s11
          refine ⟨_, rfl, _, rfl, _, rfl, pd, _, rfl, dget_w (f := fun w => .ref (fr w)) (s811 _ _ hpd8) g3, fr y, rfl, ⟨_, SqL.of (s811 _ _ (hR8 y g3))⟩, fun Dc nDc => ?_⟩
          refine lc_it (n := (R y).length) (fun j H' => Same H11 H' ∧ H' Dc = some (.lst (((R y).take j).map vT))) ⟨same_upd nDc, upd_same⟩ (fun j H' hj h => go_l (SqL.of (h.1 _ _ (s811 _ _ (hR8 y g3)))) (by rw [List.length_map]; exact hj)) (fun H' h => by
            have := stop_l (K := K) (SqL.of (h.1 _ _ (s811 _ _ (hR8 y g3))))
            rw [List.length_map] at this
            exact this) (fun j H' hj h x H12 hy => ?_) (fun H12 h => ?_)
          · obtain ⟨s12, hDc⟩ := h
            obtain ⟨rfl, hx⟩ := yld_l (SqL.of (s12 _ _ (s811 _ _ (hR8 y g3)))) hy
            rw [get_strs hj] at hx
            obtain rfl : V.str (R y)[j] = x := Option.some.inj hx
            have hmem : (R y)[j] ∈ ws := by
              have := (hRm (R y)[j]).mp (List.getElem_mem hj)
              exact Rch.closed (S := fun x => x ∈ ws) g3 (fun b c d m _ => (links_in hiw _ m).2) this
            have hRl : (R y).length ≤ ws.length := nodup_le _ _ hRn fun x m => Rch.closed (S := fun x => x ∈ ws) g3 (fun b c d m _ => (links_in hiw _ m).2) ((hRm x).mp m)
            refine ⟨rfl, ?_⟩
            refine yesT ?_
            refine ⟨_, rfl, _, _, rfl, rfl, hsz _ hmem, _, hDc, by rw [List.length_map, List.length_take, sizeLine_eq]; omega, same_new s12 nDc, ?_⟩
            rw [upd_same, List.take_add_one, List.getElem?_eq_getElem hj, List.map_append]
            rfl
          obtain ⟨s12, hDc⟩ := h
          rw [List.take_length] at hDc
          have hRl : (R y).length ≤ ws.length := nodup_le _ _ hRn fun x m => Rch.closed (S := fun x => x ∈ ws) g3 (fun b c d m _ => (links_in hiw _ m).2) ((hRm x).mp m)
          refine ⟨Dc, (R y).map tt, rfl, SqL.of (by rw [hDc, List.map_map]; rfl), by rw [List.length_map]; omega, fun zs p13 hzp hzs np13 => ?_⟩
          have hyz : ys = zs := same_titles hFn hRn (fun x => (hF x).trans (hRm x).symm) hFp hFs hzp hzs
          subst hyz
          have s13' := same_upd (o := .lst (ys.map V.str)) np13
          have s8c := (s811.trans s12).trans s13'
          have hok : ∀ z ∈ ys, PyData.strOk z = true := fun z m => by
            obtain ⟨x, mx, rfl⟩ := List.mem_map.mp (hzp.mem_iff.mp m)
            exact strOk_tt (hG.word x (Rch.closed (S := fun x => x ∈ ws) g3 (fun b c d m _ => (links_in hiw _ m).2) ((hRm x).mp mx))).2
          have hfy := flat_strsD hok
          have hp13 := s13' _ _ (s12 _ _ hp11)
          refine ⟨_, _, .lst (SqL.of hp13) (dp_strs ys), .lst (SqL.of upd_same) (dp_strs ys), hfy.shaped (by decide), hfy.shaped (by decide), _, rfl, ?_⟩
          rw [hfy.eqv]
          refine iteF ?_
          have hysl : ys.length ≤ 7 := by
            have := hzp.length_eq
            rw [List.length_map] at this
            omega
          refine ⟨_, rfl, .inl ⟨rfl, _, SqL.of hp13⟩, _, rfl, p11, _, _, rfl, rfl, hp13, by rw [List.length_map, sizeLine_eq]; omega, ?_⟩
          have n8p : H8 p11 = none := s10.free np11
          have s14' := same_new (o := .lst (ys.map V.str ++ [V.str y])) s8c n8p
          generalize upd _ p11 (.lst (ys.map V.str ++ [V.str y])) = H14 at *
          obtain ⟨ai2, dxi2, fsi2, ev2, hai2, hni2, hli2⟩ := hf3.ins
          refine ⟨_, rfl, ai2, dxi2, fsi2, ev2, s14' _ _ hai2, hni2.layer, _, rfl, _, _, rfl, rfl, hsz y g3, _, _, d3, _, _, rfl, hf3.same s14', hval3 y g3, ?_⟩
          refine ⟨_, rfl, _, rfl, true, rfl, iteF ?_⟩
          refine ⟨_, rfl, _, rfl, _, rfl, Dl, _, rfl, dget_w (f := fun w => .int (g w)) (s14' _ _ hDl8) g3, rfl, _, rfl, ?_⟩
          rw [hsame y]
          refine ite2 (fun z => absurd z (by simp)) fun _ => ?_
          exact ⟨_, _, _, rfl, s14'⟩
        · obtain ⟨z11, z12, z13, rfl, s10⟩ := h
          exact ⟨_, _, _, _, rfl, s10⟩
      · obtain ⟨z10, z11, z12, z13, rfl, s9⟩ := h
        obtain ⟨ai, dxi, fsi, ev, hai, hni, hli⟩ := hft.ins
        have hp1 : ks1.Perm ws := (List.perm_ext_iff_of_nodup hnd1 hG.nd).mpr hmem1
        refine ⟨_, rfl, ai, dxi, fsi, ev, s9 _ _ hai, hni.titles, _, dt, ks1, ft, rfl, hft.same s9, by rw [hp1.length_eq]; omega, fun ys p9 hyp hys np9 => ?_⟩
        have s10 := same_upd (o := .lst (ys.map V.str)) np9
        have hp9 : upd H' p9 (.lst (ys.map V.str)) p9 = some (.lst (ys.map V.str)) := upd_same
        have s810 := s9.trans s10
        generalize upd H' p9 (.lst (ys.map V.str)) = H10 at *
        refine ⟨_, rfl, pw, rfl, ⟨_, SqL.of (s810 _ _ hpw8)⟩, fun Dc nDc => ?_⟩
        refine lc_it (n := ws.length) (fun j H' => Same H10 H' ∧ H' Dc = some (.lst ((ws.take j).map vT))) ⟨same_upd nDc, upd_same⟩ (fun j H' hj h => go_l (SqL.of (h.1 _ _ (s810 _ _ hpw8))) (by rw [List.length_map]; exact hj)) (fun H' h => by
          have := stop_l (K := K) (SqL.of (h.1 _ _ (s810 _ _ hpw8)))
          rw [List.length_map] at this
          exact this) (fun j H' hj h x H12 hy => ?_) (fun H12 h => ?_)
        · obtain ⟨s12, hDc⟩ := h
          obtain ⟨rfl, hx⟩ := yld_l (SqL.of (s12 _ _ (s810 _ _ hpw8))) hy
          obtain ⟨y, g1, g2, g3⟩ := hgw j hj
          rw [g1] at hx
          obtain rfl : V.str y = x := Option.some.inj hx
          refine ⟨rfl, ?_⟩
          refine yesT ?_
          refine ⟨_, rfl, _, _, rfl, rfl, hsz _ g3, _, hDc, by rw [List.length_map, List.length_take, sizeLine_eq]; omega, same_new s12 nDc, ?_⟩
          rw [upd_same, List.take_add_one, g2, List.map_append]
          rfl
        obtain ⟨s12, hDc⟩ := h
        rw [List.take_length] at hDc
        refine ⟨Dc, ws.map tt, rfl, SqL.of (by rw [hDc, List.map_map]; rfl), by rw [List.length_map]; omega, fun zs p13 hzp hzs np13 => ?_⟩
        have hyz : ys = zs := same_titles hnd1 hG.nd hmem1 hyp hys hzp hzs
        subst hyz
        have s13' := same_upd (o := .lst (ys.map V.str)) np13
        have hok : ∀ z ∈ ys, PyData.strOk z = true := fun z m => by
          obtain ⟨x, mx, rfl⟩ := List.mem_map.mp (hzp.mem_iff.mp m)
          exact strOk_tt (hG.word x mx).2
        have hfy := flat_strsD hok
        refine ⟨_, _, .lst (SqL.of (s13' _ _ (s12 _ _ hp9))) (dp_strs ys), .lst (SqL.of upd_same) (dp_strs ys), hfy.shaped (by decide), hfy.shaped (by decide), ?_⟩
        rw [hfy.eqv]
        exact q _
end
end G3

/-! What the top leaves, from the head's facts. -/
namespace G3
open PySem PySem.Spec PyProof.Rows L2 He
theorem oexB_ok {K : PySem.W.Frag} {C : Addr} (h : oexB K C = true) : ∃ nm q N bs bm sn sub ab col dd k0 k1 k2 k3 k5, K.lookup C = some (excClassObj nm q C N bs bm true sn sub ab col dd k0 k1 k2 k3 k5 "ValueError.__new__") ∧ PySem.HandSPX.refsVE bm = true := by
  unfold oexB at h
  split at h
  · next od cd sl e =>
    split at h
    · next C1 bm x0 x1 x2 x3 n x5 e1 e2 =>
      obtain ⟨nm, bs, mro, ns, qn, hd, sn, sub, ab, col, del⟩ := cd
      obtain ⟨sl⟩ := sl
      simp only at e1 e2 h
      subst e1 e2
      obtain ⟨h1, h⟩ := ba h
      obtain ⟨h2, h⟩ := ba h
      obtain ⟨h3, h⟩ := ba h
      obtain ⟨h4, h5⟩ := ba h
      obtain rfl := of_decide_eq_true h1
      obtain rfl := of_decide_eq_true h2
      subst h4
      have h3' : del = false := by simpa using h3
      subst h3'
      exact ⟨_, _, _, _, _, _, _, _, _, _, _, _, _, _, _, e, h5⟩
    · cases h
  · cases h
theorem errB_ok {K : PySem.W.Frag} {x : Str} (h : errB x K = true) : OexC K (ga K x) ∧ PySem.W.findIn K (.ref (ga K x)) "line" = some none ∧ XfC K (ga K x) ∧
    PySem.W.findIn K (.ref (ga K x)) "__init__" = some (some (.ref (ma K (ga K x) "__init__"))) ∧ PySem.W.typeIn K (.ref (ma K (ga K x) "__init__")) = some (.type "function") := by
  obtain ⟨a1, h⟩ := ba h
  obtain ⟨a2, h⟩ := ba h
  obtain ⟨a3, h⟩ := ba h
  obtain ⟨a4, h⟩ := ba h
  obtain ⟨a5, h⟩ := ba h
  obtain ⟨a6, h⟩ := ba h
  obtain ⟨a7, h⟩ := ba h
  obtain ⟨a8, a9⟩ := ba h
  exact ⟨⟨oexB_ok a1, eqO_ok a2, of_decide_eq_true a3, of_decide_eq_true a4, a5⟩, eqO_ok a6, xfB_ok a7, eqO_ok a8, of_decide_eq_true a9⟩
section
variable {K : PySem.W.Frag} {w : World} {h : Heap} {mg : Str → Option Value}
theorem df_of (X : K.In h) (G : h.Ns mainGlobals mg) (c : SaysD fa fn K) {x : Str} {st : Stmt} {ps : List Str} (i j : Nat) (hd : fn[i]? = some (dF x st)) (hf : fa[j]? = some (.glo x))
    (hb : ∀ (kV doc pm : Value) (an : Option Addr) (cdv ct : Value) (us : List Value), us.length = ps.length → bindArgs (PySem.W.fnOf x x (defArgs st) (defBody st) (defScope st) .none kV doc pm an cdv ct) ⟨us, []⟩ = pure (ps.zip us)) : Df K mg x st ps := by
  obtain ⟨fd, F⟩ := c.def_ i hd
  exact ⟨ga K x, fd, F, glo_ok X G (c.fact j hf), FunD.bindsN F hb⟩
theorem dm_of (c : SaysD fa fn K) {x m q : Str} {st : Stmt} {ps : List Str} (i j : Nat) (hd : fn[i]? = some (dM x m q st)) (hf : fa[j]? = some (.meth x m))
    (hb : ∀ (kV doc pm : Value) (an : Option Addr) (cdv ct : Value) (us : List Value), us.length = ps.length → bindArgs (PySem.W.fnOf m q (defArgs st) (defBody st) (defScope st) .none kV doc pm an cdv ct) ⟨us, []⟩ = pure (ps.zip us)) : Dm K (ga K x) m q st ps := by
  obtain ⟨fd, F⟩ := c.def_ i hd
  exact ⟨ma K (ga K x) m, fd, F, meth_ok (c.fact j hf), FunD.bindsN F hb⟩
theorem err_of (X : K.In h) (G : h.Ns mainGlobals mg) (c : SaysD fa fn K) {x q : Str} {st : Stmt} (i j : Nat) (hd : fn[i]? = some (dM x "__init__" q st)) (hf : fa[j]? = some (.glo x)) (he : errB x K = true)
    (hb : ∀ (kV doc pm : Value) (an : Option Addr) (cdv ct : Value) (us : List Value), us.length = 2 → bindArgs (PySem.W.fnOf "__init__" q (defArgs st) (defBody st) (defScope st) .none kV doc pm an cdv ct) ⟨us, []⟩ = pure ((["self", "line"] : List Str).zip us)) : ErrF K mg x q st (ga K x) := by
  obtain ⟨fd, F⟩ := c.def_ i hd
  obtain ⟨h1, h2, h3, h4, h5⟩ := errB_ok he
  exact ⟨glo_ok X G (c.fact j hf), h1, ⟨_, fd, F, h4, h5, FunD.bindsN F hb⟩, h2, h3⟩
theorem x_kind_of (X : K.In h) (G : h.Ns mainGlobals mg) (c : SaysD fa fn K) : Df K mg "kind_of" s_kind_of ["goal"] := df_of X G c 0 14 rfl rfl (fun _ _ _ _ _ _ us hl => match us, hl with | [_], _ => rfl)
theorem x_asked_of (X : K.In h) (G : h.Ns mainGlobals mg) (c : SaysD fa fn K) : Df K mg "asked_of" s_asked_of ["goal"] := df_of X G c 1 15 rfl rfl (fun _ _ _ _ _ _ us hl => match us, hl with | [_], _ => rfl)
theorem x_is_unknown (X : K.In h) (G : h.Ns mainGlobals mg) (c : SaysD fa fn K) : Df K mg "is_unknown" s_is_unknown ["pattern"] := df_of X G c 2 16 rfl rfl (fun _ _ _ _ _ _ us hl => match us, hl with | [_], _ => rfl)
theorem x_gather (X : K.In h) (G : h.Ns mainGlobals mg) (c : SaysD fa fn K) : Df K mg "gather" s_gather ["pattern", "found"] := df_of X G c 3 17 rfl rfl (fun _ _ _ _ _ _ us hl => match us, hl with | [_, _], _ => rfl)
theorem x_unknowns_of (X : K.In h) (G : h.Ns mainGlobals mg) (c : SaysD fa fn K) : Df K mg "unknowns_of" s_unknowns_of ["pattern"] := df_of X G c 4 18 rfl rfl (fun _ _ _ _ _ _ us hl => match us, hl with | [_], _ => rfl)
theorem x_title_of (X : K.In h) (G : h.Ns mainGlobals mg) (c : SaysD fa fn K) : Df K mg "title_of" s_title_of ["pattern"] := df_of X G c 5 19 rfl rfl (fun _ _ _ _ _ _ us hl => match us, hl with | [_], _ => rfl)
theorem x_places_of (X : K.In h) (G : h.Ns mainGlobals mg) (c : SaysD fa fn K) : Df K mg "places_of" s_places_of ["pattern"] := df_of X G c 6 20 rfl rfl (fun _ _ _ _ _ _ us hl => match us, hl with | [_], _ => rfl)
theorem x_known_places (X : K.In h) (G : h.Ns mainGlobals mg) (c : SaysD fa fn K) : Df K mg "known_places" s_known_places ["pattern", "mode"] := df_of X G c 7 21 rfl rfl (fun _ _ _ _ _ _ us hl => match us, hl with | [_, _], _ => rfl)
theorem x_told_places (X : K.In h) (G : h.Ns mainGlobals mg) (c : SaysD fa fn K) : Df K mg "told_places" s_told_places ["pattern", "mode"] := df_of X G c 8 22 rfl rfl (fun _ _ _ _ _ _ us hl => match us, hl with | [_, _], _ => rfl)
theorem x_all_known (X : K.In h) (G : h.Ns mainGlobals mg) (c : SaysD fa fn K) : Df K mg "all_known" s_all_known ["patterns", "known"] := df_of X G c 9 23 rfl rfl (fun _ _ _ _ _ _ us hl => match us, hl with | [_, _], _ => rfl)
theorem x_learn_all (X : K.In h) (G : h.Ns mainGlobals mg) (c : SaysD fa fn K) : Df K mg "learn_all" s_learn_all ["patterns", "known"] := df_of X G c 10 24 rfl rfl (fun _ _ _ _ _ _ us hl => match us, hl with | [_, _], _ => rfl)
theorem x_first_mode (X : K.In h) (G : h.Ns mainGlobals mg) (c : SaysD fa fn K) : Df K mg "first_mode" s_first_mode ["house", "pattern", "known"] := df_of X G c 11 25 rfl rfl (fun _ _ _ _ _ _ us hl => match us, hl with | [_, _, _], _ => rfl)
theorem x_word_at (X : K.In h) (G : h.Ns mainGlobals mg) (c : SaysD fa fn K) : Df K mg "word_at" s_word_at ["house", "goal", "known"] := df_of X G c 12 26 rfl rfl (fun _ _ _ _ _ _ us hl => match us, hl with | [_, _, _], _ => rfl)
theorem x_stray_own (X : K.In h) (G : h.Ns mainGlobals mg) (c : SaysD fa fn K) : Df K mg "stray_own" s_stray_own ["head", "goals", "at", "known"] := df_of X G c 13 27 rfl rfl (fun _ _ _ _ _ _ us hl => match us, hl with | [_, _, _, _], _ => rfl)
theorem x_held_in (X : K.In h) (G : h.Ns mainGlobals mg) (c : SaysD fa fn K) : Df K mg "held_in" s_held_in ["house", "head", "goals", "mode"] := df_of X G c 14 28 rfl rfl (fun _ _ _ _ _ _ us hl => match us, hl with | [_, _, _, _], _ => rfl)
theorem x_look_modes (X : K.In h) (G : h.Ns mainGlobals mg) (c : SaysD fa fn K) : Df K mg "look_modes" s_look_modes ["program"] := df_of X G c 15 29 rfl rfl (fun _ _ _ _ _ _ us hl => match us, hl with | [_], _ => rfl)
theorem x_look_known (X : K.In h) (G : h.Ns mainGlobals mg) (c : SaysD fa fn K) : Df K mg "look_known" s_look_known ["program"] := df_of X G c 16 30 rfl rfl (fun _ _ _ _ _ _ us hl => match us, hl with | [_], _ => rfl)
theorem x_rings_at (X : K.In h) (G : h.Ns mainGlobals mg) (c : SaysD fa fn K) : Df K mg "rings_at" s_rings_at ["program", "line"] := df_of X G c 17 31 rfl rfl (fun _ _ _ _ _ _ us hl => match us, hl with | [_, _], _ => rfl)
theorem x_look_rings (X : K.In h) (G : h.Ns mainGlobals mg) (c : SaysD fa fn K) : Df K mg "look_rings" s_look_rings ["program"] := df_of X G c 18 32 rfl rfl (fun _ _ _ _ _ _ us hl => match us, hl with | [_], _ => rfl)
theorem x_reached_from (X : K.In h) (G : h.Ns mainGlobals mg) (c : SaysD fa fn K) : Df K mg "reached_from" s_reached_from ["asks", "title"] := df_of X G c 19 33 rfl rfl (fun _ _ _ _ _ _ us hl => match us, hl with | [_, _], _ => rfl)
theorem x_links_of (X : K.In h) (G : h.Ns mainGlobals mg) (c : SaysD fa fn K) : Df K mg "links_of" s_links_of ["bodies"] := df_of X G c 20 34 rfl rfl (fun _ _ _ _ _ _ us hl => match us, hl with | [_], _ => rfl)
theorem x_heights_of (X : K.In h) (G : h.Ns mainGlobals mg) (c : SaysD fa fn K) : Df K mg "heights_of" s_heights_of ["titles", "links"] := df_of X G c 21 35 rfl rfl (fun _ _ _ _ _ _ us hl => match us, hl with | [_, _], _ => rfl)
theorem x_law_draw (X : K.In h) (G : h.Ns mainGlobals mg) (c : SaysD fa fn K) : Df K mg "_law_draw" s_law_draw ["_law_stream", "_law_many"] := df_of X G c 22 36 rfl rfl (fun _ _ _ _ _ _ us hl => match us, hl with | [_, _], _ => rfl)
theorem x_law_text (X : K.In h) (G : h.Ns mainGlobals mg) (c : SaysD fa fn K) : Df K mg "_law_text" s_law_text ["_law_stream", "_law_first", "_law_taken"] := df_of X G c 23 37 rfl rfl (fun _ _ _ _ _ _ us hl => match us, hl with | [_, _, _], _ => rfl)
theorem x_law_whole (X : K.In h) (G : h.Ns mainGlobals mg) (c : SaysD fa fn K) : Df K mg "_law_whole" s_law_whole ["_law_found"] := df_of X G c 24 38 rfl rfl (fun _ _ _ _ _ _ us hl => match us, hl with | [_], _ => rfl)
theorem x_law_graph (X : K.In h) (G : h.Ns mainGlobals mg) (c : SaysD fa fn K) : Df K mg "_law_graph" s_law_graph ["_law_stream"] := df_of X G c 25 39 rfl rfl (fun _ _ _ _ _ _ us hl => match us, hl with | [_], _ => rfl)
theorem x_law_links (X : K.In h) (G : h.Ns mainGlobals mg) (c : SaysD fa fn K) : Df K mg "_law_links" s_law_links ["_law_rows"] := df_of X G c 26 40 rfl rfl (fun _ _ _ _ _ _ us hl => match us, hl with | [_], _ => rfl)
theorem x_law_reach (X : K.In h) (G : h.Ns mainGlobals mg) (c : SaysD fa fn K) : Df K mg "_law_reach" s_law_reach ["_law_words", "_law_links_here"] := df_of X G c 27 41 rfl rfl (fun _ _ _ _ _ _ us hl => match us, hl with | [_, _], _ => rfl)
theorem x_law_layers (X : K.In h) (G : h.Ns mainGlobals mg) (c : SaysD fa fn K) : Df K mg "_law_layers" s_law_layers ["_law_words", "_law_links_here"] := df_of X G c 28 42 rfl rfl (fun _ _ _ _ _ _ us hl => match us, hl with | [_, _], _ => rfl)
theorem x_law_due (X : K.In h) (G : h.Ns mainGlobals mg) (c : SaysD fa fn K) : Df K mg "_law_due" s_law_due ["_law_rows", "_law_links_here", "_law_reach_here"] := df_of X G c 29 43 rfl rfl (fun _ _ _ _ _ _ us hl => match us, hl with | [_, _, _], _ => rfl)
theorem x_law_try (X : K.In h) (G : h.Ns mainGlobals mg) (c : SaysD fa fn K) : Df K mg "_law_try" s_law_try ["_law_rows"] := df_of X G c 30 44 rfl rfl (fun _ _ _ _ _ _ us hl => match us, hl with | [_], _ => rfl)
theorem x_law (X : K.In h) (G : h.Ns mainGlobals mg) (c : SaysD fa fn K) : Df K mg "law" s_law ["_law_script"] := df_of X G c 31 45 rfl rfl (fun _ _ _ _ _ _ us hl => match us, hl with | [_], _ => rfl)
theorem xm_lay (c : SaysD fa fn K) : Dm K (ga K "Program") "lay" "Program.lay" m_lay ["self", "line", "row"] := dm_of c 32 59 rfl rfl (fun _ _ _ _ _ _ us hl => match us, hl with | [_, _, _], _ => rfl)
theorem xm_enter (c : SaysD fa fn K) : Dm K (ga K "Program") "enter" "Program.enter" m_enter ["self", "title"] := dm_of c 33 60 rfl rfl (fun _ _ _ _ _ _ us hl => match us, hl with | [_, _], _ => rfl)
theorem xm_titles (c : SaysD fa fn K) : Dm K (ga K "Program") "titles" "Program.titles" m_titles ["self"] := dm_of c 34 61 rfl rfl (fun _ _ _ _ _ _ us hl => match us, hl with | [_], _ => rfl)
theorem xm_modes (c : SaysD fa fn K) : Dm K (ga K "Program") "modes" "Program.modes" m_modes ["self", "title"] := dm_of c 35 62 rfl rfl (fun _ _ _ _ _ _ us hl => match us, hl with | [_, _], _ => rfl)
theorem xm_is_tabled (c : SaysD fa fn K) : Dm K (ga K "Program") "is_tabled" "Program.is_tabled" m_is_tabled ["self", "title"] := dm_of c 36 63 rfl rfl (fun _ _ _ _ _ _ us hl => match us, hl with | [_, _], _ => rfl)
theorem xm_comes_to (c : SaysD fa fn K) : Dm K (ga K "Program") "comes_to" "Program.comes_to" m_comes_to ["self", "title"] := dm_of c 37 64 rfl rfl (fun _ _ _ _ _ _ us hl => match us, hl with | [_, _], _ => rfl)
theorem xm_layer (c : SaysD fa fn K) : Dm K (ga K "Program") "layer" "Program.layer" m_layer ["self", "title"] := dm_of c 38 65 rfl rfl (fun _ _ _ _ _ _ us hl => match us, hl with | [_, _], _ => rfl)
theorem x_init (c : SaysD fa fn K) : ∃ f fd, FnM K "__init__" "Program.__init__" m_init f fd ∧ Mk K (ga K "Program") f ∧ Binds K fd ["self", "rows"] [] := by
  obtain ⟨fd, F⟩ := c.def_ 39 (d := dM "Program" "__init__" "Program.__init__" m_init) rfl
  exact ⟨_, fd, F, mkr_ok (x := "Program") (c.fact 51 rfl), FunD.bindsN F (fun _ _ _ _ _ _ us hl => match us, hl with | [_, _], _ => rfl)⟩
theorem x_mixed (X : K.In h) (G : h.Ns mainGlobals mg) (c : SaysD fa fn K) (m : moreB K = true) : ErrF K mg "Mixed" "Mixed.__init__" i_mixed (ga K "Mixed") := err_of X G c 40 47 rfl rfl (ba m).1 (fun _ _ _ _ _ _ us hl => match us, hl with | [_, _], _ => rfl)
theorem x_notring (X : K.In h) (G : h.Ns mainGlobals mg) (c : SaysD fa fn K) (m : moreB K = true) : ErrF K mg "Notring" "Notring.__init__" i_notring (ga K "Notring") := err_of X G c 41 48 rfl rfl (ba (ba m).2).1 (fun _ _ _ _ _ _ us hl => match us, hl with | [_, _], _ => rfl)
theorem x_kinds (X : K.In h) (G : h.Ns mainGlobals mg) (c : SaysT fa fn ts w K) (m : moreB K = true) : ∃ kd es n u, mg "KINDS" = some (.ref kd) ∧ KDict K w kd es n ∧ PySem.W.nsIn K kd "not" = some (some u) ∧ RelV (.str "not") u := by
  obtain ⟨es, n, D⟩ := c.tab 0 rfl
  obtain ⟨u, h1, h2⟩ := valsB_ok (q := ("not", .str "not")) (ba (ba m).2).2 (List.mem_singleton.mpr rfl)
  exact ⟨_, es, n, u, glo_ok X G (c.d.fact 49 rfl), D, h1, h2⟩
theorem tx_of (X : K.In h) (G : h.Ns mainGlobals mg) (c : SaysX fa fn ts [] moreB w h K) : Tx K mg w (ga K "Program") (ga K "Mixed") (ga K "Notring") where
  n_isinstance := free_ok X G (c.t.d.fact 0 rfl)
  n_tuple := free_ok X G (c.t.d.fact 1 rfl)
  n_str := free_ok X G (c.t.d.fact 2 rfl)
  n_len := free_ok X G (c.t.d.fact 3 rfl)
  n_zip := free_ok X G (c.t.d.fact 4 rfl)
  n_all := free_ok X G (c.t.d.fact 5 rfl)
  n_enumerate := free_ok X G (c.t.d.fact 6 rfl)
  n_any := free_ok X G (c.t.d.fact 7 rfl)
  n_sorted := free_ok X G (c.t.d.fact 8 rfl)
  n_int := free_ok X G (c.t.d.fact 9 rfl)
  n_list := free_ok X G (c.t.d.fact 10 rfl)
  n_range := free_ok X G (c.t.d.fact 11 rfl)
  n_max := free_ok X G (c.t.d.fact 12 rfl)
  n_bool := free_ok X G (c.t.d.fact 13 rfl)
  cls := cls_ok (c.t.d.fact 50 rfl)
  gC := glo_ok X G (c.t.d.fact 46 rfl)
  init := x_init c.t.d
  a_bodies := noat_ok (c.t.d.fact 52 rfl)
  a_by_title := noat_ok (c.t.d.fact 53 rfl)
  a_by_modes := noat_ok (c.t.d.fact 54 rfl)
  a_marked := noat_ok (c.t.d.fact 55 rfl)
  a_plans := noat_ok (c.t.d.fact 56 rfl)
  a_reach := noat_ok (c.t.d.fact 57 rfl)
  a_heights := noat_ok (c.t.d.fact 58 rfl)
  eM := x_mixed X G c.t.d c.more
  eN := x_notring X G c.t.d c.more
  mm := exm_ok (c.t.d.fact 66 rfl)
  nm := exm_ok (c.t.d.fact 67 rfl)
  nn := exm_ok (c.t.d.fact 68 rfl)
  kinds := x_kinds X G c.t c.more
  d_kind_of := x_kind_of X G c.t.d
  d_asked_of := x_asked_of X G c.t.d
  d_is_unknown := x_is_unknown X G c.t.d
  d_gather := x_gather X G c.t.d
  d_unknowns_of := x_unknowns_of X G c.t.d
  d_title_of := x_title_of X G c.t.d
  d_places_of := x_places_of X G c.t.d
  d_known_places := x_known_places X G c.t.d
  d_told_places := x_told_places X G c.t.d
  d_all_known := x_all_known X G c.t.d
  d_learn_all := x_learn_all X G c.t.d
  d_first_mode := x_first_mode X G c.t.d
  d_word_at := x_word_at X G c.t.d
  d_stray_own := x_stray_own X G c.t.d
  d_held_in := x_held_in X G c.t.d
  d_look_modes := x_look_modes X G c.t.d
  d_look_known := x_look_known X G c.t.d
  d_rings_at := x_rings_at X G c.t.d
  d_look_rings := x_look_rings X G c.t.d
  d_reached_from := x_reached_from X G c.t.d
  d_links_of := x_links_of X G c.t.d
  d_heights_of := x_heights_of X G c.t.d
  d_law_draw := x_law_draw X G c.t.d
  d_law_text := x_law_text X G c.t.d
  d_law_whole := x_law_whole X G c.t.d
  d_law_graph := x_law_graph X G c.t.d
  d_law_links := x_law_links X G c.t.d
  d_law_reach := x_law_reach X G c.t.d
  d_law_layers := x_law_layers X G c.t.d
  d_law_due := x_law_due X G c.t.d
  d_law_try := x_law_try X G c.t.d
  d_law := x_law X G c.t.d
  m_lay := xm_lay c.t.d
  m_enter := xm_enter c.t.d
  m_titles := xm_titles c.t.d
  m_modes := xm_modes c.t.d
  m_is_tabled := xm_is_tabled c.t.d
  m_comes_to := xm_comes_to c.t.d
  m_layer := xm_layer c.t.d
end
end G3

namespace G3
open PySem PySem.Spec PyProof.Rows L2 He
theorem law_facts {P : Program} {w : World} {K : PySem.W.Frag} {h : Heap} {mg : Str → Option Value} {f : Addr} (X : K.In h) (G : h.Ns mainGlobals mg) (hfa : mg ("law" : Str) = some (.ref f)) (c : SaysX fa fn ts [] moreB w h K) :
    ∃ fd : FuncData, (∀ (s : Shared) (v : Value), BindsTo s fd ⟨[v], []⟩ [("_law_script", v)]) ∧ ∀ base : Heap, K.In base → base.Ns mainGlobals mg → FnOk P w K mg base CX0 12 f fd ["_law_script"] (spLaw K) := by
  have T := tx_of X G c
  obtain ⟨fd, F⟩ := c.t.d.defs (d := dF "law" s_law) (List.mem_iff_getElem?.mpr ⟨31, rfl⟩)
  have e := hfa.symm.trans (glo_ok (x := "law") X G (c.t.d.facts (f := .glo "law") (List.mem_iff_getElem?.mpr ⟨45, rfl⟩)))
  cases e
  have b := FunD.bindsA (ps := ["_law_script"]) F fun _ _ _ _ _ _ us hl => match us, hl with | [_], _ => rfl
  exact ⟨fd, fun s v => b s [v] rfl, fun base _ _ => law_fn T F⟩
end G3
open PySem PySem.W PySem.Calls PyProof.Rows
theorem PySem.Challenge.cw_goalstead_k25_whole_rings_and_layers_holds : PySem.Challenge.rw_goalstead_k25_whole_rings_and_layers.Holds := by
  w_on; o_law
  refine HandSHeadRun.head_any (r := OpenLaw.row PySem.Challenge.rw_goalstead_k25_whole_rings_and_layers) (q := view (OpenLaw.row PySem.Challenge.rw_goalstead_k25_whole_rings_and_layers).prog [52]) (H := G3.hk) (ob := G3.ob) (M := 6000) (loose := G3.loose) (d := HandSHeadRun.topDef (OpenLaw.row PySem.Challenge.rw_goalstead_k25_whole_rings_and_layers).prog 52) (kwd := []) G3.ob_eq
    (by kernel_rfl) (fun s => by kernel_rfl) G3.run (by kernel_rfl) (by kernel_rfl) (by kernel_rfl) (by rfl) (by first | assumption | decide +kernel) (by decide +kernel) ⟨rfl, rfl, rfl, rfl, rfl, by decide +kernel⟩ ?hw ?hc
  case hw => w_witness2
  case hc =>
    refine L2.walk_ofE (l := PySem.Challenge.rw_goalstead_k25_whole_rings_and_layers) (n := 63) (k := 12) (x := "_law_script") (CX := L2.CX0) rfl (by decide) (by kernel_rfl) ⟨rfl, by decide, by decide⟩ ?F (fun _ _ _ _ z => z)
    intro w mg fa h Y G hmg0
    obtain ⟨K, KX, c⟩ := Y
    have hmg : mg ("law" : PySem.Str) = some (.ref fa) := by
      have e : (HandSHeadRun.topDef (OpenLaw.row PySem.Challenge.rw_goalstead_k25_whole_rings_and_layers).prog 52).name = ("law" : PySem.Str) := by kernel_rfl
      rw [← e]
      exact hmg0
    obtain ⟨fd, hb, hF⟩ := G3.law_facts (P := (PySem.Challenge.rw_goalstead_k25_whole_rings_and_layers).prog) (w := w) KX G hmg c
    exact ⟨K, fd, G3.spLaw K, KX, hb, fun H a ns hl _ hS => ⟨a, ns, rfl, hS, hl, fun _ => rfl⟩, hF⟩
